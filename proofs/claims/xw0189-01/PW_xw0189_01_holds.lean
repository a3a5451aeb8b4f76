import PyProof.Rows.All
import OpenK.KLine
import KE.KNest
import KE.KPar
import KE.KNestM
import KE.KRevSl
import KE.KDictList
import KE.KLam
import KE.KStateDown
import PySem.Challenge.RW_xw0189_01
set_option Elab.async false
set_option linter.all false
set_option maxRecDepth 100000
set_option genSizeOf false
set_option genCtorIdx false
set_option bootstrap.genMatcherCode false
set_option genInjectivity false
set_option compiler.extract_closed false
set_option synthInstance.maxSize 1000
namespace Mine.Internal
open And renaming left→qy
open Array renaming getElem?_setIfInBounds_self_of_lt→Qy,getElem?_eq_some_iff→Qz,getElem?_eq_getElem→QA
open Bool renaming true→ae,false→aj,casesOn→bJ,and_eq_true_iff→cj,rec→fc,or_eq_true_iff→gB,noConfusion→jO,false_eq_true→nT,not_eq_true' →zV,and_true→zW
open Classical renaming em→cx,byContradiction→fy,choice→gU
open Decidable renaming decide→aO
open Eq renaming symm→bo
open Except renaming casesOn→Gz
open ForInStep renaming yield→l9,done→Gy
open Function renaming comp_def→Gx
open Inhabited renaming default→gT
open Int renaming ofNat_lt→kT,fmod_eq_emod_of_nonneg→l8,eq_ofNat_of_zero_le→qx,le_trans→tQ,le_of_lt→tR,emod_nonneg→tS,emod_lt_of_pos→tT,lt_of_le_of_lt→zU
open Int.ofNat renaming inj→zT
open LawfulBEq renaming eq_of_beq→bU
open List renaming rec→bc,mem_cons→bf,casesOn→br,replicate→bA,length_map→bT,map_cons→bX,not_mem_nil→bZ,mem_map→cR,size_toArray→dz,all_eq_true→dA,lookup→dJ,nodup_cons→dY,mem_cons_of_mem→dZ,lookup_cons→ey,map_nil→eG,mem_append_right→iz,append_assoc→iA,mem_singleton→jd,mem_append→je,getElem?_map→jf,map_append→jM,getElem?_eq_some_iff→jN,mem_of_getElem?→kR,map_map→kS,mem_append_left→l5,length_cons→l6,getElem?_eq_getElem→l7,nodup_append→nR,append_nil→nS,length_append→qw,range→tK,nil_append→tL,map→tM,foldl→tN,filter_cons_of_pos→tO,filter_cons_of_neg→tP,of_mem_zip→zK,nodup_nil→zL,mem_reverse→zM,mem_filter→zN,map_reverse→zO,length_set→zP,getD_eq_getElem?_getD→zQ,forIn_cons→zR,eq_nil_of_length_eq_zero→zS,perm_middle→Gk,pairwise_mergeSort→Gl,pairwise_cons→Gm,mergeSort_perm→Gn,mem_map_of_mem→Go,map_fst_zip→Gp,map_congr_left→Gq,length_range→Gr,getElem_mem→Gs,getElem?_toArray→Gu,append_toArray→Gv,perm_append_comm_assoc→Qw,drop_eq_getElem_cons→Qx
open List.Perm renaming refl→Gw
open Min renaming min→bC
open Nat renaming le_trans→aW,beq→cI,le_of_eq→cN,lt_of_le_of_lt→fL,le_refl→f8,zero_le→gy,le_of_ble_eq_true→gz,eq_of_beq_eq_true→gA,ne_of_lt→iu,le_of_lt→iw,add_le_add_left→iy,ble→jc,lt_irrefl→jK,le_add_right→jL,rec→kO,blt→kQ,le_succ→nP,succ_le_succ→qs,not_lt→qt,casesOn→qu,add_assoc→qv,add_le_add_right→tJ,zero_add→zG,ne_of_beq_eq_false→zI,add_comm→zJ,sub_succ_lt_self→Gd,not_lt_zero→Ge,min_le_right→Gf,lt_of_lt_of_eq→Gg,le_succ_of_le→Gi,add_right_comm→Gj
open Nat.succ renaming inj→zH
open Ne renaming symm→dx
open Option renaming some→aa,none→ah,casesOn→a9,isSome→gS,map_eq_some_iff→tI
open Option.some renaming inj→aI,injEq→Gc
open Or renaming elim→bW
open Prod renaming fst→nN
open Prod.mk renaming injEq→tH
open Pure renaming pure→a8
open PyProof.Rows renaming subscriptTail→f7,tail_any→kN,Call_Name→nM,slot_tuple_getitem→zF
open PySem renaming Addr→ag,Value→ai,Str→ak,Expr→ar,wpAny→au,model→av,Shared→aw,Heap→ay,wpAny_bind→az,Obj→aC,Around→aD,Env→aH,World→aJ,Program→aK,Pos→aN,wpAny_pure→aR,call→aV,eval→a7,Stmt→bh,PyData→bk,mainGlobals→bp,starEach→bw,compareOp→bB,Sem→bI,wpAny_holding→cC,Scope→cG,backTo→cQ,wpAny_mono→dh,intKind→dI,standAt→dW,NameKind→dX,nsFind→ew,sizeLine→eX,rawInt→eY,setItem→fu,notedBy→fv,holding→fw,wpAny_standAt→fG,BoolOp→fK,pyIter→fX,FuncData→fZ,codeAny→gr,binaryOp→gu,assignEach→gv,Arguments→gR,foldedSetIterable→ie,cLine→ig,assign→ij,Comprehension→ir,strKind→iY,relabel→iZ,getMethod→i5,getItem→i6,attributeBase→i7,StrKeys→i9,KeyKind→ja,wpAny_field→jD,wpAny_execs_cons→jE,swappedStores→jF,keywordEach→jG,backToKw→jH,Result→jI,wpAny_loadPart_at→kB,wpAny_call→kD,intKind_is→kF,codeAmong→kH,TriplesOk→kI,IsPart→kJ,DictEntry→kM,swapsWith→lV,eqIsQuiet→lW,cameBackBy→lX,builtinsNs→lY,wpAny_newObj_type→nB,subscripted→nD,spliced→nE,operate→nF,noteFrame→nG,excClassObj→nH,call_meets→nI,callWith→nJ,bootBuiltins→nK,wpAny_of_eq→ql,sizeLine_eq→qm,Operator→qp,GenState→qr,wpAny_isSubtype_exc→tl,unpackItems→tm,strKind_is→tq,frameOf→tu,foldedForSure→tv,constantsAlone→tw,wpAny_truthy_bool→zj,wpAny_loadName_local →zk,wpAny_Expr_any→zl,wpAny_Constant_int→zm,slot_list_getitem→zn,letOwnedTupleGo→zo,comprehension→zp,checkBuiltinCall→zq,assignInOrder→zr,wpAny_storeName_local →FV,wpAny_pyIter_list→FW,wpAny_Return_some→FX,wpAny_Constant_str→FY,slot_dict_getitem→F1,plainObj_wpAny_Assign_Attribute→F2,evalPart_none_step→F3,codeAny_call_builtin→F4
open PySem.Around renaming frames_deeper→tG
open PySem.AutoListH renaming list___mul___list_int_3→Qv
open PySem.BoolOp renaming casesOn→zE
open PySem.Builtin.Int renaming intBits→zD
open PySem.Builtin.List renaming listTooLong→zC,listFitsIndex→Gb
open PySem.Builtin.Slice renaming slicePlaces→Ga
open PySem.Builtin.Tuple renaming tupleHashOf→zB
open PySem.Calls renaming evalArgs_plain→tF,Name_function_global→zA
open PySem.Data renaming noConfusion→jJ
open PySem.Expr renaming casesOn→l3
open PySem.F renaming slot_dict_pop→tD,excBase_Exception→tE,slot_int_rmul→zy,slot_list_extend→F8,entry_dict_pop→F9,entry_list_extend→Qt,args_list_extend_2→Qu
open PySem.FuncBody.stmts renaming elim→tC
open PySem.Heap renaming get?_push_of_some→bM,lt_size→eZ,ExtBut→gx,get?_push_size→gQ,SameBut→iq,get?_update_self→jb,get?_update_other→kK,get?_none_of_le→F6
open PySem.Heap.IsList renaming typeIs→F7
open PySem.Heap.SameBut renaming update→zx
open PySem.NameKind renaming free→gw,noConfusion→zv,cell→zw
open PySem.Obj renaming mapSeq→lZ,data→qq,putName_eq→zs,putNameByArray→zt,data_mapFields→zu
open PySem.PyData renaming eqv→aZ,eqvAll→fY
open PySem.Str renaming ofString→aq
open PySem.Value renaming ref→nL,isInt_shape→F5
open PySem.W renaming Frag→aY,nsIn→bG,keepIn→eF,findIn→fJ,instObj→io,methodCall_KW→qn,callWith_of→tz,callWith_K→tA
open PySem.W.Looks renaming here→qo
open Sum.inr renaming inj→tj
section
open PySem PySem.W PyProof.Rows PySem.Calls PySem.SeqAt
theorem aG{O:Type}{x:O}{P:Prop}(h:ah=aa x):P:=Option.noConfusion rfl (heq_of_eq h)
theorem qS{O:Type}{x:O}{P:Prop}(h:aa x=ah):P:=aG h.symm
theorem Aa{P:Prop}(h:ae=aj):P:=jO h
theorem aF{P:Prop}(h:aj=ae):P:=jO h
@[elab_as_elim] theorem qE{O:Type}{a b:O}{P:O→Prop}(h:a=b)(c:P a):P b:=h▸c
@[elab_as_elim] theorem qF{O:Type}{a b:O}{P:O→Prop}(h:a=b)(c:P b):P a:=h▸c
@[elab_as_elim] theorem oE{O:Type}{a b:O}{P:O→Prop}(h:aa a=aa b)(c:P a):P b:=aI h▸c
@[elab_as_elim] theorem oF{O:Type}{a b:O}{P:O→Prop}(h:aa a=aa b)(c:P b):P a:=aI h▸c
theorem bu{m F:Prop}{C:Prop}(h:m∧F)(k:m→F→C):C:=k h.1 h.2
theorem bb{m F W:Prop}{C:Prop}(h:m∧F∧W)(k:m→F→W→C):C:=k h.1 h.2.1 h.2.2
theorem qz{m F W o:Prop}{C:Prop}(h:m∧F∧W∧o)(k:m→F→W→o→C):C:=k h.1 h.2.1 h.2.2.1 h.2.2.2
theorem GK{m F W o R:Prop}{C:Prop}(h:m∧F∧W∧o∧R)(k:m→F→W→o→R→C):C:=k h.1 h.2.1 h.2.2.1 h.2.2.2.1 h.2.2.2.2
theorem nY{m F W o R E:Prop}{C:Prop}(h:m∧F∧W∧o∧R∧E)(k:m→F→W→o→R→E→C):C:=k h.1 h.2.1 h.2.2.1 h.2.2.2.1 h.2.2.2.2.1 h.2.2.2.2.2
theorem GJ{m F W o R E Z:Prop}{C:Prop}(h:m∧F∧W∧o∧R∧E∧Z)(k:m→F→W→o→R→E→Z→C):C:=k h.1 h.2.1 h.2.2.1 h.2.2.2.1 h.2.2.2.2.1 h.2.2.2.2.2.1 h.2.2.2.2.2.2
theorem aE{i:Type}{m:i→Prop}{C:Prop}(h:∃a,m a)(k:∀a,m a→C):C:=h.elim k
theorem aB{i:Type}{m F:i→Prop}{C:Prop}(h:∃a,m a∧F a)(k:∀a,m a→F a→C):C:=h.elim λa h=>bu h (k a)
theorem bH{i:Type}{m F W:i→Prop}{C:Prop}(h:∃a,m a∧F a∧W a)(k:∀a,m a→F a→W a→C):C:=h.elim λa h=>bb h (k a)
theorem gV{i:Type}{m F W o:i→Prop}{C:Prop}(h:∃a,m a∧F a∧W a∧o a)(k:∀a,m a→F a→W a→o a→C):C:=h.elim λa h=>qz h (k a)
theorem GI{i:Type}{m F W o R:i→Prop}{C:Prop}(h:∃a,m a∧F a∧W a∧o a∧R a)(k:∀a,m a→F a→W a→o a→R a→C):C:=h.elim λa h=>GK h (k a)
theorem GH{i:Type}{m F W o R E:i→Prop}{C:Prop}(h:∃a,m a∧F a∧W a∧o a∧R a∧E a)(k:∀a,m a→F a→W a→o a→R a→E a→C):C:=h.elim λa h=>nY h (k a)
theorem QE{i:Type}{m F W o R E Z:i→Prop}{C:Prop}(h:∃a,m a∧F a∧W a∧o a∧R a∧E a∧Z a)(k:∀a,m a→F a→W a→o a→R a→E a→Z a→C):C:=h.elim λa h=>GJ h (k a)
theorem nX{i:Type}{f:Type}{m:i→f→Prop}{C:Prop}(h:∃a,∃b,m a b)(k:∀a b,m a b→C):C:=h.elim λa h=>aE h (k a)
theorem dO{i:Type}{f:Type}{m F:i→f→Prop}{C:Prop}(h:∃a,∃b,m a b∧F a b)(k:∀a b,m a b→F a b→C):C:=h.elim λa h=>aB h (k a)
theorem dj{i:Type}{f:Type}{m F W:i→f→Prop}{C:Prop}(h:∃a,∃b,m a b∧F a b∧W a b)(k:∀a b,m a b→F a b→W a b→C):C:=h.elim λa h=>bH h (k a)
theorem nW{i:Type}{f:Type}{m F W o:i→f→Prop}{C:Prop}(h:∃a,∃b,m a b∧F a b∧W a b∧o a b)(k:∀a b,m a b→F a b→W a b→o a b→C):C:=h.elim λa h=>gV h (k a)
theorem f9{i:Type}{f:Type}{m F W o R:i→f→Prop}{C:Prop}(h:∃a,∃b,m a b∧F a b∧W a b∧o a b∧R a b)(k:∀a b,m a b→F a b→W a b→o a b→R a b→C):C:=h.elim λa h=>GI h (k a)
theorem z4{i:Type}{f:Type}{m F W o R E:i→f→Prop}{C:Prop}(h:∃a,∃b,m a b∧F a b∧W a b∧o a b∧R a b∧E a b)(k:∀a b,m a b→F a b→W a b→o a b→R a b→E a b→C):C:=h.elim λa h=>GH h (k a)
theorem tU{i:Type}{f:Type}{g:Type}{m:i→f→g→Prop}{C:Prop}(h:∃a,∃b,∃c,m a b c)(k:∀a b c,m a b c→C):C:=h.elim λa h=>nX h (k a)
theorem nV{i:Type}{f:Type}{g:Type}{m F:i→f→g→Prop}{C:Prop}(h:∃a,∃b,∃c,m a b c∧F a b c)(k:∀a b c,m a b c→F a b c→C):C:=h.elim λa h=>dO h (k a)
theorem zZ{i:Type}{f:Type}{g:Type}{m F W:i→f→g→Prop}{C:Prop}(h:∃a,∃b,∃c,m a b c∧F a b c∧W a b c)(k:∀a b c,m a b c→F a b c→W a b c→C):C:=h.elim λa h=>dj h (k a)
theorem eH{i:Type}{f:Type}{g:Type}{m F W o:i→f→g→Prop}{C:Prop}(h:∃a,∃b,∃c,m a b c∧F a b c∧W a b c∧o a b c)(k:∀a b c,m a b c→F a b c→W a b c→o a b c→C):C:=h.elim λa h=>nW h (k a)
theorem GG{i:Type}{f:Type}{g:Type}{m F W o R:i→f→g→Prop}{C:Prop}(h:∃a,∃b,∃c,m a b c∧F a b c∧W a b c∧o a b c∧R a b c)(k:∀a b c,m a b c→F a b c→W a b c→o a b c→R a b c→C):C:=h.elim λa h=>f9 h (k a)
theorem zY{i:Type}{f:Type}{g:Type}{m F W o R E:i→f→g→Prop}{C:Prop}(h:∃a,∃b,∃c,m a b c∧F a b c∧W a b c∧o a b c∧R a b c∧E a b c)(k:∀a b c,m a b c→F a b c→W a b c→o a b c→R a b c→E a b c→C):C:=h.elim λa h=>z4 h (k a)
theorem kU{i:Type}{f:Type}{g:Type}{j:Type}{m:i→f→g→j→Prop}{C:Prop}(h:∃a,∃b,∃c,∃d,m a b c d)(k:∀a b c d,m a b c d→C):C:=h.elim λa h=>tU h (k a)
theorem QD{i:Type}{f:Type}{g:Type}{j:Type}{m F:i→f→g→j→Prop}{C:Prop}(h:∃a,∃b,∃c,∃d,m a b c d∧F a b c d)(k:∀a b c d,m a b c d→F a b c d→C):C:=h.elim λa h=>nV h (k a)
theorem GF{i:Type}{f:Type}{g:Type}{j:Type}{m F W:i→f→g→j→Prop}{C:Prop}(h:∃a,∃b,∃c,∃d,m a b c d∧F a b c d∧W a b c d)(k:∀a b c d,m a b c d→F a b c d→W a b c d→C):C:=h.elim λa h=>zZ h (k a)
theorem GE{i:Type}{f:Type}{g:Type}{j:Type}{m F W o:i→f→g→j→Prop}{C:Prop}(h:∃a,∃b,∃c,∃d,m a b c d∧F a b c d∧W a b c d∧o a b c d)(k:∀a b c d,m a b c d→F a b c d→W a b c d→o a b c d→C):C:=h.elim λa h=>eH h (k a)
theorem GD{i:Type}{f:Type}{g:Type}{j:Type}{m F W o R:i→f→g→j→Prop}{C:Prop}(h:∃a,∃b,∃c,∃d,m a b c d∧F a b c d∧W a b c d∧o a b c d∧R a b c d)(k:∀a b c d,m a b c d→F a b c d→W a b c d→o a b c d→R a b c d→C):C:=h.elim λa h=>GG h (k a)
theorem GC{i:Type}{f:Type}{g:Type}{j:Type}{l:Type}{m:i→f→g→j→l→Prop}{C:Prop}(h:∃a,∃b,∃c,∃d,∃e,m a b c d e)(k:∀a b c d e,m a b c d e→C):C:=h.elim λa h=>kU h (k a)
end
section
open PySem
noncomputable def eK{w:Type} [i:Nonempty w](p:w→Prop):w:=Classical.epsilon λt=>¬p t
theorem cK{w:Type} [i:Nonempty w]{p:w→Prop}(h:p (eK p))(t:w):p t:=fy λn=> @Classical.epsilon_spec w (λx=>¬p x) ⟨t,n⟩ h
instance:Nonempty Params:=⟨{strHash:=λ_=>0,shareClass:=λ_=>0,mergeTok:=id,idOf:=λ_=>0,idOfShared:=λ_ _=>0,followText:=λ_=>ae,idOfImm:=λ_=>0}⟩
instance:Nonempty aw:=⟨{}⟩
instance:Nonempty aD:=⟨{}⟩
instance:Nonempty aJ:=⟨⟨λ_ _=>0,gU inferInstance⟩⟩
instance:Nonempty Drawn:=⟨by constructor<;>exact gU inferInstance⟩
instance:Nonempty bk:=⟨.none⟩
instance:Nonempty W.OpenLaw:=⟨by constructor<;>exact gU inferInstance⟩
instance:Nonempty gR:=⟨by constructor<;>exact gU inferInstance⟩
instance:Nonempty DefRec:=⟨by constructor<;>exact gU inferInstance⟩
instance:Nonempty ar:=⟨by constructor<;>exact gU inferInstance⟩
instance:Nonempty Model:=⟨by constructor<;>exact gU inferInstance⟩
noncomputable def e0{w i:Type}(t:(w×i)):i:=t.2
noncomputable def e1{w i f:Type}(t:((w×i)×f)):i:=t.1.2
noncomputable def e2{w i f g:Type}(t:(((w×i)×f)×g)):i:=t.1.1.2
noncomputable def e3{w i f g j:Type}(t:((((w×i)×f)×g)×j)):i:=t.1.1.1.2
noncomputable def e4{w i f g j l:Type}(t:(((((w×i)×f)×g)×j)×l)):i:=t.1.1.1.1.2
noncomputable def e5{w i f g j l a:Type}(t:((((((w×i)×f)×g)×j)×l)×a)):i:=t.1.1.1.1.1.2
noncomputable def e6{w i f g j l a b:Type}(t:(((((((w×i)×f)×g)×j)×l)×a)×b)):i:=t.1.1.1.1.1.1.2
noncomputable def e7{w i f g j l a b c:Type}(t:((((((((w×i)×f)×g)×j)×l)×a)×b)×c)):i:=t.1.1.1.1.1.1.1.2
noncomputable def e8{w i f g j l a b c k:Type}(t:(((((((((w×i)×f)×g)×j)×l)×a)×b)×c)×k)):i:=t.1.1.1.1.1.1.1.1.2
noncomputable def e9{w i f g j l a b c k n:Type}(t:((((((((((w×i)×f)×g)×j)×l)×a)×b)×c)×k)×n)):i:=t.1.1.1.1.1.1.1.1.1.2
noncomputable def aL{w i f g j l a b c k n m:Type}(t:(((((((((((w×i)×f)×g)×j)×l)×a)×b)×c)×k)×n)×m)):i:=t.1.1.1.1.1.1.1.1.1.1.2
noncomputable def aT{w i f g j l a b c k n m o:Type}(t:((((((((((((w×i)×f)×g)×j)×l)×a)×b)×c)×k)×n)×m)×o)):i:=t.1.1.1.1.1.1.1.1.1.1.1.2
noncomputable def Ml{f:Type} [i:Nonempty (Unit×f)](p:f→Prop):(Unit×f):=eK λt=>p (e0 t)
theorem aP{f:Type} [i:Nonempty (Unit×f)]{p:f→Prop}(h:p (e0 (Ml p))):∀O,p O:=λO=>cK (p:=λt=>p (e0 t)) h ((),O)
noncomputable def DK{f g:Type} [i:Nonempty ((Unit×f)×g)](p:f→g→Prop):((Unit×f)×g):=eK λt=>p (e1 t) (e0 t)
theorem bF{f g:Type} [i:Nonempty ((Unit×f)×g)]{p:f→g→Prop}(h:p (e1 (DK p)) (e0 (DK p))):∀O W,p O W:=λO W=>cK (p:=λt=>p (e1 t) (e0 t)) h (((),O),W)
noncomputable def yu{f g j:Type} [i:Nonempty (((Unit×f)×g)×j)](p:f→g→j→Prop):(((Unit×f)×g)×j):=eK λt=>p (e2 t) (e1 t) (e0 t)
theorem bY{f g j:Type} [i:Nonempty (((Unit×f)×g)×j)]{p:f→g→j→Prop}(h:p (e2 (yu p)) (e1 (yu p)) (e0 (yu p))):∀O W e,p O W e:=λO W e=>cK (p:=λt=>p (e2 t) (e1 t) (e0 t)) h ((((),O),W),e)
noncomputable def sv{f g j l:Type} [i:Nonempty ((((Unit×f)×g)×j)×l)](p:f→g→j→l→Prop):((((Unit×f)×g)×j)×l):=eK λt=>p (e3 t) (e2 t) (e1 t) (e0 t)
theorem dM{f g j l:Type} [i:Nonempty ((((Unit×f)×g)×j)×l)]{p:f→g→j→l→Prop}(h:p (e3 (sv p)) (e2 (sv p)) (e1 (sv p)) (e0 (sv p))):∀O W e q,p O W e q:=λO W e q=>cK (p:=λt=>p (e3 t) (e2 t) (e1 t) (e0 t)) h (((((),O),W),e),q)
noncomputable def pE{f g j l a:Type} [i:Nonempty (((((Unit×f)×g)×j)×l)×a)](p:f→g→j→l→a→Prop):(((((Unit×f)×g)×j)×l)×a):=eK λt=>p (e4 t) (e3 t) (e2 t) (e1 t) (e0 t)
theorem eE{f g j l a:Type} [i:Nonempty (((((Unit×f)×g)×j)×l)×a)]{p:f→g→j→l→a→Prop}(h:p (e4 (pE p)) (e3 (pE p)) (e2 (pE p)) (e1 (pE p)) (e0 (pE p))):∀O W e q r,p O W e q r:=λO W e q r=>cK (p:=λt=>p (e4 t) (e3 t) (e2 t) (e1 t) (e0 t)) h ((((((),O),W),e),q),r)
noncomputable def mU{f g j l a b:Type} [i:Nonempty ((((((Unit×f)×g)×j)×l)×a)×b)](p:f→g→j→l→a→b→Prop):((((((Unit×f)×g)×j)×l)×a)×b):=eK λt=>p (e5 t) (e4 t) (e3 t) (e2 t) (e1 t) (e0 t)
theorem ch{f g j l a b:Type} [i:Nonempty ((((((Unit×f)×g)×j)×l)×a)×b)]{p:f→g→j→l→a→b→Prop}(h:p (e5 (mU p)) (e4 (mU p)) (e3 (mU p)) (e2 (mU p)) (e1 (mU p)) (e0 (mU p))):∀O W e q r s,p O W e q r s:=λO W e q r s=>cK (p:=λt=>p (e5 t) (e4 t) (e3 t) (e2 t) (e1 t) (e0 t)) h (((((((),O),W),e),q),r),s)
noncomputable def lI{f g j l a b c:Type} [i:Nonempty (((((((Unit×f)×g)×j)×l)×a)×b)×c)](p:f→g→j→l→a→b→c→Prop):(((((((Unit×f)×g)×j)×l)×a)×b)×c):=eK λt=>p (e6 t) (e5 t) (e4 t) (e3 t) (e2 t) (e1 t) (e0 t)
theorem dQ{f g j l a b c:Type} [i:Nonempty (((((((Unit×f)×g)×j)×l)×a)×b)×c)]{p:f→g→j→l→a→b→c→Prop}(h:p (e6 (lI p)) (e5 (lI p)) (e4 (lI p)) (e3 (lI p)) (e2 (lI p)) (e1 (lI p)) (e0 (lI p))):∀O W e q r s u,p O W e q r s u:=λO W e q r s u=>cK (p:=λt=>p (e6 t) (e5 t) (e4 t) (e3 t) (e2 t) (e1 t) (e0 t)) h ((((((((),O),W),e),q),r),s),u)
noncomputable def j4{f g j l a b c k:Type} [i:Nonempty ((((((((Unit×f)×g)×j)×l)×a)×b)×c)×k)](p:f→g→j→l→a→b→c→k→Prop):((((((((Unit×f)×g)×j)×l)×a)×b)×c)×k):=eK λt=>p (e7 t) (e6 t) (e5 t) (e4 t) (e3 t) (e2 t) (e1 t) (e0 t)
theorem jy{f g j l a b c k:Type} [i:Nonempty ((((((((Unit×f)×g)×j)×l)×a)×b)×c)×k)]{p:f→g→j→l→a→b→c→k→Prop}(h:p (e7 (j4 p)) (e6 (j4 p)) (e5 (j4 p)) (e4 (j4 p)) (e3 (j4 p)) (e2 (j4 p)) (e1 (j4 p)) (e0 (j4 p))):∀O W e q r s u v,p O W e q r s u v:=λO W e q r s u v=>cK (p:=λt=>p (e7 t) (e6 t) (e5 t) (e4 t) (e3 t) (e2 t) (e1 t) (e0 t)) h (((((((((),O),W),e),q),r),s),u),v)
noncomputable def jv{f g j l a b c k n:Type} [i:Nonempty (((((((((Unit×f)×g)×j)×l)×a)×b)×c)×k)×n)](p:f→g→j→l→a→b→c→k→n→Prop):(((((((((Unit×f)×g)×j)×l)×a)×b)×c)×k)×n):=eK λt=>p (e8 t) (e7 t) (e6 t) (e5 t) (e4 t) (e3 t) (e2 t) (e1 t) (e0 t)
theorem j7{f g j l a b c k n:Type} [i:Nonempty (((((((((Unit×f)×g)×j)×l)×a)×b)×c)×k)×n)]{p:f→g→j→l→a→b→c→k→n→Prop}(h:p (e8 (jv p)) (e7 (jv p)) (e6 (jv p)) (e5 (jv p)) (e4 (jv p)) (e3 (jv p)) (e2 (jv p)) (e1 (jv p)) (e0 (jv p))):∀O W e q r s u v x,p O W e q r s u v x:=λO W e q r s u v x=>cK (p:=λt=>p (e8 t) (e7 t) (e6 t) (e5 t) (e4 t) (e3 t) (e2 t) (e1 t) (e0 t)) h ((((((((((),O),W),e),q),r),s),u),v),x)
noncomputable def iQ{f g j l a b c k n m:Type} [i:Nonempty ((((((((((Unit×f)×g)×j)×l)×a)×b)×c)×k)×n)×m)](p:f→g→j→l→a→b→c→k→n→m→Prop):((((((((((Unit×f)×g)×j)×l)×a)×b)×c)×k)×n)×m):=eK λt=>p (e9 t) (e8 t) (e7 t) (e6 t) (e5 t) (e4 t) (e3 t) (e2 t) (e1 t) (e0 t)
theorem fD{f g j l a b c k n m:Type} [i:Nonempty ((((((((((Unit×f)×g)×j)×l)×a)×b)×c)×k)×n)×m)]{p:f→g→j→l→a→b→c→k→n→m→Prop}(h:p (e9 (iQ p)) (e8 (iQ p)) (e7 (iQ p)) (e6 (iQ p)) (e5 (iQ p)) (e4 (iQ p)) (e3 (iQ p)) (e2 (iQ p)) (e1 (iQ p)) (e0 (iQ p))):∀O W e q r s u v x w,p O W e q r s u v x w:=λO W e q r s u v x w=>cK (p:=λt=>p (e9 t) (e8 t) (e7 t) (e6 t) (e5 t) (e4 t) (e3 t) (e2 t) (e1 t) (e0 t)) h (((((((((((),O),W),e),q),r),s),u),v),x),w)
noncomputable def hW{f g j l a b c k n m o:Type} [i:Nonempty (((((((((((Unit×f)×g)×j)×l)×a)×b)×c)×k)×n)×m)×o)](p:f→g→j→l→a→b→c→k→n→m→o→Prop):(((((((((((Unit×f)×g)×j)×l)×a)×b)×c)×k)×n)×m)×o):=eK λt=>p (aL t) (e9 t) (e8 t) (e7 t) (e6 t) (e5 t) (e4 t) (e3 t) (e2 t) (e1 t) (e0 t)
theorem et{f g j l a b c k n m o:Type} [i:Nonempty (((((((((((Unit×f)×g)×j)×l)×a)×b)×c)×k)×n)×m)×o)]{p:f→g→j→l→a→b→c→k→n→m→o→Prop}(h:p (aL (hW p)) (e9 (hW p)) (e8 (hW p)) (e7 (hW p)) (e6 (hW p)) (e5 (hW p)) (e4 (hW p)) (e3 (hW p)) (e2 (hW p)) (e1 (hW p)) (e0 (hW p))):∀O W e q r s u v x w z,p O W e q r s u v x w z:=λO W e q r s u v x w z=>cK (p:=λt=>p (aL t) (e9 t) (e8 t) (e7 t) (e6 t) (e5 t) (e4 t) (e3 t) (e2 t) (e1 t) (e0 t)) h ((((((((((((),O),W),e),q),r),s),u),v),x),w),z)
noncomputable def gK{f g j l a b c k n m o y:Type} [i:Nonempty ((((((((((((Unit×f)×g)×j)×l)×a)×b)×c)×k)×n)×m)×o)×y)](p:f→g→j→l→a→b→c→k→n→m→o→y→Prop):((((((((((((Unit×f)×g)×j)×l)×a)×b)×c)×k)×n)×m)×o)×y):=eK λt=>p (aT t) (aL t) (e9 t) (e8 t) (e7 t) (e6 t) (e5 t) (e4 t) (e3 t) (e2 t) (e1 t) (e0 t)
theorem aX{f g j l a b c k n m o y:Type} [i:Nonempty ((((((((((((Unit×f)×g)×j)×l)×a)×b)×c)×k)×n)×m)×o)×y)]{p:f→g→j→l→a→b→c→k→n→m→o→y→Prop}(h:p (aT (gK p)) (aL (gK p)) (e9 (gK p)) (e8 (gK p)) (e7 (gK p)) (e6 (gK p)) (e5 (gK p)) (e4 (gK p)) (e3 (gK p)) (e2 (gK p)) (e1 (gK p)) (e0 (gK p))):∀O W e q r s u v x w z A,p O W e q r s u v x w z A:=λO W e q r s u v x w z A=>cK (p:=λt=>p (aT t) (aL t) (e9 t) (e8 t) (e7 t) (e6 t) (e5 t) (e4 t) (e3 t) (e2 t) (e1 t) (e0 t)) h (((((((((((((),O),W),e),q),r),s),u),v),x),w),z),A)
end
section
open PySem PySem.W PyProof.Rows PySem.Calls PySem.SeqAt
set_option genSizeOf false
inductive TK where
 |s(x:ak)
 |t(l:List TK)
section
variable{α β:Type}(f:ak→α)(g:β→α)(n:β)(c:α→β→β)
noncomputable abbrev TK.r(k:TK):α:=TK.rec (motive_1:=λ_=>α) (motive_2:=λ_=>β) f (λ_ b=>g b) n (λ_ _ a b=>c a b) k
noncomputable abbrev TK.rs(k:List TK):β:=TK.rec_1 (motive_1:=λ_=>α) (motive_2:=λ_=>β) f (λ_ b=>g b) n (λ_ _ a b=>c a b) k
end
noncomputable def TK.Zv(k:TK):bk:=k.r .str .tuple [] .cons
noncomputable def TK.ZC(k:List TK):List bk:=TK.rs .str .tuple [] .cons k
noncomputable def TK.ZA(k:TK):Nat:=k.r (λ_=>1) (·+1) 0 (·+ ·)
noncomputable def TK.Zy(k:List TK):Nat:=TK.rs (λ_=>1) (·+1) 0 (·+ ·) k
noncomputable def TK.Zx(k:TK):Nat:=k.r (λ_=>0) (·+1) 0 max
noncomputable def TK.Zw(k:List TK):Nat:=TK.rs (λ_=>0) (·+1) 0 max k
noncomputable def TK.ZB(w:aJ)(k:TK):Int:=k.r (hashStr w) (λl=>reduceHash (zB l)) [] .cons
noncomputable def TK.Zz(w:aJ)(k:List TK):List Int:=TK.rs (hashStr w) (λl=>reduceHash (zB l)) [] .cons k
mutual
inductive fS(h:ay):TK→ai→Prop
 |s (x:ak) (O:Tok):fS h (.s x) (.str x O)
 |t {a:ag} {y:List ai} {n:Nat} {l:List TK}:h.get? a=aa {cls:=.type "tuple",data:=.seq y.toArray n}→TKsAt h l y→fS h (.t l) (.ref a)
inductive TKsAt(h:ay):List TK→List ai→Prop
 |nil:TKsAt h [] []
 |cons {k:TK} {v:ai} {l:List TK} {L:List ai}:fS h k v→TKsAt h l L→TKsAt h (k::l) (v::L)
end
section
variable{h:ay}
abbrev fS.iv(h:ay)(P:ai→Prop)(v:ai)(k:TK):Prop:=TK.casesOn (motive_1:=λ_=>Prop) k (λx=>(∀t,P (.str x t))→P v) λl=>(∀a y n,h.get? a=aa {cls:=.type "tuple",data:=.seq y.toArray n}→TKsAt h l y→P (.ref a))→P v
theorem fS.i{k:TK}{v:ai}(P:ai→Prop)(x:fS h k v):fS.iv h P v k:=fS.casesOn (motive_1:=λk v N=>fS.iv h P v k) x (λx t c=>c t) λa b c=>c _ _ _ a b
abbrev TKsAt.iv(h:ay)(P:List ai→Prop)(v:List ai)(k:List TK):Prop:=br (motive:=λ_=>Prop) k (P []→P v) λk l=>(∀v L,fS h k v→TKsAt h l L→P (v::L))→P v
theorem TKsAt.i{k:List TK}{v:List ai}(P:List ai→Prop)(x:TKsAt h k v):TKsAt.iv h P v k:=TKsAt.casesOn (motive_2:=λk v N=>TKsAt.iv h P v k) x id λa b c=>c _ _ a b
end
theorem fS.Zx{h B:ay}(k:∀b o,h.get? b=aa o→(∀P n,o.data≠.dict P n)→B.get? b=aa o){x:TK}{v:ai}(z:fS h x v):fS B x v:=
 fS.rec (motive_1:=λx v N=>fS B x v) (motive_2:=λx v N=>TKsAt B x v) .s (λa N b=>.t (k _ _ a λN N q=>jJ q) b) .nil (λN N a b=>.cons a b) z
theorem fS.Zv{h:ay}{x:TK}{v:ai}(z:fS h x v):Reads h v x.Zv []:=
 fS.rec (motive_1:=λx v N=>Reads h v x.Zv []) (motive_2:=λx v N=>ReadsAll h v (TK.ZC x) []) .str (λa N b=>.tuple a rfl rfl b) .nil (λN N a b=>.cons (as:=[]) (bs:=[]) a b) z
section
variable{W:aK}{w:aJ}
def pZ(W:aK)(w:aJ)(k:TK):Prop:=∀{v:ai} {A:aD} {E:ai→aw→Prop} {s:aw} {Q:Int→aw→Prop},A.units+k.Zx+1<ig→fS s.heap k v→Q (k.ZB w) {s with toks:=s.toks+k.ZA}→au (av W w) A (pyHash v) Q E s
def pY(W:aK)(w:aJ)(l:List TK):Prop:=∀{L:List ai} {A:aD} {E:ai→aw→Prop} {s:aw} {b:Array Int} {Q:Array Int→aw→Prop},A.units+TK.Zw l+1<ig→TKsAt s.heap l L→
  (∀Y:Array Int,Y.toList=b.toList++TK.Zz w l→Q Y {s with toks:=s.toks+TK.Zy l})→
  au (av W w) A (forIn L b λx r=>do let h←pyHash x;a8 PUnit.unit;a8 (l9 (r.push h))) Q E s
theorem Kz(x:ak):pZ W w (.s x):=λ{v A E s Q} O U h=>U.i (λv=>au (av W w) A (pyHash v) Q E s) λt=>wpAny_pyHash_str h
theorem Kx(l:List TK)(Z:pY W w l):pZ W w (.t l):=by
 revert W w l;apply bY;generalize e2 _=W,e1 _=w,e0 _=l;intro Z
 exact λ{v A E s Q} O U h=>U.i (λv=>au (av W w) A (pyHash v) Q E s) λe y n a b=>by
   have O:A.units+(TK.Zw l+1)+1<ig:=O;have O:A.units+1+TK.Zw l+1<ig:=Gj A.units 1 (TK.Zw l)▸O;refine pyHash_slot (T:="tuple") ⟨_,a,rfl⟩ F.slot_tuple_hash F.entry_tuple_hash (F.args_tuple_hash_1 _) (beq_builtin_none _) (.inr (fL (aW (jL _ 1) (aW (jL _ _) (jL _ 1))) O)) (?_:au _ _ (Builtin.Tuple.tupleItemsOf (.ref e)>>=_) _ _ s);refine az (wpAny_tupleItemsOf a rfl (az ?_));rw[←Array.forIn_toList];refine Z (A:=A.in1) O b λb i=>(?_:au _ _ (retInt (zB b.toList)) _ _ _);refine(bo i)▸ ?_;refine az (wpAny_mkInt (aR ⟨_,_,rfl,(?_:Q (reduceHash (zB ([]++TK.Zz w l))) {s with toks:=s.toks+TK.Zy l+1})⟩));exact(tL (TK.Zz w l)).symm▸h
theorem KA:pY W w []:=λ{L A E s b Q} O U h=>U.i (λL=>au (av W w) A (forIn L b λx r=>do let h←pyHash x;a8 PUnit.unit;a8 (l9 (r.push h))) Q E s) (aR (h b (nS _).symm))
theorem KB(k:TK)(l:List TK)(a:pZ W w k)(g:pY W w l):pY W w (k::l):=λ{L A E s b Q} O U h=>U.i (λL=>au (av W w) A (forIn L b λx r=>do let h←pyHash x;a8 PUnit.unit;a8 (l9 (r.push h))) Q E s) λv L x y=>by
 have O:A.units+max k.Zx (TK.Zw l)+1<ig:=O;refine(?_:au _ _ (forIn (v::L) b _) Q E s);rw[zR];refine az (az (a (fL (tJ (iy (Nat.le_max_left _ _) _) 1) O) x (aR (g (fL (tJ (iy (Nat.le_max_right _ _) _) 1) O) y λY i=>?_))));exact(qv _ _ _:s.toks+k.ZA+TK.Zy l=_)▸h Y (i.trans (by rw[Array.toList_push];rw[iA];rfl))
theorem fS.Zw{k:TK}:pZ W w k:=TK.rec (motive_1:=pZ W w) (motive_2:=pY W w) Kz Kx KA KB k
def sS(W:aK)(w:aJ)(k:TK):Prop:=∀{v:ai} {A:aD} {E:ai→aw→Prop} {s:aw} {Q:Bool→aw→Prop} {n:Nat},k.Zx≤n→fS s.heap k v→Q ae s→au (av W w) A (lW n v) Q E s
def sR(W:aK)(w:aJ)(l:List TK):Prop:=∀{L:List ai} {A:aD} {E:ai→aw→Prop} {s:aw} {Q:_→aw→Prop} {n:Nat},TK.Zw l≤n→TKsAt s.heap l L→Q (ah,()) s→
  au (av W w) A (forIn L ((ah,()):Option Bool×Unit) λy r=>do if(!(←lW n y))=ae then a8 (Gy (aa aj,()))else a8 (l9 (ah,()))) Q E s
theorem HO(l:List TK)(O:sR W w l):sS W w (.t l):=λ{v A E s Q n} Y U h=>U.i (λv=>au (av W w) A (lW n v) Q E s) λe y g a b=>
 qu (motive:=λn=>TK.Zw l+1≤n→au (av W w) A (lW n (.ref e)) Q E s) n (λY=>nomatch Y) (λn Y=>by
  have J:s.TypeIs (.ref e) "tuple":=⟨_,a,rfl⟩;unfold lW;refine az (wpAny_specialOf J F.slot_tuple_eq.lookup (az (wpAny_isInstance J isSubtype_tuple_tuple (az (wpAny_seqItems a rfl (az ?_))))));refine(?_:au _ _ (forIn y.toArray _ _) _ _ s);rw[←Array.forIn_toList];exact O (Nat.le_of_succ_le_succ Y) b (aR h)) Y
theorem HP(k:TK)(l:List TK)(a:sS W w k)(g:sR W w l):sR W w (k::l):=λ{L A E s Q n} Y U h=>
 U.i (λL=>au (av W w) A (forIn L ((ah,()):Option Bool×Unit) λy r=>do if(!(←lW n y))=ae then a8 (Gy (aa aj,()))else a8 (l9 (ah,()))) Q E s) λv L x y=>by
 refine(?_:au _ _ (forIn (v::L) _ _) Q E s);rw[zR];exact az (az (a (aW (Nat.le_max_left _ _) Y) x (aR (g (aW (Nat.le_max_right _ _) Y) y h))))
theorem fS.Zy{k:TK}:sS W w k:=TK.rec (motive_1:=sS W w) (motive_2:=sR W w)
 (λx {O A E s Q n} _ U h=>U.i (λO=>au (av W w) A (lW n O) Q E s) λt=>(congrArg (λc=>au (av W w) A c Q E s) (eqIsQuiet_byValue n (v:=.str x t) rfl)).mpr (aR h)) HO
 (λ{L A E s Q n} _ U h=>U.i (λL=>au (av W w) A (forIn L ((ah,()):Option Bool×Unit) λy r=>do if(!(←lW n y))=ae then a8 (Gy (aa aj,()))else a8 (l9 (ah,()))) Q E s) (aR h)) HP k
end
noncomputable def cS(b:Bool):TK:=fc (.t [.s (aq "tuple"),.t []]) (.t [.s (aq "tuple"),.t [.t [.s (aq "int"),.s (aq "u8")],.t [.s (aq "bool")]]]) b
theorem t4(k:Bool):((cS k).Zv).canLay0=ae:=fc (motive:=λk=>((cS k).Zv).canLay0=ae) (by kernel_rfl) (by kernel_rfl) k
theorem GU(k:Bool):jc ((cS k).Zv).depth 8=ae:=fc (motive:=λk=>jc ((cS k).Zv).depth 8=ae) (by kernel_rfl) (by kernel_rfl) k
theorem z7(k:Bool):(cS k).Zx≤3:=fc (motive:=λk=>(cS k).Zx≤3) (by decide+kernel) (by decide+kernel) k
theorem t6(x y:Bool):aZ (cS x).Zv (cS y).Zv=aO (x=y):=by cases x<;>cases y<;>kernel_rfl
theorem GT{x y:Bool}(h:(cS x).Zv=(cS y).Zv):x=y:=of_decide_eq_true ((t6 x y).symm.trans (h.symm▸(t6 y y).trans (decide_eq_true rfl)))
theorem AF{u k:Nat}(h:u+20<ig)(U:k≤19):u+k+1<ig:=fL (iy (qs U) u) h
noncomputable def kY(W:aK)(w:aJ):HeapKind W w Bool where
 is:=λh k a=>fS h (cS k) (.ref a)
 hash:=λk=>(cS k).ZB w
 draws:=λk=>(cS k).ZA
 room:=λA=>A.units+20<ig
 inj:=λ{h a x y} K l=>GT (Reads.unique _ _ _ _ _ (t4 x) K.Zv l.Zv)
 keeps:=λ{h B k a d o P r} x u S T=>x.Zx λb t e Y=>(T.2 b λq=>Y _ _ ((aI (e.symm.trans (q▸u))).symm▸S)).trans e
 pyHash:=λ{A E s k a Q} O U h=>U.Zw (AF O (aW (z7 k) (by decide))) h
 eqBool:=λ{A E s x y a b Q} O K l h=>(eqAt_reads (cS x).Zv (cS y).Zv A s (.ref a) (.ref b) _ _ K.Zv l.Zv (t4 x) (t4 y)
  (Nat.lt_of_succ_lt (AF O (aW (Nat.min_le_left _ _) (aW (gz (GU x)) (by decide)))))) W w E Q ((t6 x y).symm▸h)
 quiet:=λ{A E s k a Q} U h=>U.Zy (aW (z7 k) (by decide)) h
end
section
open PySem PySem.W PyProof.Rows PySem.Calls
set_option genSizeOf false
set_option genInjectivity true in
inductive V where
 |none
 |bool(b:Bool)
 |int(i:Int)
 |str(s:ak)
 |tup(l:List V)
 |lst(l:List V)
 |obj(a:ag)
instance:Nonempty V:=⟨.none⟩
set_option genInjectivity true in
inductive O where
 |list(l:List V)
 |idict(l:List (Int×V))
 |sdict(l:List (ak×V))
 |inst(C:ag)(t:List (ak×V))
 |tab(q:ak)
 |kdict(e:Option (Bool×V))
 |pdict(r:Nat)(l:List (Int×V))
instance:Nonempty O:=⟨.list []⟩
noncomputable def V.ctorIdx(v:V):Nat:=V.casesOn (motive_1:=λ_=>Nat) v 0 (λ_=>1) (λ_=>2) (λ_=>3) (λ_=>4) (λ_=>5) λ_=>6
noncomputable def O.ctorIdx(o:O):Nat:=O.casesOn o (λ_=>0) (λ_=>1) (λ_=>2) (λ_ _=>3) (λ_=>4) (λ_=>5) λ_ _=>6
abbrev St:=ag→Option O
noncomputable def St.Zv(Z:St)(a:ag)(o:O):St:=λb=>if b=a then aa o else Z b
theorem St.Zx(Z:St)(a:ag)(o:O):Z.Zv a o a=aa o:=if_pos rfl
theorem St.Zw(Z:St){a b:ag}(o:O)(h:b≠a):Z.Zv a o b=Z b:=if_neg h
structure Gh where
 im:ag→Option aC
 pv:ag→Option aC
 fm:ag→Bool
instance:Nonempty Gh:=⟨by constructor<;>exact gU inferInstance⟩
noncomputable def iF{O:Type}(f:ag→Option O)(a:ag)(x:Option O):ag→Option O:=λb=>if b=a then x else f b
theorem bE{O:Type}(f:ag→Option O)(a:ag)(x:Option O):iF f a x a=x:=if_pos rfl
theorem bv{O:Type}(f:ag→Option O){a b:ag}(x:Option O)(h:b≠a):iF f a x b=f b:=if_neg h
noncomputable def Gh.Zy(G:Gh)(a:ag)(o:aC):Gh:=⟨iF G.im a (aa o),G.pv,G.fm⟩
noncomputable def Gh.Zv(G:Gh)(a:ag)(o:Option aC):Gh:=⟨G.im,iF G.pv a o,G.fm⟩
structure Gh.le(G O:Gh):Prop where
 im:∀a o,G.im a=aa o→O.im a=aa o
 pv:∀a o,G.pv a=aa o→∃M,O.pv a=aa {o with slots:=M}
 fx:∀a o,G.pv a=aa o→O.fm a=G.fm a∧(G.fm a=aj→O.pv a=aa o)
theorem Gh.le.Zw(G:Gh):G.le G:=⟨λN N e=>e,λN o e=>⟨o.slots,e⟩,λN N e=>⟨rfl,λN=>e⟩⟩
theorem Gh.le.Zv{A B C:Gh}(x:A.le B)(y:B.le C):A.le C:=⟨λa o e=>y.im a o (x.im a o e),λa o e=>aE (x.pv a o e) λN q=>aE (y.pv a _ q) λM q=>⟨M,q⟩,
 λa o e=>aE (x.pv a o e) λN q=>⟨(y.fx a _ q).1.trans (x.fx a o e).1,λz=>(y.fx a o ((x.fx a o e).2 z)).2 ((x.fx a o e).1.trans z)⟩⟩
noncomputable def t8(L:List ai):aC:={cls:=.type "tuple",data:=.seq L.toArray}
noncomputable def my(L:List ai):aC:={cls:=.type "list",data:=.seq L.toArray}
noncomputable abbrev eJ(t:String)(L:List ai)(n:Nat):aC:={cls:=.type t,data:=.seq L.toArray n}
mutual
inductive VR(O:ag→Option aC):V→ai→Prop
 |none:VR O .none .none
 |bool (b:Bool):VR O (.bool b) (.bool b)
 |int (i:Int) (t:Tok):VR O (.int i) (.int i t)
 |str (x:ak) (t:Tok):VR O (.str x) (.str x t)
 |obj (a:ag):VR O (.obj a) (.ref a)
 |tup {r:ag} {n:Nat} {l:List V} {L:List ai}:O r=aa (eJ "tuple" L n)→VRs O l L→VR O (.tup l) (.ref r)
 |lst {r:ag} {n:Nat} {l:List V} {L:List ai}:O r=aa (eJ "list" L n)→VRs O l L→VR O (.lst l) (.ref r)
inductive VRs(O:ag→Option aC):List V→List ai→Prop
 |nil:VRs O [] []
 |cons {v:V} {r:ai} {l:List V} {W:List ai}:VR O v r→VRs O l W→VRs O (v::l) (r::W)
end
section
variable{im:ag→Option aC}{r:ai}{rs:List ai}
def E3(im:ag→Option aC)(P:ai→Prop)(r:ai):V→Prop:=λv=>V.casesOn (motive_1:=λ_=>Prop) v (P .none→P r) (λb=>P (.bool b)→P r) (λi=>(∀t,P (.int i t))→P r) (λx=>(∀t,P (.str x t))→P r) (λl=>(∀a n L,im a=aa (eJ "tuple" L n)→VRs im l L→P (.ref a))→P r) (λl=>(∀a n L,im a=aa (eJ "list" L n)→VRs im l L→P (.ref a))→P r) (λa=>P (.ref a)→P r)
theorem VR.i{v:V}(P:ai→Prop)(h:VR im v r):E3 im P r v:=VR.casesOn (motive_1:=λv r N=>E3 im P r v) h id (λN=>id) (λN t c=>c t) (λN t c=>c t) (λN=>id) (λa b c=>c _ _ _ a b) λa b c=>c _ _ _ a b
@[elab_as_elim] theorem VR.eN{P:ai→Prop}(h:VR im .none r)(c:P .none):P r:=h.i P c
@[elab_as_elim] theorem VR.eB{b:Bool}{P:ai→Prop}(h:VR im (.bool b) r)(c:P (.bool b)):P r:=h.i P c
@[elab_as_elim] theorem VR.eI{i:Int}{P:ai→Prop}(h:VR im (.int i) r)(c:∀t,P (.int i t)):P r:=h.i P c
@[elab_as_elim] theorem VR.eS{x:ak}{P:ai→Prop}(h:VR im (.str x) r)(c:∀t,P (.str x t)):P r:=h.i P c
@[elab_as_elim] theorem VR.eO{a:ag}{P:ai→Prop}(h:VR im (.obj a) r)(c:P (.ref a)):P r:=h.i P c
@[elab_as_elim] theorem VR.eT{l:List V}{P:ai→Prop}(h:VR im (.tup l) r)(c:∀a n L,im a=aa (eJ "tuple" L n)→VRs im l L→P (.ref a)):P r:=h.i P c
@[elab_as_elim] theorem VR.eL{l:List V}{P:ai→Prop}(h:VR im (.lst l) r)(c:∀a n L,im a=aa (eJ "list" L n)→VRs im l L→P (.ref a)):P r:=h.i P c
def E2(im:ag→Option aC)(P:List ai→Prop)(r:List ai):List V→Prop:=λl=>br (motive:=λ_=>Prop) l (P []→P r) λv l=>(∀Y rs,VR im v Y→VRs im l rs→P (Y::rs))→P r
theorem VRs.i{l:List V}(P:List ai→Prop)(h:VRs im l rs):E2 im P rs l:=VRs.casesOn (motive_2:=λl rs N=>E2 im P rs l) h id λx y c=>c _ _ x y
@[elab_as_elim] theorem VRs.eN{P:List ai→Prop}(h:VRs im [] rs)(c:P []):P rs:=h.i P c
@[elab_as_elim] theorem VRs.eC{v:V}{l:List V}{P:List ai→Prop}(h:VRs im (v::l) rs)(c:∀r rs,VR im v r→VRs im l rs→P (r::rs)):P rs:=h.i P c
@[elab_as_elim] theorem VRs.e1{v:V}{P:List ai→Prop}(h:VRs im [v] rs)(c:∀r,VR im v r→P [r]):P rs:=h.eC λr N x y=>y.eN (c r x)
@[elab_as_elim] theorem VRs.e2{v u:V}{P:List ai→Prop}(h:VRs im [v,u] rs)(c:∀r s,VR im v r→VR im u s→P [r,s]):P rs:=h.eC λr N x y=>y.e1 λs z=>c r s x z
@[elab_as_elim] theorem VRs.e3{v u w:V}{P:List ai→Prop}(h:VRs im [v,u,w] rs)(c:∀r s t,VR im v r→VR im u s→VR im w t→P [r,s,t]):P rs:=h.eC λr N x y=>y.e2 λs t z a=>c r s t x z a
end
def fU(f g:ag→Option aC):Prop:=∀a o,f a=aa o→g a=aa o
theorem VRs.Zx{f:ag→Option aC}{M:List V→List ai→Prop}(n:M [] [])(c:∀{v r l O},VR f v r→VRs f l O→M l O→M (v::l) (r::O)){l:List V}{O:List ai}(h:VRs f l O):M l O:=
 VRs.rec (motive_1:=λN N N=>True) (motive_2:=λl O N=>M l O) trivial (λN=>trivial) (λN N=>trivial) (λN N=>trivial) (λN=>trivial) (λN N N=>trivial) (λN N N=>trivial) n (λx y N m=>c x y m) h
theorem VR.Zv{f g:ag→Option aC}(k:fU f g){v:V}{r:ai}(h:VR f v r):VR g v r:=
 VR.rec (motive_1:=λv r N=>VR g v r) (motive_2:=λl O N=>VRs g l O) .none .bool .int .str .obj (λh N x=>.tup (k _ _ h) x) (λh N x=>.lst (k _ _ h) x) .nil (λN N x y=>.cons x y) h
theorem VRs.Zw{f g:ag→Option aC}(k:fU f g){l:List V}{O:List ai}(h:VRs f l O):VRs g l O:=h.Zx .nil λx N y=>.cons (x.Zv k) y
theorem VRs.Zv{f:ag→Option aC}{l:List V}{O:List ai}(h:VRs f l O):O.length=l.length:=h.Zx (M:=λl O=>O.length=l.length) rfl λN N y=>congrArg (·+1) y
theorem VRs.ZC{f:ag→Option aC}{l:List V}{O:List ai}(h:VRs f l O):∀(i:Nat) (v:V),l[i]? =aa v→∃r,O[i]? =aa r∧VR f v r:=
 h.Zx (M:=λl O=>∀(i:Nat) (v:V),l[i]? =aa v→∃r,O[i]? =aa r∧VR f v r) (λN N e=>aG e)
  λ{v r l O} x _ y i u e=>qu (motive:=λi=>(v::l)[i]? =aa u→∃q,(r::O)[i]? =aa q∧VR f u q) i (λe=>aI e▸⟨r,rfl,x⟩) (λi e=>y i u e) e
theorem VRs.Zy{f:ag→Option aC}{l:List V}{O:List ai}{K:List V}{a:List ai}(h:VRs f l O)(B:VRs f K a):VRs f (l++K) (O++a):=h.Zx (M:=λl O=>VRs f (l++K) (O++a)) B λx N y=>.cons x y
theorem VRs.ZD{f:ag→Option aC}{l:List V}{O:List ai}(h:VRs f l O):∀n:Nat,VRs f (l.drop n) (O.drop n)∧VRs f (l.take n) (O.take n):=
 h.Zx (M:=λl O=>∀n:Nat,VRs f (l.drop n) (O.drop n)∧VRs f (l.take n) (O.take n)) (λn=>by rw[List.drop_nil];rw[List.drop_nil];rw[List.take_nil];rw[List.take_nil];exact⟨.nil,.nil⟩)
  λx z y n=>qu (motive:=λn=>VRs f (List.drop n (_::_)) (List.drop n (_::_))∧VRs f (List.take n (_::_)) (List.take n (_::_))) n ⟨.cons x z,.nil⟩ λn=>⟨(y n).1,.cons x (y n).2⟩
theorem VRs.ZE{f:ag→Option aC}{l:List V}{O:List ai}(n:Nat)(h:VRs f l O):VRs f (l.drop n) (O.drop n):=(h.ZD n).1
theorem VRs.ZB{f:ag→Option aC}{l:List V}{O:List ai}(n:Nat)(h:VRs f l O):VRs f (l.take n) (O.take n):=(h.ZD n).2
theorem VRs.ZF{f:ag→Option aC}{v:V}{r:ai}(q:VR f v r){l:List V}{O:List ai}(n:Nat)(h:VRs f l O):VRs f (l.set n v) (O.set n r):=
 h.Zx (M:=λl O=>∀n:Nat,VRs f (l.set n v) (O.set n r)) (λN=>.nil) (λx z y n=>qu (motive:=λn=>VRs f (List.set (_::_) n v) (List.set (_::_) n r)) n (.cons q z) λn=>.cons x (y n)) n
theorem VRs.ZA{f:ag→Option aC}{l:List V}{O:List ai}(h:VRs f l O):VRs f l.reverse O.reverse:=
 h.Zx (M:=λl O=>VRs f l.reverse O.reverse) .nil λx N y=>by rw[List.reverse_cons];rw[List.reverse_cons];exact y.Zy (.cons x .nil)
theorem VRs.Zz{f:ag→Option aC}{v:V}{r:ai}(h:VR f v r)(n:Nat):VRs f (bA n v) (bA n r):=kO (motive:=λn=>VRs f (bA n v) (bA n r)) .nil (λ_ y=>.cons h y) n
noncomputable def fM(k:TK):V:=k.r .str .tup [] .cons
noncomputable def qI(k:List TK):List V:=TK.rs .str .tup [] .cons k
theorem VR.tk{f:ag→Option aC}{h:ay}(I:∀a o,f a=aa o→h.get? a=aa o){k:TK}{r:ai}(v:VR f (fM k) r):fS h k r:=
 TK.rec (motive_1:=λk=>∀r,VR f (fM k) r→fS h k r) (motive_2:=λl=>∀r,VRs f (qI l) r→TKsAt h l r) (λx r v=>VR.eS v (.s x))
  (λl F r v=>VR.eT v λa n L d U=>.t (I _ _ d) (F _ U)) (λr v=>VRs.eN v .nil) (λk l a b r v=>VRs.eC v λr O x y=>.cons (a r x) (b O y)) k r v
inductive bR{O:Type}(W:ag→Option aC):List (O×V)→List (O×ai)→Prop
 |nil:bR W [] []
 |cons {k:O} {v:V} {r:ai} {l:List (O×V)} {Z:List (O×ai)}:VR W v r→bR W l Z→bR W ((k,v)::l) ((k,r)::Z)
theorem bR.Zx{W:Type}{f g:ag→Option aC}(k:fU f g){l:List (W×V)}{O:List (W×ai)}(h:bR f l O):bR g l O:=bR.rec (motive:=λl O N=>bR g l O) .nil (λx N y=>.cons (x.Zv k) y) h
theorem bR.Zz{W:Type}{f:ag→Option aC}{l:List (W×V)}{O:List (W×ai)}(h:bR f l O):O.map (·.1)=l.map (·.1):=bR.rec (motive:=λ(l:List (W×V)) (O:List (W×ai)) _=>O.map (·.1)=l.map (·.1)) rfl (λ{k v r l O} _ _ y=>congrArg (k:: ·) y) h
theorem bR.Zv{W:Type}{f:ag→Option aC}{l:List (W×V)}{O:List (W×ai)}(h:bR f l O):O.length=l.length:=bR.rec (motive:=λl O N=>O.length=l.length) rfl (λN N y=>congrArg (·+1) y) h
theorem fj{O W:Type} [BEq O](k a:O)(b:W)(l:List (O×W)):((a,b)::l).lookup k=bif k==a then aa b else l.lookup k:=(fc (motive:=λc=>(match c with|ae=>aa b|aj=>l.lookup k)=bif c then aa b else l.lookup k) rfl rfl (k==a):_)
theorem bR.Zw{W:Type} [BEq W]{f:ag→Option aC}(k:W){l:List (W×V)}{O:List (W×ai)}(h:bR f l O):(l.lookup k=ah→O.lookup k=ah)∧∀v,l.lookup k=aa v→∃r,O.lookup k=aa r∧VR f v r:=
 bR.rec (motive:=λl O N=>(l.lookup k=ah→O.lookup k=ah)∧∀v,l.lookup k=aa v→∃r,O.lookup k=aa r∧VR f v r) ⟨λN=>rfl,λN e=>aG e⟩
  (λ{H v r l O} x _ y=>by
   rw[fj];rw[fj];cases k==H with
   |true=>exact⟨λe=>qS e,λu e=>⟨r,rfl,aI e▸x⟩⟩
   |false=>exact y) h
end
section
open PySem PySem.W PyProof.Rows PySem.Calls
noncomputable def cq{O W:Type} [DecidableEq O](k:O)(v:W)(l:List (O×W)):List (O×W):=bc [(k,v)] (λp r F=>if k=p.1 then(p.1,v)::r else p::F) l
theorem mh{O W:Type} [DecidableEq O](k:O)(v:W)(p:O×W)(r:List (O×W)):cq k v (p::r)=if k=p.1 then(p.1,v)::r else p::cq k v r:=rfl
theorem rJ{O W:Type} [DecidableEq O](k:O)(v:W)(l:List (O×W))(x:O):(cq k v l).lookup x=if x=k then aa v else l.lookup x:=
 bc (motive:=λl=>(cq k v l).lookup x=if x=k then aa v else l.lookup x) (by
  refine(fj x k v []).trans ?_;by_cases h:x=k
  ·rw[if_pos h];rw[beq_iff_eq.mpr h];rfl
  ·rw[if_neg h];rw[beq_false_of_ne h];rfl) (λp r F=>by
  rw[mh];by_cases h:k=p.1
  ·rw[if_pos h];rw[fj];rw[fj];refine h▸ ?_
   by_cases c:x=k
   ·rw[if_pos c];rw[beq_iff_eq.mpr c];rfl
   ·rw[if_neg c];rw[beq_false_of_ne c];rfl
  ·rw[if_neg h];rw[fj];rw[fj]
   by_cases c:x=p.1
   ·rw[if_neg (λe=>h (e.symm.trans c))];rw[beq_iff_eq.mpr c];rfl
   ·rw[beq_false_of_ne c];exact F) l
theorem lD{O W:Type} [DecidableEq O](k:O)(v:W)(l:List (O×W)):(cq k v l).length=if(l.lookup k).isSome then l.length else l.length+1:=
 bc (motive:=λl=>(cq k v l).length=if(l.lookup k).isSome then l.length else l.length+1) rfl (λp r F=>by
  rw[mh];rw[fj];by_cases h:k=p.1
  ·rw[if_pos h];rw[beq_iff_eq.mpr h];rfl
  ·rw[if_neg h];rw[beq_false_of_ne h]
   refine(congrArg (·+1) F).trans ?_;show(if _ then _ else _)+1=if(r.lookup k).isSome then _ else _
   cases(r.lookup k).isSome<;>rfl) l
theorem JY{O W:Type} [DecidableEq O](k:O)(v:W)(l:List (O×W)):(cq k v l).length≤l.length+1:=by
 rw[lD];cases(l.lookup k).isSome
 ·exact f8 _
 ·exact nP _
theorem bR.ZA{W:Type} [DecidableEq W]{f:ag→Option aC}{k:W}{v:V}{r:ai}(h:VR f v r){l:List (W×V)}{O:List (W×ai)}(z:bR f l O):bR f (Mine.Internal.cq k v l) (Mine.Internal.cq k r O):=
 bR.rec (motive:=λl O N=>bR f (Mine.Internal.cq k v l) (Mine.Internal.cq k r O)) (.cons h .nil) (λ{H u D l O} x y F=>by
  rw[mh];rw[mh];by_cases e:k=H
  ·rw[if_pos e];rw[if_pos e];exact .cons h y
  ·rw[if_neg e];rw[if_neg e];exact .cons x F) z
inductive de(h:ay)(d:ag)(O:List (ak×ai)):Prop
 |mk (o P r):h.get? d=aa o→o.data=.dict P r→i9 P→(∀x,ew P x=O.lookup x)→P.size≤O.length→de h d O
theorem de.at{h B:ay}{d:ag}{O:List (ak×ai)}(x:de h d O)(k:∀o,h.get? d=aa o→B.get? d=aa o):de B d O:=
 x.casesOn λo P r u a b c d=>.mk o P r (k o u) a b c d
theorem de.Zw(h:ay):de (h.push {cls:=.type "dict",data:=.dict #[]}) h.objs.size []:=
 ⟨_, #[],0,gQ _ rfl,rfl,λN z=>by simp at z,λN=>rfl,f8 _⟩
theorem Bg{P:Array kM}(U:i9 P):P.toList.any (·.refKey)=aj:=by
 rw[List.any_eq_false];intro e z;refine nX (U e (Array.mem_toList_iff.mp z)) λn t h=>?_;simp[DictEntry.refKey,h]
theorem BU{o:aC}{P:Array kM}{n:Nat}(S:o.data=.dict P n)(U:i9 P)(x:ak):lookIn x o=aa (ew P x):=by
 revert o P n x;apply bY;generalize e2 _=o,e1 _=P,e0 _=n;intro S U;apply aP;generalize e0 _=x;unfold lookIn;rw[S];dsimp only;unfold ew findBy;rw[←Array.find?_toList];cases P.toList.find? λe=>e.key.isStr x with
 |some e=>rfl
 |none=>rw[Bg U];rfl
section
variable{M:Model}{A:aD}{E:ai→aw→Prop}{s:aw}
theorem Bd{d:ag}{O:List (ak×ai)}{name:ak}{v:ai}{Q:Unit→aw→Prop}(Y:de s.heap d O)
  (h:∀B,de B d (cq name v O)→iq d s.heap B→Q () {s with heap:=B,toks:=s.toks+1}):au M A (nsSet d name v) Q E s:=by
 revert M A E s d O name v Q;apply j7;generalize e8 _=M,e7 _=A,e6 _=E,e5 _=s,e4 _=d,e3 _=O,e2 _=name,e1 _=v,e0 _=Q;intro Y h;refine fy λt=>?_;obtain⟨o,P,r,u,S,U,b,W⟩:=Y;refine t ?_;clear t;have k:P.any (·.refKey)=aj:=by exact(Array.any_toList).symm.trans (Bg U)
 refine az (az (wpAny_askSetting (aR (az (wpAny_mkText (az (wpAny_loadPart u ?_)))))));rw[S];dsimp only;rw[aRefKeyMayBeTheName_eq];unfold aRefKeyMayBeTheNameByArray;rw[k];rw[Bool.and_false];refine wpAny_updatePart u (h _ ?_ (zx ..));refine fy λa=>?_;obtain⟨c,D,p,Z⟩:=o;refine a ?_;clear a;simp only at S;subst S;cases f:P.findIdx? (·.key.isStr name)with
 |some i=>
  refine⟨_,_,r,jb _ u (by simp only[zs,zt,f];rfl),by simp only[zs,zt,f];rfl,U.modify _ _,λx=>?_,?_⟩
  ·rw[rJ];rw[←b];exact findBy_modify (λn v=>v.isStr n) Value.isStr_inj P name x v i f
  ·rw[Array.size_modify];rw[lD];split<;>lia
 |none=>
  have g:O.lookup name=ah:=by
   rw[←b];unfold ew;rw[findBy_of_findIdx?];have:(P.findIdx? λe=>(λn (v:ai)=>v.isStr n) name e.key)=ah:=f;rw[this]
  refine⟨_,_,r+1,jb _ u (by simp only[zs,zt,f];rfl),by simp only[zs,zt,f];rfl,U.push _ _ _ _,λx=>?_,?_⟩
  ·rw[rJ];rw[←b]
   exact findBy_push (λn v=>v.isStr n) P name x _ _ v (λy=>by
    refine(?_:(name==y)=aO (y=name));by_cases h:y=name
    ·refine qF h ?_;rfl
    ·rw[decide_eq_false h];simpa using λe=>h e.symm) f
  ·rw[Array.size_push];rw[lD];rw[g];simpa using W
end
section
variable{W:aK}{w:aJ}{A:aD}{E:ai→aw→Prop}{s:aw}{K:aY}{x d C:ag}{rvs:List (ak×ai)}{name:ak}{v:ai}
theorem wW(O:s.heap.get? x=aa (io C d))(Y:de s.heap d rvs):∃T,InstAt s.heap x (io C d) C (aa T)∧∀n,lookIn n T=aa (rvs.lookup n):=by
 refine fy λa=>?_;obtain⟨o,P,r,u,S,U,b,_⟩:=Y;refine a ?_;clear a;exact⟨o,⟨O,rfl,rfl,u⟩,λn=>(BU S U n).trans (congrArg aa (b n))⟩
noncomputable def pi(K:aY)(C:ag)(name:ak):Bool:=plainGet K C name&&hasDictIn K C&&(match fJ K (.ref C) name with|aa a=>noGet K a|ah=>aj)
theorem KL{f:Bool}{Q:ai→aw→Prop}(X:K.In s.heap)(O:s.heap.get? x=aa (io C d))(Y:de s.heap d rvs)(Z:pi K C name=ae)
  (g:rvs.lookup name=aa v)(U:handedIn v=ae)(h:Q v {s with toks:=s.toks+1}):au (av W w) A (getAttr (.ref x) name f) Q E s:=by
 revert W w A E s K x d C rvs name v f Q;apply aX;generalize aT _=W,aL _=w,e9 _=A,e8 _=E,e7 _=s,e6 _=K,e5 _=x,e4 _=d,e3 _=C,e2 _=rvs,e1 _=name,e0 _=v;apply bF;generalize e1 _=f,e0 _=Q;intro X O Y Z g U h;refine aB (wW O Y) λT I L=>?_;obtain⟨n,j⟩:=cj.mp Z;obtain⟨R,H⟩:=cj.mp n;cases k:fJ K (.ref C) name with
 |none=>exact aF (by rw[k]at j;exact j)
 |some a=>
  rw[k]at j;exact get_value X I (plainGet_of R).1 (findObj_own H k j ((L name).trans (congrArg aa g))) U h
noncomputable def rG(K:aY)(C:ag)(name:ak)(f:ag):Bool:=plainGet K C name&&fJ K (.ref C) name==aa (aa (.ref f))&&isFn K (.ref f)
theorem I8{F:bI Bool}{Q:ai×List ai→aw→Prop}{f:ag}(X:K.In s.heap)(O:s.heap.get? x=aa (io C d))(Y:de s.heap d rvs)(Z:rG K C name f=ae)
  (g:rvs.lookup name=ah)(h:Q (.ref f,[.ref x]) s):au (av W w) A (i5 (.ref x) name F) Q E s:=by
 refine aB (wW O Y) λT I L=>?_;refine bu (cj.mp Z) λn j=>?_;refine bu (cj.mp n) λR H=>?_;exact method_fn X I (plainGet_of R).1 (plainGet_of R).2 (beq_iff_eq.mp H) (beq_iff_eq.mp j) ((congrArg (Option.map _) ((L name).trans (congrArg aa g))):_) h
noncomputable def oh(K:aY)(C:ag)(name:ak):Bool:=
 plainOver K C&&hasDictIn K C&&takerIn K C name==aa ah&&fJ K (.ref C) "__setattr__"==aa (aa (.builtin "object.__setattr__"))
theorem HB{Q:Unit→aw→Prop}(X:K.In s.heap)(O:s.heap.get? x=aa (io C d))(Y:de s.heap d rvs)(J:oh K C name=ae)(V:rvs.length≤1000)
  (h:∀B,de B d (cq name v rvs)→iq d s.heap B→Q () {s with heap:=B,toks:=s.toks+2}):au (av W w) A (setAttr (.ref x) name v) Q E s:=by
 revert W w A E s K x d C rvs name v Q;apply aX;generalize aT _=W,aL _=w,e9 _=A,e8 _=E,e7 _=s,e6 _=K,e5 _=x,e4 _=d,e3 _=C,e2 _=rvs,e1 _=name,e0 _=v;apply aP;generalize e0 _=Q;intro X O Y J V h;refine aB (wW O Y) λT I L=>?_;obtain⟨e,z⟩:=cj.mp J;obtain⟨n,j⟩:=cj.mp e;obtain⟨R,H⟩:=cj.mp n;replace j:=beq_iff_eq.mp j;replace z:=beq_iff_eq.mp z;refine set_plain X I z (osa_open (s:={s with toks:=s.toks+1}) X I R j λb=>?_);refine aB (any_some H) λr m Z=>?_;have U:s.heap.get? x=aa ⟨.ref C,aa d,.plain, #[]⟩:=O;refine az (aR (az (az (wpAny_loadPart U ?_))));refine az (qo (s:={s with toks:=s.toks+1}) (looks_clsIn X m) ?_);refine(bo Z)▸ ?_;refine aR (a:=aa d) (az (aR (az ?_)));refine Bd Y λB l i=>?_;obtain⟨S,q,k,F,f,_,_,g⟩:=id l;exact az (wpAny_lookBehind F (f▸pastItsLine_dict (aW g (aW (JY _ _ _) (aW (qs V) (by decide))))) (aR (h _ l i)))
end
inductive KD(W:aK)(w:aJ)(O:ag→Option aC)(h:ay)(a:ag)(D:List (Bool×ag×ai)):Prop
 |mk (o P r):h.get? a=aa o→o.ExactDict→o.data=.dict P r→P.toList=D.map (entryOfKey (kY W w))→(∀x∈D,VR O (fM (cS x.1)) (.ref x.2.1))→(D.map (·.1)).Nodup→KD W w O h a D
theorem KD.Zw{W:aK}{w:aJ}{f g:ag→Option aC}(k:fU f g){h:ay}{a:ag}{D:List (Bool×ag×ai)}(x:KD W w f h a D):KD W w g h a D:=
 x.casesOn λo P r a b c d e f=>.mk o P r a b c d (λx K=>(e x K).Zv k) f
theorem KD.at{W:aK}{w:aJ}{f:ag→Option aC}{h B:ay}{a:ag}{D:List (Bool×ag×ai)}(k:∀x,h.get? a=aa x→B.get? a=aa x)(x:KD W w f h a D):KD W w f B a D:=
 x.casesOn λo P r a b c d e f=>.mk o P r (k _ a) b c d e f
def KE(O:ag→Option aC)(e:Option (Bool×V))(D:List (Bool×ag×ai)):Prop:=match e with
 |ah=>D=[]
 |aa (k,v)=>∃r Y,D=[(k,r,Y)]∧VR O v Y
theorem KE.Zv{f g:ag→Option aC}(k:fU f g){e:Option (Bool×V)}{D:List (Bool×ag×ai)}:KE f e D→KE g e D:=
 a9 (motive:=λe=>KE f e D→KE g e D) e id λN h=>dO h λr Y a b=>⟨r,Y,a,b.Zv k⟩
noncomputable abbrev ua(O:Array ai):aC:={cls:=.none,data:=.fields O}
inductive jC(O:ag→Option aC)(r:ai)(q:ak):Prop
 |mk (c o L t):r=.ref c→O c=aa o→o.data=.fields L→L[1]? =aa (.str q t)→jC O r q
theorem jC.Zv{f g:ag→Option aC}(k:fU f g){r:ai}{q:ak}(x:jC f r q):jC g r q:=x.casesOn λc o L t a b d e=>.mk c o L t a (k _ _ b) d e
section
variable(W:aK)(w:aJ)
def OR(Z:ag→Option aC)(h:ay)(a d:ag)(o:O):Prop:=O.casesOn o
 (λl=>∃L,h.PlainList a L.toArray∧VRs Z l L)
 (λl=>∃M,h.DictOf (dI W w) a M∧bR Z l M)
 (λl=>∃M,h.DictOf (iY W w) a M∧bR Z l M)
 (λC t=>∃U,h.get? a=aa (io C d)∧de h d U∧bR Z t U)
 (λq=>∃J,h.get? a=aa (ua J)∧kI J.toList∧∀V E,kH V J.toList=aa E→jC Z E q)
 (λe=>∃D,KD W w Z h a D∧KE Z e D)
 (λr l=>∃M,h.DictAt (dI W w) a M r∧bR Z l M)
noncomputable def dK(o:O):Bool:=O.casesOn o (λ_=>aj) (λ_=>aj) (λ_=>aj) (λ_ _=>ae) (λ_=>aj) (λ_=>aj) λ_ _=>aj
structure FG(G:Gh)(Z:St)(h:ay)(i:ag→ag)(a:ag)(o:O):Prop where
 ob:OR W w G.im h a (i a) o
 im:G.im a=ah
 pv:G.pv a=ah
structure FI(G:Gh)(Z:St)(i:ag→ag)(a:ag):Prop where
 im:G.im (i a)=ah
 pv:G.pv (i a)=ah
 mu:Z (i a)=ah
 un:∀b H,Z b=aa H→dK H=ae→i b=i a→b=a
inductive FH(G:Gh)(Z:St)(h:ay):Prop
 |mk (i:ag→ag):(∀a o,Z a=aa o→FG W w G Z h i a o)→(∀a o,Z a=aa o→dK o=ae→FI G Z i a)→FH G Z h
structure HR(G:Gh)(Z:St)(h:ay):Prop where
 im:∀a o,G.im a=aa o→h.get? a=aa o
 pv:∀a o,G.pv a=aa o→h.get? a=aa o
 ip:∀a o,G.im a=aa o→G.pv a=ah
 mu:FH W w G Z h
end
section
variable{W:aK}{w:aJ}
theorem OR.Zy{f g:ag→Option aC}(k:fU f g){h:ay}{a d:ag}{o:O}:OR W w f h a d o→OR W w g h a d o:=
 O.casesOn (motive:=λo=>OR W w f h a d o→OR W w g h a d o) o (λN z=>aB z λL x y=>⟨L,x,y.Zw k⟩) (λN z=>aB z λL x y=>⟨L,x,y.Zx k⟩) (λN z=>aB z λL x y=>⟨L,x,y.Zx k⟩)
  (λN N z=>bH z λL x y z=>⟨L,x,y,z.Zx k⟩) (λN z=>bH z λU x y z=>⟨U,x,y,λp E e=>(z p E e).Zv k⟩) (λN z=>aB z λD x y=>⟨D,x.Zw k,y.Zv k⟩) (λN N z=>aB z λL x y=>⟨L,x,y.Zx k⟩)
theorem OR.at{f:ag→Option aC}{h B:ay}{a d:ag}{o:O}:OR W w f h a d o→(∀x,h.get? a=aa x→B.get? a=aa x)→(dK o=ae→∀x,h.get? d=aa x→B.get? d=aa x)→OR W w f B a d o:=
 O.casesOn (motive:=λo=>OR W w f h a d o→(∀x,h.get? a=aa x→B.get? a=aa x)→(dK o=ae→∀x,h.get? d=aa x→B.get? d=aa x)→OR W w f B a d o) o (λN z k N=>aB z λL x y=>⟨L,x.at k,y⟩)
  (λN z k N=>aB z λL x y=>⟨L,eH x λo P r u b c d=>⟨o,P,r,k o u,b,c,d⟩,y⟩) (λN z k N=>aB z λL x y=>⟨L,eH x λo P r u b c d=>⟨o,P,r,k o u,b,c,d⟩,y⟩)
  (λN N z k U=>bH z λL x y z=>⟨L,k _ x,y.at (U rfl),z⟩) (λN z k N=>bH z λJ x y z=>⟨J,k _ x,y,z⟩) (λN z k N=>aB z λD x y=>⟨D,x.at k,y⟩)
  (λN N z k N=>aB z λL x y=>⟨L,dj x λo P u b c=>⟨o,P,k o u,b,c⟩,y⟩)
theorem OR.Zv{f:ag→Option aC}{h:ay}{a d:ag}{o:O}:OR W w f h a d o→∃x,h.get? a=aa x:=
 O.casesOn (motive:=λo=>OR W w f h a d o→∃x,h.get? a=aa x) o (λN z=>aB z λL x y=>x.casesOn λN u=>⟨_,u⟩)
  (λN z=>aB z λL x y=>eH x λo P r u b c d=>⟨o,u⟩) (λN z=>aB z λL x y=>eH x λo P r u b c d=>⟨o,u⟩)
  (λN N z=>bH z λL x y z=>⟨_,x⟩) (λN z=>bH z λU x y z=>⟨_,x⟩) (λN z=>aB z λD x y=>x.casesOn λo P r u N N N N N=>⟨o,u⟩)
  (λN N z=>aB z λL x y=>dj x λo P u b c=>⟨o,u⟩)
theorem OR.Zw{f:ag→Option aC}{h:ay}{a d:ag}{o:O}:OR W w f h a d o→dK o=ae→∃y,h.get? d=aa y:=
 O.casesOn (motive:=λo=>OR W w f h a d o→dK o=ae→∃y,h.get? d=aa y) o (λN N z=>aF z) (λN N z=>aF z) (λN N z=>aF z)
  (λN N z N=>bH z λL x y z=>y.casesOn λo P r u N N N N=>⟨o,u⟩) (λN N z=>aF z) (λN N z=>aF z) (λN N N z=>aF z)
theorem OR.Zx{f:ag→Option aC}{h:ay}{a d:ag}{o:O}:OR W w f h a d o→dK o=ae→∃y P r,h.get? d=aa y∧y.data=.dict P r:=
 O.casesOn (motive:=λo=>OR W w f h a d o→dK o=ae→∃y P r,h.get? d=aa y∧y.data=.dict P r) o (λN N z=>aF z) (λN N z=>aF z) (λN N z=>aF z)
  (λN N z N=>bH z λL x y z=>y.casesOn λo P r u S N N N=>⟨o,P,r,u,S⟩) (λN N z=>aF z) (λN N z=>aF z) (λN N N z=>aF z)
theorem OR.sw{f:ag→Option aC}{h:ay}{a d I:ag}{o:O}:OR W w f h a d o→dK o=aj→OR W w f h a I o:=
 O.casesOn (motive:=λo=>OR W w f h a d o→dK o=aj→OR W w f h a I o) o (λN z N=>z) (λN z N=>z) (λN z N=>z) (λN N N z=>Aa z) (λN z N=>z) (λN z N=>z) (λN N z N=>z)
variable{G:Gh}{Z:St}{h B:ay}
theorem HR.ZA(x:HR W w G Z h)(k:∀b o,h.get? b=aa o→B.get? b=aa o):HR W w G Z B:=by
 revert W w G Z h B;apply ch;generalize e5 _=W,e4 _=w,e3 _=G,e2 _=Z,e1 _=h,e0 _=B;intro x k
 exact
   ⟨λa o e=>k _ _ (x.im a o e),λa o e=>k _ _ (x.pv a o e),x.ip,x.mu.casesOn λi m n=>.mk i (λa o e=>⟨(m a o e).ob.at (k a) (λN=>k _),(m a o e).im,(m a o e).pv⟩) n⟩
structure sT(G:Gh)(Z:St)(r:ag):Prop where
 im:G.im r=ah
 pv:G.pv r=ah
 mu:Z r=ah
theorem fA{O:Type}{x:Option O}(h:∀y,x=aa y→False):x=ah:=a9 (motive:=λx=>(∀y,x=aa y→False)→x=ah) x (λN=>rfl) (λy h=>(h y rfl).elim) h
theorem HR.Zv(x:HR W w G Z h){r:ag}(e:h.get? r=ah):sT G Z r:=
 ⟨fA λo q=>aG (e.symm.trans (x.im r o q)),fA λo q=>aG (e.symm.trans (x.pv r o q)),fA λo q=>x.mu.casesOn λi m n=>aE (m r o q).ob.Zv λy l=>aG (e.symm.trans l)⟩
theorem HR.om(x:HR W w G Z h){a:ag}{o:O}(e:Z a=aa o):G.im a=ah∧G.pv a=ah:=x.mu.casesOn λi m n=>⟨(m a o e).im,(m a o e).pv⟩
theorem HR.Zw{o:aC}{r:ag}(x:HR W w G Z h)(e:G.pv r=aa o):G.im r=ah∧Z r=ah:=
 ⟨fA λy q=>aG ((x.ip r y q).symm.trans e),fA λy q=>aG ((x.om q).2.symm.trans e)⟩
structure Nw(W:aK)(w:aJ)(O:Gh)(M:St)(B:ay)(a:ag):Prop where
 im:∀o,O.im a=aa o→B.get? a=aa o∧O.pv a=ah
 pv:∀o,O.pv a=aa o→B.get? a=aa o
 mu:∀o,M a=aa o→(OR W w O.im B a a o∧dK o=aj)∧O.im a=ah∧O.pv a=ah
structure Sm(G O:Gh)(Z M:St)(h B:ay)(a:ag):Prop where
 im:O.im a=G.im a
 pv:O.pv a=G.pv a
 mu:M a=Z a
 k:∀o,h.get? a=aa o→B.get? a=aa o
theorem HR.ZH{O:Gh}{M:St}(S:ag→Prop)(x:HR W w G Z h)(t:fU G.im O.im)(p:∀a,¬S a→Sm G O Z M h B a)(k:∀a,S a→Nw W w O M B a)
  (s:∀a o,S a→sT G Z a→h.get? a=aa o→∀U r,o.data≠.dict U r):HR W w O M B:=by
 revert W w G Z h B O M S;apply j7;generalize e8 _=W,e7 _=w,e6 _=G,e5 _=Z,e4 _=h,e3 _=B,e2 _=O,e1 _=M,e0 _=S;intro x t p k s;have E:∀{P:Prop} a,(S a→P)→(¬S a→P)→P:=λa f g=>bW (cx (S a)) f g
 refine⟨λa o e=>E a (λc=>((k a c).im o e).1) λc=>(p a c).k o (x.im a o ((p a c).im.symm.trans e)),λa o e=>E a (λc=>(k a c).pv o e) λc=>(p a c).k o (x.pv a o ((p a c).pv.symm.trans e)),
  λa o e=>E a (λc=>((k a c).im o e).2) λc=>(p a c).pv.trans (x.ip a o ((p a c).im.symm.trans e)),x.mu.casesOn λi m n=>?_⟩
 have D:∀a o,Z a=aa o→dK o=ae→¬S (i a):=λa o e z c=>nV ((m a o e).ob.Zx z) λy U r l J=>s (i a) y c ⟨(n a o e z).im,(n a o e z).pv,(n a o e z).mu⟩ l U r J;refine .mk i (λa o e=>E a (λc=>?_) λc=>?_) λa o e z=>E a (λc=>aF (((k a c).mu o e).1.2.symm.trans z)) λc=>?_
 ·exact⟨((k a c).mu o e).1.1.sw ((k a c).mu o e).1.2,((k a c).mu o e).2.1,((k a c).mu o e).2.2⟩
 ·have X:=(p a c).mu.symm.trans e
  exact⟨((m a o X).ob.Zy t).at (p a c).k λz=>(p _ (D a o X z)).k,(p a c).im.trans (m a o X).im,(p a c).pv.trans (m a o X).pv⟩
 ·have X:=(p a c).mu.symm.trans e
  have v:=p _ (D a o X z);have N:=n a o X z;exact⟨v.im.trans N.im,v.pv.trans N.pv,v.mu.trans N.mu,λb H q u=>E b (λj=>aF (((k b j).mu H q).1.2.symm.trans u)) λj=>N.un b H ((p b j).mu.symm.trans q) u⟩
theorem HR.ZB{O:Gh}{M:St}{r:ag}(x:HR W w G Z h)(t:fU G.im O.im)(p:∀a,a≠r→Sm G O Z M h B a)(k:Nw W w O M B r)(s:h.get? r=ah∨¬sT G Z r):HR W w O M B:=
 x.ZH (·=r) t p (λa c=>c▸k) λa o c f e N N N=>s.elim (λq=>aG (q.symm.trans (c▸e))) λq=>q (c▸f)
theorem hV{f:ag→Option aC}{r:ag}{o:aC}(e:f r=ah):fU f (iF f r (aa o)):=λa x q=>(bv f (aa o) λz=>aG (e.symm.trans (z▸q))).trans q
theorem oU{r:ag}{o:aC}(e:G.im r=ah):G.le (G.Zy r o):=⟨hV e,λN o q=>⟨o.slots,q⟩,λN N q=>⟨rfl,λN=>q⟩⟩
theorem Nw.i{O:Gh}{M:St}{r:ag}{o:aC}(a:O.im r=aa o)(b:B.get? r=aa o)(c:O.pv r=ah)(d:M r=ah):Nw W w O M B r:=⟨λy q=>⟨aI (a.symm.trans q)▸b,c⟩,λy q=>aG (c.symm.trans q),λy q=>aG (d.symm.trans q)⟩
theorem Nw.p{O:Gh}{M:St}{r:ag}{o:aC}(a:O.pv r=aa o)(b:B.get? r=aa o)(c:O.im r=ah)(d:M r=ah):Nw W w O M B r:=⟨λy q=>aG (c.symm.trans q),λy q=>aI (a.symm.trans q)▸b,λy q=>aG (d.symm.trans q)⟩
theorem Nw.m{U:Gh}{M:St}{r:ag}{o:O}(a:M r=aa o)(i:dK o=aj)(b:OR W w U.im B r r o)(c:U.im r=ah)(d:U.pv r=ah):Nw W w U M B r:=by
 revert W w B U M r o;apply dQ;generalize e6 _=W,e5 _=w,e4 _=B,e3 _=U,e2 _=M,e1 _=r,e0 _=o;intro a i b c d;exact⟨λy q=>aG (c.symm.trans q),λy q=>aG (d.symm.trans q),λy q=>aI (a.symm.trans q)▸⟨⟨b,i⟩,c,d⟩⟩
theorem Nw.n{O:Gh}{M:St}{r:ag}(b:O.im r=ah)(c:O.pv r=ah)(d:M r=ah):Nw W w O M B r:=by
 revert W w B O M r;apply ch;generalize e5 _=W,e4 _=w,e3 _=B,e2 _=O,e1 _=M,e0 _=r;intro b c d;exact⟨λy q=>aG (b.symm.trans q),λy q=>aG (c.symm.trans q),λy q=>aG (d.symm.trans q)⟩
theorem HR.ZL{r:ag}{o:aC}(x:HR W w G Z h)(e:h.get? r=ah)(k:∀b o,h.get? b=aa o→B.get? b=aa o)(E:B.get? r=aa o):HR W w (G.Zy r o) Z B:=
 x.ZB (hV (x.Zv e).im) (λa c=>⟨bv _ _ c,rfl,rfl,k a⟩) (.i (bE _ _ _) E (x.Zv e).pv (x.Zv e).mu) (.inl e)
theorem HR.ZR{r:ag}{o:aC}(x:HR W w G Z h)(e:h.get? r=ah)(k:∀b o,h.get? b=aa o→B.get? b=aa o)(E:B.get? r=aa o):HR W w (G.Zv r (aa o)) Z B:=
 x.ZB (λN N q=>q) (λa c=>⟨rfl,bv _ _ c,rfl,k a⟩) (.p (bE _ _ _) E (x.Zv e).im (x.Zv e).mu) (.inl e)
noncomputable def Gh.Zz(G:Gh)(a:ag)(o:aC):Gh:=⟨G.im,iF G.pv a (aa o),λb=>if b=a then ae else G.fm b⟩
theorem J2{r:ag}{o:aC}(e:G.pv r=ah):G.le (G.Zz r o):=⟨λN N q=>q,λa x q=>⟨x.slots,hV e a x q⟩,λa x q=>⟨if_neg (λz=>aG (e.symm.trans (z▸q))),λN=>hV e a x q⟩⟩
theorem HR.fm{O A:ag→Option aC}{f c:ag→Bool}(x:HR W w ⟨O,A,f⟩ Z h):HR W w ⟨O,A,c⟩ Z h:=⟨x.im,x.pv,x.ip,x.mu.casesOn λi m n=>.mk i (λa o e=>⟨(m a o e).ob,(m a o e).im,(m a o e).pv⟩) λa o e z=>⟨(n a o e z).im,(n a o e z).pv,(n a o e z).mu,(n a o e z).un⟩⟩
theorem HR.ZF{r:ag}{o H:aC}(x:HR W w G Z h)(e:G.pv r=aa o)(k:gx r h B)(E:B.get? r=aa H):HR W w (G.Zv r (aa H)) Z B:=
 x.ZB (λN N q=>q) (λa c=>⟨rfl,bv _ _ c,rfl,λo q=>k a o c q⟩) (.p (bE _ _ _) E (x.Zw e).1 (x.Zw e).2) (.inr λf=>aG (f.pv.symm.trans e))
end
section
variable{W:aK}{w:aJ}{G:Gh}{Z:St}{h B:ay}
theorem HR.ZJ{r:ag}{o:O}(x:HR W w G Z h)(e:h.get? r=ah)(k:∀b o,h.get? b=aa o→B.get? b=aa o)(f:dK o=aj)(E:OR W w G.im B r r o):HR W w G (Z.Zv r o) B:=
 x.ZB (λN N q=>q) (λa c=>⟨rfl,rfl,St.Zw _ _ c,k a⟩) (.m (St.Zx _ _ _) f E (x.Zv e).im (x.Zv e).pv) (.inl e)
theorem HR.Zx{a:ag}{o H:O}(x:HR W w G Z h)(e:Z a=aa o)(U:dK o=aj)(d:dK H=aj)(k:gx a h B)(E:OR W w G.im B a a H):HR W w G (Z.Zv a H) B:=
 x.ZB (λN N q=>q) (λb c=>⟨rfl,rfl,St.Zw _ _ c,λo q=>k b o c q⟩) (.m (St.Zx _ _ _) d E (x.om e).1 (x.om e).2) (.inr λf=>aG (f.mu.symm.trans e))
theorem HR.or{a:ag}{o:O}(x:HR W w G Z h)(e:Z a=aa o):∃d,OR W w G.im h a d o:=x.mu.casesOn λi m n=>⟨i a,(m a o e).ob⟩
theorem HR.ZC{a:ag}{l:List V}(x:HR W w G Z h)(e:Z a=aa (.list l)):∃L,h.PlainList a L.toArray∧VRs G.im l L:=aE (x.or e) λN y=>y
theorem HR.ZD{a:ag}{l:List V}(x:HR W w G Z h)(e:Z a=aa (.list l)):∃L,h.IsList a L.toArray∧VRs G.im l L:=aB (x.ZC e) λL a b=>⟨L,a.isList,b⟩
theorem HR.Zz{a:ag}{l:List (Int×V)}(x:HR W w G Z h)(e:Z a=aa (.idict l)):∃M,h.DictOf (dI W w) a M∧bR G.im l M:=aE (x.or e) λN y=>y
theorem HR.ZE{a:ag}{r:Nat}{l:List (Int×V)}(x:HR W w G Z h)(e:Z a=aa (.pdict r l)):∃M,h.DictAt (dI W w) a M r∧bR G.im l M:=aE (x.or e) λN y=>y
theorem HR.ZN{a:ag}{l:List (ak×V)}(x:HR W w G Z h)(e:Z a=aa (.sdict l)):∃M,h.DictOf (iY W w) a M∧bR G.im l M:=aE (x.or e) λN y=>y
theorem HR.ZO{a:ag}{q:ak}(x:HR W w G Z h)(e:Z a=aa (.tab q)):∃O,h.get? a=aa (ua O)∧kI O.toList∧∀V E,kH V O.toList=aa E→jC G.im E q:=aE (x.or e) λN y=>y
theorem HR.ZP{a C:ag}{t:List (ak×V)}(x:HR W w G Z h)(e:Z a=aa (.inst C t)):∃d O,h.get? a=aa (io C d)∧de h d O∧bR G.im t O:=aE (x.or e) λd y=>bH y λO p q r=>⟨d,O,p,q,r⟩
theorem HR.ZQ{i:ag→ag}{a C:ag}{d:ag}{t:List (ak×V)}{O:List (ak×ai)}(x:HR W w G Z h)(m:∀a o,Z a=aa o→FG W w G Z h i a o)(n:∀a o,Z a=aa o→dK o=ae→FI G Z i a)
  (A:G.im a=ah∧G.pv a=ah)(j:sT G Z d)(s:d≠a)(u:∀b o,Z b=aa o→dK o=ae→b≠a→i b≠d∧i b≠a)
  (k:∀b o,b≠d→h.get? b=aa o→B.get? b=aa o)(E:B.get? a=aa (io C d))(S:de B d O)(J:bR G.im t O):HR W w G (Z.Zv a (.inst C t)) B:=by
 revert W w G Z h B i a C d t O;apply aX;generalize aT _=W,aL _=w,e9 _=G,e8 _=Z,e7 _=h,e6 _=B,e5 _=i,e4 _=a,e3 _=C,e2 _=d,e1 _=t,e0 _=O;intro x m n A j s u k E S J;have g:∀b o,G.im b=aa o→b≠d:=λb o q z=>aG (j.im.symm.trans (z▸q));have I:∀b o,G.pv b=aa o→b≠d:=λb o q z=>aG (j.pv.symm.trans (z▸q));have L:∀b o,Z b=aa o→b≠d:=λb o q z=>aG (j.mu.symm.trans (z▸q));obtain⟨f,p,l⟩:∃f:ag→ag,f a=d∧∀b,b≠a→f b=i b:=⟨λb=>if b=a then d else i b,if_pos rfl,λb c=>if_neg c⟩;refine⟨λb o q=>k b o (g b o q) (x.im b o q),λb o q=>k b o (I b o q) (x.pv b o q),x.ip,.mk f (λb o q=>?_) λb o q z=>?_⟩
 ·refine bW (cx (b=a)) (λc=>?_) λc=>?_
  ·cases c
   refine aI ((St.Zx _ _ _).symm.trans q)▸⟨⟨O,p.symm▸⟨E,S,J⟩⟩,A.1,A.2⟩
  ·have q:=(St.Zw _ _ c).symm.trans q
   have M:=m b o q;exact⟨(l _ c).symm▸M.ob.at (λy=>k b y (L b o q)) λz y=>k _ y (u b o q z c).1,M.im,M.pv⟩
 ·refine bW (cx (b=a)) (λc=>?_) λc=>?_
  ·subst c
   refine⟨p.symm▸j.im,p.symm▸j.pv,(congrArg (St.Zv Z b _) p).trans ((St.Zw _ _ s).trans j.mu),λY H U r e=>fy λv=>?_⟩;exact(u Y H ((St.Zw _ _ v).symm.trans U) r v).1 ((l _ v).symm.trans (e.trans p))
  ·have q:=(St.Zw _ _ c).symm.trans q
   have N:=n b o q z;refine⟨(l _ c).symm▸N.im,(l _ c).symm▸N.pv,(congrArg (St.Zv Z a _) (l _ c)).trans ((St.Zw _ _ (u b o q z c).2).trans N.mu),λY H U r e=>?_⟩;refine bW (cx (Y=a)) (λv=>?_) λv=>?_
   ·exact absurd ((l _ c).symm.trans (e.symm.trans (v▸p))) (u b o q z c).1
   ·exact N.un Y H ((St.Zw _ _ v).symm.trans U) r ((l _ v).symm.trans (e.trans (l _ c)))
theorem HR.ZV{r d C:ag}{t:List (ak×V)}{O:List (ak×ai)}(x:HR W w G Z h)(e:h.get? r=ah)(L:h.get? d=ah)(U:d≠r)(k:∀b o,h.get? b=aa o→B.get? b=aa o)
  (E:B.get? r=aa (io C d))(S:de B d O)(Y:bR G.im t O):HR W w G (Z.Zv r (.inst C t)) B:=
 x.mu.casesOn λi m n=>x.ZQ m n ⟨(x.Zv e).im,(x.Zv e).pv⟩ (x.Zv L) U (λb o q z N=>aE ((m b o q).ob.Zw z) λu J=>⟨λc=>aG (L.symm.trans (c▸J)),λc=>aG (e.symm.trans (c▸J))⟩) (λb o N=>k b o) E S Y
inductive FE(W:aK)(w:aJ)(G:Gh)(Z:St)(h:ay)(a C:ag)(t:List (ak×V)):Prop
 |mk (d O):h.get? a=aa (io C d)→de h d O→bR G.im t O→(∀B f g,gx d h B→de B d f→bR G.im g f→HR W w G (Z.Zv a (.inst C g)) B)→FE W w G Z h a C t
theorem HR.ZU{a C:ag}{t:List (ak×V)}(x:HR W w G Z h)(e:Z a=aa (.inst C t)):FE W w G Z h a C t:=
 x.mu.casesOn λi m n=>bH (m a _ e).ob λU R H j=>.mk (i a) U R H j λB f g k S J=>by
  have N:=n a _ e rfl;have s:i a≠a:=λc=>aG (N.mu.symm.trans (c▸e));exact x.ZQ m n ⟨(m a _ e).im,(m a _ e).pv⟩ ⟨N.im,N.pv,N.mu⟩ s (λb o q z c=>⟨λO=>c (N.un b o q z O),λO=>aG ((n b o q z).mu.symm.trans (O▸e))⟩) (λb o c q=>k b o c q) (k _ _ (dx s) R) S J
end
noncomputable def pU:List ak:=[aq "T",aq "a",aq "b",aq "k",aq "t",aq "at",aq "op",aq "so",aq "adt",aq "due",aq "key",aq "low",aq "one",aq "own",aq "row",aq "run",aq "tag",aq "top",aq "way",aq "args",aq "body",aq "call",aq "cell",aq "deep",aq "done",aq "each",aq "four",aq "fuel",aq "goal",aq "gone",aq "here",aq "impl",aq "jobs",aq "kept",aq "kind",aq "left",aq "made",aq "many",aq "more",aq "name",aq "part",aq "path",aq "rows",aq "seen",aq "self",aq "size",aq "some",aq "sort",aq "spot",aq "step",aq "text",aq "told",aq "turn",aq "word",aq "after",aq "alike",aq "begin",aq "block",aq "cells",aq "first",aq "found",aq "frame",aq "heard",aq "inner",aq "is_so",aq "kinds",aq "known",aq "local",aq "names",aq "needs",aq "other",aq "pairs",aq "param",aq "parts",aq "place",aq "point",aq "seven",aq "spots",aq "steps",aq "table",aq "there",aq "trait",aq "truth",aq "types",aq "value",aq "world",aq "answer",aq "blocks",aq "bounds",aq "change",aq "consts",aq "figure",aq "inputs",aq "is_mut",aq "memory",aq "module",aq "number",aq "offset",aq "others",aq "parent",aq "places",aq "prints",aq "region",aq "rvalue",aq "script",aq "second",aq "source",aq "target",aq "things",aq "traits",aq "values",aq "answers",aq "is_over",aq "machine",aq "message",aq "modules",aq "operand",aq "pattern",aq "pointer",aq "program",aq "regions",aq "subject",aq "trouble",aq "variant",aq "expected",aq "function",aq "is_there",aq "is_whole",aq "is_write",aq "operands",aq "patterns",aq "subjects",aq "arg_count",aq "reference",aq "selection",aq "statement",aq "types_now",aq "allocation",aq "begun_here",aq "statements",aq "terminator",aq "trait_args",aq "locals_told"]
noncomputable def NM(i:Nat):ak:=pU.getD i (aq "")
noncomputable def mV(s:ak):Nat:=s.cps.toList.foldl (λh c=>h*1114112+c) 1
noncomputable def mI:List Nat→Bool
 |a::b::r=>kQ a b&&mI (b::r)
 |_=>ae
theorem wZ:∀{l:List Nat} {a:Nat},mI (a::l)=ae→∀b∈l,a<b
 | [],_,_,_,h=>nomatch h
 |b::r,a,h,c,m=>by
  refine bu (cj.mp h) λR H=>?_;have R:=gz R;rcases bf.mp m with rfl|m
  ·exact R
  ·exact Nat.lt_trans R (wZ H c m)
theorem w6:∀{l:List Nat},mI l=ae→∀(i j x:Nat),l[i]? =aa x→l[j]? =aa x→i=j
 | [],_,_,_,_,h,_=>by simp at h
 |a::r,h,0,0,_,_,_=>rfl
 |a::r,h,0,j+1,x,R,H=>by
  simp at R H;subst R;exact absurd (wZ h _ (kR H)) (jK _)
 |a::r,h,i+1,0,x,R,H=>by
  simp at R H;subst H;exact absurd (wZ h _ (kR R)) (jK _)
 |a::r,h,i+1,j+1,x,R,H=>by
  simp at R H
  have B:mI r=ae:=by
   cases r with
   |nil=>rfl
   |cons b r=>exact(cj.mp h).2
  exact congrArg (·+1) (w6 B i j x R H)
noncomputable def cB:Nat:=143
theorem OF:(mI (pU.map mV)&&cI pU.length cB)=ae:=by decide+kernel
theorem yU{i j:Nat}(f:i<cB)(J:j<cB)(h:i≠j):NM i≠NM j:=by
 refine bu (cj.mp OF) λR H=>?_;have C:pU.length=cB:=gA H
 have c:∀k,k<cB→(pU.map mV)[k]? =aa (mV (NM k)):=λk U=>by
  rw[jf];rw[l7 (C▸U)];unfold NM;rw[zQ];rw[l7 (C▸U)];rfl
 intro e;exact h (w6 R i j _ (c i f) (e▸c j J))
inductive jA(G:Gh)(O:aH)(x:ak)(Y:ai):Prop
 |mk (o P r):O.kindOf x=aa .local →G.pv O.locals=aa o→o.data=.dict P r→i9 P→ew P x=aa Y→jA G O x Y
inductive nz(G:Gh)(O:aH)(x:ak)(Y:ai):Prop
 |mk (c o):(O.kindOf x=aa .cell∨O.kindOf x=aa .free)→O.cells.lookup x=aa c→G.pv c=aa o→o.data=.cell (aa Y)→nz G O x Y
inductive m8(G:Gh)(O:aH)(x:ak)(v:V):Prop
 |n (Y):VR G.im v Y→jA G O x Y→m8 G O x v
 |c (Y):VR G.im v Y→nz G O x Y→m8 G O x v
theorem jA.le{G W:Gh}{O:aH}{x:ak}{v:ai}(k:G.le W)(h:jA G O x v):jA W O x v:=h.casesOn λo P r a b c d e=>aE (k.pv _ _ b) λM Y=>.mk _ P r a Y c d e
theorem nz.le{G W:Gh}{O:aH}{x:ak}{v:ai}(k:G.le W)(h:nz G O x v):nz W O x v:=h.casesOn λc o a b d e=>aE (k.pv _ _ d) λM I=>.mk c _ a b I e
theorem m8.le{G W:Gh}{O:aH}{x:ak}{v:V}(k:G.le W)(h:m8 G O x v):m8 W O x v:=h.casesOn (λY h z=>.n Y (h.Zv k.im) (z.le k)) λY h z=>.c Y (h.Zv k.im) (z.le k)
abbrev aA:=List (Nat×V)
inductive sU(G:Gh)(O:aH):Prop
 |mk (o P r):G.pv O.locals=aa o→o.data=.dict P r→i9 P→sU G O
inductive th(G:Gh)(O:aH)(x:ak):Prop
 |mk (c o v):O.cells.lookup x=aa c→G.pv c=aa o→o.data=.cell v→th G O x
structure ER(G:Gh)(O:aH)(S:aA):Prop where
 vars:∀p∈S,p.1<cB∧m8 G O (NM p.1) p.2
 ns:sU G O
 cells:∀x,O.kindOf x=aa .cell→th G O x
 cl:∀x c,O.cells.lookup x=aa c→∃o,G.pv c=aa o
theorem pK{a:List (ak×ag)}{G:Gh}{r:ag}{o:aC}(h:∀x c,a.lookup x=aa c→∃o,G.pv c=aa o):∀x c,a.lookup x=aa c→∃H,(G.Zv r (aa o)).pv c=aa H:=λx c e=>
 bW (cx (c=r)) (λq=>⟨o,q▸bE _ _ _⟩) λq=>aE (h x c e) λH u=>⟨H,(bv _ _ q).trans u⟩
theorem ER.le{G W:Gh}{O:aH}{S:aA}(k:G.le W)(x:ER G O S):ER W O S:=
 ⟨λp t=>⟨(x.vars p t).1,(x.vars p t).2.le k⟩,x.ns.casesOn λo P r a b c=>aE (k.pv _ _ a) λM A=>.mk _ P r A b c,λy l=>(x.cells y l).casesOn λc o v a b d=>aE (k.pv _ _ b) λM Y=>.mk c _ v a Y d,
  λy c e=>aE (x.cl y c e) λo a=>aE (k.pv _ _ a) λM b=>⟨_,b⟩⟩
structure Sc where
 names:List (ak×dX)
 code:ai
 qual:ak
instance:Nonempty Sc:=⟨by constructor<;>exact gU inferInstance⟩
structure dG(O:aH)(I:Sc):Prop where
 names:O.scope.names=I.names
 code:O.code=I.code
 qual:O.qual=I.qual
structure Fz(A:aD)(O:aH)(n:Nat):Prop where
 hd:A.handled=ah
 dp:A.depth+2*n≤900
 un:A.units+20*n≤9000
 kd:O.scope.kind=.function
 gl:O.globals=bp
 bl:O.builtins=lY
 c1:∀x y c,O.cells.lookup x=aa c→O.cells.lookup y=aa c→x=y
 c2:∀x c,O.cells.lookup x=aa c→c≠O.locals
 fr:∃g l,A.frames=aa (g::l)∧O.frame=g.frame
theorem UB{a n m k l:Nat}(x:a+k*n≤l)(h:m≤n):a+k*m≤l:=aW (iy (Nat.mul_le_mul_left k h) a) x
structure Fo(A:aD)(n:Nat):Prop where
 hd:A.handled=ah
 dp:A.depth+2*n≤900
 un:A.units+20*n≤9000
theorem Fz.fo{A:aD}{O:aH}{n:Nat}(x:Fz A O n):Fo A n:=⟨x.hd,x.dp,x.un⟩
structure Cx(K:aY)(J:ay):Prop where
 X:K.In J
 T:∃p O Q f,TopRead p O Q f J
 nl:J.NoLimit
 sm:∃o,J.get? sysModules=aa o
inductive tc(G:Gh)(O:aH):Prop
 |mk (L o):O.scope.kind≠.module→O.frame=aa L→G.pv L=aa o→(∀W,o.data≠.fields W)→G.fm L=ae→tc G O
inductive fE(A:aD)(G:Gh):Prop
 |mk (l):A.frames=aa l→(∀O∈l,tc G O)→fE A G
theorem fE.le{A:aD}{G W:Gh}(k:G.le W)(x:fE A G):fE A W:=x.casesOn λl e h=>.mk l e λO z=>(h O z).casesOn λL o a b c d f=>aE (k.pv _ _ c) λM v=>.mk L _ a b v d ((k.fx _ _ c).1.trans f)
theorem fE.Zv{A:aD}{G:Gh}{r:ag}{o:aC}(h:∀W,o.data≠.fields W)(x:fE A G):fE A (G.Zv r (aa o)):=x.casesOn λl e k=>.mk l e λO z=>(k O z).casesOn λL H a b c d f=>
 bW (cx (L=r)) (λq=>.mk L o a b (q▸bE _ _ _) h f) λq=>.mk L H a b ((bv _ _ q).trans c) d f
structure cW(J:ay)(A:aD)(G:Gh):Prop where
 t:∀a o,J.get? a=aa o→G.im a=aa o
 fr:fE A G
theorem cW.le{J:ay}{A:aD}{G O:Gh}(k:G.le O)(x:cW J A G):cW J A O:=⟨λa o e=>k.im _ _ (x.t a o e),x.fr.le k⟩
noncomputable def OG:ag:=83
inductive sP(h:ay)(e T:ag)(y:ai):Prop
 |mk (v O):T≠e→h.get? T=aa v→v.cls=.type "traceback"→v.data=.fields O→O[3]? =aa y→sP h e T y
def yR(h:ay)(e:ag)(L:Array ai):Option (ag×ai)→Prop:=λV=>a9 (motive:=λ_=>Prop) V (L[1]? =aa .none) λp=>L[1]? =aa (.ref p.1)∧sP h e p.1 p.2
inductive FM(h:ay)(e D:ag)(V:Option (ag×ai)):Prop
 |mk (J L):h.get? e=aa J→J.cls=.ref OG→J.dict=aa D→J.data=.fields L→1<L.size→yR h e L V→FM h e D V
inductive za(A:aD)(y:ai):Prop
 |n:y=.none→za A y
 |f (O l L):A.frames=aa (O::l)→O.frame=aa L→y=eY L→za A y
def qb(A:aD):Option (ag×ai)→Prop:=λV=>a9 (motive:=λ_=>Prop) V True λp=>za A p.2
section
variable(W:aK)(w:aJ)(K:aY)(J:ay)
inductive Fj(h:ay)(D:ag)(k:ak):Prop
 |mk (O t):de h D O→O.lookup (aq "kind")=aa (.str k t)→Fj h D k
structure fV(A:aD)(G:Gh)(Z:St)(h:ay)(k:ak)(e D:ag)(V:Option (ag×ai)):Prop where
 hr:HR W w G Z h
 fr:fE A G
 ex:FM h e D V
 off:(G.im e=ah∧G.pv e=ah)∧G.pv D=ah
 offT:∀T y,V=aa (T,y)→G.im T=ah∧G.pv T=ah
 kd:Fj h D k
inductive gO(A:aD)(G:Gh)(Z:St)(h:ay)(k:ak)(Y:ai):Prop
 |mk (e D V):Y=.ref e→qb A V→fV W w A G Z h k e D V→gO A G Z h k Y
def KX(A:aD)(G:Gh)(s:aw)(X:ak→St→Prop)(Z:ai→aw→Prop):Prop:=
 ∀k Y O M B u,G.le O→gO W w A O M B k Y→X k M→Z Y {s with heap:=B,toks:=u}
structure Dy(A:aD)(O:aH)(G:Gh)(S:aA)(Z:St)(h:ay):Prop where
 top:cW J A G
 hr:HR W w G Z h
 er:ER G O S
def AE(n:Nat)(I:Sc)(L:aA)(e:ar)(N:St)(Q:V→St→Prop)(X:ak→St→Prop):Prop:=
 ∀A O G s,dG O I→Fz A O n→Dy W w J A O G L N s.heap→∀U Y,
  (∀v S Z M B u,G.le Z→HR W w Z M B→VR Z.im v S→Q v M→U S {s with heap:=B,toks:=u})→
  KX W w A G s X Y→
  au (av W w) A (a7 e O) U Y s
def aS(n:Nat)(I:St)(args:List V)(t:List ai→bI ai)(Q:V→St→Prop)(X:ak→St→Prop):Prop:=
 ∀A G s Z,Fo A n→cW J A G→HR W w G I s.heap→VRs G.im args Z→∀U Y,
  (∀v S O M B u,G.le O→HR W w O M B→VR O.im v S→Q v M→U S {s with heap:=B,toks:=u})→
  KX W w A G s X Y→
  au (av W w) A (t Z) U Y s
def AT(n:Nat)(I:Sc)(S:aA)(e:ar)(V:St)(Q:Bool→St→Prop)(X:ak→St→Prop):Prop:=
 ∀A O G s,dG O I→Fz A O n→Dy W w J A O G S V s.heap→∀Z U,
  (∀b Y M B u,G.le Y→HR W w Y M B→Q b M→Z b {s with heap:=B,toks:=u})→
  KX W w A G s X U→
  au (av W w) A (isTrue e O (a7 e O)) Z U s
def AL(n:Nat)(N:Sc)(R:aA)(Y:aN)(P:List ar)(H:St)(Q:List V→St→Prop)(X:ak→St→Prop):Prop:=
 ∀A O G s,dG O N→Fz A O n→Dy W w J A O G R H s.heap→∀S B,
  (∀L Z U M I u,G.le U→HR W w U M I→VRs U.im L Z→Q L M→S Z {s with heap:=I,toks:=u})→
  KX W w A G s X B→
  au (av W w) A (nE (cQ Y (bw P O))) S B s
end
section
variable{W:aK}{w:aJ}{K:aY}{J:ay}{n:Nat}{I:Sc}{S:aA}{Z:St}{X:ak→St→Prop}
theorem KX.Zv{A:aD}{G O:Gh}{s:aw}{R:ay}{U:Nat}{Y:ai→aw→Prop}(d:KX W w A G s X Y)(g:G.le O):KX W w A O {s with heap:=R,toks:=U} X Y:=
 λk V B M L u v f x=>d k V B M L u (g.Zv v) f x
theorem KX.Zw{A:aD}{G:Gh}{s:aw}{O:ai→aw→Prop}{H:ak→St→Prop}(d:KX W w A G s H O)(a:∀x Z,X x Z→H x Z):KX W w A G s X O:=
 λk Y U M B u v f x=>d k Y U M B u v f (a _ _ x)
theorem Dy.Zv{A:aD}{O:aH}{G U:Gh}{M:St}{h B:ay}(D:Dy W w J A O G S Z h)(k:G.le U)(x:HR W w U M B):Dy W w J A O U S M B:=⟨D.top.le k,x,D.er.le k⟩
theorem AE.ZL{k O}{Q:V→St→Prop}(h:Q .none Z):AE W w J n I S (.Constant .none k O) Z Q X:=
 λN N N s N N D N N E N=>λN N N=>E _ _ _ _ s.heap s.toks (.Zw _) D.hr .none h
theorem AE.ZK{b k O}{Q:V→St→Prop}(h:Q (.bool b) Z):AE W w J n I S (.Constant (.bool b) k O) Z Q X:=
 λN N N s N N D N N E N=>λN N N=>E _ _ _ _ s.heap s.toks (.Zw _) D.hr (.bool b) h
theorem AE.ZW{i k O}{Q:V→St→Prop}(h:Q (.int i) Z):AE W w J n I S (.Constant (.int i) k O) Z Q X:=
 λN N N N N N D N N E N=>zm (E _ _ _ _ _ _ (.Zw _) D.hr (.int i _) h)
theorem AE.ZX{x k O}{Q:V→St→Prop}(h:Q (.str x) Z):AE W w J n I S (.Constant (.str x) k O) Z Q X:=
 λN N N N N N D N N E N=>FY (E _ _ _ _ _ _ (.Zw _) D.hr (.str x _) h)
theorem BV{A:aD}{O:aH}{G:Gh}{s:aw}{i:Nat}{x:ak}{v:V}{L:ai→aw→Prop}{M:ai→aw→Prop}(N:NM i=x)(b:(i,v)∈S)(F:Fz A O n)(D:Dy W w J A O G S Z s.heap)(R:(x==("__classdict__":ak))=aj)
  (h:∀Y,VR G.im v Y→L Y s):au (av W w) A (loadName O x) L M s:=(N▸(D.er.vars _ b).2:m8 G O x v).casesOn
 (λY g z=>z.casesOn λo P r B u U T H=>zk (m:=ew P) F.kd B ⟨o,P,r,D.hr.pv _ _ u,U,T,λj=>rfl⟩ H (h Y g))
 λY g z=>z.casesOn λc o B C u U=>B.elim (λB=>wpAny_loadName_cell F.kd B C ⟨o,D.hr.pv _ _ u,U⟩ (h Y g))
  λB=>wpAny_loadName_free F.kd B C ⟨o,D.hr.pv _ _ u,U⟩ (h Y g) R
theorem AE.Z5{i:Nat}{x:ak}{v:V}{O:aN}{Q:V→St→Prop}(U:NM i=x)(b:(i,v)∈S)(h:Q v Z)(Y:(x==("__debug__":ak))=aj)(m:(x==("__classdict__":ak))=aj):
  AE W w J n I S (.Name x O) Z Q X:=λA L G s N F D M R E N=>wpAny_Name (BV U b F D m λB g=>E v B G Z s.heap s.toks (.Zw _) D.hr g h) Y
theorem AE.Zz{e:ar}{Q Q' :V→St→Prop}{H:ak→St→Prop}(h:AE W w J n I S e Z Q X)(k:∀v Z,Q v Z→Q' v Z)(U:∀x Z,X x Z→H x Z):AE W w J n I S e Z Q' H:=
 λA O G s T F D Y B E L=>h A O G s T F D Y B (λv N R M u g a b c d=>E v N R M u g a b c (k _ _ d)) (L.Zw U)
theorem qO{A:aD}{O:aH}{G:Gh}{s:aw}{l r:ar}{Q:V→V→St→Prop}{d:ai→ai→aw→Prop}{u:ai→aw→Prop}
  (h:AE W w J n I S l Z (λa U=>AE W w J n I S r U (λb f=>Q a b f) X) X)(T:dG O I)(F:Fz A O n)(D:Dy W w J A O G S Z s.heap)
  (y:∀a b m e H M t v,G.le H→HR W w H M t→VR H.im a m→VR H.im b e→Q a b M→d m e {s with heap:=t,toks:=v})
  (E:KX W w A G s X u):
  au (av W w) A (a7 l O) (λa B=>au (av W w) A (a7 r O) (λb o=>d a b o) u B) u s:=
 h A O G s T F D _ _ (λa m L U z C g j c k=>k A O L _ T F (D.Zv g j) _ _
  (λb e N f p i Y R P q=>y a b m e N f p i (g.Zv Y) R (c.Zv Y.im) P q) (E.Zv g)) E
theorem AL.Zw{O:aN}{Q:List V→St→Prop}(h:Q [] Z):AL W w J n I S O [] Z Q X:=
 λN N N s N N D N N E N=>aR (E _ _ _ _ s.heap s.toks (.Zw _) D.hr .nil h)
theorem AL.Zv{Y:aN}{e:ar}{r:List ar}{Q:List V→St→Prop}(h:AE W w J n I S e Z (λv U=>AL W w J n I S Y r U (λN f=>Q (v::N) f) X) X)
  (z:∀O,bw (e::r) O=(aj,a7 e O)::bw r O):AL W w J n I S Y (e::r) Z Q X:=by
 intro A O G s T F D C t E d;rw[z O];refine(?_:au _ _ (do let v←a7 e O;let b←a8 [v];return b++(←fw b (nE (cQ Y (bw r O))))) _ _ _);refine az (h A O G s T F D _ _ (λv m B U R M g j c H=>?_) d);refine az (aR (az (cC ?_)));exact H A O B _ T F (D.Zv g j) _ _ (λN u L f p i a l P q=>aR (E _ _ L f p i (g.Zv a) l (.cons (c.Zv a.im) P) q)) (d.Zv g)
theorem eV(h:ay):h.get? h.objs.size=ah:=fA λo q=>absurd (eZ q) (jK _)
inductive Fe(W:aK)(w:aJ)(G:Gh)(Z:St)(h B:ay)(r:ag)(o:aC):Prop
 |mk:G.le (G.Zy r o)→HR W w (G.Zy r o) Z B→(G.Zy r o).im r=aa o→Fe W w G Z h B r o
theorem HR.Zy{G:Gh}{h:ay}{o:aC}(x:HR W w G Z h)(O:o.isFreed=aj):Fe W w G Z h (h.push o) h.objs.size o:=
 ⟨oU (x.Zv (eV h)).im,x.ZL (eV h) (λN N e=>bM _ e) (gQ _ O),bE _ _ _⟩
theorem gG{f:ag→Option aC}{L:List V}{O:List ai}(v:VRs f L O)(q:L.length≤1000):O.toArray.size≤eX:=aW (cN (dz.trans v.Zv)) (aW q (by decide))
theorem AE.ZQ{P:List ar}{k:Nat}{Y:aN}{Q:V→St→Prop}(h:AL W w J n I S Y P Z (λL U=>L.length≤1000∧Q (.tup L) U) X):AE W w J n I S (.Tuple P k Y) Z Q X:=
 λA B G s T F D u C E d=>Tuple_ (h A B G s T F D _ _ (λL M R U H N g j O q=>(j.Zy (o:=t8 M) rfl).casesOn λa b c=>nB (E _ _ _ _ _ _ (g.Zv a) b (.tup c (O.Zw a.im)) q.2) (gG O q.1)) d)
theorem AE.ZM{P:List ar}{Y:aN}{Q:V→St→Prop}(h:AL W w J n I S Y P Z (λL U=>L.length≤1000∧Q (.lst L) U) X):AE W w J n I S (.List P Y) Z Q X:=
 λA B G s T F D u C E d=>List_ (h A B G s T F D _ _ (λL M R U H N g j O q=>(j.Zy (o:=my M) rfl).casesOn λa b c=>nB (E _ _ _ _ _ _ (g.Zv a) b (.lst c (O.Zw a.im)) q.2) (gG O q.1)) d)
theorem AE.ZN{P:List ar}{O:aN}{Q:V→St→Prop}(h:AL W w J n I S O P Z (λL U=>L.length≤1000∧∀a,U a=ah→Q (.obj a) (U.Zv a (.list L))) X):AE W w J n I S (.List P O) Z Q X:=
 λA B G s T F D u C E d=>List_ (h A B G s T F D _ _ (λL M Y U R N g j c q=>nB (E _ _ Y _ _ _ g (j.ZJ (o:=.list L) (eV _) (λH H e=>bM _ e) rfl ⟨M,⟨_,gQ _ rfl⟩,c⟩) (.obj _) (q.2 _ (j.Zv (eV _)).mu)) (gG c q.1)) d)
end
noncomputable abbrev t1(f:ai→bI ai):List ai→bI ai:=λO=>f (O.getD 0 .none)
noncomputable abbrev t2(f:ai→ai→bI ai):List ai→bI ai:=λO=>f (O.getD 0 .none) (O.getD 1 .none)
noncomputable abbrev t3(f:ai→ai→ai→bI ai):List ai→bI ai:=λO=>f (O.getD 0 .none) (O.getD 1 .none) (O.getD 2 .none)
noncomputable abbrev mC(l:List V):Option Bool:=if l.length≤1000 then aa (!l.isEmpty)else ah
noncomputable def md(o:Option O):Option Bool:=a9 o ah λo=>O.casesOn o mC (λ_=>ah) (λ_=>ah) (λ_ _=>ah) (λ_=>ah) (λ_=>ah) λ_ _=>ah
noncomputable def d7(Z:St)(v:V):Option Bool:=V.casesOn (motive_1:=λ_=>Option Bool) v (aa aj) aa (λi=>aa (i !=0)) (λ_=>ah) mC mC λa=>md (Z a)
section
variable{W:aK}{w:aJ}{K:aY}{J:ay}{n:Nat}{I:Sc}{S:aA}{Z:St}{X:ak→St→Prop}{Q:V→St→Prop}
theorem AE.ZA{l r:ar}{z:qp}{Y:aN}(h:AE W w J n I S l Z (λa U=>AE W w J n I S r U (λb f=>aS W w J n f [a,b] (t2 (gu z)) Q X) X) X):AE W w J n I S (.BinOp l z r Y) Z Q X:=by
 intro A i G s T F D p c E L
 exact wpAny_BinOp (qO h T F D (λa b m e O U R B g j P N d=>d A O _ [m,e] F.fo (D.top.le g) j (.cons P (.cons N .nil)) _ _
  (λv u C M t y k H V q=>E v u C M t y (g.Zv k) H V q) (L.Zv g)) L)
theorem AE.ZZ{l r:ar}{z:CmpOp}{Y:aN}(h:AE W w J n I S l Z (λa U=>AE W w J n I S r U (λb f=>aS W w J n f [a,b] (t2 (bB z)) Q X) X) X)
  (N:behindInMarks z r=aj):AE W w J n I S (.Compare l [z] [r] Y) Z Q X:=by
 intro A p G s T F D c o E L
 exact wpAny_Compare1 (qO h T F D (λa b m e O U R B g j P u d=>d A O _ [m,e] F.fo (D.top.le g) j (.cons P (.cons u .nil)) _ _
  (λv C t M y i k H V q=>E v C t M y i (g.Zv k) H V q) (L.Zv g)) L) N
def Tr(Z:St)(v:V)(b:Bool):Prop:=d7 Z v=aa b
theorem Kk{l:List V}{L:List ai}(h:L.length=l.length):(!L.toArray.isEmpty)= !l.isEmpty:=by
 cases l with
 |nil=>exact(zS h)▸rfl
 |cons _ _=>cases L with
  |nil=>exact Nat.noConfusion h
  |cons _ _=>rfl
theorem JZ{l:List V}{b:Bool}{P:Prop}(h:mC l=aa b)(c:l.length≤1000→(!l.isEmpty)=b→P):P:=
 bW (cx (l.length≤1000)) (λq=>c q (aI ((if_pos q).symm.trans h))) λq=>aG ((if_neg q).symm.trans h)
theorem GX{o:Option O}{b:Bool}{P:Option O→Prop}(h:md o=aa b)(c:∀l,mC l=aa b→P (aa (.list l))):P o:=
 a9 (motive:=λo=>md o=aa b→P o) o (λh=>aG h) (λo=>O.casesOn (motive:=λo=>md (aa o)=aa b→P (aa o)) o c (λN h=>aG h) (λN h=>aG h) (λN N h=>aG h) (λN h=>aG h) (λN h=>aG h) λN N h=>aG h) h
theorem o6{n:Nat}(h:n≤1000):(n:Int)<2^63:=zU (Int.ofNat_le.mpr h) (by decide)
theorem mB{l:List V}{L:List ai}{f:ag→Option aC}{b:Bool}(h:mC l=aa b)(e:VRs f l L):(L.toArray.size:Int)<2^63∧(!L.toArray.isEmpty)=b:=JZ h λq z=>⟨o6 (aW (cN (dz.trans e.Zv)) q),(Kk e.Zv).trans z⟩
theorem qH{A:aD}{E:ai→aw→Prop}{s:aw}{G:Gh}{v:V}{Y:ai}{b:Bool}{Q:Bool→aw→Prop}(H:HR W w G Z s.heap)(h:VR G.im v Y)(t:Tr Z v b)(q:∀O,Q b {s with toks:=O}):au (av W w) A (truthy Y) Q E s:=
 V.casesOn (motive_1:=λv=>VR G.im v Y→d7 Z v=aa b→au (av W w) A (truthy Y) Q E s) v (λh t=>h.eN λN N N=>(aI t▸q s.toks:Q aj s)) (λc h t=>h.eB (aI t▸zj (q s.toks)))
  (λi h t=>h.eI λu=>truthy_int (aI t▸q s.toks)) (λN N t=>aG t)
  (λl h t=>h.eT λr m L d U=>truthy_tuple (items:=L.toArray) ⟨_,H.im _ _ d,rfl,m,rfl⟩ (mB t U).1 ((mB t U).2.symm▸q _))
  (λl h t=>h.eL λr m L d U=>wpAny_truthy_list (items:=L.toArray) ⟨_,H.im _ _ d,rfl,m,rfl⟩ (mB t U).1 ((mB t U).2.symm▸q _))
  (λa h t=>h.eO (GX (P:=λo=>Z a=o→au (av W w) A (truthy (.ref a)) Q E s) t (λl t e=>aB (H.ZD e) λL B U=>wpAny_truthy_list B (mB t U).1 ((mB t U).2.symm▸q _)) rfl)) h t
theorem AT.ZB{e:ar}{Q:Bool→St→Prop}(h:AE W w J n I S e Z (λv U=>∃b,Tr U v b∧Q b U) X)
  (z:∀O a,isTrue e O a=(do let v←a;dW e.pos;fw [v] (truthy v))):AT W w J n I S e Z Q X:=by
 intro A O G N T F D B L E d;refine wpAny_isTrue_value (h A O G N T F D _ _ (λv M V U R Y g j c i=>?_) d) (z _ _);refine aB (i) λb t q=>?_;exact qH (s:={N with heap:=R,toks:=Y}) j c t λu=>E b V U R u g j q
theorem AT.Zz{l r:ar}{z:CmpOp}{Y:aN}{Q:Bool→St→Prop}(h:AE W w J n I S l Z (λa U=>AE W w J n I S r U (λb f=>aS W w J n f [a,b] (t2 (bB z)) (λv m=>∃c,Tr m v c∧Q c m) X) X) X)
  (C:behindInMarks z r=aj):AT W w J n I S (.Compare l [z] [r] Y) Z Q X:=by
 intro A x G Vv T F D RQ RE E L
 exact wpAny_isTrue_Compare1 (qO h T F D (λa b P e O U R B g j y i d=>d A O _ [P,e] F.fo (D.top.le g) j (.cons y (.cons i .nil)) _ _
  (λv rv p M N u k H V o=>by
   refine aB (o) λc t q=>?_;exact qH (s:={Vv with heap:=N,toks:=u}) H V t λu=>E c p M N u (g.Zv k) H q) (L.Zv g)) L) C
theorem AT.ZA{x:ar}{V:aN}{Q:Bool→St→Prop}(h:AT W w J n I S x Z (λb=>Q (!b)) X):AT W w J n I S (.UnaryOp .Not x V) Z Q X:=by
 intro A O G s T F D Y L E d;exact wpAny_isTrue_Not (h A O G s T F D _ _ (λb U M B u k H q=>E (!b) U M B u k H q) d)
def dU(W:aK)(w:aJ)(J:ay)(z:fK)(n:Nat)(I:Sc)(S:aA)(P:List ar)(Z:St)(Q:Bool→St→Prop)(X:ak→St→Prop):Prop:=
 ∀A O G s,dG O I→Fz A O n→Dy W w J A O G S Z s.heap→∀U Y,
  (∀b V M B u,G.le V→HR W w V M B→Q b M→U b {s with heap:=B,toks:=u})→
  KX W w A G s X Y→
  au (av W w) A (allTrue z P O) U Y s
theorem dU.Zx{Q:Bool→St→Prop}(h:Q ae Z):dU W w J .And n I S [] Z Q X:=
 λN N N s N N D N N E N=>wpAny_allTrue_And_nil (E _ _ _ s.heap s.toks (.Zw _) D.hr h)
theorem dU.Zz{Q:Bool→St→Prop}(h:Q aj Z):dU W w J .Or n I S [] Z Q X:=
 λN N N s N N D N N E N=>wpAny_allTrue_Or_nil (E _ _ _ s.heap s.toks (.Zw _) D.hr h)
theorem dU.Zw{x:ar}{r:List ar}{Q:Bool→St→Prop}(h:AT W w J n I S x Z (λb U=>if b then dU W w J .And n I S r U Q X else Q aj U) X):dU W w J .And n I S (x::r) Z Q X:=by
 intro A V G s T F D N C E d;refine wpAny_allTrue_And_cons (h A V G s T F D _ _ (λb O U R Y g j q=>?_) d);cases b with
 |false=>exact E aj O U R Y g j q
 |true=>exact q A V O _ T F (D.Zv g j) _ _ (λb B M L u k H q=>E b B M L u (g.Zv k) H q) (d.Zv g)
theorem dU.Zy{x:ar}{r:List ar}{Q:Bool→St→Prop}(h:AT W w J n I S x Z (λb U=>if b then Q ae U else dU W w J .Or n I S r U Q X) X):dU W w J .Or n I S (x::r) Z Q X:=by
 intro A V G s T F D N C E d;refine wpAny_allTrue_Or_cons (h A V G s T F D _ _ (λb O U R Y g j q=>?_) d);cases b with
 |true=>exact E ae O U R Y g j q
 |false=>exact q A V O _ T F (D.Zv g j) _ _ (λb B M L u k H q=>E b B M L u (g.Zv k) H q) (d.Zv g)
theorem AT.Zy{z:fK}{P:List ar}{V:aN}{Q:Bool→St→Prop}(h:dU W w J z n I S P Z Q X):AT W w J n I S (.BoolOp z P V) Z Q X:=
 λA O G s T F D U Y E d=>wpAny_isTrue_BoolOp (h A O G s T F D U Y E d)
theorem AE.ZJ{t b o:ar}{B:aN}(h:AT W w J n I S t Z (λc U=>if c then AE W w J n I S b U Q X else AE W w J n I S o U Q X) X):AE W w J n I S (.IfExp t b o B) Z Q X:=by
 intro A O G s T F D z m E d;refine wpAny_IfExp (h A O G s T F D _ _ (λc Y U R L g j q=>?_) d);cases c<;>exact q A O Y _ T F (D.Zv g j) _ _ (λv N u M C P k H V q=>E v N u M C P (g.Zv k) H V q) (d.Zv g)
theorem AE.Z2{x:ar}{V:aN}(h:AE W w J n I S x Z (λv U=>∃b,Tr U v b∧Q (.bool (!b)) U) X):AE W w J n I S (.UnaryOp .Not x V) Z Q X:=by
 intro A B G H T F D L M E d;refine wpAny_UnaryOp (h A B G H T F D _ _ (λv N Y U R O g j c i=>not_of ?_) d);refine aB (i) λb t q=>?_;exact qH (s:={H with heap:=R,toks:=O}) j c t λu=>E _ _ Y U R u g j (.bool _) q
theorem aS.Zy{a b:V}{f:ai→ai→bI ai}(h:∀A G s m e O U,Fo A n→cW J A G→HR W w G Z s.heap→VR G.im a m→VR G.im b e→
  (∀v Y u,VR G.im v Y→Q v Z→O Y {s with toks:=u})→au (av W w) A (f m e) O U s):aS W w J n Z [a,b] (t2 f) Q X:=
 λA G s L F T H M O U E d=>VRs.e2 M λm e P B=>h A G s m e O U F T H P B λv Y u M q=>E v Y G Z s.heap u (.Zw _) H M q
theorem aS.ii{a b:Int}{v:V}{f:ai→ai→bI ai}(h:∀A s t u (O:ai→aw→Prop) U,(∀Y B,(∀L,VR L v Y)→O Y {s with toks:=B})→au (av W w) A (f (.int a t) (.int b u)) O U s)(q:Q v Z):aS W w J n Z [.int a,.int b] (t2 f) Q X:=
 .Zy λA G s m e O U F T H P M k=>P.eI λt=>M.eI λu=>h A s t u O U λY B N=>k v Y B (N _) q
theorem aS.ss{a b:ak}{v:V}{f:ai→ai→bI ai}(h:∀A s t u (O:ai→aw→Prop) U,(∀Y B,(∀L,VR L v Y)→O Y {s with toks:=B})→au (av W w) A (f (.str a t) (.str b u)) O U s)(q:Q v Z):aS W w J n Z [.str a,.str b] (t2 f) Q X:=
 .Zy λA G s m e O U F T H P M k=>P.eS λt=>M.eS λu=>h A s t u O U λY B N=>k v Y B (N _) q
theorem aS.ZI{a b:Int}(q:Q (.int (a+b)) Z):aS W w J n Z [.int a,.int b] (t2 (gu .Add)) Q X:=.ii (λA s t u O U k=>add_int (k _ _ λN=>.int _ _)) q
theorem aS.ZS{a b:Int}(q:Q (.int (a-b)) Z):aS W w J n Z [.int a,.int b] (t2 (gu .Sub)) Q X:=.ii (λA s t u O U k=>sub_int (k _ _ λN=>.int _ _)) q
theorem aS.ZN{a b:Int}(O:IntMulOk a b)(q:Q (.int (a*b)) Z):aS W w J n Z [.int a,.int b] (t2 (gu .Mult)) Q X:=.ii (λA s t u U Y k=>mul_int (k _ _ λN=>.int _ _) O) q
theorem aS.ZM{a b:Int}(i:b≠0)(q:Q (.int (a.fmod b)) Z):aS W w J n Z [.int a,.int b] (t2 (gu .Mod)) Q X:=.ii (λA s t u O U k=>mod_int i (k _ _ λN=>.int _ _)) q
theorem aS.ZQ{a b:Int}(Y:0≤b)(l:(zD a:Int)*b≤2^27)(q:Q (.int (a^b.toNat)) Z):aS W w J n Z [.int a,.int b] (t2 (gu .Pow)) Q X:=.ii (λA s t u O U k=>pow_int Y l (k _ _ λN=>.int _ _)) q
theorem aS.ZJ{a b:ak}(O:a.length+b.length≤100000)(q:Q (.str (a++b)) Z):aS W w J n Z [.str a,.str b] (t2 (gu .Add)) Q X:=.ss (λA s t u U Y k=>add_str (λN N=>k _ _ λN=>.str _ _) (by rw[qm];exact aW O (by decide))) q
theorem aS.Z3{a b:Int}(q:Q (.bool (aO (a<b))) Z):aS W w J n Z [.int a,.int b] (t2 (bB .Lt)) Q X:=.ii (λA s t u O U k=>lt_int (k _ _ λN=>.bool _)) q
theorem aS.Z1{a b:Int}(q:Q (.bool (aO (a≤b))) Z):aS W w J n Z [.int a,.int b] (t2 (bB .LtE)) Q X:=.ii (λA s t u O U k=>le_int (k _ _ λN=>.bool _)) q
theorem aS.Z0{a b:Int}(q:Q (.bool (aO (b<a))) Z):aS W w J n Z [.int a,.int b] (t2 (bB .Gt)) Q X:=.ii (λA s t u O U k=>gt_int (k _ _ λN=>.bool _)) q
theorem aS.ZZ{a b:Int}(q:Q (.bool (aO (b≤a))) Z):aS W w J n Z [.int a,.int b] (t2 (bB .GtE)) Q X:=.ii (λA s t u O U k=>ge_int (k _ _ λN=>.bool _)) q
end
section
variable{W:aK}{w:aJ}{K:aY}{J:ay}{n:Nat}{I:Sc}{S:aA}{Z:St}{X:ak→St→Prop}{Q:V→St→Prop}
theorem cW.Zv{A:aD}{G:Gh}{Z:St}{h:ay}(T:cW J A G)(H:HR W w G Z h):∀b o,J.get? b=aa o→h.get? b=aa o:=λb o e=>H.im b o (T.t b o e)
theorem Cx.at(C:Cx K J){A:aD}{G:Gh}{Z:St}{h:ay}(T:cW J A G)(H:HR W w G Z h):K.In h:=C.X.keeps (T.Zv H)
theorem Cx.im(C:Cx K J){A:aD}{G:Gh}(T:cW J A G):fU (λa=>K.lookup a) G.im:=λa o e=>T.t a o (C.X a o e)
theorem mM{A:aD}{O:aH}{G:Gh}{s:aw}{x:ak}{V:aN}{Y:ai}{B:ai→aw→Prop}{L:ai→aw→Prop}(C:Cx K J)(F:Fz A O n)(T:cW J A G)(H:HR W w G Z s.heap)
  (M:O.kindOf x=aa .globalImplicit)(o:bG K bp x=aa (aa Y))(h:B Y s)(N:(x==("__debug__":ak))=aj):au (av W w) A (a7 (.Name x V) O) B L s:=by
 refine kU (C.T) λp U R f a=>?_;refine zA F.kd M (loadGlobal_global ?_ (mg_of C.X a.g o) h) N;refine(bo F.gl)▸ ?_;exact a.g.keeps (T.Zv H)
theorem sK{A:aD}{O:aH}{G:Gh}{s:aw}{x:ak}{V:aN}{Y:ai}{B:ai→aw→Prop}{L:ai→aw→Prop}(C:Cx K J)(F:Fz A O n)(T:cW J A G)(H:HR W w G Z s.heap)
  (M:O.kindOf x=aa .globalImplicit)(o:bG K bp x=aa ah)(i:nK x=aa Y)(N:x≠"__name__")(h:B Y s)(R:(x==("__debug__":ak))=aj):au (av W w) A (a7 (.Name x V) O) B L s:=by
 refine kU (C.T) λp U u f a=>?_;refine zA F.kd M (loadGlobal_builtin (mg:=u) (mb:=f) ?_ (mg_none_of C.X a.g o) ?_ ((a.builtins x N).trans i) h) R
 ·rw[F.gl];exact a.g.keeps (T.Zv H)
 ·rw[F.bl];exact a.b.keeps (T.Zv H)
theorem cU{O:aH}{x:ak}{k:dX}(T:dG O I)(h:I.names.lookup x=aa k):O.kindOf x=aa k:=by unfold Env.kindOf;exact T.names▸h
theorem AE.ZV{x:ak}{O:aN}{v:V}{Y:ai}(C:Cx K J)(U:I.names.lookup x=aa .globalImplicit)(o:bG K bp x=aa (aa Y))(g:VR (λa=>K.lookup a) v Y)(h:Q v Z)(B:(x==("__debug__":ak))=aj):
  AE W w J n I S (.Name x O) Z Q X:=λA L G s T F D M N E R=>
 mM C F D.top D.hr (cU T U) o (E v Y G Z s.heap s.toks (.Zw _) D.hr (g.Zv (C.im D.top)) h) B
theorem AE.ZT{x:ak}{y Y:aN}{f:ag}{e:ar}{P:List ar}(C:Cx K J)(E:I.names.lookup x=aa .globalImplicit)(o:bG K bp x=aa (aa (.ref f)))(r:eF K (.ref f)=ae)
  (h:AL W w J n I S Y (e::P) Z (λR U=>aS W w J n U R (λz=>aV (.ref f) z) Q X) X)(m:(x==("__debug__":ak))=aj)
  (i:∀O,bw (e::P) O=(aj,a7 e O)::bw P O)(p:∀O,(cQ Y (bw P O)).any (·.1)=aj):AE W w J n I S (.Call (.Name x y) (e::P) [] Y) Z Q X:=by
 intro A O G s T F D RQ RE b u;refine nM rfl (mM C F D.top D.hr (cU T E) o ?_ m);refine tA C.X r ?_ (i O) (p O)
 exact h A O G s T F D _ _ (λR L B U t N g j c d=>⟨C.at (D.top.le g) j,d A B _ L F.fo (D.top.le g) j c _ _
  (λv l a M h' tk k H V q=>b v l a M h' tk (g.Zv k) H V q) (u.Zv g)⟩) u
theorem AE.ZE{x:ak}{y V:aN}{f:ag}(C:Cx K J)(U:I.names.lookup x=aa .globalImplicit)(o:bG K bp x=aa (aa (.ref f)))(r:eF K (.ref f)=ae)
  (h:aS W w J n Z [] (λO=>aV (.ref f) O) Q X)(Y:(x==("__debug__":ak))=aj):AE W w J n I S (.Call (.Name x y) [] [] V) Z Q X:=by
 intro A B G s T F D L M E d;refine nM rfl (mM C F D.top D.hr (cU T U) o ?_ Y);refine callWith_K0 (C.at D.top D.hr) r ?_;exact h A G s [] F.fo D.top D.hr .nil _ _ E d
def pV(W:aK)(w:aJ)(f:ai):Prop:=∀h,Looks (av W w) h (keeperOf f) .machine
theorem oO(i:String):pV W w (.builtin i):=λh=>Looks.of_pure rfl
theorem rH(t:String):pV W w (.type t):=λh=>Looks.of_pure rfl
theorem AE.ZF{x:ak}{r Y:aN}{f:ai}{e:ar}{B:List ar}(C:Cx K J)(i:I.names.lookup x=aa .globalImplicit)(o:bG K bp x=aa ah)(p:nK x=aa f)(b:pV W w f)
  (h:AL W w J n I S Y (e::B) Z (λN U=>aS W w J n U N (λl=>aV f l) Q X) X)(a:x≠"__name__")(hd:(x==("__debug__":ak))=aj)
  (z:∀O,bw (e::B) O=(aj,a7 e O)::bw B O)(hp:∀O,(cQ Y (bw B O)).any (·.1)=aj):AE W w J n I S (.Call (.Name x r) (e::B) [] Y) Z Q X:=by
 intro A O G s T F D RQ E hQ m;refine nM rfl (sK C F D.top D.hr (cU T i) o p a ?_ hd);rw[z O];refine tz (P:=λzz=>True) (by refine(?_:((aj|| (cQ Y (bw B O)).any (·.1))||aj)=aj);rw[hp O];rfl) (λh zz=>⟨.machine,.inr (.inl rfl),b h⟩) (tF ?_)
 have:=h A O G s T F D (λN L=>True∧au (av W w) A (aV f N) RQ E L) E (λN R M U y t g j c d=>⟨trivial,d A M _ R F.fo (D.top.le g) j c _ _
  (λv rv G' u h' tk k H V q=>hQ v rv G' u h' tk (g.Zv k) H V q) (m.Zv g)⟩) m
 rw[z O]at this;exact this
inductive FU(K:aY)(name:ak)(Q:V→St→Prop)(Z:St):V→Prop
 |mk (a Cl t u):Z a=aa (.inst Cl t)→pi K Cl name=ae→t.lookup name=aa u→Q u Z→FU K name Q Z (.obj a)
theorem Oj{A:aD}{O:aH}{o:ar}{name:ak}{V:aN}{Y U:ai→aw→Prop}{s:aw}(i:i7 o name O (a7 o O)=a7 o O)
  (h:au (av W w) A (a7 o O) (λy D=>au (av W w) A (getAttr y name ae) Y U D) U s):au (av W w) A (a7 (.Attribute o name V) O) Y U s:=by
 refine(?_:au _ A (do
  let y←i7 o name O (a7 o O)
  dW V.atName
  let r←fw [y] (getAttr y name ae)
  letTemporaryGo o y r
  a8 r) _ _ _)
 refine(bo i)▸ ?_;exact az (dh h (λy D h=>az (fG (az (cC (dh h (λr B q=>az (wpAny_letTemporaryGo (aR q))) λN N e=>e))))) λN N e=>e)
theorem VR.Zw{O:ag→Option aC}{v:V}{r:ai}(h:VR O v r):handedIn r=ae:=VR.casesOn (motive_1:=λN r N=>handedIn r=ae) h rfl (λN=>rfl) (λN N=>rfl) (λN N=>rfl) (λN=>rfl) (λN N=>rfl) λN N=>rfl
theorem AE.ZR{o:ar}{name:ak}{B:aN}(C:Cx K J)(h:AE W w J n I S o Z (λv U=>FU K name Q U v) X)
  (i:∀O,i7 o name O (a7 o O)=a7 o O):AE W w J n I S (.Attribute o name B) Z Q X:=
 λA O G Vv T F D M N E H=>Oj (i O) (h A O G Vv T F D _ _ (λv L V U R Y g j c P=>FU.casesOn (motive:=λv k=>VR V.im v L→au (av W w) A (getAttr L name ae) M N {Vv with heap:=R,toks:=Y}) P (λa Cl x u e t z q c=>
  c.eO (dj (j.ZP e) λd l m y b=>aB ((b.Zw name).2 u z) λr p f=>KL (s:={Vv with heap:=R,toks:=Y}) (C.at (D.top.le g) j) m y t p f.Zw (E u r V U R _ g j f q))) c) H)
inductive nj(K:aY)(name:ak)(R:ag→V→St→Prop)(Z:St):V→Prop
 |mk (a Cl t f):Z a=aa (.inst Cl t)→rG K Cl name f=ae→eF K (.ref f)=ae→t.lookup name=ah→R f (.obj a) Z→nj K name R Z (.obj a)
theorem Bw{A:aD}{E:ai→aw→Prop}{s:aw}{G:Gh}{name:ak}{R:ag→V→St→Prop}{v:V}{Y:ai}{F:bI Bool}{T:ai×List ai→aw→Prop}(C:Cx K J)(c:cW J A G)(H:HR W w G Z s.heap)(g:VR G.im v Y)(O:nj K name R Z v)
  (h:∀f,VR G.im v Y→eF K (.ref f)=ae→R f v Z→T (.ref f,[Y]) s):au (av W w) A (i5 Y name F) T E s:=
 nj.casesOn (motive:=λv j=>VR G.im v Y→(∀f,VR G.im v Y→eF K (.ref f)=ae→R f v Z→T (.ref f,[Y]) s)→au (av W w) A (i5 Y name F) T E s) O (λa Cl t f e U B L q g=>g.eO λh=>
  dj (H.ZP e) λd u M N b=>I8 (C.at c H) M N U ((b.Zw name).1 L) (h f (.obj a) B q)) g h
theorem AE.ZY{o e:ar}{name:ak}{b Y:aN}{P:List ar}{z:aH→bI Bool}(C:Cx K J)
  (h:AE W w J n I S o Z (λv U=>nj K name (λf v U=>AL W w J n I S Y (e::P) U (λm B=>aS W w J n B (v::m) (λrs=>aV (.ref f) rs) Q X) X) U v) X)
  (hc:∀O,a7 (.Call (.Attribute o name b) (e::P) [] Y) O=(do
   let y←a7 o O
   dW b.atName
   let(f,first)←fw [y] (i5 y name (z O))
   nJ Y f first (cQ Y (bw (e::P) O)) (jH Y (jG [] O))))
  (he:∀O,bw (e::P) O=(aj,a7 e O)::bw P O)(hp:∀O,(cQ Y (bw P O)).any (·.1)=aj):
  AE W w J n I S (.Call (.Attribute o name b) (e::P) [] Y) Z Q X:=
 λA O G Vw p F D RQ RE hQ d=>qn (pl:=z O) (h A O G Vw p F D _ _ (λv t M U R L g j c hh=>Bw (s:={Vw with heap:=R,toks:=L}) C (D.top.le g) j c hh λf c r x=>tA C.X r
  (x A O M _ p F (D.Zv g j) _ _ (λm T N B Vv i a l u dd=>⟨C.at (D.top.le (g.Zv a)) l,dd A N _ (t::T) F.fo (D.top.le (g.Zv a)) l (.cons (c.Zv a.im) u) _ _
   (λv t G' E h' tk k H V q=>hQ v t G' E h' tk ((g.Zv a).Zv k) H V q) (d.Zv (g.Zv a))⟩) (d.Zv g)) (he O) (hp O)) d) (hc O)
theorem AE.ZO{o:ar}{name:ak}{b Y:aN}{u:aH→bI Bool}(C:Cx K J)
  (h:AE W w J n I S o Z (λv U=>nj K name (λf v U=>aS W w J n U [v] (λP=>aV (.ref f) P) Q X) U v) X)
  (m:∀O,a7 (.Call (.Attribute o name b) [] [] Y) O=(do
   let y←a7 o O
   dW b.atName
   let(f,first)←fw [y] (i5 y name (u O))
   nJ Y f first (cQ Y (bw [] O)) (jH Y (jG [] O)))):
  AE W w J n I S (.Call (.Attribute o name b) [] [] Y) Z Q X:=
 λA O G a T F D l e E d=>qn (pl:=u O) (h A O G a T F D _ _ (λv M L U R B g j c t=>Bw (s:={a with heap:=R,toks:=B}) C (D.top.le g) j c t λf c r x=>callWith_K0 (C.at (D.top.le g) j) r
  (x A L {a with heap:=R,toks:=B} [M] F.fo (D.top.le g) j (.cons c .nil) _ _ (λv M z N i p k H V q=>E v M z N i p (g.Zv k) H V q) (d.Zv g))) d) (m O)
end
inductive Fl where
 |next|brk|cont
 |ret(v:V)
inductive jB(O:ag→Option aC):Fl→Flow→Prop
 |next:jB O .next .next
 |brk:jB O .brk .brk
 |cont:jB O .cont .cont
 |ret {v:V} {Y:ai}:VR O v Y→jB O (.ret v) (.ret Y)
def cH(O:aH)(a:ag):Prop:=a=O.locals∨∃x,O.cells.lookup x=aa a
structure Gh.c(P:ag→Prop)(G O:Gh):Prop where
 im:∀a o,G.im a=aa o→O.im a=aa o
 pv:∀a o,¬P a→G.pv a=aa o→∃M,O.pv a=aa {o with slots:=M}
 fx:∀a o,¬P a→G.pv a=aa o→O.fm a=G.fm a∧(G.fm a=aj→O.pv a=aa o)
theorem Gh.c.Zw(P:ag→Prop)(G:Gh):G.c P G:=⟨λN N e=>e,λN o N e=>⟨o.slots,e⟩,λN N N e=>⟨rfl,λN=>e⟩⟩
theorem Gh.c.Zv{P:ag→Prop}{A B C:Gh}(x:A.c P B)(y:B.c P C):A.c P C:=⟨λa o e=>y.im a o (x.im a o e),λa o n e=>let⟨_,g⟩:=x.pv a o n e;aE (y.pv a _ n g) λM w=>⟨M,w⟩,
 λa o n e=>let⟨_,g⟩:=x.pv a o n e;bu (x.fx a o n e) λi W=>⟨((y.fx a _ n g).1).trans i,λz=>(y.fx a o n (W z)).2 (i.trans z)⟩⟩
theorem Gh.le.x{G O:Gh}(P:ag→Prop)(k:G.le O):G.c P O:=⟨k.im,λa o _=>k.pv a o,λa o _=>k.fx a o⟩
section
variable(W:aK)(w:aJ)(J:ay)
def iT(A:aD)(O:aH)(G:Gh)(s:aw)(X:ak→St→Prop)(U:ai→aw→Prop):Prop:=
 ∀k Y Z M B u,G.c (cH O) Z→gO W w A Z M B k Y→X k M→U Y {s with heap:=B,toks:=u}
def AS(n:Nat)(I:Sc)(S:aA)(V:List bh)(L:St)(Q:Fl→aA→St→Prop)(X:ak→St→Prop):Prop:=
 ∀A O G s,dG O I→Fz A O n→Dy W w J A O G S L s.heap→∀U Y,
  (∀y rfl Z C M B u,G.c (cH O) Z→Dy W w J A O Z C M B→jB Z.im y rfl→Q y C M→U rfl {s with heap:=B,toks:=u})→
  iT W w A O G s X Y→
  au (av W w) A (execs V O) U Y s
def AX(n:Nat)(I:Sc)(S:aA)(V:bh)(L:St)(Q:Fl→aA→St→Prop)(X:ak→St→Prop):Prop:=
 ∀A O G s,dG O I→Fz A O n→Dy W w J A O G S L s.heap→∀U Y,
  (∀y rfl Z C M B u,G.c (cH O) Z→Dy W w J A O Z C M B→jB Z.im y rfl→Q y C M→U rfl {s with heap:=B,toks:=u})→
  iT W w A O G s X Y→
  au (av W w) A (exec V O) U Y s
end
section
variable{W:aK}{w:aJ}{K:aY}{J:ay}{n:Nat}{I:Sc}{S:aA}{Z:St}{X:ak→St→Prop}{Q:Fl→aA→St→Prop}
theorem iT.e{A:aD}{O:aH}{G:Gh}{s:aw}{U:ai→aw→Prop}(d:iT W w A O G s X U):KX W w A G s X U:=λk Y V M B u v f x=>d k Y V M B u (v.x _) f x
theorem iT.Zv{A:aD}{U:aH}{G O:Gh}{s:aw}{R:ay}{Y:Nat}{V:ai→aw→Prop}(d:iT W w A U G s X V)(g:G.c (cH U) O):iT W w A U O {s with heap:=R,toks:=Y} X V:=
 λk B L M N u v f x=>d k B L M N u (g.Zv v) f x
theorem AS.Zx(h:Q .next S Z):AS W w J n I S [] Z Q X:=
 λN N N s N N D N N E N=>aR (E _ _ _ _ _ s.heap s.toks (.Zw _ _) D .next h)
def E4(j:Prop)(Q:Fl→aA→St→Prop)(y:Fl)(S:aA)(Z:St):Prop:=Fl.casesOn (motive:=λ_=>Prop) y j (Q .brk S Z) (Q .cont S Z) λv=>Q (.ret v) S Z
theorem AS.Zw{B:bh}{r:List bh}(h:AX W w J n I S B Z (λy c U=>E4 (AS W w J n I c r U Q X) Q y c U) X):AS W w J n I S (B::r) Z Q X:=
 λA V G s T F D H j E d=>jE (h A V G s T F D _ _ (λy rfl Y c U R O g z a q=>by
  cases a with
  |next=>exact q A V Y _ T F z _ _ (λy rfl L C M N u k D f q=>E y rfl L C M N u (g.Zv k) D f q) (d.Zv g)
  |brk=>exact E _ _ Y c U R O g z .brk q
  |cont=>exact E _ _ Y c U R O g z .cont q
  |ret v=>exact E _ _ Y c U R O g z (.ret v) q) d)
theorem AX.ZI{e:ar}{V:aN}(h:AE W w J n I S e Z (λv U=>Q (.ret v) S U) X):AX W w J n I S (.Return (aa e) V) Z Q X:=
 λA B G s T F D L M E d=>FX (h A B G s T F D _ _ (λv N Y U R O g j c q=>E _ _ Y S U R O (g.x _) (D.Zv g j) (.ret c) q) d.e)
theorem AX.ZD{V:aN}(h:Q (.ret .none) S Z):AX W w J n I S (.Return ah V) Z Q X:=
 λA O G s T F D U Y E d=>wpAny_Return_none (E _ _ G S Z s.heap s.toks (.Zw _ _) D (.ret .none) h)
theorem AX.ZG{t:ar}{b o:List bh}{M:aN}(h:AT W w J n I S t Z (λc Y=>AS W w J n I S (bJ c o b) Y Q X) X):AX W w J n I S (.If t b o M) Z Q X:=
 λA U G s T F D B L E d=>wpAny_If (h A U G s T F D _ _ (λc V Y R O g j q=>
  have z:=q A U V {s with heap:=R,toks:=O} T F (D.Zv g j) _ _ (λy rfl H C N u P k D f q=>E y rfl H C N u P ((g.x _).Zv k) D f q) (d.Zv (g.x _))
  bJ (motive:=λc=>au (av W w) A (execs (bJ c o b) U) B L {s with heap:=R,toks:=O}→if c=ae then au (av W w) A (execs b U) B L {s with heap:=R,toks:=O}else au (av W w) A (execs o U) B L {s with heap:=R,toks:=O}) c id id z) d.e)
theorem AX.ZC{V:aN}(h:Q .next S Z):AX W w J n I S (.Pass V) Z Q X:=
 λA O G s T F D U Y E d N N N=>E _ _ G S Z s.heap s.toks (.Zw _ _) D .next h
end
section
variable{W:aK}{w:aJ}{K:aY}{J:ay}{n:Nat}{I:Sc}{S:aA}{Z:St}{X:ak→St→Prop}{Q:Fl→aA→St→Prop}
def pT(i:Nat)(v:V)(S C:aA):Prop:=∀p∈C,p=(i,v)∨(p∈S∧p.1≠i)
theorem ug{a:ag}{h B:ay}(x:iq a h B):gx a h B:=x.extBut
theorem ol{O:aH}{G:Gh}{r:ag}{o:Option aC}(h:cH O r):G.c (cH O) (G.Zv r o):=
 ⟨λN N e=>e,λa H b e=>⟨H.slots,(bv _ _ λ(q:a=r)=>b (q▸h)).trans e⟩,λa H b e=>⟨rfl,λN=>(bv _ _ λ(q:a=r)=>b (q▸h)).trans e⟩⟩
theorem jA.Zv{G:Gh}{O:aH}{r:ag}{z:Option aC}{x:ak}{v:ai}(g:O.locals≠r)(h:jA G O x v):jA (G.Zv r z) O x v:=h.casesOn λo P U a b c d e=>.mk o P U a ((bv _ _ g).trans b) c d e
theorem nz.Zv{G:Gh}{O:aH}{r:ag}{z:Option aC}{x:ak}{v:ai}(g:∀c,O.cells.lookup x=aa c→c≠r)(h:nz G O x v):nz (G.Zv r z) O x v:=h.casesOn λc o a b d e=>.mk c o a b ((bv _ _ (g c b)).trans d) e
theorem th.Zv{G:Gh}{O:aH}{r:ag}{z:Option aC}{x:ak}(g:∀c,O.cells.lookup x=aa c→c≠r)(h:th G O x):th (G.Zv r z) O x:=h.casesOn λc o v b d e=>.mk c o v b ((bv _ _ (g c b)).trans d) e
theorem Mq{o H:aC}{P q:Array kM}{r k:Nat}(h:aa o=aa H)(c:o.data=.dict P r)(d:H.data=.dict q k):P=q:=by
 rw[aI h]at c;replace c:=d.symm.trans c;exact(Data.dict.inj c).1.symm
theorem ER.Zy{O:aH}{G:Gh}{i:Nat}{v:V}{L:ai}{C:aA}{A H:aC}{P q:Array kM}{r k:Nat}(D:ER G O S)(R:∀x c,O.cells.lookup x=aa c→c≠O.locals)
  (u:G.pv O.locals=aa A)(g:A.data=.dict P r)(U:H.data=.dict q k)(Y:i9 q)(F:∀y,ew q y=if y=NM i then aa L else ew P y)
  (f:i<cB)(t:O.kindOf (NM i)=aa .local)(T:VR G.im v L)(E:pT i v S C):ER (G.Zv O.locals (aa H)) O C:=
 ⟨λp M=>(E p M).elim (λe=>e▸⟨f,.n L T (.mk H q k t (bE _ _ _) U Y ((F _).trans (if_pos rfl)))⟩) λh=>⟨(D.vars p h.1).1,(D.vars p h.1).2.casesOn
   (λB j z=>z.casesOn λo m N a b c d e=>.n B j (.mk H q k a (bE _ _ _) U Y ((F _).trans ((if_neg (yU (D.vars p h.1).1 f h.2)).trans (Mq (b.symm.trans u) c g▸e)))))
   λB j z=>.c B j (z.Zv λc=>R _ c)⟩,.mk H q k (bE _ _ _) U Y,λy l=>(D.cells y l).Zv λc=>R _ c,pK D.cl⟩
theorem ER.Zx{O:aH}{G:Gh}{i:Nat}{v:V}{B:ai}{C:aA}{c:ag}{H:aC}(D:ER G O S)(s:∀x y c,O.cells.lookup x=aa c→O.cells.lookup y=aa c→x=y)(L:∀x c,O.cells.lookup x=aa c→c≠O.locals)
  (m:O.cells.lookup (NM i)=aa c)(U:H.data=.cell (aa B))(f:i<cB)(R:O.kindOf (NM i)=aa .cell)(g:VR G.im v B)(t:pT i v S C):ER (G.Zv c (aa H)) O C:=by
 revert S O G i v B C c H;apply j7;generalize e8 _=S,e7 _=O,e6 _=G,e5 _=i,e4 _=v,e3 _=B,e2 _=C,e1 _=c,e0 _=H;intro D s L m U f R g t
 exact
   ⟨λp N=>(t p N).elim (λe=>e▸⟨f,.c B g (.mk c H (.inl R) m (bE _ _ _) U)⟩) λh=>⟨(D.vars p h.1).1,(D.vars p h.1).2.casesOn
     (λY j z=>.n Y j (z.Zv (dx (L _ c m)))) λY j z=>.c Y j (z.Zv λF M q=>yU (D.vars p h.1).1 f h.2 (s _ _ _ M (q▸m)))⟩,
    D.ns.casesOn λo P r a b d=>.mk o P r ((bv _ _ (dx (L _ c m))).trans a) b d,
    λy l=>bW (cx (y=NM i)) (λq=>.mk c H (aa B) (q▸m) (bE _ _ _) U) λq=>(D.cells y l).Zv λF M z=>q (s _ _ _ M (z▸m)),pK D.cl⟩
theorem lu{o:aC}{P:Array kM}{r:Nat}(h:o.data=.dict P r):∀L,o.data≠.fields L:=λL q=>jJ (h.symm.trans q)
theorem Iz{o:aC}{v:Option ai}(h:o.data=.cell v):∀L,o.data≠.fields L:=λL q=>jJ (h.symm.trans q)
theorem Ac{A d:aD}{O:aH}{G:Gh}{s:aw}{i:Nat}{x:ak}{v:V}{N:ai}{C:aA}{R:Unit→aw→Prop}{t:ai→aw→Prop}(F:Fz A O n)(D:Dy W w J A O G S Z s.heap)
  (f:i<cB)(u:NM i=x)(g:O.kindOf x=aa .local)(T:VR G.im v N)(z:pT i v S C)
  (h:∀H P r B y,H.data=.dict P r→i9 P→Dy W w J A O (G.Zv O.locals (aa H)) C Z B→R () {s with heap:=B,toks:=y}):au (av W w) d (storeName O x N) R t s:=
 D.er.ns.casesOn λc P r L p E=>FV (m:=ew P) g ⟨c,P,r,D.hr.pv _ _ L,p,E,λl=>rfl⟩ (λB o b=>eH o λH q k M U Y j=>
   h H q k B _ U Y ⟨⟨D.top.t,D.top.fr.Zv (lu U)⟩,D.hr.ZF L (ug b) M,D.er.Zy F.c2 L p U Y (u▸j) f (u▸g) T z⟩) (by refine(bo F.kd)▸ ?_;rfl)
theorem n9{A r:aD}{O:aH}{G:Gh}{s:aw}{i:Nat}{x:ak}{v:V}{g:ai}{C:aA}{d:Unit→aw→Prop}{E:ai→aw→Prop}(F:Fz A O n)(D:Dy W w J A O G S Z s.heap)
  (f:i<cB)(L:NM i=x)(U:O.kindOf x=aa .local ∨O.kindOf x=aa .cell)(P:VR G.im v g)(t:pT i v S C)
  (h:∀M B u,M.im=G.im→G.c (cH O) M→Dy W w J A O M C Z B→d () {s with heap:=B,toks:=u}):au (av W w) r (storeName O x g) d E s:=
 U.elim (λU=>Ac F D f L U P t λH N N B u N N o=>h (G.Zv O.locals (aa H)) B u rfl (ol (.inl rfl)) o) λU=>(D.er.cells _ U).casesOn λc z T m a b=>
  wpAny_storeName_cell F.kd U m ⟨z,D.hr.pv _ _ a,b⟩ λB j y=>aB j λH R Y=>
   h (G.Zv c (aa H)) B s.toks rfl (ol (.inr ⟨_,m⟩)) ⟨⟨D.top.t,D.top.fr.Zv (Iz Y)⟩,D.hr.ZF a (ug y) R,D.er.Zx F.c1 F.c2 (L▸m) Y f (L▸U) P t⟩
end
theorem Obj.Zv(o:aC)(f):(o.mapFields f).dict=o.dict:=by
 obtain⟨c,d,p,M⟩:=o;cases p<;>rfl
noncomputable def rE:ay:=⟨#[],(gT:ay).life⟩
theorem IE(a:ag):rE.get? a=ah:=rfl
section
variable{M:Model}{A:aD}{E:ai→aw→Prop}{s:aw}
structure OD(h B:ay)(e:ag)(J:aC)(l:List aH)(L T:ag):Prop where
 ge:B.get? e=aa (J.mapFields (·.setIfInBounds 1 (nL T)))
 tn:h.get? T=ah
 tb:sP B e T (eY L)
 kp:∀b o,b≠e→b∉l.filterMap (·.frame)→h.get? b=aa o→B.get? b=aa o
 ks:∀b o,b≠e→h.get? b=aa o→∃O,B.get? b=aa {o with slots:=O}
theorem K5{O:aH}{g:List aH}{L e:ag}{J:aC}{W:Array ai}{m:ai}{c:Bool}{Q:Unit→aw→Prop}
  (r:A.frames=aa (O::g))(C:s.heap.FunFrames rE (O::g))(I:O.frame=aa L)
  (U:s.heap.get? e=aa J)(S:J.data=.fields W)(l:1<W.size)(K:∀B T,OD s.heap B e J (O::g) L T→Q () {s with heap:=B}):
  au M A (do let a←tu O;let F←entryPlaceOf L c;let b←EntryCells.newEntry m a .none (eY L) .none F;setField (.ref e) 1 b) Q E s:=by
 have p:e∉(O::g).filterMap (·.frame):=λY=>aB (C.mem Y).2 λo u z=>z W ((aI (U.symm.trans u))▸S);refine az (wpAny_frameOf_fun r C I λR f=>az (wpAny_entryPlaceOf λF x=>?_));refine az (nB ?_ (x.sizeOk5 _ _ _ _ _));have n:R.get? e=aa J:=(f.2.1 e p).trans U;generalize u:(([m,.ref L,.none,eY L,.none]++(if F.isEmpty then bA 6 Value.none else F)).toArray:Array ai)=Z;have j:Z[3]? =aa (eY L):=by subst u;first|(rfl;done)|(rcases x with rfl|⟨_,_,_,_,_,_,_,rfl⟩<;>simp)
 have k:=bM (h:=R) {cls:=.type "traceback",dict:=ah,data:=.fields Z} n;have H:R.objs.size≠e:=Nat.ne_of_gt (eZ n)
 have y:∀b o,b≠e→R.get? b=aa o→((R.push {cls:=.type "traceback",dict:=ah,data:=.fields Z}).update e (Obj.mapFields (·.setIfInBounds 1 (nL R.objs.size)))).get? b=aa o:=
  λb o d i=>(kK _ _ (dx d)).trans (bM _ i)
 exact wpAny_setField k S l (K _ R.objs.size ⟨jb _ k (Obj.isFreed_of_fields (zu S _)),f.1▸eV _,
  .mk _ _ H ((kK _ _ (dx H)).trans (gQ R rfl)) rfl rfl j,λb o d q i=>y b o d ((f.2.1 b q).trans i),λb o d i=>aE (f.2.2 b o i) λV N=>⟨V,y b _ d N⟩⟩)
end
section
variable{W:aK}{w:aJ}{J:ay}{Z:St}{k:ak}
theorem AQ{T M:ag}{v y:ai}(q:aa (T,v)=aa (M,y)):T=M:=congrArg nN (aI q)
theorem ma{O:Type}{A:aD}{E:ai→aw→Prop}{s:aw}{c:Prop} [Decidable c]{a b:bI O}{Q:O→aw→Prop}(m:c)(h:au (av W w) A a Q E s):au (av W w) A (if c then a else b) Q E s:=(congrArg (λx=>au (av W w) A x Q E s) (if_pos m)).mpr h
theorem iD{O:Type}{A:aD}{E:ai→aw→Prop}{s:aw}{c:Prop} [Decidable c]{a b:bI O}{Q:O→aw→Prop}(m:¬c)(h:au (av W w) A b Q E s):au (av W w) A (if c then a else b) Q E s:=(congrArg (λx=>au (av W w) A x Q E s) (if_neg m)).mpr h
theorem qb.Zv{A:aD}{T:ag}:qb A (aa (T,.none)):=.n rfl
theorem fE.Zz{A:aD}{G:Gh}{h:ay}(x:fE A G)(p:∀a o,G.pv a=aa o→h.get? a=aa o){l:List aH}(e:A.frames=aa l):h.FunFrames rE l:=
 x.casesOn λK X k=>bc (motive:=λl=>(∀O∈l,tc G O)→h.FunFrames rE l) (λN=>trivial)
  (λO r F k=>(k O (.head _)).casesOn λL o a b c d N=>⟨a,⟨L,o,b,IE _,p _ _ c,d⟩,F λO z=>k O (.tail _ z)⟩) l (aI (e.symm.trans X)▸k)
theorem OR.nf{f:ag→Option aC}{h:ay}{a d:ag}{o:O}:OR W w f h a d o→∀x L,h.get? a=aa x→x.data=.fields L→x.cls=.none:=
 O.casesOn (motive:=λo=>OR W w f h a d o→∀x L,h.get? a=aa x→x.data=.fields L→x.cls=.none) o
  (λN z x L e q=>aB z λN p N=>p.casesOn λn u=>jJ ((congrArg qq (aI (u.symm.trans e))).trans q))
  (λN z x L e q=>aB z λN p N=>eH p λo P r u b c d=>jJ (c.symm.trans ((congrArg qq (aI (u.symm.trans e))).trans q)))
  (λN z x L e q=>aB z λN p N=>eH p λo P r u b c d=>jJ (c.symm.trans ((congrArg qq (aI (u.symm.trans e))).trans q)))
  (λN N z x L e q=>bH z λN p N N=>jJ ((congrArg qq (aI (p.symm.trans e))).trans q))
  (λN z x L e q=>bH z λN p N N=>(congrArg Obj.cls (aI (p.symm.trans e))).symm)
  (λN z x L e q=>aB z λN p N=>p.casesOn λo P r u N c N N N=>jJ (c.symm.trans ((congrArg qq (aI (u.symm.trans e))).trans q)))
  (λN N z x L e q=>aB z λN p N=>dj p λo P u b c=>jJ (c.1.symm.trans ((congrArg qq (aI (u.symm.trans e))).trans q)))
noncomputable def Gh.at(G:Gh)(B:ay):Gh:=⟨G.im,λa=>if(G.pv a).isSome then B.get? a else ah,G.fm⟩
theorem kg{G:Gh}{B:ay}{a:ag}(e:G.pv a=ah):(G.at B).pv a=ah:=if_neg (by exact e▸jO)
theorem yL{G:Gh}{B:ay}{a:ag}{o:aC}(e:G.pv a=aa o):(G.at B).pv a=B.get? a:=if_pos (by refine(bo e)▸ ?_;rfl)
structure yT(G:Gh)(h:ay)(a:ag):Prop where
 im:G.im a=ah
 pv:G.pv a=ah
 rc:∀o,h.get? a=aa o→(∃L,o.data=.fields L)∧o.cls≠.none
theorem HR.ZS{G:Gh}{h B:ay}(x:HR W w G Z h){P:ag→Prop}(F:∀a,P a→yT G h a)
  (j:∀b o,¬P b→(G.pv b=ah∨G.fm b=aj)→h.get? b=aa o→B.get? b=aa o)(i:∀b o,¬P b→h.get? b=aa o→∃M,B.get? b=aa {o with slots:=M}):
  HR W w (G.at B) Z B∧G.le (G.at B):=by
 revert W w Z G h B P;apply ch;generalize e5 _=W,e4 _=w,e3 _=Z,e2 _=G,e1 _=h,e0 _=B;intro x;apply aP;generalize e0 _=P;intro F j i;have O:∀a o,G.pv a=aa o→¬P a:=λa o e q=>aG ((F a q).pv.symm.trans e);refine⟨x.ZH (λa=>P a∨∃o,G.pv a=aa o) (λN N q=>q) (λa c=>?_) (λa c=>?_) λa o c f e Y r q=>?_,λN N e=>e,λa o e=>?_,λa o e=>⟨rfl,λz=>(yL e).trans (j a o (O a o e) (.inr z) (x.pv a o e))⟩⟩
 ·have s:G.pv a=ah:=fA λo e=>c (.inr ⟨o,e⟩)
  exact⟨rfl,(kg s).trans s.symm,rfl,λo=>j a o (λz=>c (.inl z)) (.inl s)⟩
 ·refine c.elim (λc=>.n (F a c).im (kg (F a c).pv) (fA λo e=>?_)) λc=>aE c λo e=>aE (i a o (O a o e) (x.pv a o e)) λM z=>.p ((yL e).trans z) z (x.Zw e).1 (x.Zw e).2
  exact aE (x.or e) λd m=>aE m.Zv λy l=>bu ((F a c).rc y l) λg U=>aE g λL g=>U (m.nf y L l g)
 ·refine c.elim (λc=>bu ((F a c).rc o e) λg N=>aE g λL g=>jJ (g.symm.trans q)) λc=>aE c λo e=>aG (f.pv.symm.trans e)
 ·exact aE (i a o (O a o e) (x.pv a o e)) λM z=>⟨M,(yL e).trans z⟩
theorem de.Zv{h B:ay}{d:ag}{O:List (ak×ai)}(x:de h d O)(k:∀o,h.get? d=aa o→(∀L,o.data≠.fields L)→∃M,B.get? d=aa {o with slots:=M}):de B d O:=
 x.casesOn λo P r u S a b c=>aE (k o u (lu S)) λM q=>.mk _ P r q S a b c
theorem fV.ZA{A:aD}{G:Gh}{h:ay}{e D:ag}{V:Option (ag×ai)}(x:fV W w A G Z h k e D V):yT G h e:=
 ⟨x.off.1.1,x.off.1.2,λo u=>x.ex.casesOn λO L z m N S N N=>aI (z.symm.trans u)▸⟨⟨L,S⟩,by exact m▸λq=>Value.noConfusion q⟩⟩
theorem sP.Zv{G:Gh}{h:ay}{e T:ag}{y:ai}(a:G.im T=ah∧G.pv T=ah)(x:sP h e T y):yT G h T:=
 ⟨a.1,a.2,λo u=>x.casesOn λv O N J m S N=>aI (J.symm.trans u)▸⟨⟨O,S⟩,by exact m▸λq=>Value.noConfusion q⟩⟩
theorem fV.Zy{A r:aD}{G:Gh}{s:aw}{e D T:ag}{y v:ai}{Q:Unit→aw→Prop}{E:ai→aw→Prop}(x:fV W w A G Z s.heap k e D (aa (T,y)))
  (h:∀B V,G.le V→fV W w A V Z B k e D (aa (T,v))→Q () {s with heap:=B}):au (av W w) r (setField (.ref T) 3 v) Q E s:=by
 revert W w Z k A r G s e D T y v Q E;apply aX;generalize aT _=W,aL _=w,e9 _=Z,e8 _=k,e7 _=A,e6 _=r,e5 _=G,e4 _=s,e3 _=e,e2 _=D,e1 _=T,e0 _=y;apply bY;generalize e2 _=v,e1 _=Q,e0 _=E;intro x h;refine x.ex.casesOn λL N z m c R l M=>M.2.casesOn λd S H n F C j=>x.kd.casesOn λO t K U=>?_;have I:3<S.size:=(Qz.mp j).1;have f:∀b,b≠T→(s.heap.update T (Obj.mapFields (·.setIfInBounds 3 v))).get? b=s.heap.get? b:=λb i=>kK _ _ (dx i);refine wpAny_setField n C I ?_;refine bu (x.hr.ZS (B:=s.heap.update T (Obj.mapFields (·.setIfInBounds 3 v))) (P:=(·=T)) (λa q=>q▸M.2.Zv (x.offT T _ rfl)) (λb o i zz p=>(f b i).trans p) (λb o i p=>⟨o.slots,(f b i).trans p⟩)) λX g=>?_
 exact h _ _ g ⟨X,x.fr.le g,.mk L N ((f e (dx H)).trans z) m c R l ⟨M.1,.mk _ _ H (jb _ n (Obj.isFreed_of_fields (zu C _))) ((Obj.cls_mapFields _ _).trans F) (zu C _) (Qy I)⟩,
  ⟨⟨x.off.1.1,kg x.off.1.2⟩,kg x.off.2⟩,λT' y q=>AQ q▸⟨(x.offT T _ rfl).1,kg (x.offT T _ rfl).2⟩,.mk O t (K.Zv λo u Y=>⟨o.slots,(f D λq=>Y S (aI (n.symm.trans (q▸u))▸C)).trans u⟩) U⟩
theorem fV.Zx{A:aD}{O:aH}{g:List aH}{G:Gh}{s:aw}{e D L:ag}{S:Option (ag×ai)}{Y:Bool}{M:ai}{Q:Unit→aw→Prop}{E:ai→aw→Prop}(x:fV W w A G Z s.heap k e D S)
  (r:A.frames=aa (O::g))(I:O.frame=aa L)(h:∀B F T,G.le F→fV W w A F Z B k e D (aa (T,eY L))→Q () {s with heap:=B}):
  au (av W w) A (do let a←tu O;let K←entryPlaceOf L Y;let b←EntryCells.newEntry M a .none (eY L) .none K;setField (.ref e) 1 b) Q E s:=by
 revert W w Z k A O g G s e D L S Y M Q E;apply aX;generalize aT _=W,aL _=w,e9 _=Z,e8 _=k,e7 _=A,e6 _=O,e5 _=g,e4 _=G,e3 _=s,e2 _=e,e1 _=D,e0 _=L;apply eE;generalize e4 _=S,e3 _=Y,e2 _=M,e1 _=Q,e0 _=E;intro x r I h
 have d:∀b,b∈(O::g).filterMap (·.frame)→∃o,G.pv b=aa o∧G.fm b=ae:=λb i=>aB (List.mem_filterMap.mp i) λC j p=>
  x.fr.casesOn λl' m y=>(y C (aI (r.symm.trans m)▸j)).casesOn λL' o' zz q1 q2 zz q3=>aI (q1.symm.trans p)▸⟨o',q2,q3⟩
 refine x.ex.casesOn λoe vs z hc R c l Vv=>x.kd.casesOn λH t Y f=>K5 r (x.fr.Zz x.hr.pv r) I z c l λB T N=>?_;refine bu (x.hr.ZS (B:=B) (P:=(·=e)) (λa q=>q▸x.ZA) (λb o i U p=>N.kp b o i (λhm=>aB (d b hm) λo u I=>U.elim (λU=>aG (U.symm.trans u)) λU=>aF (U.symm.trans I)) p) (λb o i p=>N.ks b o i p)) λX V=>?_;have v:=x.hr.Zv N.tn
 refine h B (G.at B) T V ⟨X,x.fr.le V,.mk _ _ N.ge ((Obj.cls_mapFields _ _).trans hc) ((Obj.Zv _ _).trans R) (zu c _) (by exact(Array.size_setIfInBounds).symm▸l) ⟨Qy l,N.tb⟩,
  ⟨⟨x.off.1.1,kg x.off.1.2⟩,kg x.off.2⟩,λT' fl q=>AQ q▸⟨v.im,kg v.pv⟩,.mk H t (Y.Zv λo u n=>N.ks D o (λq=>n vs (aI (z.symm.trans (q▸u))▸c)) u) f⟩
theorem fV.Zw{A:aD}{O:aH}{g:List aH}{G:Gh}{Vv:aw}{e D:ag}{V:Option (ag×ai)}{Q:Unit→aw→Prop}{E:ai→aw→Prop}(x:fV W w A G Z Vv.heap k e D V)(t:qb A V)
  (r:A.frames=aa (O::g))(h:∀B U T L,O.frame=aa L→G.le U→fV W w A U Z B k e D (aa (T,eY L))→Q () {Vv with heap:=B}):au (av W w) A (nG (.ref e) O) Q E Vv:=by
 revert W w Z k A O g G Vv e D V Q E;apply aX;generalize aT _=W,aL _=w,e9 _=Z,e8 _=k,e7 _=A,e6 _=O,e5 _=g,e4 _=G,e3 _=Vv,e2 _=e,e1 _=D,e0 _=V;apply bF;generalize e1 _=Q,e0 _=E;intro x t r h;refine x.ex.casesOn λv a z hc c S l M=>x.fr.casesOn λK X P=>(P O (aI (r.symm.trans X)▸ .head _)).casesOn λL o' u I F u q3=>?_;unfold nG;simp only[I];cases V with
 |none=>
  exact az (jD z S M (iD (by decide) (x.Zx r I λB U T o f=>h B U T L I o f)))
 |some p=>
  obtain⟨T,fl⟩:=p;refine M.2.casesOn λoT ts m n y C j=>az (jD z S M.1 (ma rfl (az (jD n C j ?_))));refine t.casesOn (λq=>?_) λN K Y d F q=>?_
  ·refine qF q ?_
   exact iD jO (az (x.Zy λR H b i=>i.Zx (s:={Vv with heap:=R}) r I λB U T o f=>h B U T L I (b.Zv o) f))
  ·have:Y=L:=aI (F.symm.trans ((List.cons.inj (aI (r.symm.trans d))).1▸I))
   subst q;subst this;exact ma (beq_self_eq_true _) (aR (h Vv.heap G T Y I (.Zw _) x))
theorem fV.Zv{A r:aD}{G:Gh}{s:aw}{e D T:ag}{y:ai}{a:Option ag}{Q:Unit→aw→Prop}{E:ai→aw→Prop}(x:fV W w A G Z s.heap k e D (aa (T,y)))
  (h:∀B O,G.le O→fV W w A O Z B k e D (aa (T,a.elim .none λf=>eY f))→Q () {s with heap:=B}):au (av W w) r (setFlight (.ref e) a) Q E s:=by
 refine x.ex.casesOn λU L z m c S l M=>?_;exact az (jD z S M.1 (ma rfl (x.Zy h)))
theorem fV.up{A r:aD}{O:aH}{l:List aH}{G:Gh}{h:ay}{e D:ag}{V:Option (ag×ai)}(x:fV W w r G Z h k e D V)(f:A.frames=aa l)(c:r.frames=aa (O::l)):fV W w A G Z h k e D V:=
 ⟨x.hr,x.fr.casesOn λK X P=>.mk l f λO z=>P O (aI (c.symm.trans X)▸ .tail _ z),x.ex,x.off,x.offT,x.kd⟩
theorem gO.Zv{A:aD}{O:aH}{l:List aH}{G:Gh}{Y:ai}{M:aw}{Q:Unit→aw→Prop}{g:ai→aw→Prop}(f:gO W w (A.deeper O) G Z M.heap k Y)(C:A.frames=aa l)
  (d:∀U B,G.le U→gO W w A U Z B k Y→Q () {M with heap:=B}):au (av W w) (A.deeper O) (leaving O Y) Q g M:=f.casesOn λe D S q t x=>by
 subst q;have c:=tG (env:=O) C;exact az (x.Zw t c λR V T L I b i=>i.Zv (s:={M with heap:=R}) λp K h H=>d K p (b.Zv h) (.mk e D (aa (T,.none)) rfl .Zv (H.up C c)))
theorem gO.Zw{A:aD}{O:aH}{l:List aH}{G:Gh}{Y:ai}{P:aw}{U:ai→aw→Prop}(f:gO W w A G Z P.heap k Y)(C:A.frames=aa (O::l))
  (d:∀V B,G.le V→gO W w A V Z B k Y→U Y {P with heap:=B}):fv (av W w) A O (lX (av W w) A O U) Y P:=by
 revert W w Z k A O l G Y P U;apply et;generalize aL _=W,e9 _=w,e8 _=Z,e7 _=k,e6 _=A,e5 _=O,e4 _=l,e3 _=G,e2 _=Y,e1 _=P,e0 _=U;intro f C d
 exact f.casesOn λe D u q t x=>by
   subst q;refine x.Zw t C λR S T L I b i=>?_;refine i.ex.casesOn λg j z m c N F M=>az (jD (s:={P with heap:=R}) z N M.1 (iD jO ?_));exact i.Zv (s:={P with heap:=R}) λp K h H=>d K p (b.Zv h) (.mk e D _ rfl (I▸ .f O l L C I rfl) H)
end
theorem EP{B:List (ak×ai)→(ak→Option ai)→ak→Option ai}{u:ak→ai→(ak→Option ai)→ak→Option ai}(W:∀m,B [] m=m)(R:∀n v r m,B ((n,v)::r) m=B r (u n v m)){x:ak}{Y:ai}
  (T:∀m,u x Y m x=aa Y)(Z:∀n v m,x≠n→u n v m x=m x)(l:List (ak×ai)):∀m,(l.map (·.1)).Nodup→((x,Y)∈l∨((∀y∈l,y.1≠x)∧m x=aa Y))→B l m x=aa Y:=
 bc (motive:=λl=>∀m,(l.map (·.1)).Nodup→((x,Y)∈l∨((∀y∈l,y.1≠x)∧m x=aa Y))→B l m x=aa Y) (λm N h=>h.elim (λh=>nomatch h) λh=>(congrFun (W m) x).trans h.2)
  (λp r F m S h=>(congrFun (R p.1 p.2 r m) x).trans (F _ (dY.mp S).2 (h.elim (λh=>(bf.mp h).elim (λe=>.inr ⟨λy O X=>(dY.mp S).1 (cR.mpr ⟨y,O,X.trans (congrArg nN e)⟩),e▸T m⟩) .inl)
   λh=>.inr ⟨λy O=>h.1 y (.tail _ O),(Z _ _ _ λe=>h.1 p (.head _) e.symm).trans h.2⟩))) l
theorem N8{a:ak→Option dX}{x:ak}{Y:ai}(U:a x=aa .local){l:List (ak×ai)}{m:ak→Option ai}(S:(l.map (·.1)).Nodup)(b:(x,Y)∈l):bindL a l m x=aa Y:=
 EP (B:=bindL a) (u:=λn v m=>if a n=aa .local then λy=>if y=n then aa v else m y else m) (λN=>rfl) (λN N N N=>rfl) (λm=>(congrFun (if_pos U) x).trans (if_pos rfl))
  (λn v m e=>bW (cx (a n=aa .local)) (λc=>(congrFun (if_pos c) x).trans (if_neg e)) λc=>congrFun (if_neg c) x) l m S (.inl b)
theorem Oa{a:ak→Option dX}{x:ak}{Y:ai}(U:a x=aa .cell){l:List (ak×ai)}{m:ak→Option ai}(S:(l.map (·.1)).Nodup)(b:(x,Y)∈l):bindC a l m x=aa Y:=
 EP (B:=bindC a) (u:=λn v m=>if a n=aa .local then m else λy=>if y=n then aa v else m y) (λN=>rfl) (λN N N N=>rfl) (λm=>(congrFun (if_neg (by refine(bo U)▸ ?_;decide)) x).trans (if_pos rfl))
  (λn v m e=>bW (cx (a n=aa .local)) (λc=>congrFun (if_pos c) x) λc=>(congrFun (if_neg c) x).trans (if_neg e)) l m S (.inl b)
theorem iK{O:Type}{x:ak}{c:O}{l:List (ak×O)}:l.lookup x=aa c→(x,c)∈l:=
 bc (motive:=λl=>l.lookup x=aa c→(x,c)∈l) (λh=>aG h) (λp r F h=>by
  rw[fj]at h;by_cases q:x=p.1
  ·rw[beq_iff_eq.mpr q]at h
   exact(aI h:p.2=c)▸q▸ .head _
  ·rw[beq_false_of_ne q]at h;exact .tail _ (F h)) l
theorem Ot{x y:ak}{c:ag}{l:List (ak×ag)}:l.Pairwise (λx y=>x.2≠y.2)→(x,c)∈l→(y,c)∈l→x=y:=
 bc (motive:=λl=>l.Pairwise (λx y=>x.2≠y.2)→(x,c)∈l→(y,c)∈l→x=y) (λN h=>nomatch h) (λp r F h K O=>
  (bf.mp K).elim (λe=>(bf.mp O).elim (λX=>congrArg nN (e.trans X.symm)) λO=>((Gm.mp h).1 (y,c) O ((congrArg Prod.snd e).symm:p.2=c)).elim)
   λK=>(bf.mp O).elim (λX=>((Gm.mp h).1 (x,c) K ((congrArg Prod.snd X).symm:p.2=c)).elim) λO=>F (Gm.mp h).2 K O) l
noncomputable def Gh.Zx(G:Gh)(P:ag→Bool)(L:ag)(B:ay):Gh:=⟨G.im,λa=>if P a then B.get? a else G.pv a,λa=>if a=L then ae else G.fm a⟩
section
variable{W:aK}{w:aJ}{K:aY}{J:ay}{n:Nat}{Z:St}{X:ak→St→Prop}{Q:V→St→Prop}
theorem yQ{G:Gh}{B:ay}{P:ag→Bool}{L a:ag}(h:P a=ae):(G.Zx P L B).pv a=B.get? a:=if_pos h
theorem E1{G:Gh}{B:ay}{P:ag→Bool}{L a:ag}(h:¬P a=ae):(G.Zx P L B).pv a=G.pv a:=if_neg h
theorem HR.ZX{G:Gh}{h B:ay}{P:ag→Bool}{L:ag}(x:HR W w G Z h)(I:h.get? L=ah)(F:∀a,P a=ae→h.get? a=ah)(k:∀b o,h.get? b=aa o→B.get? b=aa o):HR W w (G.Zx P L B) Z B∧G.le (G.Zx P L B):=by
 have S:∀a o,G.pv a=aa o→(G.Zx P L B).pv a=aa o:=λa o e=>(E1 λc=>aG ((F a c).symm.trans (x.pv a o e))).trans e
 exact⟨x.ZH (P ·=ae) (λN N q=>q) (λa c=>⟨rfl,E1 c,rfl,k a⟩) (λa c=>⟨λo q=>aG ((x.Zv (F a c)).im.symm.trans q),λo q=>(yQ c).symm.trans q,λo q=>aG ((x.Zv (F a c)).mu.symm.trans q)⟩) (λa o c N e=>aG ((F a c).symm.trans e)),
  λN N e=>e,λa o e=>⟨o.slots,S a o e⟩,λa o e=>⟨if_neg λq=>aG (I.symm.trans (q▸x.pv a o e)),λN=>S a o e⟩⟩
theorem GB{f:ag→Option aC}{D:List Nat}{O:List ai}{L:List V}{p:Nat×V}(h:VRs f L O):p∈D.zip L→∃Y,VR f p.2 Y∧(NM p.1,Y)∈(D.map NM).zip O:=
 h.Zx (M:=λL O=>∀D:List Nat,p∈D.zip L→∃Y,VR f p.2 Y∧(NM p.1,Y)∈(D.map NM).zip O) (λD t=>nomatch (List.zip_nil_right▸t:p∈ []))
  (λ{v r l O} x _ F D=>br (motive:=λD=>p∈List.zip D (v::l)→∃Y,VR f p.2 Y∧(NM p.1,Y)∈(tM NM D).zip (r::O)) D (λt=>nomatch t)
   λi D t=>(bf.mp t).elim (λe=>e▸⟨r,x,.head _⟩) λt=>aB (F D t) λY a b=>⟨Y,a,.tail _ b⟩) D
theorem GA{Y U:Type}{l:List Y}{O:List U}(h:l.Nodup):((l.zip O).map (·.1)).Nodup:=
 bc (motive:=λl=>∀O:List U,l.Nodup→((l.zip O).map (·.1)).Nodup) (λN N=>.nil) (λa l F O h=>br (motive:=λO=>((List.zip (a::l) O).map (·.1)).Nodup) O .nil
  λb O=>dY.mpr ⟨λV=>aB (cR.mp V) λp t e=>(dY.mp h).1 (Eq.mp (congrArg (·∈l) e) (zK t).1),F O (dY.mp h).2⟩) l O h
abbrev sQ(Q:V→St→Prop)(y:Fl)(Z:St):Prop:=Fl.casesOn y (Q .none Z) False False λv=>Q v Z
inductive qa(K:aY)(f:ag)(O:List bh)(I:Sc)(U:List Nat)(m:Nat)(e:List V):Prop
 |mk (name D:ak) (j:gR) (H:cG) (v S A x N p B:ai) (t T:Option ag) (o:Array (Option ai)) (c:List ai):
  K.lookup f=aa ⟨B,T,.func (fnOf name D j O H v S A x t N p),o⟩→codeIn K N D=ae→
  (∀(s:aw) Y,K.In s.heap→Y.length=m→BindsTo s (fnOf name D j O H v S A x t N p) ⟨Y,[]⟩ ((U.map NM).zip (Y++c)))→
  VRs (λa=>K.lookup a) e c→(U.all λi=>kQ i cB)=ae→U.Nodup→(U.all λi=>H.names.lookup (NM i)==aa .local ||H.names.lookup (NM i)==aa .cell)=ae→
  ((cellsFrom 0 H.names []).map (·.1)).Nodup→H.isCoroutine=aj→H.isGenerator=aj→H.kind=.function→I=⟨H.names,N,D++".<locals>."⟩→qa K f O I U m e
theorem OE{D:List Nat}(O:(D.all λi=>kQ i cB)=ae)(h:D.Nodup):(D.map NM).Nodup:=by
 rw[List.nodup_iff_pairwise_ne];rw[List.pairwise_map];exact List.Pairwise.imp_of_mem (λk U a=>yU (gz (dA.mp O _ k)) (gz (dA.mp O _ U)) a) h
theorem MQ{a:List (ak×dX)}{y:ak}(h:a.lookup y=aa .cell)(i:Nat):∃c,(cellsFrom i a []).lookup y=aa c:=Option.isSome_iff_exists.mp (cellsFrom_some _ _ _ (.inl h))
theorem CO{A:aD}{n:Nat}(F:Fo A (n+1))(O:aH):Fo (A.deeper O) n:=
 ⟨F.hd,aW (cN (Gj _ _ _)) (aW (iy (by decide:(1:Nat)≤2) _) F.dp),aW (cN (Gj _ _ _)) (aW (iy (by decide:(3:Nat)≤20) _) F.un)⟩
theorem fE.Zx{A:aD}{G U:Gh}{O:aH}(x:fE A G)(k:G.le U)(e:tc U O):fE (A.deeper O) U:=by
 revert A G U O;apply dM;generalize e3 _=A,e2 _=G,e1 _=U,e0 _=O;intro x k e
 exact x.casesOn λy r m=>.mk (O::y) (tG r) λY j=>
   (bf.mp j).elim (λq=>q.symm▸e) λj=>(m Y j).casesOn λL o a b c d f=>aE (k.pv _ _ c) λM v=>.mk L _ a b v d ((k.fx _ _ c).1.trans f)
theorem Ea{f:ag}{B:List bh}{ns:Sc}{xs:List Nat}{args j:List V}(C:Cx K J)(F0:qa K f B ns xs args.length j)
  {A:aD}{G:Gh}{V6:aw}{rs:List ai}{R:jI→aw→Prop}(F:Fo A (n+1))(T:cW J A G)(H:HR W w G Z V6.heap)(V7:VRs G.im args rs)
  (hQ:∀v rv S M h' tk,G.le S→HR W w S M h' →VR S.im v rv→Q v M→R (.ok (.ret rv)) {V6 with heap:=h',toks:=tk})(hX:KX W w A G V6 X λe s' =>R (.error e) s')
  (h:∀O I U Vv,G.le I→dG O ns→Fz (A.deeper O) O n→Dy W w J (A.deeper O) O I (xs.zip (args++j)) Z U→∀RQ RE,
   (∀fl rfl S VF M h' tk,I.c (cH O) S→Dy W w J (A.deeper O) O S VF M h' →jB S.im fl rfl→sQ Q fl M→RQ rfl {V6 with heap:=h',toks:=tk})→
   iT W w (A.deeper O) O I {V6 with heap:=U,toks:=Vv} X RE→au (av W w) (A.deeper O) (execs B O) RQ RE {V6 with heap:=U,toks:=Vv}):
  gr (av W w) A (.call (.ref f) ⟨rs,[]⟩) R V6:=by
 revert W w K J n Z X Q f B ns xs args j A G V6 rs R;apply aX;generalize aT _=W,aL _=w,e9 _=K,e8 _=J,e7 _=n,e6 _=Z,e5 _=X,e4 _=Q,e3 _=f,e2 _=B,e1 _=ns,e0 _=xs;apply bF;generalize e1 _=args,e0 _=j;intro C F0;apply eE;generalize e4 _=A,e3 _=G,e2 _=V6,e1 _=rs,e0 _=R;intro F T H V7 hQ hX h
 exact F0.casesOn λname V0 VN Y dV kV V1 pm V3 ct oc an od V4 ds ho VP hb VQ hx VS Vy VO VT VK hk VU=>by
   subst VU;have XK:=C.at T H;have VG:∀b,V6.heap.objs.size≤b→V6.heap.get? b=ah:=λb hb=>fA λo q=>absurd (eZ q) (qt.mpr hb)
   have Vw:∀y∈(xs.map NM).zip (rs++ds),Y.names.lookup y.1=aa .local ∨Y.names.lookup y.1=aa .cell:=λy l=>aB (cR.mp (zK l).1) λi hi e=>
    e▸(gB.mp (dA.mp Vy i hi)).imp beq_iff_eq.mp beq_iff_eq.mp
   have VH:(((xs.map NM).zip (rs++ds)).map (·.1)).Nodup:=GA (OE hx VS);refine codeAny_call_function (fL (aW (jL _ _) F.dp) (by decide)) (XK _ _ ho) rfl VT VK rfl (codeRec_of XK VP) (hb V6 rs XK V7.Zv _ _ _ _ ?_);refine wpAny_newFunctionEnv_cells hk (λy l=>(Vw y l).imp id λq=>⟨q,cellsFrom_some _ _ _ (.inl q)⟩) λO u s' x=>dO x.done λU tk VV Vz=>?_;subst VV;have hL:O.locals=V6.heap.objs.size:=by rw[u];rfl
   have VW:O.cells=cellsFrom (V6.heap.objs.size+1) Y.names []:=by rw[u];rfl
   have N:∀y,O.kindOf y=Y.names.lookup y:=λy=>by rw[u];rfl
   refine⟨(C.nl.keeps (T.Zv H)).keeps Vz,codeAny_func ?_⟩
   obtain⟨P,Vx,VA⟩:∃P:ag→Bool,(∀a,cH O a→P a=ae)∧∀a,P a=ae→V6.heap.get? a=ah:=⟨λa=>cI a O.locals||O.cells.any λc=>cI a c.2,
    λa ho=>ho.elim (λq=>gB.mpr (.inl (q▸Nat.beq_refl _))) λq=>aE q λy l=>gB.mpr (.inr (List.any_eq_true.mpr ⟨(y,a),iK l,Nat.beq_refl _⟩)),
    λa ha=>(gB.mp ha).elim (λq=>VG _ (cN (hL.symm.trans (gA q).symm))) λq=>aB (List.any_eq_true.mp q) λc m q=>VG _ (iw (fL (cN hL.symm) (gA q▸x.above c.1 c.2 m)))⟩
   refine bu (H.ZX (L:=O.locals) (VA _ (Vx _ (.inl rfl))) VA Vz) λH' g=>?_;have VB:(G.Zx P O.locals U).pv O.locals=U.get? O.locals:=yQ (Vx _ (.inl rfl));have VC:∀x c,O.cells.lookup x=aa c→(G.Zx P O.locals U).pv c=U.get? c:=λx c m=>yQ (Vx _ (.inr ⟨x,m⟩));have VI:∀y,O.kindOf y=aa .cell→∃c,O.cells.lookup y=aa c:=λy l=>aE (MQ ((N y).symm.trans l) (V6.heap.objs.size+1)) λc m=>⟨c,VW▸m⟩;refine eH x.toInCall.ns λoL es ep gL dL kL mL=>?_
   have E:ER (G.Zx P O.locals U) O (xs.zip (args++j)):=
    ⟨λp hp=>⟨gz (dA.mp hx _ (zK hp).1),aB (GB (V7.Zy (VQ.Zw (C.im T))) hp) λrv hv hm=>(Vw _ hm).elim
     (λq=>.n rv (hv.Zv g.im) (.mk oL es ep ((N _).trans q) (VB.trans gL) dL kL ((mL _).trans (N8 ((N _).trans q) VH hm))))
     λq=>aE (VI _ ((N _).trans q)) λc m=>aB (x.cell _ _ m) λo d VD=>.c rv (hv.Zv g.im) (.mk c o (.inl ((N _).trans q)) m ((VC _ _ m).trans d) (VD.trans (congrArg Data.cell (Oa ((N _).trans q) VH hm))))⟩,
    .mk oL es ep (VB.trans gL) dL kL,λy l=>aE (VI y l) λc m=>aB (x.cell _ _ m) λo d VD=>.mk c o _ m ((VC _ _ m).trans d) VD,λy c m=>aB (x.cell _ _ m) λo d zz=>⟨o,(VC _ _ m).trans d⟩⟩
   refine T.fr.casesOn λfl VJ V5=>?_;have FD:=CO F O;have FZ:Fz (A.deeper O) O n:=⟨FD.hd,FD.dp,FD.un,by rw[u];exact hk,by rw[u];rfl,by rw[u];rfl,λy z c l hz=>Ot x.apart (iK l) (iK hz),λy c l=>Nat.ne_of_gt (x.above _ _ (iK l)),⟨O,fl,tG VJ,rfl⟩⟩;have VX:fE (A.deeper O) (G.Zx P O.locals U):=T.fr.Zx g (.mk O.locals oL (by rw[u];exact λq=>ScopeKind.noConfusion (hk.symm.trans q)) (by rw[u];rfl) (VB.trans gL) (lu dL) (if_pos rfl));have VE:∀a o,G.pv a=aa o→¬cH O a:=λa o e ho=>aG ((VA a (Vx a ho)).symm.trans (H.pv a o e))
   have D:∀{S:Gh},(G.Zx P O.locals U).c (cH O) S→G.le S:=λk=>⟨λa o e=>k.im _ _ (g.im _ _ e),λa o e=>aE (g.pv _ _ e) λzz r=>aE (k.pv _ _ (VE a o e) r) λsl VL=>⟨sl,VL⟩,
    λa o e=>aE (g.pv a o e) λzz r=>⟨((k.fx a _ (VE a o e) r).1).trans (g.fx a o e).1,λz=>(k.fx a o (VE a o e) ((g.fx a o e).2 z)).2 ((g.fx a o e).1.trans z)⟩⟩
   exact h O (G.Zx P O.locals U) U tk g ⟨by rw[u];rfl,by rw[u];rfl,by rw[u];rfl⟩ FZ ⟨⟨(T.le g).t,VX⟩,H',E⟩ _ _
    (λfl rfl' S VF M h' t k D' fr q=>by
     cases fr with
     |next=>exact hQ .none .none S M h' t (D k) D'.hr .none q
     |ret v=>exact hQ _ _ S M h' t (D k) D'.hr v q
     |brk=>exact q.elim
     |cont=>exact q.elim)
    λk ev S M h' t kk fl x=>gO.Zv (M:={V6 with heap:=h',toks:=t}) fl VJ λVY VZ VM f=>hX k ev VY M VZ t ((D kk).Zv VM) f x
abbrev A8(U Y:ai→aw→Prop):jI→aw→Prop:=λr O=>match r with| .ok (.ret v)=>U v O| .ok _=>False| .error e=>Y e O
def fF(W:aK)(w:aJ)(J:ay)(n:Nat)(Z:St)(args:List V)(f:ag)(Q:V→St→Prop)(X:ak→St→Prop):Prop:=
 ∀A G s U,Fo A n→cW J A G→HR W w G Z s.heap→VRs G.im args U→∀R:jI→aw→Prop,
  (∀v Y O M B u,G.le O→HR W w O M B→VR O.im v Y→Q v M→R (.ok (.ret Y)) {s with heap:=B,toks:=u})→
  KX W w A G s X (λe S=>R (.error e) S)→
  gr (av W w) A (.call (.ref f) ⟨U,[]⟩) R s
theorem fF.v{f:ag}{args:List V}(h:fF W w J n Z args f Q X):aS W w J n Z args (λO=>aV (.ref f) O) Q X:=
 λA G s O F T H S U Y E d=>kD (h A G s O F T H S (A8 U Y) E d)
theorem fF.fn{f:ag}{i:List bh}{I:Sc}{B:List Nat}{args e:List V}(C:Cx K J)(c:qa K f i I B args.length e)
  (h:AS W w J n I (B.zip (args++e)) i Z (λy N M=>sQ Q y M) X):fF W w J (n+1) Z args f Q X:=
 λA G s t F T H z R E d=>Ea C c F T H z E d λU Y S O N L u D j P g a=>h (A.deeper U) U Y {s with heap:=S,toks:=O} L u D j P g a
end
end
section
open PySem PySem.W PyProof.Rows PySem.Calls PySem.Builtin.ObjectAttr
noncomputable abbrev fT:List ai:=[.ref 39,.type "Exception",.type "BaseException",.type "object"]
inductive FQ(K:aY):Prop
 |mk (L q bs H l G I k D Y S a m T):H=ae→K.lookup 83=aa (nH L q 83 82 bs fT H l G I k D Y S a m T "Exception.__new__")→FQ K
structure XC(K:aY):Prop where
 cls:FQ K
 ga:fJ K (.ref 83) "__getattribute__"=aa (aa (.builtin "BaseException.__getattribute__"))
 gh:fJ K (.ref 83) "__getattr__"=aa ah
 sa:fJ K (.ref 83) "__setattr__"=aa (aa (.builtin "object.__setattr__"))
 nkind:fJ K (.ref 83) "kind"=aa ah
 nmsg:fJ K (.ref 83) "message"=aa ah
 nspot:fJ K (.ref 83) "spot"=aa ah
section
variable{W:aK}{w:aJ}{A:aD}{E:ai→aw→Prop}{s:aw}{K:aY}{e:ag}{name:ak}
theorem XC.Zv(X:XC K):∃r,clsIn K 83=aa r∧r.mro=.ref 83::fT∧r.hasDict=ae:=by
 refine X.cls.casesOn λL q C H l G I k D Y S a m T O h=>?_;exact⟨_,by unfold PySem.W.clsIn;rw[h],rfl,O⟩
theorem RL(self:ai):refuseLoop self "__setattr__" (.ref 83::fT)=a8 ():=by
 skip
 kernel_rfl
theorem Iw{self v:ai}{n:ak}{u:Tok}{T:ai}{Q:Fin→aw→Prop}{M:Model}(R:Looks M s.heap (typeOf self) T)(H:Looks M s.heap (find self T n) (.value v))(h:Q (.done (.ret v)) s):
  au M A (Builtin.«object.__getattribute__» ⟨[self,.str n u],[]⟩) Q E s:=by
 revert A E s self v n u T Q M;apply fD;generalize e9 _=A,e8 _=E,e7 _=s,e6 _=self,e5 _=v,e4 _=n,e3 _=u,e2 _=T,e1 _=Q,e0 _=M;intro R H h;unfold Builtin.«object.__getattribute__»;refine az (ql (a:=(self,[.str n u])) (by kernel_rfl) ?_);refine az (ql (a:=n) (by kernel_rfl) ?_);refine az (R.here (az (H.here ?_)));exact aR h
theorem KM{f:Bool}{J T:aC}{v:ai}{Q:ai→aw→Prop}(C:XC K)(X:K.In s.heap)(I:InstAt s.heap e J 83 (aa T))(Y:fJ K (.ref 83) name=aa ah)(O:lookIn name T=aa (aa v))(Z:handedIn v=ae)
  (h:Q v {s with toks:=s.toks+1}):au (av W w) A (getAttr (.ref e) name f) Q E s:=by
 revert W w A E s K e name f J T v Q;apply aX;generalize aT _=W,aL _=w,e9 _=A,e8 _=E,e7 _=s,e6 _=K,e5 _=e,e4 _=name,e3 _=f,e2 _=J,e1 _=T,e0 _=v;apply aP;generalize e0 _=Q;intro C X I Y O Z h;refine bH (C.Zv) λL V b S=>?_;have u:=I.type (M:=av W w);have U:=looks_findIn (M:=av W w) X C.ga;have r:=looks_findIn (M:=av W w) X C.gh;have B:=looks_find (M:=av W w) X I (findObj_own (by unfold hasDictIn;exact V▸S) Y rfl O)
 have G:Looks (av W w) s.heap (isInstance (.ref e) (.type "BaseException")) ae:=
  I.type.andThen (looks_mroIn X (by unfold mroIn;refine(bo V)▸ ?_;rw[Option.bind_some];rw[b];rfl))
 obtain⟨k,g,d,t,i⟩:=s;refine az (wpAny_mkText (cC (az (u.at (az (U.at ?_))))));refine(?_:au _ _ (getAttrByItsOwn _ _ _ _ _ _) _ _ _);refine az (r.at ?_);refine az (wpAny_attempt (cC ?_));show au _ _ (callGetattribute _ _ _ _) _ _ _;unfold callGetattribute;rw[if_neg (by cases f<;>decide)];refine az (ql (a:=(.builtin "BaseException.__getattribute__",[.ref e])) (by kernel_rfl) ?_);refine kD (F4 (by decide+kernel) F.entry_bexc_ga (@check_slot (av W w) _ _ _ "BaseException.__getattribute__" "BaseException" "__getattribute__" (.ref e) [.str name t] [] _ (by decide+kernel) (by decide+kernel) G (F.args_bexc_ga _ _) ?_));refine Iw (s:=⟨k,g,d,t+1,i⟩) u B ?_;refine(?_:au _ _ (handedOut v) _ _ _);rw[handedOut_of Z];exact aR h
theorem HC{v:ai}{J:aC}{T:Option aC}{Q:Unit→aw→Prop}(C:XC K)(X:K.In s.heap)(I:InstAt s.heap e J 83 T)(Y:fJ K (.ref 83) name=aa ah)
  (h:au (av W w) A.in1 (instanceDict e ae) (λa Z=>∃d O,a=aa d∧de Z.heap d O∧O.length≤1000∧∀p,de p d (cq name v O)→iq d Z.heap p→Q () {Z with heap:=p,toks:=Z.toks+1}) E {s with toks:=s.toks+1}):
  au (av W w) A (setAttr (.ref e) name v) Q E s:=by
 revert W w A E s K e name v J T Q;apply aX;generalize aT _=W,aL _=w,e9 _=A,e8 _=E,e7 _=s,e6 _=K,e5 _=e,e4 _=name,e3 _=v,e2 _=J,e1 _=T,e0 _=Q;intro C X I Y h;refine bH (C.Zv) λr V b S=>?_;refine set_plain X I C.sa ?_;have t:=PySem.F.store_object;have G:Looks (av W w) s.heap (isInstance (.ref e) (.type "object")) ae:=I.type.andThen (looks_mroIn X (by unfold mroIn;refine(bo V)▸ ?_;rw[Option.bind_some];rw[b];rfl));refine F4 t.slot.plain t.entry (@check_slot (av W w) _ _ {s with toks:=s.toks+1} "object.__setattr__" "object" "__setattr__" (.ref e) [.str name s.toks,v] [] _ t.kind t.split G (t.args (.ref e) (.str name s.toks) v) ?_);have x:Looks (av W w) s.heap (mroOf (.ref 83)) r.mro:=(looks_clsIn X V).andThen .now;rw[osa_eq];rw[refuse_eq];refine az (az (qo (s:={s with toks:=s.toks+1}) I.type (az (qo (s:={s with toks:=s.toks+1}) x ?_))));refine(bo b)▸ ?_;refine aR (az (qo (s:={s with toks:=s.toks+1}) I.type (az (qo (s:={s with toks:=s.toks+1}) (looks_findIn X Y) (az (aR ?_))))));refine az (aR (az (dh h (λa Z U=>?_) λN N z=>z)));refine nX (U) λd O u=>?_;refine qz u λm o B j=>?_;subst m;refine az (aR (az ?_));refine Bd o λL l i=>?_;refine fy λn=>?_;obtain⟨H,q,k,F,f,_,_,g⟩:=l;refine n ?_;clear n;refine az (wpAny_lookBehind F (by exact f▸pastItsLine_dict (by rw[lD]at g;refine(bo qm)▸ ?_;split at g<;>lia)) ?_);exact aR (j _ ⟨H,q,k,F,f,‹_›,‹_›,g⟩ i)
end
inductive FN(P h:ay)(e:ag)(O:List (ak×ai)):Prop
 |mk (T L M x):h.get? e=aa ⟨.ref 83,T,.fields L,M⟩→1<L.size→L[1]? =aa .none→L[0]? =aa x→(match T with|ah=>O=[]|aa D=>D≠e∧P.get? D=ah∧de h D O)→FN P h e O
def dS(P h:ay)(e:ag)(O:List (ak×ai)):Prop:=
 (∀b o,P.get? b=aa o→h.get? b=aa o)∧P.get? e=ah∧FN P h e O
theorem dS.Zw{P G h:ay}{e:ag}{O:List (ak×ai)}(k:∀b o,P.get? b=aa o→G.get? b=aa o):dS G h e O→dS P h e O:=by
 intro S;refine fy λt=>?_;obtain⟨a,b,T,L,M,x,c,d,f,g,i⟩:=S;refine t ?_;clear t
 have l:∀q,G.get? q=ah→P.get? q=ah:=λq j=>by
  cases z:P.get? q with
  |none=>rfl
  |some o=>rw[k _ _ z]at j;exact qS j
 refine⟨λq o j=>a _ _ (k _ _ j),l _ b,T,L,M,x,c,d,f,g,?_⟩;cases T with
 |none=>exact i
 |some D=>exact⟨i.1,l _ i.2.1,i.2.2⟩
theorem dS.Zx{P h:ay}{e:ag}{O:List (ak×ai)}(x:dS P h e O):∃J T,h.get? e=aa J∧InstAt h e J 83 T:=by
 revert P h e O;apply dM;generalize e3 _=P,e2 _=h,e1 _=e,e0 _=O;intro x;refine fy λk=>?_;obtain⟨a,b,T,L,M,x,c,d,f,g,i⟩:=x;refine k ?_;clear k;cases T with
 |none=>exact⟨_,ah,c,c,rfl,rfl,trivial⟩
 |some D=>refine fy λj=>?_;obtain⟨_,_,o,W,r,u,_⟩:=i;refine j ?_;clear j;exact⟨_,aa o,c,c,rfl,rfl,u⟩
theorem dS.Zv{P h:ay}{e:ag}{O:List (ak×ai)}(x:dS P h e O):∃G,dS G h e O∧(∀b o,P.get? b=aa o→G.get? b=aa o)∧
  ∀(R:ay) L m,(∀b o,h.get? b=aa o→R.get? b=aa o)→h.get? L=ah→R.Ns L m→∃p,dS p R e O∧p.Ns L m∧∀b o,P.get? b=aa o→p.get? b=aa o:=by
 revert P h e O;apply dM;generalize e3 _=P,e2 _=h,e1 _=e,e0 _=O;intro x;refine fy λl=>?_;obtain⟨a,b,T,W,M,x,c,d,f,g,i⟩:=x;refine l ?_;clear l
 have y:∀R:ay,(∀b o,h.get? b=aa o→R.get? b=aa o)→dS (hideAll R (e::T.toList)) R e O∧∀b o,P.get? b=aa o→(hideAll R (e::T.toList)).get? b=aa o:=λR k=>by
  refine⟨⟨λb o=>of_hideAll _,hideAll_none _ (.head _),T,W,M,x,k _ _ c,d,f,g,?_⟩,λq o j=>hideAll_get _ (k _ _ (a _ _ j)) λhm=>?_⟩
  ·cases T with
   |none=>exact i
   |some D=>exact⟨i.1,hideAll_none _ (.tail _ (.head _)),i.2.2.at λo=>k _ o⟩
  ·rcases bf.mp hm with rfl|hm
   ·exact aG (b.symm.trans j)
   ·cases T with
    |none=>cases hm
    |some D=>rcases jd.mp hm with rfl;exact aG (i.2.1.symm.trans j)
 refine⟨_,(y h λN N e=>e).1,(y h λN N e=>e).2,λR L m k I Y=>⟨_,(y R k).1,?_,(y R k).2⟩⟩;refine nV (Y) λo Z U u r=>?_;refine⟨o,Z,U,hideAll_get _ u λhm=>?_,r⟩;rcases bf.mp hm with rfl|hm
 ·exact aG (I.symm.trans c)
 ·cases T with
  |none=>cases hm
  |some D=>
   rcases jd.mp hm with rfl
   obtain⟨_,_,H,_,_,F,_⟩:=i;exact aG (I.symm.trans F)
section
variable{W:aK}{w:aJ}{A:aD}{E:ai→aw→Prop}{s:aw}{K:aY}{e:ag}{name:ak}{P:ay}{rvs:List (ak×ai)}
theorem uf{v:ai}{Q:Unit→aw→Prop}(C:XC K)(X:K.In P)(J:dS P s.heap e rvs)(Y:fJ K (.ref 83) name=aa ah)(O:rvs.length≤1000)
  (h:∀B u,dS P B e (cq name v rvs)→Q () {s with heap:=B,toks:=u}):au (av W w) A (setAttr (.ref e) name v) Q E s:=by
 revert W w A E s K e name P rvs v Q;apply aX;generalize aT _=W,aL _=w,e9 _=A,e8 _=E,e7 _=s,e6 _=K,e5 _=e,e4 _=name,e3 _=P,e2 _=rvs,e1 _=v,e0 _=Q;intro C X J Y O h;refine dO (J.Zx) λG t r I=>?_;refine fy λF=>?_;obtain⟨a,b,U,L,M,y,c,d,f,g,i⟩:=J;refine F ?_;clear F;refine bH (C.Zv) λx V hm S=>?_;have H:=X.keeps a;refine HC C H I Y ?_;refine az (wpAny_loadPart (s:={s with toks:=s.toks+1}) c ?_);refine az (qo (s:={s with toks:=s.toks+1}) (looks_clsIn H V) ?_);refine(bo S)▸ ?_;cases U with
 |some D=>
  refine aR ⟨D,rvs,rfl,i.2.2,O,λp l T=>?_⟩;have N:∀q,P.get? q≠ah→q≠D:=λq j z=>j (z▸i.2.1);exact h p _ ⟨λq o j=>(T.2 q (N q (by refine(bo j)▸ ?_;simp))).trans (a _ _ j),b,aa D,L,M,y,(T.2 e (dx i.1)).trans c,d,f,g,i.1,i.2.1,l⟩
 |none=>
  subst i;refine(?_:au _ _ (do let d←alloc {cls:=.type "dict",data:=.dict #[]};update e λo=>{o with dict:=aa d};dictMade (.ref 83) e d) _ _ _);refine az (wpAny_alloc ?_);have Z:=bM {cls:=.type "dict",data:=.dict #[]} c;refine az (wpAny_update (s:={s with heap:=s.heap.push {cls:=.type "dict",data:=.dict #[]},toks:=s.toks+1}) Z ?_);refine az (aR (aR ⟨s.heap.objs.size,[],rfl,?_,gy _,λp l T=>?_⟩))
  ·refine(de.Zw s.heap).at λo R=>(kK _ _ ?_).trans R
   exact λq=>by have:=eZ c;rw[q]at this;exact jK _ this
  ·have n:e≠s.heap.objs.size:=iu (eZ c)
   have m:=jb (λo=>{o with dict:=aa s.heap.objs.size}) Z rfl;refine h p _ ⟨λq o j=>?_,b,aa s.heap.objs.size,L,M,y,(T.2 e n).trans m,d,f,g,dx n,?_,l⟩
   ·have k:q≠e:=λz=>aG (b.symm.trans (z▸j))
    exact(T.2 q (iu (eZ (a _ _ j)))).trans ((kK _ _ (dx k)).trans (bM _ (a _ _ j)))
   ·cases z:P.get? s.heap.objs.size with
    |none=>rfl
    |some o=>exact absurd (eZ (a _ _ z)) (jK _)
end
noncomputable abbrev pS(s:String):ak:=aq s
noncomputable abbrev nm(s:String)(p:aN):ar:=.Name (aq s) p
noncomputable abbrev EM(F W o R E Z n w B b D N z J:aN):List bh:=
 [.Expr (.Call (.Attribute (nm "Exception" F) (pS "__init__") W) [nm "self" o,nm "message" R] [] E) Z,
  .Assign [.Attribute (nm "self" n) (pS "message") w] (nm "message" B) b,
  .Assign [.Attribute (nm "self" D) (pS "spot") N] (nm "spot" z) J]
noncomputable abbrev EL(F W o R E Z n w B b D N z J:aN):List bh:=
 [.Expr (.Call (.Attribute (nm "LendError" F) (pS "__init__") W) [nm "self" o,.BinOp (.BinOp (nm "kind" R) .Add (.Constant (.str (pS ": ")) 0 E) Z) .Add (nm "message" n) w] [] B) b,
  .Assign [.Attribute (nm "self" D) (pS "kind") N] (nm "kind" z) J]
noncomputable abbrev lg:List (ak×dX):=[(pS "self",.local),(pS "message",.local),(pS "spot",.local),(pS "Exception",.globalImplicit)]
noncomputable abbrev lf:List (ak×dX):=[(pS "self",.local),(pS "kind",.local),(pS "message",.local),(pS "LendError",.globalImplicit)]
noncomputable abbrev r5(name D:ak)(j:gR)(i:List bh)(O:List (ak×dX))(v x:ai)(r:ai):fZ:=fnOf name D j i {kind:=.function,names:=O,isGenerator:=aj,isCoroutine:=aj} v .none .none x ah r .none
def FS(x:fZ)(K:aY)(args:List ai)(a:List (ak×ai)):Prop:=∀s:aw,K.In s.heap→BindsTo s x ⟨args,[]⟩ a
inductive FL(K:aY):Prop
 |mk (q j F W o R E Z n w B b D N z J h t k x r u):K.lookup 36=aa {cls:=.type "function",data:=.func (r5 (pS "__init__") q j (EM F W o R E Z n w B b D N z J) lg (.ref h) x r)}→(W.endLine==E.line)=ae→K.lookup h=aa {cls:=.type "tuple",data:=.seq #[.int t u] k}→codeIn K r q=ae→(∀v m:ai,FS (r5 (pS "__init__") q j (EM F W o R E Z n w B b D N z J) lg (.ref h) x r) K [v,m] [(pS "self",v),(pS "message",m),(pS "spot",.int t u)])→FL K
inductive FK(K:aY):Prop
 |mk (q j F W o R E Z n w B b D N z J x r):K.lookup 80=aa {cls:=.type "function",data:=.func (r5 (pS "__init__") q j (EL F W o R E Z n w B b D N z J) lf .none x r)}→(W.endLine==B.line)=ae→codeIn K r q=ae→(∀v k m:ai,FS (r5 (pS "__init__") q j (EL F W o R E Z n w B b D N z J) lf .none x r) K [v,k,m] [(pS "self",v),(pS "kind",k),(pS "message",m)])→FK K
inductive Ff(K:aY):Prop
 |mk (P r O D M):K.lookup 82=aa ⟨O,D,.dict P r,M⟩→(P.toList.all λe=>match e.key with| .str .. =>ae|_=>aj)=ae→ew P (pS "__init__")=aa (.ref 80)→Ff K
structure XI(K:aY):Prop where
 f36:FL K
 f80:FK K
 ns82:Ff K
 init39:findCls K (.ref 39) (.type "type") (pS "__init__")=aa (.val (.ref 36))
 ga39:specialIn K (.ref 39) (pS "__getattribute__")=aa (aa (.builtin "type.__getattribute__"))
 rd39:readsIn K 39 (.type "type")=ae
 initE:findCls K (.type "Exception") (.type "type") (pS "__init__")=aa (.val (.builtin "Exception.__init__"))
 gL:bG K bp (pS "LendError")=aa (aa (.ref 39))
 gE:bG K bp (pS "Exception")=aa ah
 keep36:eF K (.ref 36)=ae
section
variable{W:aK}{w:aJ}{A:aD}{E:ai→aw→Prop}{s:aw}{K:aY}{e:ag}{P:ay}{rvs:List (ak×ai)}
theorem rZ(x:ai)(h:fT.contains x=ae):(nL 83::fT).contains x=ae:=by rw[List.contains_cons,h,Bool.or_true]
theorem MM{h:ay}{g:Array qr}{d:Drawn}{t:Nat}{i:OsState}{L q:ak}{bs:List ai}{H:Bool}{l:List ak}{G:List ai}{I:Bool}{k:Option Bool}{D:Option ag}{Y S a m T:Option ai}{M:Model}
  {O:List ai}{Q:Unit→aw→Prop}(Z:h.get? 83=aa (nH L q 83 82 bs fT H l G I k D Y S a m T "Exception.__new__"))(j:Q () ⟨h,g,d,t,i⟩):
  au M A (zq "Exception.__new__" ⟨.ref 83::O,[]⟩) Q E ⟨h,g,d,t,i⟩:=by
 revert A E h g d t i L q bs H l G I k D Y S a m T M O Q;apply aX;generalize aT _=A,aL _=E,e9 _=h,e8 _=g,e7 _=d,e6 _=t,e5 _=i,e4 _=L,e3 _=q,e2 _=bs,e1 _=H,e0 _=l;apply aX;generalize aT _=G,aL _=I,e9 _=k,e8 _=D,e7 _=Y,e6 _=S,e5 _=a,e4 _=m,e3 _=T,e2 _=M,e1 _=O,e0 _=Q;intro Z j;have U:=tE;have b:=rZ (.type "Exception") (by decide+kernel);have c:=U.noStar;simp only[zq,U.newKind,U.newSplit,U.newRow]
 repeat(first|refine kB Z ?_|(refine tl Z ?_)|refine wpAny_staticBase_exc Z ?_|refine wpAny_madeBy_exc Z ?_|rfl|wp_step)
 exact j
theorem KZ{h:ay}{g:Array qr}{d:Drawn}{t:Nat}{i:OsState}{L q:ak}{bs:List ai}{H:Bool}{l:List ak}{G:List ai}{I:Bool}{k:Option Bool}{D:Option ag}{Y S a m T:Option ai}{R:jI→aw→Prop}
  {O:List ai}(Z:h.get? 83=aa (nH L q 83 82 bs fT H l G I k D Y S a m T "Exception.__new__"))
  (j:R (.ok (.ret (.ref (h.objs.size+1)))) ⟨(h.push {cls:=.type "tuple",data:=.seq O.toArray}).push
   {cls:=.ref 83,data:=.fields #[.ref h.objs.size,.none,.none,.none,.bool aj,.none]},g,d,t,i⟩)(n:O.length≤eX):
  gr (av W w) A (.builtin "Exception.__new__" ⟨.ref 83::O,[]⟩) R ⟨h,g,d,t,i⟩:=by
 revert W w A h g d t i L q bs H l G I k D Y S a m T R O;apply aX;generalize aT _=W,aL _=w,e9 _=A,e8 _=h,e7 _=g,e6 _=d,e5 _=t,e4 _=i,e3 _=L,e2 _=q,e1 _=bs,e0 _=H;apply aX;generalize aT _=l,aL _=G,e9 _=I,e8 _=k,e7 _=D,e6 _=Y,e5 _=S,e4 _=a,e3 _=m,e2 _=T,e1 _=R,e0 _=O;intro Z j n;have J:=tE;have b:=J.ends;have r:=rZ (.type "Exception") (by decide+kernel);have c:(nL 83::fT).contains (.type "AttributeError")=aj:=by decide+kernel
 have U:(nL 83::fT).contains (.type "NameError")=aj:=by decide+kernel
 refine codeAny_builtinAt J.entry ?_;unfold Builtin.«BaseException.__new__»;refine PySem.wpAt_bind ?_;refine PySem.wpAt_bind (PySem.wpAt_stack λp o=>PySem.wpAt_of_wpAny ?_)
 wp_walk
 refine PySem.wpAt_of_wpAny ?_;refine(bo J.owner)▸ ?_
 repeat(first|with_reducible refine wpAny_madeHere_exc J.canon Z ?_|with_reducible refine kB Z ?_|(with_reducible refine tl Z ?_;first|rw[r]|rw[c]|skip)|wp_step)
 refine(?_:R _ _);rw[Heap.size_push];exact j
theorem JV{h:ay}{g:Array qr}{d:Drawn}{t:Nat}{i:OsState}{L q:ak}{bs:List ai}{H:Bool}{l:List ak}{G:List ai}{I:Bool}{k:Option Bool}{D:Option ag}{Y S a m T:Option ai}{M:Model}
  {name:ak}{p:ak→Option ai}{v:ai}{Q:Option ai→aw→Prop}(O:h.get? 83=aa (nH L q 83 82 bs fT H l G I k D Y S a m T "Exception.__new__"))(Z:h.Ns 82 p)(U:p name=aa v)
  (j:Q (aa v) ⟨h,g,d,t,i⟩):au M A (typeLookup (.ref 83) name) Q E ⟨h,g,d,t,i⟩:=by
 rw[typeLookup_eq];refine az (wpAny_mroOf_exc O ?_);rw[lookupAlong_cons];refine az (wpAny_classOwn_exc O Z ?_);exact U▸aR j
theorem GR{h:ay}{g:Array qr}{d:Drawn}{t:Nat}{i:OsState}{L q:ak}{bs:List ai}{H:Bool}{l:List ak}{G:List ai}{I:Bool}{k:Option Bool}{D:Option ag}{V S a m B:Option ai}
  {p:ak→Option ai}{O:List ai}{Y:ag}{z:aC}{Q:Fin→aw→Prop}
  (U:h.get? 83=aa (nH L q 83 82 bs fT H l G I k D V S a m B "Exception.__new__"))(N:h.Ns 82 p)(f:p "__init__"=aa (.ref Y))
  (u:h.get? Y=aa z)(v:z.cls=.type "function")
  (j:∀R e,Heap.MadeExcOf h R e (.ref 83) O→
   au (av W w) A (aV (.ref Y) (.ref e::O)) (λr C=>r=.none∧Q (.done (.ret (.ref e))) C) E ⟨R,g,d,t,i⟩)(n:O.length≤eX):
  au (av W w) A (Builtin.«type.__call__» ⟨.ref 83::O,[]⟩) Q E ⟨h,g,d,t,i⟩:=by
 revert W w A E h g d t i L q bs H l G I k D V S a m B p O Y z Q;apply aX;generalize aT _=W,aL _=w,e9 _=A,e8 _=E,e7 _=h,e6 _=g,e5 _=d,e4 _=t,e3 _=i,e2 _=L,e1 _=q,e0 _=bs;apply aX;generalize aT _=H,aL _=l,e9 _=G,e8 _=I,e7 _=k,e6 _=D,e5 _=V,e4 _=S,e3 _=a,e2 _=m,e1 _=B,e0 _=p;apply dM;generalize e3 _=O,e2 _=Y,e1 _=z,e0 _=Q;intro U N f u v j n;have Vw:=tE
 repeat(first|with_reducible refine kB U ?_|with_reducible refine wpAny_madeBy_exc U ?_|wp_step)
 refine codeAny_call_builtin_code (Code.quiet_builtin _ Vw.quiet) (MM U ?_);refine KZ U ?_ n;refine(?_:au _ _ _ _ _ _)
 have y:=bM {cls:=.ref 83,data:=.fields #[.ref h.objs.size,.none,.none,.none,.bool aj,.none]}
  (bM {cls:=.type "tuple",data:=.seq O.toArray} U)
 have Z:=bM {cls:=.ref 83,data:=.fields #[.ref h.objs.size,.none,.none,.none,.bool aj,.none]}
  (bM {cls:=.type "tuple",data:=.seq O.toArray} u)
 have J:((h.push {cls:=.type "tuple",data:=.seq O.toArray}).push {cls:=.ref 83,data:=.fields #[.ref h.objs.size,.none,.none,.none,.bool aj,.none]}).Ns 82 p:=
  nV (N) λo X c e r=>⟨o,X,c,bM _ (bM _ e),r⟩
 have M:((h.push {cls:=.type "tuple",data:=.seq O.toArray}).push
   {cls:=.ref 83,data:=.fields #[.ref h.objs.size,.none,.none,.none,.bool aj,.none]}).get? (h.objs.size+1)=aa
   {cls:=.ref 83,data:=.fields #[.ref h.objs.size,.none,.none,.none,.bool aj,.none]}:=by heap_get
 have Vv:(nL 83::fT).contains (.ref 83)=ae:=by decide+kernel
 repeat(first|with_reducible refine kB M ?_|(with_reducible refine tl y ?_)|wp_step)
 refine JV y J f ?_;refine cC (az ?_);refine az (wpAny_typeOf (T:="function") ⟨_,Z,v⟩ ?_);rw[if_pos (by decide)];refine aR (az (dh (j _ (h.objs.size+1) ⟨λb o hb=>bM _ (bM _ hb),F6 (nP _),h.objs.size,M,F6 (f8 _),?_⟩) (λr C hr=>?_) λzz zz x=>x))
 ·exact bM _ (Heap.get?_push_at rfl rfl)
 ·obtain⟨rfl,hQ⟩:=hr
  wp_walk
  exact hQ
theorem MR{h:ay}{g:Array qr}{d:Drawn}{t:Nat}{i:OsState}{L q:ak}{bs:List ai}{H:Bool}{l:List ak}{G:List ai}{I:Bool}{k:Option Bool}{D:Option ag}{Y S a m T:Option ai}
  {p:ak→Option ai}{F:List ai}{O:ag}{z:aC}{Q:ai→aw→Prop}
  (Z:h.get? 83=aa (nH L q 83 82 bs fT H l G I k D Y S a m T "Exception.__new__"))(U:h.Ns 82 p)(f:p "__init__"=aa (.ref O))
  (u:h.get? O=aa z)(v:z.cls=.type "function")
  (j:∀B e,Heap.MadeExcOf h B e (.ref 83) F→
   au (av W w) (A.under (.builtin "type.__call__" ⟨.ref 83::F,[]⟩)) (aV (.ref O) (.ref e::F)) (λr J=>r=.none∧Q (.ref e) J) E ⟨B,g,d,t,i⟩)(n:F.length≤eX):
  au (av W w) A (aV (.ref 83) F) Q E ⟨h,g,d,t,i⟩:=by
 revert W w A E h g d t i L q bs H l G I k D Y S a m T p F O z Q;apply aX;generalize aT _=W,aL _=w,e9 _=A,e8 _=E,e7 _=h,e6 _=g,e5 _=d,e4 _=t,e3 _=i,e2 _=L,e1 _=q,e0 _=bs;apply aX;generalize aT _=H,aL _=l,e9 _=G,e8 _=I,e7 _=k,e6 _=D,e5 _=Y,e4 _=S,e3 _=a,e2 _=m,e1 _=T,e0 _=p;apply dM;generalize e3 _=F,e2 _=O,e1 _=z,e0 _=Q;intro Z U f u v j n;have V:=tc_lookup;have o:=tc_bind (.ref 83);have M:(⟨h,g,d,t,i⟩:aw).TypeIs (.ref 83) "type":=⟨_,Z,rfl⟩;refine kD (codeAny_of_tree ?_);refine(?_:au _ _ (callAny (.ref 83) _) _ _ _)
 repeat(any_goals(first|assumption|with_reducible refine kB Z ?_|wp_step))
 refine⟨rfl,?_⟩;refine codeAny_call_builtin_at (Code.quiet_builtin _ (by decide+kernel)) entry_typeCall (wpAny_check_type_call_sub Z (GR Z U f u v (λB e b=>?_) n));exact j B e b
end
theorem lw{o:ar}{name:ak}{b V:aN}{args:List ar}{O:aH}(t:(b.endLine==V.line)=ae)(i:i7 o name O (a7 o O)=a7 o O)
  (I:methodCallForm (args.length+0) (cQ V (bw args O)) (jH V (jG [] O))=ae):
  a7 (.Call (.Attribute o name b) args [] V) O=(do
   let y←a7 o O
   dW b.atName
   let(f,first)←fw [y] (i5 y name (do return(←importBound o O).getD ae))
   nJ V f first (cQ V (bw args O)) (jH V (jG [] O))):=by
 revert o name b V args O;apply ch;generalize e5 _=o,e4 _=name,e3 _=b,e2 _=V,e1 _=args,e0 _=O;intro t i I
 refine(?_:(do
  let y←i7 o name O (a7 o O)
  dW b.atName
  methodCall o name b V O y (args.length+0) (cQ V (bw args O)) (jH V (jG [] O)))=_)
 rw[i];unfold methodCall;rw[I];unfold methodCallPos;rw[t];rfl
section
variable{M:Model}{A:aD}{E:ai→aw→Prop}{s:aw}{O:aH}{V:aN}
theorem qQ{Q:List ai→aw→Prop}(h:Q [] s):au M A (nE (cQ V (bw [] O))) Q E s:=aR h
theorem k9{e:ar}{r:List ar}{Q:List ai→aw→Prop}(h:au M A (a7 e O) (λv D=>au M A (nE (cQ V (bw r O))) (λL o=>Q (v::L) o) E D) E s)
  (W:bw (e::r) O=(aj,a7 e O)::bw r O):au M A (nE (cQ V (bw (e::r) O))) Q E s:=by
 refine(bo W)▸ ?_;refine(?_:au _ _ (do let v←a7 e O;let b←a8 [v];return b++(←fw b (nE (cQ V (bw r O))))) _ _ _);refine az (dh h (λv D R=>?_) λN N z=>z);exact az (aR (az (cC (dh R (λL o p=>aR p) λN N z=>z))))
theorem hO{x:ak}{p:aN}{D:ak→Option ai}{v:ai}{Q:ai→aw→Prop}(U:O.scope.kind=.function)(K:O.kindOf x=aa .local ∧(x==("__debug__":ak))=aj)(Y:s.heap.Ns O.locals D)(g:D x=aa v)(h:Q v s):au M A (a7 (.Name x p) O) Q E s:=wpAny_Name (zk U K.1 Y g h) K.2
end
section
variable{W:aK}{w:aJ}{A:aD}{E:ai→aw→Prop}{s:aw}{K:aY}{e:ag}{P:ay}{rvs:List (ak×ai)}
theorem MN{h:ay}{g:Array qr}{d:Drawn}{t:Nat}{i:OsState}{L q:ak}{bs:List ai}{H:Bool}{l:List ak}{G:List ai}{I:Bool}{k:Option Bool}{D:Option ag}{Y S Z m T:Option ai}{M:Model}
  {J:aC}{O:List ai}{Q:Unit→aw→Prop}(U:h.get? 83=aa (nH L q 83 82 bs fT H l G I k D Y S Z m T "Exception.__new__"))(z:h.get? e=aa J)(f:J.cls=.ref 83)(j:Q () ⟨h,g,d,t,i⟩):
  au M A (zq "Exception.__init__" ⟨.ref e::O,[]⟩) Q E ⟨h,g,d,t,i⟩:=by
 revert A E e h g d t i L q bs H l G I k D Y S Z m T M J O Q;apply aX;generalize aT _=A,aL _=E,e9 _=e,e8 _=h,e7 _=g,e6 _=d,e5 _=t,e4 _=i,e3 _=L,e2 _=q,e1 _=bs,e0 _=H;apply aX;generalize aT _=l,aL _=G,e9 _=I,e8 _=k,e7 _=D,e6 _=Y,e5 _=S,e4 _=Z,e3 _=m,e2 _=T,e1 _=M,e0 _=J;apply bF;generalize e1 _=O,e0 _=Q;intro U z f j;have V:=tE;have r:=rZ (.type "Exception") (by decide+kernel);have o:=V.noStar;simp only[zq,V.initKind,V.initSplit,V.initRow]
 repeat(first|(with_reducible refine kB z ?_;refine(bo f)▸ ?_)|with_reducible refine kB U ?_|(with_reducible refine tl U ?_)|wp_step)
 refine wpAny_onRaise ?_
 rw[show∀(a b:String) (n:Nat),Bind.check ⟨.positional,"*","Exception",.self,[⟨"args",.varPos,aj⟩]⟩ a b n (tM (λx=>x.fst) ({pos:=nL e::O}:Args).kw)=a8 ()from
  λa b n=>check_star_args _ _ _ _ _ _]
 exact aR j
theorem Oc{v:ai}{Q:ai→aw→Prop}(C:XC K)(X:K.In P)(J:dS P s.heap e rvs)(Vv:∀B u,dS P B e rvs→Q .none {s with heap:=B,toks:=u}):
  au (av W w) A (aV (.builtin "Exception.__init__") [.ref e,v]) Q E s:=by
 revert W w A E s K e P rvs v Q;apply et;generalize aL _=W,e9 _=w,e8 _=A,e7 _=E,e6 _=s,e5 _=K,e4 _=e,e3 _=P,e2 _=rvs,e1 _=v,e0 _=Q;intro C X J Vv;refine fy λp=>?_;obtain⟨a,b,T,L,M,x,c,d,f,g,i⟩:=J;refine p ?_;clear p;refine(C.cls).casesOn λI q R H m G D k dd k0 k1 k2 k3 k5 hh Y=>?_;obtain⟨O,gg,dr,t,os⟩:=s;have Vw:=tE;refine kD (F4 Vw.init.plain Vw.initEntry (MN (X.keeps a _ _ Y) c rfl ?_));unfold Builtin.«BaseException.__init__»;dsimp only;rw[if_neg (by decide)];have l:0<L.size:=Nat.lt_of_succ_lt d;have n:=bM (h:=O) {cls:=.type "tuple",data:=.seq [v].toArray} c;refine az (nB (az (az (jD n rfl g (az (wpAny_setField n rfl l ?_))))) (by refine(?_:1≤eX);decide));refine(show au _ _ (match x with| .ref _=>letGo [x] []|_=>a8 ()) _ _ _ from ?_)
 have y:∀{Z:Unit→aw→Prop} {r:aD} {N:ai→aw→Prop} {U:aw},Z () U→au (av W w) r (match x with| .ref _=>letGo [x] []|_=>a8 ()) Z N U:=λj=>by
  cases x<;>first|exact wpAny_letGo j|exact aR j
 refine y (aR ?_);refine Vv _ _ ⟨λq o j=>(kK _ _ λz=>?_).trans (bM _ (a _ _ j)),b,T,_,M,.ref O.objs.size,jb _ n rfl,by simpa using d,?_,?_,?_⟩
 ·subst z;exact aG (b.symm.trans j)
 ·rw[Array.getElem?_setIfInBounds_ne (by decide)];exact f
 ·simp[l]
 ·cases T with
  |none=>exact i
  |some S=>
   refine⟨i.1,i.2.1,i.2.2.at λo V=>(kK _ _ (dx i.1)).trans (bM _ V)⟩
end
section
variable{W:aK}{w:aJ}{A:aD}{E:ai→aw→Prop}{s:aw}{K:aY}{e:ag}{P J:ay}{rvs:List (ak×ai)}
structure kh(K:aY)(P:ay):Prop where
 X:K.In P
 T:∃p O Q f,TopRead p O Q f P
 nl:P.NoLimit
theorem kh.Zv{G:ay}(x:kh K P)(k:∀b o,P.get? b=aa o→G.get? b=aa o):kh K G:=⟨x.X.keeps k,kU (x.T) λp l Q f t=>⟨p,l,Q,f,t.keeps k⟩,x.nl.keeps k⟩
theorem CK{O:aH}{x:ak}{V:aN}{Y:ai}{U:ai→aw→Prop}(C:kh K s.heap)(b:O.scope.kind=.function)(c:O.globals=bp)
  (S:O.kindOf x=aa .globalImplicit∧(x==("__debug__":ak))=aj)(o:bG K bp x=aa (aa Y))(h:U Y s):au (av W w) A (a7 (.Name x V) O) U E s:=by
 refine kU (C.T) λp Z Q f a=>?_;refine zA b S.1 (loadGlobal_global ?_ (mg_of C.X a.g o) h) S.2;exact c▸a.g
theorem N6{O:aH}{x:ak}{V:aN}{Y:ai}{U:ai→aw→Prop}(C:kh K s.heap)(b:O.scope.kind=.function)(c:O.globals=bp)(q:O.builtins=lY)
  (S:O.kindOf x=aa .globalImplicit∧(x==("__debug__":ak))=aj)(o:bG K bp x=aa ah)(i:nK x=aa Y)(B:x≠"__name__")(h:U Y s):au (av W w) A (a7 (.Name x V) O) U E s:=by
 refine kU (C.T) λp Z Q f a=>?_;refine zA b S.1 (loadGlobal_builtin (mg:=Q) (mb:=f) ?_ (mg_none_of C.X a.g o) ?_ ((a.builtins x B).trans i) h) S.2
 ·rw[c];exact a.g
 ·rw[q];exact a.b
theorem HE:∀x∈lg,x.2≠.cell:=by decide+kernel
theorem HD:∀x∈lf,x.2≠.cell:=by decide+kernel
theorem rU:lg.lookup (pS "self")=aa .local ∧(pS "self"==("__debug__":ak))=aj:=by decide+kernel
theorem wT:lg.lookup (pS "message")=aa .local ∧(pS "message"==("__debug__":ak))=aj:=by decide+kernel
theorem Cn:lg.lookup (pS "spot")=aa .local ∧(pS "spot"==("__debug__":ak))=aj:=by decide+kernel
theorem Kb:lg.lookup (pS "Exception")=aa .globalImplicit∧(pS "Exception"==("__debug__":ak))=aj:=by decide+kernel
theorem wR:lf.lookup (pS "self")=aa .local ∧(pS "self"==("__debug__":ak))=aj:=by decide+kernel
theorem wS:lf.lookup (pS "kind")=aa .local ∧(pS "kind"==("__debug__":ak))=aj:=by decide+kernel
theorem Cm:lf.lookup (pS "message")=aa .local ∧(pS "message"==("__debug__":ak))=aj:=by decide+kernel
theorem Ka:lf.lookup (pS "LendError")=aa .globalImplicit∧(pS "LendError"==("__debug__":ak))=aj:=by decide+kernel
theorem Oi(v m p:ai):(([(pS "self",v),(pS "message",m),(pS "spot",p)]:List (ak×ai)).reverse.lookup (pS "self")=aa v)∧
  (([(pS "self",v),(pS "message",m),(pS "spot",p)]:List (ak×ai)).reverse.lookup (pS "message")=aa m)∧(([(pS "self",v),(pS "message",m),(pS "spot",p)]:List (ak×ai)).reverse.lookup (pS "spot")=aa p):=⟨by kernel_rfl,by kernel_rfl,by kernel_rfl⟩
theorem Oe(v k m:ai):(([(pS "self",v),(pS "kind",k),(pS "message",m)]:List (ak×ai)).reverse.lookup (pS "self")=aa v)∧
  (([(pS "self",v),(pS "kind",k),(pS "message",m)]:List (ak×ai)).reverse.lookup (pS "kind")=aa k)∧(([(pS "self",v),(pS "kind",k),(pS "message",m)]:List (ak×ai)).reverse.lookup (pS "message")=aa m):=⟨by kernel_rfl,by kernel_rfl,by kernel_rfl⟩
theorem Kp{a:ak}{O:Tok}{Q:ai→aw→Prop}(C:XC K)(I:XI K)(T:kh K P)(Vw:dS P s.heap e [])(H:A.depth+2<recursionLimit)
  (h:∀N G R,dS P N e R→R.length≤10→Q .none {s with heap:=N,toks:=G}):
  au (av W w) A (aV (.ref 36) [.ref e,.str a O]) Q E s:=by
 revert W w A E s K e P a O Q;apply et;generalize aL _=W,e9 _=w,e8 _=A,e7 _=E,e6 _=s,e5 _=K,e4 _=e,e3 _=P,e2 _=a,e1 _=O,e0 _=Q;intro C I T Vw H h;refine(I.f36).casesOn λq j p1 p2 o p4 p5 p6 p7 p8 p9 pa pb pc pd pe dT dv dn pm cd Z hf U Vv V S=>?_;have J0:=Vw;refine bH (Vw.Zv) λP' J' kP Y=>?_;have X:=T.X.keeps Vw.1
 refine kD (codeAny_call_def (by lia) (X _ _ hf) rfl (T.nl.keeps Vw.1) (codeRec_of X V) rfl (S _ _ s X) HE (by
  intro y F;simp only[bf,bZ,or_false]at F;rcases F with rfl|rfl|rfl
  ·exact rU.1
  ·exact wT.1
  ·exact Cn.1) λz b r=>?_)
 refine bH (Y z _ _ r (eV _) b) λD n f g=>?_;have x:=T.Zv g;refine bb (Oi (.ref e) (.str a O) (.int dv Z)) λl u b3=>?_;have B:s.heap.objs.size≤s.heap.objs.size:=f8 _;refine jE (zl (qn (N6 (s:={s with heap:=z,toks:=s.toks+3}) (Y:=.type "Exception") (x.Zv n.1) rfl rfl rfl Kb I.gE (by kernel_rfl) (by decide+kernel) ?_) (lw U rfl rfl)));refine method_type (s:={s with heap:=z,toks:=s.toks+3}) (h₀:=s.heap) (L:=s.heap.objs.size) ⟨b,r,f8 _⟩ X (by kernel_rfl) (by kernel_rfl) I.initE rfl ?_;refine tz (P:=λzz=>True) rfl (λh zz=>⟨.machine,.inr (.inl rfl),oO (W:=W) (w:=w) _ h⟩) (tF ?_);refine(?_:au _ _ (nE (cQ p5 (bw [nm "self" o,nm "message" p4] _))) _ _ _);refine k9 ?_ rfl;refine hO rfl rU (f.keeps n.1) l ?_;refine k9 ?_ rfl;refine hO rfl wT (f.keeps n.1) u ?_;refine qQ ⟨trivial,?_⟩;refine Oc (s:={s with heap:=z,toks:=s.toks+3+1}) C x.X n λp i M=>?_;refine jE (F2 (hO (s:={s with heap:=p,toks:=i}) rfl wT (f.keeps M.1) u (hO (s:={s with heap:=p,toks:=i}) rfl rU (f.keeps M.1) l ?_)));refine uf (s:={s with heap:=p,toks:=i}) C x.X M C.nmsg (gy _) λt v d=>?_;refine jE (F2 (hO (s:={s with heap:=t,toks:=v}) rfl Cn (f.keeps d.1) b3 (hO (s:={s with heap:=t,toks:=v}) rfl rU (f.keeps d.1) l ?_)));refine uf (s:={s with heap:=t,toks:=v}) C x.X d C.nspot (by rw[lD];split<;>simp) λk m c=>?_;refine aR (h k m _ (c.Zw g) ?_);rw[lD,lD];split<;>split<;>simp
theorem Hg{O:Array kM}(h:(O.toList.all λe=>match e.key with| .str .. =>ae|_=>aj)=ae):i9 O:=by
 revert O;apply aP;generalize e0 _=O;intro h
 exact λe z=>by
   have:=dA.mp h e (Array.mem_toList_iff.mpr z);cases q:e.key with
   |str n t=>exact⟨n,t,rfl⟩
   |_=>rw[q]at this;exact aF this
theorem Ko{k m:ak}{c a:Tok}{Q:ai→aw→Prop}(C:XC K)(I:XI K)(T:kh K P)(Vw:dS P s.heap e [])(H:A.depth+4<recursionLimit)(G:k.length+m.length≤1000)
  (h:∀N u Y t,dS P N e Y→Y.lookup (pS "kind")=aa (.str k t)→Q .none {s with heap:=N,toks:=u}):
  au (av W w) A (aV (.ref 80) [.ref e,.str k c,.str m a]) Q E s:=by
 revert W w A E s K e P k m c a Q;apply aX;generalize aT _=W,aL _=w,e9 _=A,e8 _=E,e7 _=s,e6 _=K,e5 _=e,e4 _=P,e3 _=k,e2 _=m,e1 _=c,e0 _=a;apply aP;generalize e0 _=Q;intro C I T Vw H G h;refine(I.f80).casesOn λq j p1 p2 p3 p4 p5 p6 p7 p8 p9 pa pb pc pd pe pm cd o Z V S=>?_;refine bH (Vw.Zv) λP' J' kP U=>?_;have X:=T.X.keeps Vw.1
 refine kD (codeAny_call_def (by lia) (X _ _ o) rfl (T.nl.keeps Vw.1) (codeRec_of X V) rfl (S _ _ _ s X) HD (by
  intro y l;simp only[bf,bZ,or_false]at l;rcases l with rfl|rfl|rfl
  ·exact wR.1
  ·exact wS.1
  ·exact Cm.1) λz b r=>?_)
 refine bH (U z _ _ r (eV _) b) λD n f g=>?_;have x:=T.Zv g;refine bb (Oe (.ref e) (.str k c) (.str m a)) λR F b3=>?_;refine jE (zl (qn (CK (s:={s with heap:=z,toks:=s.toks+3}) (Y:=.ref 39) (x.Zv n.1) rfl rfl Ka I.gL ?_) (lw Z rfl rfl)));refine method_cls (s:={s with heap:=z,toks:=s.toks+3}) (x.Zv n.1).X I.ga39 (cls_value (s:={s with heap:=z,toks:=s.toks+3}) (x.Zv n.1).X I.rd39 I.init39 rfl ?_);refine tA (x.Zv n.1).X I.keep36 ?_;refine k9 ?_ rfl;refine hO rfl wR (f.keeps n.1) R ?_;refine k9 ?_ rfl;refine(wpAny_BinOp (wpAny_BinOp (hO (D:=_) rfl wS (f.keeps n.1) F (FY (add_str (λt' u=>hO (s:={s with heap:=z,toks:=u}) (D:=_) rfl Cm (f.keeps n.1) b3 (add_str (λVv B=>?_) ?_)) ?_)))))
 ·refine qQ ⟨(x.Zv n.1).X,?_⟩
  refine Kp (s:={s with heap:=z,toks:=B}) C I x n (by refine(?_:A.depth+1+2<_);exact iw ‹_›) λp i Y M L=>?_;refine jE (F2 (hO (s:={s with heap:=p,toks:=i}) rfl wS (f.keeps M.1) F (hO (s:={s with heap:=p,toks:=i}) rfl wR (f.keeps M.1) R ?_)));refine uf (s:={s with heap:=p,toks:=i}) C x.X M C.nkind (by exact aW ‹_› (by decide)) λO v d=>?_;refine aR (h O v _ c (d.Zw g) ?_);rw[rJ];rw[if_pos rfl]
 ·show(k++pS ": ").length+m.length≤eX
  have:(k++pS ": ").length=k.length+2:=by rw[Str.length_append];rfl
  rw[this];rw[qm];lia
 ·refine(?_:k.length+2≤eX)
  refine(bo qm)▸ ?_;lia
theorem IH{k m:ak}{O a:Tok}{Q:ai→aw→Prop}(C:XC K)(I:XI K)(T:kh K s.heap)(H:A.depth+6<recursionLimit)(Z:k.length+m.length≤1000)
  (h:∀B u e Y t,dS s.heap B e Y→Y.lookup (pS "kind")=aa (.str k t)→Q (.ref e) {s with heap:=B,toks:=u}):
  au (av W w) A (aV (.ref 83) [.str k O,.str m a]) Q E s:=by
 revert W w A E s K k m O a Q;apply et;generalize aL _=W,e9 _=w,e8 _=A,e7 _=E,e6 _=s,e5 _=K,e4 _=k,e3 _=m,e2 _=O,e1 _=a,e0 _=Q;intro C I T H Z h;refine(C.cls).casesOn λx q bs V sn G ab v dd k0 k1 k2 k3 k5 hh L=>?_;refine(I.ns82).casesOn λU r cl d0 sl d c f=>?_;refine(I.f80).casesOn λq8 j p1 p2 p3 p4 p5 p6 p7 p8 p9 pa pb pc pd pe pm cd M n o S=>?_;have X:=T.X;obtain⟨N,F,R,t,i⟩:=s;refine MR (X _ _ L) (p:=ew U) ⟨_,U,r,X _ _ d,rfl,Hg c,λzz=>rfl⟩ f (X _ _ M) rfl (λB e b=>?_) (by refine(?_:2≤eX);decide);refine bH (b.there) λtt z l ht=>?_;have Vv:dS N B e []:=⟨b.keeps,b.new,ah,_,_,_,z,by refine(?_:1<6);decide,rfl,rfl,rfl⟩;exact Ko (s:=⟨B,F,R,t,i⟩) C I T Vv (by rw[depth_under_make];exact iw ‹_›) Z λp u Y y g D=>⟨rfl,h p u e Y y g D⟩
end
section
variable{W:aK}{w:aJ}{A:aD}{E:ai→aw→Prop}{s:aw}{K:aY}{J:ay}
theorem Cx.Zw(C:Cx K J){A:aD}{G:Gh}{Z:St}{h:ay}(T:cW J A G)(H:HR W w G Z h):kh K h:=
 ⟨C.at T H,kU (C.T) λp l Q f t=>⟨p,l,Q,f,t.keeps (T.Zv H)⟩,C.nl.keeps (T.Zv H)⟩
theorem dS.Zy{A:aD}{G:Gh}{Z:St}{h B:ay}{e:ag}{O:List (ak×ai)}{k:ak}{t:Tok}(V:dS h B e O)(T:cW J A G)(H:HR W w G Z h)(U:O.lookup (pS "kind")=aa (.str k t)):
  gO W w A G Z B k (.ref e):=by
 revert W w J A G Z h B e O k t;apply aX;generalize aT _=W,aL _=w,e9 _=J,e8 _=A,e7 _=G,e6 _=Z,e5 _=h,e4 _=B,e3 _=e,e2 _=O,e1 _=k,e0 _=t;intro V T H U;refine fy λp=>?_;obtain⟨a,b,Y,L,M,x,c,d,f,g,i⟩:=V;refine p ?_;clear p;cases Y with
 |none=>subst i;exact aG U
 |some D=>
  refine⟨e,D,ah,rfl,trivial,H.ZA a,T.fr,⟨_,L,c,rfl,rfl,rfl,d,f⟩,⟨⟨(H.Zv b).im,(H.Zv b).pv⟩,(H.Zv i.2.1).pv⟩,(λN N q=>aG q),O,t,i.2.2,U⟩
theorem HN{O:aH}{x:ar}{V:aN}{Q:Flow→aw→Prop}(C:XC K)(S:A.handled=ah)
  (h:au (av W w) A (a7 x O) (λv D=>∃e P Z,v=.ref e∧K.In P∧dS P D.heap e Z∧E (.ref e) D) E s):au (av W w) A (exec (.Raise (aa x) ah V) O) Q E s:=by
 revert W w A E s K O x V Q;apply fD;generalize e9 _=W,e8 _=w,e7 _=A,e6 _=E,e5 _=s,e4 _=K,e3 _=O,e2 _=x,e1 _=V,e0 _=Q;intro C S h
 have Y:∀{t:bI ai},au (av W w) A t (λv D=>∃e P Z,v=.ref e∧K.In P∧dS P D.heap e Z∧E (.ref e) D) E s→au (av W w) A (raiseStmt O (aa t) ah) Q E s:=λh=>by
  refine az (dh h (λv D R=>?_) λN N x=>x);refine eH (R) λe P Z p X Vv I=>?_;refine qF p ?_;refine(C.cls).casesOn λl q bs H sn G ab k dd k0 k1 k2 k3 k5 m U=>?_;have U:=X.keeps Vv.1 _ _ U;refine fy λo=>?_;obtain⟨a,b,od,vs,sl,y,z,d,f,g,i⟩:=Vv;refine o ?_;clear o;obtain⟨L,F,M,u,T⟩:=D;have r:=rZ (.type "BaseException") (by decide+kernel);have B:E (.ref e) ⟨L,F,M,u,T⟩:=I
  repeat(first|with_reducible refine kB z ?_|with_reducible refine kB U ?_|(with_reducible refine tl U ?_)|wp_step)
  refine(bo f)▸ ?_;refine aR ?_;rw[if_neg (by decide)];refine aR ?_;refine az (wpAny_handled ?_);refine(bo S)▸ ?_
  first
   |exact wpAny_throw B
   |exact j (c (n B))
 refine(?_:au _ A (do dW V;raiseStmt O (aa (do let v←a7 x O;dW V;a8 v)) ah) Q E s);exact az (fG (Y (az (dh h (λv D R=>az (fG (aR R))) λN N x=>x))))
end
section
variable{W:aK}{w:aJ}{K:aY}{J:ay}{n:Nat}{I:Sc}{S:aA}{Z:St}{X:ak→St→Prop}{Q:Fl→aA→St→Prop}
theorem AX.Zz{H M:ar}{y U V:aN}(C:Cx K J)(R:XC K)(XJ:XI K)(hk:I.names.lookup (pS "MachineFault")=aa .globalImplicit)(hg:bG K bp (pS "MachineFault")=aa (aa (.ref 83)))(r:eF K (.ref 83)=ae)
  (h:AE W w J n I S H Z (λkv Y=>∃k,kv=.str k∧AE W w J n I S M Y (λmv f=>∃m,mv=.str m∧k.length+m.length≤1000∧X k f) X) X)
  (z:∀O,bw [H,M] O=(aj,a7 H O)::bw [M] O)(v:∀O,bw [M] O=(aj,a7 M O)::bw [] O):
  AX W w J n I S (.Raise (aa (.Call (nm "MachineFault" y) [H,M] [] U)) ah V) Z Q X:=by
 revert W w K J n I S Z X Q H M y U V;apply aX;generalize aT _=W,aL _=w,e9 _=K,e8 _=J,e7 _=n,e6 _=I,e5 _=S,e4 _=Z,e3 _=X,e2 _=Q,e1 _=H,e0 _=M;apply bY;generalize e2 _=y,e1 _=U,e0 _=V;intro C R XJ hk hg r h z v;intro A O G Vw T F D RQ RE hQ d;refine HN R F.hd ?_;refine nM rfl (mM C F D.top D.hr (cU T hk) hg ?_ (by decide));refine tA C.X r ?_ (z O) (by rw[v O];rfl);refine k9 ?_ (z O);refine h A O G Vw T F D _ _ (λkv rk B Y Vv x g j c u=>?_) d.e;refine aB (u) λk b hm=>?_;subst b;refine VR.eS c λzz=>?_;refine k9 ?_ (v O);refine hm A O B _ T F (D.Zv g j) _ _ (λmv rm L f p i a l P E=>?_) (d.e.Zv g);refine bH (E) λm N hz hx=>?_;subst N;refine VR.eS P λzz=>?_;have q:=D.top.le (g.Zv a);refine qQ ⟨C.at q l,?_⟩;refine IH (s:={Vw with heap:=p,toks:=i}) R XJ (C.Zw q l) (by have:=F.dp;refine(?_:A.depth+6<1000);lia) hz λh' tk e rv t Vx o=>?_;refine⟨e,p,rv,rfl,C.at q l,Vx,?_⟩;exact d.e k (.ref e) L f h' tk (g.Zv a) (Vx.Zy q l o) hx
end
noncomputable abbrev oV(D:ak)(j:gR)(i:ar)(H:cG)(e:List (ak×ag))(x E N:ai):aC:={cls:=.type "function",data:=.func (kla_fn (pS "<lambda>") D j i H e x E N)}
section
variable{W:aK}{w:aJ}{K:aY}{J:ay}{n:Nat}{S:aA}{Z:St}{X:ak→St→Prop}{Q:V→St→Prop}
theorem jC.re{G:Gh}{h:ay}{Z:St}{E:ai}{q:ak}(x:jC G.im E q)(H:HR W w G Z h):h.CodeRec E q:=x.casesOn λc o L t a b d e=>⟨c,o,L,t,a,H.im _ _ b,d,e⟩
inductive Fi(G:Gh)(e:List (ak×ag))(a:List (ak×dX))(p:Nat×V):Prop
 |mk (c o Y):p.1<cB→a.lookup (NM p.1)=aa .free→e.lookup (NM p.1)=aa c→G.pv c=aa o→o.data=.cell (aa Y)→VR G.im p.2 Y→Fi G e a p
theorem J5{A:aD}{G:Gh}{VK:aw}{I:ag}{D:ak}{j:gR}{i:ar}{O:cG}{U:List (ak×ag)}{pm E N:ai}{RQ RE:ai→aw→Prop}
  (C:Cx K J)(F:Fo A (n+1))(T:cW J A G)(H:HR W w G Z VK.heap)(ho:G.im I=aa (oV D j i O U pm E N))(Vv:jC G.im E D)
  (hb:bindArgs (kla_fn (pS "<lambda>") D j i O U pm E N) ⟨[],[]⟩=a8 [])
  (Vw:∀x c,U.lookup x=aa c→∃o,G.pv c=aa o)(t:∀x y c,U.lookup x=aa c→U.lookup y=aa c→x=y)
  (Vx:∀p∈S,Fi G U O.names p)
  (Vy:∀x∈O.names,x.2≠.cell)(R:∀x,O.names.lookup x≠aa .cell)(hk:O.kind=.function)(Vz:O.isCoroutine=aj)(u:O.isGenerator=aj)
  (h:AE W w J n ⟨O.names,E,D++".<locals>."⟩ S i Z Q X)
  (hQ:∀v l G' M h' tk,G.le G' →HR W w G' M h' →VR G'.im v l→Q v M→RQ l {VK with heap:=h',toks:=tk})(hX:KX W w A G VK X RE):
  au (av W w) A (aV (.ref I) []) RQ RE VK:=by
 revert W w K J n S Z X Q A G VK I D j i O U pm E N RQ RE;apply aX;generalize aT _=W,aL _=w,e9 _=K,e8 _=J,e7 _=n,e6 _=S,e5 _=Z,e4 _=X,e3 _=Q,e2 _=A,e1 _=G,e0 _=VK;apply et;generalize aL _=I,e9 _=D,e8 _=j,e7 _=i,e6 _=O,e5 _=U,e4 _=pm,e3 _=E,e2 _=N,e1 _=RQ,e0 _=RE;intro C F T H ho Vv hb Vw t Vx Vy R hk Vz u h hQ hX;refine kD (kla_callFunE (fL (aW (jL _ _) F.dp) (by decide)) (H.im _ _ ho) rfl Vz u rfl (Vv.re H) (ql hb (wpAny_newFunctionEnv Vy (λx hx=>nomatch hx) (λg m r=>?_) hk)));have d:∀b o,VK.heap.get? b=aa o→g.get? b=aa o:=λb o e=>(r.2 b (iu (eZ e))).trans (bM _ e);refine⟨(C.nl.keeps (T.Zv H)).keeps d,kla_codeExpr (eH m λoL es ep gL dL kL mL=>?_)⟩;have F0:=H.Zv (eV VK.heap);have Y:G.le (G.Zz VK.heap.objs.size oL):=J2 F0.pv;generalize B:newEnv O VK.heap.objs.size bp U (D++".<locals>.") (aa I) E ah lY=V;have P:V.locals=VK.heap.objs.size:=by refine B▸ ?_;rfl
 have L:V.cells=U:=by rw[←B];rfl
 have VA:∀x,V.kindOf x=O.names.lookup x:=λx=>by refine B▸ ?_;rfl
 have VB:∀x c,V.cells.lookup x=aa c→∃o,c≠VK.heap.objs.size∧(G.Zz VK.heap.objs.size oL).pv c=aa o:=λx c hc=>aE (Vw x c (L▸hc)) λo ho=>
  have ne:c≠VK.heap.objs.size:=λq=>aG (F0.pv.symm.trans (q▸ho));⟨o,ne,(bv _ _ ne).trans ho⟩
 have VF:ER (G.Zz VK.heap.objs.size oL) V S:=
  ⟨λp hp=>(Vx p hp).casesOn λc o l VG hf hc VC hd hv=>⟨VG,.c l (hv.Zv Y.im) (.mk c o (.inr ((VA _).trans hf)) (L▸hc) ((bv _ _ λq=>aG (F0.pv.symm.trans (q▸VC))).trans VC) hd)⟩,
   .mk oL es ep (by exact P▸bE _ _ _) dL kL,λy hy=>absurd ((VA y).symm.trans hy) (R y),λx c hc=>aB (VB x c hc) λo zz z=>⟨o,z⟩⟩
 have FD:=CO F V;refine T.fr.casesOn λfl VD zz=>?_
 refine h (A.deeper V) V (G.Zz VK.heap.objs.size oL) {VK with heap:=g,toks:=VK.toks+0} ⟨by refine B▸ ?_;rfl,by refine B▸ ?_;rfl,by refine B▸ ?_;rfl⟩
  ⟨FD.hd,FD.dp,FD.un,by exact B▸hk,by refine B▸ ?_;rfl,by refine B▸ ?_;rfl,λx y c hx hy=>t x y c (L▸hx) (L▸hy),λx c hx=>aB (VB x c hx) λo a zz=>by rw[P];exact a,⟨V,fl,tG VD,rfl⟩⟩
  ⟨⟨(T.le Y).t,T.fr.Zx Y (.mk VK.heap.objs.size oL (by exact B▸λq=>ScopeKind.noConfusion (hk.symm.trans q)) (by refine B▸ ?_;rfl) (bE _ _ _) (lu dL) (if_pos rfl))⟩,(H.ZR (eV VK.heap) d gL).fm,VF⟩ _ _ (λv l G' M h' tk k H' v' q=>?_) (λk ev G' M h' tk kk VH x=>?_)
 ·exact hQ v l G' M h' tk (Y.Zv k) H' v' q
 ·exact gO.Zv (M:={VK with heap:=h',toks:=tk}) VH VD λVI VJ VE f=>hX k ev VI M VJ tk ((Y.Zv kk).Zv VE) f x
end
section
variable{W:aK}{w:aJ}{K:aY}{J:ay}{n:Nat}{S:aA}{Z:St}{X:ak→St→Prop}{Q:V→St→Prop}
theorem HR.ZK{G:Gh}{h B:ay}{L:ag}{A:aC}{m:ak→Option ai}(H:HR W w G Z h)(e:G.pv L=aa A)(Y:B.Ns L m)(T:iq L h B):
  ∃o P r,HR W w (G.Zv L (aa o)) Z B∧o.data=.dict P r∧i9 P∧ew P=m:=eH Y λo P r u O U b=>⟨o,P,r,H.ZF e (ug T) u,O,U,funext b⟩
noncomputable abbrev CH(F O o R E U Y V B b D N:aN):List bh:=
 [.Try [.Expr (.Call (nm "call" F) [] [] O) o] [.ExceptHandler (aa (nm "MachineFault" R)) (aa (pS "trouble")) [.Return (aa (.Attribute (nm "trouble" E) (pS "kind") U)) Y] V] [] [] B,
  .Return (aa (.Constant .none 0 b)) D]
theorem Kv{A:aD}{O:aH}{l:List aH}{G:Gh}{WV:aw}{f:ag}{lo:aC}{fd:fZ}{iC:Nat}{p1 p2 p3 p4 p5 p6 p7 p8 p9 pa pb pc:aN}{RE:ai→aw→Prop}{RF:Flow→aw→Prop}
  (C:Cx K J)(XK:XC K)(F:Fz A O n)(D:Dy W w J A O G [(iC,.obj f)] Z WV.heap)(VL:A.frames=aa (O::l))
  (V:O.kindOf (pS "call")=aa .local)(Vw:NM iC=pS "call")(H:O.kindOf (pS "trouble")=aa .local)(VM:O.kindOf (pS "MachineFault")=aa .globalImplicit)
  (hg:bG K bp (pS "MachineFault")=aa (aa (.ref 83)))(VN:G.im f=aa lo)(VO:lo.data=.func fd)(Wc:lo.cls=.type "function")
  (hc:∀{VP VQ:ai→aw→Prop},(∀rv G' M h' tk,G.le G' →HR W w G' M h' →Q .none M→VP rv {WV with heap:=h',toks:=tk})→KX W w A G WV (λk M=>Q (.str k) M) VQ→au (av W w) A (aV (.ref f) []) VP VQ WV)
  (hR:∀WW rv G' Wd M h' tk,G.c (cH O) G' →Dy W w J A O G' Wd M h' →VR G'.im WW rv→Q WW M→RF (.ret rv) {WV with heap:=h',toks:=tk}):
  au (av W w) A (execs (CH p1 p2 p3 p4 p5 p6 p7 p8 p9 pa pb pc) O) RF RE WV:=by
 revert W w K J n Z Q A O l G WV f lo fd iC p1 p2 p3 p4 p5 p6 p7 p8 p9 pa pb pc RE RF;apply aX;generalize aT _=W,aL _=w,e9 _=K,e8 _=J,e7 _=n,e6 _=Z,e5 _=Q,e4 _=A,e3 _=O,e2 _=l,e1 _=G,e0 _=WV;apply aX;generalize aT _=f,aL _=lo,e9 _=fd,e8 _=iC,e7 _=p1,e6 _=p2,e5 _=p3,e4 _=p4,e3 _=p5,e2 _=p6,e1 _=p7,e0 _=p8;apply ch;generalize e5 _=p9,e4 _=pa,e3 _=pb,e2 _=pc,e1 _=RE,e0 _=RF;intro C XK F D VL V Vw H VM hg VN VO Wc hc hR
 have We:jA G O (pS "call") (.ref f):=Vw▸(D.er.vars _ (.head _)).2.casesOn (λrv hv z=>hv.eO (P:=λrv=>jA G O (NM iC) rv→jA G O (NM iC) (.ref f)) id z)
  λrv hv z=>z.casesOn λc o hk zz zz zz=>hk.elim (λhk=>zv (aI ((Vw▸V).symm.trans hk))) λhk=>zv (aI ((Vw▸V).symm.trans hk))
 refine jE (wpAny_Try_except ?_);refine jE (zl (Call_Name0 ?_) (by unfold interactive;rw[F.kd];rfl) rfl);refine We.casesOn λo es ep hk ho Wf Wg hf=>wpAny_Name (zk (m:=ew es) F.kd hk ⟨o,es,ep,D.hr.pv _ _ ho,Wf,Wg,λzz=>rfl⟩ hf ?_) (by decide+kernel);refine tz (P:=λh=>h.get? f=aa lo) rfl (λh hP=>⟨.frame,.inl rfl,(Looks.ld (part:=ah) hP).andThen (by obtain⟨c,d,dt,sl⟩:=lo;refine qF VO ?_;exact .now)⟩) (evalArgs_nil3 ⟨D.hr.im _ _ VN,?_⟩);refine hc (λrv Vy B j U g VZ q=>?_) λk ev Vy B j U g fl q=>?_
 ·--it WD
  refine wpAny_execs_nil ?_;refine wpAny_execs_nil ?_;refine jE (FX (wpAny_Constant_none ?_));exact hR .none .none Vy [(iC,.obj f)] B j U (g.x _) (D.Zv g VZ) .none q
 ·--it is WC
  refine fl.casesOn λe dd st ee fs x=>?_;refine qF ee ?_;refine x.Zw (Vv:={WV with heap:=j,toks:=U}) fs VL λV0 WE T L hL V1 V3=>?_;refine V3.Zv (s:={WV with heap:=V0,toks:=U}) (a:=ah) λVz VA V4 E=>?_;have VS:G.le VA:=(g.Zv V1).Zv V4;have T3:cW J A VA:=⟨(D.top.le VS).t,E.fr⟩;have TP:=C.Zw T3 E.hr;refine(XK.cls).casesOn λWK q' bs WF sn WL ab WM d0 c0 c1 c2 c3 c5 WN hC=>?_;have Wh:=TP.X _ _ hC;obtain⟨oe,vs,he,Wi,WO,WG,WP,WQ⟩:=E.ex;refine wpAny_handleBy_cons (codeAny_handlers_test ?_) (by intro q;cases q);refine CK (s:={WV with heap:=Vz,toks:=U}) TP F.kd F.gl ⟨VM,by decide+kernel⟩ hg ?_;refine wpAny_excMatches_sub_self Wh he Wi (by decide+kernel) ?_;refine codeAny_handlers_suite_as ?_;refine E.Zv (s:={WV with heap:=Vz,toks:=U}) (a:=ah) λV5 t V6 Y=>?_;have R:=VS.Zv V6;obtain⟨oL,es,ep,VD,Wj,Wk⟩:=(D.er.le R).ns;have kc:(O.scope.kind== .class|| (O.scope.kind== .module&&O.locals !=O.globals))=aj:=by rw[F.kd];rfl
  refine FV (s:={WV with heap:=V5,toks:=U}) (m:=ew es) H ⟨oL,es,ep,Y.hr.pv _ _ VD,Wj,Wk,λzz=>rfl⟩ (λN VG I=>?_) kc;refine eH (Y.hr.ZK VD VG I) λo5 Vx VT i VE VU Wl=>?_;refine fy λVB=>?_;obtain⟨Wm,tt,Wn,Wo⟩:=Y.kd;refine VB ?_;clear VB;obtain⟨VF,WR,Wp,V7,V8,Vv,WH,WI⟩:=Y.ex;have VV:∀b,t.pv b=ah→b≠O.locals:=λb hb q=>aG (hb.symm.trans (q▸VD));have V9:de N dd Wm:=Wn.at λo ho=>(I.2 dd (VV dd Y.off.2)).trans ho;have Wq:N.get? e=aa VF:=(I.2 e (VV e Y.off.1.2)).trans Wp;have T5:cW J A (t.Zv O.locals (aa o5)):=⟨(D.top.le R).t,Y.fr.Zv (lu VE)⟩;have Wr:=C.Zw T5 i;obtain⟨od,WS,WT,Ws,Wt,Wu,Wv,_⟩:=V9;have I5:InstAt N e VF 83 (aa od):=⟨Wq,V7,by obtain⟨c,d,dt,sl⟩:=VF;simp only at Vv;refine qF Vv ?_;rfl,by exact V8▸Ws⟩;refine jE (FX ?_)
  refine(?_:au _ _ (do
   let ov←i7 (nm "trouble" p5) (pS "kind") O (a7 (nm "trouble" p5) O)
   dW p6.atName
   let r←fw [ov] (getAttr ov (pS "kind") ae)
   letTemporaryGo (nm "trouble" p5) ov r
   a8 r) _ _ _)
  rw[show i7 (nm "trouble" p5) (pS "kind") O (a7 (nm "trouble" p5) O)=a7 (nm "trouble" p5) O from rfl];refine az (wpAny_Name (zk (m:=ew Vx) F.kd H ⟨o5,Vx,VT,i.pv _ _ (bE _ _ _),VE,VU,λzz=>rfl⟩ (by rw[Wl];exact if_pos rfl) ?_) (by decide+kernel));refine az (fG (az (cC (KM (s:={WV with heap:=N,toks:=U+1}) XK Wr.X I5 XK.nkind ((BU Wt Wu _).trans (congrArg aa ((Wv _).trans Wo))) rfl ?_))));refine az (wpAny_letTemporaryGo (aR ?_));refine az (wpAny_bindName (FV (m:=ew Vx) H ⟨o5,Vx,VT,i.pv _ _ (bE _ _ _),VE,VU,λzz=>rfl⟩ (λWJ VH VI=>?_) kc));refine eH (i.ZK (bE _ _ _) VH VI) λo7 VW Ww VC VX Wx Wy=>?_;refine wpAny_onRaise (wpAny_unbindName_local (m:=ew VW) (v:=.none) H ⟨o7,VW,Ww,VC.pv _ _ (bE _ _ _),VX,Wx,λzz=>rfl⟩ (by rw[Wy];exact if_pos rfl) kc λWa u VJ VK=>?_);refine eH (VC.ZK (bE _ _ _) VJ VK) λo8 Wz WA Wb VY WB WU=>?_
  have lx:G.c (cH O) (((t.Zv O.locals (aa o5)).Zv O.locals (aa o7)).Zv O.locals (aa o8)):=
   (((R.x _).Zv (ol (.inl rfl))).Zv (ol (.inl rfl))).Zv (ol (.inl rfl))
  refine hR (.str k) (.str k tt) _ [] B Wa _ lx ⟨⟨(D.top.le R).t,((T5.fr.Zv (lu VX)).Zv (lu VY))⟩,Wb,⟨λp hp=>(nomatch hp),.mk o8 Wz WA (bE _ _ _) VY WB,λy hy=>(((D.er.le R).cells y hy).Zv λc a=>F.c2 _ _ a).Zv (λc a=>F.c2 _ _ a)|>.Zv λc a=>F.c2 _ _ a,pK (pK (pK (D.er.le R).cl))⟩⟩ (.str k tt) q
end
theorem rL{O:Type}{x:ak}{v:O}{l:List (ak×O)}:l.lookup x=aa v→(x,v)∈l:=
 bc (motive:=λl=>l.lookup x=aa v→(x,v)∈l) (λh=>aG h) (λp r F h=>by
  rw[fj]at h;by_cases q:x=p.1
  ·rw[beq_iff_eq.mpr q]at h
   exact(aI h:p.2=v)▸q▸ .head _
  ·rw[beq_false_of_ne q]at h;exact .tail _ (F h)) l
theorem JW{x:ak}{c:ag}{l:List (ak×ag)}:(x,c)∈l→∃d,l.lookup x=aa d:=
 bc (motive:=λl=>(x,c)∈l→∃d,l.lookup x=aa d) (λh=>nomatch h) (λp r F h=>by
  rw[fj];by_cases q:x=p.1
  ·rw[beq_iff_eq.mpr q];exact⟨p.2,rfl⟩
  ·rw[beq_false_of_ne q];exact(bf.mp h).elim (λe=>absurd (congrArg nN e) q) F) l
structure qg(O:aH)(H:cG)(W:List (ak×ag)):Prop where
 run:closureFor H O=a8 W
 mem:∀x c,W.lookup x=aa c→O.cells.lookup x=aa c∧(x,gw)∈H.names
 has:∀x,(x,gw)∈H.names→∃c,W.lookup x=aa c∧O.cells.lookup x=aa c
noncomputable abbrev MJ(O:aH)(x:ak×dX)(r:List (ak×ag)):bI (ForInStep (List (ak×ag))):=match x with|(name,a)=>if(a==gw)=ae then(do let y←cellOf O name;a8 (l9 ((name,y)::r)))else a8 (l9 r)
inductive zf(O:aH)(N l:List (ak×dX))(Z:List (ak×ag)):Prop
 |mk (W):forIn l Z (MJ O)=(a8 W:bI _)→(∀p∈W,O.cells.lookup p.1=aa p.2∧(p.1,gw)∈N)→(∀p∈Z,p∈W)→(∀x,(x,gw)∈l→∃c,(x,c)∈W)→zf O N l Z
theorem MH{O:aH}{N:List (ak×dX)}(h:∀x,(x,gw)∈N→∃c,O.cells.lookup x=aa c)(l:List (ak×dX)):∀W:List (ak×ag),(∀p∈l,p∈N)→(∀p∈W,O.cells.lookup p.1=aa p.2∧(p.1,gw)∈N)→zf O N l W:=
 bc (motive:=λl=>∀W:List (ak×ag),(∀p∈l,p∈N)→(∀p∈W,O.cells.lookup p.1=aa p.2∧(p.1,gw)∈N)→zf O N l W) (λW U k=>.mk W rfl k (λU h=>h) λU h=>nomatch h)
  (λp r F W C k=>bW (cx (p.2=.free)) (λq=>by
   have f:(p.1,gw)∈N:=q▸C p (.head _);refine aE (h p.1 f) λc m=>(F ((p.1,c)::W) (λp t=>C p (.tail _ t)) λp t=>(bf.mp t).elim (λe=>e▸⟨m,f⟩) (k p)).casesOn λZ a b d e=>.mk Z ?_ b (λp t=>d p (.tail _ t)) λx K=>(bf.mp K).elim (λz=>⟨c,Eq.mp (congrArg (λy=>(y,c)∈Z) (congrArg nN z).symm) (d _ (.head _))⟩) (e x);rw[zR];rw[←a];refine(?_:(do let y←(if(p.2==gw)=ae then _ else _);_:bI _)=_);refine(bo q)▸ ?_;rw[if_pos (beq_self_eq_true _)];simp only[cellOf,m,pure_bind]) λq=>by
   refine(F W (λp t=>C p (.tail _ t)) k).casesOn λZ a b d e=>.mk Z ?_ b d λx K=>(bf.mp K).elim (λz=>absurd (congrArg Prod.snd z).symm q) (e x);rw[zR];refine a▸ ?_;refine(?_:(do let y←(if(p.2==gw)=ae then _ else _);_:bI _)=_);rw[if_neg (λz=>q (beq_iff_eq.mp z))];rfl) l
theorem D5{O:aH}{H:cG}(h:∀x,(x,gw)∈H.names→∃c,O.cells.lookup x=aa c):∃W,qg O H W:=by
 revert O H;apply bF;generalize e1 _=O,e0 _=H;intro h
 exact
   (MH h H.names [] (λN h=>h) λN h=>nomatch h).casesOn λW a b N e=>⟨W,by
    unfold closureFor;simp only[bind_pure];exact a,λx c K=>b _ (rL K),λx K=>aE (e x K) λc m=>aE (JW m) λd S=>⟨d,S,(b _ (rL S)).1⟩⟩
theorem GY{x y z:ai}{r:List ai}(h:kI (x::y::z::r)):∃a s b u,x=.int a s∧y=.int b u∧kI r:=by
 revert x y z r;apply dM;generalize e3 _=x,e2 _=y,e1 _=z,e0 _=r;intro h;cases x<;>first|exact h.elim|(cases y<;>first|exact h.elim|exact⟨_,_,_,_,rfl,rfl,h⟩)
theorem G0{x:ai}(h:kI [x]):False:=by
 revert x;apply aP;generalize e0 _=x;intro h;cases x<;>exact h
theorem GZ{x y:ai}(h:kI [x,y]):False:=by
 revert x y;apply bF;generalize e1 _=x,e0 _=y;intro h;cases x<;>first|exact h|(cases y<;>exact h)
theorem MF{V:aN}{a b:Int}{c E:ai}{P:List ai→Prop}(e:∀l,P l=(kI l→kH V (l++[eY a,eY b,c])=aa E→kH V l=aa E∨E=c))(l:List ai):P l∧(∀x,P (x::l))∧∀x y,P (x::y::l):=by
 revert V a b c E P l;apply ch;generalize e5 _=V,e4 _=a,e3 _=b,e2 _=c,e1 _=E,e0 _=P;intro e;apply aP;generalize e0 _=l
 exact
   bc (motive:=λl=>P l∧(∀x,P (x::l))∧∀x y,P (x::y::l))
    ⟨Eq.mpr (e _) λN h=>by
      have h:(if(a==(V.line:Int)&&b==(V.col:Int))=ae then aa c else ah)=aa E:=h;exact bW (cx ((a==(V.line:Int)&&b==(V.col:Int))=ae)) (λq=>.inr (aI ((if_pos q).symm.trans h)).symm) λq=>aG ((if_neg q).symm.trans h),
     λN=>Eq.mpr (e _) λh=>(G0 h).elim,λN N=>Eq.mpr (e _) λh=>(GZ h).elim⟩
    (λz r F=>⟨F.2.1 z,λx=>F.2.2 x z,λx y=>Eq.mpr (e _) λJ h=>by
     refine GF (GY J) λx s y u S o J=>?_;subst S;subst o;have B:(if(x==(V.line:Int)&&y==(V.col:Int))=ae then aa z else kH V (r++[eY a,eY b,c]))=aa E:=h;refine bW (cx ((x==(V.line:Int)&&y==(V.col:Int))=ae)) (λq=>.inl ((if_pos q).trans ((if_pos q).symm.trans B))) λq=>?_;exact(Eq.mp (e r) F.1 J ((if_neg q).symm.trans B)).imp (λe=>(if_neg q).trans e) id⟩) l
theorem MD{V:aN}{a b:Int}{c E:ai}{l:List ai}(J:kI l)(h:kH V (l++[eY a,eY b,c])=aa E):kH V l=aa E∨E=c:=
 (MF (λN=>rfl) l).1 J h
section
variable{W:aK}{w:aJ}{K:aY}{J:ay}{n:Nat}{I:Sc}{S:aA}{Z:St}{X:ak→St→Prop}{Q:V→St→Prop}
theorem HR.ZW{G:Gh}{h B:ay}{P v:ag}{q:ak}{O:aC}{U:Array ai}(x:HR W w G Z h)(e:Z P=aa (.tab q))(k:gx P h B)(Y:h.get? v=ah)(b:B.get? v=aa O)
  (F:B.get? P=aa (ua U))(L:kI U.toList)(C:∀V E,kH V U.toList=aa E→jC (G.Zy v O).im E q):HR W w (G.Zy v O) Z B:=by
 revert W w Z G h B P v q O U;apply et;generalize aL _=W,e9 _=w,e8 _=Z,e7 _=G,e6 _=h,e5 _=B,e4 _=P,e3 _=v,e2 _=q,e1 _=O,e0 _=U;intro x e k Y b F L C;have Pc:P≠v:=λz=>aE (x.or e) λd m=>aE m.Zv λy l=>aG (Y.symm.trans (z▸l))
 exact x.ZH (λa=>a=P∨a=v) (hV (x.Zv Y).im) (λa z=>⟨bv _ _ λq=>z (.inr q),rfl,rfl,λo q=>k a o (λq=>z (.inl q)) q⟩)
  (λa z=>z.elim (λz=>z▸ .m e rfl ⟨U,F,L,C⟩ ((bv _ _ Pc).trans (x.om e).1) (x.om e).2) λz=>Eq.subst (motive:=λa=>Nw W w (G.Zy v O) Z B a) z.symm (.i (bE _ _ _) b (x.Zv Y).pv (x.Zv Y).mu))
  λa o z f g=>z.elim (λz=>aG ((z▸f.mu).symm.trans e)) λz=>aG (Y.symm.trans (z▸g))
structure sX(J:ay)(I:Sc)(c P:ag):Prop where
 code:I.code=.ref c
 hd:CodeHd J c P
 bm:∃O,J.Ns bp O∧J.BuiltinsAt O P
 ne:bp≠P
structure yW(I:Sc)(S O:aA)(args:gR)(i:ar)(H:cG):Prop where
 df:∀U,defaultsOf args U=([],[])
 ba:∀e j E N,bindArgs (kla_fn (pS "<lambda>") (I.qual++"<lambda>") args i H e j E N) ⟨[],[]⟩=a8 []
 free:∀p∈H.names,p.2=.free→I.names.lookup p.1=aa .cell
 vars:∀p∈O,p∈S∧H.names.lookup (NM p.1)=aa .free∧I.names.lookup (NM p.1)=aa .cell
 nc:∀x∈H.names,x.2≠.cell
 ks:H.kind=.function
 co:H.isCoroutine=aj
 gen:H.isGenerator=aj
theorem J4{A:aD}{O:aH}{G:Gh}{s:aw}{args:gR}{i:ar}{H:cG}{c P:ag}{R:aA}{e:List (ak×ag)}{k:aN}{RQ:ai→aw→Prop}{RE:ai→aw→Prop}
  (hs:dG O I)(F:Fz A O n)(D:Dy W w J A O G S Z s.heap)(j:sX J I c P)(r:Z P=aa (.tab (I.qual++"<lambda>")))(L:yW I S R args i H)(X:qg O H e)
  (h:∀(U:Gh) (p:ay) (u:Nat) (T:ag) (Vz cv N:ai),G.le U→HR W w U Z p→U.im T=aa (oV (I.qual++"<lambda>") args i H e Vz cv N)→jC U.im cv (I.qual++"<lambda>")→RQ (.ref T) {s with heap:=p,toks:=u}):
  au (av W w) A (a7 (.Lambda args i H k) O) RQ RE s:=by
 revert W w J n I S Z A O G s args i H c P R e k RQ RE;apply aX;generalize aT _=W,aL _=w,e9 _=J,e8 _=n,e7 _=I,e6 _=S,e5 _=Z,e4 _=A,e3 _=O,e2 _=G,e1 _=s,e0 _=args;apply j7;generalize e8 _=i,e7 _=H,e6 _=c,e5 _=P,e4 _=R,e3 _=e,e2 _=k,e1 _=RQ,e0 _=RE;intro hs F D j r L X h;refine aB j.bm λmg V E=>bH (D.hr.ZO r) λps hP f C=>?_;have g:=D.top.Zv D.hr
 refine(?_:au _ _ (do
  let(d,kd):=defaultsOf args O
  let dv←evalAll d
  let VA←fw dv (evalAllOpt kd)
  makeFunction "<lambda>" (O.qual++"<lambda>") args (.expr i) H O dv VA [] k k.line) _ _ _)
 rw[L.df O];refine az (aR (az (cC (aR ?_))));refine(bo hs.qual)▸ ?_;have x:O.code=.ref c:=hs.code.trans j.code;cases m:kH k ps.toList with
 |some cv=>exact kla_makeFunctionHit X.run F.gl (V.keeps g) x (j.hd.keeps g) hP f m (E.keeps g) λN h' tk Vw VF=>
   ((D.hr.ZA Vw).Zy (o:=oV (I.qual++"<lambda>") args i H e ((mg "__name__").getD .none) cv N) rfl).casesOn λa b d=>h _ _ _ _ _ _ _ a b d ((C _ _ m).Zv a.im)
 |none=>
  refine kla_makeFunction X.run F.gl (V.keeps g) x (j.hd.keeps g) hP f m j.ne (E.keeps g) λv N h' tk ext VB VG Vx Vy=>?_;have y:s.heap.get? v=ah:=fA λVI q=>absurd (eZ q) (qt.mpr VB);refine GE (Vx) λVD Y vs t ec VC B l=>?_;cases ec;have Vv:G.le (G.Zy v Y):=oU (D.hr.Zv y).im
  have H' :=D.hr.ZW (v:=v) (O:=Y) r ext y VC Vy (by rw[Array.toList_append];exact TriplesOk_snoc _ _ _ _ f) (λVE VH M=>by
   rw[Array.toList_append]at M;exact(MD f M).elim (λz=>(C _ _ z).Zv Vv.im) λz=>z▸ .mk v Y vs t rfl (bE _ _ _) B l)
  exact(H'.Zy (o:=oV (I.qual++"<lambda>") args i H e ((mg "__name__").getD .none) (.ref v) N) rfl).casesOn λa b d=>h _ _ _ _ _ _ _ (Vv.Zv a) b d (jC.Zv a.im (.mk v Y vs t rfl (bE _ _ _) B l))
structure FF(K:aY)(U:ag)(c:Sc)(T:Nat)(F O o R E Y V B L b D N:aN):Prop where
 g:bG K bp (pS "_law_heard")=aa (aa (.ref U))
 keep:eF K (.ref U)=ae
 f:qa K U (CH F O o R E Y V B L b D N) c [T] 1 []
 iC:NM T=pS "call"
 call:c.names.lookup (pS "call")=aa .local
 tr:c.names.lookup (pS "trouble")=aa .local
 mf:c.names.lookup (pS "MachineFault")=aa .globalImplicit
 mg:bG K bp (pS "MachineFault")=aa (aa (.ref 83))
theorem AE.ZI{np VG VK:aN}{args:gR}{i:ar}{O:cG}{fH c P:ag}{Vx:aA}{m:Nat}{VL:Sc}{VX:Nat}{p1 p2 p3 p4 p5 p6 p7 p8 p9 pa pb pc:aN}
  (C:Cx K J)(XK:XC K)(t:FF K fH VL VX p1 p2 p3 p4 p5 p6 p7 p8 p9 pa pb pc)(hk:I.names.lookup (pS "_law_heard")=aa .globalImplicit)
  (LX:sX J I c P)(VM:Z P=aa (.tab (I.qual++"<lambda>")))(L:yW I S Vx args i O)
  (h:∀cv,AE W w J m ⟨O.names,cv,(I.qual++"<lambda>")++".<locals>."⟩ Vx i Z (λN M=>Q .none M) (λk M=>Q (.str k) M)):
  AE W w J (m+2) I S (.Call (nm "_law_heard" np) [.Lambda args i O VG] [] VK) Z Q X:=by
 intro A VB G V3 hs F D RQ V0 hQ hX;refine nM rfl (mM C F D.top D.hr (cU hs hk) t.g (tA C.X t.keep (k9 ?_ rfl)) (by decide+kernel));have VH:∀x,O.names.lookup x≠aa .cell:=λx j=>L.nc _ (rL j) rfl;refine aE (D5 (O:=VB) (H:=O) λx j=>(D.er.cells x (cU hs (L.free _ j rfl))).casesOn λc N N a N N=>⟨c,a⟩) λe U=>?_;have d:∀x c,e.lookup x=aa c→VB.cells.lookup x=aa c∧I.names.lookup x=aa .cell:=λx c j=>⟨(U.mem x c j).1,L.free _ (U.mem x c j).2 rfl⟩;refine J4 hs F D LX VM L U λVY VI VA Vy VC cv VD Y l E VN=>?_;have B:=D.top.le Y;refine qQ ⟨C.at B l,kD ?_⟩
 refine Ea (V6:={V3 with heap:=VI,toks:=VA}) (args:=[.obj Vy]) (n:=m+1) (X:=X) (Q:=Q) (R:=A8 RQ V0) C t.f F.fo B l (.cons (.obj Vy) .nil)
  (λv T G' M h' tk k H V q=>hQ v T G' M h' tk (Y.Zv k) H V q) (hX.Zv Y) λVJ VZ Vv g r f Vw u VO VP VQ V1=>?_
 have Vz:=Y.Zv r;refine B.fr.casesOn λfl VS N=>?_
 refine Kv (WV:={V3 with heap:=Vv,toks:=g}) (f:=Vy) (iC:=VX) (Q:=Q) (RE:=VP) (RF:=VO) (lo:=oV (I.qual++"<lambda>") args i O e VC cv VD) (fd:=kla_fn (pS "<lambda>") (I.qual++"<lambda>") args i O e VC cv VD) C XK Vw u (tG VS)
  (cU f t.call) t.iC (cU f t.tr) (cU f t.mf) t.mg (r.im _ _ E) rfl rfl (λhq j=>?_) (λv T G' VT M h' tk lx D' hv q=>VQ (.ret v) (.ret T) G' VT M h' tk lx D' (.ret hv) q)
 refine J5 (VK:={V3 with heap:=Vv,toks:=g}) (S:=Vx) (Q:=λN M=>Q .none M) C Vw.fo u.top u.hr (r.im _ _ E) (VN.Zv r.im) (L.ba _ _ _ _) (λx c hc=>?_) (λx y c j hy=>F.c1 x y c (d x c j).1 (d y c hy).1) (λp hp=>?_) L.nc VH L.ks L.co L.gen (h cv)
  (λv T G' M h' tk k H N q=>hq T G' M h' tk k H q) j
 ·exact aE (D.er.cl x c (d x c hc).1) λo b=>aE (Vz.pv _ _ b) λsl z=>⟨_,z⟩
 ·refine bb (L.vars p hp) λVE VF VU=>(D.er.vars p VE).2.casesOn (λT hv z=>z.casesOn λN N N VV N N N N=>zv (aI ((cU hs VU).symm.trans VV))) λT hv z=>z.casesOn λc' o N a' b' d' =>?_
  exact aB (U.has _ (rL VF)) λc hc VW=>aE (Vz.pv _ _ b') λsl z=>.mk c {o with slots:=sl} T (D.er.vars p VE).1 VF hc ((aI (a'.symm.trans VW):c' =c)▸z) d' (hv.Zv Vz.im)
end
end
section
open PySem PySem.W PyProof.Rows PySem.Calls
set_option genSizeOf false
mutual
inductive Bo where|add|sub|mul|fdiv|mod|pow
inductive Co where|eq|ne|lt|le|gt|ge|is_|isNot|in_|notIn
inductive Bu where|len|list_|tuple_|str_|sum_|sorted_|isInt|isBool|isTuple|isStr
inductive So where|num|tru|par
end
instance:Nonempty Bo:=⟨.add⟩
instance:Nonempty Co:=⟨.eq⟩
instance:Nonempty Bu:=⟨.len⟩
instance:Nonempty So:=⟨.num⟩
noncomputable def Bo.ctorIdx(o:Bo):Nat:=Bo.casesOn o 0 1 2 3 4 5
mutual
inductive Ex where
 |skip
 |none
 |bool(b:Bool)
 |int(i:Int)
 |neg(i:Nat)
 |str(s:ak)
 |var(i:Nat)
 |bits(e:Ex)
 |glob(x:ak)
 |tup(O:Exs)
 |listF(O:Exs)
 |listM(O:Exs)
 |dictI(W:List Int)(O:Exs)
 |dictS(W:List ak)(O:Exs)
 |dictK
 |bin(o:Bo)(a b:Ex)
 |mulM(a b:Ex)
 |cmp(o:Co)(a b:Ex)
 |chain(o:Co)(a b:Ex)(H:Co)(c:Ex)
 |and(a b:Ex)
 |or(a b:Ex)
 |or3(a b c:Ex)
 |and3(a b c:Ex)
 |not(a:Ex)
 |ite(t a b:Ex)
 |call(x:ak)(f:ag)(O:Exs)
 |new(x:ak)(c:ag)(O:Exs)
 |meth(o:Ex)(m:ak)(O:Exs)
 |blt(u:Bu)(e:Ex)
 |attr(o:Ex)(m:ak)
 |sub(o i:Ex)
 |slice(o S U:Ex)
 |rev(o:Ex)
 |append(o e:Ex)
 |extend(o e:Ex)
 |pop(o:Ex)
 |dpop(o k:Ex)
 |dpopD(o k d:Ex)
 |comp(J:Bool)(z:Ex)(D:List Nat)(Z:It)(h:Exs)(G:List Nat)
 |comp2(z:Ex)(x:Nat)(Z:It)(y:Nat)(Y:It)(G:List Nat)
 |heard(P:ag)(q:ak)(e:Ex)(G:List Nat)
 |freeze(e:Ex)
inductive It where
 |seq(e:Ex)
 |range(e:Ex)
 |range3(a b c:Ex)
inductive Exs where
 |nil
 |cons(e:Ex)(r:Exs)
end
instance:Nonempty Ex:=⟨.none⟩
instance:Nonempty Exs:=⟨.nil⟩
instance:Nonempty It:=⟨.seq .none⟩
inductive Tg where
 |var(i:Nat)
 |attr(o:Ex)(m:ak)
 |sub(o i:Ex)
instance:Nonempty Tg:=⟨by constructor<;>exact gU inferInstance⟩
mutual
inductive Sx where
 |skip
 |expr(e:Ex)
 |set(t:Tg)(e:Ex)
 |sets(O:List Tg)(e:Ex)
 |aug(i:Nat)(e:Ex)
 |ret(e:Ex)
 |ret0
 |pass
 |ife(t:Ex)(b o:Sxs)
 |loop(t:Ex)(b:Sxs)
 |each(D:List Nat)(c:It)(b:Sxs)
 |eachD(x:Nat)(e:Ex)(b:Sxs)
 |fault(k:Ex)(m:Ex)
inductive Sxs where
 |nil
 |cons(e:Sx)(r:Sxs)
end
instance:Nonempty Sxs:=⟨.nil⟩
instance:Nonempty Sx:=⟨.skip⟩
@[reducible] def oQ{O:Type}(o:Option O)(P:O→Prop):Prop:=Option.rec (motive:=λ_=>Prop) False P o
theorem R2{O:Type}{o:Option O}{z:O}{P:O→Prop}(h:o=aa z)(k:P z):oQ o P:=h▸k
noncomputable def oI{O:Type}(v:V)(k:Int→Option O):Option O:=V.casesOn v ah (λ_=>ah) k (λ_=>ah) (λ_=>ah) (λ_=>ah) λ_=>ah
noncomputable def oS{O:Type}(v:V)(k:ak→Option O):Option O:=V.casesOn v ah (λ_=>ah) (λ_=>ah) k (λ_=>ah) (λ_=>ah) λ_=>ah
noncomputable def oL{O:Type}(v:V)(k:List V→Option O):Option O:=V.casesOn v ah (λ_=>ah) (λ_=>ah) (λ_=>ah) (λ_=>ah) k λ_=>ah
theorem nq{O:Type}{z:O}{P:Prop}(h:(ah:Option O)=aa z):P:=aG h
theorem cP{O:Type}{v:V}{k:Int→Option O}{z:O}(P:V→Prop)(h:oI v k=aa z)(c:∀i,k i=aa z→P (.int i)):P v:=V.casesOn (motive_1:=λv=>oI v k=aa z→P v) v (λh=>nq h) (λ_ h=>nq h) (λi h=>c i h) (λ_ h=>nq h) (λ_ h=>nq h) (λ_ h=>nq h) (λ_ h=>nq h) h
theorem Bc{O:Type}{v:V}{k:ak→Option O}{z:O}(P:V→Prop)(h:oS v k=aa z)(c:∀i,k i=aa z→P (.str i)):P v:=V.casesOn (motive_1:=λv=>oS v k=aa z→P v) v (λh=>nq h) (λ_ h=>nq h) (λ_ h=>nq h) (λi h=>c i h) (λ_ h=>nq h) (λ_ h=>nq h) (λ_ h=>nq h) h
theorem oM{O:Type}{v:V}{k:List V→Option O}{z:O}(P:V→Prop)(h:oL v k=aa z)(c:∀i,k i=aa z→P (.lst i)):P v:=V.casesOn (motive_1:=λv=>oL v k=aa z→P v) v (λh=>nq h) (λ_ h=>nq h) (λ_ h=>nq h) (λ_ h=>nq h) (λ_ h=>nq h) (λi h=>c i h) (λ_ h=>nq h) h
noncomputable def oT{O:Type}(v:V)(k:List V→Option O):Option O:=V.casesOn v ah (λ_=>ah) (λ_=>ah) (λ_=>ah) k (λ_=>ah) λ_=>ah
noncomputable def oA{O:Type}(v:V)(k:ag→Option O):Option O:=V.casesOn v ah (λ_=>ah) (λ_=>ah) (λ_=>ah) (λ_=>ah) (λ_=>ah) k
theorem rB{O:Type}{v:V}{k:ag→Option O}{z:O}(P:V→Prop)(h:oA v k=aa z)(c:∀i,k i=aa z→P (.obj i)):P v:=V.casesOn (motive_1:=λv=>oA v k=aa z→P v) v (λh=>nq h) (λ_ h=>nq h) (λ_ h=>nq h) (λ_ h=>nq h) (λ_ h=>nq h) (λ_ h=>nq h) (λi h=>c i h) h
noncomputable def gf{O:Type}(v:V)(t l:List V→Option O)(o:ag→Option O):Option O:=V.casesOn v ah (λ_=>ah) (λ_=>ah) (λ_=>ah) t l o
theorem jp{O:Type}{v:V}{t l:List V→Option O}{o:ag→Option O}{z:O}(P:V→Prop)(h:gf v t l o=aa z)(p:∀i,t i=aa z→P (.tup i))(W:∀i,l i=aa z→P (.lst i))(g:∀i,o i=aa z→P (.obj i)):P v:=
 V.casesOn (motive_1:=λv=>gf v t l o=aa z→P v) v (λh=>nq h) (λ_ h=>nq h) (λ_ h=>nq h) (λ_ h=>nq h) p W g h
noncomputable def fh{W:Type}(o:Option O)(a:List V→Option W)(b:List (Int×V)→Option W)(i:List (ak×V)→Option W)(v:Option (Bool×V)→Option W)(j:List (Int×V)→Option W):Option W:=
 a9 o ah λo=>O.casesOn o a b i (λ_ _=>ah) (λ_=>ah) v λ_=>j
theorem iJ{W:Type}{o:Option O}{a:List V→Option W}{b:List (Int×V)→Option W}{i:List (ak×V)→Option W}{v:Option (Bool×V)→Option W}{j:List (Int×V)→Option W}{z:W}(P:Option O→Prop)(h:fh o a b i v j=aa z)
  (Z:∀l,a l=aa z→P (aa (.list l)))(d:∀l,b l=aa z→P (aa (.idict l)))(U:∀l,i l=aa z→P (aa (.sdict l)))(c:∀l,v l=aa z→P (aa (.kdict l)))(f:∀e l,j l=aa z→P (aa (.pdict e l))):P o:=
 a9 (motive:=λo=>fh o a b i v j=aa z→P o) o (λh=>nq h) (λo=>O.casesOn (motive:=λo=>fh (aa o) a b i v j=aa z→P (aa o)) o Z d U (λ_ _ h=>nq h) (λ_ h=>nq h) c f) h
noncomputable abbrev nn{O W:Type}:O→Option W:=λ_=>ah
noncomputable def hJ{W:Type}(o:Option O)(k:List V→Option W):Option W:=fh o k nn nn nn nn
theorem rz{W:Type}{o:Option O}{k:List V→Option W}{z:W}(P:Option O→Prop)(h:hJ o k=aa z)(c:∀l,k l=aa z→P (aa (.list l))):P o:=iJ P h c (λ_ h=>nq h) (λ_ h=>nq h) (λ_ h=>nq h) λ_ _ h=>nq h
noncomputable def o2{O W d:Type}(a:Option O)(b:Option W)(k:O→W→Option d):Option d:=a9 a ah λa=>a9 b ah λb=>k a b
theorem mx{O d:Type}{a:Option O}{k:O→Option d}{z:d}{P:Prop}(h:(a9 a ah k:Option d)=aa z)(c:∀x,a=aa x→k x=aa z→P):P:=a9 (motive:=λA=>a=A→(a9 A ah k:Option d)=aa z→P) a (λ_ h=>nq h) (λx e h=>c x e h) rfl h
theorem lr{O W d:Type}{a:Option O}{b:Option W}{k:O→W→Option d}{z:d}{P:Prop}(h:o2 a b k=aa z)(c:∀x y,a=aa x→b=aa y→k x y=aa z→P):P:=mx h λx e h=>mx h λy f h=>c x y e f h
theorem iL{W O:Type}{a:Option W}{f:W→O}{z:O}(P:O→Prop)(h:a.map f=aa z)(c:∀x,a=aa x→P (f x)):P z:=a9 (motive:=λA=>a=A→A.map f=aa z→P z) a (λ_ h=>nq h) (λx e h=>aI h▸c x e) rfl h
noncomputable def mq{O:Type}(l:List V)(k:V→Option O):Option O:=br l ah λu r=>br r (k u) λ_ _=>ah
theorem um{O:Type}{l:List V}{k:V→Option O}{z:O}(P:List V→Prop)(h:mq l k=aa z)(c:∀u,k u=aa z→P [u]):P l:=
 br (motive:=λl=>mq l k=aa z→P l) l (λh=>nq h) (λu r=>br (motive:=λr=>mq (u::r) k=aa z→P (u::r)) r (λh=>c u h) λ_ _ h=>nq h) h
noncomputable def To{O:Type}(c:Prop) [Decidable c](z:O):Option O:=if c then aa z else ah
theorem cL{O:Type}{c:Prop} [Decidable c]{y z:O}(P:O→Prop)(h:(if c then aa y else ah)=aa z)(k:c→P y):P z:=bW (cx c) (λq=>aI ((if_pos q).symm.trans h)▸k q) λq=>nq ((if_neg q).symm.trans h)
theorem CB{O:Type}{c:Prop} [Decidable c]{y z:O}(P:O→Prop)(h:(if c then ah else aa y)=aa z)(k:¬c→P y):P z:=bW (cx c) (λq=>nq ((if_pos q).symm.trans h)) λq=>aI ((if_neg q).symm.trans h)▸k q
theorem ez{O:Type}{y z:O}(P:O→Prop)(h:aa y=aa z)(k:P y):P z:=aI h▸k
noncomputable def RJ(Z:St)(v:V):Option (List V):=gf v aa aa λa=>hJ (Z a) aa
noncomputable def pt(v:V):Option (List V):=gf v aa aa nn
noncomputable def pI(a:Option bk)(b:Option (List bk)):Option (List bk):=o2 a b λd c=>aa (d::c)
noncomputable def fk(f:V→Option bk)(l:List V):Option (List bk):=bc (aa []) (λx _ r=>pI (f x) r) l
noncomputable def DR(Z:St)(f:V→Option bk)(x:V):Option bk:=V.casesOn x (aa .none) (λb=>aa (.bool b)) (λi=>aa (.int i)) (λs=>if PyData.canLay0 (.str s)then aa (.str s)else ah)
 (λl=>(fk f l).map .tuple) (λl=>(fk f l).map .list) λa=>hJ (Z a) λl=>(fk f l).map .list
noncomputable def bP(Z:St)(k:Nat)(x:V):Option bk:=kO (motive:=λ_=>V→Option bk) (λ_=>ah) (λ_ f=>DR Z f) k x
noncomputable def eg(Z:St)(v:V):Option (List V):=gf v nn aa λa=>hJ (Z a) aa
noncomputable def jZ(Z:St)(x y:V):Option Bool:=o2 (eg Z x) (eg Z y) λl m=>mq l λu=>mq m λv=>oA u λa=>oA v λb=>if a=b then aa ae else ah
noncomputable def mS(a b:Option bk):Option Bool:=o2 a b λd e=>aa (aZ d e)
noncomputable def iP(Z:St)(x y:V):Option Bool:=mS (bP Z 8 x) (bP Z 8 y)
noncomputable def Do(Z:St)(x y:V):Option Bool:=a9 (iP Z x y) (jZ Z x y) aa
noncomputable def lG(t:TK)(x:V):Bool:=TK.rec (motive_1:=λ_=>V→Bool) (motive_2:=λ_=>List V→Bool) (λy x=>V.casesOn x aj (λ_=>aj) (λ_=>aj) (λs=>s==y) (λ_=>aj) (λ_=>aj) λ_=>aj)
 (λ_ f x=>V.casesOn x aj (λ_=>aj) (λ_=>aj) (λ_=>aj) f (λ_=>aj) λ_=>aj) (λl=>br l ae λ_ _=>aj) (λ_ _ f g l=>br l aj λx r=>f x&&g r) t x
noncomputable def wV(t:List TK)(x:List V):Bool:=TK.rec_1 (motive_1:=λ_=>V→Bool) (motive_2:=λ_=>List V→Bool) (λy x=>V.casesOn x aj (λ_=>aj) (λ_=>aj) (λs=>s==y) (λ_=>aj) (λ_=>aj) λ_=>aj)
 (λ_ f x=>V.casesOn x aj (λ_=>aj) (λ_=>aj) (λ_=>aj) f (λ_=>aj) λ_=>aj) (λl=>br l ae λ_ _=>aj) (λ_ _ f g l=>br l aj λx r=>f x&&g r) t x
noncomputable def gj(x:V):Option Bool:=if lG (cS aj) x then aa aj else if lG (cS ae) x then aa ae else ah
noncomputable def mG(e:Option (Bool×V))(k:Bool):Bool:=a9 e aj λp=>aO (p.1=k)
noncomputable def jt(a b:Option bk):Option Bool:=o2 a b λc d=>PyData.casesOn c ah (λ_=>ah) (λ_=>ah) (λ_=>ah) (λf=>aa (f.any λy=>aZ y d)) (λf=>aa (f.any λy=>aZ y d)) λ_=>ah
noncomputable def lH(x:V)(o:Option O):Option Bool:=fh o nn (λl=>oI x λi=>aa (l.lookup i).isSome) (λl=>oS x λi=>aa (l.lookup i).isSome) (λe=>(gj x).map λk=>mG e k) λl=>oI x λi=>aa (l.lookup i).isSome
noncomputable def hU(Z:St)(x c:V):Option Bool:=gf c (λl=>jt (bP Z 8 (.tup l)) (bP Z 8 x)) (λl=>jt (bP Z 8 (.lst l)) (bP Z 8 x)) λa=>lH x (Z a)
noncomputable def iN(x:V):Bool:=V.casesOn x ae (λ_=>aj) (λ_=>aj) (λ_=>aj) (λ_=>aj) (λ_=>aj) λ_=>aj
noncomputable def gk(x y:V):Option Bool:=if iN y then aa (iN x)else if iN x then aa aj else ah
noncomputable def cM(Z:St)(x y:V):Option Bool:=a9 (eg Z x) ah λl=>oL y λm=>br m (aa l.isEmpty) λ_ _=>ah
noncomputable def bD(o:Co)(Z:St)(x y:V):Option Bool:=Co.casesOn o
 (a9 (cM Z x y) (Do Z x y) aa) (a9 (cM Z x y) ((iP Z x y).map (!·)) λb=>aa (!b))
 (oI x λa=>oI y λb=>aa (aO (a<b))) (oI x λa=>oI y λb=>aa (aO (a≤b))) (oI x λa=>oI y λb=>aa (aO (b<a))) (oI x λa=>oI y λb=>aa (aO (b≤a)))
 (gk x y) ((gk x y).map (!·)) (hU Z x y) ((hU Z x y).map (!·))
@[irreducible] noncomputable def bj(i:Int):Bool:=aO (i.natAbs<4611686018427387904)
noncomputable def cE(o:Bo)(x y:V):Option V:=Bo.casesOn o
 (V.casesOn x ah (λ_=>ah) (λa=>oI y λb=>aa (.int (a+b))) (λa=>oS y λb=>if aO (a.length+b.length≤1000)then aa (.str (a++b))else ah) (λ_=>ah)
  (λa=>oL y λb=>if aO (a.length+b.length≤1000)then aa (.lst (a++b))else ah) λ_=>ah)
 (oI x λa=>oI y λb=>aa (.int (a-b)))
 (V.casesOn x ah (λ_=>ah) (λa=>oI y λb=>if bj a&&bj b then aa (.int (a*b))else ah) (λ_=>ah) (λ_=>ah)
  (λl=>mq l λu=>oI y λb=>if aO (0≤b)&&aO (b≤1000)then aa (.lst (bA b.toNat u))else ah) λ_=>ah)
 (oI x λa=>oI y λb=>if b=0∨b.natAbs≥1073741824 then ah else aa (.int (a.fdiv b)))
 (oI x λa=>oI y λb=>if b=0 then ah else aa (.int (a.fmod b)))
 (oI x λa=>oI y λb=>if bj a&&aO (0≤b)&&aO (b≤100)then aa (.int (a^b.toNat))else ah)
inductive bS:Bo→V→V→V→Prop
 |addI (a b:Int):bS .add (.int a) (.int b) (.int (a+b))
 |addS (a b:ak) (h:aO (a.length+b.length≤1000)=ae):bS .add (.str a) (.str b) (.str (a++b))
 |addL (a b:List V) (h:aO (a.length+b.length≤1000)=ae):bS .add (.lst a) (.lst b) (.lst (a++b))
 |subI (a b:Int):bS .sub (.int a) (.int b) (.int (a-b))
 |mulI (a b:Int) (h:(bj a&&bj b)=ae):bS .mul (.int a) (.int b) (.int (a*b))
 |mulL (u:V) (b:Int) (h:(aO (0≤b)&&aO (b≤1000))=ae):bS .mul (.lst [u]) (.int b) (.lst (bA b.toNat u))
 |fdiv (a b:Int) (h:¬(b=0∨b.natAbs≥1073741824)):bS .fdiv (.int a) (.int b) (.int (a.fdiv b))
 |mod (a b:Int) (h:¬b=0):bS .mod (.int a) (.int b) (.int (a.fmod b))
 |pow (a b:Int) (h:(bj a&&aO (0≤b)&&aO (b≤100))=ae):bS .pow (.int a) (.int b) (.int (a^b.toNat))
theorem ES{o:Bo}{x y z:V}(h:cE o x y=aa z):bS o x y z:=
 Bo.casesOn (motive_1:=λo=>cE o x y=aa z→bS o x y z) o
  (V.casesOn (motive_1:=λx=>cE .add x y=aa z→bS .add x y z) x (λh=>nq h) (λ_ h=>nq h) (λa h=>cP (bS .add (.int a) · z) h λb q=>ez (bS .add (.int a) (.int b)) q (.addI a b))
   (λa h=>Bc (bS .add (.str a) · z) h λb q=>cL (bS .add (.str a) (.str b)) q (.addS a b)) (λ_ h=>nq h) (λa h=>oM (bS .add (.lst a) · z) h λb q=>cL (bS .add (.lst a) (.lst b)) q (.addL a b)) (λ_ h=>nq h))
  (λh=>cP (bS .sub · y z) h λa q=>cP (bS .sub (.int a) · z) q λb q=>ez (bS .sub (.int a) (.int b)) q (.subI a b))
  (V.casesOn (motive_1:=λx=>cE .mul x y=aa z→bS .mul x y z) x (λh=>nq h) (λ_ h=>nq h) (λa h=>cP (bS .mul (.int a) · z) h λb q=>cL (bS .mul (.int a) (.int b)) q (.mulI a b))
   (λ_ h=>nq h) (λ_ h=>nq h) (λa h=>um (λa=>bS .mul (.lst a) y z) h λu q=>cP (bS .mul (.lst [u]) · z) q λb q=>cL (bS .mul (.lst [u]) (.int b)) q (.mulL u b)) (λ_ h=>nq h))
  (λh=>cP (bS .fdiv · y z) h λa q=>cP (bS .fdiv (.int a) · z) q λb q=>CB (bS .fdiv (.int a) (.int b)) q (.fdiv a b))
  (λh=>cP (bS .mod · y z) h λa q=>cP (bS .mod (.int a) · z) q λb q=>CB (bS .mod (.int a) (.int b)) q (.mod a b))
  (λh=>cP (bS .pow · y z) h λa q=>cP (bS .pow (.int a) · z) q λb q=>cL (bS .pow (.int a) (.int b)) q (.pow a b)) h
noncomputable def cg(l:List V)(i:Int):Option V:=if bj i then(if 0≤i then l[i.toNat]?else if 0≤l.length+i then l[(l.length+i).toNat]?else ah)else ah
noncomputable def qK(H:Bool)(v:V)(o:Option Bool):Option V:=a9 o ah λk=>if H=k then aa v else ah
noncomputable def iH(i:V)(o:Option O):Option V:=V.casesOn i ah (λ_=>ah) (λk=>fh o (λl=>cg l k) (λl=>l.lookup k) nn nn λl=>l.lookup k) (λk=>fh o nn nn (λl=>l.lookup k) nn nn)
 (λu=>fh o nn nn nn (λe=>a9 e ah λp=>qK p.1 p.2 (gj (.tup u))) nn) (λ_=>ah) λ_=>ah
noncomputable def gX(Z:St)(o i:V):Option V:=V.casesOn o ah (λ_=>ah) (λ_=>ah) (λs=>oI i λk=>if k=0 then(s.cps[0]?).map λc=>.str ⟨#[c]⟩else ah) (λl=>oI i λk=>cg l k) (λl=>oI i λk=>cg l k) λa=>iH i (Z a)
noncomputable def iR(b:Nat)(a:Nat)(v:V):Option Nat:=V.casesOn v (aa a) (λ_=>ah) (λi=>if 0≤i then aa (bC i.toNat b)else ah) (λ_=>ah) (λ_=>ah) (λ_=>ah) λ_=>ah
noncomputable def Ax(l:List V)(S f:V)(k:List V→V):Option V:=o2 (iR l.length 0 S) (iR l.length l.length f) λa b=>if l.length≤1000 then aa (k ((l.take b).drop a))else ah
noncomputable def lb(o S f:V):Option V:=gf o (λl=>Ax l S f .tup) (λl=>Ax l S f .lst) nn
noncomputable def qW(v:V):Option V:=oL v λl=>if l.length≤1000 then aa (.lst l.reverse)else ah
noncomputable abbrev rO{O:Type}(l:List O):Option Nat:=if l.length≤1000 then aa l.length else ah
noncomputable def rN(o:Option O):Option Nat:=fh o rO rO nn nn nn
noncomputable def mA(Z:St)(v:V):Option Nat:=gf v rO rO λa=>rN (Z a)
noncomputable def kZ(l:List V):Int→Option Int:=bc (motive:=λ_=>Int→Option Int) aa (λv _ f s=>oI v λi=>f (s+i)) l
noncomputable def jj(l:List Int):List Int:=l.mergeSort
noncomputable def qD(v:V)(b i s t:Bool):Option V:=V.casesOn v (aa (.bool aj)) (λ_=>aa (.bool b)) (λ_=>aa (.bool i)) (λ_=>aa (.bool s)) (λ_=>aa (.bool t)) (λ_=>aa (.bool aj)) λ_=>ah
noncomputable def bq(u:Bu)(Z:St)(v:V):Option V:=Bu.casesOn u
 ((mA Z v).map λn:Nat=>V.int (n:Int)) (gf v (λl=>if l.length≤1000 then aa (.lst l)else ah) (λl=>if l.length≤1000 then aa (.lst l)else ah) nn) (gf v (λl=>aa (.tup l)) (λl=>if l.length≤1000 then aa (.tup l)else ah) nn)
 (oI v λi=>if 0≤i∧i<10 then aa (.str ⟨#[48+i.toNat]⟩)else ah) (oL v λl=>(kZ l 0).map .int) (oA v λa=>fh (Z a) nn (λl=>if l.length<64 then aa (.lst ((jj (l.map (·.1))).map .int))else ah) nn nn nn)
 (qD v ae ae aj aj) (qD v ae aj aj aj) (qD v aj aj aj ae) (qD v aj aj ae aj)
noncomputable def wY(a:ag)(o:Option O):Option (ag×ag×List (ak×V)):=a9 o ah λo=>O.casesOn o (λ_=>ah) (λ_=>ah) (λ_=>ah) (λc t=>aa (a,c,t)) (λ_=>ah) (λ_=>ah) λ_ _=>ah
noncomputable def Op(Z:St)(v:V):Option (ag×ag×List (ak×V)):=oA v λa=>wY a (Z a)
noncomputable def On(Z:St)(v:V):Option (ag×List V):=oA v λa=>hJ (Z a) λl=>aa (a,l)
noncomputable def Oq(Z:St)(v:V):Option (ag×List (Int×V)):=oA v λa=>fh (Z a) nn (λl=>aa (a,l)) nn nn nn
noncomputable def Oo(v:V):Option Int:=oI v aa
noncomputable def Ol(v:V):Option ak:=oS v aa
noncomputable def Ok(v:V):Option (List V):=oT v aa
noncomputable abbrev cD(k:Int)(v:V)(l:List (Int×V)):List (Int×V):=cq k v l
noncomputable def k7(Z:St)(a:ag)(v:V)(e:Option (Bool×V))(o:Option Bool):Option St:=a9 o ah λk=>a9 e (aa (Z.Zv a (.kdict (aa (k,v))))) λp=>if p.1=k then aa (Z.Zv a (.kdict (aa (k,v))))else ah
noncomputable def ji(Z:St)(a:ag)(i v:V)(o:Option O):Option St:=V.casesOn i ah (λ_=>ah)
 (λk=>fh o (λl=>if 0≤k∧k.toNat<l.length∧bj k=ae then aa (Z.Zv a (.list (l.set k.toNat v)))else ah) (λl=>if l.length≤1000 then aa (Z.Zv a (.idict (cD k v l)))else ah) nn nn nn)
 (λk=>fh o nn nn (λl=>if l.length≤1000 then aa (Z.Zv a (.sdict (cq k v l)))else ah) nn nn) (λu=>fh o nn nn nn (λe=>k7 Z a v e (gj (.tup u))) nn) (λ_=>ah) λ_=>ah
noncomputable def qN(Z:St)(o i v:V):Option St:=oA o λa=>ji Z a i v (Z a)
noncomputable def cJ(i:Nat)(v:V)(S:aA):aA:=(i,v)::S.filter λp=> !cI p.1 i
noncomputable def qX(K:List Nat):List V→aA→Option aA:=bc (motive:=λ_=>List V→aA→Option aA) (λL S=>br L (aa S) λ_ _=>ah) (λi _ f L S=>br L ah λv L=>f L (cJ i v S)) K
noncomputable def UZ(D:List Nat)(v:V)(S:aA):Option aA:=br D (gf v (λl=>qX [] l S) (λl=>qX [] l S) nn) λx r=>br r (aa (cJ x v S)) λy r=>gf v (λl=>qX (x::y::r) l S) (λl=>qX (x::y::r) l S) nn
noncomputable def St.ZA(Z:St)(a:ag):St:=λb=>if b=a then ah else Z b
abbrev bV:=Option (ag×O)
def dk(s:bV)(Z:St):Prop:=a9 (motive:=λ_=>Prop) s True λp=>Z p.1=aa p.2
noncomputable def iM(Z:St)(v:V):Option (List V×bV):=gf v (λl=>aa (l,ah)) (λl=>aa (l,ah)) λa=>hJ (Z a) λl=>aa (l,aa (a,.list l))
noncomputable def fO(a b:Int):List V:=(tK (b-a).toNat).map λk:Nat=>.int (a+(k:Int))
noncomputable def oq(a b c:Int):Option (List V):=if c= -1 then aa ((tK (a-b).toNat).map λk:Nat=>.int (a- (k:Int)))else ah
noncomputable def Om(v:V):Option (List V):=oL v aa
def St.Zy(Z M:St):Prop:=∀a o,Z a=aa o→M a=aa o
abbrev QV:=V→St→Prop
abbrev QX:=ak→St→Prop
abbrev CS:=ag→List V→St→QV→QX→Prop
structure cA where
 meth:ag→ak→Option ag
 init:ag→Option ag
 field:ag→ak→Bool
 store:ag→ak→Bool
 bits:List (ak×Int)
 glob:List (ak×V)
 fn:List (ak×ag)
 cls:List (ak×ag)
 hd:List (ak×ag×ag×ak)
instance:Nonempty cA:=⟨by constructor<;>exact gU inferInstance⟩
structure Fr where
 D:Nat→CS
 n:Nat
 X:QX
 φ:aA
abbrev QL:=List V→St→Prop
abbrev QB:=Bool→St→Prop
abbrev QI:=List V→bV→St→Prop
abbrev QT:=Fr→St→Prop
abbrev QF:=Fl→Fr→St→Prop
abbrev EW:=Fr→QV→St→Prop
abbrev LW:=Fr→QL→St→Prop
abbrev AW:=Fr→QB→St→Prop
abbrev IW:=Fr→QI→St→Prop
abbrev TW:=V→Fr→QT→St→Prop
abbrev SW:=Fr→QF→St→Prop
def nfQ{O:Type}(x:O)(P:O→Prop):Prop:=P x
theorem R3{O:Type}{x y:O}{P:O→Prop}(h:x=y)(k:P y):nfQ x P:=h▸k
def oK{O:Type}(o:Option O)(P:O→Prop)(R:Prop):Prop:=a9 (motive:=λ_=>Prop) o R P
theorem R0{O:Type}{o:Option O}{z:O}{P:O→Prop}{R:Prop}(h:o=aa z)(k:P z):oK o P R:=h▸k
theorem R1{O:Type}{o:Option O}{P:O→Prop}{R:Prop}(h:o=ah)(k:R):oK o P R:=h▸k
noncomputable def Af(T:cA)(c:ag)(m:ak)(v:V)(t:List (ak×V)):Option (List (ak×V)):=if T.store c m=ae∧t.length≤1000 then aa (cq m v t)else ah
noncomputable def C2(T:cA)(c:ag)(m:ak)(t:List (ak×V)):Option V:=if T.field c m=ae then t.lookup m else ah
noncomputable def Bm(T:cA)(c:ag)(m:ak)(t:List (ak×V)):Option ag:=if t.lookup m=ah then T.meth c m else ah
noncomputable def EY(l:List V)(y:V):Option (List V):=if l.length≤1000 then aa (l++[y])else ah
noncomputable def Dk(r l:List V):Option (List V):=if r.length+l.length≤1000 then aa (r++l)else ah
noncomputable def AN(l:List V):Option (V×List V):=if l.length≤1000 then l.getLast?.map λz=>(z,l.dropLast)else ah
noncomputable def pF(l:List (Int×V))(k:Int):Option (V×List (Int×V)):=if l.length≤1000 then(l.lookup k).map λz=>(z,l.filter λp=>p.1 !=k)else ah
abbrev ly(i:Nat)(S:aA)(P:V→Prop):Prop:=bc (motive:=λ_=>Prop) False (λp _ F=>Prod.rec (motive:=λ_=>Prop) (λj v=>fc (motive:=λ_=>Prop) F (P v) (cI i j)) p) S
noncomputable abbrev ax(i:Nat)(v:V)(G:Fr):Fr:=⟨G.D,G.n,G.X,(i,v)::G.φ⟩
abbrev k8(s:bV)(Z:St)(P:Prop):Prop:=a9 (motive:=λ_=>Prop) s P λp=>Z p.1=aa p.2∧P
abbrev me:List Nat→List V→Fr→(Fr→Prop)→Prop:=bc (motive:=λ_=>List V→Fr→(Fr→Prop)→Prop)
 (λL G P=>bc (motive:=λ_=>Prop) (P G) (λ_ _ _=>False) L)
 (λi _ F L G P=>bc (motive:=λ_=>Prop) False (λv r _=>F r (ax i v G) P) L)
abbrev vQ(v:V)(I:Int→Prop)(S:ak→Prop)(T L:List V→Prop)(A:ag→Prop):Prop:=V.casesOn (motive_1:=λ_=>Prop) v False (λ_=>False) I S T L A
abbrev nQ{O:Type}:O→Prop:=λ_=>False
abbrev j9(D:List Nat)(v:V)(G:Fr)(P:Fr→Prop):Prop:=bc (motive:=λ_=>Prop) False (λx r _=>bc (motive:=λ_=>Prop) (P (ax x v G))
 (λ_ _ _=>vQ v nQ nQ (λl=>me D l G P) (λl=>me D l G P) nQ) r) D
def oY(o:Option O)(P:ag→List (ak×V)→Prop):Prop:=a9 (motive:=λ_=>Prop) o False λo=>O.casesOn (motive:=λ_=>Prop) o (λ_=>False) (λ_=>False) (λ_=>False) P (λ_=>False) (λ_=>False) λ_ _=>False
def lB(o:Option O)(P:List V→Prop):Prop:=a9 (motive:=λ_=>Prop) o False λo=>O.casesOn (motive:=λ_=>Prop) o P (λ_=>False) (λ_=>False) (λ_ _=>False) (λ_=>False) (λ_=>False) λ_ _=>False
def pG(o:Option O)(P:List (Int×V)→Prop):Prop:=a9 (motive:=λ_=>Prop) o False λo=>O.casesOn (motive:=λ_=>Prop) o (λ_=>False) P (λ_=>False) (λ_ _=>False) (λ_=>False) (λ_=>False) λ_ _=>False
theorem Tc{o:Option O}{c:ag}{t:List (ak×V)}{P:ag→List (ak×V)→Prop}(h:o=aa (.inst c t))(k:P c t):oY o P:=h▸k
theorem Sf{o:Option O}{l:List V}{P:List V→Prop}(h:o=aa (.list l))(k:P l):lB o P:=h▸k
theorem Tw{o:Option O}{l:List (Int×V)}{P:List (Int×V)→Prop}(h:o=aa (.idict l))(k:P l):pG o P:=h▸k
theorem Kl{o:Option O}{P:ag→List (ak×V)→Prop}{C:Option O→Prop}(h:oY o P)(k:∀c t,P c t→C (aa (.inst c t))):C o:=
 a9 (motive:=λo=>oY o P→C o) o (λh=>h.elim) (λo=>O.casesOn (motive:=λo=>oY (aa o) P→C (aa o)) o (λ_ h=>h.elim) (λ_ h=>h.elim) (λ_ h=>h.elim) k (λ_ h=>h.elim) (λ_ h=>h.elim) λ_ _ h=>h.elim) h
theorem BW{o:Option O}{P:List V→Prop}{C:Option O→Prop}(h:lB o P)(k:∀l,P l→C (aa (.list l))):C o:=
 a9 (motive:=λo=>lB o P→C o) o (λh=>h.elim) (λo=>O.casesOn (motive:=λo=>lB (aa o) P→C (aa o)) o k (λ_ h=>h.elim) (λ_ h=>h.elim) (λ_ _ h=>h.elim) (λ_ h=>h.elim) (λ_ h=>h.elim) λ_ _ h=>h.elim) h
theorem Mo{o:Option O}{P:List (Int×V)→Prop}{C:Option O→Prop}(h:pG o P)(k:∀l,P l→C (aa (.idict l))):C o:=
 a9 (motive:=λo=>pG o P→C o) o (λh=>h.elim) (λo=>O.casesOn (motive:=λo=>pG (aa o) P→C (aa o)) o (λ_ h=>h.elim) k (λ_ h=>h.elim) (λ_ _ h=>h.elim) (λ_ h=>h.elim) (λ_ h=>h.elim) λ_ _ h=>h.elim) h
theorem jg{v:V}{I:Int→Prop}{S:ak→Prop}{T L:List V→Prop}{A:ag→Prop}{C:V→Prop}(h:vQ v I S T L A)(b:∀i,I i→C (.int i))(O:∀i,S i→C (.str i))(c:∀i,T i→C (.tup i))(a:∀i,L i→C (.lst i))(d:∀i,A i→C (.obj i)):C v:=
 V.casesOn (motive_1:=λv=>vQ v I S T L A→C v) v (λh=>h.elim) (λ_ h=>h.elim) b O c a d h
abbrev oZ(Z:St)(v:V)(P:ag→ag→List (ak×V)→Prop):Prop:=vQ v nQ nQ nQ nQ λa=>oY (Z a) (P a)
abbrev lC(Z:St)(v:V)(P:ag→List V→Prop):Prop:=vQ v nQ nQ nQ nQ λa=>lB (Z a) (P a)
abbrev mK(Z:St)(v:V)(P:ag→List (Int×V)→Prop):Prop:=vQ v nQ nQ nQ nQ λa=>pG (Z a) (P a)
abbrev js(v:V)(P:Int→Prop):Prop:=vQ v P nQ nQ nQ nQ
abbrev n8(v:V)(P:ak→Prop):Prop:=vQ v nQ P nQ nQ nQ
abbrev z8(v:V)(P:List V→Prop):Prop:=vQ v nQ nQ P nQ nQ
abbrev Dj(v:V)(P:List V→Prop):Prop:=vQ v nQ nQ P P nQ
abbrev jh(Z:St)(v:V)(P:Bool→Prop):Prop:=V.casesOn (motive_1:=λ_=>Prop) v (P aj) P (λi=>oQ (d7 Z (.int i)) P) (λ_=>False) (λl=>oQ (d7 Z (.tup l)) P) (λl=>oQ (d7 Z (.lst l)) P) λa=>oQ (d7 Z (.obj a)) P
abbrev rV(Z:St)(v:V)(K:List V→bV→St→Prop):Prop:=vQ v nQ nQ (λl=>K l ah Z) (λl=>K l ah Z) λa=>lB (Z a) λl=>K l (aa (a,.list l)) Z
abbrev ju(x y:V)(k:Int→Int→Prop)(d:Prop):Prop:=V.casesOn (motive_1:=λ_=>Prop) x d (λ_=>d) (λa=>V.casesOn (motive_1:=λ_=>Prop) y d (λ_=>d) (k a) (λ_=>d) (λ_=>d) (λ_=>d) λ_=>d) (λ_=>d) (λ_=>d) (λ_=>d) λ_=>d
abbrev yK(o:Bo)(x y:V)(P:V→Prop):Prop:=Bo.casesOn (motive_1:=λ_=>Prop) o (ju x y (λa b=>nfQ (a+b) λi=>P (.int i)) (oQ (cE .add x y) P)) (ju x y (λa b=>nfQ (a-b) λi=>P (.int i)) (oQ (cE .sub x y) P))
 (oQ (cE .mul x y) P) (oQ (cE .fdiv x y) P) (oQ (cE .mod x y) P) (oQ (cE .pow x y) P)
abbrev sD(o:Co)(Z:St)(x y:V)(P:Bool→Prop):Prop:=Co.casesOn (motive_2:=λ_=>Prop) o (oQ (bD .eq Z x y) P) (oQ (bD .ne Z x y) P) (ju x y (λa b=>P (aO (a<b))) (oQ (bD .lt Z x y) P)) (ju x y (λa b=>P (aO (a≤b))) (oQ (bD .le Z x y) P))
 (ju x y (λa b=>P (aO (b<a))) (oQ (bD .gt Z x y) P)) (ju x y (λa b=>P (aO (b≤a))) (oQ (bD .ge Z x y) P)) (oQ (bD .is_ Z x y) P) (oQ (bD .isNot Z x y) P) (oQ (bD .in_ Z x y) P) (oQ (bD .notIn Z x y) P)
noncomputable abbrev gi(i:Nat):List Nat→Bool:=bc (motive:=λ_=>Bool) aj (λj _ F=>fc (motive:=λ_=>Bool) F ae (cI i j))
noncomputable abbrev gZ(I:List Nat):aA→aA:=bc (motive:=λ_=>aA) [] (λp _ F=>Prod.rec (motive:=λ_=>aA) (λj v=>fc (motive:=λ_=>aA) F ((j,v)::F) (gi j I)) p)
noncomputable abbrev mo(I:List Nat)(G:Fr):Fr:=⟨G.D,G.n,G.X,gZ I G.φ⟩
@[reducible] def bQ(b:Bool)(P R:Prop):Prop:=fc (motive:=λ_=>Prop) R P b
theorem Vh{b:Bool}{P R:Prop}(h:b=ae)(k:P):bQ b P R:=h▸k
theorem Vi{b:Bool}{P R:Prop}(h:b=aj)(k:R):bQ b P R:=h▸k
def kr(o:O)(Q:QV)(Z:St):Prop:=∀a,Z a=ah→Q (.obj a) (Z.Zv a o)
section
abbrev kj(Q:QV)(Z:St):V→Prop:=λz=>Q z Z
abbrev OJ(Q:QV)(Z:St):Bool→Prop:=λz=>Q (.bool z) Z
abbrev OI(Q:QV)(Z:St):Int→Prop:=λz=>Q (.int z) Z
variable(T:cA)
abbrev P9(Q:QV)(Z:St):ak→Prop:=λk=>oQ (T.bits.lookup k) (OI Q Z)
abbrev Qa(Q:QV):QV:=λv Z=>n8 v (P9 T Q Z)
abbrev OK(Q:QV):QL:=λL Z=>Q (.tup L) Z
abbrev nu(Q:QV):QL:=λL Z=>Q (.lst L) Z
abbrev sZ(Q:QV):QL:=λL Z=>kr (.list L) Q Z
abbrev PU(i:List Int)(Q:QV):QL:=λL Z=>nfQ (i.zip L) λl=>kr (.idict l) Q Z
abbrev PS(i:List ak)(Q:QV):QL:=λL Z=>nfQ (i.zip L) λl=>kr (.sdict l) Q Z
abbrev Qb(o:Bo)(u:V)(Q:QV):QV:=λv Z=>yK o u v (kj Q Z)
abbrev Qc(o:Bo)(b:EW)(G:Fr)(Q:QV):QV:=λv Z=>b G (Qb o v Q) Z
abbrev O9(Q:QV)(Z:St):List V→Prop:=λl=>kr (.list l) Q Z
abbrev Pa(u:V)(Q:QV):QV:=λv Z=>oQ (cE .mul u v) λz=>oQ (Om z) (O9 Q Z)
abbrev Pb(b:EW)(G:Fr)(Q:QV):QV:=λv Z=>b G (Pa v Q) Z
abbrev FA(o:Co)(u:V)(Q:QV):QV:=λv Z=>sD o Z u v (OJ Q Z)
abbrev P2(o:Co)(b:EW)(G:Fr)(Q:QV):QV:=λv Z=>b G (FA o v Q) Z
abbrev P3(o:Co)(c:EW)(y:V)(G:Fr)(Q:QV)(Z:St):Bool→Prop:=λz=>bQ z (c G (FA o y Q) Z) (Q (.bool aj) Z)
abbrev P4(o H:Co)(c:EW)(u:V)(G:Fr)(Q:QV):QV:=λv Z=>sD o Z u v (P3 H c v G Q Z)
abbrev P5(o:Co)(b:EW)(H:Co)(c:EW)(G:Fr)(Q:QV):QV:=λv Z=>b G (P4 o H c v G Q) Z
abbrev Qn(b:EW)(G:Fr)(Z:St)(Q:QV)(u:V):Bool→Prop:=λz=>bQ z (b G Q Z) (Q u Z)
abbrev yY(b:EW)(G:Fr)(Q:QV):QV:=λv Z=>jh Z v (Qn b G Z Q v)
abbrev O5(b:EW)(G:Fr)(Z:St)(Q:QV)(u:V):Bool→Prop:=λz=>bQ z (Q u Z) (b G Q Z)
abbrev yX(b:EW)(G:Fr)(Q:QV):QV:=λv Z=>jh Z v (O5 b G Z Q v)
abbrev O6(Q:QV)(Z:St):Bool→Prop:=λc=>Q (.bool (!c)) Z
abbrev O7(Q:QV):QV:=λv Z=>jh Z v (O6 Q Z)
abbrev Pi(a b:EW)(G:Fr)(Z:St)(Q:QV):Bool→Prop:=λz=>bQ z (a G Q Z) (b G Q Z)
abbrev Pj(a b:EW)(G:Fr)(Q:QV):QV:=λv Z=>jh Z v (Pi a b G Z Q)
abbrev P6(f:ag)(G:Fr)(Q:QV):QL:=λL Z=>G.D G.n f L Z Q G.X
abbrev Fm(a:ag)(Q:QV):QV:=λr Z=>r=.none∧Q (.obj a) Z
def Fd(D:Nat→CS)(m:Nat)(c:ag)(L:List V)(Z:St)(Q:QV)(X:QX)(f:ag):Prop:=∀a,Z a=ah→D m f (.obj a::L) (Z.Zv a (.inst c [])) (Fm a Q) X
abbrev O8(c:ag)(G:Fr)(Q:QV):QL:=λL Z=>∃m,G.n=m+1∧oQ (T.init c) (Fd G.D m c L Z Q G.X)
abbrev Ft(f:ag)(v:V)(G:Fr)(Q:QV):QL:=λL Z=>G.D G.n f (v::L) Z Q G.X
abbrev Pd(v:V)(P:LW)(G:Fr)(Z:St)(Q:QV):ag→Prop:=λf=>P G (Ft f v G Q) Z
abbrev Fs(v:V)(m:ak)(P:LW)(G:Fr)(Z:St)(Q:QV):ag→ag→List (ak×V)→Prop:=λ_ c t=>oQ (Bm T c m t) (Pd v P G Z Q)
abbrev Pe(m:ak)(P:LW)(G:Fr)(Q:QV):QV:=λv Z=>oZ Z v (Fs T v m P G Z Q)
abbrev FB(u:Bu)(Q:QV):QV:=λv Z=>oQ (bq u Z v) (kj Q Z)
abbrev Qh(m:ak)(Q:QV)(Z:St):ag→ag→List (ak×V)→Prop:=λ_ c t=>oQ (C2 T c m t) (kj Q Z)
abbrev Qi(m:ak)(Q:QV):QV:=λv Z=>oZ Z v (Qh T m Q Z)
abbrev OT(u:V)(Q:QV):QV:=λv Z=>oQ (gX Z u v) (kj Q Z)
abbrev OU(i:EW)(G:Fr)(Q:QV):QV:=λv Z=>i G (OT v Q) Z
abbrev OW(u y:V)(Q:QV):QV:=λv Z=>oQ (lb u y v) (kj Q Z)
abbrev OX(f:EW)(u:V)(G:Fr)(Q:QV):QV:=λv Z=>f G (OW u v Q) Z
abbrev OY(S f:EW)(G:Fr)(Q:QV):QV:=λv Z=>S G (OX f v G Q) Z
abbrev O1(Q:QV):QV:=λv Z=>oQ (qW v) (kj Q Z)
abbrev FC(a:ag)(Q:QV)(Z:St):List V→Prop:=λl=>Q .none (Z.Zv a (.list l))
abbrev Qj(y:V)(Q:QV)(Z:St):ag→List V→Prop:=λa l=>oQ (EY l y) (FC a Q Z)
abbrev Qk(u:V)(Q:QV):QV:=λv Z=>lC Z u (Qj v Q Z)
abbrev Qm(e:EW)(G:Fr)(v:V)(Q:QV)(Z:St):ag→List V→Prop:=λ_ _=>e G (Qk v Q) Z
abbrev Ql(e:EW)(G:Fr)(Q:QV):QV:=λv Z=>lC Z v (Qm e G v Q Z)
abbrev PD(a:ag)(r:List V)(Q:QV)(Z:St):List V→Prop:=λl=>oQ (Dk r l) (FC a Q Z)
abbrev PE(y:V)(Q:QV)(Z:St):ag→List V→Prop:=λa r=>Dj y (PD a r Q Z)
abbrev PF(u:V)(Q:QV):QV:=λv Z=>lC Z u (PE v Q Z)
abbrev PH(e:EW)(G:Fr)(v:V)(Q:QV)(Z:St):ag→List V→Prop:=λ_ _=>e G (PF v Q) Z
abbrev PG(e:EW)(G:Fr)(Q:QV):QV:=λv Z=>lC Z v (PH e G v Q Z)
abbrev O2(a:ag)(Q:QV)(Z:St):V×List V→Prop:=λp=>Prod.rec (motive:=λ_=>Prop) (λz l=>Q z (Z.Zv a (.list l))) p
abbrev O3(Q:QV)(Z:St):ag→List V→Prop:=λa l=>oQ (AN l) (O2 a Q Z)
abbrev O4(Q:QV):QV:=λv Z=>lC Z v (O3 Q Z)
abbrev Fw(a:ag)(Q:QV)(Z:St):V×List (Int×V)→Prop:=λp=>Prod.rec (motive:=λ_=>Prop) (λz l=>Q z (Z.Zv a (.idict l))) p
abbrev PN(a:ag)(l:List (Int×V))(Q:QV)(Z:St):Int→Prop:=λk=>oQ (pF l k) (Fw a Q Z)
abbrev PO(y:V)(Q:QV)(Z:St):ag→List (Int×V)→Prop:=λa l=>js y (PN a l Q Z)
abbrev PP(u:V)(Q:QV):QV:=λv Z=>mK Z u (PO v Q Z)
abbrev PR(k:EW)(G:Fr)(v:V)(Q:QV)(Z:St):ag→List (Int×V)→Prop:=λ_ _=>k G (PP v Q) Z
abbrev PQ(k:EW)(G:Fr)(Q:QV):QV:=λv Z=>mK Z v (PR k G v Q Z)
abbrev PV(u:V)(Q:QV)(Z:St)(a:ag)(l:List (Int×V)):Int→Prop:=λk=>l.length≤1000∧oK (pF l k) (Fw a Q Z) (Q u Z)
abbrev PW(y u:V)(Q:QV)(Z:St):ag→List (Int×V)→Prop:=λa l=>js y (PV u Q Z a l)
abbrev PX(o y:V)(Q:QV):QV:=λv Z=>mK Z o (PW y v Q Z)
abbrev PY(d:EW)(o:V)(G:Fr)(Q:QV):QV:=λv Z=>d G (PX o v Q) Z
abbrev P0(k d:EW)(G:Fr)(v:V)(Q:QV)(Z:St):ag→List (Int×V)→Prop:=λ_ _=>k G (PY d v G Q) Z
abbrev PZ(k d:EW)(G:Fr)(Q:QV):QV:=λv Z=>mK Z v (P0 k d G v Q Z)
abbrev s8(K:QL):QV:=λv Z=>K [v] Z
abbrev Fx(z:EW)(G:Fr)(K:QL):QB:=λc Z=>bQ c (z G (s8 K) Z) (K [] Z)
abbrev OV(z:EW)(O:AW)(K:QL)(Z:St):Fr→Prop:=λG=>O G (Fx z G K) Z
abbrev iV(z:EW)(D:List Nat)(O:AW)(G:Fr):V→QL→St→Prop:=λv K Z=>j9 D v G (OV z O K Z)
abbrev Fy(w:List V→QL→St→Prop)(O:List V)(K:QL):QL:=λo Z=>w (O++o) K Z
abbrev ft(a:V→QL→St→Prop)(s:bV):List V→List V→QL→St→Prop:=bc (motive:=λ_=>List V→QL→St→Prop)
 (λO K Z=>k8 s Z (nfQ O λO=>K O Z)) (λv _ F O K Z=>k8 s Z (a v (Fy F O K) Z))
abbrev P1(f:Bool)(z:EW)(D:List Nat)(O:AW)(G:Fr)(Q:QV):QI:=λl s Z=>l.length≤1000∧ft (iV z D O G) s l [] (fc (motive:=λ_=>QL) (nu Q) (sZ Q) f) Z
abbrev P7(z:EW)(y:Nat)(G:Fr)(K:QL):QI:=λl s Z=>l.length≤1000∧ft (λv K Z=>z (ax y v G) (s8 K) Z) s l [] K Z
abbrev zg(z:EW)(x y:Nat)(c:IW)(G:Fr):V→QL→St→Prop:=λv K Z=>c (ax x v G) (P7 z y (ax x v G) K) Z
abbrev P8(z:EW)(x y:Nat)(c:IW)(G:Fr)(Q:QV):QI:=λl s Z=>l.length≤1000∧ft (zg z x y c G) s l [] (nu Q) Z
abbrev Pw(Q:QV):QV:=λ_ Z=>Q .none Z
abbrev Pv(Q:QV):QX:=λk Z=>Q (.str k) Z
abbrev PB(Q:QV)(Z:St):ag→List V→Prop:=λa l=>Q (.lst l) (Z.ZA a)
abbrev PC(Q:QV):QV:=λv Z=>lC Z v (PB Q Z)
abbrev Pg(v:V)(K:QL):QL:=λL Z=>K (v::L) Z
abbrev Ph(r:LW)(G:Fr)(K:QL):QV:=λv Z=>r G (Pg v K) Z
abbrev Qo(r:AW)(G:Fr)(K:QB)(Z:St):Bool→Prop:=λc=>bQ c (r G K Z) (K aj Z)
abbrev Qp(r:AW)(G:Fr)(K:QB):QV:=λv Z=>jh Z v (Qo r G K Z)
abbrev Pu(K:QI):QV:=λv Z=>rV Z v K
abbrev Pr(K:QI)(Z:St):Int→Prop:=λi=>bj i=ae∧nfQ (fO 0 i) (λl=>K l ah Z)
abbrev Ps(K:QI):QV:=λv Z=>js v (Pr K Z)
abbrev Pk(K:QI)(Z:St):List V→Prop:=λl=>K l ah Z
abbrev Pl(a b:Int)(K:QI)(Z:St):Int→Prop:=λc=>bj a=ae∧bj b=ae∧oQ (oq a b c) (Pk K Z)
abbrev Pm(a:Int)(c:V)(K:QI)(Z:St):Int→Prop:=λb=>js c (Pl a b K Z)
abbrev Pn(b c:V)(K:QI)(Z:St):Int→Prop:=λa=>js b (Pm a c K Z)
abbrev Po(a b:V)(K:QI):QV:=λv Z=>js a (Pn b v K Z)
abbrev Pp(c:EW)(a:V)(G:Fr)(K:QI):QV:=λv Z=>c G (Po a v K) Z
abbrev Pq(b c:EW)(G:Fr)(K:QI):QV:=λv Z=>b G (Pp c v G K) Z
abbrev uU:EW:=λ_ _ _=>False
abbrev u4:EW:=λ_ Q Z=>Q .none Z
abbrev vz(b:Bool):EW:=λ_ Q Z=>Q (.bool b) Z
abbrev vg(i:Int):EW:=λ_ Q Z=>Q (.int i) Z
abbrev u6(i:Nat):EW:=λ_ Q Z=>Q (.int (-(i:Int))) Z
abbrev uS(x:ak):EW:=λ_ Q Z=>Q (.str x) Z
abbrev uP(i:Nat):EW:=λG Q Z=>ly i G.φ (kj Q Z)
abbrev vB(e:Ex)(a:EW):EW:=λG Q Z=>a G (Qa T Q) Z
abbrev vi(x:ak):EW:=λ_ Q Z=>oQ (T.glob.lookup x) (kj Q Z)
abbrev uQ(P:Exs)(a:(LW×AW)):EW:=λG Q Z=>a.1 G (OK Q) Z
abbrev ve(P:Exs)(a:(LW×AW)):EW:=λG Q Z=>a.1 G (nu Q) Z
abbrev vd(P:Exs)(a:(LW×AW)):EW:=λG Q Z=>a.1 G (sZ Q) Z
abbrev vr(i:List Int)(P:Exs)(a:(LW×AW)):EW:=λG Q Z=>a.1 G (PU i Q) Z
abbrev vp(i:List ak)(P:Exs)(a:(LW×AW)):EW:=λG Q Z=>a.1 G (PS i Q) Z
abbrev vq:EW:=λ_ Q Z=>kr (.kdict ah) Q Z
abbrev vC(o:Bo)(a:Ex)(b:Ex)(e:EW)(d:EW):EW:=λG Q Z=>e G (Qc o d G Q) Z
abbrev u7(a:Ex)(b:Ex)(e:EW)(d:EW):EW:=λG Q Z=>e G (Pb d G Q) Z
abbrev vw(o:Co)(a:Ex)(b:Ex)(e:EW)(d:EW):EW:=λG Q Z=>e G (P2 o d G Q) Z
abbrev vx(o:Co)(a:Ex)(b:Ex)(H:Co)(c:Ex)(e:EW)(d:EW)(f:EW):EW:=λG Q Z=>e G (P5 o d H f G Q) Z
abbrev vG(a:Ex)(b:Ex)(e:EW)(d:EW):EW:=λG Q Z=>e G (yY d G Q) Z
abbrev uY(a:Ex)(b:Ex)(e:EW)(d:EW):EW:=λG Q Z=>e G (yX d G Q) Z
abbrev uX(a:Ex)(b:Ex)(c:Ex)(e:EW)(d:EW)(f:EW):EW:=λG Q Z=>e G (yX (λG Q Z=>d G (yX f G Q) Z) G Q) Z
abbrev vF(a:Ex)(b:Ex)(c:Ex)(e:EW)(d:EW)(f:EW):EW:=λG Q Z=>e G (yY (λG Q Z=>d G (yY f G Q) Z) G Q) Z
abbrev uZ(a:Ex)(e:EW):EW:=λG Q Z=>e G (O7 Q) Z
abbrev vf(t:Ex)(a:Ex)(b:Ex)(c:EW)(e:EW)(d:EW):EW:=λG Q Z=>c G (Pj e d G Q) Z
abbrev vy(x:ak)(f:ag)(P:Exs)(a:(LW×AW)):EW:=λG Q Z=>a.1 G (P6 f G Q) Z
abbrev u5(x:ak)(c:ag)(P:Exs)(a:(LW×AW)):EW:=λG Q Z=>a.1 G (O8 T c G Q) Z
abbrev u9(o:Ex)(m:ak)(P:Exs)(O:EW)(a:(LW×AW)):EW:=λG Q Z=>O G (Pe T m a.1 G Q) Z
abbrev vA(u:Bu)(e:Ex)(a:EW):EW:=λG Q Z=>a G (FB u Q) Z
abbrev vD(o:Ex)(m:ak)(O:EW):EW:=λG Q Z=>O G (Qi T m Q) Z
abbrev uR(o:Ex)(i:Ex)(m:EW)(a:EW):EW:=λG Q Z=>m G (OU a G Q) Z
abbrev uT(o:Ex)(S:Ex)(f:Ex)(m:EW)(a:EW)(b:EW):EW:=λG Q Z=>m G (OY a b G Q) Z
abbrev uV(o:Ex)(m:EW):EW:=λG Q Z=>m G (O1 Q) Z
abbrev vE(o:Ex)(e:Ex)(m:EW)(a:EW):EW:=λG Q Z=>m G (Ql a G Q) Z
abbrev vm(o:Ex)(e:Ex)(m:EW)(a:EW):EW:=λG Q Z=>m G (PG a G Q) Z
abbrev uW(o:Ex)(m:EW):EW:=λG Q Z=>m G (O4 Q) Z
abbrev vo(o:Ex)(k:Ex)(m:EW)(a:EW):EW:=λG Q Z=>m G (PQ a G Q) Z
abbrev vn(o:Ex)(k:Ex)(d:Ex)(m:EW)(a:EW)(b:EW):EW:=λG Q Z=>m G (PZ a b G Q) Z
abbrev vv(f:Bool)(z:Ex)(D:List Nat)(c:It)(h:Exs)(I:List Nat)(a:EW)(d:IW)(b:(LW×AW)):EW:=λG Q Z=>d G (P1 f a D b.2 (mo I G) Q) Z
abbrev vt(z:Ex)(x:Nat)(c:It)(y:Nat)(Y:It)(I:List Nat)(a:EW)(d:IW)(b:IW):EW:=λG Q Z=>d G (P8 a x y b (mo I G) Q) Z
abbrev vh(P:ag)(q:ak)(e:Ex)(I:List Nat)(a:EW):EW:=λG Q Z=>∃m,G.n=m+2∧Z P=aa (.tab q)∧a ⟨G.D,m,Pv Q,(mo I G).φ⟩ (Pw Q) Z
abbrev vj(e:Ex)(a:EW):EW:=λG Q Z=>a G (PC Q) Z
abbrev uM(e:Ex)(a:EW):IW:=λG K Z=>a G (Pu K) Z
abbrev uO(e:Ex)(a:EW):IW:=λG K Z=>a G (Ps K) Z
abbrev uN(a:Ex)(b:Ex)(c:Ex)(e:EW)(d:EW)(f:EW):IW:=λG K Z=>e G (Pq d f G K) Z
noncomputable abbrev uK:LW×AW:=(λ_ K Z=>K [] Z,λ_ K Z=>K ae Z)
noncomputable abbrev uL(e:Ex)(r:Exs)(a:EW)(b:(LW×AW)):LW×AW:=(λG K Z=>a G (Ph b.1 G K) Z,λG K Z=>a G (Qp b.2 G K) Z)
abbrev cm:Ex→EW:=Ex.rec (motive_1:=λ_=>EW) (motive_2:=λ_=>IW) (motive_3:=λ_=>LW×AW) uU u4 vz vg u6 uS uP (vB T) (vi T) uQ ve vd vr vp vq vC u7 vw vx vG uY uX vF uZ vf vy (u5 T) (u9 T) vA (vD T) uR uT uV vE vm uW vo vn vv vt vh vj uM uO uN uK uL
abbrev qB:It→IW:=It.rec (motive_1:=λ_=>EW) (motive_2:=λ_=>IW) (motive_3:=λ_=>LW×AW) uU u4 vz vg u6 uS uP (vB T) (vi T) uQ ve vd vr vp vq vC u7 vw vx vG uY uX vF uZ vf vy (u5 T) (u9 T) vA (vD T) uR uT uV vE vm uW vo vn vv vt vh vj uM uO uN uK uL
noncomputable abbrev z5:Exs→LW×AW:=Exs.rec (motive_1:=λ_=>EW) (motive_2:=λ_=>IW) (motive_3:=λ_=>LW×AW) uU u4 vz vg u6 uS uP (vB T) (vi T) uQ ve vd vr vp vq vC u7 vw vx vG uY uX vF uZ vf vy (u5 T) (u9 T) vA (vD T) uR uT uV vE vm uW vo vn vv vt vh vj uM uO uN uK uL
abbrev kW(P:Exs):LW:=(z5 T P).1
abbrev gW(P:Exs):AW:=(z5 T P).2
abbrev OP(G:Fr)(K:QT)(Z:St)(a c:ag):List (ak×V)→Prop:=λt=>K G (Z.Zv a (.inst c t))
abbrev OQ(m:ak)(v:V)(G:Fr)(K:QT)(Z:St):ag→ag→List (ak×V)→Prop:=λa c t=>oQ (Af T c m v t) (OP G K Z a c)
abbrev OS(m:ak)(u:V)(G:Fr)(K:QT):QV:=λv Z=>oZ Z v (OQ T m u G K Z)
abbrev OM(G:Fr)(K:QT):St→Prop:=λZ=>K G Z
abbrev ON(u o:V)(G:Fr)(K:QT):QV:=λv Z=>oQ (qN Z o v u) (OM G K)
abbrev OO(i:EW)(u:V)(G:Fr)(K:QT):QV:=λv Z=>i G (ON u v G K) Z
abbrev nZ:Tg→TW:=Tg.rec (motive:=λ_=>TW) (λi v G K Z=>K (ax i v G) Z) (λo m v G K Z=>cm T o G (OS T m v G K) Z) (λo i v G K Z=>cm T o G (OO (cm T i) v G K) Z)
abbrev OL(O:List V→Fr→QT→St→Prop)(L:List V)(K:QT):QT:=λG Z=>O L G K Z
abbrev iB:List Tg→List V→Fr→QT→St→Prop:=bc (motive:=λ_=>List V→Fr→QT→St→Prop)
 (λL G K Z=>bc (motive:=λ_=>Prop) (K G Z) (λ_ _ _=>False) L)
 (λt _ F L G K Z=>bc (motive:=λ_=>Prop) False (λv r _=>nZ T t v G (OL F r K) Z) L)
abbrev Fq(R:QF):QT:=λG Z=>R .next G Z
abbrev PI(G:Fr)(R:QF):QV:=λ_ Z=>R .next G Z
abbrev Fk(t:TW)(G:Fr)(R:QF):QV:=λv Z=>t v G (Fq R) Z
abbrev OZ(O:List Tg)(G:Fr)(R:QF)(Z:St):List V→Prop:=λL=>L.length=O.length∧iB T O L G (Fq R) Z
abbrev O0(O:List Tg)(G:Fr)(R:QF):QV:=λv Z=>z8 v (OZ T O G R Z)
abbrev Qd(i:Nat)(k:Int)(G:Fr)(R:QF)(Z:St):Int→Prop:=λj=>nfQ (k+j) λz=>R .next (ax i (.int z) G) Z
abbrev Qe(i:Nat)(k:Int)(G:Fr)(R:QF):QV:=λv Z=>js v (Qd i k G R Z)
abbrev Qf(i:Nat)(e:EW)(G:Fr)(R:QF)(Z:St):Int→Prop:=λk=>e G (Qe i k G R) Z
abbrev Qg(i:Nat)(e:EW)(G:Fr)(R:QF)(Z:St):V→Prop:=λv=>js v (Qf i e G R Z)
abbrev Fp(G:Fr)(R:QF):QV:=λv Z=>R (.ret v) G Z
abbrev Fv(b o:SW)(G:Fr)(R:QF)(Z:St):Bool→Prop:=λc=>bQ c (b G R Z) (o G R Z)
abbrev Pt(b o:SW)(G:Fr)(R:QF):QV:=λv Z=>jh Z v (Fv b o G R Z)
abbrev nv(w:SW)(R:QF):QF:=λy=>Fl.rec (motive:=λ_=>Fr→St→Prop) (λG Z=>w G R Z) (λG Z=>R .next G Z) (λG Z=>w G R Z) (λv G Z=>R (.ret v) G Z) y
abbrev Fu(b w:SW)(G:Fr)(R:QF)(Z:St):Bool→Prop:=λc=>bQ c (b G (nv w R) Z) (R .next G Z)
abbrev Pf(b w:SW)(G:Fr)(R:QF):QV:=λv Z=>jh Z v (Fu b w G R Z)
abbrev pW(t:EW)(b:SW):Nat→SW:=kO (motive:=λ_=>SW) (λ_ _ _=>False) (λ_ F G R Z=>t G (Pf b F G R) Z)
def Fg(t:EW)(b:SW):SW:=λG R Z=>∃k,pW t b k G R Z
abbrev PM(b w:SW)(R:QF)(Z:St):Fr→Prop:=λG=>b G (nv w R) Z
abbrev ia(b:SW)(D:List Nat)(s:bV):List V→SW:=bc (motive:=λ_=>SW)
 (λG R Z=>k8 s Z (R .next G Z)) (λv _ F G R Z=>k8 s Z (j9 D v G (PM b F R Z)))
abbrev PL(b:SW)(D:List Nat)(G:Fr)(R:QF):QI:=λl s Z=>l.length≤1000∧ia b D s l G R Z
abbrev PJ(a r:Nat)(l:List (Int×V))(R:QF):QF:=λy G Z=>Z a=aa (.pdict r l)∧R y G (Z.Zv a (.idict l))
def Qs(b:SW)(x:Nat)(G:Fr)(R:QF)(Z:St):ag→List (Int×V)→Prop:=λa l=>l.length≤1000∧∀r,nfQ (l.map λp=>V.int p.1) λi=>ia b [x] (aa (a,.pdict r l)) i G (PJ a r l R) (Z.Zv a (.pdict r l))
abbrev PK(b:SW)(x:Nat)(G:Fr)(R:QF):QV:=λv Z=>mK Z v (Qs b x G R Z)
abbrev Px(k:ak)(G:Fr)(Z:St):ak→Prop:=λm=>k.length+m.length≤1000∧G.X k Z
abbrev Py(k:ak)(G:Fr):QV:=λv Z=>n8 v (Px k G Z)
abbrev Pz(m:EW)(G:Fr)(Z:St):ak→Prop:=λk=>m G (Py k G) Z
abbrev PA(m:EW)(G:Fr):QV:=λv Z=>n8 v (Pz m G Z)
abbrev nt(r:SW)(R:QF):QF:=λy=>Fl.rec (motive:=λ_=>Fr→St→Prop) (λG Z=>r G R Z) (λG Z=>R .brk G Z) (λG Z=>R .cont G Z) (λv G Z=>R (.ret v) G Z) y
abbrev BC:SW:=λ_ _ _=>False
abbrev BL(e:Ex):SW:=λG R Z=>cm T e G (PI G R) Z
abbrev BE(t:Tg)(e:Ex):SW:=λG R Z=>cm T e G (Fk (nZ T t) G R) Z
abbrev BD(O:List Tg)(e:Ex):SW:=λG R Z=>cm T e G (O0 T O G R) Z
abbrev BP(i:Nat)(e:Ex):SW:=λG R Z=>ly i G.φ (Qg i (cm T e) G R Z)
abbrev BG(e:Ex):SW:=λG R Z=>cm T e G (Fp G R) Z
abbrev BF:SW:=λG R Z=>R (.ret .none) G Z
abbrev BH:SW:=λG R Z=>R .next G Z
abbrev BJ(t:Ex)(b:Sxs)(o:Sxs)(d:SW)(m:SW):SW:=λG R Z=>cm T t G (Pt d m G R) Z
abbrev BI(t:Ex)(b:Sxs)(d:SW):SW:=Fg (cm T t) d
abbrev BO(D:List Nat)(c:It)(b:Sxs)(d:SW):SW:=λG R Z=>qB T c G (PL d D G R) Z
abbrev BN(x:Nat)(e:Ex)(b:Sxs)(d:SW):SW:=λG R Z=>cm T e G (PK d x G R) Z
abbrev BK(k:Ex)(m:Ex):SW:=λG _ Z=>cm T k G (PA (cm T m) G) Z
abbrev BQ:SW:=λG R Z=>R .next G Z
abbrev BR(e:Sx)(r:Sxs)(a:SW)(b:SW):SW:=λG R Z=>a G (nt b R) Z
abbrev qA:Sx→SW:=Sx.rec (motive_1:=λ_=>SW) (motive_2:=λ_=>SW) BC (BL T) (BE T) (BD T) (BP T) (BG T) BF BH (BJ T) (BI T) (BO T) (BN T) (BK T) BQ BR
abbrev aM:Sxs→SW:=Sxs.rec (motive_1:=λ_=>SW) (motive_2:=λ_=>SW) BC (BL T) (BE T) (BD T) (BP T) (BG T) BF BH (BJ T) (BI T) (BO T) (BN T) (BK T) BQ BR
end
abbrev aQ(Q:QV):QF:=λy _=>Fl.rec (motive:=λ_=>St→Prop) (λZ=>Q .none Z) (λ_=>False) (λ_=>False) (λv Z=>Q v Z) y
structure Fn where
 params:List Nat
 dflts:List V
 body:Sxs
instance:Nonempty Fn:=⟨⟨[],[],.nil⟩⟩
noncomputable def EQ(f:Fn)(L:List V):Option aA:=if L.length≤f.params.length∧f.params.length≤L.length+f.dflts.length then aa (f.params.zip (L++f.dflts.drop (L.length+f.dflts.length-f.params.length)))else ah
class Cl (T:cA) (fns:ag→Option Fn) (D:Nat→CS):Prop where
 enter:∀{n f d vs φ σ Q X},fns f=aa d→EQ d vs=aa φ→aM T d.body ⟨D,n,X,φ⟩ (aQ Q) σ→D (n+1) f vs σ Q X
end
section
open PySem PySem.W PyProof.Rows PySem.Calls PySem.Builtin.ObjectAttr PySem.SeqAt
noncomputable def q6:Bo→qp
 | .add=>.Add
 | .sub=>.Sub
 | .mul=>.Mult
 | .fdiv=>.FloorDiv
 | .mod=>.Mod
 | .pow=>.Pow
noncomputable def eM:Co→CmpOp
 | .eq=>.Eq
 | .ne=>.NotEq
 | .lt=>.Lt
 | .le=>.LtE
 | .gt=>.Gt
 | .ge=>.GtE
 | .is_=>.Is
 | .isNot=>.IsNot
 | .in_=>.In
 | .notIn=>.NotIn
theorem An{a:Int}(h:bj a=ae):zD a≤62:=by
 revert a;apply aP;generalize e0 _=a;intro h;unfold bj at h;have R:=of_decide_eq_true h;unfold zD;refine bW (cx ((a==0)=ae)) (λq=>?_) λq=>?_
 ·first|(rw[if_pos q];decide)|(split<;>lia)
 ·have:a.natAbs.log2<62:=(Nat.log2_lt (by simpa using q)).mpr (Nat.lt_of_lt_of_le R (by decide))
  first|(rw[if_neg q];exact this)|(split<;>lia)
section
variable{W:aK}{w:aJ}{J:ay}{n:Nat}{Z:St}{X:ak→St→Prop}{Q:V→St→Prop}
theorem du{t:String}{G:Gh}{h:ay}{r:ag}{m:Nat}{L:List ai}(H:HR W w G Z h)(a:G.im r=aa (eJ t L m)):∃o,h.get? r=aa o∧o.cls=.type t∧∃n,o.data=.seq L.toArray n:=⟨_,H.im _ _ a,rfl,m,rfl⟩
theorem aS.ZA{args:List V}{t:List ai→bI ai}{l:List V}(q:Q (.lst l) Z)
  (h:∀A G s O U Y,Fo A n→cW J A G→HR W w G Z s.heap→VRs G.im args O→
   (∀L u,VRs G.im l L→U (.ref s.heap.objs.size) {s with heap:=s.heap.push (my L),toks:=u})→au (av W w) A (t O) U Y s):aS W w J n Z args t Q X:=
 λA G s O F T H S U Y E d=>h A G s O U Y F T H S λL u g=>(H.Zy (o:=my L) rfl).casesOn λa b c=>E _ _ _ _ _ u a b (.lst c (g.Zw a.im)) q
theorem Ha{a b:Nat}{k l:Nat}(h:a=k)(B:b=l)(q:k+l≤1000):a+b≤eX:=aW (cN (h▸B▸rfl)) (aW q (by decide))
theorem aS.ZW{a b:List V}(Y:aO (a.length+b.length≤1000)=ae)(q:Q (.lst (a++b)) Z):aS W w J n Z [.lst a,.lst b] (t2 (gu .Add)) Q X:=
 .ZA q λA G s B M N F T H u k=>u.e2 λR e P I=>P.eL λr m L d U=>I.eL λD S c i O=>
  concat_meets ⟨_,H.im _ _ d,rfl⟩ ⟨_,H.im _ _ i,rfl⟩ noFill_list_add seq_list_add PySem.F.slot_list_add PySem.F.entry_list_add (PySem.F.args_list_add_2 _ _)
   (list_addW r D L.toArray c.toArray m S ah ah #[] #[] (Ha (dz.trans U.Zv) (dz.trans O.Zv) (of_decide_eq_true Y)))
   ⟨H.im _ _ d,H.im _ _ i,by have:=k (L++c) s.toks (U.Zy O);rw[show L.toArray++c.toArray=(L++c).toArray from Gv L c];exact this⟩
theorem KN(c:ai)(n:Nat):∀O:Array ai,tN (λU Y=>U++Y) O (bA n #[c])=O++(bA n c).toArray:=
 kO (motive:=λn=>∀O:Array ai,tN (λU Y=>U++Y) O (bA n #[c])=O++(bA n c).toArray) (λO=>(Array.append_empty).symm)
  (λn F O=>(F (O++ #[c])).trans (Array.append_assoc.trans (congrArg (O++ ·) (Gv [c] (bA n c))))) n
theorem aS.Z8{u:V}{b:Int}(Y:(aO (0≤b)&&aO (b≤1000))=ae)(q:Q (.lst (bA b.toNat u)) Z):aS W w J n Z [.lst [u],.int b] (t2 (gu .Mult)) Q X:=by
 refine bu (cj.mp Y) λR O=>?_;have R:=of_decide_eq_true R;have O:=of_decide_eq_true O;refine .ZA q λA G s z S B F T H p k=>p.e2 λD y I M=>M.eI λf=>I.eL λr m L d N=>?_;refine VRs.e1 (P:=λL=>G.im r=aa (eJ "list" L m)→au (av W w) A (t2 (gu .Mult) [.ref r,.int b f]) S B s) N (λc g d=>?_) d;have C:=H.im _ _ d;have j:(#[c]:Array ai).size*b.toNat=b.toNat:=Nat.one_mul _;have i:b.toNat≤1000:=Int.toNat_le.mpr O
 refine wpAny_binaryOp_repeat_ref (T:="list") (U:="int") (by decide) ⟨_,C,rfl⟩ (λK=>typeIs_int K b f) noFill_list_mul PySem.F.fills_int_mul zy repeat_list PySem.F.slot_int_index.lookup
   (nI zy (typeIs_int s b f) PySem.F.entry_int_rmul (PySem.F.args_int_rmul_2 _ _) (int___rmul___int_list b f r #[c] m)
    ⟨C,rfl,⟨_,C,rfl⟩,nI PySem.F.slot_list_mul ⟨_,C,rfl⟩ PySem.F.entry_list_mul (PySem.F.args_list_mul_2 _ _)
     (Qv r #[c] m b f (by simp[Gb];lia) (by rw[j];lia) (by
      simp only[zC,eX];rw[show((#[c]:Array ai).size:Nat)=1 from rfl];simp;lia))
     ⟨C,?_⟩⟩)
 have e:(tN (λt E=>t++E) #[] (bA (if(#[c]:Array ai).isEmpty=ae then 0 else b.toNat) #[c]))=(bA b.toNat c).toArray:=(KN c b.toNat #[]).trans Array.empty_append;have v:=k (bA b.toNat c) s.toks (VRs.Zz g _)
 first
  |(exact e▸v)
  |exact e▸v
theorem HU{a b:Int}(R:bj a=ae)(H:0≤b)(j:b≤100):(zD a:Int)*b≤2^27:=tQ (Int.mul_le_mul_of_nonneg_right (Int.ofNat_le.mpr (An R)) H) (tQ (Int.mul_le_mul_of_nonneg_left j (by decide:(0:Int)≤(62:Nat))) (by decide))
theorem aS.ZU{o:Bo}{x y z:V}(h:cE o x y=aa z)(q:Q z Z):aS W w J n Z [x,y] (t2 (gu (q6 o))) Q X:=
 bS.casesOn (motive:=λo x y z N=>Q z Z→aS W w J n Z [x,y] (t2 (gu (q6 o))) Q X) (ES h) (λa b q=>.ZI q) (λa b O q=>.ZJ (aW (of_decide_eq_true O) (by decide)) q) (λa b O q=>.ZW O q) (λa b q=>.ZS q)
  (λa b O q=>.ZN (.of_left (aW (An (cj.mp O).1) (by decide))) q) (λu b O q=>.Z8 O q)
  (λa b i q=>.ii (v:=.int (a.fdiv b)) (λA s t u U Y k=>floordiv_int (λq=>i (.inl q)) (k _ _ λN=>.int _ _) (.inl (PyProof.noPylong_small (Nat.lt_of_not_le λq=>i (.inr q))))) q) (λa b i q=>.ZM i q)
  (λa b O q=>.ZQ (of_decide_eq_true (cj.mp (cj.mp O).1).2) (HU (cj.mp (cj.mp O).1).1 (of_decide_eq_true (cj.mp (cj.mp O).1).2) (of_decide_eq_true (cj.mp O).2)) q) q
end
section
variable{W:aK}{w:aJ}{K:aY}{J:ay}{n:Nat}{Z:St}{X:ak→St→Prop}{Q:V→St→Prop}
structure fW(h:ay)(Y:ai)(m:Nat)(d:bk):Prop where
 rd:∃as,Reads h Y d as
 lay:d.canLay0=ae
 dp:d.depth≤m
structure tf(h:ay)(O:List ai)(m:Nat)(c:List bk):Prop where
 rd:∃as,ReadsAll h O c as
 lay:PyData.canLayAll0 c=ae
 dp:PyData.depthAll c≤m
theorem jw{G:Gh}{h:ay}{f:V→Option bk}{m:Nat}(I:∀v Y d,VR G.im v Y→f v=aa d→fW h Y m d){l:List V}{O:List ai}(x:VRs G.im l O):∀c,fk f l=aa c→tf h O m c:=
 x.Zx (M:=λl O=>∀c,fk f l=aa c→tf h O m c) (λc e=>ez (tf h [] m) e ⟨⟨_,.nil⟩,rfl,gy _⟩)
  λ{v r l O} a _ F c e=>lr e λd b R H e=>ez (tf h (r::O) m) e (aE (I v r d a R).rd λB U=>aE (F b H).rd λC S=>⟨⟨_,.cons U S⟩,cj.mpr ⟨(I v r d a R).lay,(F b H).lay⟩,Nat.max_le.mpr ⟨(I v r d a R).dp,(F b H).dp⟩⟩)
theorem eA{G:Gh}{h:ay}(H:HR W w G Z h)(m:Nat):∀(v:V) (Y:ai) (d:bk),VR G.im v Y→bP Z m v=aa d→fW h Y m d:=
 kO (motive:=λm=>∀(v:V) (Y:ai) (d:bk),VR G.im v Y→bP Z m v=aa d→fW h Y m d) (λN N N N e=>nq e)
  (λm F v Y d g e=>V.casesOn (motive_1:=λv=>VR G.im v Y→DR Z (bP Z m) v=aa d→fW h Y (m+1) d) v (λx e=>x.eN (ez (fW h .none (m+1)) e ⟨⟨_,.none⟩,rfl,gy _⟩))
   (λb x e=>x.eB (ez (fW h (.bool b) (m+1)) e ⟨⟨_,.bool b⟩,rfl,gy _⟩)) (λi x e=>x.eI λt=>ez (fW h (.int i t) (m+1)) e ⟨⟨_,.int i t⟩,rfl,gy _⟩)
   (λy x e=>x.eS λt=>cL (fW h (.str y t) (m+1)) e λq=>⟨⟨_,.str y t⟩,q,gy _⟩)
   (λl x e=>x.eT λr n R I U=>iL (fW h (.ref r) (m+1)) e λc S=>aE (jw F U c S).rd λu O=>⟨⟨_,.tuple (H.im _ _ I) rfl rfl O⟩,(jw F U c S).lay,qs (jw F U c S).dp⟩)
   (λl x e=>x.eL λr n R I U=>iL (fW h (.ref r) (m+1)) e λc S=>aE (jw F U c S).rd λu O=>⟨⟨_,.list (H.im _ _ I) rfl rfl O⟩,(jw F U c S).lay,qs (jw F U c S).dp⟩)
   (λa x e=>x.eO (rz (λo=>Z a=o→fW h (.ref a) (m+1) d) e (λl e C=>iL (fW h (.ref a) (m+1)) e λc S=>aB (H.ZD C) λR L M=>bH L λE j P z=>aE z λf B=>
    aE (jw F M c S).rd λu O=>⟨⟨_,.list j P B O⟩,(jw F M c S).lay,qs (jw F M c S).dp⟩) rfl)) g e) m
theorem qU{Y:ai}{h:ay}{d:bk}(x:fW h Y 8 d):shaped d=ae:=cj.mpr ⟨x.lay,decide_eq_true (aW x.dp (by decide))⟩
theorem qC{u n k:Nat}(h:u+20*n≤9000)(c:9000+k<9900):u+k<ig:=fL (tJ (aW (jL u (20*n)) h) k) c
theorem Fo.Zw{A:aD}{m:Nat}(F:Fo A m):A.units+64<ig:=qC F.un (by decide)
theorem rM{G:Gh}{h:ay}{x:V}{p:ai}{l:List V}{P:ai→Prop}(H:HR W w G Z h)(g:VR G.im x p)(e:eg Z x=aa l)(c:∀r L,h.IsList r L.toArray→VRs G.im l L→P (.ref r)):P p:=
 jp (λx=>VR G.im x p→P p) e (λN h=>nq h) (λi e g=>g.eL λr m L d U=>c r L (du H d) (aI e▸U))
  (λa e g=>g.eO (rz (λo=>Z a=o→P (.ref a)) e (λO e C=>aB (H.ZD C) λL A b=>c a L A (aI e▸b)) rfl)) g
theorem aS.Zv{x y:V}{f:ai→ai→bI ai}{b:Bool}(q:Q (.bool b) Z)
  (h:∀A G s p E O U,Fo A n→cW J A G→HR W w G Z s.heap→VR G.im x p→VR G.im y E→(∀u,O (.bool b) {s with toks:=u})→au (av W w) A (f p E) O U s):aS W w J n Z [x,y] (t2 f) Q X:=
 .Zy λA G s m e O U F T H P I k=>h A G s m e O U F T H P I λu=>k _ _ u (.bool b) q
theorem kX{O:Type} [DecidableEq O](l:List (O×ai))(k:O):valueAt l k=l.lookup k:=
 bc (motive:=λl=>valueAt l k=l.lookup k) rfl (λp r F=>by
  rw[fj];refine bW (cx (k=p.1)) (λq=>?_) λq=>?_
  ·unfold valueAt
   rw[beq_iff_eq.mpr q];rw[List.find?_cons];rw[decide_eq_true q.symm];rfl
  ·unfold valueAt
   rw[beq_false_of_ne q];rw[List.find?_cons];rw[decide_eq_false (λz=>q z.symm)];exact F) l
theorem bR.Zy{O:Type} [DecidableEq O]{f:ag→Option aC}{l:List (O×V)}{U:List (O×ai)}(x:bR f l U)(k:O):(U.lookup k).isSome=(l.lookup k).isSome:=by
 cases q:l.lookup k with
 |none=>rw[(x.Zw k).1 q];rfl
 |some v=>exact aB ((x.Zw k).2 v q) λr E N=>by rw[E];rfl
theorem Cx.Zv(C:Cx K J){A:aD}{G:Gh}{h:ay}{a:ag}{o:O}(T:cW J A G)(H:HR W w G Z h)(e:Z a=aa o):(a==sysModules)=aj:=
 aE C.sm λt u=>beq_false_of_ne λq=>aG ((H.om e).1.symm.trans (q▸T.t _ _ u))
theorem Cr{t:TK}{x:V}(h:lG t x=ae):x=fM t:=
 TK.rec (motive_1:=λt=>∀x,lG t x=ae→x=fM t) (motive_2:=λl=>∀D:List V,wV l D=ae→D=qI l)
  (λy x=>V.casesOn (motive_1:=λx=>lG (.s y) x=ae→x=fM (.s y)) x (λh=>aF h) (λN h=>aF h) (λN h=>aF h) (λs h=>congrArg V.str (beq_iff_eq.mp h)) (λN h=>aF h) (λN h=>aF h) λN h=>aF h)
  (λl F x=>V.casesOn (motive_1:=λx=>lG (.t l) x=ae→x=fM (.t l)) x (λh=>aF h) (λN h=>aF h) (λN h=>aF h) (λN h=>aF h) (λD h=>congrArg V.tup (F D h)) (λN h=>aF h) λN h=>aF h)
  (λD h=>br (motive:=λD=>wV [] D=ae→D=qI []) D (λN=>rfl) (λN N h=>aF h) h)
  (λk l a b D h=>br (motive:=λD=>wV (k::l) D=ae→D=qI (k::l)) D (λh=>aF h) (λx r h=>a x (cj.mp h).1▸b r (cj.mp h).2▸rfl) h) t x h
theorem oW{x:V}{k:Bool}(e:gj x=aa k):x=fM (cS k):=
 bW (cx (lG (cS aj) x=ae)) (λc=>aI ((if_pos c).symm.trans e)▸Cr c) λc=>cL (λk=>x=fM (cS k)) ((if_neg c).symm.trans e) Cr
theorem KD.Zv{G:Gh}{h:ay}{a:ag}{D:List (Bool×ag×ai)}(H:HR W w G Z h)(z:KD W w G.im h a D):h.DictOfH (kY W w) a D:=by
 revert W w Z G h a D;apply dQ;generalize e6 _=W,e5 _=w,e4 _=Z,e3 _=G,e2 _=h,e1 _=a,e0 _=D;intro H z;exact z.casesOn λo P r a b c d e f=>⟨o,P,r,a,b,c,d,λx O=>(e x O).tk H.im,f⟩
theorem HR.ZM{G:Gh}{h:ay}{a:ag}{e:Option (Bool×V)}(H:HR W w G Z h)(q:Z a=aa (.kdict e)):∃D,KD W w G.im h a D∧KE G.im e D:=aE (H.or q) λN y=>y
theorem Fo.Zv{A:aD}{m:Nat}(F:Fo A m):(kY W w).room A.in1:=fL (cN (qv A.units 1 20)) (qC (k:=21) F.un (by decide))
theorem tZ{G:Gh}{k:Bool}{p:ai}(g:VR G.im (fM (cS k)) p):∃r,p=.ref r:=bJ (motive:=λk=>VR G.im (fM (cS k)) p→∃r,p=.ref r) k (λg=>VR.eT g λr N N N N=>⟨r,rfl⟩) (λg=>VR.eT g λr N N N N=>⟨r,rfl⟩) g
theorem Vj{k:Bool}:atKey ([]:List (Bool×ag×ai)) k=ah:=rfl
theorem yM{k H:Bool}{r:ag}{v:ai}:atKey [(H,r,v)] k=if H=k then aa (r,v)else ah:=by cases H<;>cases k<;>rfl
end
section
variable{W:aK}{w:aJ}{K:aY}{J:ay}{n:Nat}{Z:St}{X:ak→St→Prop}{Q:V→St→Prop}
theorem aS.ZX{x y:V}{b:Bool}(h:Mine.Internal.iP Z x y=aa b)(q:Q (.bool b) Z):aS W w J n Z [x,y] (t2 (bB .Eq)) Q X:=
 lr h λd e S O z=>.Zv q λA G s p E B L F T H P I k=>aE (eA H 8 _ _ _ P S).rd λM U=>aE (eA H 8 _ _ _ I O).rd λC Y=>
  eq_dataH U Y (qU (eA H 8 _ _ _ P S)) (qU (eA H 8 _ _ _ I O)) F.Zw (aI z▸k s.toks)
theorem aS.Z4{x y:V}{b:Bool}(h:Mine.Internal.iP Z x y=aa b)(q:Q (.bool (!b)) Z):aS W w J n Z [x,y] (t2 (bB .NotEq)) Q X:=
 lr h λd e S O z=>.Zv q λA G s p E B L F T H P I k=>aE (eA H 8 _ _ _ P S).rd λM U=>aE (eA H 8 _ _ _ I O).rd λC Y=>
  ne_dataH U Y (qU (eA H 8 _ _ _ P S)) (qU (eA H 8 _ _ _ I O)) F.Zw ((aI z).symm▸k s.toks)
theorem Fo.u0{A:aD}{m:Nat}(F:Fo A m):A.units<ig:=qC (k:=0) F.un (by decide)
theorem aS.ZL{x y:V}{b:Bool}(h:jZ Z x y=aa b)(q:Q (.bool b) Z):aS W w J n Z [x,y] (t2 (bB .Eq)) Q X:=by
 revert W w J n Z X Q x y b;apply fD;generalize e9 _=W,e8 _=w,e7 _=J,e6 _=n,e5 _=Z,e4 _=X,e3 _=Q,e2 _=x,e1 _=y,e0 _=b;intro h q
 exact
   lr h λl m R O z=>um (λl=>eg Z x=aa l→aS W w J n Z [x,y] (t2 (bB .Eq)) Q X) z (λu z R=>um (λm=>eg Z y=aa m→aS W w J n Z [x,y] (t2 (bB .Eq)) Q X) z (λv z O=>
    rB (λu=>eg Z x=aa [u]→aS W w J n Z [x,y] (t2 (bB .Eq)) Q X) z (λa z R=>rB (λv=>eg Z y=aa [v]→aS W w J n Z [x,y] (t2 (bB .Eq)) Q X) z (λi z O=>cL (λb=>Q (.bool b) Z→aS W w J n Z [x,y] (t2 (bB .Eq)) Q X) z (λVv q=>by
     subst Vv
     exact .Zv q λA G s p E Y S F T H C d k=>rM (P:=λp=>au (av W w) A (bB .Eq p E) Y S s) H C R λU c I t=>rM (P:=λE=>au (av W w) A (bB .Eq (.ref U) E) Y S s) H d O λB g M f=>
      VRs.e1 (P:=λc=>s.heap.IsList U c.toArray→au (av W w) A (bB .Eq (.ref U) (.ref B)) Y S s) t (λo D I=>VRs.e1 (P:=λg=>s.heap.IsList B g.toArray→au (av W w) A (bB .Eq (.ref U) (.ref B)) Y S s) f (λL r M=>
       VR.eO (P:=λo=>s.heap.IsList U [o].toArray→au (av W w) A (bB .Eq (.ref U) (.ref B)) Y S s) D (λI=>VR.eO (P:=λL=>s.heap.IsList B [L].toArray→au (av W w) A (bB .Eq (.ref U) (.ref B)) Y S s) r (λM=>
        eq_listAt (e:=λN=>ae) I M rfl F.u0 (λj R O=>qu (motive:=λj=>∀(R:j<([.ref a].toArray:Array ai).size) (O:j<([.ref a].toArray:Array ai).size),EqAt A.in1 s ([.ref a].toArray:Array ai)[j] ([.ref a].toArray:Array ai)[j] ae) j (λN N=>EqAt.same _) (λN h=>absurd (Nat.lt_of_succ_lt_succ h) (Ge _)) R O) (k s.toks)) M) I) M) I) q) O) R) O) R
structure gN(W:aK)(w:aJ)(A:aD)(s:aw)(O:ai→aw→Prop)(b:Bool)(p g:ai):Prop where
 i:∀RQ:ai→aw→Prop,(∀u,RQ (.bool b) {s with toks:=u})→au (av W w) A (bB .In p g) RQ O s
 n:∀RQ:ai→aw→Prop,(∀u,RQ (.bool !b) {s with toks:=u})→au (av W w) A (bB .NotIn p g) RQ O s
theorem rY{A:aD}{m d O:Nat}(F:Fo A m)(h:d≤8):A.units+1+min O d<ig:=fL (aW (cN (qv _ _ _)) (iy (iy (aW (Gf _ _) h) 1) _)) (qC (k:=9) F.un (by decide))
theorem Cz{A:aD}{G:Gh}{s:aw}{Y:ai→aw→Prop}{x c:V}{p g:ai}{b:Bool}{m:Nat}(F:Fo A m)(H:HR W w G Z s.heap)(P:VR G.im x p)(v:VR G.im c g)(h:jt (bP Z 8 c) (bP Z 8 x)=aa b):gN W w A s Y b p g:=
 lr h λd e I O z=>aE (eA H 8 _ _ _ P O).rd λC S=>PyData.casesOn (motive_1:=λd=>fW s.heap g 8 d→(PyData.casesOn d ah (λN=>ah) (λN=>ah) (λN=>ah) (λf=>aa (f.any λy=>aZ y e)) (λf=>aa (f.any λy=>aZ y e)) λN=>ah:Option Bool)=aa b→gN W w A s Y b p g) d
  (λN z=>nq z) (λN N z=>nq z) (λN N z=>nq z) (λN N z=>nq z)
  (λf D z=>aE D.rd λL U=>ez (λb=>gN W w A s Y b p g) z ⟨λB k=>in_list_reads U S D.lay (eA H 8 _ _ _ P O).lay (rY F (eA H 8 _ _ _ P O).dp) (k s.toks),λB k=>notIn_list_reads U S D.lay (eA H 8 _ _ _ P O).lay (rY F (eA H 8 _ _ _ P O).dp) (k s.toks)⟩)
  (λf D z=>aE D.rd λL U=>ez (λb=>gN W w A s Y b p g) z ⟨λB k=>in_tuple_reads U S D.lay (eA H 8 _ _ _ P O).lay (rY F (eA H 8 _ _ _ P O).dp) (k s.toks),λB k=>notIn_tuple_reads U S D.lay (eA H 8 _ _ _ P O).lay (rY F (eA H 8 _ _ _ P O).dp) (k s.toks)⟩)
  (λN N z=>nq z) (eA H 8 _ _ _ v I) z
theorem w7{O:Type} [DecidableEq O]{y:ja W w O}{A:aD}{s:aw}{V:ai→aw→Prop}{a:ag}{x:ai}{I:O}{b:Bool}{M:List (O×ai)}(U:y.is I x=ae)(Y:(a==sysModules)=aj)(S:s.heap.MapOf y a (valueAt M))(i:(M.lookup I).isSome=b):gN W w A s V b x (.ref a):=
 ⟨λB q=>wpAny_in_of (knd:=y) (k:=I) U Y S (by rw[kX];rw[i];exact q _),λB q=>wpAny_notIn_of (knd:=y) (k:=I) U Y S (by rw[kX];rw[i];exact q _)⟩
theorem EX{O:ag→Option aC}{e:Option (Bool×V)}{D:List (Bool×ag×ai)}{k:Bool}:Mine.Internal.KE O e D→(atKey D k).isSome=mG e k:=
 a9 (motive:=λe=>Mine.Internal.KE O e D→(atKey D k).isSome=mG e k) e (λh=>by rw[show D=[]from h];rfl) λp h=>dO h λr Y e N=>by
  refine qF e ?_;rw[yM];refine(?_:(if p.1=k then aa (r,Y)else ah).isSome=aO (p.1=k));cases p.1<;>cases k<;>rfl
theorem CA{A:aD}{G:Gh}{s:aw}{U:ai→aw→Prop}{x c:V}{p g:ai}{b:Bool}{m:Nat}(C:Cx K J)(F:Fo A m)(T:cW J A G)(H:HR W w G Z s.heap)(P:VR G.im x p)(v:VR G.im c g)(h:hU Z x c=aa b):gN W w A s U b p g:=by
 revert W w K J Z A G s U x c p g b m;apply aX;generalize aT _=W,aL _=w,e9 _=K,e8 _=J,e7 _=Z,e6 _=A,e5 _=G,e4 _=s,e3 _=U,e2 _=x,e1 _=c,e0 _=p;apply bY;generalize e2 _=g,e1 _=b,e0 _=m;intro C F T H P v h
 exact
   jp (λc=>VR G.im c g→gN W w A s U b p g) h (λl e v=>Cz F H P v e) (λl e v=>Cz F H P v e) (λa e v=>v.eO (iJ (λo=>Z a=o→gN W w A s U b p (.ref a)) e (λN e=>nq e)
    (λl e O=>cP (λx=>VR G.im x p→gN W w A s U b p (.ref a)) e (λi e P=>P.eI λt=>aB (H.Zz O) λM S Y=>w7 (y:=dI W w) (I:=i) (kF _ _ _ _) (C.Zv T H O) S.mapOf ((Y.Zy i).trans (aI e))) P)
    (λl e O=>Bc (λx=>VR G.im x p→gN W w A s U b p (.ref a)) e (λi e P=>P.eS λt=>aB (H.ZN O) λM S Y=>w7 (y:=iY W w) (I:=i) (tq _ _ _ _) (C.Zv T H O) S.mapOf ((Y.Zy i).trans (aI e))) P)
    (λR e O=>iL (λb=>gN W w A s U b p (.ref a)) e λj Y=>aE (tZ (oW Y▸P)) λr I=>aB (H.ZM O) λD z B=>by
     subst I;have f:=VR.tk H.im (oW Y▸P);exact⟨λL q=>wpAny_in_heap (knd:=kY W w) (k:=j) F.Zv f (C.Zv T H O) (z.Zv H) (by rw[EX B];exact q _),λL q=>wpAny_notIn_heap (knd:=kY W w) (k:=j) F.Zv f (C.Zv T H O) (z.Zv H) (by rw[EX B];exact q _)⟩)
    (λu l e O=>cP (λx=>VR G.im x p→gN W w A s U b p (.ref a)) e (λi e P=>P.eI λt=>aB (H.ZE O) λM S Y=>w7 (y:=dI W w) (I:=i) (kF _ _ _ _) (C.Zv T H O) S.dictOf.mapOf ((Y.Zy i).trans (aI e))) P) rfl)) v
structure nh(b:Bool)(O E:ai):Prop where
 p:plainIs O E=ae
 e:(O==E)=b
theorem Cs{O:ag→Option aC}{v:V}{r:ai}(h:VR O v r):iN v=ae→r=.none:=VR.casesOn (motive_1:=λv r N=>iN v=ae→r=.none) h (λN=>rfl) (λN h=>aF h) (λN N h=>aF h) (λN N h=>aF h) (λN h=>aF h) (λN N h=>aF h) λN N h=>aF h
theorem Ct{O:ag→Option aC}{v:V}{r:ai}(h:VR O v r):nh (iN v) r .none∧nh (iN v) .none r:=
 VR.casesOn (motive_1:=λv r N=>nh (iN v) r .none∧nh (iN v) .none r) h ⟨⟨rfl,rfl⟩,rfl,rfl⟩ (λN=>⟨⟨rfl,rfl⟩,rfl,rfl⟩) (λN N=>⟨⟨rfl,rfl⟩,rfl,rfl⟩) (λN N=>⟨⟨rfl,rfl⟩,rfl,rfl⟩) (λN=>⟨⟨rfl,rfl⟩,rfl,rfl⟩) (λN N=>⟨⟨rfl,rfl⟩,rfl,rfl⟩) λN N=>⟨⟨rfl,rfl⟩,rfl,rfl⟩
theorem rW{G:Gh}{x y:V}{p E:ai}{b:Bool}(h:gk x y=aa b)(O:VR G.im x p)(l:VR G.im y E):nh b p E:=
 bW (cx (iN y=ae)) (λc=>Cs l c▸aI ((if_pos c).symm.trans h)▸(Ct O).1) λc=>cL (λb=>nh b p E) ((if_neg c).symm.trans h) λd=>Cs O d▸(Bool.eq_false_iff.mpr c)▸(Ct l).2
theorem DH{l:List V}{L:List ai}(h:L.length=l.length):(l.isEmpty=ae∧L=[])∨(l.isEmpty=aj∧(L.toArray.size !=([]:List ai).toArray.size)=ae):=
 br (motive:=λl=>L.length=l.length→(l.isEmpty=ae∧L=[])∨(l.isEmpty=aj∧(L.toArray.size !=([]:List ai).toArray.size)=ae)) l (λh=>.inl ⟨rfl,zS h⟩)
  (λa r h=>.inr ⟨rfl,bne_iff_ne.mpr λq=>Nat.noConfusion (h.symm.trans (dz.symm.trans q))⟩) h
theorem aS.ZY{x y:V}{b:Bool}(h:cM Z x y=aa b)(q:Q (.bool b) Z):aS W w J n Z [x,y] (t2 (bB .Eq)) Q X:=
 mx h λl C z=>oM (λy=>aS W w J n Z [x,y] (t2 (bB .Eq)) Q X) z λm z=>br (motive:=λm=>(br m (aa l.isEmpty) λN N=>ah:Option Bool)=aa b→aS W w J n Z [x,.lst m] (t2 (bB .Eq)) Q X) m (λz=>by
  have z:=aI z;subst z;refine .Zv q λA G s p E U Y F T H B I k=>rM (P:=λp=>au (av W w) A (bB .Eq p E) U Y s) H B C λM c v d=>I.eL λr g S L R=>?_;refine VRs.eN (P:=λS=>G.im r=aa (eJ "list" S g)→au (av W w) A (bB .Eq (.ref M) (.ref r)) U Y s) R (λL=>(DH d.Zv).elim (λO=>?_) λO=>?_) L
  ·rw[O.1]at k
   rw[O.2]at v;exact eq_listAt (e:=λN=>ae) v (du H L) rfl F.u0 (λj u t=>absurd u (Ge _)) (k s.toks)
  ·rw[O.1]at k
   exact eq_list_lengthsAt v (du H L) O.2 F.u0 (k s.toks)) (λN N z=>nq z) z
theorem aS.Z5{x y:V}{b:Bool}(h:cM Z x y=aa b)(q:Q (.bool (!b)) Z):aS W w J n Z [x,y] (t2 (bB .NotEq)) Q X:=
 mx h λl C z=>oM (λy=>aS W w J n Z [x,y] (t2 (bB .NotEq)) Q X) z λm z=>br (motive:=λm=>(br m (aa l.isEmpty) λN N=>ah:Option Bool)=aa b→aS W w J n Z [x,.lst m] (t2 (bB .NotEq)) Q X) m (λz=>by
  have z:=aI z;subst z;refine .Zv q λA G s Y E S B F T H d f k=>rM (P:=λY=>au (av W w) A (bB .NotEq Y E) S B s) H d C λU c v o=>f.eL λr a I L e4=>?_;refine VRs.eN (P:=λI=>G.im r=aa (eJ "list" I a)→au (av W w) A (bB .NotEq (.ref U) (.ref r)) S B s) e4 (λL=>?_) L;have e:=H.im _ _ L;refine bH (v) λp u M t=>?_;obtain⟨Vv,D,i,R⟩:=p;obtain⟨n,g⟩:=t;simp only at M g;subst M g;refine(DH o.Zv).elim (λO=>?_) λO=>?_
  ·replace k:=O.1▸k
   obtain⟨_,O⟩:=O;subst O
   exact richCompare_meets_room (op:=.NotEq) ⟨_,u,rfl⟩ ⟨_,e,rfl⟩ PySem.F.slot_list_ne PySem.F.entry_list_ne (PySem.F.args_list_ne_2 _ _) (list_neAt U r _ _ n _ D ah R #[] rfl (λN=>ae))
    ⟨u,e,λj h1 h2=>absurd h1 (Ge _),(λx=>nomatch x),k s.toks⟩ F.u0
  ·replace k:=O.1▸k
   exact richCompare_meets_room (op:=.NotEq) ⟨_,u,rfl⟩ ⟨_,e,rfl⟩ PySem.F.slot_list_ne PySem.F.entry_list_ne (PySem.F.args_list_ne_2 _ _) (list_ne_lengthsAt U r c.toArray _ n _ D ah R #[] O.2)
    ⟨u,e,(λx=>nomatch x),k s.toks⟩ F.u0) (λN N z=>nq z) z
theorem yi{O:Type}{o:Option O}{d z:Option Bool}{f:O→Option Bool}{b:Bool}{P:Prop}(h:(a9 o d f:Option Bool)=aa b)(n:d=aa b→P)(s:∀x,o=aa x→f x=aa b→P):P:=
 a9 (motive:=λH=>o=H→(a9 H d f:Option Bool)=aa b→P) o (λN h=>n h) (λx e h=>s x e h) rfl h
theorem aS.ZB{o:Co}{x y:V}{b:Bool}(C:Cx K J)(h:bD o Z x y=aa b)(q:Q (.bool b) Z):aS W w J n Z [x,y] (t2 (bB (eM o))) Q X:=
 Co.casesOn (motive_2:=λo=>bD o Z x y=aa b→aS W w J n Z [x,y] (t2 (bB (eM o))) Q X) o
  (λh=>yi (z:=ah) h (λh=>yi (z:=ah) h (λh=>.ZL h q) λc e h=>.ZX e (ez (λb=>Q (.bool b) Z→Q (.bool c) Z) h id q)) λc e h=>.ZY e (ez (λb=>Q (.bool b) Z→Q (.bool c) Z) h id q))
  (λh=>yi (z:=ah) h (λh=>iL (λb=>Q (.bool b) Z→aS W w J n Z [x,y] (t2 (bB .NotEq)) Q X) h (λc e q=>.Z4 e q) q) λc e h=>.Z5 e (ez (λb=>Q (.bool b) Z→Q (.bool !c) Z) h id q))
  (λh=>cP (λx=>aS W w J n Z [x,y] (t2 (bB .Lt)) Q X) h λa h=>cP (λy=>aS W w J n Z [.int a,y] (t2 (bB .Lt)) Q X) h λc h=>.Z3 (aI h▸q))
  (λh=>cP (λx=>aS W w J n Z [x,y] (t2 (bB .LtE)) Q X) h λa h=>cP (λy=>aS W w J n Z [.int a,y] (t2 (bB .LtE)) Q X) h λc h=>.Z1 (aI h▸q))
  (λh=>cP (λx=>aS W w J n Z [x,y] (t2 (bB .Gt)) Q X) h λa h=>cP (λy=>aS W w J n Z [.int a,y] (t2 (bB .Gt)) Q X) h λc h=>.Z0 (aI h▸q))
  (λh=>cP (λx=>aS W w J n Z [x,y] (t2 (bB .GtE)) Q X) h λa h=>cP (λy=>aS W w J n Z [.int a,y] (t2 (bB .GtE)) Q X) h λc h=>.ZZ (aI h▸q))
  (λh=>.Zv q λA G s p E O U F T H P I k=>wpAny_is_plain (rW h P I).p ((rW h P I).e.symm▸k s.toks))
  (λh=>iL (λb=>Q (.bool b) Z→aS W w J n Z [x,y] (t2 (bB .IsNot)) Q X) h (λc e q=>.Zv q λA G s p E O U F T H P I k=>wpAny_isNot_plain (rW e P I).p (by rw[(rW e P I).e];exact k s.toks)) q)
  (λh=>.Zv q λA G s p E O U F T H P I k=>(CA C F T H P I h).i O k)
  (λh=>iL (λb=>Q (.bool b) Z→aS W w J n Z [x,y] (t2 (bB .NotIn)) Q X) h (λc e q=>.Zv q λA G s p E O U F T H P I k=>(CA C F T H P I e).n O k) q) h
end
theorem Ao{a:Int}(h:bj a=ae):a.natAbs<4611686018427387904:=by
 unfold bj at h;exact of_decide_eq_true h
theorem gY{a:Int}(h:bj a=ae): -(2^62)<a∧a<2^62:=⟨Int.neg_lt_of_neg_lt (zU (Int.natAbs_neg a▸Int.le_natAbs) (kT.mpr (Ao h))),zU Int.le_natAbs (kT.mpr (Ao h))⟩
theorem CE{l:List V}{i:Int}{v:V}{P:Prop}(h:cg l i=aa v)(p:bj i=ae→0≤i→l[i.toNat]? =aa v→P)(m:bj i=ae→i<0→0≤l.length+i→l[(l.length+i).toNat]? =aa v→P):P:=by
 revert l i v P;apply dM;generalize e3 _=l,e2 _=i,e1 _=v,e0 _=P;intro h p m
 exact
   bW (cx (bj i=ae)) (λc=>bW (cx (0≤i)) (λd=>p c d ((if_pos d).symm.trans ((if_pos c).symm.trans h))) λd=>bW (cx (0≤l.length+i))
    (λe=>m c (Int.lt_of_not_ge d) e ((if_pos e).symm.trans ((if_neg d).symm.trans ((if_pos c).symm.trans h)))) λe=>aG ((if_neg e).symm.trans ((if_neg d).symm.trans ((if_pos c).symm.trans h)))) λc=>aG ((if_neg c).symm.trans h)
theorem pf{f:ag→Option aC}{l:List V}{L:List ai}{j:Nat}{v:V}{P:Prop}(h:VRs f l L)(e:l[j]? =aa v)(c:∀r,L.toArray[j]? =aa r→VR f v r→P):P:=aB (h.ZC j v e) λr a b=>c r (Gu.trans a) b
theorem qT{f:ag→Option aC}{l:List V}{L:List ai}(h:VRs f l L):(L.toArray.size:Int)=l.length:=congrArg Int.ofNat (dz.trans h.Zv)
theorem Bj{a b:Int}(h:0≤a+b): -a≤b:=by lia
theorem uh{a:Int}(h:a<2^62):a<2^63:=Int.lt_trans h (by decide)
theorem Bl{a:Int}(h: -(2^62)<a): -(2^63)≤a:=tR (Int.lt_trans (by decide) h)
section
variable{W:aK}{w:aJ}{K:aY}{J:ay}{n:Nat}{Z:St}{X:ak→St→Prop}{Q:V→St→Prop}
theorem CN{A:aD}{G:Gh}{s:aw}{l:List V}{r:ag}{L:List ai}{k:Int}{t:Tok}{z:V}{U S:ai→aw→Prop}
  (C:s.heap.IsList r L.toArray)(g:VRs G.im l L)(h:cg l k=aa z)(q:∀Y,VR G.im z Y→U Y s):au (av W w) A (i6 (.ref r) (.int k t)) U S s:=
 CE h (λO x e=>pf g e λY E f=>wpAny_getItem_list C x (uh (gY O).2) E (q Y f))
  λO x j e=>pf g e λY E f=>wpAny_getItem_list_neg C x (by rw[qT g];exact Bj j) (Bl (gY O).1) (by rw[qT g];rw[Int.add_comm];exact E) (q Y f)
theorem Hc{A:aD}{G:Gh}{s:aw}{v b:ar}{l:List V}{r:ag}{m:Nat}{L:List ai}{i:Int}{t:Tok}{z:V}{I M:ai→aw→Prop}(N:∀o i,nD b aj o i=nF [o,i] (i6 o i))(H:HR W w G Z s.heap)
  (d:G.im r=aa (eJ "tuple" L m))(S:VRs G.im l L)(h:cg l i=aa z)(k:∀B u,VR G.im z B→I B {s with toks:=u}):au (av W w) A (f7 v b (.ref r) (.int i t)) I M s:=by
 have P:IsTup s.heap r L.toArray:=du H d
 have U:∀C,bj i=ae→l[C]? =aa z→seqIndex? i L.toArray.size=aa C→au (av W w) A (f7 v b (.ref r) (.int i t)) I M s:=λC O R F=>pf S R λB E f=>
  kN P.typeIs zF.lookup (getItem_tuple (j:=C) P (Bl (gY O).1) (uh (gY O).2) F E (k B s.toks f)) (N _ _)
 refine CE h (λO x e=>U _ O e ?_) λO x g e=>U _ O e ?_
 ·have q:i.toNat<l.length:=(jN.mp e).1
  unfold seqIndex?;have Y:L.toArray.size=l.length:=dz.trans S.Zv;simp only[Y,if_neg (Int.not_lt.mpr x)];rw[if_pos (by simp only[Bool.and_eq_true,decide_eq_true_eq];lia)]
 ·rw[seqIndex_neg x (by rw[qT S];exact Bj g),qT S,Int.add_comm]
theorem Hd{A:aD}{s:aw}{v b:ar}{C:ak}{g:Int}{a d:Tok}{z:V}{O U:ai→aw→Prop}(B:∀o g,nD b aj o g=nF [o,g] (i6 o g))
  (h:(if g=0 then(C.cps[0]?).map λc=>V.str ⟨#[c]⟩else ah)=aa z)(k:∀Y u,(∀S,VR S z Y)→O Y {s with toks:=u}):au (av W w) A (f7 v b (.str C a) (.int g d)) O U s:=
 bW (cx (g=0)) (λq=>iL (λz=>(∀Y u,(∀S,VR S z Y)→O Y {s with toks:=u})→au (av W w) A (f7 v b (.str C a) (.int g d)) O U s) ((if_pos q).symm.trans h) (λc m k=>by
  refine qF q ?_;have L:0<C.length:=(Qz.mp m).1;have e:=item_meets (x:=C) (i:=0) (by decide) (n:=c) m;have I:ItemOn (av W w) A U (.str C a) (.int 0 d) O s:=SB.item (by decide) (charAt_isSome (by lia) (by lia)) (by exact e▸k _ _ λN=>.str _ _);refine dj (I) λM F R H j=>?_;exact kN H R j (B _ _)) k) λq=>nq ((if_neg q).symm.trans h)
theorem ub{O:Type} [DecidableEq O]{y:ja W w O}{A:aD}{G:Gh}{s:aw}{v b:ar}{a:ag}{x:ai}{i:O}{z:V}{l:List (O×V)}{M:List (O×ai)}{U B:ai→aw→Prop}(I:∀o i,nD b aj o i=nF [o,i] (i6 o i))
  (L:y.is i x=ae)(S:s.heap.DictOf y a M)(N:bR G.im l M)(h:l.lookup i=aa z)(R:∀Y u,VR G.im z Y→U Y {s with toks:=u}):au (av W w) A (f7 v b (.ref a) x) U B s:=
 aB ((N.Zw i).2 z h) λY E f=>kN S.typeIs F1.lookup (wpAny_getItem_of (knd:=y) (k:=i) L S.mapOf ((kX _ _).trans E) (R Y _ f)) (I _ _)
theorem He{A:aD}{G:Gh}{s:aw}{v b:ar}{a:ag}{y z:V}{E:ai}{m:Nat}{O Y:ai→aw→Prop}(L:∀o i,nD b aj o i=nF [o,i] (i6 o i))(F:Fo A m)(H:HR W w G Z s.heap)(I:VR G.im y E)
  (h:iH y (Z a)=aa z)(Vv:∀B f,VR G.im z B→O B {s with toks:=f}):au (av W w) A (f7 v b (.ref a) E) O Y s:=by
 revert W w Z A G s v b a y z E m O Y;apply aX;generalize aT _=W,aL _=w,e9 _=Z,e8 _=A,e7 _=G,e6 _=s,e5 _=v,e4 _=b,e3 _=a,e2 _=y,e1 _=z,e0 _=E;apply bY;generalize e2 _=m,e1 _=O,e0 _=Y;intro L F H I h Vv
 exact
   V.casesOn (motive_1:=λy=>VR G.im y E→iH y (Z a)=aa z→au (av W w) A (f7 v b (.ref a) E) O Y s) y (λN h=>nq h) (λN N h=>nq h)
    (λi I h=>I.eI λt=>iJ (λo=>Z a=o→au (av W w) A (f7 v b (.ref a) (.int i t)) O Y s) h
     (λl e C=>aB (H.ZD C) λvs R g=>kN R.typeIs zn.lookup (CN R g e λB g=>Vv B s.toks g) (L _ _))
     (λl e C=>aB (H.Zz C) λM S U=>ub (y:=dI W w) L (kF _ _ _ _) S U e Vv) (λN e=>nq e) (λN e=>nq e) (λj l e C=>aB (H.ZE C) λM S U=>ub (y:=dI W w) L (kF _ _ _ _) S.dictOf U e Vv) rfl)
    (λi I h=>I.eS λt=>iJ (λo=>Z a=o→au (av W w) A (f7 v b (.ref a) (.str i t)) O Y s) h (λN e=>nq e) (λN e=>nq e)
     (λl e C=>aB (H.ZN C) λM S U=>ub (y:=iY W w) L (tq _ _ _ _) S U e Vv) (λN e=>nq e) (λN N e=>nq e) rfl)
    (λu I h=>iJ (λo=>Z a=o→au (av W w) A (f7 v b (.ref a) E) O Y s) h (λN e=>nq e) (λN e=>nq e) (λN e=>nq e)
     (λe' e C=>mx e λVw j e=>mx e λd U e=>bW (cx (Vw.1=d)) (λc=>aB (H.ZM C) λxs D P=>aE (tZ (oW U▸I)) λr q=>by
      subst q;have x:=VR.tk H.im (oW U▸I);have S:=D.Zv H;rw[j]at P;refine dO (P) λr' B ex g=>?_;exact kN S.typeIs F1.lookup (wpAny_getItem_heap (knd:=kY W w) (k:=d) (p:=(r',B)) F.Zv x S (by rw[ex];rw[yM];rw[if_pos c]) (Vv B _ (aI ((if_pos c).symm.trans e)▸g))) (L _ _)) λc=>nq ((if_neg c).symm.trans e)) (λN N e=>nq e) rfl)
    (λN N h=>nq h) (λN N h=>nq h) I h
theorem aS.Z9{v b:ar}{x y z:V}(S:∀o i,nD b aj o i=nF [o,i] (i6 o i))(h:gX Z x y=aa z)(q:Q z Z):
  aS W w J n Z [x,y] (t2 λo i=>f7 v b o i) Q X:=
 .Zy λA G s O e B L F T H P I k=>V.casesOn (motive_1:=λx=>VR G.im x O→gX Z x y=aa z→au (av W w) A (f7 v b O e) B L s) x (λN h=>nq h) (λN N h=>nq h) (λN N h=>nq h)
  (λc P h=>cP (λy=>VR G.im y e→au (av W w) A (f7 v b O e) B L s) h (λi h I=>P.eS λt=>I.eI λu=>Hd S h λY U C=>k z Y U (C _) q) I)
  (λl P h=>cP (λy=>VR G.im y e→au (av W w) A (f7 v b O e) B L s) h (λi h I=>I.eI λu=>P.eT λr m R d M=>Hc S H d M h λY U C=>k z Y U C q) I)
  (λl P h=>cP (λy=>VR G.im y e→au (av W w) A (f7 v b O e) B L s) h (λi h I=>I.eI λu=>P.eL λr m R d M=>kN (F7 (du H d)) zn.lookup (CN (du H d) M h λY g=>k z Y s.toks g q) (S _ _)) I)
  (λa P h=>P.eO (He S F H I h λY U C=>k z Y U C q)) P h
theorem AE.Z4{o i:ar}{Y:aN}(L:∀a b,nD i aj a b=nF [a,b] (i6 a b))
  (h:AE W w J n I B o Z (λx U=>AE W w J n I B i U (λy f=>∃z,gX f x y=aa z∧Q z f) X) X):AE W w J n I B (.Subscript o i Y) Z Q X:=
 λA Vv G s N F D RQ RE E d=>Subscript_ (qO h N F D (λa b m e O U R S g j P u C=>aB C λz t q=>
  aS.Z9 (v:=o) L t q A O _ [m,e] F.fo (D.top.le g) j (.cons P (.cons u .nil)) _ _ (λv r p M c l k H V q=>E v r p M c l (g.Zv k) H V q) (d.Zv g)) d)
end
section
variable{W:aK}{w:aJ}{A:aD}{E:ai→aw→Prop}{s:aw}
theorem D7{a x:Int}{m:Nat}(h:0≤a):(if a<0 then x else bC a (m:Int))=((bC a.toNat m:Nat):Int):=
 aE (qx h) λn e=>by
  subst e;exact(if_neg (Int.not_lt.mpr h)).trans (Lean.Omega.Int.ofNat_min n m).symm
theorem Hz(S f:Option Int)(x:∀a,S=aa a→0≤a)(R:∀a,f=aa a→0≤a)(m:Nat):
  Builtin.Slice.sliceAdjust S f 1 (m:Int)=(((S.elim 0 λa=>bC a.toNat m:Nat):Int),((f.elim m λb=>bC b.toNat m:Nat):Int)):=by
 revert S f m;apply bF;generalize e1 _=S,e0 _=f;intro x R;apply aP;generalize e0 _=m
 exact
   Prod.ext (by cases S with|none=>rfl|some a=>exact D7 (x a rfl)) (by cases f with|none=>rfl|some a=>exact D7 (R a rfl))
theorem HV(a b:Nat):Ga (a:Int) (b:Int) 1=b-a:=by
 refine(?_:(if(a:Int)<b then((b:Int)-a-1) /1+1 else 0).toNat=b-a);by_cases h:a<b
 ·rw[if_pos (kT.mpr h)];rw[Int.ediv_one];rw[Int.sub_add_cancel];rw[Int.toNat_sub]
 ·rw[if_neg (λq=>h (kT.mp q))];rw[Nat.sub_eq_zero_of_le (Nat.le_of_not_lt h)];rfl
theorem Aw{v:ai}{k:Option Int}{Q:Option Int→aw→Prop}(g:kJ v k)(h:Q k s):au (av W w) A (Builtin.Slice.slicePartIndex v) Q E s:=by
 cases g with
 |none=>exact slicePart_none h
 |int i t=>exact slicePart_int h
theorem Hy{M:ag}{o p:ai}{S f:Option Int}{m:Nat}{Q:Int×Int×Nat→aw→Prop}(O:s.heap.IsSliceOf M o p .none)(F:kJ o S)(v:kJ p f)
  (Z:∀a,S=aa a→0≤a)(R:∀a,f=aa a→0≤a)(h:Q (((S.elim 0 λa=>bC a.toNat m:Nat):Int),1,(f.elim m λb=>bC b.toNat m)- (S.elim 0 λa=>bC a.toNat m)) s):
  au (av W w) A (Builtin.Slice.sliceApplied (.ref M) (a8 (m:Int))) Q E s:=by
 revert W w A E s M o p S f m Q;apply aX;generalize aT _=W,aL _=w,e9 _=A,e8 _=E,e7 _=s,e6 _=M,e5 _=o,e4 _=p,e3 _=S,e2 _=f,e1 _=m,e0 _=Q;intro O F v Z R h;refine bH (id O) λi n J B=>?_;refine az (az (jD n B (x:=o) rfl (az (jD n B (x:=p) rfl (az (jD n B (x:=.none) rfl (aR ?_)))))));refine az (slicePart_none ?_);refine(?_:au _ _ (if((1:Int)==0)=ae then _ else _) _ _ s);rw[if_neg (by decide)];refine az (Aw F (az (Aw v (az (aR ?_)))));refine(?_:au _ _ (match Builtin.Slice.sliceAdjust S f 1 (m:Int)with|(S,f)=>a8 (S,(1:Int),Ga S f 1)) _ _ s);rw[Hz S f Z R m];refine(?_:au _ _ (a8 (((S.elim 0 λa=>bC a.toNat m:Nat):Int),(1:Int),Ga ((S.elim 0 λa=>bC a.toNat m:Nat):Int) ((f.elim m λb=>bC b.toNat m:Nat):Int) 1)) _ _ s);rw[HV];exact aR h
theorem Ic(D:Array ai)(a k:Nat):((tK k).filterMap λ(k:Nat)=>D[((a:Int)+(k:Int)*1).toNat]?).toArray=((D.toList.drop a).take k).toArray:=by
 revert D a k;apply bY;generalize e2 _=D,e1 _=a,e0 _=k
 have e:(λ(k:Nat)=>D[((a:Int)+(k:Int)*1).toNat]?)=λk=>D[a+k]? :=by
  funext k
  exact congrArg (λz:Int=>D[((a:Int)+z).toNat]?) (Int.mul_one k)
 refine(bo e)▸ ?_
 have:=pick_run D a k;rw[List.filterMap_map]at this;have L:((λx=>D[x]?)∘λx=>a+x)=λk=>D[a+k]? :=rfl;rw[L]at this;rw[this]
theorem KK{t M:ag}{y:Array ai}{u:aC}{D:Nat}{o p:ai}{S f:Option Int}{Q:ai→aw→Prop}(q:s.heap.get? t=aa u)(r:u={cls:=.type "tuple",data:=.seq y D})(O:s.heap.IsSliceOf M o p .none)(F:kJ o S)(v:kJ p f)
  (x:∀a,S=aa a→0≤a)(R:∀a,f=aa a→0≤a)(l:y.size≤eX)
  (h:Q (.ref s.heap.objs.size) {s with heap:=s.heap.push {cls:=.type "tuple",data:=.seq ((y.toList.drop (S.elim 0 λa=>bC a.toNat y.size)).take ((f.elim y.size λb=>bC b.toNat y.size)- (S.elim 0 λa=>bC a.toNat y.size))).toArray}})
  (B:(S.elim 0 λa=>bC a.toNat y.size)=0→(f.elim y.size λb=>bC b.toNat y.size)=y.size→Q (.ref t) s):au (av W w) A (i6 (.ref t) (.ref M)) Q E s:=by
 revert W w A E s t M y u D o p S f Q;apply aX;generalize aT _=W,aL _=w,e9 _=A,e8 _=E,e7 _=s,e6 _=t,e5 _=M,e4 _=y,e3 _=u,e2 _=D,e1 _=o,e0 _=p;apply bY;generalize e2 _=S,e1 _=f,e0 _=Q;intro q r O F v x R l h B;subst r;have P:IsTup s.heap t y:=⟨_,q,rfl,D,rfl⟩;refine bH (id O) λi n J Y=>?_;have G:s.TypeIs (.ref M) "slice":=⟨i,n,J⟩
 have Z:(f.elim y.size λb=>bC b.toNat y.size)≤y.size:=by
  cases f with
  |none=>exact f8 _
  |some b=>exact Gf _ _
 generalize z:(S.elim 0 λa=>bC a.toNat y.size)=a at h B;generalize C:(f.elim y.size λb=>bC b.toNat y.size)=b at h B Z
 have g:sizeOk (.seq ((y.toList.drop a).take (b-a)).toArray):=by
  refine(?_:((y.toList.drop a).take (b-a)).toArray.size≤eX);rw[dz];rw[List.length_take];rw[List.length_drop];exact aW (Gf _ _) (aW (Nat.sub_le _ _) l)
 unfold i6
 try with_reducible refine cC ?_
 first|refine az (aR ?_)|skip
 refine az (wpAny_sequenceKey P.typeIs (by decide) ?_)
 refine az (wpAny_callSpecial?_slot (name:=aq "__getitem__") P.typeIs zF
  (wpAny_call_entry zF P.typeIs entry_tuple_getitem ?_ (args_tuple_getitem _ _)))
 refine(?_:au _ _ (Builtin.Tuple.tupleItemsOf (.ref t)>>=_) _ _ s);refine az (tupleItemsOf_ P ?_);refine az (wpAny_typeOf G ?_);rw[if_pos (by decide)];refine az (Hy O F v x R ?_);rw[z];rw[C];refine(?_:au _ _ (if((a:Int)==0&&(1:Int)==1&&(b-a)==y.size)=ae then _ else _) _ _ s);by_cases N:((a:Int)==0&&(1:Int)==1&&(b-a)==y.size)=ae
 ·rw[if_pos N]
  have N:=cj.mp N;have k:a=0:=zT (bU (cj.mp N.1).1);have U:b=y.size:=(congrArg (b- ·) k.symm:b-0=b-a).trans (bU N.2)
  have:=B k U;refine az (m:=Builtin.Tuple.tupleIsExact _) (az (wpAny_typeOf P.typeIs (aR ?_)));rw[if_pos (by decide)];exact az (wpAny_rule (aR ⟨_,rfl,aR this⟩))
 rw[if_neg N];rw[Ic y a]
 first
  |exact az (m:=Builtin.Tuple.tupleExact _) (nB (aR ⟨_,rfl,aR h⟩) g)
  |exact j (V:=Builtin.Tuple.tupleExact _) (e (j (c (c ⟨_,rfl,c h⟩))) g)
  |exact j (j (V:=Builtin.Tuple.tupleExact _) (e (c (c ⟨_,rfl,c h⟩)) g))
  |exact j (j (V:=Builtin.Tuple.tupleExact _) (e (c ⟨_,rfl,c h⟩) g))
end
section
variable{W:aK}{w:aJ}{K:aY}{J:ay}{n:Nat}{I:Sc}{S:aA}{Z:St}{X:ak→St→Prop}{Q:V→St→Prop}
def qk(W:aK)(w:aJ)(J:ay)(n:Nat)(I:Sc)(S:aA)(e:Option ar)(Z:St)(Q:V→St→Prop)(X:ak→St→Prop):Prop:=
 ∀A O G s,dG O I→Fz A O n→Dy W w J A O G S Z s.heap→∀Y B,
  (∀v L U M N u,G.le U→HR W w U M N→VR U.im v L→Q v M→Y L {s with heap:=N,toks:=u})→
  KX W w A G s X B→
  au (av W w) A (evalPart e O) Y B s
theorem qk.Zv{e:ar}(h:AE W w J n I S e Z Q X):qk W w J n I S (aa e) Z Q X:=
 λA O G s U F D Y V E d=>evalPart_some_step (h A O G s U F D Y V E d)
theorem sy{f:ag→Option aC}{b d:Nat}{v:V}{Y:ai}{a:Nat}{O:Prop}(g:VR f v Y)(h:iR b d v=aa a)(c:∀k:Option Int,kJ Y k→(∀i,k=aa i→0≤i)→(k.elim d λi=>bC i.toNat b)=a→O):O:=
 V.casesOn (motive_1:=λv=>VR f v Y→iR b d v=aa a→O) v (λg h=>VR.eN (P:=λY=>(∀k:Option Int,kJ Y k→(∀i,k=aa i→0≤i)→(k.elim d λi=>bC i.toNat b)=a→O)→O) g (λc=>c ah .none (λN e=>aG e) (aI h)) c) (λN N h=>nq h)
  (λi g h=>VR.eI (P:=λY=>(∀k:Option Int,kJ Y k→(∀i,k=aa i→0≤i)→(k.elim d λi=>bC i.toNat b)=a→O)→O) g (λt c=>cL (λa=>(∀k:Option Int,kJ (.int i t) k→(∀i,k=aa i→0≤i)→(k.elim d λi=>bC i.toNat b)=a→O)→O) h (λq c=>c (aa i) (.int _ _) (λN e=>aI e▸q) rfl) c) c)
  (λN N h=>nq h) (λN N h=>nq h) (λN N h=>nq h) (λN N h=>nq h) g h
theorem D6(m d:Nat)(k:Option Int)(h:∀i,k=aa i→0≤i):k.elim d (clipAt m)=k.elim d λi=>bC i.toNat m:=
 a9 (motive:=λk=>(∀i,k=aa i→0≤i)→k.elim d (clipAt m)=k.elim d λi=>bC i.toNat m) k (λN=>rfl) (λi h=>aE (qx (h i rfl)) λj e=>e▸clipAt_nat m j) h
inductive ko(W:aK)(w:aJ)(A:aD)(s:aw)(O U:ai→aw→Prop)(p i:ai):Prop
 |mk (T Y):typeLookup (.type T) "__getitem__"=a8 (aa (.builtin Y))→s.TypeIs p T→au (av W w) A (i6 p i) O U s→ko W w A s O U p i
theorem DT{f:ag→Option aC}{l:List V}{L:List ai}(h:VRs f l L)(a b:Nat):VRs f ((l.take b).drop a) ((L.drop a).take (b-a)):=by exact List.drop_take▸(h.ZB b).ZE a
theorem Hx{A:aD}{G:Gh}{s:aw}{x y u z:V}{p E c:ai}{N:ag}{U R:ai→aw→Prop}(H:HR W w G Z s.heap)(F:VR G.im x p)(t:VR G.im y E)(m:VR G.im u c)
  (h:lb x y u=aa z)(f:s.heap.IsSliceOf N E c .none)(q:∀B O L,G.le O→HR W w O Z L→VR O.im z B→U B {s with heap:=L}):ko W w A s U R p (.ref N):=by
 revert W w Z A G s x y u z p E c N U R;apply aX;generalize aT _=W,aL _=w,e9 _=Z,e8 _=A,e7 _=G,e6 _=s,e5 _=x,e4 _=y,e3 _=u,e2 _=z,e1 _=p,e0 _=E;apply dM;generalize e3 _=c,e2 _=N,e1 _=U,e0 _=R;intro H F t m h f q
 exact
   jp (λx=>VR G.im x p→ko W w A s U R p (.ref N)) h
    (λl e F=>lr e λa b k i e=>cL (λz=>(∀B O L,G.le O→HR W w O Z L→VR O.im z B→U B {s with heap:=L})→ko W w A s U R p (.ref N)) e (λD q=>sy t k λlo v p0 j=>sy m i λhi pu q0 P=>F.eT λr mm g d M=>by
     have Y:g.toArray.size=l.length:=dz.trans M.Zv;refine .mk "tuple" _ zF.lookup (IsTup.typeIs (du H d)) (KK (H.im _ _ d) rfl f v pu p0 q0 (gG M D) ?_ ?_)
     ·refine(bo Y)▸ ?_;refine(bo j)▸ ?_;refine(bo P)▸ ?_
      exact(H.Zy (o:=t8 ((g.drop a).take (b-a))) rfl).casesOn λC H1 k2=>q _ _ _ C H1 (.tup k2 (DT (M.Zw C.im) a b))
     ·refine(bo Y)▸ ?_;refine(bo j)▸ ?_;refine(bo P)▸ ?_
      intro e e';subst e;subst e';replace q:=List.take_length▸q;exact q _ G s.heap (.Zw _) H (.tup d M)) q)
    (λl e F=>lr e λa b k i e=>cL (λz=>(∀B O L,G.le O→HR W w O Z L→VR O.im z B→U B {s with heap:=L})→ko W w A s U R p (.ref N)) e (λD q=>sy t k λlo v p0 j=>sy m i λhi pu q0 P=>F.eL λr mm g d M=>by
     have Y:g.toArray.size=l.length:=dz.trans M.Zv;refine .mk "list" _ zn.lookup (F7 (du H d)) (wpAny_getItem_list_slice (du H d) f v pu .none (by decide) ?_ (gG M D));rw[slicePick_plain];refine(bo Y)▸ ?_;rw[D6 _ _ _ p0];rw[D6 _ _ _ q0];refine(bo j)▸ ?_;refine(bo P)▸ ?_;exact(H.Zy (o:=my ((g.drop a).take (b-a))) rfl).casesOn λC H1 k2=>q _ _ _ C H1 (.lst k2 (DT (M.Zw C.im) a b))) q) (λzz e=>nq e) F
theorem AE.ZP{o:ar}{R C:Option ar}{p O:aN}
  (h:AE W w J n I S o Z (λx U=>qk W w J n I S R U (λy f=>qk W w J n I S C f (λu m=>∃z,lb x y u=aa z∧Q z m) X) X) X):AE W w J n I S (.Subscript o (.Slice R C ah p) O) Z Q X:=by
 revert W w J n I S Z X Q o R C p O;apply aX;generalize aT _=W,aL _=w,e9 _=J,e8 _=n,e7 _=I,e6 _=S,e5 _=Z,e4 _=X,e3 _=Q,e2 _=o,e1 _=R,e0 _=C;apply bF;generalize e1 _=p,e0 _=O;intro h
 exact
   λVB Y G VC d F D Vz VA hQ E=>Subscript_ (h VB Y G VC d F D _ _ (λx rx L U Vw i g j c B=>wpAny_Slice (B VB Y L _ d F (D.Zv g j) _ _ (λy ry M f Vx Vv a l P B=>
    B VB Y M _ d F (D.Zv (g.Zv a) l) _ _ (λu ru Vy m t v r N b B=>F3 (aB B λz hz q=>
     (Hx (s:={VC with heap:=t.push {cls:=.type "slice",data:=.fields #[ry,ru,.none]},toks:=v}) (A:=VB) (R:=VA) (U:=Vz) (N.ZA (λzz zz e=>bM _ e)) (c.Zv (a.Zv r).im) (P.Zv r.im) b hz (Heap.IsSliceOf.new ..)
      (λrv G' h' k H V=>hQ z rv G' m h' v (((g.Zv a).Zv r).Zv k) H V q)).casesOn λT' id h1 h2 h3=>kN h2 h1 h3 rfl)) (E.Zv (g.Zv a))) (E.Zv g))) E)
end
section
variable{W:aK}{w:aJ}{K:aY}{J:ay}{n:Nat}{Z:St}{X:ak→St→Prop}{Q:V→St→Prop}
theorem aS.Zx{x:V}{f:ai→bI ai}(h:∀A G s p U S,Fo A n→cW J A G→HR W w G Z s.heap→VR G.im x p→
  (∀v Y O B u,G.le O→HR W w O Z B→VR O.im v Y→Q v Z→U Y {s with heap:=B,toks:=u})→au (av W w) A (f p) U S s):aS W w J n Z [x] (t1 f) Q X:=
 λA G s I F T H L U S E d=>L.e1 λp g=>h A G s p U S F T H g λv Y O B u k H L q=>E v Y O Z B u k H L q
theorem aS.Zz{x:V}{f:ai→bI ai}{v:V}(q:Q v Z)
  (h:∀A G s p O U,Fo A n→cW J A G→HR W w G Z s.heap→VR G.im x p→(∀Y u,VR G.im v Y→O Y {s with toks:=u})→au (av W w) A (f p) O U s):aS W w J n Z [x] (t1 f) Q X:=
 .Zx λA G s p O U F T H g k=>h A G s p O U F T H g λY u E=>k v Y G s.heap u (.Zw _) H E q
theorem G1:∀j:Nat,j<10→aq (toString (j:Int))=⟨#[48+j]⟩:=by decide+kernel
theorem aS.Z2(C:Cx K J){v z:V}(h:bq .len Z v=aa z)(q:Q z Z):aS W w J n Z [v] (t1 λx=>aV (.builtin "len") [x]) Q X:=
 iL (λz=>Q z Z→aS W w J n Z [v] (t1 λx=>aV (.builtin "len") [x]) Q X) h (λm b q=>.Zz q λA G s p O I F T H g k=>jp (λv=>VR G.im v p→au (av W w) A (aV (.builtin "len") [p]) O I s) b
  (λl e g=>g.eT λr D L d U=>cL (λm:Nat=>(∀Y u,VR G.im (.int m) Y→O Y {s with toks:=u})→au (av W w) A (aV (.builtin "len") [.ref r]) O I s) e (λS k=>len_tuple (du H d) (o6 (aW (cN (dz.trans U.Zv)) S)) (by rw[dz];rw[U.Zv];exact k _ _ (.int _ _))) k)
  (λl e g=>g.eL λr D L d U=>cL (λm:Nat=>(∀Y u,VR G.im (.int m) Y→O Y {s with toks:=u})→au (av W w) A (aV (.builtin "len") [.ref r]) O I s) e (λS k=>len_list (du H d) (o6 (aW (cN (dz.trans U.Zv)) S)) (by rw[dz];rw[U.Zv];exact k _ _ (.int _ _))) k)
  (λa e g=>g.eO (iJ (λo=>Z a=o→au (av W w) A (aV (.builtin "len") [.ref a]) O I s) e
   (λl e S=>cL (λm:Nat=>(∀Y u,VR G.im (.int m) Y→O Y {s with toks:=u})→au (av W w) A (aV (.builtin "len") [.ref a]) O I s) e (λB k=>aB (H.ZD S) λL M U=>len_list M (o6 (aW (cN (dz.trans U.Zv)) B)) (by rw[dz];rw[U.Zv];exact k _ _ (.int _ _))) k)
   (λl e S=>cL (λm:Nat=>(∀Y u,VR G.im (.int m) Y→O Y {s with toks:=u})→au (av W w) A (aV (.builtin "len") [.ref a]) O I s) e (λB k=>aB (H.Zz S) λj R U=>call_len_dict (C.Zv T H S) R (by rw[U.Zv];exact o6 B) (by rw[U.Zv];exact k _ _ (.int _ _))) k)
   (λN e=>nq e) (λN e=>nq e) (λN N e=>nq e) rfl)) g) q
theorem Bq{A:aD}{R:Gh}{s:aw}{U N:ai→aw→Prop}{l:List V}{L:List ai}{r:ag}{t:String}{m:Nat}(H:HR W w R Z s.heap)(P:t="list"∨t="tuple")(d:R.im r=aa (eJ t L m))(Y:VRs R.im l L)(C:l.length≤1000)
  (k:∀S O B u,R.le O→HR W w O Z B→VR O.im (.lst l) S→U S {s with heap:=B,toks:=u}):au (av W w) A (aV (.type "list") [.ref r]) U N s:=
 call_list_seq r P (H.im _ _ d) rfl rfl (λB v y b=>
  have I:=eV s.heap;have M:=oU (G:=R) (o:={cls:=.type "list",dict:=ah,data:=.seq L.toArray v,slots:= #[]}) (H.Zv I).im
  k _ _ B s.toks M (H.ZL I y b) (.lst (bE _ _ _) (Y.Zw M.im))) (gG Y C)
theorem aS.ZH{v z:V}(h:bq .list_ Z v=aa z)(q:Q z Z):aS W w J n Z [v] (t1 λx=>aV (.type "list") [x]) Q X:=
 .Zx λA G s p O U F T H g k=>jp (λv=>VR G.im v p→au (av W w) A (aV (.type "list") [p]) O U s) h
  (λl e g=>g.eT λr D L d Y=>cL (λz=>Q z Z→au (av W w) A (aV (.type "list") [.ref r]) O U s) e (λC q=>Bq H (.inr rfl) d Y C λI S B u a b c=>k _ _ S B u a b c q) q)
  (λl e g=>g.eL λr D L d Y=>cL (λz=>Q z Z→au (av W w) A (aV (.type "list") [.ref r]) O U s) e (λC q=>Bq H (.inl rfl) d Y C λI S B u a b c=>k _ _ S B u a b c q) q) (λN e=>nq e) g
theorem aS.ZF{v z:V}(h:bq .tuple_ Z v=aa z)(q:Q z Z):aS W w J n Z [v] (t1 λx=>aV (.type "tuple") [x]) Q X:=
 .Zx λA G s p O Y F T H g k=>jp (λv=>VR G.im v p→au (av W w) A (aV (.type "tuple") [p]) O Y s) h
  (λl e g=>g.eT λr D L d U=>call_tuple_tup (du H d) (k (.tup l) _ G s.heap s.toks (.Zw _) H (.tup d U) (aI e▸q)))
  (λl e g=>g.eL λr D L d U=>cL (λz=>Q z Z→au (av W w) A (aV (.type "tuple") [.ref r]) O Y s) e (λC q=>call_tuple_list (du H d) (λB y=>((H.ZA y).Zy (o:=t8 L) rfl).casesOn λS i a=>k (.tup l) _ _ _ s.toks S i (.tup a (U.Zw S.im)) q) (gG U C)) q) (λN e=>nq e) g
theorem aS.ZR{v z:V}(h:bq .str_ Z v=aa z)(q:Q z Z):aS W w J n Z [v] (t1 λx=>aV (.type "str") [x]) Q X:=
 .Zz q λA G s p O U F T H g k=>cP (λv=>VR G.im v p→au (av W w) A (aV (.type "str") [p]) O U s) h (λi h g=>g.eI λt=>cL (λz=>(∀Y u,VR G.im z Y→O Y {s with toks:=u})→au (av W w) A (aV (.type "str") [.int i t]) O U s) h (λf k=>
  aE (qx f.1) λj e=>by
   subst e;have S:j<10:=kT.mp f.2;refine PySem.P.str_of_int (fL (Nat.log2_le_self j) (Nat.lt_trans S (by decide))) ?_;rw[G1 j S];exact k _ _ (.str _ _)) k) g
theorem G9{f:ag→Option aC}{l:List V}{L:List ai}(h:VRs f l L):∀{a b:Int},kZ l a=aa b→∃I,IntsAre L I∧b=a+I.sum:=
 h.Zx (M:=λl L=>∀{a b:Int},kZ l a=aa b→∃I,IntsAre L I∧b=a+I.sum) (λ{a b} h=>⟨[],.nil,(aI h).symm.trans (Int.add_zero a).symm⟩)
  λ{v r l O} x _ F {a b} h=>cP (λv=>VR f v r→∃I,IntsAre (r::O) I∧b=a+I.sum) h (λi h x=>x.eI λt=>aB (F h) λI R H=>⟨i::I,.cons _ _ R,H.trans (by rw[List.sum_cons];rw[Int.add_assoc])⟩) x
theorem aS.ZT{v z:V}(h:bq .sum_ Z v=aa z)(q:Q z Z):aS W w J n Z [v] (t1 λx=>aV (.builtin "sum") [x]) Q X:=
 .Zx λA G s p O U F T H g k=>oM (λv=>VR G.im v p→au (av W w) A (aV (.builtin "sum") [p]) O U s) h (λl h g=>g.eL λr j L d M=>iL (λz=>Q z Z→au (av W w) A (aV (.builtin "sum") [.ref r]) O U s) h (λb i q=>
  aB (G9 M i) λI f C=>aE f.allInts.items λD Y=>by
   subst C;have S:s.heap.IsList r L.toArray:=du H d;have B:(numsOf (intItems D).toList)=I:=by exact Y▸f.numsOf
   rw[Y]at S;rw[nums_intItems]at B;refine sum_intListG F.hd S λN u y R=>?_;rw[preSum_eq];rw[List.take_of_length_le (cN (by simp))];rw[B];exact k (.int (0+I.sum)) (.int I.sum y) G N u (.Zw _) (H.ZA R) (by rw[Int.zero_add];exact .int _ _) q) q) g
end
section
variable{W:aK}{w:aJ}{K:aY}{J:ay}{n:Nat}{I:Sc}{S:aA}{Z:St}{X:ak→St→Prop}{Q:V→St→Prop}
inductive BM(Z:St)(a:ag)(name:ak)(O:String):Prop
 |l (U):Z a=aa (.list U)→Slot "list" name O→typeOf (.builtin O)=a8 (.type "method_descriptor")→BM Z a name O
 |d (U):Z a=aa (.idict U)→Slot "dict" name O→typeOf (.builtin O)=a8 (.type "method_descriptor")→BM Z a name O
theorem CM{A:aD}{G:Gh}{s:aw}{a:ag}{name:ak}{O:String}{F:bI Bool}{U:ai×List ai→aw→Prop}{Y:ai→aw→Prop}(H:HR W w G Z s.heap)(b:BM Z a name O)(h:U (.builtin O,[.ref a]) s):
  au (av W w) A (i5 (.ref a) name F) U Y s:=by
 revert W w Z A G s a name O F U Y;apply aX;generalize aT _=W,aL _=w,e9 _=Z,e8 _=A,e7 _=G,e6 _=s,e5 _=a,e4 _=name,e3 _=O,e2 _=F,e1 _=U,e0 _=Y;intro H b h
 exact
   b.casesOn (λl C c f=>aB (H.ZC C) λL t N=>aE t λm t=>getMethod_builtin ⟨_,t,rfl⟩ PySem.F.plainAttrs_list c f (λb e=>Value.ref.inj e▸⟨_,t,rfl⟩) h)
    (λl C c f=>aB (H.Zz C) λM V N=>getMethod_builtin V.typeIs PySem.F.plainAttrs_dict c f (λb e=>Value.ref.inj e▸tU V λo P r h=>⟨o,h.1,h.2.1.2.1⟩) h)
inductive kA(name:ak)(R:String→V→St→Prop)(Z:St):V→Prop
 |mk (a O):BM Z a name O→R O (.obj a) Z→kA name R Z (.obj a)
theorem AE.Zx{o e:ar}{name:ak}{b U:aN}{P:List ar}{z:aH→bI Bool}
  (h:AE W w J n I S o Z (λv Y=>kA name (λm v Y=>AL W w J n I S U (e::P) Y (λd M=>aS W w J n M (v::d) (λrs=>aV (.builtin m) rs) Q X) X) Y v) X)
  (hc:∀O,a7 (.Call (.Attribute o name b) (e::P) [] U) O=(do
   let ov←a7 o O
   dW b.atName
   let(f,first)←fw [ov] (i5 ov name (z O))
   nJ U f first (cQ U (bw (e::P) O)) (jH U (jG [] O))))
  (he:∀O,bw (e::P) O=(aj,a7 e O)::bw P O)(hp:∀O,(cQ U (bw (e::P) O)).any (·.1)=aj):
  AE W w J n I S (.Call (.Attribute o name b) (e::P) [] U) Z Q X:=
 λA O G Vy hs F D RQ t hQ x=>qn (pl:=z O) (h A O G Vy hs F D _ _ (λv E N Y R B g j c hh=>kA.casesOn (motive:=λv zz=>VR N.im v E→au (av W w) A (i5 E name (z O)) (λr Vy=>au (av W w) A (nJ U r.1 r.2 (cQ U (bw (e::P) O)) (jH U (jG [] O))) RQ t Vy) t {Vy with heap:=R,toks:=B}) hh
  (λa m hb Vv c=>c.eO (CM (s:={Vy with heap:=R,toks:=B}) j hb (callWith_builtin (hp O) (by
   have y:=Vv A O N {Vy with heap:=R,toks:=B} hs F (D.Zv g j) (λd s' =>au (av W w) A (aV (.builtin m) ([.ref a]++d)) RQ t s') t (λd Vw u M p i L l C dd=>dd A u {Vy with heap:=p,toks:=i} (.ref a::Vw) F.fo (D.top.le (g.Zv L)) l (.cons (.obj a) C) _ _ (λv E G' Vx h' tk k H V q=>hQ v E G' Vx h' tk ((g.Zv L).Zv k) H V q) (x.Zv (g.Zv L))) (x.Zv g);rw[he O]at y⊢;exact tF y)))) c) x) (hc O)
theorem AE.ZD{o:ar}{name:ak}{b Y:aN}{N:aH→bI Bool}
  (h:AE W w J n I S o Z (λv U=>kA name (λC v U=>aS W w J n U [v] (λt=>aV (.builtin C) t) Q X) U v) X)
  (m:∀O,a7 (.Call (.Attribute o name b) [] [] Y) O=(do
   let y←a7 o O
   dW b.atName
   let(f,first)←fw [y] (i5 y name (N O))
   nJ Y f first (cQ Y (bw [] O)) (jH Y (jG [] O)))):
  AE W w J n I S (.Call (.Attribute o name b) [] [] Y) Z Q X:=
 λA O G Vv E F D z d i P=>qn (pl:=N O) (h A O G Vv E F D _ _ (λv M L U R B g j c p=>kA.casesOn (motive:=λv zz=>VR L.im v M→au (av W w) A (i5 M name (N O)) (λr Vv=>au (av W w) A (nJ Y r.1 r.2 (cQ Y (bw [] O)) (jH Y (jG [] O))) z d Vv) d {Vv with heap:=R,toks:=B}) p
  (λa C l e c=>c.eO (CM (s:={Vv with heap:=R,toks:=B}) j l (callWith_builtin rfl (evalArgs_nil3
  (e A L {Vv with heap:=R,toks:=B} [.ref a] F.fo (D.top.le g) j (.cons (.obj a) .nil) _ _ (λv M x u h' tk k H V q=>i v M x u h' tk (g.Zv k) H V q) (P.Zv g)))))) c) P) (m O)
theorem aS.ZD{a:ag}{l:List V}{y:V}(C:Z a=aa (.list l))(Y:l.length≤1000)(q:Q .none (Z.Zv a (.list (l++[y])))):aS W w J n Z [.obj a,y] (λU=>aV (.builtin "list.append") U) Q X:=
 λA G s U F T H j R u E d=>j.e2 λm e P M=>P.eO (aB (H.ZC C) λL t g=>wpAny_list_append_plain t (λB O N=>
  E .none .none G _ B s.toks (.Zw _) (H.Zx (H:=.list (l++[y])) C rfl rfl N.extBut ⟨L++[e],(List.push_toArray L e▸O:B.PlainList a (L++[e]).toArray),g.Zy (.cons M .nil)⟩) .none q) (gG g Y))
theorem Be{b:Bool}{n:Nat}(h:n≤eX):¬(b&&zC n)=ae:=by
 have e:zC n=aj:=decide_eq_false (qt.mpr h);refine(bo e)▸ ?_;cases b<;>exact Bool.false_ne_true
theorem aS.ZE{a:ag}{l O:List V}{y:V}(C:Z a=aa (.list l))(E:pt y=aa O)(B:l.length+O.length≤1000)(q:Q .none (Z.Zv a (.list (l++O)))):aS W w J n Z [.obj a,y] (λM=>aV (.builtin "list.extend") M) Q X:=
 λA G s M F T H Vv R z f v=>Vv.e2 λo j D Y=>D.eO (aB (H.ZC C) λL t g=>aE t λm t=>
  have h:s.TypeIs (.ref a) "list":=⟨_,t,rfl⟩;have P:=aW (jL _ _) B
  have i:∀{p:List ai},VRs G.im O p→R .none {s with heap:=s.heap.update a (lZ λx=>x++p.toArray)}:=λ{p} N=>
   f .none .none G _ _ s.toks (.Zw _) (H.Zx (H:=.list (l++O)) C rfl rfl (zx ..).extBut ⟨L++p,(Gv L p▸⟨_,jb (lZ λx=>x++p.toArray) t rfl⟩:(s.heap.update a (lZ λx=>x++p.toArray)).PlainList a (L++p).toArray),g.Zy N⟩) .none q
  have c:∀{p:List ai},VRs G.im O p→L.toArray.size+p.toArray.size≤eX:=λN=>aW (cN (by rw[dz];rw[dz];rw[g.Zv];rw[N.Zv])) (aW B (by decide))
  jp (λy=>VR G.im y j→au (av W w) A (aV (.builtin "list.extend") [.ref a,j]) R z s) E
   (λu e Y=>Y.eT λr b p d U=>oE e U|>λU=>nI F8 h Qt (Qu _ _) (AutoSeq1.list_extend_list_tuple_0 a L.toArray m r p.toArray b (Be (c U)) (gG g P) (Gi (c U)))
    ⟨t,H.im _ _ d,i U⟩)
   (λu e Y=>Y.eL λr b p d U=>oE e U|>λU=>nI F8 h Qt (Qu _ _) (AutoSeq1.list_extend_list_list_0 a L.toArray m r p.toArray b (Be (c U)) (gG g P) (Gi (c U)))
    ⟨t,H.im _ _ d,i U⟩) (λk e=>nq e) Y)
theorem K0(L:List ai):L.toArray.eraseIdxIfInBounds (L.toArray.size-1)=L.dropLast.toArray:=
 List.eq_nil_or_concat L|>.elim (λe=>e▸rfl) λh=>nX h λD x e=>e▸by
  unfold Array.eraseIdxIfInBounds;rw[dif_pos (by simp)];apply Array.ext';simp only[List.eraseIdx_toArray,dz];rw[List.eraseIdx_length_sub_one]
theorem aS.Z7{a:ag}{l:List V}{z:V}(C:Z a=aa (.list l))(B:l.length≤1000)(b:l.getLast?=aa z)(q:Q z (Z.Zv a (.list l.dropLast))):aS W w J n Z [.obj a] (λU=>aV (.builtin "list.pop") U) Q X:=
 λA G s U F T H j N R E d=>j.e1 λu P=>P.eO (aB (H.ZC C) λL t g=>aE t λm t=>aB (g.ZC _ _ (List.getLast?_eq_getElem?.symm.trans b)) λY M f=>
  have h:s.TypeIs (.ref a) "list":=⟨_,t,rfl⟩;have e:VRs G.im l.dropLast L.dropLast:=by rw[List.dropLast_eq_take];rw[List.dropLast_eq_take];rw[g.Zv];exact g.ZB _
  have O:(s.heap.update a (lZ λD=>D.eraseIdxIfInBounds (L.toArray.size-1))).PlainList a L.dropLast.toArray:=K0 L▸⟨_,jb (lZ λD=>D.eraseIdxIfInBounds (L.toArray.size-1)) t rfl⟩
  nI PySem.F.slot_list_pop h PySem.F.entry_list_pop (PySem.F.args_list_pop_1 _) (MeetsSeq.list_pop_last a L.toArray m Y (by rw[dz];rw[g.Zv];rw[Gu];exact M) (gG g B)) ⟨t,
   E z Y G _ _ s.toks (.Zw _) (H.Zx (H:=.list l.dropLast) C rfl rfl (zx ..).extBut ⟨_,O,e⟩) f q⟩)
end
section
variable{W:aK}{w:aJ}{K:aY}{J:ay}{n:Nat}{I:Sc}{S:aA}{Z:St}{X:ak→St→Prop}
theorem uI{a b:Nat}(h:(!cI a b)=ae):a≠b:=zI ((zV _).mp h)
theorem pT.Zv{i:Nat}{v:V}{S:aA}:pT i v S (cJ i v S):=λp t=>(bf.mp t).elim .inl λt=>have h:=zN.mp t;.inr ⟨h.1,uI h.2⟩
def AG(W:aK)(w:aJ)(J:ay)(n:Nat)(I:Sc)(S:aA)(t:ar)(v:V)(Z:St)(Q:aA→St→Prop)(X:ak→St→Prop):Prop:=
 ∀A O G s Y,dG O I→Fz A O n→Dy W w J A O G S Z s.heap→VR G.im v Y→∀U B,
  (∀L C M N u,G.c (cH O) L→Dy W w J A O L C M N→Q C M→U () {s with heap:=N,toks:=u})→
  iT W w A O G s X B→
  au (av W w) A (ij t O Y) U B s
def ic(W:aK)(w:aJ)(J:ay)(n:Nat)(I:Sc)(S:aA)(R:List ar)(H:List V)(Z:St)(Q:aA→St→Prop)(X:ak→St→Prop):Prop:=
 ∀A O G s U,dG O I→Fz A O n→Dy W w J A O G S Z s.heap→VRs G.im H U→∀Y B,
  (∀L C M N u,G.c (cH O) L→Dy W w J A O L C M N→Q C M→Y () {s with heap:=N,toks:=u})→
  iT W w A O G s X B→
  au (av W w) A (zr ((gv R O).map (·.2)) U) Y B s
theorem AG.Zx{i:Nat}{x:ak}{O:aN}{v:V}{Q:aA→St→Prop}(f:i<cB)(Y:NM i=x)(B:I.names.lookup x=aa .local ∨I.names.lookup x=aa .cell)(q:Q (cJ i v S) Z):
  AG W w J n I S (.Name x O) v Z Q X:=
 λA N G s R U F D j H g E d=>assign_Name (n9 F D f Y (B.imp (cU U) (cU U)) j .Zv λL M u C k o=>E L _ Z M u k o q)
inductive Fa(K:aY)(m:ak)(v:V)(R:St→Prop)(Z:St):V→Prop
 |mk (a c t):Z a=aa (.inst c t)→oh K c m=ae→t.length≤1000→R (Z.Zv a (.inst c (cq m v t)))→Fa K m v R Z (.obj a)
theorem AG.Zy{o:ar}{m:ak}{M:aN}{v:V}{Q:aA→St→Prop}(C:Cx K J)
  (h:AE W w J n I S o Z (λx U=>Fa K m v (Q S) U x) X):AG W w J n I S (.Attribute o m M) v Z Q X:=
 λA N G Vw L P F D Vx t E z r=>(az (cC (h A N G Vw P F D _ _ (λx p B U R Y g j O hh=>Fa.casesOn (motive:=λx zz=>VR B.im x p→au (av W w) A (do
  dW M.atName
  fw [L,p] (setAttr p m L)
  release [L,p] []) t E {Vw with heap:=R,toks:=Y}) hh (λa c fs e H hz q O=>O.eO (FE.casesOn (j.ZU e) λd Vv hx hn b f=>
   az (fG (az (cC (HB (s:={Vw with heap:=R,toks:=Y}) (C.at (D.top.le g) j) hx hn H (b.Zv.symm▸hz) (λu l i=>
    wpAny_release (z B S _ u _ (g.x _) (D.Zv g (f u _ (cq m v fs) i.extBut l (bR.ZA (k:=m) (Vx.Zv g.im) b))) q)))))))) O) r.e)):au _ A (do
  let y←fw [L] (a7 o N)
  dW M.atName
  fw [L,y] (setAttr y m L)
  release [L,y] []) _ _ _)
theorem Hi{O:Type} [DecidableEq O]{k:O}{v:ai}{l:List (O×ai)}:(l.map (·.1)).Nodup→PySem.stored l k v=cq k v l:=
 bc (motive:=λl=>(l.map (·.1)).Nodup→PySem.stored l k v=cq k v l) (λN=>rfl) (λp r F h=>by
  have Y:=dY.mp h;have F:=F Y.2;rw[mh];unfold PySem.stored at F⊢;rw[List.any_cons];rw[bX]
  exact bW (cx (k=p.1)) (λe=>by
   rw[if_pos e];rw[if_pos e.symm];rw[decide_eq_true e.symm];rw[Bool.true_or];rw[if_pos rfl];exact congrArg _ ((Gq λq j=>if_neg λc=>Y.1 (cR.mpr ⟨q,j,c.trans e⟩)).trans (List.map_id _))) (λe=>by
   rw[if_neg e];rw[if_neg (dx e)];rw[decide_eq_false (dx e)];rw[←F];exact fc (motive:=λb=>(if b=ae then p::tM (λx=>if x.1=k then(x.1,v)else x) r else p::r++[(k,v)])=p::if b=ae then tM (λx=>if x.1=k then(x.1,v)else x) r else r++[(k,v)]) rfl rfl (r.any λx=>aO (x.1=k)))) l
theorem HA{A:aD}{s:aw}{l:ag}{y:Array ai}{k:Int}{j:Nat}{t:Tok}{v:ai}{O:Unit→aw→Prop}{U:ai→aw→Prop}(C:s.heap.PlainList l y)
  (N:k=j)(b:Gb k=ae)(Y:j<y.size)
  (E:∀B,B.PlainList l (y.setIfInBounds j v)→iq l s.heap B→O () {s with heap:=B}):
  au (av W w) A (fu (.ref l) (.int k t) v) O U s:=by
 revert W w A s l y k j t v O U;apply aX;generalize aT _=W,aL _=w,e9 _=A,e8 _=s,e7 _=l,e6 _=y,e5 _=k,e4 _=j,e3 _=t,e2 _=v,e1 _=O,e0 _=U;intro C N b Y E
 exact
   aE C λV u=>by
   have J:s.TypeIs (.ref l) "list":=⟨_,u,rfl⟩;refine cC (az (wpAny_sequenceKey J (by decide) (az (wpAny_callSpecial?_slot (name:=aq "__setitem__") J slot_list_setitem (wpAny_call_entry slot_list_setitem J entry_list_setitem ?_ (args_list_setitem _ _ _))))));refine(?_:au _ _ (Builtin.List.listSubscript? (.int k t)>>=_) _ _ s);refine az (wpAny_listSubscript_int b ?_);refine qF N ?_;refine(?_:au _ _ ((seqItemAt l j>>=λr=>a8 (r.map (j,·)))>>=_) _ _ s);refine az (az (wpAny_seqItemAt u rfl (aR ?_)));rw[QA Y];exact az (m:=setSeqItemAt l j v) (wpAny_setSeqItemAt u rfl (aR ⟨.none,rfl,aR (E (s.heap.update l (lZ (·.setIfInBounds j v))) ⟨_,jb _ u rfl⟩ (zx ..))⟩))
theorem Ad{O:Type} [DecidableEq O]{y:ja W w O}{A:aD}{s:aw}{G:Gh}{a:ag}{C:O}{x Y:ai}{v:V}{l:List (O×V)}{M:List (O×ai)}{U:Unit→aw→Prop}{H:ai→aw→Prop}(f:y.is C x=ae)(L:s.heap.DictOf y a M)(R:bR G.im l M)(g:VR G.im v Y)(F:l.length≤1000)
  (q:∀B u p,iq a s.heap B→B.DictOf y a p→bR G.im (cq C v l) p→U () {s with heap:=B,toks:=u}):au (av W w) A (fu (.ref a) x Y) U H s:=
 wpAny_setItem_pairs (knd:=y) (k:=C) f L (λB j i=>q B _ _ i j (Hi (zY L λN N N N N N N N n=>n)▸R.ZA g)) (aW (cN R.Zv) (aW F (by decide)))
theorem Ae{A:aD}{G:Gh}{s:aw}{a r O:ag}{y:Bool}{e:Option (Bool×V)}{v:V}{Y:ai}{D:List (Bool×ag×ai)}{U:Unit→aw→Prop}{L:ai→aw→Prop}(F:Fo A n)(H:HR W w G Z s.heap)(l:VR G.im (fM (cS y)) (.ref r))(g:VR G.im v Y)(C:Z a=aa (.kdict e))(z:KD W w G.im s.heap a D)
  (M:storedH D y r Y=[(y,O,Y)])(N:VR G.im (fM (cS y)) (.ref O))(R:D.length≤eX)(q:∀B u,HR W w G (Z.Zv a (.kdict (aa (y,v)))) B→U () {s with heap:=B,toks:=u}):au (av W w) A (fu (.ref a) (.ref r) Y) U L s:=by
 revert W w n Z A G s a r O y e v Y D U L;apply aX;generalize aT _=W,aL _=w,e9 _=n,e8 _=Z,e7 _=A,e6 _=G,e5 _=s,e4 _=a,e3 _=r,e2 _=O,e1 _=y,e0 _=e;apply eE;generalize e4 _=v,e3 _=Y,e2 _=D,e1 _=U,e0 _=L;intro F H l g C z M N R q
 exact
   wpAny_setItem_heap (knd:=kY W w) (k:=y) F.Zv (l.tk H.im) (z.Zv H) (λB j i=>zY j λo P d t c E m p h=>q B _ (H.Zx (H:=.kdict (aa (y,v))) C rfl rfl i.extBut ⟨[(y,O,Y)],.mk o P d t c E (m.trans (congrArg _ M)) (λx f=>jd.mp f▸N) (dY.mpr ⟨bZ,zL⟩),O,Y,rfl,g⟩)) R
theorem Hj{k:Bool}{D r:ag}{O Y:ai}:storedH [(k,D,O)] k r Y=[(k,D,Y)]:=by rw[storedH_old (p:=(D,O)) (by exact(yM).trans (if_pos rfl))];cases k<;>rfl
theorem Hl{A:aD}{G:Gh}{s:aw}{M:St}{a:ag}{y v:V}{E Y:ai}{O:Unit→aw→Prop}{L:ai→aw→Prop}(F:Fo A n)(H:HR W w G Z s.heap)(hy:VR G.im y E)(g:VR G.im v Y)
  (h:ji Z a y v (Z a)=aa M)(q:∀B U,HR W w G M B→O () {s with heap:=B,toks:=U}):au (av W w) A (fu (.ref a) E Y) O L s:=by
 revert W w n Z A G s M a y v E Y O L;apply aX;generalize aT _=W,aL _=w,e9 _=n,e8 _=Z,e7 _=A,e6 _=G,e5 _=s,e4 _=M,e3 _=a,e2 _=y,e1 _=v,e0 _=E;apply bY;generalize e2 _=Y,e1 _=O,e0 _=L;intro F H hy g h q
 exact
   V.casesOn (motive_1:=λy=>VR G.im y E→ji Z a y v (Z a)=aa M→au (av W w) A (fu (.ref a) E Y) O L s) y (λN h=>nq h) (λN N h=>nq h)
    (λi R h=>R.eI λt=>iJ (λo=>Z a=o→au (av W w) A (fu (.ref a) (.int i t) Y) O L s) h
     (λl e C=>cL (λM=>(∀B U,HR W w G M B→O () {s with heap:=B,toks:=U})→au (av W w) A (fu (.ref a) (.int i t) Y) O L s) e (λc q=>aE (qx c.1) λj ej=>by
      have e:i.toNat=j:=congrArg Int.toNat ej;rw[e]at c q;exact aB (H.ZC C) λD hp Vx=>HA hp ej (fitsIndex_of c.1 (uh (gY c.2.2).2)) (Gg c.2.1 (dz.trans Vx.Zv).symm) λB Vv z=>q B s.toks (H.Zx (H:=.list (l.set j v)) C rfl rfl z.extBut ⟨D.set j Y,(List.setIfInBounds_toArray D j Y▸Vv:B.PlainList a (D.set j Y).toArray),VRs.ZF g _ Vx⟩)) q)
     (λl e C=>cL (λM=>(∀B U,HR W w G M B→O () {s with heap:=B,toks:=U})→au (av W w) A (fu (.ref a) (.int i t) Y) O L s) e (λc q=>aB (H.Zz C) λVw x m=>Ad (y:=dI W w) (C:=i) (kF _ _ _ _) x m g c λB U ws z hm hr=>q B U (H.Zx (H:=.idict (cD i v l)) C rfl rfl z.extBut ⟨_,hm,hr⟩)) q)
     (λN e=>nq e) (λN e=>nq e) (λN N e=>nq e) rfl)
    (λi R h=>R.eS λt=>iJ (λo=>Z a=o→au (av W w) A (fu (.ref a) (.str i t) Y) O L s) h (λN e=>nq e) (λN e=>nq e)
     (λl e C=>cL (λM=>(∀B U,HR W w G M B→O () {s with heap:=B,toks:=U})→au (av W w) A (fu (.ref a) (.str i t) Y) O L s) e (λc q=>aB (H.ZN C) λVw x m=>Ad (y:=iY W w) (C:=i) (tq _ _ _ _) x m g c λB U ws z hm hr=>q B U (H.Zx (H:=.sdict (cq i v l)) C rfl rfl z.extBut ⟨_,hm,hr⟩)) q) (λN e=>nq e) (λN N e=>nq e) rfl)
    (λu R h=>iJ (λo=>Z a=o→au (av W w) A (fu (.ref a) E Y) O L s) h (λN e=>nq e) (λN e=>nq e) (λN e=>nq e)
     (λP e C=>a9 (motive:=λo=>gj (.tup u)=o→k7 Z a v P o=aa M→au (av W w) A (fu (.ref a) E Y) O L s) (gj (.tup u)) (λN e=>nq e) (λVA m e=>aB (H.ZM C) λxs hD Q=>
      have R:VR G.im (fM (cS VA)) E:=oW m▸R
      aE (tZ R) λr er=>by
       subst er
       exact a9 (motive:=λP=>Z a=aa (.kdict P)→k7 Z a v P (aa VA)=aa M→Mine.Internal.KE G.im P xs→au (av W w) A (fu (.ref a) (.ref r) Y) O L s) P
        (λC e Q=>ez (λM=>(∀B U,HR W w G M B→O () {s with heap:=B,toks:=U})→au (av W w) A (fu (.ref a) (.ref r) Y) O L s) e (λq=>Ae F H R g C hD (by rw[show xs=[]from Q];rfl) R (by rw[show xs=[]from Q];exact gy _) q) q)
        (λp C e Q=>cL (λM=>(∀B U,HR W w G M B→O () {s with heap:=B,toks:=U})→au (av W w) A (fu (.ref a) (.ref r) Y) O L s) e (λek q=>dO Q λr' Vy ex Vz=>by
         subst ek;subst ex;exact Ae F H R g C hD Hj (hD.casesOn λo es ep a b c d e f=>e _ (.head _)) (by rw[qm];exact gz rfl) q) q) C e Q) rfl e)
     (λN N e=>nq e) rfl) (λN N h=>nq h) (λN N h=>nq h) hy h
theorem Hk{A:aD}{G:Gh}{s:aw}{M:St}{x y v:V}{p E Y:ai}{O:Unit→aw→Prop}{B:ai→aw→Prop}(F:Fo A n)(H:HR W w G Z s.heap)(U:VR G.im x p)(l:VR G.im y E)(g:VR G.im v Y)
  (h:qN Z x y v=aa M)(q:∀L u,HR W w G M L→O () {s with heap:=L,toks:=u}):au (av W w) A (fu p E Y) O B s:=
 rB (λx=>VR G.im x p→au (av W w) A (fu p E Y) O B s) h (λa e U=>U.eO (Hl F H l g e q)) U
theorem AG.Zz{o i:ar}{N:aN}{v:V}{Q:aA→St→Prop}
  (h:AE W w J n I S o Z (λx U=>AE W w J n I S i U (λy f=>∃m,qN f x y v=aa m∧Q S m) X) X):
  AG W w J n I S (.Subscript o i N) v Z Q X:=
 λA Y G Vv b u F D Vw k e E d=>by
  exact az (cC (h A Y G Vv u F D _ _ (λx rx B U C H g j c M=>az (cC (M A Y B _ u F (D.Zv g j) _ _ (λy ry L f p O a l P M=>aB M λm R q=>
  az (fG (az (cC (Hk (s:={Vv with heap:=p,toks:=O}) F.fo l (c.Zv a.im) P (Vw.Zv (g.Zv a).im) R λt z r=>wpAny_release (E L S m t z ((g.Zv a).x _) (D.Zv (g.Zv a) r) q)))))) (d.e.Zv g)))) d.e))
end
section
variable{W:aK}{w:aJ}{K:aY}{J:ay}{n:Nat}{I:Sc}{S:aA}{Z:St}{X:ak→St→Prop}{Q:Fl→aA→St→Prop}
theorem AX.Zx{t e:ar}{V:aN}(L:∀O,lV e (aa t) V.line O=a8 aj)(N:∀O,jF [t] e O=a8 ah)(P:∀O,(gv [t] O).map (·.2)=[ij t O])
  (h:AE W w J n I S e Z (λv U=>AG W w J n I S t v U (λC M=>Q .next C M) X) X):AX W w J n I S (.Assign [t] e V) Z Q X:=by
 revert W w J n I S Z X Q t e V;apply aX;generalize aT _=W,aL _=w,e9 _=J,e8 _=n,e7 _=I,e6 _=S,e5 _=Z,e4 _=X,e3 _=Q,e2 _=t,e1 _=e,e0 _=V;intro L N P h;intro A O G s b F D r i E d;refine az (fG (?_:au _ _ (lV e (aa t) V.line O>>=_) _ _ _));rw[L O];refine az (aR ?_);rw[if_neg Bool.false_ne_true];refine az (h A O G s b F D _ _ (λv H B U R Y g j c o=>?_) d.e);rw[N O];rw[P O];exact az (aR (az (m:=assignAll H [ij t O]) (o A O B {s with heap:=R,toks:=Y} H b F (D.Zv g j) c _ _ (λu C M z f k y q=>aR (E .next .next u C M z f ((g.x _).Zv k) y .next q)) (d.Zv (g.x _)))))
theorem AX.ZA{e:ar}{V:aN}(L:∀O,lV e ah V.line O=a8 aj)
  (h:AE W w J n I S e Z (λv U=>Q .next S U) X):AX W w J n I S (.Expr e V) Z Q X:=
 λA O G s b F D M N E d=>zl (h A O G s b F D _ _ (λv H B U R Y g j c q=>E .next .next B S U R Y (g.x _) (D.Zv g j) .next q) d.e) (by unfold interactive;refine(bo F.kd)▸ ?_;rfl) (L O)
theorem ic.Zw{Q:aA→St→Prop}{L:List V}(q:Q S Z):ic W w J n I S [] L Z Q X:=
 λA O G s U Y F D N B M E d=>aR (E G S Z s.heap s.toks (.Zw _ _) D q)
theorem ic.Zv{t:ar}{L:List ar}{v:V}{N:List V}{Q:aA→St→Prop}(P:∀O,gv (t::L) O=(aj,ij t O)::gv L O)
  (h:AG W w J n I S t v Z (λc U=>ic W w J n I c L N U Q X) X):ic W w J n I S (t::L) (v::N) Z Q X:=
 λA O G s f H F D l y i E d=>l.eC λr p a b=>by
  rw[P O];exact az (cC (h A O G s _ H F D a _ _ (λB c U R Y g z q=>q A O B {s with heap:=R,toks:=Y} _ H F z (b.Zw g.im) _ _ (λu C M j m k o q=>E u C M j m (g.Zv k) o q) (d.Zv g)) d))
structure yS(O:aH)(f:ar→Option ak):Prop where
 n:∀x p y,f (.Name x p)=aa y→x=y∧O.kindOf x=aa .local
 a:∀o m p,f (.Attribute o m p)=ah
 s:∀o i p,f (.Subscript o i p)=ah
inductive ng(U:List ar)(O:aH)(m:bI (Option (List ak))):Prop
 |none:m=a8 ah→ng U O m
 |some (f D):m=a8 (aa D)→yS O f→D.length=U.length→U.map f=D.map aa→ng U O m
theorem ng.Zv{U:List ar}{O:aH}{c:Prop} [Decidable c]{b:bI (Option (List ak))}(h:¬c→ng U O b):ng U O (if c then a8 ah else b):=
 bW (cx c) (λq=>.none (if_pos q)) λq=>(if_neg q:(if c then a8 ah else b)=b).symm▸h q
theorem KU{O U:Type}{f:O→Option U}{l:List O}:(l.filterMap f).length=l.length→l.map f=(l.filterMap f).map aa:=
 bc (motive:=λl=>(l.filterMap f).length=l.length→l.map f=(l.filterMap f).map aa) (λN=>rfl) (λa l F h=>by
  rw[List.filterMap_cons]at h⊢
  exact a9 (motive:=λo=>((match o with|ah=>l.filterMap f|aa b=>b::l.filterMap f).length=l.length+1)→o::l.map f=(match o with|ah=>l.filterMap f|aa b=>b::l.filterMap f).map aa) (f a)
   (λh=>absurd h (iu (Nat.lt_succ_of_le (List.length_filterMap_le f l)))) (λb h=>congrArg _ (F (zH h))) h) l
theorem Bi{a b:Nat}{c:Bool}(h:¬(a !=b||c)=ae):a=b:=Decidable.byContradiction λq=>h ((congrArg (·||c) (bne_iff_ne.mpr q)).trans (Bool.true_or c))
theorem G7{U L:List ar}{k H:Nat}{r i:aN}{O:aH}(m:L.all (tw 8)=ae→L.all (tv 8)=ae):ng U O (jF [.Tuple U k r] (.Tuple L H i) O):=by
 revert U L k H r i O;apply dQ;generalize e6 _=U,e5 _=L,e4 _=k,e3 _=H,e2 _=r,e1 _=i,e0 _=O;intro m
 exact
   .Zv λN=>.Zv λN=>.Zv λj=>.Zv λz=>.some _ _ (if_neg λA=>z (m A)) ⟨λx p y e=>cL (λy=>x=y∧O.kindOf x=aa .local) e λc=>⟨rfl,bU (cj.mp c).1⟩,λN N N=>rfl,λN N N=>rfl⟩ (Bi j) (KU (Bi j))
theorem Ki(U:List ar)(k:Nat)(r:aN)(O:aH)(e:ar):(∃L H i,e=.Tuple L H i)∨jF [.Tuple U k r] e O=a8 ah:=
 l3 (motive_1:=λe=>(∃L H i,e=.Tuple L H i)∨jF [.Tuple U k r] e O=a8 ah) e (λN N N=>.inr rfl) (λN N N=>.inr rfl) (λN N N N=>.inr rfl) (λN N N=>.inr rfl) (λN N N N=>.inr rfl) (λN N N N=>.inr rfl) (λN N N=>.inr rfl) (λN N N=>.inr rfl) (λN N N N=>.inr rfl) (λN N N N=>.inr rfl) (λN N N N N=>.inr rfl) (λN N N N=>.inr rfl) (λN N=>.inr rfl) (λN N=>.inr rfl) (λN N=>.inr rfl) (λN N N N=>.inr rfl) (λN N N N=>.inr rfl) (λN N N N=>.inr rfl) (λN N=>.inr rfl) (λN N N=>.inr rfl) (λN N N=>.inr rfl) (λN N N=>.inr rfl) (λN N=>.inr rfl) (λN N=>.inr rfl) (λN N=>.inr rfl) (λL k p=>.inl ⟨L,k,p,rfl⟩) (λN N N N=>.inr rfl)
theorem G8{U:List ar}{k:Nat}{r:aN}(e:ar){O:aH}(m:∀L H i,e=.Tuple L H i→L.all (tw 8)=ae→L.all (tv 8)=ae):ng U O (jF [.Tuple U k r] e O):=
 (Ki U k r O e).elim (λh=>tU h λL H i q=>q▸G7 (m L H i q)) .none
noncomputable def mP(l:List (Nat×V)):aA→aA:=bc (motive:=λ_=>aA→aA) (λS=>S) (λp _ f S=>f (cJ p.1 p.2 S)) l
theorem fi{i:Nat}{v:V}{S:aA}{p:Nat×V}:p∈cJ i v S↔p=(i,v)∨(p∈S∧p.1≠i):=
 ⟨λh=>(bf.mp h).imp id λh=>have h:=zN.mp h;⟨h.1,uI h.2⟩,λh=>bf.mpr (h.imp id λh=>zN.mpr ⟨h.1,(zV _).mpr (Bool.eq_false_iff.mpr λc=>h.2 (gA c))⟩)⟩
theorem By{p:Nat×V}{O:List (Nat×V)}:∀{S:aA},(O.map (·.1)).Nodup→(p∈mP O S↔p∈O∨(p∈S∧p.1∉O.map (·.1))):=
 bc (motive:=λO=>∀{S:aA},(O.map (·.1)).Nodup→(p∈mP O S↔p∈O∨(p∈S∧p.1∉O.map (·.1)))) (λ{S} _=>⟨λh=>.inr ⟨h,bZ⟩,λh=>h.elim (λh=>absurd h bZ) qy⟩) (λq r F {S} h=>by
  have Y:=dY.mp h
  exact⟨λa=>((F Y.2).mp a).elim (λa=>.inl (.tail _ a)) λa=>(fi.mp a.1).elim (λe=>.inl (e▸ .head _)) λb=>.inr ⟨b.1,λe=>(bf.mp e).elim b.2 a.2⟩,
   λa=>(F Y.2).mpr (a.elim (λa=>(bf.mp a).elim (λe=>.inr ⟨fi.mpr (.inl e),e▸Y.1⟩) .inl) λa=>.inr ⟨fi.mpr (.inr ⟨a.1,λe=>a.2 (e▸ .head _)⟩),λe=>a.2 (.tail _ e)⟩)⟩) O
theorem Dy.Zw{A:aD}{O:aH}{G:Gh}{h:ay}{C:aA}(D:Dy W w J A O G S Z h)(k:∀p∈C,p∈S):Dy W w J A O G C Z h:=⟨D.top,D.hr,⟨λp t=>D.er.vars p (k p t),D.er.ns,D.er.cells,D.er.cl⟩⟩
theorem Hh{A:aD}{O:aH}{M:Unit→aw→Prop}{H:ai→aw→Prop}(F:Fz A O n)(Y:List (Nat×V)):∀{S:aA} {G:Gh} {s:aw} {U:List ai},Dy W w J A O G S Z s.heap→VRs G.im (Y.map (·.2)) U→
  (∀p∈Y,p.1<cB∧O.kindOf (NM p.1)=aa .local)→(∀B L u,G.c (cH O) B→Dy W w J A O B (mP Y S) Z L→M () {s with heap:=L,toks:=u})→
  au (av W w) A (zr (Y.map λp=>bindName O (NM p.1)) U) M H s:=
 bc (motive:=λY=>∀{S:aA} {G:Gh} {s:aw} {U:List ai},Dy W w J A O G S Z s.heap→VRs G.im (Y.map (·.2)) U→
  (∀p∈Y,p.1<cB∧O.kindOf (NM p.1)=aa .local)→(∀B L u,G.c (cH O) B→Dy W w J A O B (mP Y S) Z L→M () {s with heap:=L,toks:=u})→
  au (av W w) A (zr (Y.map λp=>bindName O (NM p.1)) U) M H s)
  (λD f N E=>aR (E _ _ _ (.Zw _ _) D))
  (λp r d {S G s U} D f N E=>f.eC λt m a b=>az (cC (bindName_ (n9 F D (N p (.head _)).1 rfl (.inl (N p (.head _)).2) a .Zv λC j R e g z=>d z (e.symm▸b) (λq P=>N q (.tail _ P)) λB L u k o=>E B L u (g.Zv k) o)))) Y
inductive E5(W:aK)(w:aJ)(J:ay)(n:Nat)(I:Sc)(S:aA)(X:ak→St→Prop)(U:List ar)(R:aA→St→Prop)(Z:St):V→Prop
 |mk (L):L.length=U.length→ic W w J n I S U L Z R X→
   (∀O f D,yS O f→U.map f=D.map aa→∃Y:List Nat,D=Y.map NM∧Y.Nodup∧(∀i∈Y,i<cB∧O.kindOf (NM i)=aa .local)∧R (mP (Y.zip L) S) Z)→E5 W w J n I S X U R Z (.tup L)
theorem tX{A:aD}{G:Gh}{s:aw}{Y:ai}{L:List V}{k:Nat}{U:List ai→aw→Prop}{N:ai→aw→Prop}(R:A.handled=ah)(H:HR W w G Z s.heap)(F:VR G.im (.tup L) Y)(C:L.length=k)(j:∀O B,VRs G.im L O→HR W w G Z B→U O {s with heap:=B}):
  au (av W w) A (tm Y k ah) U N s:=
 F.eT λr D p d M=>(dz.trans (M.Zv.trans C))▸unpackItems_tuple R (du H d) λB z=>j p B M (H.ZA λb o e=>z b o (iu (eZ e)) e)
theorem HH(O:aH){U:List Nat}{L:List V}(h:U.length=L.length):(U.map NM).reverse.map (λn=>bindName O n)=(U.zip L).reverse.map λp=>bindName O (NM p.1):=by
 conv=>lhs;rw[←Gp (cN h)]
 rw[kS];rw[←zO];rw[kS];rfl
theorem AX.ZE{M:List ar}{k:Nat}{r:aN}{e:ar}{H:aN}(E:∀O,lV e (aa (.Tuple M k r)) H.line O=a8 aj)
  (hc:∀N k' p',e=.Tuple N k' p' →N.all (tw 8)=ae→N.all (tv 8)=ae)(m:∀O,(gv M O).findIdx? (·.1)=ah∧(gv M O).length=M.length)
  (h:AE W w J n I S e Z (λv Y=>E5 W w J n I S X M (Q .next) Y v) X):
  AX W w J n I S (.Assign [.Tuple M k r] e H) Z Q X:=by
 revert W w J n I S Z X Q M k r e H;apply aX;generalize aT _=W,aL _=w,e9 _=J,e8 _=n,e7 _=I,e6 _=S,e5 _=Z,e4 _=X,e3 _=Q,e2 _=M,e1 _=k,e0 _=r;apply bF;generalize e1 _=e,e0 _=H;intro E hc m h
 exact
   λA O G VA b F D RQ i hQ l=>ng.casesOn (G8 e (O:=O) hc)
    (λhw=>Assign_Tuple (h A O G VA b F D _ _ (λv C B Y R U g j c hh=>E5.casesOn (motive:=λv d=>VR B.im v C→au (av W w) A (ij (.Tuple M k r) O C) (λd=>RQ .next) i {VA with heap:=R,toks:=U}) hh (λN L Vv d c=>by
     refine(?_:au _ _ (do dW r;unpack C (gv M O)) _ _ _);refine az (fG ?_);unfold unpack;rw[(m O).1];rw[(m O).2];exact az (cC (tX (s:={VA with heap:=R,toks:=U}) F.hd j c L λP u V H' =>Vv A O B {VA with heap:=u,toks:=U} P b F (D.Zv g H') V _ _ (λG' Vw Vx u tk k D' q=>hQ .next .next G' Vw Vx u tk ((g.x _).Zv k) D' .next q) (l.Zv (g.x _))))) c) l.e) (E O) hw)
    (λVB xs hw hf z Vy=>Assign_Tuple_swapped (h A O G VA b F D _ _ (λv C B Y R U g j c hh=>E5.casesOn (motive:=λv d=>VR B.im v C→au (av W w) A (tm C xs.length ah) (λy o=>au (av W w) A (zr (xs.reverse.map λn=>bindName O n) y.reverse) (λd=>RQ .next) i o) i {VA with heap:=R,toks:=U}) hh
     (λN L d Vz c=>tX (s:={VA with heap:=R,toks:=U}) F.hd j c (L.trans z.symm) λP u V H' =>gV (Vz O VB xs hf Vy) λt ei nd hi q=>by
      subst ei;have x:t.length=N.length:=(bT (f:=NM)).symm.trans (z.trans L.symm);have n1:((t.zip N).map (·.1)).Nodup:=(Gp (cN x)).symm▸nd;have n2:((t.zip N).reverse.map (·.1)).Nodup:=zO▸List.pairwise_reverse.mpr (n1.imp λh=>dx h);rw[HH O x]
      refine Hh (Y:=(t.zip N).reverse) (s:={VA with heap:=u,toks:=U}) F (D.Zv g H') (by rw[zO];rw[List.map_snd_zip (cN x.symm)];exact V.ZA) (λp hp=>hi _ (zK (zM.mp hp)).1) λG' u tk k D' =>
       hQ .next .next G' _ Y u tk ((g.x _).Zv k) (D'.Zw λp hp=>(By n2).mpr (((By n1).mp hp).imp zM.mpr λa=>⟨a.1,λe=>a.2 (zM.mp (zO▸e))⟩)) .next q) c) l.e) (E O) hw)
end
section
variable{W:aK}{w:aJ}{K:aY}{J:ay}{n:Nat}{I:Sc}{S:aA}{Z:St}{X:ak→St→Prop}{Q:V→St→Prop}
theorem AE.Z1{i:Nat}{k:Nat}{p V:aN}(q:Q (.int (-(i:Int))) Z):AE W w J n I S (.UnaryOp .USub (.Constant (.int (i:Int)) k p) V) Z Q X:=
 λA O G s U F D Y B E d=>wpAny_UnaryOp (zm (P.neg_int (E _ _ G Z s.heap _ (.Zw _) D.hr (.int _ _) q)))
def AB(W:aK)(w:aJ)(J:ay)(Y:aN)(z:fK)(n:Nat)(I:Sc)(S:aA)(P:List ar)(Z:St)(Q:V→St→Prop)(X:ak→St→Prop):Prop:=
 ∀A O G s,dG O I→Fz A O n→Dy W w J A O G S Z s.heap→∀B L,
  (∀v N U M R u,G.le U→HR W w U M R→VR U.im v N→Q v M→B N {s with heap:=R,toks:=u})→
  KX W w A G s X L→
  au (av W w) A (boolOp Y z (evalEach P O)) B L s
theorem AB.Zw{V:aN}{z:fK}{e:ar}(h:AE W w J n I S e Z Q X):AB W w J V z n I S [e] Z Q X:=h
def dH(z:fK)(b:Bool)(P R:Prop):Prop:=zE z (bJ b P R) (bJ b R P)
theorem AB.Zv{z:fK}{Y:aN}{x y:ar}{r:List ar}(h:AE W w J n I S x Z (λv U=>∃b,Tr U v b∧dH z b (Q v U) (AB W w J Y z n I S (y::r) U Q X)) X):AB W w J Y z n I S (x::y::r) Z Q X:=by
 revert W w J n I S Z X Q z Y x y r;apply aX;generalize aT _=W,aL _=w,e9 _=J,e8 _=n,e7 _=I,e6 _=S,e5 _=Z,e4 _=X,e3 _=Q,e2 _=z,e1 _=Y,e0 _=x;apply bF;generalize e1 _=y,e0 _=r;intro h
 exact
   λA B G l u F D C P E d=>(az (h A B G l u F D _ _ (λv M L U R O g j c i=>aB i λb t q=>az (fG (az (cC (qH (s:={l with heap:=R,toks:=O}) j c t λO=>
    have stop:∀q:Q v U,au (av W w) A (a8 M) C P {l with heap:=R,toks:=O}:=λq=>aR (E _ _ L U R O g j c q);have p:=λq:AB W w J Y z n I S (y::r) U Q X=>q A B L {l with heap:=R,toks:=O} u F (D.Zv g j) _ _ (λv M m N f o k H V q=>E v M m N f o (g.Zv k) H V q) (d.Zv g)
    by cases z<;>cases b<;>first|exact stop q|exact p q))))) d):au _ A (do
    let v←a7 x B
    dW Y
    let t←fw [v] (truthy v)
    match z,t with
    | .And,aj| .Or,ae=>a8 v
    |_,_=>boolOp Y z (evalEach (y::r) B)) _ _ _)
theorem AE.ZB{z:fK}{P:List ar}{V:aN}(h:AB W w J V z n I S P Z Q X):AE W w J n I S (.BoolOp z P V) Z Q X:=h
theorem sC{o:Co}{x y:V}{z:Bool}{p E:ai}{A:aD}{G:Gh}{s:aw}{Y B:ai→aw→Prop}(C:Cx K J)(u:bD o Z x y=aa z)(F:Fo A n)(T:cW J A G)(H:HR W w G Z s.heap)(c:VR G.im x p)(P:VR G.im y E)(d:KX W w A G s X B)
  (k:∀N R g,G.le N→HR W w N Z R→Y (.bool z) {s with heap:=R,toks:=g}):au (av W w) A (bB (eM o) p E) Y B s:=
 aS.ZB (n:=n) (X:=X) C u (Q:=λv M=>v=.bool z∧M=Z) ⟨rfl,rfl⟩ A G s [p,E] F T H (.cons c (.cons P .nil)) _ _ (λv j U m t O r L b e=>by
  obtain⟨rfl,rfl⟩:=e;exact b.eB (k U t O r L)) d
theorem AE.ZG{l U B:ar}{o H:Co}{j:aN}(C:Cx K J)
  (h:AE W w J n I S l Z (λx Y=>AE W w J n I S U Y (λy f=>∃z,bD o f x y=aa z∧bJ (motive:=λzz=>Prop) z (Q (.bool aj) f) (AE W w J n I S B f (λu m=>∃z,bD H m y u=aa z∧Q (.bool z) m) X)) X) X)
  (hm:lastMarks [eM o,eM H] [U,B]=aj):AE W w J n I S (.Compare l [eM o,eM H] [U,B] j) Z Q X:=
 λA V G VJ hs F D RQ RE hQ d=>Compare_chain (h A V G VJ hs F D _ _ (λx rx E Y VG VE g p c O=>chain_link (O A V E _ hs F (D.Zv g p) _ _ (λy ry VH f k i a Vv P O=>aB O λz hz O=>
  sC (s:={VJ with heap:=k,toks:=i}) C hz F.fo (D.top.le (g.Zv a)) Vv (c.Zv a.im) P (d.Zv (g.Zv a)) λe t v r L=>have R:=(g.Zv a).Zv r
   zj (bJ (motive:=λz=>bJ (motive:=λzz=>Prop) z (Q (.bool aj) f) (AE W w J n I S B f (λu m=>∃z,bD H m y u=aa z∧Q (.bool z) m) X)→if z then au (av W w) A (compareChain j ry [eM H] [a7 B V]) RQ RE {VJ with heap:=t,toks:=v}else RQ (.bool z) {VJ with heap:=t,toks:=v}) z
    (λO=>hQ (.bool aj) _ e _ t v R L (.bool _) O)
    (λO=>chain_last (O A V e _ hs F (D.Zv R L) _ _ (λu ru VI VF Vw N M Vx Vy O=>aB O λz' VD q=>sC (s:={VJ with heap:=Vw,toks:=N}) C VD F.fo (D.top.le (R.Zv M)) Vx (P.Zv (r.Zv M).im) Vy (d.Zv (R.Zv M)) λVz VA b VB VC=>
     hQ (.bool z') _ Vz _ VA b ((R.Zv M).Zv VB) VC (.bool _) q) (d.Zv R))) O)) (d.Zv g))) d) hm
theorem AT.Zw{l a B:ar}{o H:Co}{V:aN}{Q:Bool→St→Prop}(C:Cx K J)
  (h:AE W w J n I S l Z (λx Y=>AE W w J n I S a Y (λy f=>∃z,bD o f x y=aa z∧bJ (motive:=λzz=>Prop) z (Q aj f) (AE W w J n I S B f (λu m=>∃z,bD H m y u=aa z∧Q z m) X)) X) X)
  (hm:lastMarks [eM o,eM H] [a,B]=aj):AT W w J n I S (.Compare l [eM o,eM H] [a,B] V) Z Q X:=by
 revert W w K J n I S Z X l a B o H V Q;apply aX;generalize aT _=W,aL _=w,e9 _=K,e8 _=J,e7 _=n,e6 _=I,e5 _=S,e4 _=Z,e3 _=X,e2 _=l,e1 _=a,e0 _=B;apply dM;generalize e3 _=o,e2 _=H,e1 _=V,e0 _=Q;intro C h hm
 exact
   λA L G VJ hs F D RQ RE hQ d=>isTrue_chain (h A L G VJ hs F D _ _ (λx rx E Y VG VE g p c U=>test_link (U A L E _ hs F (D.Zv g p) _ _ (λy ry VH f k i O Vv P U=>aB U λz hz U=>
    sC (s:={VJ with heap:=k,toks:=i}) C hz F.fo (D.top.le (g.Zv O)) Vv (c.Zv O.im) P (d.Zv (g.Zv O)) λe t v r N=>have j:=(g.Zv O).Zv r
     zj (bJ (motive:=λz=>bJ (motive:=λzz=>Prop) z (Q aj f) (AE W w J n I S B f (λu m=>∃z,bD H m y u=aa z∧Q z m) X)→if z then au (av W w) A (testChain V ry [eM H] [a7 B L]) RQ RE {VJ with heap:=t,toks:=v}else RQ aj {VJ with heap:=t,toks:=v}) z
      (λU=>hQ aj e _ t v j N U)
      (λU=>test_last (U A L e _ hs F (D.Zv j N) _ _ (λu ru VI VF Vw R M Vx Vy U=>aB U λz' VD q=>sC (s:={VJ with heap:=Vw,toks:=R}) C VD F.fo (D.top.le (j.Zv M)) Vx (P.Zv (r.Zv M).im) Vy (d.Zv (j.Zv M)) λVz VA b VB VC=>
       zj (hQ z' Vz _ VA b ((j.Zv M).Zv VB) VC q)) (d.Zv j))) U)) (d.Zv g))) d) hm
theorem HG{A:aD}{G:Gh}{s:aw}{x z:V}{p:ai}{M:ag}{t:Tok}{U L:ai→aw→Prop}(H:HR W w G Z s.heap)(N:VR G.im x p)
  (h:qW x=aa z)(u:s.heap.IsSliceOf M .none .none (.int (-1) t))(q:∀Y O B,G.le O→HR W w O Z B→VR O.im z Y→U Y {s with heap:=B}):ko W w A s U L p (.ref M):=
 oM (λx=>VR G.im x p→ko W w A s U L p (.ref M)) h (λl e N=>N.eL λr D g d R=>cL (λz=>(∀Y O B,G.le O→HR W w O Z B→VR O.im z Y→U Y {s with heap:=B})→ko W w A s U L (.ref r) (.ref M)) e (λC q=>
  .mk "list" _ zn.lookup (F7 (du H d)) (wpAny_getItem_list_slice (du H d) u .none .none (.int _ _) (λc=>absurd (aI c) (by decide)) (by
   rw[krv_pick];exact(H.Zy (o:=my g.reverse) rfl).casesOn λF i a=>q _ _ _ F i (.lst a ((R.Zw F.im).ZA))) (gG R C))) q) N
theorem AE.Z3{o:ar}{v:Nat}{M N p Y:aN}(h:AE W w J n I S o Z (λx U=>∃z,qW x=aa z∧Q z U) X):
  AE W w J n I S (.Subscript o (.Slice ah ah (aa (.UnaryOp .USub (.Constant (.int 1) v M) N)) p) Y) Z Q X:=
 λVv B G Vw u F D C d E t=>Subscript_ (h Vv B G Vw u F D _ _ (λx rx L U R O g j c m=>wpAny_Slice (F3 (F3 (evalPart_some_step (wpAny_UnaryOp (zm (P.neg_int (aB m λz f q=>
   (HG (s:={Vw with heap:=R.push {cls:=.type "slice",data:=.fields #[.none,.none,.int (-1) (O+1)]},toks:=O+1+1}) (A:=Vv) (L:=d) (U:=C) (j.ZA (λy y e=>bM _ e)) c f (Heap.IsSliceOf.new ..)
    (λr i b k H V=>E z r i U b _ (g.Zv k) H V q)).casesOn λT' id l a h3=>kN a l h3 rfl)))))))) t)
theorem AX.ZF{i:Nat}{x:ak}{k:Int}{e:ar}{p L:aN}{Q:Fl→aA→St→Prop}(f:i<cB)(N:NM i=x)(H:I.names.lookup x=aa .local ∨I.names.lookup x=aa .cell)(b:(i,.int k)∈S)(m:(x==("__classdict__":ak))=aj)
  (h:AE W w J n I S e Z (λy U=>∃z,oI y aa=aa z∧Q .next (cJ i (.int (k+z)) S) U) X):
  AX W w J n I S (.AugAssign (.Name x p) .Add e L) Z Q X:=
 λA M G Vv B F D RQ RE E d=>wpAny_AugAssign_Name (BV N b F D m λrv u=>h A M G Vv B F D _ _ (λy C Y U R O g V c r=>aB r λz v q=>cP (λy=>VR Y.im y C→_) v (λj e c=>oE (P:=λz=>Q .next (cJ i (.int (k+z)) S) U→_) e (λq=>u.eI λt=>c.eI λt' =>P.iadd_int
  (n9 (s:={Vv with heap:=R,toks:=O+1}) F (D.Zv g V) f N (H.imp (cU B) (cU B)) (.int _ _) .Zv λo l a zz k D' =>E .next .next o _ U l a ((g.x _).Zv k) D' .next q)) q) c) d.e)
theorem uH{W:aK}{w:aJ}{O:Type} [DecidableEq O]{y:ja W w O}{h:ay}{a:ag}(e:h.get? a=aa {cls:=.type "dict",data:=.dict #[]}):h.DictOf y a []:=⟨_,_,_,e,⟨rfl,rfl,rfl⟩,rfl,λN z=>absurd z (Array.not_mem_empty _),.nil,zL⟩
inductive qd:O→Prop
 |i:qd (.idict [])
 |s:qd (.sdict [])
 |k:qd (.kdict ah)
theorem AE.Zw{U:aN}{Q:V→St→Prop}{o:O}(u:qd o)(q:∀a,Z a=ah→Q (.obj a) (Z.Zv a o)):AE W w J n I S (.Dict [] [] U) Z Q X:=
 λA B G s L F D M R E d=>
 have Y:=eV s.heap;have b:(s.heap.push {cls:=.type "dict",data:=.dict #[]}).get? s.heap.objs.size=aa {cls:=.type "dict",data:=.dict #[]}:=gQ _ rfl
 wpAny_Dict_empty (E _ _ G _ _ _ (.Zw _) (D.hr.ZJ (o:=o) Y (λN N e=>bM _ e) (u.casesOn rfl rfl rfl)
  (qd.casesOn (motive:=λo N=>OR W w G.im (s.heap.push {cls:=.type "dict",data:=.dict #[]}) s.heap.objs.size s.heap.objs.size o) u ⟨[],uH b,.nil⟩ ⟨[],uH b,.nil⟩
   ⟨[],.mk _ _ _ b ⟨rfl,rfl,rfl⟩ rfl rfl (λN z=>absurd z bZ) zL,rfl⟩)) (.obj _) (q _ (D.hr.Zv Y).mu))
end
noncomputable def Gh.Zw(G:Gh)(a:ag)(o:aC):Gh:=⟨G.im,iF G.pv a (aa o),λb=>if b=a then aj else G.fm b⟩
theorem rR{G:Gh}{r:ag}{o:aC}(e:G.pv r=ah):G.le (G.Zw r o):=⟨λN N q=>q,λa x q=>⟨x.slots,hV e a x q⟩,λa x q=>⟨if_neg (λz=>aG (e.symm.trans (z▸q))),λN=>hV e a x q⟩⟩
theorem Ou{G O:Gh}{r:ag}{o:aC}(k:(G.Zw r o).le O):O.pv r=aa o∧O.fm r=aj:=
 have h:=k.fx r o (bE _ _ _);have I:(G.Zw r o).fm r=aj:=if_pos rfl
 ⟨h.2 I,h.1.trans I⟩
theorem rQ{b G:Gh}{r:ag}(k:b.le G)(e:b.pv r=ah):b.le (G.Zv r ah):=by
 revert b G r;apply bY;generalize e2 _=b,e1 _=G,e0 _=r;intro k e
 exact
   have g:∀a o,b.pv a=aa o→a≠r:=λa o q z=>aG (e.symm.trans (z▸q))
   ⟨k.im,λa o q=>aE (k.pv a o q) λM h=>⟨M,(bv _ _ (g a o q)).trans h⟩,λa o q=>⟨(k.fx a o q).1,λz=>(bv _ _ (g a o q)).trans ((k.fx a o q).2 z)⟩⟩
section
variable{W:aK}{w:aJ}{K:aY}{J:ay}{n:Nat}{I:Sc}{S:aA}{Z:St}{X:ak→St→Prop}
theorem HR.ZG{G:Gh}{h B:ay}{r:ag}{o:aC}(x:HR W w G Z h)(e:h.get? r=ah)(k:∀b o,h.get? b=aa o→B.get? b=aa o)(E:B.get? r=aa o):HR W w (G.Zw r o) Z B:=(x.ZR e k E).fm
theorem HR.ZT{G:Gh}{h B:ay}{r:ag}{t:aC}{o:O}(x:HR W w G Z h)(e:G.pv r=aa t)(k:gx r h B)(U:dK o=aj)(E:OR W w G.im B r r o):HR W w (G.Zv r ah) (Z.Zv r o) B:=
 x.ZB (λN N q=>q) (λa c=>⟨rfl,bv _ _ c,St.Zw _ _ c,λo q=>k a o c q⟩) (.m (St.Zx _ _ _) U E (x.Zw e).1 (bE _ _ _)) (.inr λf=>aG (f.pv.symm.trans e))
noncomputable def Gh.ZA(G:Gh)(r:ag)(o:aC):Gh:=⟨iF G.im r (aa o),iF G.pv r ah,G.fm⟩
theorem J1{b G:Gh}{r:ag}{o t:aC}(k:b.le G)(e:b.pv r=ah)(O:G.im r=ah):b.le (G.ZA r o):=
 have d:=rQ k e
 ⟨λx y q=>hV O x y (k.im x y q),d.pv,d.fx⟩
theorem HR.ZZ{G:Gh}{h B:ay}{r:ag}{t o:aC}(x:HR W w G Z h)(e:G.pv r=aa t)(k:gx r h B)(E:B.get? r=aa o):HR W w (G.ZA r o) Z B:=
 x.ZB (hV (x.Zw e).1) (λa c=>⟨bv _ _ c,bv _ _ c,rfl,λo q=>k a o c q⟩) (.i (bE _ _ _) E (bE _ _ _) (x.Zw e).2) (.inr λf=>aG (f.pv.symm.trans e))
def AD(W:aK)(w:aJ)(J:ay){Y:Type} [DecidableEq Y](y:ja W w Y)(N:aN)(n:Nat)(I:Sc)(S:aA)(i:List Y)(z:List (Option ar))(P:List ar)(Z:St)(Q:List V→St→Prop)(X:ak→St→Prop):Prop:=
 ∀A O G s,dG O I→Fz A O n→Dy W w J A O G S Z s.heap→∀R H,
  (∀L r M B U F u,G.le B→HR W w B U F→bR B.im (i.zip L) M→Carries y r M→L.length=i.length→Q L U→R r {s with heap:=F,toks:=u})→
  KX W w A G s X H→
  au (av W w) A (evalPairs (pairTrees z P O N)) R H s
theorem AD.Zw{U:Type} [DecidableEq U]{y:ja W w U}{O:aN}{Q:List V→St→Prop}(q:Q [] Z):AD W w J y O n I S [] [] [] Z Q X:=
 λA Y G s B F D L M E d=>pairTrees_nil_walk (E [] [] [] G Z s.heap s.toks (.Zw _) D.hr .nil trivial rfl q)
theorem AD.Zv{N:Type} [DecidableEq N]{y:ja W w N}{B:aN}{k:N}{o e:ar}{t:List N}{z:List (Option ar)}{E:List ar}{Q:List V→St→Prop}
  (hk:∀(A:aD) O s (H:ai→aw→Prop) m,(∀x u,y.is k x=ae→H x {s with toks:=u})→au (av W w) A (a7 o O) H m s)
  (h:AE W w J n I S e Z (λv U=>AD W w J y B n I S t z E U (λC f=>Q (v::C) f) X) X):AD W w J y B n I S (k::t) (aa o::z) (e::E) Z Q X:=
 λA O G s hs F D H m hQ hX=>pairTrees_cons_walk (hk A O s _ _ λx u d=>h A O G {s with toks:=u} hs F D _ _ (λv rv L U R Y g j c hr=>hr A O L {s with heap:=R,toks:=Y} hs F (D.Zv g j) _ _ (λC r P M f p i a l b hc hl q=>
  hQ (v::C) ((x,rv)::r) ((k,rv)::P) M f p i (g.Zv a) l (.cons (c.Zv a.im) b) ⟨d,rfl,hc⟩ (congrArg (·+1) hl) q) (hX.Zv g)) hX)
theorem AE.ZU{L:Type} [DecidableEq L]{y:ja W w L}{m:List (L×V)→O}(u:∀x h a d l M,h.DictOf y a M→bR x l M→OR W w x h a d (m l))(p:∀l,dK (m l)=aj)
  {Y:aN}{i:List L}{z:List (Option ar)}{P:List ar}{Q:V→St→Prop}(f:i.Nodup)(v:z.all (·.isSome)=ae)(hl:z.length=P.length)(h0:z≠ [])(B:z.length≤15)
  (h:AD W w J y Y n I S i z P Z (λN U=>∀a,U a=ah→Q (.obj a) (U.Zv a (m (i.zip N)))) X):AE W w J n I S (.Dict z P Y) Z Q X:=
 λA H Vy s hs F D RQ RE hQ hX=>
 have hf:=eV s.heap;have F0:=D.hr.Zv hf;have R:=rR (G:=Vy) (o:={cls:=.type "dict",data:=.dict #[]}) F0.pv
 wpAny_Dict_walk (knd:=y) v hl h0 B (h A H (Vy.Zw s.heap.objs.size {cls:=.type "dict",data:=.dict #[]}) {s with heap:=s.heap.push {cls:=.type "dict",data:=.dict #[]}} hs F (D.Zv R (D.hr.ZG hf (λzz zz e=>bM _ e) (gQ _ rfl))) _ _
  (λN Vx M Vv U Vw c g j b hc C q=>
   have t:=(Ou g).1;have k:M.map (·.1)=i:=b.Zz.trans (Gp (cN C.symm))
   ⟨M,hc,uH (j.pv _ _ t),λh' E r=>hQ _ _ _ _ h' _ (rQ (R.Zv g) F0.pv) (j.ZT (o:=m (i.zip N)) t r.extBut (p _) (u _ _ _ _ _ _ (merged_nil_of_nodup _ (k.symm▸f)▸E) b)) (.obj _) (q _ (j.Zw t).2)⟩) (hX.Zv R))
end
noncomputable def IF(f:String):Bool:= !(["enumerate","zip","dict_itemiterator","dict_reverseitemiterator","odict_iterator","itertools.zip_longest","itertools.pairwise"].contains f)
inductive ta(o:aC):Prop
 |mk (c L):o.cls=.type c→IF c=ae→o.data=.fields L→ta o
structure gm(W:aK)(w:aJ)(l:List V)(J:bV)(r:ag)(P:Gh→Nat→aC→Prop):Prop where
 mono:∀G Y j o,fU G.im Y.im→P G j o→P Y j o
 step:∀A G Z s j o v,A.handled=ah→HR W w G Z s.heap→G.pv r=aa o→P G j o→dk J Z→l[j]? =aa v→∀O U,
  (∀S B H u,VR G.im v S→B.get? r=aa H→gx r s.heap B→P G (j+1) H→O (aa S) {s with heap:=B,toks:=u})→au (av W w) A (pyNext (.ref r)) O U s
 stop:∀A G Z s o,A.handled=ah→HR W w G Z s.heap→G.pv r=aa o→P G l.length o→dk J Z→∀O U,
  (∀B,gx r s.heap B→O ah {s with heap:=B})→au (av W w) A (pyNext (.ref r)) O U s
 self:∀A (s:aw) o G,s.heap.get? r=aa o→P G 0 o→∀O U,O (.ref r) s→au (av W w) A (fX (.ref r)) O U s
 cls:∀G j o,P G j o→ta o
section
variable{W:aK}{w:aJ}
inductive iU(Z:ar):Prop
 |n:(∀c Y,zo Z c Y=a8 ())→iU Z
 |t (O k p):Z=.Tuple O k p→iU Z
theorem KF{A:aD}{s:aw}{r a:ag}{o:aC}{Z:List ar}{k:Nat}{p:aN}{O:Unit→aw→Prop}{U:ai→aw→Prop}(u:s.heap.get? r=aa o)(h:ta o)(q:O () s):
  au (av W w) A (zo (.Tuple Z k p) (.ref r) (.ref a)) O U s:=h.casesOn λc L m Y S=>by
 refine az (wpAny_load u ?_);refine(bo m)▸ ?_;refine(bo S)▸ ?_;exact iD (λe=>absurd ((zV _).mp Y) (ne_false_of_eq_true (cj.mp e).1)) (aR q)
theorem KG{A:aD}{s:aw}{r:ag}{o:aC}{a:ar}{Y:ai}{O:Unit→aw→Prop}{Z:ai→aw→Prop}(P:iU a)(u:s.heap.get? r=aa o)(h:ta o)(q:O () s):
  au (av W w) A (zo a (.ref r) Y) O Z s:=
 P.casesOn (λe=>e _ _▸aR q) λU k p e=>e▸by cases Y<;>first|exact KF u h q|exact aR q
inductive pX(T:String)(a:ag)(R:Gh→Prop)(G:Gh)(j:Nat)(o:aC):Prop
 |mk:o.cls=.type T→o.data=.fields #[.ref a,.int j 0]→R G→pX T a R G j o
theorem EU{f:ag→Option aC}{l:List V}{L:List ai}(h:VRs f l L):L.toArray[l.length]? =ah:=Gu.trans (List.getElem?_eq_none (cN h.Zv))
theorem gm.Zv{l:List V}{Z:bV}{r a:ag}{R:Gh→Prop}(e:∀G J,fU G.im J.im→R G→R J)(i:∀G U h,HR W w G U h→dk Z U→R G→∃L,h.IsList a L.toArray∧VRs G.im l L):gm W w l Z r (pX "list_iterator" a R)where
 mono:=λG J j o k p=>p.casesOn λa b c=>.mk a b (e _ _ k c)
 step:=λA G U s j o v B H t p O u M N Y=>p.casesOn λm S z=>aB (i _ _ _ H O z) λL I g=>pf g u λK E f=>wpAny_pyNext_list_item ⟨o,H.pv _ _ t,m,S⟩ I E λP d O=>bH d λD F C X=>Y K P D s.toks f F O.extBut (.mk C X z)
 stop:=λA G U s o B H t p O M N Y=>p.casesOn λm S z=>aB (i _ _ _ H O z) λL I g=>wpAny_pyNext_list_end B ⟨o,H.pv _ _ t,m,S⟩ I (EU g) Y
 self:=λA s o G y p M N q=>p.casesOn λm S n=>wpAny_pyIter_listiter ⟨o,y,m,S⟩ q
 cls:=λG j o p=>p.casesOn λm S n=>.mk _ _ m (by decide) S
inductive pR(T:String)(a:ag)(l:List V)(G:Gh):Prop
 |mk (n L):G.im a=aa (eJ T L n)→VRs G.im l L→pR T a l G
theorem pR.Zv{T:String}{a:ag}{l:List V}(G O:Gh)(k:fU G.im O.im)(h:pR T a l G):pR T a l O:=h.casesOn λn L e v=>.mk n L (k _ _ e) (v.Zw k)
theorem gm.Zz{l:List V}{r a:ag}:gm W w l ah r (pX "list_iterator" a (pR "list" a l)):=.Zv pR.Zv λG Z h H N p=>p.casesOn λn L e v=>⟨L,du H e,v⟩
theorem gm.Zw{l:List V}{r a:ag}:gm W w l (aa (a,.list l)) r (pX "list_iterator" a λN=>True):=.Zv (λN N N h=>h) λG Z h H O N=>H.ZD O
theorem gm.ZA{l:List V}{r a:ag}:gm W w l ah r (pX "tuple_iterator" a (pR "tuple" a l))where
 mono:=λG P j o k p=>p.casesOn λa b c=>.mk a b (c.Zv _ _ k)
 step:=λA G B s j o v U H t p O I J Y Z=>p.casesOn λm S z=>z.casesOn λn L e g=>pf g I λM E f=>wpAny_pyNext_tuple_item ⟨o,H.pv _ _ t,m,S⟩ (du H e) E λN d O=>bH d λR F C X=>Z M N R s.toks f F O.extBut (.mk C X z)
 stop:=λA G B s o U H t p O J Y Z=>p.casesOn λm S z=>z.casesOn λn L e g=>wpAny_pyNext_tuple_end U ⟨o,H.pv _ _ t,m,S⟩ (du H e) (EU g) Z
 self:=λA s o G u p J Y q=>p.casesOn λm S K=>wpAny_pyIter_tupleiter ⟨o,u,m,S⟩ q
 cls:=λG j o p=>p.casesOn λm S K=>.mk _ _ m (by decide) S
theorem bR.at{Z:Type}{f:ag→Option aC}{l:List (Z×V)}{O:List (Z×ai)}(h:bR f l O):∀(j:Nat) (p:Z×V),l[j]? =aa p→∃x,O[j]? =aa (p.1,x):=
 bR.rec (motive:=λl O N=>∀(j:Nat) (p:Z×V),l[j]? =aa p→∃x,O[j]? =aa (p.1,x)) (λN N e=>aG e) (λ{k v r l O} _ _ F j p=>qu (motive:=λj=>((k,v)::l)[j]? =aa p→∃x,((k,r)::O)[j]? =aa (p.1,x)) j (λe=>⟨r,aI e▸rfl⟩) λj e=>F j p e) h
inductive FP(a:ag)(m r:Nat)(G:Gh)(j:Nat)(o:aC):Prop
 |mk:o.cls=.type "dict_keyiterator"→o.data=.fields #[.ref a,.int j 0,.int m 0,.int r 0]→FP a m r G j o
theorem gm.Zy{l:List (Int×V)}{r a:ag}{Y:Nat}:gm W w (l.map λp=>Mine.Internal.V.int p.1) (aa (a,.pdict Y l)) r (FP a l.length Y)where
 mono:=λG c j o k p=>p.casesOn .mk
 step:=λA G N s j o v B H Z p O R I L J=>p.casesOn λm S=>aB (H.ZE O) λM z U=>aB (tI.mp (jf.symm.trans R)) λp P (u:Mine.Internal.V.int p.1=v)=>aE (U.at j p P) λx K=>
  wpAny_pyNext_dict_item (knd:=dI W w) (i:=j) ⟨o,H.pv _ _ Z,m,U.Zv.symm▸S⟩ z K λy g b d O=>bH d λE F C X=>aE (F5 b) λt f=>J y g E s.toks (f.symm▸u▸VR.int _ t) F O.extBut (.mk C (U.Zv▸X))
 stop:=λA G N s o B H Z p O I L J=>p.casesOn λm S=>aB (H.ZE O) λM z U=>wpAny_pyNext_dict_end (knd:=dI W w) B (i:=l.length) ⟨o,H.pv _ _ Z,m,by rw[U.Zv];rw[bT]at S;exact S⟩ z (List.getElem?_eq_none (cN U.Zv)) J
 self:=λA s o G D p I L q=>p.casesOn λm S=>wpAny_pyIter_keyiter (n:=l.length) ⟨o,D,m,S⟩ q
 cls:=λG j o p=>p.casesOn λm S=>.mk _ _ m (by decide) S
theorem gm.Zx{l:List V}{r:ag}{a c:Int}(C:∀(j:Nat) (v:V),l[j]? =aa v→v=V.int (a+c*(j:Int))):gm W w l ah r (λG j o=>o={cls:=.type "range_iterator",dict:=ah,data:=.fields #[eY (a+c*(j:Int)),eY ((l.length:Int)- (j:Int)),eY c],slots:= #[]})where
 mono:=λG M j o k h=>h
 step:=λA G B s j o v U H t e O J Y S Z=>by
  subst e;refine wpAny_pyNext_range_item (H.pv _ _ t) (Int.sub_pos_of_lt (kT.mpr (jN.mp J).1)) λI d L=>Z _ I _ _ (C j v J▸ .int _ _) d L.extBut ?_;rw[Int.natCast_add];rw[Int.mul_add];rw[Int.sub_sub];rw[Int.add_assoc];rw[Int.natCast_one];rw[Int.mul_one]
 stop:=λA G B s o U H t e O Y S Z=>by
  subst e;exact wpAny_pyNext_range_end U (H.pv _ _ t) (Int.le_of_eq (Int.sub_self _)) Z
 self:=λA s o G u e Y S q=>wpAny_pyIter_rangeiter (e▸u) q
 cls:=λG j o e=>by subst e;exact .mk _ _ rfl (by decide) rfl
end
theorem rS{P:ag→Prop}{b G:Gh}{r:ag}{x:Option aC}(k:b.c P G)(e:b.pv r=ah):b.c P (G.Zv r x):=
 have g:∀a o,b.pv a=aa o→a≠r:=λa o q z=>aG (e.symm.trans (z▸q))
 ⟨k.im,λa o n q=>aE (k.pv a o n q) λM h=>⟨M,(bv _ _ (g a o q)).trans h⟩,λa o n q=>⟨(k.fx a o n q).1,λz=>(bv _ _ (g a o q)).trans ((k.fx a o n q).2 z)⟩⟩
theorem vK{P:ag→Prop}{b G:Gh}{r:ag}{o:aC}(k:b.c P G)(n:¬P r)(e:b.pv r=aa o)(f:b.fm r=aj):G.pv r=aa o∧G.fm r=aj:=⟨(k.fx r o n e).2 f,(k.fx r o n e).1.trans f⟩
theorem fE.Zw{A:aD}{G:Gh}{r:ag}{x:Option aC}(f:G.fm r=aj)(F:fE A G):fE A (G.Zv r x):=F.casesOn λl e k=>.mk l e λO z=>(k O z).casesOn λL H a b c Q K=>
 .mk L H a b ((bv _ _ λq=>aF (((congrArg G.fm q).trans f).symm.trans K)).trans c) Q K
section
variable{W:aK}{w:aJ}{K:aY}{J:ay}{n:Nat}{I:Sc}{S:aA}{Z:St}{X:ak→St→Prop}
theorem ER.Zv{G:Gh}{O:aH}{r:ag}{x:Option aC}(D:ER G O S)(U:¬cH O r):ER (G.Zv r x) O S:=by
 revert S G O r x;apply eE;generalize e4 _=S,e3 _=G,e2 _=O,e1 _=r,e0 _=x;intro D U
 exact
   have P:O.locals≠r:=λq=>U (.inl q.symm);have v:∀y c,O.cells.lookup y=aa c→c≠r:=λy c e q=>U (.inr ⟨y,q▸e⟩)
   ⟨λp t=>⟨(D.vars p t).1,(D.vars p t).2.casesOn (λY h z=>.n Y h (z.Zv P)) λY h z=>.c Y h (z.Zv (v _))⟩,D.ns.casesOn λo V B a b c=>.mk o V B ((bv _ _ P).trans a) b c,λy l=>(D.cells y l).Zv (v _),
    λy c e=>aE (D.cl y c e) λo a=>⟨o,(bv _ _ (v _ _ e)).trans a⟩⟩
theorem ER.Zw{G:Gh}{O:aH}(D:ER G O S){r:ag}(h:cH O r):∃o,G.pv r=aa o:=
 h.elim (λq=>D.ns.casesOn λo N N a N N=>⟨o,q▸a⟩) λh=>aE h λx h=>D.cl x r h
theorem HR.ZI{G:Gh}{h B:ay}{r:ag}{t:aC}(x:HR W w G Z h)(e:G.pv r=aa t)(k:gx r h B):HR W w (G.Zv r ah) Z B:=
 x.ZB (λN N q=>q) (λa c=>⟨rfl,bv _ _ c,rfl,λo q=>k a o c q⟩) (.n (x.Zw e).1 (bE _ _ _) (x.Zw e).2) (.inr λf=>aG (f.pv.symm.trans e))
theorem Dy.Zy{A:aD}{O:aH}{G:Gh}{h B:ay}{r:ag}{o H:aC}(D:Dy W w J A O G S Z h)(e:G.pv r=aa o)(f:G.fm r=aj)(U:¬cH O r)(k:gx r h B)(u:B.get? r=aa H):Dy W w J A O (G.Zv r (aa H)) S Z B:=
 ⟨⟨D.top.t,D.top.fr.Zw f⟩,D.hr.ZF e k u,D.er.Zv U⟩
theorem Dy.Zx{A:aD}{O:aH}{G:Gh}{h B:ay}{r:ag}{o:aC}(D:Dy W w J A O G S Z h)(e:G.pv r=aa o)(f:G.fm r=aj)(U:¬cH O r)(k:gx r h B):Dy W w J A O (G.Zv r ah) S Z B:=
 ⟨⟨D.top.t,D.top.fr.Zw f⟩,D.hr.ZI e k,D.er.Zv U⟩
theorem iT.Zw{A:aD}{O:aH}{G:Gh}{N:aw}{U:ai→aw→Prop}(F:Fz A O n)(d:iT W w A O G N X U):iT W w A O G N X (fv (av W w) A O (lX (av W w) A O U)):=
 dO F.fr λg l C Y k V L M B u v f x=>by
  unfold fv lX nG tu;refine(bo Y)▸ ?_;exact gO.Zw (P:={N with heap:=B,toks:=u}) f C λm p o c=>d k V m M p u (v.Zv (o.x _)) c x
def KI(W:aK)(w:aJ)(G:Gh)(s:aw)(Q:List V→bV→St→Prop)(Y:ai→aw→Prop):Prop:=
 ∀l U r P o O M B u,G.le O→HR W w O M B→O.pv r=aa o→O.fm r=aj→G.pv r=ah→gm W w l U r P→P O 0 o→Q l U M→Y (.ref r) {s with heap:=B,toks:=u}
def AI(W:aK)(w:aJ)(J:ay)(n:Nat)(I:Sc)(S:aA)(e:ar)(Z:St)(Q:List V→bV→St→Prop)(X:ak→St→Prop):Prop:=
 ∀A O G s,dG O I→Fz A O n→Dy W w J A O G S Z s.heap→∀Y U,KI W w G s Q Y→KX W w A G s X U→au (av W w) A (a7 e O) (λx D=>au (av W w) A (fX x) Y U D) U s
def gP(j:aA→St→Prop)(Q:Fl→aA→St→Prop)(y:Fl)(S:aA)(Z:St):Prop:=Fl.casesOn y (j S Z) (Q .next S Z) (j S Z) λv=>Q (.ret v) S Z
@[elab_as_elim] theorem C4{f:ag→Option aC}{y:Fl}{g:Flow}{R:Flow→Prop}{j:aA→St→Prop}{Q:Fl→aA→St→Prop}(h:jB f y g)(q:gP j Q y S Z)(n:j S Z→R .next)(c:j S Z→R .cont)(b:Q .next S Z→R .brk)(r:∀v Y,jB f (.ret v) (.ret Y)→Q (.ret v) S Z→R (.ret Y)):R g:=
 jB.casesOn (motive:=λy g N=>gP j Q y S Z→R g) h n b c (λv q=>r _ _ (.ret v) q) q
def gq(W:aK)(w:aJ)(J:ay)(n:Nat)(I:Sc)(t:ar)(i:List bh)(O:bV)(Q:Fl→aA→St→Prop)(X:ak→St→Prop)(l:List V):aA→St→Prop:=
 bc (motive:=λ_=>aA→St→Prop) (λS Z=>dk O Z∧Q .next S Z) (λv _ F S Z=>dk O Z∧AG W w J n I S t v Z (λc U=>AS W w J n I c i U (gP F Q) X) X) l
inductive zd(W:aK)(w:aJ)(J:ay)(A:aD)(O:aH)(G:Gh)(s:aw)(l:List V)(r:ag)(P:Gh→Nat→aC→Prop)(E:List V→aA→St→Prop):Nat→aw→Prop
 |mk (j U C M o h u):j≤l.length→G.c (cH O) U→Dy W w J A O U C M h→U.pv r=aa o→U.fm r=aj→P U j o→E (l.drop j) C M→zd W w J A O G s l r P E (l.length-j) {s with heap:=h,toks:=u}
theorem DL{l:List V}{j:Nat}{C:Prop}(E:List V→Prop)(O:j≤l.length)(h:E (l.drop j))(P:j=l.length→E []→C)(s:∀v,l[j]? =aa v→j<l.length→E (v::l.drop (j+1))→C):C:=
 (Nat.lt_or_eq_of_le O).elim (λq=>s l[j] (l7 q) q (Qx q▸h)) λq=>P q (List.drop_eq_nil_of_le (cN q.symm)▸h)
theorem AX.Zv{t a:ar}{i:List bh}{u:aN}{Q:Fl→aA→St→Prop}(ht:iU t)(hs:∀O x,ie a O x=a8 x)
  (h:AI W w J n I S a Z (λl Y U=>gq W w J n I t i Y Q X l S U) X):AX W w J n I S (.For t a i [] u) Z Q X:=by
 revert W w J n I S Z X t a i u Q;apply aX;generalize aT _=W,aL _=w,e9 _=J,e8 _=n,e7 _=I,e6 _=S,e5 _=Z,e4 _=X,e3 _=t,e2 _=a,e1 _=i,e0 _=u;apply aP;generalize e0 _=Q;intro ht hs h
 exact
   λA O G VH C F D RQ RE hQ hX=>wpAny_For (h A O G VH C F D _ _ (λl Y r P o Vz U VA k g VB hp hf hr VI hP q=>
    have nl:¬cH O r:=λho=>aE (D.er.Zw ho) λo' q=>aG (hr.symm.trans q);have Vv:=iT.Zw F hX
    codeAny_forLoop_any (zd W w J A O G VH l r P (gq W w J n I t i Y Q X)) (λm s' hI=>by
     cases hI with|mk j G' Vw M o' h' VC hj kk D' B d Vx R=>
     exact DL (λl=>gq W w J n I t i Y Q X l Vw M) hj R (λe R=>VI.stop A G' M _ o' F.hd D'.hr B (e▸Vx) R.1 _ _ λp he=>aR (hQ .next .next _ Vw M p VC (rS kk hr) (D'.Zx B d nl he) .next R.2))
      λv hl Vy R=>VI.step A G' M _ j o' v F.hd D'.hr B Vx R.1 hl _ _ λrv p V H hv b he c=>
       have E:G.c (cH O) (G'.Zv r (aa V)):=rS kk hr
       KG (s:={VH with heap:=p,toks:=H}) ht b (VI.cls _ _ _ c) (R.2 A O _ {VH with heap:=p,toks:=H} rv C F (D'.Zy B d nl he b) hv _ _ (λG3 VF VG h3 VD k3 D3 hb=>
        hb A O G3 {VH with heap:=h3,toks:=VD} C F D3 _ _ (λfl rfl' G4 L f h4 N k4 D4 VE q=>by
         have y:=k3.Zv k4;have z:G.c (cH O) G4:=E.Zv y
         have on:gq W w J n I t i Y Q X (l.drop (j+1)) L f→∃m,m<l.length-j∧zd W w J A O G VH l r P (gq W w J n I t i Y Q X) m {VH with heap:=h4,toks:=N}:=λq=>
          have p4:=vK y nl (show(G'.Zv r (aa V)).pv r=aa V from bE _ _ _) d
          ⟨_,Gd _ _ Vy,.mk (j+1) G4 L f V h4 N Vy z D4 p4.1 p4.2 (VI.mono G' G4 (j+1) V y.im c) q⟩
         exact C4 VE q on on (λq=>hQ .next .next G4 L f h4 N z D4 .next q) λv rv hv q=>hQ _ _ G4 L f h4 N z D4 hv q) (Vv.Zv (E.Zv k3))) (Vv.Zv E))) l.length (.mk 0 Vz S U o VA k (gy _) (g.x _) (D.Zv g VB) hp hf hP q)) hX.e) (hs O)
def lT(W:aK)(w:aJ)(J:ay)(n:Nat)(I:Sc)(t:ar)(i:List bh)(Q:Fl→aA→St→Prop)(X:ak→St→Prop)(k:Nat):aA→St→Prop:=
 kO (motive:=λ_=>aA→St→Prop) (λ_ _=>False) (λ_ F S Z=>AT W w J n I S t Z (λc U=>bJ (motive:=λ_=>Prop) c (Q .next S U) (AS W w J n I S i U (gP F Q) X)) X) k
inductive yV(W:aK)(w:aJ)(J:ay)(A:aD)(O:aH)(G:Gh)(s:aw)(L:Nat→aA→St→Prop)(m:Nat):aw→Prop
 |mk (U C M h u):G.c (cH O) U→Dy W w J A O U C M h→L m C M→yV W w J A O G s L m {s with heap:=h,toks:=u}
theorem AX.ZB{t:ar}{i:List bh}{V:aN}{Q:Fl→aA→St→Prop}{k:Nat}(h:lT W w J n I t i Q X k S Z):AX W w J n I S (.While t i [] V) Z Q X:=by
 revert W w J n I S Z X t i V Q k;apply aX;generalize aT _=W,aL _=w,e9 _=J,e8 _=n,e7 _=I,e6 _=S,e5 _=Z,e4 _=X,e3 _=t,e2 _=i,e1 _=V,e0 _=Q;apply aP;generalize e0 _=k;intro h
 exact
   λA O G s b F D RQ RE E y=>have U:=iT.Zw F y
    (az (fG (wpAny_runOwn (codeAny_whileLoop (yV W w J A O G s (lT W w J n I t i Q X)) (λm s' hI=>by
     cases hI with|mk G' C Vv h' M R o H=>
     cases m with
     |zero=>exact H.elim
     |succ m=>
      exact H A O G' {s with heap:=h',toks:=M} b F o _ _ (λc P N g B a p q=>by
       have u:=R.Zv (a.x (cH O));cases c with
       |false=>exact aR (E .next .next P C N g B u (o.Zv a p) .next q)
       |true=>
        exact q A O P {s with heap:=g,toks:=B} b F (o.Zv a p) _ _ (λfl rfl' Y e f z l k4 L r q=>by
         have x:=u.Zv k4;have j:lT W w J n I t i Q X m e f→∃d,d<m+1∧yV W w J A O G s (lT W w J n I t i Q X) d {s with heap:=z,toks:=l}:=λq=>⟨m,Nat.lt_succ_self _,.mk Y e f z l x L q⟩;exact C4 r q j j (λq=>E .next .next Y e f z l x L .next q) λv rv hv q=>E _ _ Y e f z l x L hv q) (U.Zv u)) (U.Zv R).e) k (.mk G S Z s.heap s.toks (.Zw _ _) D h)))):au _ _ (do dW V;runOwn (.whileLoop t i [] O) O) _ _ _)
end
section
variable{W:aK}{w:aJ}{K:aY}{J:ay}{n:Nat}{I:Sc}{S:aA}{Z:St}{X:ak→St→Prop}
theorem KI.Zv{G O:Gh}{s:aw}{U:St}{R:ay}{Y:Nat}{o:aC}{l:List V}{B:bV}{P:Gh→Nat→aC→Prop}{Q:List V→bV→St→Prop}{M:ai→aw→Prop}(E:KI W w G s Q M)(g:G.le O)(j:HR W w O U R)(L:o.isFreed=aj)
  (C:gm W w l B R.objs.size P)(F:P (O.Zw R.objs.size o) 0 o)(q:Q l B U):M (.ref R.objs.size) {s with heap:=R.push o,toks:=Y}:=
 have N:=eV R;have c:=j.Zv N
 E l B _ P o _ U _ Y (g.Zv (rR c.pv)) (j.ZG N (λH H e=>bM _ e) (gQ _ L)) (bE _ _ _) (if_pos rfl)
  (fA λx q=>aE (g.pv _ x q) λu e=>absurd (eZ (j.pv _ _ e)) (jK _)) C F q
theorem AI.Zy{e:ar}{Q:List V→bV→St→Prop}(h:AE W w J n I S e Z (λv U=>∃p,iM U v=aa p∧Q p.1 p.2 U) X):AI W w J n I S e Z Q X:=
 λA H G s C F D Y B E P=>h A H G s C F D _ _ (λv u L U R O g j c t=>aB t λp f q=>jp (λv=>VR L.im v u→au (av W w) A (fX u) Y B {s with heap:=R,toks:=O}) f
  (λb e c=>c.eT λr z M d N=>ez (λp=>Q p.1 p.2 U→au (av W w) A (fX (.ref r)) Y B {s with heap:=R,toks:=O}) e (λq=>wpAny_pyIter_tuple (du j d) (E.Zv g j rfl (gm.ZA (l:=b) (a:=r)) (.mk rfl rfl (.mk _ M d N)) q)) q)
  (λb e c=>c.eL λr z M d N=>ez (λp=>Q p.1 p.2 U→au (av W w) A (fX (.ref r)) Y B {s with heap:=R,toks:=O}) e (λq=>FW (du j d) (E.Zv g j rfl (gm.Zz (l:=b) (a:=r)) (.mk rfl rfl (.mk _ M d N)) q)) q)
  (λk e c=>c.eO (rz (λo=>U k=o→au (av W w) A (fX (.ref k)) Y B {s with heap:=R,toks:=O}) e (λb e m=>ez (λp=>Q p.1 p.2 U→au (av W w) A (fX (.ref k)) Y B {s with heap:=R,toks:=O}) e
   (λq=>aB (j.ZD m) λM y i=>FW y (E.Zv g j rfl (gm.Zw (l:=b) (a:=k)) (.mk rfl rfl trivial) q)) q) rfl)) c) P
inductive ze(R:ag→List (Int×V)→Prop)(Z:St):V→Prop
 |mk (a l):Z a=aa (.idict l)→R a l→ze R Z (.obj a)
theorem AI.Zx{e:ar}{Q:List V→bV→St→Prop}(C:Cx K J)(h:AE W w J n I S e Z (λv U=>ze (λa l=>∀r,Q (l.map λp=>V.int p.1) (aa (a,.pdict r l)) (U.Zv a (.pdict r l))) U v) X):AI W w J n I S e Z Q X:=
 λA L G s d F D P t E z=>h A L G s d F D _ _ (λv H Y U R O g j c f=>ze.casesOn (motive:=λv N=>VR Y.im v H→au (av W w) A (fX H) P t {s with heap:=R,toks:=O}) f (λa l B q c=>c.eO (aB (j.Zz B) λM y u=>aE y.dictAt λr m=>
  wpAny_pyIter_dict (knd:=dI W w) (C.Zv (D.top.le g) j B) m (E.Zv g (j.Zx (H:=.pdict r l) B rfl rfl (λN N N e=>e) ⟨M,m,u⟩) rfl gm.Zy (.mk rfl (u.Zv▸rfl)) (q r)))) c) z
theorem AG.Zv{E:ar}{v:V}{Q Q' :aA→St→Prop}(h:AG W w J n I S E v Z Q X)(k:∀S Z,Q S Z→Q' S Z):AG W w J n I S E v Z Q' X:=
 λA O G s Y U F D g B L N d=>h A O G s Y U F D g B L (λR C M H u a o q=>N R C M H u a o (k _ _ q)) d
theorem AS.Zv{b:List bh}{Q Q' :Fl→aA→St→Prop}(h:AS W w J n I S b Z Q X)(k:∀y S Z,Q y S Z→Q' y S Z):AS W w J n I S b Z Q' X:=
 λA O G s U F D Y V E d=>h A O G s U F D Y V (λy g B C M L u a o f q=>E y g B C M L u a o f (k _ _ _ q)) d
theorem gP.Zv{j c:aA→St→Prop}{Q Q' :Fl→aA→St→Prop}(a:∀S Z,j S Z→c S Z)(b:∀y S Z,Q y S Z→Q' y S Z)(y:Fl)(S:aA)(Z:St):gP j Q y S Z→gP c Q' y S Z:=
 Fl.casesOn (motive:=λy=>gP j Q y S Z→gP c Q' y S Z) y (a S Z) (b .next S Z) (a S Z) λv=>b (.ret v) S Z
theorem gq.Zv{t:ar}{i:List bh}{O:bV}{Q Q' :Fl→aA→St→Prop}(k:∀y S Z,Q y S Z→Q' y S Z){l:List V}:∀{S:aA} {Z:St},gq W w J n I t i O Q X l S Z→gq W w J n I t i O Q' X l S Z:=
 bc (motive:=λl=>∀{S:aA} {Z:St},gq W w J n I t i O Q X l S Z→gq W w J n I t i O Q' X l S Z) (λh=>⟨h.1,k _ _ _ h.2⟩) (λv r F {S Z} h=>⟨h.1,AG.Zv h.2 λc U h=>AS.Zv h (gP.Zv (λN N=>F) k)⟩) l
inductive Fc(Q:Fl→aA→St→Prop)(y:Fl)(S:aA)(Z:St):Prop
 |mk (a r l):Z a=aa (.pdict r l)→Q y S (Z.Zv a (.idict l))→Fc Q y S Z
theorem AX.Zy{t O:ar}{i:List bh}{L:aN}{Vv:Fl→aA→St→Prop}(C:Cx K J)(P:iU t)(H:∀B x,ie O B x=a8 x)
  (h:AE W w J n I S O Z (λv U=>ze (λa l=>∀r,gq W w J n I t i (aa (a,.pdict r l)) (λy Y M=>M a=aa (.pdict r l)∧Vv y Y (M.Zv a (.idict l))) X (l.map λp=>V.int p.1) S (U.Zv a (.pdict r l))) U v) X):
  AX W w J n I S (.For t O i [] L) Z Vv X:=
 λA B G s b F D u g E j=>AX.Zv P H (Q:=Fc Vv) (AI.Zx C (h.Zz (λv U z=>z.casesOn λa l e q=>.mk a l e λr=>(q r).Zv λy Y M h=>.mk a r l h.1 h.2) λN N x=>x)) A B G s b F D u g
  (λy m c Y M h' tk k o f q=>q.casesOn λa r l d e2=>aB (o.hr.ZE d) λR hA hk=>E y m c Y _ h' tk k ⟨o.top,o.hr.Zx (H:=.idict l) d rfl rfl (λN N N e=>e) ⟨R,hA.dictOf,hk⟩,o.er⟩ f e2) j
inductive lS:List V→List V→Prop
 |one (b):bj b=ae→lS [.int b] (fO 0 b)
 |down (a b):bj a=ae→bj b=ae→lS [.int a,.int b,.int (-1)] ((tK (a-b).toNat).map λk:Nat=>.int (a- (k:Int)))
theorem BA{m:Nat}{f:Nat→V}{j:Nat}{v:V}(h:((tK m).map f)[j]? =aa v):v=f j:=
 aB (tI.mp (jf.symm.trans h)) λk U e=>(jN.mp U).elim λN H=>e.symm.trans (congrArg f ((List.getElem_range _).symm.trans H).symm)
theorem KI.Zw{A:aD}{G O:Gh}{m:aw}{U:St}{R:ay}{d b P:Int}{t u v:Tok}{B:Nat}{z:List V}{Q:List V→bV→St→Prop}{L M:ai→aw→Prop}(E:KI W w G m Q L)(g:G.le O)(Y:HR W w O U R)(N:Builtin.Range.small d b P=ae)
  (C:∀(j:Nat) (v:V),z[j]? =aa v→v=V.int (d+P*(j:Int)))(H:Builtin.Range.rangeSize d b P=(z.length:Int))(q:Q z ah U):au (av W w) A (fX (.ref R.objs.size)) L M {m with heap:=R.push {cls:=.type "range",data:=.fields #[.int d t,.int b u,.int P v]},toks:=B}:=
 wpAny_pyIter_range (s:={m with heap:=R.push {cls:=.type "range",data:=.fields #[.int d t,.int b u,.int P v]},toks:=B}) (IsRange.new R d b P t u v) N
  (E.Zv g (Y.ZA λF F e=>bM _ e) rfl (gm.Zx (l:=z) (a:=d) (c:=P) C) (by rw[H];rw[Int.natCast_zero];rw[Int.mul_zero];rw[Int.add_zero];rw[Int.sub_zero]) q)
theorem AI.Zw{x:ak}{o B:aN}{e:ar}{N:List ar}{Q:List V→bV→St→Prop}(C:Cx K J)(hk:I.names.lookup x=aa .globalImplicit)(hg:bG K bp x=aa ah)(i:nK x=aa (.type "range"))
  (h:AL W w J n I S B (e::N) Z (λR Y=>∃l,lS R l∧Q l ah Y) X)(hn:x≠"__name__")(hd:(x==("__debug__":ak))=aj)
  (he:∀O,bw (e::N) O=(aj,a7 e O)::bw N O)(hp:∀O,(cQ B (bw N O)).any (·.1)=aj):AI W w J n I S (.Call (.Name x o) (e::N) [] B) Z Q X:=by
 intro A O G s z F D m H f hX;refine nM rfl (sK C F D.top D.hr (cU z hk) hg i hn ?_ hd)
 have y:=h A O G s z F D (λR U=>True∧au (av W w) A (aV (.type "range") R) (λx U=>au (av W w) A (fX x) m H U) H U) H (λR u d Y E M g L c hh=>⟨trivial,aB hh λl hr q=>
  lS.casesOn (motive:=λR l p=>VRs d.im R u→Q l ah Y→au (av W w) A (aV (.type "range") u) (λx U=>au (av W w) A (fX x) m H U) H {s with heap:=E,toks:=M}) hr
   (λb i c q=>c.e1 λr vb=>vb.eI λt=>call_range_1 (f.Zw g L (small_one (by decide) (by decide) (tR (gY i).1) (gY i).2) (λj v h=>(BA h).trans (by rw[Int.one_mul])) ((rangeSize_nat _ _).trans (by rw[bT];rw[Gr])) q))
   (λa b k i c q=>c.e3 λr1 r2 r3 v1 v2 v3=>v1.eI λt1=>v2.eI λt2=>v3.eI λt3=>call_range_3 (by decide) (f.Zw g L (small_down (tR (gY k).1) (gY k).2 (tR (gY i).1) (gY i).2)
    (λj v h=>(BA h).trans (by rw[Int.neg_one_mul];rw[Int.sub_eq_add_neg])) ((rangeSize_downNat _ _).trans (by rw[bT];rw[Gr])) q) (.inl (PyProof.noPylong_small (by decide)))) c q⟩) hX
 rw[he O]at y⊢;exact tz (P:=λp=>True) (by refine(?_:((aj|| (cQ B (bw N O)).any (·.1))||aj)=aj);rw[hp O];rfl) (λh p=>⟨.machine,.inr (.inl rfl),rH "range" h⟩) (tF y)
end
def lJ(M:Model)(A:aD)(E:ai→aw→Prop)(use:Option (ai→bI Unit))(Q:ai→aw→Prop)(W:ai)(O:aH)(r:jI)(Z:aw):Prop:=
 Gz r (λx=>∃m,Z.heap.Ns O.locals m∧∀B,iq O.locals Z.heap B→au M A (PySem.passOn "comprehension.variables-let-go" x O:bI ai) (λ_ _=>False) E {Z with heap:=B})
  (λ_=>a9 use (∃m,Z.heap.Ns O.locals m∧∀B,iq O.locals Z.heap B→Q W {Z with heap:=B})
  λu=>au M A (u W) (λ_ w=>∃m,w.heap.Ns O.locals m∧∀B,iq O.locals w.heap B→Q .none {w with heap:=B}) E Z)
section
variable{M:Model}{A:aD}{E:ai→aw→Prop}{s:aw}{O:aH}
theorem DV{e:ar}{H:cG}{V:aN}{l first:bI ai}{g:ir}{z:List ir}{I:List (ak×ag)}{use:Option (ai→bI Unit)}
  {Q:ai→aw→Prop}
  (S:clausesOf e=g::z)(C:∀x,ie g.iter O x=a8 x)(n:closureFor H O=a8 I)
  (a:H.kind=.function)(v:∀x∈H.names,x.2=.local →H.names.lookup x.1=aa .local)
  (h:au M A first (λx D=>au M A (fX x) (λc o=>au M A l (λU q=>
   au M A (newFunctionEnv H O.globals I [] O.qual ah .none (aa O)) (λW F=>
    gr M A (.compStart e 0 c U {W with scope:=iZ H O}) (lJ M A E use Q U {W with scope:=iZ H O}) F) E q) E o) E D) E s):
  au M A (zp e H O V l aj first use) Q E s:=by
 revert M A E s O e H V l first g z I use Q;apply aX;generalize aT _=M,aL _=A,e9 _=E,e8 _=s,e7 _=O,e6 _=e,e5 _=H,e4 _=V,e3 _=l,e2 _=first,e1 _=g,e0 _=z;apply bY;generalize e2 _=I,e1 _=use,e0 _=Q;intro S C n a v h;unfold zp;refine(bo n)▸ ?_;refine(bo S)▸ ?_
 have J:∀(W:aH),∀x∈(H.names.filter λx=>(x.2== .local ||x.2== .cell)&&x.1 !=(".0":ak)).reverse,x.2=.local →Env.kindOf {W with scope:=iZ H O} x.1=aa .local :=
  λW x K d=>lookup_relabel_local (v x (zN.mp (zM.mp K)).1 d)
 refine az (dh h (λx D R=>az (fG (az (ql (C x) (az (cC (dh R (λc o p=>
  wpAny_standIf (az (dh p (λU q t=>az (aR (az (dh t (λW F k=>?_) λN N B=>B)))) λN N B=>B)))
   λN N B=>B))))))) λN N B=>B)
 have J:=J W;refine cC (az (wpAny_attempt (cC (wpAny_run (codeAny_mono k λr j Z=>?_)))));cases r with
 |ok f=>
  cases use with
  |none=>exact aB Z λm Y Z=>az (cC (wpAny_comp_letGo (cenv:={W with scope:=iZ H O}) a _ j m J Y λB b N i=>aR (Z B i)))
  |some u=>exact az (wpAny_rule (az (cC (dh Z (λN w X=>aB X λm Y X=>az (wpAny_comp_letGo (cenv:={W with scope:=iZ H O}) a _ w m
    (λx K=>(je.mp K).elim (λL=>J x (List.mem_of_mem_drop L)) λL=>J x (List.mem_of_mem_take L)) Y λB b N i=>aR (X B i))) λN N B=>B))))
 |error x=>
  exact aB Z λm Y Z=>az (cC (wpAny_comp_letGo (cenv:={W with scope:=iZ H O}) a _ j m J Y λB b N i=>dh (Z B i) (λN N f=>f.elim) λN N y=>y))
end
noncomputable def fe(l I:List (ak×dX)):List (ak×dX):=l.map λ(n,k)=>if k== .free&&I.lookup n==aa .cell then(n,.cell)else(n,k)
theorem oP{x:ak}{I l:List (ak×dX)}:(fe l I).lookup x=(l.lookup x).map λk=>if(k== .free&&I.lookup x==aa .cell)=ae then .cell else k:=by
 revert x I l;apply bY;generalize e2 _=x,e1 _=I,e0 _=l
 exact
   bc (motive:=λl=>(fe l I).lookup x=(l.lookup x).map λk=>if(k== .free&&I.lookup x==aa .cell)=ae then .cell else k) rfl (λp r F=>by
    have e:(if(p.2== .free&&I.lookup p.1==aa .cell)=ae then(p.1,zw)else(p.1,p.2))=(p.1,if(p.2== .free&&I.lookup p.1==aa .cell)=ae then .cell else p.2):=(apply_ite (λk=>(p.1,k)) _ _ _).symm;refine(?_:dJ x ((if(p.2== .free&&I.lookup p.1==aa .cell)=ae then(p.1,zw)else(p.1,p.2))::fe r I)=_);rw[e];rw[fj];rw[fj];rw[F];exact bW (cx (x=p.1)) (λq=>by refine qE q ?_;rw[beq_self_eq_true];rfl) λq=>by rw[beq_false_of_ne q];rfl) l
theorem HM{x:ak}{I l:List (ak×dX)}(m:∀p∈l,p.2≠.cell)(h:(fe l I).lookup x=aa .cell):(x,gw)∈l∧I.lookup x=aa .cell:=by
 revert x I l;apply bY;generalize e2 _=x,e1 _=I,e0 _=l;intro m h
 exact
   aB (tI.mp (oP.symm.trans h)) λk U e=>bW (cx ((k== .free&&I.lookup x==aa .cell)=ae)) (λc=>have c:=cj.mp c;⟨bU c.1▸iK U,bU c.2⟩) λc=>absurd ((if_neg c).symm.trans e) (m (x,k) (iK U))
theorem HL{x:ak}{I l:List (ak×dX)}(K:I.lookup x=aa .cell)(h:l.lookup x=aa .free):(fe l I).lookup x=aa .cell:=by rw[oP];rw[h];rw[K];rfl
section
variable{W:aK}{w:aJ}{K:aY}{J:ay}{n:Nat}{I:Sc}{S:aA}{Z:St}{X:ak→St→Prop}
def iX(W:aK)(w:aJ)(J:ay)(n:Nat)(I:Sc)(S:aA)(C:List ar)(Z:St)(Q:Bool→St→Prop)(X:ak→St→Prop):Prop:=
 br (motive:=λ_=>Prop) C (Q ae Z) λc r=>br (motive:=λ_=>Prop) r (AT W w J n I S c Z Q X) λ_ _=>False
def qf(E:(V→St→Prop)→St→Prop)(C:List V→St→Prop)(O:List V)(c:Bool)(Z:St):Prop:=bJ (motive:=λ_=>Prop) c (C O Z) (E (λy=>C (O++[y])) Z)
def eu(W:aK)(w:aJ)(J:ay)(n:Nat)(I:Sc)(S:aA)(i:Nat)(C:List ar)(z:ar)(U:bV)(Q:List V→St→Prop)(X:ak→St→Prop)(l:List V):List V→St→Prop:=
 bc (motive:=λ_=>List V→St→Prop) (λO Z=>dk U Z∧Q O Z) (λv _ F O Z=>dk U Z∧iX W w J n I (cJ i v S) C Z (qf (λQ Z=>AE W w J n I (cJ i v S) z Z Q X) F O) X) l
theorem fV.Zz{A:aD}{G:Gh}{h B:ay}{e D r:ag}{V:Option (ag×ai)}{k:ak}{o:aC}(x:fV W w A G Z h k e D V)(E:G.pv r=aa o)(R:G.fm r=aj)(Y:gx r h B):fV W w A (G.Zv r ah) Z B k e D V:=
 have g:∀{y},G.pv y=ah→y≠r:=λh q=>aG (h.symm.trans (q▸E))
 ⟨x.hr.ZI E Y,x.fr.Zw R,x.ex.casesOn λu L z m c j l M=>.mk u L (Y _ _ (g x.off.1.2) z) m c j l (a9 (motive:=λV=>(∀T U,V=aa (T,U)→G.im T=ah∧G.pv T=ah)→yR h e L V→yR B e L V) V (λd t=>t)
   (λp o t=>⟨t.1,t.2.casesOn λv P H O F C f=>.mk v P H (Y _ _ (g (o _ _ rfl).2) O) F C f⟩) x.offT M),
  ⟨⟨x.off.1.1,(bv _ _ (g x.off.1.2)).trans x.off.1.2⟩,(bv _ _ (g x.off.2)).trans x.off.2⟩,λT U q=>⟨(x.offT T U q).1,(bv _ _ (g (x.offT T U q).2)).trans (x.offT T U q).2⟩,
  x.kd.casesOn λN t i s=>.mk N t (i.Zv λo Q d=>⟨o.slots,Y _ _ (g x.off.2) Q⟩) s⟩
theorem gO.Zy{A:aD}{O:aH}{G:Gh}{k:ak}{Y:ai}{VA:aw}{h:aC}{R:ai→aw→Prop}{P:Array kM}{r:Nat}(F:Fz A O n)(f:gO W w A G Z VA.heap k Y)
  (j:G.pv O.locals=aa h)(v:h.data=.dict P r)(V:i9 P)(d:G.fm O.locals=aj)
  (hX:∀G' U,G.c (λa=>a=O.locals) G' →gO W w A G' Z U k Y→R Y {VA with heap:=U}):
  fv (av W w) A O (λe D=>∃m,D.heap.Ns O.locals m∧∀U,iq O.locals D.heap U→au (av W w) A (PySem.passOn "comprehension.variables-let-go" e O:bI ai) (λC C=>False) R {D with heap:=U}) Y VA:=by
 revert W w n Z A O G k Y VA h R P r;apply aX;generalize aT _=W,aL _=w,e9 _=n,e8 _=Z,e7 _=A,e6 _=O,e5 _=G,e4 _=k,e3 _=Y,e2 _=VA,e1 _=h,e0 _=R;apply bF;generalize e1 _=P,e0 _=r;intro F f j v V d hX
 exact
   dO F.fr λg l hl Vv=>f.casesOn λe dd st q fs x=>by
   subst q;unfold fv nG PySem.passOn tu;refine(bo Vv)▸ ?_
   exact x.Zw fs hl λVx M T L hL b i=>by
    have Q:=(b.fx _ _ j).2 d;refine⟨ew P,⟨h,P,r,i.hr.pv _ _ Q,v,V,λC=>rfl⟩,λp hs=>?_⟩;have H:=i.Zz Q ((b.fx _ _ j).1.trans d) hs.extBut;refine H.ex.casesOn λoe vs he hc Vy hd Vz Vw=>az (jD (s:={VA with heap:=p}) he hd Vw.1 (iD jO ?_))
    exact az (H.Zv (s:={VA with heap:=p}) λt N u E=>wpAny_throw (hX N t (Gh.c.Zv (B:=M.Zv O.locals ah)
     ⟨b.im,λy o c q=>aE (b.pv y o q) λsl z=>⟨sl,(bv _ _ c).trans z⟩,λy o c q=>⟨(b.fx y o q).1,λC=>(bv _ _ c).trans ((b.fx y o q).2 C)⟩⟩ (u.x _)) (.mk e dd _ rfl (hL▸ .f g l L hl hL rfl) E)))
end
noncomputable def dl(p:List ai)(n:Nat):aC:={cls:=.type "list",data:=.seq p.toArray n}
section
variable{W:aK}{w:aJ}{K:aY}{J:ay}{n:Nat}{I:Sc}{S:aA}{Z:St}{X:ak→St→Prop}
theorem AJ{H:cG}{O:aH}(U:dG O I)(F:Fz (A:aD) O n):(iZ H O).names=fe H.names I.names:=
 Gq λp N=>by
  refine(bo F.kd)▸ ?_;unfold Env.kindOf;refine(bo U.names)▸ ?_;exact congrArg (λb=>if(b&&dJ p.1 I.names==aa zw)=ae then(p.1,zw)else(p.1,p.2)) (zW (p.2==gw))
theorem rP{b G:Gh}{r:ag}{O:Option aC}(k:b.le G)(e:b.pv r=ah):b.le (G.Zv r O):=
 have k:=rS (x:=O) (k.x λN=>False) e
 ⟨k.im,λa o=>k.pv a o id,λa o=>k.fx a o id⟩
structure iW(I:Sc)(S O:aA)(H:cG)(i:Nat)(x:ak):Prop where
 nc:∀p∈H.names,p.2≠.cell
 free:∀p∈H.names,p.2=.free→I.names.lookup p.1=aa .cell
 vars:∀p∈O,p∈S∧H.names.lookup (NM p.1)=aa .free∧I.names.lookup (NM p.1)=aa .cell
 kind:H.kind=.function
 lt:i<cB
 nm:NM i=x
 loc:H.names.lookup x=aa .local
 locs:∀y∈H.names,y.2=.local →H.names.lookup y.1=aa .local
noncomputable abbrev jR(I:Sc)(H:cG):Sc:=⟨fe H.names I.names,I.code,I.qual⟩
structure CF(W:aK)(w:aJ)(n:Nat)(X:ak→St→Prop)(A:aD)(O:aH)(G:Gh)(s:aw)(B:ag)(L:Sc)(Y:ai→aw→Prop):Prop where
 F:Fz A O n
 hs:dG O L
 own:∀y,G.pv y=ah→y≠O.locals→¬cH O y
 CD:O.locals≠B
 gD:G.pv B=ah
 gC:G.pv O.locals=ah
 ex:∀U M V,G.le U→sU U O→U.fm O.locals=aj→KX W w A U {s with heap:=M,toks:=V} X Y
inductive dg(W:aK)(w:aJ)(J:ay)(A:aD)(O:aH)(G:Gh)(B:ag)(Y:List V)(S:aA)(Z:St)(U:Gh)(h:ay):Prop
 |mk (p b):G.le U→Dy W w J A O U S Z h→U.pv B=aa (dl p b)→U.fm B=aj→U.fm O.locals=aj→VRs U.im Y p→dg W w J A O G B Y S Z U h
section
variable{A:aD}{cenv O:aH}{G G' :Gh}{s:aw}{DD:ag}{sc:Sc}{REc:ai→aw→Prop}{acc:List V}{h:ay}
theorem dg.kx(x:dg W w J A cenv G DD acc S Z G' h)(c:CF W w n X A cenv G s DD sc REc){B:ay}{u:Nat}:KX W w A G' {s with heap:=B,toks:=u} X REc:=x.casesOn λp b v D N N U N=>c.ex _ _ _ v D.er.ns U
theorem dg.dy(x:dg W w J A cenv G DD acc S Z G' h):Dy W w J A cenv G' S Z h:=x.casesOn λp b v D N N U N=>D
theorem dg.Zv{m:Gh}{M:St}{B:ay}(x:dg W w J A cenv G DD acc S Z G' h)(k:G'.le m)(H:HR W w m M B):dg W w J A cenv G DD acc S M m B:=
 x.casesOn λp b v D t Y U R=>D.er.ns.casesOn λo P r a N N=>.mk p b (v.Zv k) (D.Zv k H) ((k.fx _ _ t).2 Y) ((k.fx _ _ t).1.trans Y) ((k.fx _ _ a).1.trans U) (R.Zw k.im)
theorem dg.Zw{C:aA}(x:dg W w J A cenv G DD acc S Z G' h)(k:∀p∈C,p∈S):dg W w J A cenv G DD acc C Z G' h:=x.casesOn λY b v D t V U R=>.mk Y b v (D.Zw k) t V U R
theorem dg.Zy{Y:ar}{C:List V→St→Prop}{post:aw→Prop}{u:Nat}(c:CF W w n X A cenv G s DD sc REc)(x:dg W w J A cenv G DD acc S Z G' h)(r:acc.length≤2000000)(q:AE W w J n sc S Y Z (λy f=>C (acc++[y]) f) X)
  (k:∀y f U p i,G'.c (λa=>a=DD) U→dg W w J A cenv G DD (acc++[y]) S f U p→C (acc++[y]) f→post {s with heap:=p,toks:=i}):
  au (av W w) A (a7 Y cenv) (λy F=>au (av W w) A (aV (.builtin "list.append") [.ref DD,y]) (λzz B=>post B) REc F) REc {s with heap:=h,toks:=u}:=
 q A cenv G' {s with heap:=h,toks:=u} c.hs c.F x.dy _ _ (λy E v M h6 Vv j H Q q=>(x.Zv j H).casesOn λL b kk D t P N R=>
  wpAny_list_append_plain (items:=L.toArray) ⟨b,H.pv _ _ t⟩ (λh7 d m=>aE d λl d=>
   k y M (v.Zv DD (aa (dl (L++[E]) l))) h7 _ ⟨j.im,λa o g e=>aE (j.pv a o e) λsl z=>⟨sl,(bv _ _ g).trans z⟩,λa o g e=>⟨(j.fx a o e).1,λz=>(bv _ _ g).trans ((j.fx a o e).2 z)⟩⟩
    (.mk (L++[E]) l (rP kk c.gD) (D.Zy t P (c.own DD c.gD (dx c.CD)) m.extBut (d.trans (congrArg (λa=>aa ({cls:=.type "list",data:=.seq a l}:aC)) (List.push_toArray L E)))) (bE _ _ _) P N (R.Zy (.cons Q .nil))) q) (aW (cN (dz.trans R.Zv)) (aW r (by decide)))) (x.kx c)
end
section
variable{A:aD}{O:aH}{G G₁:Gh}{s:aw}{U:St}{R:ay}{tk₁:Nat}{φf:aA}{i:Nat}{x:ak}{H:cG}{cl:List (ak×ag)}{RE:ai→aw→Prop}{use:Option (ai→bI Unit)}{RQ:ai→aw→Prop}
theorem MO{Y:aH}(F:Fz A Y n)(E:G.pv Y.locals=ah)(m:KX W w A G s X RE){L:Gh}{D:ay}{C:Nat}(v:G.le L)(N:sU L Y)(d:L.fm Y.locals=aj)(j:ai):
  KX W w A L {s with heap:=D,toks:=C} X (fv (av W w) A Y λe r=>lJ (av W w) A RE use RQ j Y (.error e) r):=
 λk o Vv B p V a b l=>N.casesOn λoC es ep f h w3=>
  have Q:=v.Zv a;have g:∀y t,G.pv y=aa t→y≠Y.locals:=λy t q z=>aG (E.symm.trans (z▸q))
  gO.Zy (VA:={s with heap:=p,toks:=V}) (R:=RE) F b ((a.fx _ _ f).2 d) h w3 ((a.fx _ _ f).1.trans d) λG3 h3 M f3=>m k o G3 B h3 V ⟨λy t q=>M.im y t (Q.im y t q),λy t q=>aE (Q.pv y t q) λsl u=>M.pv y _ (g y t q) u|>.elim λc q2=>⟨c,q2⟩,
   λy t q=>aE (Q.pv y t q) λsl u=>⟨(M.fx y _ (g y t q) u).1.trans (Q.fx y t q).1,λP=>(M.fx y t (g y t q) ((Q.fx y t q).2 P)).2 ((Q.fx y t q).1.trans P)⟩⟩ f3 l
theorem MP{Y:aH}{h:aC}{P:Array kM}{r:Nat}{B:Gh}(c:iW I S φf H i x)(u:dG O I)(K:qg O H cl)(E:ER B O S)(L:Y.cells=cl)(k:∀y,Y.kindOf y=(fe H.names I.names).lookup y)
  (a:B.pv Y.locals=aa h)(b:h.data=.dict P r)(d:i9 P):ER B Y φf:=
 ⟨λp q=>bb (c.vars p q) λV F g=>⟨(E.vars p V).1,(E.vars p V).2.casesOn (λj o z=>z.casesOn λN N N Q N N N N=>nomatch Q.symm.trans (cU u g)) λj o z=>z.casesOn λe t N f D M=>aB (K.has _ (iK F)) λc m C=>
   .c j o (.mk c t (.inl ((k _).trans (HL g F))) (L▸m) (aI (f.symm.trans C)▸D) M)⟩,
  .mk h P r a b d,λy l=>bu (HM c.nc ((k y).symm.trans l)) λV F=>(E.cells y (cU u F)).casesOn λe t v f D M=>aB (K.has _ V) λc m C=>.mk c t v (L▸m) (aI (f.symm.trans C)▸D) M,
  λy c l=>E.cl y c (K.mem y c (L▸l)).1⟩
theorem DZ{V:ai→aH→Code}(M:dG O I)(F:Fz A O n)(D:Dy W w J A O G S Z s.heap)(g:G.le G₁)(j:HR W w G₁ U R)(c:iW I S φf H i x)(K:qg O H cl)(hX:KX W w A G s X RE)
  (go:∀Y u G' h tk,CF W w n X A Y G s u (jR I H) (fv (av W w) A Y λe s' =>lJ (av W w) A RE use RQ (.ref u) Y (.error e) s')→(∀y,Y.kindOf y=(fe H.names I.names).lookup y)→G₁.le G' →
   (∀a o,G₁.pv a=aa o→a≠u∧a≠Y.locals)→dg W w J A Y G u [] φf U G' h→gr (av W w) A (V (.ref u) Y) (lJ (av W w) A RE use RQ (.ref u) Y) {s with heap:=h,toks:=tk}):
  au (av W w) A (newList []) (λP v=>au (av W w) A (newFunctionEnv H O.globals cl [] O.qual ah .none (aa O)) (λY Vv=>
   gr (av W w) A (V P {Y with scope:=iZ H O}) (lJ (av W w) A RE use RQ P {Y with scope:=iZ H O}) Vv) RE v) RE {s with heap:=R,toks:=tk₁}:=by
 revert W w J n I S Z X A O G G₁ s U R tk₁ φf i x H cl RE use RQ V;apply aX;generalize aT _=W,aL _=w,e9 _=J,e8 _=n,e7 _=I,e6 _=S,e5 _=Z,e4 _=X,e3 _=A,e2 _=O,e1 _=G,e0 _=G₁;apply aX;generalize aT _=s,aL _=U,e9 _=R,e8 _=tk₁,e7 _=φf,e6 _=i,e5 _=x,e4 _=H,e3 _=cl,e2 _=RE,e1 _=use,e0 _=RQ;apply aP;generalize e0 _=V;intro M F D g j c K hX go;have hf:=eV R;have F0:=j.Zv hf;have B:∀a o,G₁.pv a=aa o→a<R.objs.size:=λa o e=>eZ (j.pv _ _ e);have t:∀y,R.objs.size≤y→G.pv y=ah:=λy l=>fA λo e=>aE (g.pv _ _ e) λsl e=>absurd (B _ _ e) (qt.mpr l);refine nB (wpAny_newFunctionEnv c.nc (λzz h=>nomatch h) (λp f E=>?_) c.kind);have H2:HR W w (G₁.Zw R.objs.size (dl [] 0)) U (R.push (dl [] 0)):=j.ZG hf (λzz zz e=>bM _ e) (gQ _ rfl);have m:(R.push (dl [] 0)).get? (R.push (dl [] 0)).objs.size=ah:=eV _;have L:(R.push (dl [] 0)).objs.size=R.objs.size+1:=Heap.size_push ..;have CD:(R.push (dl [] 0)).objs.size≠R.objs.size:=L▸Nat.succ_ne_self _;have gC:=t (R.push (dl [] 0)).objs.size (L▸nP _);refine eH f λoC es ep gt dC kC zz=>?_;have H3:HR W w ((G₁.Zw R.objs.size (dl [] 0)).Zw (R.push (dl [] 0)).objs.size oC) U p:=H2.ZG m (λb o e=>E.extBut b o (iu (eZ e)) (bM _ e)) gt;have k3:G₁.le ((G₁.Zw R.objs.size (dl [] 0)).Zw (R.push (dl [] 0)).objs.size oC):=(rR F0.pv).Zv (rR (H2.Zv m).pv);generalize Q:({newEnv H (R.push (dl [] 0)).objs.size O.globals cl O.qual ah .none (aa O) lY with scope:=iZ H O}:aH)=Y;have d:Y.locals=(R.push (dl [] 0)).objs.size:=by refine Q▸ ?_;rfl
 have Vw:Y.cells=cl:=by refine Q▸ ?_;rfl
 have Vx:Y.scope=iZ H O:=by rw[←Q]
 have k:∀y,Y.kindOf y=(fe H.names I.names).lookup y:=λy=>by unfold Env.kindOf;rw[Vx];rw[AJ M F]
 have r:∀y c,Y.cells.lookup y=aa c→∃ob,G.pv c=aa ob:=λy c l=>D.er.cl y c (K.mem y c (Vw▸l)).1
 have F' :Fz A Y n:=⟨F.hd,F.dp,F.un,by exact Vx▸c.kind,by exact Q▸F.gl,by exact Q▸F.bl,λy z c l hz=>F.c1 y z c (K.mem y c (Vw▸l)).1 (K.mem z c (Vw▸hz)).1,
  λy c l q=>aE (r y c l) λob C=>aG (gC.symm.trans ((q.trans d)▸C)),by exact Q▸F.fr⟩
 have pC:((G₁.Zw R.objs.size (dl [] 0)).Zw (R.push (dl [] 0)).objs.size oC).pv Y.locals=aa oC:=d.symm▸bE _ _ _
 have VA:=go Y R.objs.size _ p (tk₁+0) ⟨F',⟨by exact Vx▸AJ M F,by exact Q▸M.code,by exact Q▸M.qual⟩,λy l Vy C=>C.elim Vy λq=>aE q λz q=>aE (r z y q) λob C=>aG (l.symm.trans C),
   d.symm▸CD,t _ (f8 _),d.symm▸gC,λG' h' Vz kk N hf=>MO F' (d.symm▸gC) hX kk N hf _⟩ k k3 (λa o e=>⟨iu (B a o e),λq=>absurd (B a o e) (by rw[q];rw[d];rw[L];exact qt.mpr (nP _))⟩)
  (.mk [] 0 (g.Zv k3) ⟨D.top.le (g.Zv k3),H3,MP c M K (D.er.le (g.Zv k3)) Vw k pC dC kC⟩ ((bv _ _ (dx CD)).trans (bE _ _ _)) ((if_neg (dx CD)).trans (if_pos rfl)) (if_pos d) .nil)
 refine qF Q ?_;exact VA
end
theorem yy{A:aD}{R:jI→aw→Prop}{s:aw}{z:ar}{a:List ir}{H:cG}{V p L:aN}{d:Nat}{c U:ai}{O:aH}{x:ak}{F:bI Fin}
  (g:compTurn (.ListComp z a H V) d c U O=(dW p>>=λN=>pyNext c>>=λr=>match r with|ah=>a8 (.done .next)|aa v=>zo (.Name x L) c v>>=λN=>ij (.Name x L) O v>>=λN=>F))(j:Nat→aw→Prop)
  (f:∀m Y,j m Y→au (av W w) A (pyNext c) (λr D=>a9 (motive:=λN=>Prop) r (R (.ok .next) D) λv=>au (av W w) A (ij (.Name x L) O v) (λN o=>
   au (av W w) A F (λi q=>i=.again (.compLoop (.ListComp z a H V) d c U O)∧∃b,b<m∧j b q) (fv (av W w) A O λe Y=>R (.error e) Y) o) (fv (av W w) A O λe Y=>R (.error e) Y) D) (fv (av W w) A O λe Y=>R (.error e) Y) Y)
  (n:Nat)(h:j n s):gr (av W w) A (.compLoop (.ListComp z a H V) d c U O) R s:=by
 revert W w A R s z a H V p L d c U O x F j n;apply aX;generalize aT _=W,aL _=w,e9 _=A,e8 _=R,e7 _=s,e6 _=z,e5 _=a,e4 _=H,e3 _=V,e2 _=p,e1 _=L,e0 _=d;apply eE;generalize e4 _=c,e3 _=U,e2 _=O,e1 _=x,e0 _=F;intro g;apply aP;generalize e0 _=j;intro f;apply aP;generalize e0 _=n;intro h;refine codeAny_loop rfl j (λn s C=>?_) n h;refine(?_:au _ A ((compTurn (.ListComp z a H V) d c U O).onRaise (λx=>do nG x O;theTreesLotGoes x)) _ _ s);refine wpAny_noted ?_;refine(bo g)▸ ?_;refine az (fG (az (dh (f n s C) (λr D B=>?_) λN N M=>M)));cases r with
 |none=>exact aR B
 |some v=>exact az (aR (az (dh B (λN o u=>dh u (λi q t=>by refine qF t.1 ?_;exact⟨rfl,t.2⟩) λN N M=>M) λN N M=>M)))
theorem Mu{A:aD}{R:jI→aw→Prop}{s:aw}{z t i:ar}{g:ir}{H:cG}{V:aN}{c U:ai}{O:aH}
  (L:gr (av W w) A (.compLoop (.ListComp z [g,⟨t,i,[],0⟩] H V) 1 c U O) R s)
  (h:au (av W w) A (fX c) (λY B=>gr (av W w) A (.compLoop (.ListComp z [g,⟨t,i,[],0⟩] H V) 1 Y U O) R B) (fv (av W w) A O λx B=>R (.error x) B) s):
  gr (av W w) A (.compStart (.ListComp z [g,⟨t,i,[],0⟩] H V) 1 c U O) R s:=by
 revert W w A R s z t i g H V c U O;apply aX;generalize aT _=W,aL _=w,e9 _=A,e8 _=R,e7 _=s,e6 _=z,e5 _=t,e4 _=i,e3 _=g,e2 _=H,e1 _=V,e0 _=c;apply bF;generalize e1 _=U,e0 _=O;intro L h;refine codeAny_of_tree ((wpAny_notedAt ?_:au _ _ ((compStart (.ListComp z [g,⟨t,i,[],0⟩] H V) 1 c U O).onRaise (λx=>do nG x O;dW theWindowsPlace)) _ _ s));refine(?_:au _ _ (ask>>=_) _ _ s);refine az (wpAny_askSetting (wpAny_ite ?_));split
 ·exact aR ⟨rfl,L⟩
 ·exact az (wpAny_rule (az (fG (az (dh h (λY B M=>aR ⟨rfl,M⟩) λN N x=>x)))))
noncomputable def li(C:List ar)(z:ar)(U:ai)(O:aH)(c:Code):bI Fin:=do
 let mut B:=ae
 for c in C do
  if B then B←isTrue c O (a7 c O)
 if B then
  (do let _←aV (.builtin "list.append") [U,←a7 z O])
 again c
noncomputable def AH(e:ar)(i:ar)(U:ai)(O:aH)(c:Code):bI Fin:=do
 let x←a7 i O
 dW i.pos
 let x←ie i O x
 let _←runOwn (.compStart e 1 (←fw [x] (fX x)) U O) O
 again c
theorem HK{A:aD}{s:aw}{z:ar}{O:ai}{U:aH}{c:Code}{Q:Fin→aw→Prop}{E:ai→aw→Prop}(h:au (av W w) A (a7 z U) (λy F=>au (av W w) A (aV (.builtin "list.append") [O,y]) (λN e=>Q (.again c) e) E F) E s):au (av W w) A (li [] z O U c) Q E s:=by
 revert W w A s z O U c Q E;apply fD;generalize e9 _=W,e8 _=w,e7 _=A,e6 _=s,e5 _=z,e4 _=O,e3 _=U,e2 _=c,e1 _=Q,e0 _=E;intro h
 exact
   az (aR (ma rfl (az (az (dh h (λx F k=>az (dh k (λN e f=>aR (aR f)) λN N B=>B)) λN N B=>B)))))
theorem HJ{A:aD}{s:aw}{t z:ar}{U:ai}{O:aH}{c:Code}{Q:Fin→aw→Prop}{E:ai→aw→Prop}
  (h:au (av W w) A (isTrue t O (a7 t O)) (λb o=>bJ (motive:=λN=>Prop) b (Q (.again c) o) (au (av W w) A (a7 z O) (λy F=>au (av W w) A (aV (.builtin "list.append") [U,y]) (λN e=>Q (.again c) e) E F) E o)) E s):au (av W w) A (li [t] z U O c) Q E s:=by
 revert W w A s t z U O c Q E;apply et;generalize aL _=W,e9 _=w,e8 _=A,e7 _=s,e6 _=t,e5 _=z,e4 _=U,e3 _=O,e2 _=c,e1 _=Q,e0 _=E;intro h
 exact
   az (wpAny_tests_one (dh h (λb o h=>by
    cases b with
    |false=>exact iD jO (aR h)
    |true=>exact ma rfl (az (az (dh h (λx F k=>az (dh k (λN e f=>aR (aR f)) λN N B=>B)) λN N B=>B)))) λN N B=>B))
inductive ky(W:aK)(w:aJ)(J:ay)(A:aD)(O:aH)(G:Gh)(s:aw)(L:ag)(Y:aA)(l:List V)(r:ag)(P:Gh→Nat→aC→Prop)(N:Nat→Nat)(C:List V→List V→St→Prop):Nat→aw→Prop
 |mk (j U M B o h u):j≤l.length→U.length≤N j→dg W w J A O G L U Y M B h→B.pv r=aa o→B.fm r=aj→P B j o→C (l.drop j) U M→ky W w J A O G s L Y l r P N C (l.length-j) {s with heap:=h,toks:=u}
section
variable{A:aD}{cenv:aH}{G:Gh}{s:aw}{DD:ag}{sc:Sc}{REc:ai→aw→Prop}{φf:aA}{l:List V}{src:bV}{r:ag}{P:Gh→Nat→aC→Prop}{bd:Nat→Nat}{C:List V→List V→St→Prop}{i:Nat}{x:ak}{px:aN}
theorem ky.Zw(c:CF W w n X A cenv G s DD sc REc)(Vy:gm W w l src r P)(z:G.pv r=ah)(Q:r≠DD)(k:r≠cenv.locals)(hi:i<cB)(hx:NM i=x)(hk:cenv.kindOf x=aa .local)(a:∀l' O Z,C l' O Z→dk src Z)
  {m:Nat}{f:aw}(hI:ky W w J A cenv G s DD φf l r P bd C m f){y:Option ai→aw→Prop}{B:aw→Prop}(hB:∀v Y,au (av W w) A (ij (.Name x px) cenv v) (λzz d=>B d) REc Y→y (aa v) Y)
  (stop:∀O M U N u,O.length≤bd l.length→dg W w J A cenv G DD O φf M U N→C [] O M→y ah {s with heap:=N,toks:=u})
  (V:∀j O M v U o N u,m=l.length-j→j<l.length→O.length≤bd j→dg W w J A cenv G DD O (cJ i v φf) M U N→U.pv r=aa o→U.fm r=aj→P U (j+1) o→C (v::l.drop (j+1)) O M→B {s with heap:=N,toks:=u}):
  au (av W w) A (pyNext (.ref r)) y REc f:=by
 revert W w J n X A cenv G s DD sc REc φf l src r P bd C i x px m f y B;apply aX;generalize aT _=W,aL _=w,e9 _=J,e8 _=n,e7 _=X,e6 _=A,e5 _=cenv,e4 _=G,e3 _=s,e2 _=DD,e1 _=sc,e0 _=REc;apply fD;generalize e9 _=φf,e8 _=l,e7 _=src,e6 _=r,e5 _=P,e4 _=bd,e3 _=C,e2 _=i,e1 _=x,e0 _=px;intro c Vy z Q k hi hx hk a;apply bF;generalize e1 _=m,e0 _=f;intro hI;apply bF;generalize e1 _=y,e0 _=B;intro hB stop V;have nr:=c.own r z k;cases hI with|mk j O M U o h u hj ha x q hf hP L=>
 exact x.casesOn λws na kk D R H F g=>DL (λl=>C l O M) hj L
  (λe L=>Vy.stop A U M _ o c.F.hd D.hr q (e▸hP) (a _ _ _ L) _ _ λp he=>stop O M _ p u (e▸ha) (.mk ws na (rP kk z) (D.Zx q hf nr he) ((bv _ _ (dx Q)).trans R) H F g) L)
  λv hl Vv L=>Vy.step A U M _ j o v c.F.hd D.hr q hP (a _ _ _ L) hl _ _ λrv p Vw t hv b he E=>
   hB rv _ (assign_Name (Ac (s:={s with heap:=p,toks:=t}) c.F (D.Zy q hf nr he b) hi hx hk hv .Zv λoL es ep h3 Vx hd zz D4=>
    V j O M v _ Vw h3 Vx rfl Vv ha (.mk ws na (rP (rP kk z) c.gC) D4 ((bv _ _ (dx c.CD)).trans ((bv _ _ (dx Q)).trans R)) H F g) ((bv _ _ k).trans (bE _ _ _)) hf (Vy.mono U _ _ _ (λzz zz e=>e) E) L))
theorem ky.Zv{j:Nat}{B:List V}{M:St}{L O:Gh}{o:aC}{U:ay}{Y:Nat}(d:gm W w l src r P)(u:r≠DD)(N:j<l.length)(t:L.pv r=aa o)(R:L.fm r=aj)(F:P L (j+1) o)(k:L.c (λa=>a=DD) O)(H:B.length≤bd (j+1))
  (x:dg W w J A cenv G DD B φf M O U)(g:C (l.drop (j+1)) B M):∃m,m<l.length-j∧ky W w J A cenv G s DD φf l r P bd C m {s with heap:=U,toks:=Y}:=
 have p:=vK k u t R
 ⟨_,Gd _ _ N,.mk (j+1) B M O o U Y N H x p.1 p.2 (d.mono _ _ _ _ k.im F) g⟩
theorem Mz{f:Sc}{O:List ar}{z:ar}{Q:List V→St→Prop}(Y U:List V)(Z:St):eu W w J n f φf i O z src Q X Y U Z→dk src Z:=
 br (motive:=λY=>eu W w J n f φf i O z src Q X Y U Z→dk src Z) Y qy λN N=>qy
theorem ky.go{z:ar}{O:List ar}{Q:List V→St→Prop}{b:Nat}{g:Code}{RN:aw→Prop}(c:CF W w n X A cenv G s DD sc REc)(VI:gm W w l src r P)(hr:G.pv r=ah)(rD:r≠DD)(rC:r≠cenv.locals)
  (hi:i<cB)(hx:NM i=x)(hk:cenv.kindOf x=aa .local)(a:∀p∈φf,p.1≠i)(Y:b+l.length≤2000000)
  (B:∀vs M L H u,vs.length≤b+l.length→dg W w J A cenv G DD vs φf M L H→Q vs M→RN {s with heap:=H,toks:=u})
  {m:Nat}{s' :aw}(hI:ky W w J A cenv G s DD φf l r P (b+ ·) (eu W w J n sc φf i O z src Q X) m s'):
  au (av W w) A (pyNext (.ref r)) (λr' D=>a9 (motive:=λN=>Prop) r' (RN D) λv=>au (av W w) A (ij (.Name x px) cenv v) (λN Vx=>
   au (av W w) A (li O z (.ref DD) cenv g) (λVD Vy=>VD=.again g∧∃E,E<m∧ky W w J A cenv G s DD φf l r P (b+ ·) (eu W w J n sc φf i O z src Q X) E Vy) REc Vx) REc D) REc s' :=by
 revert W w J n X A cenv G s DD sc REc φf l src r P i x px z O Q b g RN m s';apply aX;generalize aT _=W,aL _=w,e9 _=J,e8 _=n,e7 _=X,e6 _=A,e5 _=cenv,e4 _=G,e3 _=s,e2 _=DD,e1 _=sc,e0 _=REc;apply aX;generalize aT _=φf,aL _=l,e9 _=src,e8 _=r,e7 _=P,e6 _=i,e5 _=x,e4 _=px,e3 _=z,e2 _=O,e1 _=Q,e0 _=b;apply bF;generalize e1 _=g,e0 _=RN;intro c VI hr rD rC hi hx hk a Y B;apply bF;generalize e1 _=m,e0 _=s';intro hI
 exact
   hI.Zw c VI hr rD rC hi hx hk Mz (λN N h=>h) (λU M L H u k x hC=>B U M L H u k x hC.2) λj U M v L o H u em hj k x f hf hP hC=>by
    have Vv:∀p∈φf,p∈cJ i v φf:=λp f=>fi.mpr (.inr ⟨f,a p f⟩);have la:∀y,(U++[y]).length≤b+(j+1):=λy=>by rw[qw];exact qs k
    have a2:U.length≤2000000:=aW k (aW (iy (iw hj) b) Y);refine qF em ?_
    have e:∀{R:St} {G5:Gh} {h5:ay} {Vw:Nat},L.le G5→HR W w G5 R h5→AE W w J n sc (cJ i v φf) z R (λy=>eu W w J n sc φf i O z src Q X (l.drop (j+1)) (U++[y])) X→
      au (av W w) A (a7 z cenv) (λy Vz=>au (av W w) A (aV (.builtin "list.append") [.ref DD,y]) (λN VA=>Fin.again g=.again g∧∃E,E<l.length-j∧ky W w J A cenv G s DD φf l r P (b+ ·) (eu W w J n sc φf i O z src Q X) E VA) REc Vz) REc {s with heap:=h5,toks:=Vw}:=
     λF H5 q=>(x.Zv F H5).Zy c a2 q λy VE VG VH VF VB VC q=>⟨rfl,ky.Zv VI rD hj f hf hP ((F.x _).Zv VB) (la y) (VC.Zw Vv) q⟩
    exact br (motive:=λd=>iX W w J n sc (cJ i v φf) d M (qf (λQ Z=>AE W w J n sc (cJ i v φf) z Z Q X) (eu W w J n sc φf i O z src Q X (l.drop (j+1))) U) X→au (av W w) A (li d z (.ref DD) cenv g) _ REc _) O
     (λq=>HK (e (.Zw _) x.dy.hr q)) (λt r=>br (motive:=λr=>iX W w J n sc (cJ i v φf) (t::r) M (qf (λQ Z=>AE W w J n sc (cJ i v φf) z Z Q X) (eu W w J n sc φf i O z src Q X (l.drop (j+1))) U) X→au (av W w) A (li (t::r) z (.ref DD) cenv g) _ REc _) r
      (λq=>HJ (q A cenv L {s with heap:=H,toks:=u} c.hs c.F x.dy _ _ (λb5 G5 R h5 Vw F H5 q=>bJ (motive:=λb5=>qf (λQ Z=>AE W w J n sc (cJ i v φf) z Z Q X) (eu W w J n sc φf i O z src Q X (l.drop (j+1))) U b5 R→bJ (motive:=λN=>Prop) b5 _ _) b5
       (λq=>⟨rfl,ky.Zv VI rD hj f hf hP (F.x _) (Gi k) ((x.Zv F H5).Zw Vv) q⟩) (e F H5) q) (x.kx c))) λN N q=>q.elim) hC.2
theorem My{z a:ar}{L:List ar}{H:cG}{N:aN}{Q:List V→St→Prop}{u:jI→aw→Prop}{U:St}{O:Gh}{B:ay}{Y:Nat}{o:aC}(c:CF W w n X A cenv G s DD sc (fv (av W w) A cenv λe v=>u (.error e) v))(Vv:gm W w l src r P)(hr:G.pv r=ah)(rD:r≠DD)(rC:r≠cenv.locals)
  (hi:i<cB)(hx:NM i=x)(hk:cenv.kindOf x=aa .local)(D:∀p∈φf,p.1≠i)(F:l.length≤1000)(q:dg W w J A cenv G DD [] φf U O B)(k:O.pv r=aa o)(hf:O.fm r=aj)(hP:P O 0 o)(h:eu W w J n sc φf i L z src Q X l [] U)
  (g:∀j M E t f,dg W w J A cenv G DD j φf M E t→Q j M→u (.ok .next) {s with heap:=t,toks:=f}):
  gr (av W w) A (.compStart (.ListComp z [⟨.Name x px,a,L,0⟩] H N) 0 (.ref r) (.ref DD) cenv) u {s with heap:=B,toks:=Y}:=
 have y:=yy (R:=u) (z:=z) (a:=[⟨.Name x px,a,L,0⟩]) (H:=H) (V:=N) (d:=0) (F:=li L z (.ref DD) cenv (.compLoop (.ListComp z [⟨.Name x px,a,L,0⟩] H N) 0 (.ref r) (.ref DD) cenv)) rfl _
  (λm v hI=>ky.go (b:=0) c Vv hr rD rC hi hx hk D (zG _▸aW F (by decide)) (λj M E t f zz=>g j M E t f) hI) l.length (s:={s with heap:=B,toks:=Y}) (.mk 0 [] U O o B Y (gy _) (f8 _) q k hf hP h)
 codeAny_compStart_list y (Vv.self A _ o _ (q.dy.hr.pv _ _ k) hP _ _ y)
end
end
section
variable{W:aK}{w:aJ}{K:aY}{J:ay}{n:Nat}{I:Sc}{S:aA}{Z:St}{X:ak→St→Prop}
def kz(f:Bool)(Q:V→St→Prop)(L:List V)(Z:St):Prop:=bJ (motive:=λ_=>Prop) f (Q (.lst L) Z) (∀a,Z a=ah→Q (.obj a) (Z.Zv a (.list L)))
inductive yZ(W:aK)(w:aJ)(Q:V→St→Prop)(G O:Gh)(h:ay)(D:ag):Prop
 |mk (v m t):G.le m→HR W w m t h→VR m.im v (.ref D)→Q v t→(∀a o,a≠D→O.pv a=aa o→m.pv a=aa o∧m.fm a=O.fm a)→yZ W w Q G O h D
theorem kz.Zv{f:Bool}{Q:V→St→Prop}{G U:Gh}{M:St}{B:ay}{D:ag}{L:List V}{p:List ai}{b:Nat}(v:G.le U)(H:HR W w U M B)(t:U.pv D=aa (dl p b))(Y:G.pv D=ah)(R:VRs U.im L p):kz f Q L M→yZ W w Q G U B D:=
 bJ (motive:=λf=>kz f Q L M→yZ W w Q G U B D) f
  (λq=>.mk (.lst L) _ M (J1 (o:=dl p b) (t:=dl p b) v Y (H.Zw t).1) (H.ZZ t (λN N N e=>e) (H.pv _ _ t)) (.lst (bE _ _ _) (R.Zw (hV (H.Zw t).1))) q λa F O e=>⟨(bv _ _ O).trans e,rfl⟩)
  λq=>.mk (.obj D) _ (M.Zv D (.list L)) (rQ v Y) (H.ZT (o:=.list L) t (λN N N e=>e) rfl ⟨p,⟨b,H.pv _ _ t⟩,R⟩) (.obj D) (q D (H.Zw t).2) λa F O e=>⟨(bv _ _ O).trans e,rfl⟩
theorem iW.Zv{U:aA}{H:cG}{i:Nat}{x:ak}(c:iW I S U H i x){O:aH}{A:aD}{G:Gh}{h:ay}(Y:dG O I)(D:Dy W w J A O G S Z h):∃V,qg O H V:=
 D5 λy l=>(D.er.cells y (cU Y (c.free (y,.free) l rfl))).casesOn λc N N a N N=>⟨c,a⟩
theorem iW.ne{O:aA}{H:cG}{i:Nat}{x:ak}(c:iW I S O H i x):∀p∈O,p.1≠i:=λp t q=>bb (c.vars p t) λN a N=>zv (aI (a.symm.trans ((congrArg (H.names.lookup ·) ((congrArg NM q).trans c.nm)).trans c.loc)))
theorem DX{A:aD}{U:aH}{G:Gh}{s:aw}{B:aA}{i:Nat}{x:ak}{px N p0:aN}{z a:ar}{L:List ar}{H:cG}{C:List V→St→Prop}{use:Option (ai→bI Unit)}{RQ y:ai→aw→Prop}(c:iW I S B H i x)(hs:∀U x,ie a U x=a8 x)
  (h:AI W w J n I S a Z (λl R Y=>l.length≤1000∧eu W w J n (jR I H) B i L z R C X l [] Y) X)(b:dG U I)(F:Fz A U n)(D:Dy W w J A U G S Z s.heap)(hX:KX W w A G s X y)
  (done:∀O D d M t E m,G.pv O.locals=ah→G.pv D=ah→O.locals≠D→dg W w J A O G D d B M t E→C d M→lJ (av W w) A y use RQ (.ref D) O (.ok .next) {s with heap:=E,toks:=m}):
  au (av W w) A (zp (.ListComp z [⟨.Name x px,a,L,0⟩] H N) H U p0 (newList []) aj (a7 a U) use) RQ y s:=
 aE (c.Zv b D) λcl K=>DV rfl (hs U) K.run c.kind c.locs (h A U G s b F D _ _ (λl R r P o Vv Y Vw e g j v hf hr Vx hP hh=>bu hh λu hC=>
  DZ (V:=λQ O=>.compStart (.ListComp z [⟨.Name x px,a,L,0⟩] H N) 0 (.ref r) Q O) b F D g j c K hX λO DD t h m f k k3 ne x0=>
   have p:=(k3.fx _ _ v)
   My f Vx hr (ne _ _ v).1 (ne _ _ v).2 c.lt c.nm ((k _).trans (oP.trans (by refine(bo c.loc)▸ ?_;rfl))) c.ne u x0 (p.2 hf) (p.1.trans hf) (Vx.mono _ _ _ _ k3.im hP) hC λd M t E m x q=>done O DD d M t E m f.gC f.gD f.CD x q) hX)
theorem D0{f:Bool}{A:aD}{O:aH}{G U:Gh}{s:aw}{Y:ag}{F:List V}{L:aA}{M:St}{B:ay}{u:Nat}{Q:V→St→Prop}{g j:ai→aw→Prop}(E:∀v C U M B u,G.le U→HR W w U M B→VR U.im v C→Q v M→g C {s with heap:=B,toks:=u})
  (d:G.pv O.locals=ah)(z:G.pv Y=ah)(m:O.locals≠Y)(x:dg W w J A O G Y F L M U B)(q:kz f Q F M):lJ (av W w) A j ah g (.ref Y) O (.ok .next) {s with heap:=B,toks:=u}:=
 x.casesOn λws na D o N Vv Vw R=>o.er.ns.casesOn λh P r H k y=>(kz.Zv D o.hr N z R q).casesOn λv Vx t a p i b e=>
  have c:=(e _ _ m H).1
  ⟨ew P,⟨h,P,r,p.pv _ _ c,k,y,λzz=>rfl⟩,λh3 l=>E v _ _ t h3 u (rQ a d) (p.ZI c l.extBut) i b⟩
theorem AE.Zy{f:Bool}{O:aA}{i:Nat}{x:ak}{N B:aN}{z a:ar}{C:List ar}{H:cG}{Q:V→St→Prop}(c:iW I S O H i x)(R:∀Y x,ie a Y x=a8 x)
  (h:AI W w J n I S a Z (λl L U=>l.length≤1000∧eu W w J n (jR I H) O i C z L (kz f Q) X l [] U) X):
  AE W w J n I S (.ListComp z [⟨.Name x N,a,C,0⟩] H B) Z Q X:=by
 intro A Y G s b F D t m E d;exact DX c R h b F D d λM y r P p v o u g j x q=>D0 E u g j x q
theorem AX.Zw{r:Bool}{B:aA}{i j:Nat}{x y:ak}{R u L e:aN}{Y a:ar}{C:List ar}{H:cG}{VH:Fl→aA→St→Prop}(c:iW I S B H i x)(p:∀O x,ie a O x=a8 x)
  (hj:j<cB)(hy:NM j=y)(hk:I.names.lookup y=aa .local ∨I.names.lookup y=aa .cell)
  (h:AI W w J n I S a Z (λl Vv U=>l.length≤1000∧eu W w J n (jR I H) B i C Y Vv (kz r λv M=>VH .next (cJ j v S) M) X l [] U) X):
  AX W w J n I S (.Assign [.Name y u] (.ListComp Y [⟨.Name x R,a,C,0⟩] H e) L) Z VH X:=by
 revert W w J n I S Z X r B i j x y R u L e Y a C H VH;apply aX;generalize aT _=W,aL _=w,e9 _=J,e8 _=n,e7 _=I,e6 _=S,e5 _=Z,e4 _=X,e3 _=r,e2 _=B,e1 _=i,e0 _=j;apply et;generalize aL _=x,e9 _=y,e8 _=R,e7 _=u,e6 _=L,e5 _=e,e4 _=Y,e3 _=a,e2 _=C,e1 _=H,e0 _=VH;intro c p hj hy hk h;intro A O G VI V F D RQ RE hQ hX;refine az (fG (aE (⟨_,rfl⟩:∃b,swapsWithSole [.Name y u] (.ListComp Y [⟨.Name x R,a,C,0⟩] H e) L.line O=a8 b) λb hb=>?_));refine(bo hb)▸ ?_;refine az (aR ?_);cases b with
 |false=>
  exact iD jO (az ((AE.Zy (Q:=λv M=>VH .next (cJ j v S) M) c p h) A O G VI V F D _ _ (λv rv VE U d N g P t q=>az (aR (az (m:=assignAll rv [ij (.Name y u) O]) (assign_Name
   (n9 (s:={VI with heap:=d,toks:=N}) F (D.Zv g P) hj hy (hk.imp (cU V) (cU V)) t .Zv λG' h' tk zz k o=>aR (hQ .next .next G' _ U h' tk ((g.x _).Zv k) o .next q)))))) hX.e))
 |true=>
  refine ma rfl (az (?_:au _ _ (do let _←zp (.ListComp Y [⟨.Name x R,a,C,0⟩] H e) H O (firstIterPos [⟨.Name x R,a,C,0⟩] e) (newList []) aj (a7 a O) (aa λv=>assignAll v [ij (.Name y u) O])) _ _ _))
  exact az (DX c p h V F D hX.e λE DD vs M G' h' tk gC gD ne x q=>x.casesOn λws na kk o Vw VF Vx Vy=>o.er.ns.casesOn λoC es ep Vz VA VB=>(kz.Zv kk o.hr Vw gD Vy q).casesOn λv VG f k2 H2 V2 q2 o2=>
   have p2:=o2 _ _ ne Vz;have nC:¬cH O E.locals:=λho=>aE (D.er.Zw ho) λo' z=>aG (gC.symm.trans z)
   assign_Name (n9 (s:={VI with heap:=h',toks:=tk}) F (D.Zv k2 H2) hj hy (hk.imp (cU V) (cU V)) V2 .Zv λG3 h3 VC zz k3 D3=>
    have p3:=vK k3 nC p2.1 (p2.2.trans Vx)
    ⟨ew es,⟨oC,es,ep,D3.hr.pv _ _ p3.1,VA,VB,λzz=>rfl⟩,λh4 VD=>aR (aR (hQ .next .next _ _ f h4 VC (rS ((k2.x _).Zv k3) gC) (D3.Zx p3.1 p3.2 nC VD.extBut) .next q2))⟩))
end
section
variable{W:aK}{w:aJ}{K:aY}{J:ay}{n:Nat}{I:Sc}{S:aA}{Z:St}{X:ak→St→Prop}
theorem KX.Zx{A:aD}{O:aH}{G:Gh}{N:aw}{U:ai→aw→Prop}(F:Fz A O n)(d:KX W w A G N X U):KX W w A G N X (fv (av W w) A O (lX (av W w) A O U)):=
 dO F.fr λg l C Y k V L M B u v f x=>by
  unfold fv lX nG tu;refine(bo Y)▸ ?_;exact gO.Zw (P:={N with heap:=B,toks:=u}) f C λm p o c=>d k V m M p u (v.Zv o) c x
theorem HI{H:aD}{s:aw}{e i:ar}{U:ai}{O:aH}{c:Code}{Q:Fin→aw→Prop}{E:ai→aw→Prop}(L:∀O x,ie i O x=a8 x)
  (F:au (av W w) H (a7 i O) (λx D=>au (av W w) H (fX x) (λY o=>gr (av W w) H (.compStart e 1 Y U O) (λr V=>Gz (motive:=λN=>Prop) r (λe=>lX (av W w) H O E e V) λN=>Q (.again c) V) o) E D) E s):
  au (av W w) H (AH e i U O c) Q E s:=by
 revert W w H s e i U O c Q E;apply et;generalize aL _=W,e9 _=w,e8 _=H,e7 _=s,e6 _=e,e5 _=i,e4 _=U,e3 _=O,e2 _=c,e1 _=Q,e0 _=E;intro L F
 exact
   az (dh F (λx D R=>az (fG (az (ql (L O x) (az (cC (dh R (λY o p=>az (wpAny_runOwn (h:=ah) (codeAny_mono (A:=H) p λr V M=>by
    cases r with
    |ok f=>exact aR M
    |error e=>exact M))) λN N B=>B))))))) λN N B=>B)
noncomputable def ox(G O:Gh)(r:ag)(o:aC):Gh:=⟨O.im,iF G.pv r (aa o),λa=>if a=r then aj else G.fm a⟩
theorem vJ{G O:Gh}{r:ag}{o:aC}(k:G.le O)(E:G.pv r=ah):G.le (ox G O r o):=
 have g:∀a x,G.pv a=aa x→a≠r:=λa x e q=>aG (E.symm.trans (q▸e))
 ⟨k.im,λa x e=>⟨x.slots,(bv _ _ (g a x e)).trans e⟩,λa x e=>⟨if_neg (g a x e),λN=>(bv _ _ (g a x e)).trans e⟩⟩
theorem Ib{G O:Gh}{r:ag}{o:aC}(k:G.le O)(t:O.pv r=aa o)(U:O.fm r=aj):(ox G O r o).le O:=
 ⟨λN N e=>e,λa x e=>bW (cx (a=r)) (λq=>by subst q;exact⟨x.slots,(aI ((bE G.pv a (aa o)).symm.trans e))▸t⟩) λq=>k.pv a x ((bv _ _ q).symm.trans e),
  λa x e=>bW (cx (a=r)) (λq=>by subst q;exact⟨U.trans (if_pos rfl).symm,λN=>(aI ((bE G.pv a (aa o)).symm.trans e))▸t⟩) λq=>have z:=k.fx a x ((bv _ _ q).symm.trans e);⟨z.1.trans (if_neg q).symm,λf=>z.2 ((if_neg q).symm.trans f)⟩⟩
theorem dg.Zx{A:aD}{O:aH}{b G Y:Gh}{L:ag}{U:List V}{h:ay}(k:G.le Y→b.le Y)(x:dg W w J A O G L U S Z Y h):dg W w J A O b L U S Z Y h:=
 x.casesOn λp M v D t N B R=>.mk p M (k v) D t N B R
def ku(W:aK)(w:aJ)(J:ay)(n:Nat)(I:Sc)(S:aA)(i L:Nat)(Y z:ar)(U:bV)(Q:List V→St→Prop)(X:ak→St→Prop)(l:List V):List V→St→Prop:=
 bc (motive:=λ_=>List V→St→Prop) (λO Z=>dk U Z∧Q O Z) (λv _ F O Z=>dk U Z∧AI W w J n I (cJ i v S) Y Z (λB m M=>B.length≤1000∧eu W w J n I (cJ i v S) L [] z m F X B O M) X) l
section
variable{A:aD}{cenv:aH}{G:Gh}{s:aw}{DD:ag}{sc:Sc}{φf:aA}{l:List V}{src:bV}{r:ag}{P:Gh→Nat→aC→Prop}{i i' :Nat}{x y:ak}{px py:aN}
theorem MA{f:Sc}{Y z:ar}{Q:List V→St→Prop}(U O:List V)(Z:St):ku W w J n f φf i i' Y z src Q X U O Z→dk src Z:=
 br (motive:=λU=>ku W w J n f φf i i' Y z src Q X U O Z→dk src Z) U qy λN N=>qy
theorem CF.Zv{O:ai→aw→Prop}{U:Gh}{o:aC}(c:CF W w n X A cenv G s DD sc O)(k:G.le U)(E:G.pv r=ah)(u:r≠DD)(q:r≠cenv.locals):CF W w n X A cenv (ox G U r o) s DD sc (fv (av W w) A cenv (lX (av W w) A cenv O)):=
 ⟨c.F,c.hs,λy V=>c.own y (fA λo e=>aE ((vJ k E).pv y o e) λM e=>aG (V.symm.trans e)),c.CD,(bv _ _ (dx u)).trans c.gD,(bv _ _ (dx q)).trans c.gC,λU B Y v N L=>KX.Zx c.F (c.ex U B Y ((vJ k E).Zv v) N L)⟩
theorem Mx{z F Y:ar}{H:cG}{L:aN}{Q:List V→St→Prop}{RR:jI→aw→Prop}{U:St}{O:Gh}{M:ay}{B:Nat}{o:aC}(c:CF W w n X A cenv G s DD sc (fv (av W w) A cenv λe g=>RR (.error e) g))(V1:gm W w l src r P)(hr:G.pv r=ah)(rD:r≠DD)(rC:r≠cenv.locals)(hs:∀VL x,ie Y VL x=a8 x)
  (hi:i<cB)(hx:NM i=x)(hk:cenv.kindOf x=aa .local)(Vx:∀p∈φf,p.1≠i)(Vy:i' <cB)(Vz:NM i' =y)(VA:cenv.kindOf y=aa .local)(C:∀p∈φf,p.1≠i')(VB:i≠i')(E:l.length≤1000)(h0:dg W w J A cenv G DD [] φf U O M)(t:O.pv r=aa o)(hf:O.fm r=aj)(hP:P O 0 o)(h:ku W w J n sc φf i i' Y z src Q X l [] U)
  (f:∀vs N G' h' tk,dg W w J A cenv G DD vs φf N G' h' →Q vs N→RR (.ok .next) {s with heap:=h',toks:=tk}):
  gr (av W w) A (.compStart (.ListComp z [⟨.Name x px,F,[],0⟩,⟨.Name y py,Y,[],0⟩] H L) 0 (.ref r) (.ref DD) cenv) RR {s with heap:=M,toks:=B}:=by
 revert W w J n X A cenv G s DD sc φf l src r P i i' x y px py z F Y H L Q RR U O M B o;apply aX;generalize aT _=W,aL _=w,e9 _=J,e8 _=n,e7 _=X,e6 _=A,e5 _=cenv,e4 _=G,e3 _=s,e2 _=DD,e1 _=sc,e0 _=φf;apply aX;generalize aT _=l,aL _=src,e9 _=r,e8 _=P,e7 _=i,e6 _=i',e5 _=x,e4 _=y,e3 _=px,e2 _=py,e1 _=z,e0 _=F;apply fD;generalize e9 _=Y,e8 _=H,e7 _=L,e6 _=Q,e5 _=RR,e4 _=U,e3 _=O,e2 _=M,e1 _=B,e0 _=o;intro c V1 hr rD rC hs hi hx hk Vx Vy Vz VA C VB E h0 t hf hP h f
 exact
   have VC:=yy (R:=RR) (z:=z) (a:=[⟨.Name x px,F,[],0⟩,⟨.Name y py,Y,[],0⟩]) (H:=H) (V:=L) (d:=0) (F:=AH (.ListComp z [⟨.Name x px,F,[],0⟩,⟨.Name y py,Y,[],0⟩] H L) Y (.ref DD) cenv (.compLoop (.ListComp z [⟨.Name x px,F,[],0⟩,⟨.Name y py,Y,[],0⟩] H L) 0 (.ref r) (.ref DD) cenv)) rfl
    (ky W w J A cenv G s DD φf l r P (·*1000) (ku W w J n sc φf i i' Y z src Q X)) (λm g hI=>hI.Zw c V1 hr rD rC hi hx hk MA (λzz zz h=>h) (λu N G' h' tk zz x hC=>f u N G' h' tk x hC.2) λj u N v G' o h' tk em hj ha xb t hf hP hC=>
     HI hs (hC.2 A cenv G' {s with heap:=h',toks:=tk} c.hs c.F xb.dy _ _ (λl' VX r' P' o' G2 VD h2 VE k2 H2 VF VM VG S' VH hh=>xb.casesOn λws na kk D VN VY VZ V0=>D.er.ns.casesOn λoC es ep VO zz zz=>by
      have p:=k2.fx _ _ t;have kG:=kk.Zv k2;have x2:dg W w J A cenv (ox G G2 r o) DD u (cJ i v φf) VD G2 h2:=(xb.Zv k2 H2).Zx λk=>Ib k (p.2 hf) (p.1.trans hf);have ne:∀{a ob},G'.pv a=aa ob→r' ≠a:=λe q=>aG (VG.symm.trans (q▸e));have VP:(ox G G2 r o).pv r' =ah:=(bv _ _ (ne t)).trans (fA λob e=>aE (kk.pv _ _ e) λsl e=>aG (VG.symm.trans e));refine qF em ?_
      have Vv:=yy (R:=λVI g=>Gz (motive:=λzz=>Prop) VI (λe=>lX (av W w) A cenv (fv (av W w) A cenv λe g=>RR (.error e) g) e g) λzz=>Fin.again (.compLoop (.ListComp z [⟨.Name x px,F,[],0⟩,⟨.Name y py,Y,[],0⟩] H L) 0 (.ref r) (.ref DD) cenv)=.again (.compLoop (.ListComp z [⟨.Name x px,F,[],0⟩,⟨.Name y py,Y,[],0⟩] H L) 0 (.ref r) (.ref DD) cenv)∧∃m',m' <l.length-j∧ky W w J A cenv G s DD φf l r P (·*1000) (ku W w J n sc φf i i' Y z src Q X) m' g)
       (z:=z) (a:=[⟨.Name x px,F,[],0⟩,⟨.Name y py,Y,[],0⟩]) (H:=H) (V:=L) (d:=1) (F:=li [] z (.ref DD) cenv (.compLoop (.ListComp z [⟨.Name x px,F,[],0⟩,⟨.Name y py,Y,[],0⟩] H L) 1 (.ref r') (.ref DD) cenv)) rfl _
       (λm g hI=>ky.go (b:=j*1000) (c.Zv kG hr rD rC) S' VP (ne VN) (ne VO) Vy Vz VA (λp t=>(fi.mp t).elim (λe=>e▸VB) λh=>C p h.1) (aW (Nat.add_le_add (Nat.mul_le_mul_right 1000 (aW (iw hj) E)) hh.1) (by decide))
        (λvs VQ G3 h3 VS hl x3 q=>x3.casesOn λVT VU Vw D3 VV VW VJ VK=>have p3:=Vw.fx r o (bE _ _ _)
         ⟨rfl,_,Gd _ _ hj,.mk (j+1) vs VQ G3 o h3 VS hj (aW hl (aW (iy hh.1 _) (cN (Nat.succ_mul j 1000).symm)))
          (.mk VT VU ((vJ kG hr).Zv Vw) (D3.Zw λp t=>fi.mpr (.inr ⟨t,Vx p t⟩)) VV VW VJ VK) (p3.2 (if_pos rfl)) (p3.1.trans (if_pos rfl)) (V1.mono _ _ _ _ (λa o e=>Vw.im a o (k2.im a o e)) hP) q⟩) hI) l'.length (s:={s with heap:=h2,toks:=VE}) (.mk 0 u VD G2 o' h2 VE (gy _) ha x2 VF VM VH hh.2)
      exact Mu Vv (S'.self A _ o' _ (x2.dy.hr.pv _ _ VF) VH _ _ Vv)) (xb.kx c))) l.length (s:={s with heap:=M,toks:=B}) (.mk 0 [] U O o M B (gy _) (gy _) h0 t hf hP h)
   codeAny_compStart_list VC (V1.self A _ o _ (h0.dy.hr.pv _ _ t) hP _ _ VC)
end
theorem AE.ZH{f:Bool}{U:aA}{i M:Nat}{x y:ak}{d t B:aN}{z a e:ar}{H:cG}{Q:V→St→Prop}(c:iW I S U H i x)(v:iW I S U H M y)(C:i≠M)(hs:∀O x,ie a O x=a8 x)(N:∀O x,ie e O x=a8 x)
  (h:AI W w J n I S a Z (λl R Y=>l.length≤1000∧ku W w J n (jR I H) U i M e z R (kz f Q) X l [] Y) X):
  AE W w J n I S (.ListComp z [⟨.Name x d,a,[],0⟩,⟨.Name y t,e,[],0⟩] H B) Z Q X:=by
 revert W w J n I S Z X f U i M x y d t B z a e H Q;apply aX;generalize aT _=W,aL _=w,e9 _=J,e8 _=n,e7 _=I,e6 _=S,e5 _=Z,e4 _=X,e3 _=f,e2 _=U,e1 _=i,e0 _=M;apply fD;generalize e9 _=x,e8 _=y,e7 _=d,e6 _=t,e5 _=B,e4 _=z,e3 _=a,e2 _=e,e1 _=H,e0 _=Q;intro c v C hs N h;intro A O G s b F D RQ RE hQ hX
 exact aE (c.Zv b D) λcl K=>DV rfl (hs O) K.run c.kind c.locs (h A O G s b F D _ _ (λl R r P o Vx Y Vy Vw g j m hf hr VA hP hh=>bu hh λu hC=>
  DZ (V:=λVv L=>.compStart (.ListComp z [⟨.Name x d,a,[],0⟩,⟨.Name y t,e,[],0⟩] H B) 0 (.ref r) Vv L) b F D g j c K hX λL DD G' h tk E k k3 ne x0=>
   have p:=(k3.fx _ _ m)
   Mx E VA hr (ne _ _ m).1 (ne _ _ m).2 N c.lt c.nm ((k _).trans (oP.trans (by rw[c.loc];rfl))) c.ne v.lt v.nm ((k _).trans (oP.trans (by rw[v.loc];rfl))) v.ne C u x0 (p.2 hf) (p.1.trans hf) (VA.mono _ _ _ _ k3.im hP) hC
    λvs Vz G' h' tk x q=>D0 hQ E.gC E.gD E.CD x q) hX)
end
section
variable{W:aK}{w:aJ}{K:aY}{J:ay}{n:Nat}{I:Sc}{S:aA}{Z:St}{X:ak→St→Prop}{Q:V→St→Prop}
theorem fE.Zy{A r:aD}{G:Gh}(h:r.frames=A.frames)(x:fE A G):fE r G:=x.casesOn λl e k=>.mk l (h.trans e) k
theorem gO.Zx{A r:aD}{G:Gh}{h:ay}{k:ak}{Y:ai}(e:r.frames=A.frames)(f:gO W w r G Z h k Y):gO W w A G Z h k Y:=
 f.casesOn λa D V q t x=>.mk a D V q (a9 (motive:=λV=>qb r V→qb A V) V (λN=>trivial) (λp t=>za.casesOn t .n λO l L U o M=>.f O l L (e.symm.trans U) o M) t) ⟨x.hr,x.fr.Zy e.symm,x.ex,x.off,x.offT,x.kd⟩
theorem CV{A:aD}{c:ag}{t:List ai}:(A.under (.builtin "type.__call__" ⟨.ref c::t,[]⟩)).frames=A.frames:=by rfl
theorem DM{a m n l:Nat}(h:a+m*(n+1)≤l)(b:1≤m):a+1+m*n≤l:=aW (by rw[qv];rw[zJ 1];exact iy (iy b _) _) h
theorem aS.Z6{c f:ag}{R:List V}(C:Cx K J)(E:makesIn K c=ae)(z:fJ K (.ref c) "__init__"=aa (aa (.ref f)))(m:typeIn K (.ref f)=aa (.type "function"))
  (h:∀a,Z a=ah→fF W w J n (Z.Zv a (.inst c [])) (.obj a::R) f (λr U=>r=.none∧Q (.obj a) U) X):aS W w J (n+1) Z R (λY=>aV (.ref c) Y) Q X:=
 λA G s Y F T H Vv RQ RE D y=>kD (by
 have B:=C.at T H;obtain⟨O,g,d,t,i⟩:=s;have p:O.get? O.objs.size=ah:=eV O;have j:O.get? (O.objs.size+1)=ah:=F6 (nP _)
 have l:HR W w G (Z.Zv (O.objs.size+1) (.inst c [])) ((O.push emptyDict).push (io c O.objs.size)):=
  H.ZV (O:=[]) j p (iu (Nat.lt_succ_self _)) (λb o e=>bM _ (bM _ e)) (by heap_get) (.mk _ _ _ (bM _ (gQ _ rfl)) rfl (λe he=>absurd he (Array.not_mem_empty _)) (λzz=>rfl) (f8 _)) .nil
 exact make_core (makes_of B E) (looks_findIn B z) (λself=>bind_fn B self m) (.inl rfl) (h _ (H.Zv j).mu (A.under (.builtin "type.__call__" ⟨.ref c::Y,[]⟩)) G ⟨(O.push emptyDict).push (io c O.objs.size),g,d,t,i⟩ (.ref (O.objs.size+1)::Y)
  ⟨F.hd,DM F.dp (by decide),DM F.un (by decide)⟩ ⟨T.t,T.fr.Zy CV⟩ l (.cons (.obj _) Vv) _ (λv rv L M N u k H' P q=>by
   rw[q.1]at P;exact P.eN ⟨rfl,D _ _ L M N u k H' (.obj _) q.2⟩) (λk ev L M N u kk f x=>y k ev L M N u kk (gO.Zx CV f) x)))
theorem z6{f:ag→Option aC}{k:Int}{l:List (Int×V)}{O:List (Int×ai)}(h:bR f l O):bR f (l.filter λp=>p.1 !=k) (PySem.without O k):=
 bR.rec (motive:=λl O N=>bR f (l.filter λp=>p.1 !=k) (PySem.without O k)) .nil (λ{j v r l O} x _ F=>by
  unfold PySem.without at F⊢
  exact bW (cx (j=k)) (λq=>by
   rw[tP (a:=(j,v)) (p:=λp:Int×V=>p.1 !=k) (λc=>bne_iff_ne.mp c q),tP (a:=(j,r)) (λc=>(of_decide_eq_true c:j≠k) q)];exact F) λq=>by
   rw[tO (a:=(j,v)) (p:=λp:Int×V=>p.1 !=k) (bne_iff_ne.mpr q),tO (a:=(j,r)) (decide_eq_true q)];exact .cons x F) h
theorem Av{O:Type}{f:ag→Option aC}{l:List (O×V)}{U:List (O×ai)}(h:bR f l U)(Y:l.length≤1000):U.length≤eX:=aW (cN h.Zv) (aW Y (by decide))
theorem aS.ZK{a:ag}{l:List (Int×V)}{r:Int}{z:V}(C:Z a=aa (.idict l))(B:l.length≤1000)(L:l.lookup r=aa z)(q:Q z (Z.Zv a (.idict (l.filter λp=>p.1 !=r)))):aS W w J n Z [.obj a,.int r] (λO=>aV (.builtin "dict.pop") O) Q X:=
 λA G s O F T H v g m E D=>v.e2 λy e P N=>P.eO (N.eI λt=>aB (H.Zz C) λM U b=>aB ((b.Zw r).2 z L) λY R f=>
  call_meetsIn tD U.typeIs F9 (PySem.F.args_dict_pop_2 _ _) (meets_dict_pop_there (knd:=dI W w) (d:=a) (k:=r) (hkey:=kF W w r _) (rest:=[]) (hrest:=.inl rfl) (hpart:=rfl)) ⟨M,Y,U,Av b B,(kX _ _).trans R,λu j i=>
   E z Y G _ u _ (.Zw _) (H.Zx (H:=.idict (l.filter λp=>p.1 !=r)) C rfl rfl i.extBut ⟨_,j,z6 b⟩) f q⟩)
theorem aS.ZG{a:ag}{l:List (Int×V)}{q:Int}{u:V}(C:Cx K J)(O:Z a=aa (.idict l))(B:l.length≤1000)
  (h:a9 (motive:=λR=>Prop) (l.lookup q) (Q u Z) λz=>Q z (Z.Zv a (.idict (l.filter λp=>p.1 !=q)))):aS W w J n Z [.obj a,.int q,u] (λL=>aV (.builtin "dict.pop") L) Q X:=by
 revert W w K J n Z X Q a l q u;apply aX;generalize aT _=W,aL _=w,e9 _=K,e8 _=J,e7 _=n,e6 _=Z,e5 _=X,e4 _=Q,e3 _=a,e2 _=l,e1 _=q,e0 _=u;intro C O B h
 exact
   λA G s L F T H Vv P m E e=>Vv.e3 λx rb g D y v=>D.eO (y.eI λt=>aB (H.Zz O) λM U b=>
    a9 (motive:=λo=>l.lookup q=o→a9 (motive:=λR=>Prop) o (Q u Z) (λz=>Q z (Z.Zv a (.idict (l.filter λp=>p.1 !=q))))→au (av W w) A (aV (.builtin "dict.pop") [.ref a,.int q t,g]) P m s) (l.lookup q)
     (λY h=>call_meetsIn tD U.typeIs F9 (PySem.F.args_dict_pop_3 _ _ _) (meets_dict_pop_default (knd:=dI W w) (d:=a) (k:=q) (hkey:=kF W w q _) (hd:=C.Zv T H O) (hpart:=rfl) (dflt:=g)) ⟨M,U,(kX _ _).trans ((b.Zw q).1 Y),E u g G Z s.heap _ (.Zw _) H v h⟩)
     (λz Y h=>aB ((b.Zw q).2 z Y) λN r f=>call_meetsIn tD U.typeIs F9 (PySem.F.args_dict_pop_3 _ _ _) (meets_dict_pop_there (knd:=dI W w) (d:=a) (k:=q) (hkey:=kF W w q _) (rest:=[g]) (hrest:=.inr ⟨g,rfl⟩) (hpart:=rfl)) ⟨M,N,U,Av b B,(kX _ _).trans r,λc j i=>
      E z N G _ c _ (.Zw _) (H.Zx (H:=.idict (l.filter λp=>p.1 !=q)) O rfl rfl i.extBut ⟨_,j,z6 b⟩) f h⟩) rfl h)
theorem HR.ZY{G:Gh}{h:ay}{a:ag}{l:List V}{p:List ai}{m:Nat}(x:HR W w G Z h)(e:Z a=aa (.list l))(t:h.get? a=aa (dl p m)):HR W w (G.Zy a (dl p m)) (Z.ZA a) h:=
 x.ZB (hV (x.om e).1) (λb c=>⟨bv _ _ c,rfl,if_neg c,λo q=>q⟩) (.i (bE _ _ _) t (x.om e).2 (if_pos rfl)) (.inr λf=>aG (f.mu.symm.trans e))
inductive Fh(R:ag→List V→Prop)(Z:St):V→Prop
 |mk (a l):Z a=aa (.list l)→R a l→Fh R Z (.obj a)
theorem AE.ZC{e:ar}(h:AE W w J n I S e Z (λv U=>Fh (λa l=>Q (.lst l) (U.ZA a)) U v) X):AE W w J n I S e Z Q X:=
 λA V G s N F D H z E d=>h A V G s N F D _ _ (λv B Y U R O g j c u=>Fh.casesOn (motive:=λv f=>VR Y.im v B→H B {s with heap:=R,toks:=O}) u (λa l C q c=>c.eO (aB (j.ZC C) λL t P=>aE t λy t=>
  have M:=oU (o:=dl L y) (j.om C).1
  E _ _ _ _ R O (g.Zv M) (j.ZY (p:=L) (m:=y) C t) (.lst (bE _ _ _) (P.Zw M.im)) q)) c) d
noncomputable def oX(u:Bu):String:=Bu.casesOn u "" "" "" "" "" "" "int" "bool" "tuple" "str"
inductive kn:Bu→Prop
 |i:kn .isInt
 |b:kn .isBool
 |t:kn .isTuple
 |s:kn .isStr
theorem Kg{A:aD}{G:Gh}{s:aw}{u:Bu}{v z:V}{Y:ai}{O U:ai→aw→Prop}(H:HR W w G Z s.heap)(g:VR G.im v Y)(M:kn u)(h:bq u Z v=aa z)
  (q:∀r B,VR G.im z r→O r {s with toks:=B}):au (av W w) A (aV (.builtin "isinstance") [Y,.type (oX u)]) O U s:=
 have k:∀{b:Bool},aa (V.bool b)=aa z→∀B,O (.bool b) {s with toks:=B}:=λ{b} h B=>q _ B (aI h▸ .bool b)
 kn.casesOn (motive:=λu N=>bq u Z v=aa z→au (av W w) A (aV (.builtin "isinstance") [Y,.type (oX u)]) O U s) M
  (V.casesOn (motive_1:=λv=>VR G.im v Y→bq .isInt Z v=aa z→au (av W w) A (aV (.builtin "isinstance") [Y,.type "int"]) O U s) v (λg h=>g.eN (IsiPair.NoneType_int (k h _))) (λb g h=>g.eB (IsiPair.bool_int (k h s.toks))) (λi g h=>g.eI λt=>IsiPair.int_int (k h s.toks)) (λx g h=>g.eS λt=>IsiPair.str_int (k h _))
   (λl g h=>g.eT λr m L e N=>IsiPair.tuple_int (H.im _ _ e) rfl (k h _)) (λl g h=>g.eL λr m L e N=>IsiPair.list_int (H.im _ _ e) rfl (k h _)) (λN N h=>nq h) g)
  (V.casesOn (motive_1:=λv=>VR G.im v Y→bq .isBool Z v=aa z→au (av W w) A (aV (.builtin "isinstance") [Y,.type "bool"]) O U s) v (λg h=>g.eN (IsiPair.NoneType_bool (k h _))) (λb g h=>g.eB (IsiPair.bool_bool (k h s.toks))) (λi g h=>g.eI λt=>IsiPair.int_bool (k h _)) (λx g h=>g.eS λt=>IsiPair.str_bool (k h _))
   (λl g h=>g.eT λr m L e N=>IsiPair.tuple_bool (H.im _ _ e) rfl (k h _)) (λl g h=>g.eL λr m L e N=>IsiPair.list_bool (H.im _ _ e) rfl (k h _)) (λN N h=>nq h) g)
  (V.casesOn (motive_1:=λv=>VR G.im v Y→bq .isTuple Z v=aa z→au (av W w) A (aV (.builtin "isinstance") [Y,.type "tuple"]) O U s) v (λg h=>g.eN (IsiPair.NoneType_tuple (k h _))) (λb g h=>g.eB (IsiPair.bool_tuple (k h _))) (λi g h=>g.eI λt=>IsiPair.int_tuple (k h _)) (λx g h=>g.eS λt=>IsiPair.str_tuple (k h _))
   (λl g h=>g.eT λr m L e N=>IsiPair.tuple_tuple (H.im _ _ e) rfl (k h s.toks)) (λl g h=>g.eL λr m L e N=>IsiPair.list_tuple (H.im _ _ e) rfl (k h _)) (λN N h=>nq h) g)
  (V.casesOn (motive_1:=λv=>VR G.im v Y→bq .isStr Z v=aa z→au (av W w) A (aV (.builtin "isinstance") [Y,.type "str"]) O U s) v (λg h=>g.eN (IsiPair.NoneType_str (k h _))) (λb g h=>g.eB (IsiPair.bool_str (k h _))) (λi g h=>g.eI λt=>IsiPair.int_str (k h _)) (λx g h=>g.eS λt=>IsiPair.str_str (k h s.toks))
   (λl g h=>g.eT λr m L e N=>IsiPair.tuple_str (H.im _ _ e) rfl (k h _)) (λl g h=>g.eL λr m L e N=>IsiPair.list_str (H.im _ _ e) rfl (k h _)) (λN N h=>nq h) g) h
theorem AE.Z0{u:Bu}{Vv y:ak}{M a L:aN}{e:ar}(C:Cx K J)(N:kn u)(H:I.names.lookup Vv=aa .globalImplicit)(o:bG K bp Vv=aa ah)(i:nK Vv=aa (.builtin "isinstance"))
  (b:I.names.lookup y=aa .globalImplicit)(k:bG K bp y=aa ah)(p:nK y=aa (.type (oX u)))
  (h:AE W w J n I S e Z (λv U=>∃z,bq u U v=aa z∧Q z U) X)(d:Vv≠"__name__")(t:(Vv==("__debug__":ak))=aj)(l:y≠"__name__")(f:(y==("__debug__":ak))=aj)
  (E:∀O,bw [e,.Name y a] O=(aj,a7 e O)::bw [.Name y a] O):AE W w J n I S (.Call (.Name Vv M) [e,.Name y a] [] L) Z Q X:=by
 intro A O G Vw B F D RQ RE hQ hX;refine nM rfl (sK C F D.top D.hr (cU B H) o i d ?_ t);rw[E O]
 exact tz (P:=λzz=>True) rfl (λh zz=>⟨.machine,.inr (.inl rfl),oO "isinstance" h⟩) (tF (spliced_cons (h A O G Vw B F D _ _ (λv rv V U R Y g j c hh=>aB hh λz hz q=>
  have m:=D.Zv g j
  spliced_cons (x:=a7 (.Name y a) O) (rest:=[]) (sK (s:={Vw with heap:=R,toks:=Y}) C F m.top m.hr (cU B b) k p l (spliced_nil ⟨trivial,Kg (s:={Vw with heap:=R,toks:=Y}) j c N hz λr tk hr=>hQ z r V U R tk g j hr q⟩) f)) hX)))
end
theorem Id{a b:List Int}:a.Pairwise (·≤ ·)→b.Pairwise (·≤ ·)→a.Perm b→a=b:=λk i p=>p.eq_of_pairwise (λx y N N R H=>Int.le_antisymm R H) k i
theorem Hw{a b:List Int}(k:a.Pairwise (·≤ ·))(p:a.Perm b):a=jj b:=
 Id k ((Gl (le:=λa b:Int=>aO (a≤b)) (λa b c R H=>decide_eq_true (tQ (of_decide_eq_true R) (of_decide_eq_true H))) (λa b=>gB.mpr ((Int.le_total a b).imp decide_eq_true decide_eq_true)) b).imp of_decide_eq_true) (p.trans (Gn _ _).symm)
theorem Kn{f:ag→Option aC}{L:List ai}{I:List Int}(h:IntsAre L I):VRs f (I.map .int) L:=
 by
 induction h with
 |nil=>exact .nil
 |cons n t _ F=>exact .cons (.int n t) F
theorem Ht{h:ay}{a:ag}{D:Array ai}{n:Nat}(u:h.get? a=aa (seqObj "list" D n))(L:List ai)(d:Array ai):∃m,(sortedHeap h a L d).get? a=aa (eJ "list" d.toList m):=
 ⟨_,jb (lZ λN=>d) (bM (seqObj "list" #[] 0) (bM (seqObj "tuple" L.toArray 0) (jb (lZ λN=> #[]) u rfl))) rfl⟩
theorem Hs{h:ay}{a b:ag}{o:aC}{L:List ai}{d:Array ai}(n:b≠a)(u:h.get? b=aa o):(sortedHeap h a L d).get? b=aa o:=
 (kK _ _ (dx n)).trans (bM _ (bM _ ((kK _ _ (dx n)).trans u)))
section
variable{W:aK}{w:aJ}{K:aY}{J:ay}{n:Nat}{Z:St}{X:ak→St→Prop}{Q:V→St→Prop}
theorem MC{A:aD}{E:ai→aw→Prop}{F:aw}{d:ag}{M:List (Int×ai)}{r:Nat}{Q:List ai→aw→Prop}(I:(d==sysModules)=aj)(L:A.handled=ah)(S:F.heap.DictAt (dI W w) d M r)(N:M.length≤eX)
  (h:∀B u H,(∀b o,F.heap.get? b=aa o→B.get? b=aa o)→ItemsOf (λi v=>∃k x,M[i]? =aa (k,x)∧(dI W w).is k v=ae) H M.length→Q H.toList {F with heap:=B,toks:=u}):
  au (av W w) A (collect (.ref d)) Q E F:=by
 revert W w A E F d M r Q;apply j7;generalize e8 _=W,e7 _=w,e6 _=A,e5 _=E,e4 _=F,e3 _=d,e2 _=M,e1 _=r,e0 _=Q;intro I L S N h;have Y:F.heap.objs.size≠d:=Nat.ne_of_gt S.lt_size;have U:(F.heap.push {cls:=.type "list",data:=.seq ([]:List ai).toArray}).get? F.heap.objs.size=aa {cls:=.type "list",data:=.seq #[] 0}:=gQ _ rfl
 have y:∀R:jI→aw→Prop,(∀B u O c,(∀b o,F.heap.get? b=aa o→B.get? b=aa o)→B.get? F.heap.objs.size=aa {cls:=.type "list",dict:=ah,data:=.seq O c,slots:= #[]}→ItemsOf (λi v=>∃k x,M[i]? =aa (k,x)∧(dI W w).is k v=ae) O M.length→R (.ok (.ret (.ref F.heap.objs.size))) {F with heap:=B,toks:=u})→
   gr (av W w) A (.builtin "proto.collect" ⟨[.ref d],[]⟩) R F:=λR z=>by
  refine codeAny_builtin entry_proto_collect' ?_;rw[Around.under_plainId PySem.F.plain_proto_collect _];refine(?_:au _ A.in1 (newList []>>=λl=>again (.builtin "list.__iadd__" ⟨[l,.ref d],[]⟩)) _ _ F);refine az (wpAny_newList (aR ⟨plainId_quiet PySem.F.plain_list_iadd _,codeAny_builtin entry_list_iadd' ?_⟩));rw[Around.under_plainId PySem.F.plain_list_iadd _]
  exact kdl_extend (s:={F with heap:=F.heap.push {cls:=.type "list",data:=.seq ([]:List ai).toArray}}) (kdl_dict (knd:=dI W w) (kvs:=M) (ep:=r) I) L (S.push _) _ Y Y (.ref F.heap.objs.size) 0 U
   (λB u O c V U m=>z B u O c (λb o e=>V b o (iu (eZ e)) (bM _ e)) U m) N
 exact az (wpAny_runValue (y _ λB u O c V U m=>(az (wpAny_load U (aR (h B u O V m))):au (av W w) A (do
   let o←load F.heap.objs.size
   match o.data with
   | .seq D _=>a8 D.toList
   |_=>unsupported "internal:collect") Q E _)))
theorem Kd{L:List ai}:∀{M:List (Int×ai)},L.length=M.length→(∀(j:Nat) v,L[j]? =aa v→∃k x,M[j]? =aa (k,x)∧(dI W w).is k v=ae)→IntsAre L (M.map (·.1)):=
 bc (motive:=λL=>∀{M:List (Int×ai)},L.length=M.length→(∀(j:Nat) v,L[j]? =aa v→∃k x,M[j]? =aa (k,x)∧(dI W w).is k v=ae)→IntsAre L (M.map (·.1))) (λ{M} C _=>zS C.symm▸ .nil)
  (λv L F {M}=>br (motive:=λM=>(v::L).length=M.length→(∀(j:Nat) u,(v::L)[j]? =aa u→∃k x,M[j]? =aa (k,x)∧(dI W w).is k u=ae)→IntsAre (v::L) (M.map (·.1))) M (λC N=>nomatch C) λp M C h=>
   dO (h 0 v rfl) λk x e U=>by
    refine aE (F5 U) λt o=>?_;refine qF o ?_;refine oF e ?_;exact .cons _ t (F (zH C) λj u e=>h (j+1) u e)) L
theorem aS.ZC(C:Cx K J){v z:V}(h:bq .sorted_ Z v=aa z)(q:Q z Z):aS W w J n Z [v] (t1 λx=>aV (.builtin "sorted") [x]) Q X:=
 .Zx λA Vw s p O U F T H g k=>rB (λv=>VR Vw.im v p→au (av W w) A (aV (.builtin "sorted") [p]) O U s) h (λa e g=>g.eO (iJ (λVv=>Z a=Vv→au (av W w) A (aV (.builtin "sorted") [.ref a]) O U s) e
   (λN e=>nq e) (λl e S=>cL (λz=>Q z Z→au (av W w) A (aV (.builtin "sorted") [.ref a]) O U s) e (λY q=>aB (H.Zz S) λM u I=>aE u.dictAt λep D=>by
    refine Calls.call_function_entry kind_sorted plain_sorted entry_sorted (args_sorted1 _) ?_;refine az (m:=checkCount "sorted" 1 1 _) (aR ?_);have t:M.length<64:=fL (cN I.Zv) Y;refine az (MC (C.Zv T H S) F.hd D (by rw[qm];exact aW (iw t) (by decide)) λB tk L y g=>?_);have P:=Kd (L:=L.toList) g.1 λj v e=>g.2 j v (Array.getElem?_toList.symm.trans e);refine az (wpAny_newList ?_);have i:(B.push (seqObj "list" L.toList.toArray 0)).get? B.objs.size=aa (seqObj "list" L.toList.toArray 0):=gQ _ rfl;refine az (cC (wpAny_call_entry slot_list_sort ⟨_,i,rfl⟩ entry_list_sort (list_sort_tree i P (fL (cN g.1) t) λd f E c r=>⟨_,rfl,?_⟩) (args_list_sort _)));refine aR ⟨_,rfl,?_⟩
    exact aE (Ht i L.toList d) λVx hL=>
     have R:s.heap.get? B.objs.size=ah:=fA λVv q=>absurd (eZ (y _ _ q)) (jK _);have k1:=oU (G:=Vw) (o:=eJ "list" d.toList Vx) (H.Zv R).im
     k (.lst (f.map .int)) _ _ _ _ k1 (H.ZL R (λb Vv e=>Hs (iu (eZ (y b Vv e))) (bM _ (y b Vv e))) hL) (.lst (bE _ _ _) (Kn E)) (Hw r (I.Zz▸c)▸q)) q) (λN e=>nq e) (λN e=>nq e) (λN N e=>nq e) rfl)) g
end
theorem dn{c:Prop} [Decidable c]{f:c→Bool}{P:Prop}(h:dite c f (λN=>aj)=ae)(k:c→P):P:=bW (cx c) k λq=>aF ((dif_neg q).symm.trans h)
noncomputable def nl{O:Type}(l:List O)(b:Bool):Bool:=bc b (λ_ _ _=>aj) l
@[elab_as_elim] theorem fB{O:Type}{b:Bool}{M:List O→Prop}{l:List O}(h:nl l b=ae)(c:b=ae→M []):M l:=br (motive:=λl=>nl l b=ae→M l) l c (λN N=>aF) h
noncomputable def nO{O:Type}(l:Option O)(b:Bool):Bool:=Option.rec b (λ_=>aj) l
@[elab_as_elim] theorem jV{O:Type}{b:Bool}{M:Option O→Prop}{l:Option O}(h:nO l b=ae)(c:b=ae→M ah):M l:=a9 (motive:=λl=>nO l b=ae→M l) l c (λ_=>aF) h
noncomputable def sO{O:Type}(l:Option O)(k:O→Bool):Bool:=Option.rec aj k l
@[elab_as_elim] theorem lh{O:Type}{k:O→Bool}{M:Option O→Prop}{l:Option O}(h:sO l k=ae)(c:∀x,k x=ae→M (aa x)):M l:=a9 (motive:=λl=>sO l k=ae→M l) l aF c h
noncomputable def fP(E:ar)(k:ak→Bool):Bool:=dite (E.ctorIdx=23) (λh=>Expr.Name.elim E h λx p=>k x) λ_=>aj
@[elab_as_elim] theorem gc{M:ar→Prop}{E:ar}{k:ak→Bool}(h:fP E k=ae)(r:∀x p,k x=ae→M (.Name x p)):M E:=
 dn h λq=> @Expr.Name.elim (λE=>fP E k=ae→M E) E q (λx p h=>r x p h) h
noncomputable def jl(E:ar)(k:Const→Bool):Bool:=dite (E.ctorIdx=19) (λh=>Expr.Constant.elim E h λc n p=>k c) λ_=>aj
@[elab_as_elim] theorem ln{M:ar→Prop}{E:ar}{k:Const→Bool}(h:jl E k=ae)(r:∀c n p,k c=ae→M (.Constant c n p)):M E:=
 dn h λq=> @Expr.Constant.elim (λE=>jl E k=ae→M E) E q (λc n p h=>r c n p h) h
noncomputable def oz(E:ar)(k:List ar→Bool):Bool:=dite (E.ctorIdx=25) (λh=>Expr.Tuple.elim E h λl n p=>k l) λ_=>aj
@[elab_as_elim] theorem q9{M:ar→Prop}{E:ar}{k:List ar→Bool}(h:oz E k=ae)(r:∀l n p,k l=ae→M (.Tuple l n p)):M E:=
 dn h λq=> @Expr.Tuple.elim (λE=>oz E k=ae→M E) E q (λl n p h=>r l n p h) h
noncomputable def ri(E:ar)(k:List ar→Bool):Bool:=dite (E.ctorIdx=24) (λh=>Expr.List.elim E h λl p=>k l) λ_=>aj
@[elab_as_elim] theorem AY{M:ar→Prop}{E:ar}{k:List ar→Bool}(h:ri E k=ae)(r:∀l p,k l=ae→M (.List l p)):M E:=
 dn h λq=> @Expr.List.elim (λE=>ri E k=ae→M E) E q (λl p h=>r l p h) h
noncomputable def oB(E:ar)(k:List (Option ar)→List ar→Bool):Bool:=dite (E.ctorIdx=6) (λh=>Expr.Dict.elim E h λi l p=>k i l) λ_=>aj
@[elab_as_elim] theorem uy{M:ar→Prop}{E:ar}{k:List (Option ar)→List ar→Bool}(h:oB E k=ae)(r:∀i l p,k i l=ae→M (.Dict i l p)):M E:=
 dn h λq=> @Expr.Dict.elim (λE=>oB E k=ae→M E) E q (λi l p h=>r i l p h) h
noncomputable def rp(E:ar)(k:ar→qp→ar→Bool):Bool:=dite (E.ctorIdx=2) (λh=>Expr.BinOp.elim E h λa o b p=>k a o b) λ_=>aj
@[elab_as_elim] theorem A6{M:ar→Prop}{E:ar}{k:ar→qp→ar→Bool}(h:rp E k=ae)(r:∀a o b p,k a o b=ae→M (.BinOp a o b p)):M E:=
 dn h λq=> @Expr.BinOp.elim (λE=>rp E k=ae→M E) E q (λa o b p h=>r a o b p h) h
noncomputable def oy(E:ar)(k:UnaryOp→ar→Bool):Bool:=dite (E.ctorIdx=3) (λh=>Expr.UnaryOp.elim E h λo a p=>k o a) λ_=>aj
@[elab_as_elim] theorem uq{M:ar→Prop}{E:ar}{k:UnaryOp→ar→Bool}(h:oy E k=ae)(r:∀o a p,k o a=ae→M (.UnaryOp o a p)):M E:=
 dn h λq=> @Expr.UnaryOp.elim (λE=>oy E k=ae→M E) E q (λo a p h=>r o a p h) h
noncomputable def ms(E:ar)(k:fK→List ar→Bool):Bool:=dite (E.ctorIdx=0) (λh=>Expr.BoolOp.elim E h λo l p=>k o l) λ_=>aj
@[elab_as_elim] theorem ro{M:ar→Prop}{E:ar}{k:fK→List ar→Bool}(h:ms E k=ae)(r:∀o l p,k o l=ae→M (.BoolOp o l p)):M E:=
 dn h λq=> @Expr.BoolOp.elim (λE=>ms E k=ae→M E) E q (λo l p h=>r o l p h) h
noncomputable def rn(E:ar)(k:ar→List CmpOp→List ar→Bool):Bool:=dite (E.ctorIdx=15) (λh=>Expr.Compare.elim E h λa i l p=>k a i l) λ_=>aj
@[elab_as_elim] theorem A5{M:ar→Prop}{E:ar}{k:ar→List CmpOp→List ar→Bool}(h:rn E k=ae)(r:∀a i l p,k a i l=ae→M (.Compare a i l p)):M E:=
 dn h λq=> @Expr.Compare.elim (λE=>rn E k=ae→M E) E q (λa i l p h=>r a i l p h) h
noncomputable def uw(E:ar)(k:ar→ar→ar→Bool):Bool:=dite (E.ctorIdx=5) (λh=>Expr.IfExp.elim E h λt a b p=>k t a b) λ_=>aj
@[elab_as_elim] theorem Ik{M:ar→Prop}{E:ar}{k:ar→ar→ar→Bool}(h:uw E k=ae)(r:∀t a b p,k t a b=ae→M (.IfExp t a b p)):M E:=
 dn h λq=> @Expr.IfExp.elim (λE=>uw E k=ae→M E) E q (λt a b p h=>r t a b p h) h
noncomputable def iI(E:ar)(k:ar→List ar→aN→Bool):Bool:=dite (E.ctorIdx=16) (λh=>Expr.Call.elim E h λf l b p=>nl b (k f l p)) λ_=>aj
@[elab_as_elim] theorem jS{O:ar→Prop}{E:ar}{k:ar→List ar→aN→Bool}(h:iI E k=ae)(r:∀f l p,k f l p=ae→O (.Call f l [] p)):O E:=
 dn h λq=> @Expr.Call.elim (λE=>iI E k=ae→O E) E q (λf l b p h=>fB (M:=λb=>O (.Call f l b p)) h λh=>r f l p h) h
noncomputable def oD(E:ar)(k:ar→ak→aN→Bool):Bool:=dite (E.ctorIdx=20) (λh=>Expr.Attribute.elim E h λo m p=>k o m p) λ_=>aj
@[elab_as_elim] theorem mt{M:ar→Prop}{E:ar}{k:ar→ak→aN→Bool}(h:oD E k=ae)(r:∀o m p,k o m p=ae→M (.Attribute o m p)):M E:=
 dn h λq=> @Expr.Attribute.elim (λE=>oD E k=ae→M E) E q (λo m p h=>r o m p h) h
noncomputable def ll(E:ar)(k:ar→ar→Bool):Bool:=dite (E.ctorIdx=21) (λh=>Expr.Subscript.elim E h λo i p=>k o i) λ_=>aj
@[elab_as_elim] theorem lj{M:ar→Prop}{E:ar}{k:ar→ar→Bool}(h:ll E k=ae)(r:∀o i p,k o i=ae→M (.Subscript o i p)):M E:=
 dn h λq=> @Expr.Subscript.elim (λE=>ll E k=ae→M E) E q (λo i p h=>r o i p h) h
noncomputable def rg(E:ar)(k:Option ar→Option ar→Option ar→Bool):Bool:=dite (E.ctorIdx=26) (λh=>Expr.Slice.elim E h λa b c p=>k a b c) λ_=>aj
@[elab_as_elim] theorem AU{M:ar→Prop}{E:ar}{k:Option ar→Option ar→Option ar→Bool}(h:rg E k=ae)(r:∀a b c p,k a b c=ae→M (.Slice a b c p)):M E:=
 dn h λq=> @Expr.Slice.elim (λE=>rg E k=ae→M E) E q (λa b c p h=>r a b c p h) h
noncomputable def rl(E:ar)(k:ar→List ir→cG→Bool):Bool:=dite (E.ctorIdx=8) (λh=>Expr.ListComp.elim E h λe g s p=>k e g s) λ_=>aj
@[elab_as_elim] theorem uz{M:ar→Prop}{E:ar}{k:ar→List ir→cG→Bool}(h:rl E k=ae)(r:∀e g s p,k e g s=ae→M (.ListComp e g s p)):M E:=
 dn h λq=> @Expr.ListComp.elim (λE=>rl E k=ae→M E) E q (λe g s p h=>r e g s p h) h
noncomputable def uu(E:ar)(k:gR→ar→cG→Bool):Bool:=dite (E.ctorIdx=4) (λh=>Expr.Lambda.elim E h λg e s p=>k g e s) λ_=>aj
@[elab_as_elim] theorem Ii{M:ar→Prop}{E:ar}{k:gR→ar→cG→Bool}(h:uu E k=ae)(r:∀g e s p,k g e s=ae→M (.Lambda g e s p)):M E:=
 dn h λq=> @Expr.Lambda.elim (λE=>uu E k=ae→M E) E q (λg e s p h=>r g e s p h) h
noncomputable def rh(E:bh)(k:Option ar→Bool):Bool:=dite (E.ctorIdx=3) (λh=>Stmt.Return.elim E h λo p=>k o) λ_=>aj
@[elab_as_elim] theorem AV{M:bh→Prop}{E:bh}{k:Option ar→Bool}(h:rh E k=ae)(r:∀o p,k o=ae→M (.Return o p)):M E:=
 dn h λq=> @Stmt.Return.elim (λE=>rh E k=ae→M E) E q (λo p h=>r o p h) h
noncomputable def rq(E:bh)(k:List ar→ar→Bool):Bool:=dite (E.ctorIdx=5) (λh=>Stmt.Assign.elim E h λl e p=>k l e) λ_=>aj
@[elab_as_elim] theorem A7{M:bh→Prop}{E:bh}{k:List ar→ar→Bool}(h:rq E k=ae)(r:∀l e p,k l e=ae→M (.Assign l e p)):M E:=
 dn h λq=> @Stmt.Assign.elim (λE=>rq E k=ae→M E) E q (λl e p h=>r l e p h) h
noncomputable def uA(E:bh)(k:ar→qp→ar→Bool):Bool:=dite (E.ctorIdx=7) (λh=>Stmt.AugAssign.elim E h λt o e p=>k t o e) λ_=>aj
@[elab_as_elim] theorem Ip{M:bh→Prop}{E:bh}{k:ar→qp→ar→Bool}(h:uA E k=ae)(r:∀t o e p,k t o e=ae→M (.AugAssign t o e p)):M E:=
 dn h λq=> @Stmt.AugAssign.elim (λE=>uA E k=ae→M E) E q (λt o e p h=>r t o e p h) h
noncomputable def rj(E:bh)(k:ar→ar→List bh→Bool):Bool:=dite (E.ctorIdx=9) (λh=>Stmt.For.elim E h λg x b J p=>nl J (k g x b)) λ_=>aj
@[elab_as_elim] theorem A3{O:bh→Prop}{E:bh}{k:ar→ar→List bh→Bool}(h:rj E k=ae)(r:∀g x b p,k g x b=ae→O (.For g x b [] p)):O E:=
 dn h λq=> @Stmt.For.elim (λE=>rj E k=ae→O E) E q (λg x b J p h=>fB (M:=λJ=>O (.For g x b J p)) h λh=>r g x b p h) h
noncomputable def uo(E:bh)(k:ar→List bh→Bool):Bool:=dite (E.ctorIdx=11) (λh=>Stmt.While.elim E h λt b J p=>nl J (k t b)) λ_=>aj
@[elab_as_elim] theorem Ie{O:bh→Prop}{E:bh}{k:ar→List bh→Bool}(h:uo E k=ae)(r:∀t b p,k t b=ae→O (.While t b [] p)):O E:=
 dn h λq=> @Stmt.While.elim (λE=>uo E k=ae→O E) E q (λt b J p h=>fB (M:=λJ=>O (.While t b J p)) h λh=>r t b p h) h
noncomputable def uv(E:bh)(k:ar→List bh→List bh→Bool):Bool:=dite (E.ctorIdx=12) (λh=>Stmt.If.elim E h λt b o p=>k t b o) λ_=>aj
@[elab_as_elim] theorem Ij{M:bh→Prop}{E:bh}{k:ar→List bh→List bh→Bool}(h:uv E k=ae)(r:∀t b o p,k t b o=ae→M (.If t b o p)):M E:=
 dn h λq=> @Stmt.If.elim (λE=>uv E k=ae→M E) E q (λt b o p h=>r t b o p h) h
noncomputable def ur(E:bh)(k:ar→Bool):Bool:=dite (E.ctorIdx=16) (λh=>Stmt.Raise.elim E h λJ n p=>nO n (sO J k)) λ_=>aj
@[elab_as_elim] theorem Ig{O:bh→Prop}{E:bh}{k:ar→Bool}(h:ur E k=ae)(r:∀e p,k e=ae→O (.Raise (aa e) ah p)):O E:=
 dn h λq=> @Stmt.Raise.elim (λE=>ur E k=ae→O E) E q (λJ n p h=>jV (M:=λn=>O (.Raise J n p)) h λh=>lh (M:=λJ=>O (.Raise J ah p)) h λe h=>r e p h) h
noncomputable def ux(E:bh)(k:ar→Bool):Bool:=dite (E.ctorIdx=24) (λh=>Stmt.Expr.elim E h λe p=>k e) λ_=>aj
@[elab_as_elim] theorem Io{M:bh→Prop}{E:bh}{k:ar→Bool}(h:ux E k=ae)(r:∀e p,k e=ae→M (.Expr e p)):M E:=
 dn h λq=> @Stmt.Expr.elim (λE=>ux E k=ae→M E) E q (λe p h=>r e p h) h
noncomputable def ut(E:bh)(k:Bool):Bool:=dite (E.ctorIdx=25) (λh=>Stmt.Pass.elim E h λp=>k) λ_=>aj
@[elab_as_elim] theorem Ih{M:bh→Prop}{E:bh}{k:Bool}(h:ut E k=ae)(r:∀p,k=ae→M (.Pass p)):M E:=
 dn h λq=> @Stmt.Pass.elim (λE=>ut E k=ae→M E) E q (λp h=>r p h) h
noncomputable def jT{O:Type}(l:List O):Bool:=nl l ae
@[elab_as_elim] theorem jn{O:Type}{M:List O→Prop}{l:List O}(h:jT l=ae)(c:M []):M l:=fB h λ_=>c
noncomputable def gI{O:Type}(l:List O)(k:O→List O→Bool):Bool:=br l aj k
@[elab_as_elim] theorem hH{O:Type}{M:List O→Prop}{l:List O}{k:O→List O→Bool}(h:gI l k=ae)(c:∀x r,k x r=ae→M (x::r)):M l:=br (motive:=λl=>gI l k=ae→M l) l aF c h
noncomputable def eU{O:Type}(l:List O)(k:O→Bool):Bool:=gI l λx r=>nl r (k x)
@[elab_as_elim] theorem eQ{O:Type}{W:List O→Prop}{l:List O}{k:O→Bool}(h:eU l k=ae)(c:∀x,k x=ae→W [x]):W l:=hH h λx r h=>fB (M:=λr=>W (x::r)) h (c x)
noncomputable def gJ{O:Type}(l:List O)(k:O→O→Bool):Bool:=gI l λx r=>eU r λy=>k x y
@[elab_as_elim] theorem jm{O:Type}{W:List O→Prop}{l:List O}{k:O→O→Bool}(h:gJ l k=ae)(c:∀x y,k x y=ae→W [x,y]):W l:=hH h λx r h=>eQ (W:=λr=>W (x::r)) h (c x)
noncomputable def rr{O:Type}(l:List O)(k:O→O→O→Bool):Bool:=gI l λx r=>gJ r λy z=>k x y z
@[elab_as_elim] theorem uB{O:Type}{W:List O→Prop}{l:List O}{k:O→O→O→Bool}(h:rr l k=ae)(c:∀x y z,k x y z=ae→W [x,y,z]):W l:=hH h λx r h=>jm (W:=λr=>W (x::r)) h (c x)
section
variable{Z:St}{v:V}
theorem fg{O:Type}{o:Option O}{P:O→Prop}{C:Prop}(h:oQ o P)(k:∀z,o=aa z→P z→C):C:=a9 (motive:=λo=>oQ o P→(∀z,o=aa z→P z→C)→C) o (λh N=>h.elim) (λz h k=>k z rfl h) h k
theorem db{O:Type}{o:Option O}{P:O→Prop}(h:oQ o P):∃z,o=aa z∧P z:=fg h λz a b=>⟨z,a,b⟩
@[elab_as_elim] theorem jX{M:V→Prop}{P:Int→Prop}(h:js v P)(c:∀i,P i→M (.int i)):M v:=jg h c (λN h=>h.elim) (λN h=>h.elim) (λN h=>h.elim) λN h=>h.elim
@[elab_as_elim] theorem uc{M:V→Prop}{P:ak→Prop}(h:n8 v P)(c:∀i,P i→M (.str i)):M v:=jg h (λN h=>h.elim) c (λN h=>h.elim) (λN h=>h.elim) λN h=>h.elim
@[elab_as_elim] theorem GV{M:V→Prop}{P:List V→Prop}(h:z8 v P)(c:∀i,P i→M (.tup i)):M v:=jg h (λN h=>h.elim) (λN h=>h.elim) c (λN h=>h.elim) λN h=>h.elim
theorem KW{P:List V→Prop}(h:Dj v P):∃i,pt v=aa i∧P i:=jg (C:=λv=>∃i,pt v=aa i∧P i) h (λN h=>h.elim) (λN h=>h.elim) (λl h=>⟨l,rfl,h⟩) (λl h=>⟨l,rfl,h⟩) λN h=>h.elim
theorem gb{P:Bool→Prop}(h:jh Z v P):∃c,d7 Z v=aa c∧P c:=
 V.casesOn (motive_1:=λv=>jh Z v P→∃c,d7 Z v=aa c∧P c) v (λh=>⟨_,rfl,h⟩) (λN h=>⟨_,rfl,h⟩) (λi h=>db (o:=d7 Z (.int i)) h) (λN h=>h.elim) (λi h=>db (o:=d7 Z (.tup i)) h) (λi h=>db (o:=d7 Z (.lst i)) h) (λi h=>db (o:=d7 Z (.obj i)) h) h
@[elab_as_elim] theorem wX{M:V→Prop}{P:ag→ag→List (ak×V)→Prop}(h:oZ Z v P)(k:∀a c t,Z a=aa (.inst c t)→P a c t→M (.obj a)):M v:=jg h (λN h=>h.elim) (λN h=>h.elim) (λN h=>h.elim) (λN h=>h.elim) λa h=>Kl (C:=λo=>Z a=o→M (.obj a)) h (λc t p e=>k a c t e p) rfl
@[elab_as_elim] theorem mz{M:V→Prop}{P:ag→List V→Prop}(h:lC Z v P)(k:∀a l,Z a=aa (.list l)→P a l→M (.obj a)):M v:=jg h (λN h=>h.elim) (λN h=>h.elim) (λN h=>h.elim) (λN h=>h.elim) λa h=>BW (C:=λo=>Z a=o→M (.obj a)) h (λl p e=>k a l e p) rfl
@[elab_as_elim] theorem o0{M:V→Prop}{P:ag→List (Int×V)→Prop}(h:mK Z v P)(k:∀a l,Z a=aa (.idict l)→P a l→M (.obj a)):M v:=jg h (λN h=>h.elim) (λN h=>h.elim) (λN h=>h.elim) (λN h=>h.elim) λa h=>Mo (C:=λo=>Z a=o→M (.obj a)) h (λl p e=>k a l e p) rfl
theorem Ke{K:QI}(h:rV Z v K):∃p,iM Z v=aa p∧K p.1 p.2 Z:=jg (C:=λv=>∃p,iM Z v=aa p∧K p.1 p.2 Z) h (λN h=>h.elim) (λN h=>h.elim) (λl h=>⟨(l,ah),rfl,h⟩) (λl h=>⟨(l,ah),rfl,h⟩)
 λa h=>BW (C:=λo=>Z a=o→∃p,iM Z (.obj a)=aa p∧K p.1 p.2 Z) h (λl h e=>⟨(l,aa (a,.list l)),(congrArg (λo=>hJ o λl=>aa (l,aa (a,O.list l))) e:_),h⟩) rfl
theorem mJ{x y:V}{k:Int→Int→Prop}{d C:Prop}(h:ju x y k d)(a:∀i j,x=.int i→y=.int j→k i j→C)(b:d→C):C:=
 V.casesOn (motive_1:=λx=>(∀i j,x=.int i→y=.int j→k i j→C)→ju x y k d→C) x (λN=>b) (λN N=>b) (λi a h=>V.casesOn (motive_1:=λy=>(∀j,y=.int j→k i j→C)→ju (.int i) y k d→C) y (λN=>b) (λN N=>b) (λj a=>a j rfl) (λN N=>b) (λN N=>b) (λN N=>b) (λN N=>b) (λj e=>a i j rfl e) h) (λN N=>b) (λN N=>b) (λN N=>b) (λN N=>b) a h
theorem Ob{o:Bo}{x y:V}{P:V→Prop}:yK o x y P→∃z,cE o x y=aa z∧P z:=
 Bo.casesOn (motive_1:=λo=>yK o x y P→∃z,cE o x y=aa z∧P z) o (λh=>mJ h (λi j a b h=>⟨_,a▸b▸rfl,h⟩) db) (λh=>mJ h (λi j a b h=>⟨_,a▸b▸rfl,h⟩) db) db db db db
theorem yz{o:Co}{x y:V}{P:Bool→Prop}:sD o Z x y P→∃z,bD o Z x y=aa z∧P z:=
 Co.casesOn (motive_2:=λo=>sD o Z x y P→∃z,bD o Z x y=aa z∧P z) o db db (λh=>mJ h (λi j a b h=>⟨_,a▸b▸rfl,h⟩) db) (λh=>mJ h (λi j a b h=>⟨_,a▸b▸rfl,h⟩) db) (λh=>mJ h (λi j a b h=>⟨_,a▸b▸rfl,h⟩) db) (λh=>mJ h (λi j a b h=>⟨_,a▸b▸rfl,h⟩) db) db db db db
theorem jQ{s:bV}{P:Prop}:k8 s Z P→dk s Z∧P:=a9 (motive:=λs=>k8 s Z P→dk s Z∧P) s (λh=>⟨trivial,h⟩) λ_ h=>h
theorem jY{O:Type}{c:Prop} [Decidable c]{a:Option O}{z:O}(h:(if c then a else ah)=aa z):c∧a=aa z:=bW (cx c) (λq=>⟨q,(if_pos q).symm.trans h⟩) λq=>aG ((if_neg q).symm.trans h)
end
noncomputable def cl:aA→aA:=bc [] λp _ F=>cJ p.1 p.2 F
theorem BT{i:Nat}{P:V→Prop}{S:aA}:ly i S P→∃v,(i,v)∈cl S∧P v:=
 bc (motive:=λS=>ly i S P→∃v,(i,v)∈cl S∧P v) (λh=>h.elim) (λp r F h=>bJ (motive:=λb=>cI i p.1=b→(fc (motive:=λN=>Prop) (ly i r P) (P p.2) b)→∃v,(i,v)∈cl (p::r)∧P v) (cI i p.1)
  (λq h=>aB (F h) λv a b=>⟨v,fi.mpr (.inr ⟨a,zI q⟩),b⟩) (λq h=>⟨p.2,gA q▸fi.mpr (.inl rfl),h⟩) rfl h) S
theorem Bz{j:Nat}{l:List Nat}:gi j l=ae→j∈l:=
 bc (motive:=λl=>gi j l=ae→j∈l) aF (λk r F h=>bJ (motive:=λb=>cI j k=b→(fc (motive:=λN=>Bool) (gi j r) ae b)=ae→j∈k::r) (cI j k) (λN h=>.tail _ (F h)) (λq N=>gA q▸ .head _) rfl h) l
theorem D8{I:List Nat}{p:Nat×V}{S:aA}:p∈cl (gZ I S)↔p∈cl S∧gi p.1 I=ae:=by
 revert I p S;apply bY;generalize e2 _=I,e1 _=p,e0 _=S
 exact
   bc (motive:=λS=>p∈cl (gZ I S)↔p∈cl S∧gi p.1 I=ae) ⟨λh=>absurd h bZ,λh=>absurd h.1 bZ⟩ (λx r F=>bJ (motive:=λb=>gi x.1 I=b→(p∈cl (fc (motive:=λN=>aA) (gZ I r) (x::gZ I r) b)↔p∈cJ x.1 x.2 (cl r)∧gi p.1 I=ae)) (gi x.1 I)
    (λq=>⟨λh=>have h:=F.mp h;⟨fi.mpr (.inr ⟨h.1,λe=>aF ((e▸q).symm.trans h.2)⟩),h.2⟩,λh=>F.mpr ⟨(fi.mp h.1).elim (λe=>aF ((e▸q:gi p.1 I=aj).symm.trans h.2)) qy,h.2⟩⟩)
    (λq=>⟨λh=>(fi.mp h).elim (λe=>⟨fi.mpr (.inl e),e▸q⟩) λh=>have k:=F.mp h.1;⟨fi.mpr (.inr ⟨k.1,h.2⟩),k.2⟩,λh=>fi.mpr ((fi.mp h.1).imp id λk=>⟨F.mpr ⟨k.1,h.2⟩,k.2⟩)⟩) rfl) S
noncomputable def cY(E:ar):Bool:=l3 (motive_1:=λ_=>Bool) E (λ_ _ _=>ae) (λ_ _ _=>aj) (λ_ _ _ _=>ae) (λ_ _ _=>ae) (λ_ _ _ _=>ae) (λ_ _ _ _=>ae) (λ_ _ _=>ae) (λ_ _ _=>aj) (λ_ _ _ _=>ae) (λ_ _ _ _=>aj) (λ_ _ _ _ _=>aj) (λ_ _ _ _=>ae) (λ_ _=>aj) (λ_ _=>aj) (λ_ _=>aj) (λ_ _ _ _=>ae) (λ_ _ _ _=>ae) (λ_ _ _ _=>aj) (λ_ _=>ae) (λ_ _ _=>ae) (λ_ _ _=>ae) (λ_ _ _=>ae) (λ_ _=>aj) (λ_ _=>ae) (λ_ _=>ae) (λ_ _ _=>ae) (λ_ _ _ _=>aj)
noncomputable def rF(E:ar):Bool:=l3 (motive_1:=λ_=>Bool) E (λ_ _ _=>ae) (λ_ _ _=>ae) (λ_ _ _ _=>ae) (λ_ _ _=>ae) (λ_ _ _ _=>ae) (λ_ _ _ _=>ae) (λ_ _ _=>ae) (λ_ _ _=>ae) (λ_ _ _ _=>aj) (λ_ _ _ _=>ae) (λ_ _ _ _ _=>ae) (λ_ _ _ _=>ae) (λ_ _=>ae) (λ_ _=>ae) (λ_ _=>ae) (λ_ _ _ _=>ae) (λ_ _ _ _=>ae) (λ_ _ _ _=>ae) (λ_ _=>ae) (λ_ _ _=>ae) (λ_ _ _=>ae) (λ_ _ _=>ae) (λ_ _=>ae) (λ_ _=>ae) (λ_ _=>ae) (λ_ _ _=>ae) (λ_ _ _ _=>ae)
structure Fb(E:ar):Prop where
 star:∀r O,bw (E::r) O=(aj,a7 E O)::bw r O
 asg:∀r O,gv (E::r) O=(aj,ij E O)::gv r O
 sub:∀a b,nD E aj a b=nF [a,b] (i6 a b)
 fold:∀O x,ie E O x=a8 x
 marks:∀z,behindInMarks z E=aj
 sw:rF E=ae→∀t l O,lV E t l O=a8 aj
 swA:∀o m p l O,lV E (aa (.Attribute o m p)) l O=a8 aj
theorem bK{E:ar}:cY E=ae→Fb E:=l3 (motive_1:=λE=>cY E=ae→Fb E) E (λN N N h=>⟨λN N=>rfl,λN N=>rfl,λN N=>rfl,λN N=>rfl,λN=>rfl,λN N N N=>rfl,λN N N N N=>rfl⟩) (λN N N h=>aF h) (λN N N N h=>⟨λN N=>rfl,λN N=>rfl,λN N=>rfl,λN N=>rfl,λN=>rfl,λN N N N=>rfl,λN N N N N=>rfl⟩) (λN N N h=>⟨λN N=>rfl,λN N=>rfl,λN N=>rfl,λN N=>rfl,λN=>rfl,λN N N N=>rfl,λN N N N N=>rfl⟩) (λN N N N h=>⟨λN N=>rfl,λN N=>rfl,λN N=>rfl,λN N=>rfl,λN=>rfl,λN N N N=>rfl,λN N N N N=>rfl⟩) (λN N N N h=>⟨λN N=>rfl,λN N=>rfl,λN N=>rfl,λN N=>rfl,λN=>rfl,λN N N N=>rfl,λN N N N N=>rfl⟩) (λN N N h=>⟨λN N=>rfl,λN N=>rfl,λN N=>rfl,λN N=>rfl,λN=>rfl,λN N N N=>rfl,λN N N N N=>rfl⟩) (λN N N h=>aF h) (λN N N N h=>⟨λN N=>rfl,λN N=>rfl,λN N=>rfl,λN N=>rfl,λN=>rfl,aF,λN N N N N=>rfl⟩) (λN N N N h=>aF h) (λN N N N N h=>aF h) (λN N N N h=>⟨λN N=>rfl,λN N=>rfl,λN N=>rfl,λN N=>rfl,λN=>rfl,λN N N N=>rfl,λN N N N N=>rfl⟩) (λN N h=>aF h) (λN N h=>aF h) (λN N h=>aF h) (λN N N N h=>⟨λN N=>rfl,λN N=>rfl,λN N=>rfl,λN N=>rfl,λN=>rfl,λN N N N=>rfl,λN N N N N=>rfl⟩) (λN N N N h=>⟨λN N=>rfl,λN N=>rfl,λN N=>rfl,λN N=>rfl,λN=>rfl,λN N N N=>rfl,λN N N N N=>rfl⟩) (λN N N N h=>aF h) (λN N h=>⟨λN N=>rfl,λN N=>rfl,λN N=>rfl,λN N=>rfl,λN=>rfl,λN N N N=>rfl,λN N N N N=>rfl⟩) (λN N N h=>⟨λN N=>rfl,λN N=>rfl,λN N=>rfl,λN N=>rfl,λN=>rfl,λN N N N=>rfl,λN N N N N=>rfl⟩) (λN N N h=>⟨λN N=>rfl,λN N=>rfl,λN N=>rfl,λN N=>rfl,λN=>rfl,λN N N N=>rfl,λN N N N N=>rfl⟩) (λN N N h=>⟨λN N=>rfl,λN N=>rfl,λN N=>rfl,λN N=>rfl,λN=>rfl,λN N N N=>rfl,λN N N N N=>rfl⟩) (λN N h=>aF h) (λN N h=>⟨λN N=>rfl,λN N=>rfl,λN N=>rfl,λN N=>rfl,λN=>rfl,λN N N N=>rfl,λN N N N N=>rfl⟩) (λN N h=>⟨λN N=>rfl,λN N=>rfl,λN N=>rfl,λN N=>rfl,λN=>rfl,λN N N N=>rfl,λN N N N N=>rfl⟩) (λN N N h=>⟨λN N=>rfl,λN N=>rfl,λN N=>rfl,λN N=>rfl,λN=>rfl,λN N N N=>rfl,λN N N N N=>rfl⟩) (λN N N N h=>aF h)
noncomputable def kb(E:ar):Bool:=l3 (motive_1:=λ_=>Bool) E (λ_ _ _=>aj) (λ_ _ _=>aj) (λ_ _ _ _=>aj) (λ_ _ _=>aj) (λ_ _ _ _=>aj) (λ_ _ _ _=>aj) (λ_ _ _=>aj) (λ_ _ _=>aj) (λ_ _ _ _=>aj) (λ_ _ _ _=>aj) (λ_ _ _ _ _=>aj) (λ_ _ _ _=>aj) (λ_ _=>aj) (λ_ _=>aj) (λ_ _=>aj) (λ_ _ _ _=>aj) (λf l _ _=>l3 (motive_1:=λ_=>Bool) f (λ_ _ _=>aj) (λ_ _ _=>aj) (λ_ _ _ _=>aj) (λ_ _ _=>aj) (λ_ _ _ _=>aj) (λ_ _ _ _=>aj) (λ_ _ _=>aj) (λ_ _ _=>aj) (λ_ _ _ _=>aj) (λ_ _ _ _=>aj) (λ_ _ _ _ _=>aj) (λ_ _ _ _=>aj) (λ_ _=>aj) (λ_ _=>aj) (λ_ _=>aj) (λ_ _ _ _=>aj) (λ_ _ _ _=>aj) (λ_ _ _ _=>aj) (λ_ _=>aj) (λ_ _ _=>aj) (λ_ _ _=>ae) (λ_ _ _=>aj) (λ_ _=>aj) (λ_ _=>br (motive:=λ_=>Bool) l aj λ_ _=>ae) (λ_ _=>aj) (λ_ _ _=>aj) (λ_ _ _ _=>aj)) (λ_ _ _ _=>aj) (λ_ _=>aj) (λ_ _ _=>aj) (λ_ _ _=>ae) (λ_ _ _=>ae) (λ_ _=>aj) (λ_ _=>ae) (λ_ _=>aj) (λ_ _ _=>aj) (λ_ _ _ _=>aj)
theorem m6{E:ar}{a:ak}(h:kb E=ae)(O:aH):i7 E a O (a7 E O)=a7 E O:=
 l3 (motive_1:=λE=>kb E=ae→i7 E a O (a7 E O)=a7 E O) E (λN N N h=>aF h) (λN N N h=>aF h) (λN N N N h=>aF h) (λN N N h=>aF h) (λN N N N h=>aF h) (λN N N N h=>aF h) (λN N N h=>aF h) (λN N N h=>aF h) (λN N N N h=>aF h) (λN N N N h=>aF h) (λN N N N N h=>aF h) (λN N N N h=>aF h) (λN N h=>aF h) (λN N h=>aF h) (λN N h=>aF h) (λN N N N h=>aF h) (λf l b p h=>l3 (motive_1:=λf=>kb (.Call f l b p)=ae→i7 (.Call f l b p) a O (a7 (.Call f l b p) O)=a7 (.Call f l b p) O) f (λN N N h=>aF h) (λN N N h=>aF h) (λN N N N h=>aF h) (λN N N h=>aF h) (λN N N N h=>aF h) (λN N N N h=>aF h) (λN N N h=>aF h) (λN N N h=>aF h) (λN N N N h=>aF h) (λN N N N h=>aF h) (λN N N N N h=>aF h) (λN N N N h=>aF h) (λN N h=>aF h) (λN N h=>aF h) (λN N h=>aF h) (λN N N N h=>aF h) (λN N N N h=>aF h) (λN N N N h=>aF h) (λN N h=>aF h) (λN N N h=>aF h) (λN N N h=>rfl) (λN N N h=>aF h) (λN N h=>aF h) (λx q h=>br (motive:=λl=>kb (.Call (.Name x q) l b p)=ae→i7 (.Call (.Name x q) l b p) a O (a7 (.Call (.Name x q) l b p) O)=a7 (.Call (.Name x q) l b p) O) l aF (λN N N=>rfl) h) (λN N h=>aF h) (λN N N h=>aF h) (λN N N N h=>aF h) h) (λN N N N h=>aF h) (λN N h=>aF h) (λN N N h=>aF h) (λN N N h=>rfl) (λN N N h=>rfl) (λN N h=>aF h) (λN N h=>rfl) (λN N h=>aF h) (λN N N h=>aF h) (λN N N N h=>aF h) h
theorem mj{P:List ar}(V:aN)(O:aH):P.all cY=ae→(cQ V (bw P O)).any (·.1)=aj∧((cQ V (bw P O)).all λx=> !x.1)=ae:=
 bc (motive:=λP=>P.all cY=ae→(cQ V (bw P O)).any (·.1)=aj∧((cQ V (bw P O)).all λx=> !x.1)=ae) (λN=>⟨rfl,rfl⟩) (λe r F h=>by
  have h:=cj.mp h;rw[(bK h.1).star];exact F h.2) P
theorem ou{P:List ar}(V:aN)(O:aH)(h:P.all cY=ae)(C:jc P.length 20=ae):methodCallForm (P.length+0) (cQ V (bw P O)) (jH V (jG [] O))=ae:=by
 unfold methodCallForm;rw[(mj V O h).2];exact decide_eq_true (fL (gz C) (by decide))
theorem a2{a b:Bool}(h:(a&&b)=ae):a=ae∧b=ae:=cj.mp h
theorem k2{a b:Bool}{C:Prop}(h:(a&&b)=ae)(k:a=ae→b=ae→C):C:=k (a2 h).1 (a2 h).2
theorem k3{a b c:Bool}{C:Prop}(h:(a&&b&&c)=ae)(k:a=ae→b=ae→c=ae→C):C:=k2 h λh=>k2 h k
theorem k4{a b c d:Bool}{C:Prop}(h:(a&&b&&c&&d)=ae)(k:a=ae→b=ae→c=ae→d=ae→C):C:=k2 h λh=>k3 h k
theorem k5{a b c d e:Bool}{C:Prop}(h:(a&&b&&c&&d&&e)=ae)(k:a=ae→b=ae→c=ae→d=ae→e=ae→C):C:=k2 h λh=>k4 h k
theorem k6{a b c d e f:Bool}{C:Prop}(h:(a&&b&&c&&d&&e&&f)=ae)(k:a=ae→b=ae→c=ae→d=ae→e=ae→f=ae→C):C:=k2 h λh=>k5 h k
theorem n1{a:Bool}(h:(!a)=ae):a=aj:=(zV a).mp h
@[elab_as_elim] theorem dE{O:Type}{a b:O} [Decidable (a=b)]{M:O→Prop}(h:aO (a=b)=ae)(c:M b):M a:=(of_decide_eq_true h).symm▸c
@[elab_as_elim] theorem sE{a b:ak}{M:ak→Prop}(h:(a==b)=ae)(c:M b):M a:=(bU h).symm▸c
noncomputable def j8(u:Bu):Option (ak×ai):=Bu.casesOn u (aa (aq "len",.builtin "len")) (aa (aq "list",.type "list")) (aa (aq "tuple",.type "tuple")) (aa (aq "str",.type "str")) (aa (aq "sum",.builtin "sum")) (aa (aq "sorted",.builtin "sorted")) ah ah ah ah
noncomputable def lF(u:Bu):Option ak:=Bu.casesOn u ah ah ah ah ah ah (aa (aq "int")) (aa (aq "bool")) (aa (aq "tuple")) (aa (aq "str"))
abbrev dN:=List (ak×dX)
abbrev CW:=dN→ar→Bool
abbrev FR:=dN→List ar→Bool
noncomputable abbrev lP(k c:Const):Bool:=aO (c=k)
noncomputable abbrev pl(c:CW):CW:=λL E=>cY E&&c L E
noncomputable def Kj(L:dN)(x y:ak):Bool:=x==y&&L.lookup x==aa .globalImplicit
noncomputable def eP(L:dN)(y:ak)(E:ar)(b:Bool):Bool:=fP E λx=>Kj L x y&&b
@[elab_as_elim] theorem hG{O:ar→Prop}{L:dN}{y:ak}{E:ar}{b:Bool}(h:eP L y E b=ae)(r:∀p,L.lookup y=aa .globalImplicit→b=ae→O (.Name y p)):O E:=
 gc h λx p h=>k2 h λg i=>k2 g λe g=>sE (M:=λx=>L.lookup x=aa .globalImplicit→O (.Name x p)) e (λg=>r p g i) (bU g)
noncomputable def rX(y:ak):Bool:= !(y==("__debug__":ak))
noncomputable def rA(o:Option ar):Bool:=nO o ae
noncomputable abbrev IC:ar:=.Constant .none 0 gT
noncomputable def qZ(o:Option ar):ar:=a9 o IC id
noncomputable def lm(E:ar)(m:ak)(n:Nat)(k:ar→List ar→Bool):Bool:=iI E λf l p=>oD f λo b c=>b==m&&c.endLine==p.line&&kb o&&jc l.length n&&k o l
@[elab_as_elim] theorem mr{O:ar→Prop}{E:ar}{m:ak}{n:Nat}{k:ar→List ar→Bool}(h:lm E m n k=ae)(r:∀o c l p,(c.endLine==p.line)=ae→kb o=ae→jc l.length n=ae→k o l=ae→O (.Call (.Attribute o m c) l [] p)):O E:=
 jS h λf l p h=>mt (M:=λf=>O (.Call f l [] p)) h λo b c h=>k5 h λR H j z A=>sE (M:=λm=>O (.Call (.Attribute o m c) l [] p)) R (r o c l p H j z A)
inductive Ky where|i(a:Int)|s(a:ak)
noncomputable def vL(k:Ky):Const:=Ky.casesOn k .int .str
noncomputable def B5(o:Option ar)(k:Ky):Bool:=sO o λE=>jl E (lP (vL k))
noncomputable def sB(L:dN)(O:cG)(i:Nat)(x:ak)(G:List Nat):Bool:=
 kQ i cB&&NM i==x&&O.names.lookup x==aa .local &&O.kind== .function&&O.names.all (λp=>match p.2 with| .local =>O.names.lookup p.1==aa .local | .free=>L.lookup p.1==aa .cell| .cell=>aj|_=>ae)&&
  G.all (λj=>O.names.lookup (NM j)==aa .free&&L.lookup (NM j)==aa .cell)
noncomputable def A2(l:List ir)(k:ak→ar→List ar→Bool):Bool:=eU l λc=>fP c.target λx=>aO (c.is_async=0)&&k x c.iter c.ifs
@[elab_as_elim] theorem AZ{O:List ir→Prop}{l:List ir}{k:ak→ar→List ar→Bool}(h:A2 l k=ae)(r:∀x p c C,k x c C=ae→O [⟨.Name x p,c,C,0⟩]):O l:=
 eQ h λ⟨g,c,C,a⟩ h=>gc (M:=λg=>O [⟨g,c,C,a⟩]) h λx p h=>k2 h λe h=>(of_decide_eq_true e:a=0).symm▸r x p c C h
noncomputable def A1(l:List ir)(k:ak→ar→ak→ar→Bool):Bool:=gJ l λc d=>fP c.target λx=>fP d.target λy=>aO (c.is_async=0)&&aO (d.is_async=0)&&nl c.ifs (nl d.ifs (k x c.iter y d.iter))
@[elab_as_elim] theorem Il{W:List ir→Prop}{l:List ir}{k:ak→ar→ak→ar→Bool}(h:A1 l k=ae)(r:∀x p c y i Y,k x c y Y=ae→W [⟨.Name x p,c,[],0⟩,⟨.Name y i,Y,[],0⟩]):W l:=
 jm (W:=W) h λ⟨g,c,C,a⟩ ⟨O,Y,d,A⟩ h=>gc (M:=λg=>W [⟨g,c,C,a⟩,⟨O,Y,d,A⟩]) h λx p h=>gc (M:=λO=>W [⟨.Name x p,c,C,a⟩,⟨O,Y,d,A⟩]) h λy i h=>k3 h λe X h=>(of_decide_eq_true e:a=0).symm▸(of_decide_eq_true X:A=0).symm▸
  fB (M:=λC=>W [⟨.Name x p,c,C,0⟩,⟨.Name y i,Y,d,0⟩]) h λh=>fB (M:=λd=>W [⟨.Name x p,c,[],0⟩,⟨.Name y i,Y,d,0⟩]) h (r x p c y i Y)
noncomputable def Bh(a:gR):Bool:=nl a.posonlyargs (nl a.args (nO a.vararg (nl a.kwonlyargs (nl a.kw_defaults (nO a.kwarg (nl a.defaults ae))))))
@[elab_as_elim] theorem IG{O:gR→Prop}{a:gR}(h:Bh a=ae)(r:O ⟨[],[],ah,[],[],ah,[]⟩):O a:=by
 obtain⟨a,b,c,d,e,f,g⟩:=a;exact fB (M:=λa=>O ⟨a,b,c,d,e,f,g⟩) h λh=>fB (M:=λb=>O ⟨[],b,c,d,e,f,g⟩) h λh=>jV (M:=λc=>O ⟨[],[],c,d,e,f,g⟩) h λh=>fB (M:=λd=>O ⟨[],[],ah,d,e,f,g⟩) h λh=>fB (M:=λe=>O ⟨[],[],ah,[],e,f,g⟩) h λh=>jV (M:=λf=>O ⟨[],[],ah,[],[],f,g⟩) h λh=>fB (M:=λg=>O ⟨[],[],ah,[],[],ah,g⟩) h λN=>r
noncomputable def BY(L:dN)(O:cG)(G:List Nat):Bool:=O.kind== .function&& !O.isCoroutine&& !O.isGenerator&&O.names.all (λp=> !(p.2== .cell)&&(!(p.2== .free)||L.lookup p.1==aa .cell))&&G.all (λj=>O.names.lookup (NM j)==aa .free&&L.lookup (NM j)==aa .cell)
structure CX where
 L:FR
 A:FR
 D:List Ky→dN→List (Option ar)→List ar→Bool
noncomputable def yv(n:Nat)(z:List (Option ar))(l:List ar):Bool:=jc z.length 15&&z.all (·.isSome)&&cI z.length l.length&&cI n z.length
section
variable(T:cA)
noncomputable def iO(L:dN):Option (ag×ag×ak):=(T.hd.find? λe=>L.lookup e.1==aa .local).map (·.2)
noncomputable def Kw(L:dN)(P:ag)(q:ak):Bool:=sO (iO T L) λe=>cI e.2.1 P&&e.2.2==q
noncomputable abbrev vX:CW:=λ_ _=>aj
noncomputable abbrev v9:CW:=λ_ E=>jl E (lP .none)
noncomputable abbrev wJ(b:Bool):CW:=λ_ E=>jl E (lP (.bool b))
noncomputable abbrev wu(i:Int):CW:=λ_ E=>jl E (lP (.int i))
noncomputable abbrev wg(i:Nat):CW:=λ_ E=>oy E λo a=>aO (o=.USub)&&jl a (lP (.int i))
noncomputable abbrev vV(x:ak):CW:=λ_ E=>jl E (lP (.str x))
noncomputable abbrev vS(i:Nat):CW:=λ_ E=>fP E λx=>kQ i cB&&NM i==x&&rX x&& !(x==("__classdict__":ak))
noncomputable abbrev wL(e:Ex)(m:CW):CW:=λL E=>ll E λo i=>eP L (aq "BITS") o (pl m L i)
noncomputable abbrev ww(x:ak):CW:=λL E=>eP L x E (rX x)
noncomputable abbrev vT(P:Exs)(a:CX):CW:=λL E=>oz E λl=>a.L L l&&jc l.length 1000
noncomputable abbrev wm(P:Exs)(a:CX):CW:=λL E=>ri E λl=>a.L L l&&jc l.length 1000
noncomputable abbrev wl(P:Exs)(a:CX):CW:=λL E=>ri E λl=>a.L L l&&jc l.length 1000
noncomputable abbrev wD(i:List Int)(P:Exs)(a:CX):CW:=λL E=>oB E λz l=>a.D (i.map .i) L z l&&yv i.length z l&&aO i.Nodup
noncomputable abbrev wB(i:List ak)(P:Exs)(a:CX):CW:=λL E=>oB E λz l=>a.D (i.map .s) L z l&&yv i.length z l&&aO i.Nodup
noncomputable abbrev wC:CW:=λ_ E=>oB E λz l=>nl z (jT l)
noncomputable abbrev wM(o:Bo)(a:Ex)(b:Ex)(O:CW)(j:CW):CW:=λL E=>rp E λx p y=>aO (p=q6 o)&&O L x&&j L y
noncomputable abbrev wh(a:Ex)(b:Ex)(O:CW)(j:CW):CW:=λL E=>rp E λx p y=>aO (p=q6 .mul)&&O L x&&j L y
noncomputable abbrev wG(o:Co)(a:Ex)(b:Ex)(O:CW)(j:CW):CW:=λL E=>rn E λx i l=>eU i λp=>eU l λy=>aO (p=eM o)&&O L x&&pl j L y
noncomputable abbrev wH(o:Co)(a:Ex)(b:Ex)(H:Co)(c:Ex)(O:CW)(j:CW)(r:CW):CW:=λL E=>rn E λx i l=>gJ i λp W=>gJ l λy z=>aO (p=eM o)&&aO (W=eM H)&&O L x&&j L y&&pl r L z
noncomputable abbrev wQ(a:Ex)(b:Ex)(O:CW)(j:CW):CW:=λL E=>ms E λo l=>aO (o=.And)&&gJ l λx y=>O L x&&j L y
noncomputable abbrev v7(a:Ex)(b:Ex)(O:CW)(j:CW):CW:=λL E=>ms E λo l=>aO (o=.Or)&&gJ l λx y=>O L x&&j L y
noncomputable abbrev v5(a:Ex)(b:Ex)(c:Ex)(O:CW)(j:CW)(r:CW):CW:=λL E=>ms E λo l=>aO (o=.Or)&&rr l λx y z=>O L x&&j L y&&r L z
noncomputable abbrev wP(a:Ex)(b:Ex)(c:Ex)(O:CW)(j:CW)(r:CW):CW:=λL E=>ms E λo l=>aO (o=.And)&&rr l λx y z=>O L x&&j L y&&r L z
noncomputable abbrev v8(a:Ex)(O:CW):CW:=λL E=>oy E λo x=>aO (o=.Not)&&O L x
noncomputable abbrev wn(t:Ex)(a:Ex)(b:Ex)(p:CW)(O:CW)(j:CW):CW:=λL E=>uw E λx y z=>p L x&&O L y&&j L z
noncomputable abbrev wI(x:ak)(f:ag)(P:Exs)(a:CX):CW:=λL E=>iI E λg l _=>eP L x g (rX x&&T.fn.lookup x==aa f&&l.all cY&&a.L L l)
noncomputable abbrev wf(x:ak)(c:ag)(P:Exs)(a:CX):CW:=λL E=>iI E λg l _=>eP L x g (rX x&&T.cls.lookup x==aa c&&l.all cY&&a.L L l)
noncomputable abbrev wj(o:Ex)(m:ak)(P:Exs)(g:CW)(a:CX):CW:=λL E=>lm E m 20 λx l=>g L x&&l.all cY&&a.L L l
noncomputable abbrev wK(u:Bu)(e:Ex)(m:CW):CW:=λL E=>iI E λg l _=>a9 (motive:=λ_=>Bool) (j8 u) (a9 (motive:=λ_=>Bool) (lF u) aj λq=>eP L (aq "isinstance") g (gJ l λx y=>pl m L x&&eP L q y ae)) λz=>eP L z.1 g (eU l λx=>pl m L x)
noncomputable abbrev wN(o:Ex)(m:ak)(g:CW):CW:=λL E=>oD E λx b _=>b==m&&kb x&&g L x
noncomputable abbrev vU(o:Ex)(i:Ex)(g:CW)(d:CW):CW:=λL E=>ll E λx y=>g L x&&pl d L y
noncomputable abbrev vW(o:Ex)(S:Ex)(f:Ex)(g:CW)(d:CW)(e:CW):CW:=λL E=>ll E λx s=>rg s λa b c=>rA c&&g L x&&d L (qZ a)&&e L (qZ b)
noncomputable abbrev vY(o:Ex)(g:CW):CW:=λL E=>ll E λx s=>rg s λa b c=>rA a&&rA b&&sO c (λy=>oy y λu z=>aO (u=.USub)&&jl z (lP (.int 1)))&&g L x
noncomputable abbrev wO(o:Ex)(e:Ex)(g:CW)(m:CW):CW:=λL E=>lm E (aq "append") 1 λx l=>eU l λy=>g L x&&pl m L y
noncomputable abbrev wy(o:Ex)(e:Ex)(g:CW)(m:CW):CW:=λL E=>lm E (aq "extend") 1 λx l=>eU l λy=>g L x&&pl m L y
noncomputable abbrev vZ(o:Ex)(g:CW):CW:=λL E=>lm E (aq "pop") 0 λx l=>nl l (g L x)
noncomputable abbrev wA(o:Ex)(k:Ex)(g:CW)(c:CW):CW:=λL E=>lm E (aq "pop") 1 λx l=>eU l λy=>g L x&&pl c L y
noncomputable abbrev wz(o:Ex)(k:Ex)(d:Ex)(g:CW)(c:CW)(r:CW):CW:=λL E=>lm E (aq "pop") 2 λx l=>gJ l λy z=>g L x&&pl c L y&&pl r L z
noncomputable abbrev wF(f:Bool)(z:Ex)(D:List Nat)(c:It)(h:Exs)(I:List Nat)(b:CW)(j:CW)(d:CX):CW:=λL E=>rl E λk g O=>A2 g λx a C=>eU D λi=>sB L O i x I&&pl j L a&&b (fe O.names L) k&&d.A (fe O.names L) C&&nO (iO T (fe O.names L)) ae
noncomputable abbrev wE(z:Ex)(x:Nat)(c:It)(y:Nat)(Y:It)(I:List Nat)(b:CW)(j:CW)(d:CW):CW:=λL E=>rl E λk g O=>A1 g λu a v e=>sB L O x u I&&sB L O y v I&& !cI x y&&pl j L a&&pl d (fe O.names L) e&&(b (fe O.names L) k&&nO (iO T (fe O.names L)) ae)
noncomputable abbrev wv(P:ag)(q:ak)(e:Ex)(I:List Nat)(m:CW):CW:=λL E=>iI E λg l _=>eP L (pS "_law_heard") g (eU l λx=>uu x λargs i O=>Kw T L P q&&Bh args&&BY L O I&&nO (iO T O.names) ae&&m O.names i)
noncomputable abbrev wx(e:Ex)(m:CW):CW:=λL E=>m L E&&fP E λ_=>ae
noncomputable abbrev vO(e:Ex)(m:CW):CW:=m
noncomputable abbrev vR(e:Ex)(m:CW):CW:=λL E=>iI E λg l _=>eP L (aq "range") g (eU l λx=>pl m L x)
noncomputable abbrev vP(a:Ex)(b:Ex)(c:Ex)(O:CW)(j:CW)(r:CW):CW:=λL E=>iI E λg l _=>eP L (aq "range") g (rr l λx y z=>pl O L x&&pl j L y&&pl r L z)
noncomputable abbrev vM:CX:=⟨λ_ l=>jT l,λ_ l=>jT l,λi _ z l=>nl i (nl z (jT l))⟩
noncomputable abbrev vN(e:Ex)(r:Exs)(m:CW)(a:CX):CX:=⟨λL l=>gI l λx l=>pl m L x&&a.L L l,λL l=>eU l λx=>m L x&&a.A L [],λi L z l=>gI i λk i=>gI z λo z=>gI l λx l=>B5 o k&&m L x&&a.D i L z l⟩
noncomputable abbrev dm:Ex→CW:=Ex.rec (motive_1:=λ_=>CW) (motive_2:=λ_=>CW) (motive_3:=λ_=>CX) vX v9 wJ wu wg vV vS wL ww vT wm wl wD wB wC wM wh wG wH wQ v7 v5 wP v8 wn (wI T) (wf T) wj wK wN vU vW vY wO wy vZ wA wz (wF T) (wE T) (wv T) wx vO vR vP vM vN
noncomputable abbrev uE:It→CW:=It.rec (motive_1:=λ_=>CW) (motive_2:=λ_=>CW) (motive_3:=λ_=>CX) vX v9 wJ wu wg vV vS wL ww vT wm wl wD wB wC wM wh wG wH wQ v7 v5 wP v8 wn (wI T) (wf T) wj wK wN vU vW vY wO wy vZ wA wz (wF T) (wE T) (wv T) wx vO vR vP vM vN
noncomputable abbrev gd:Exs→CX:=Exs.rec (motive_1:=λ_=>CW) (motive_2:=λ_=>CW) (motive_3:=λ_=>CX) vX v9 wJ wu wg vV vS wL ww vT wm wl wD wB wC wM wh wG wH wQ v7 v5 wP v8 wn (wI T) (wf T) wj wK wN vU vW vY wO wy vZ wA wz (wF T) (wE T) (wv T) wx vO vR vP vM vN
end
inductive s9(K:aY):Prop
 |mk (U c O F W o R E Z n w B b D N):FF K U c O F W o R E Z n w B b D N→s9 K
def dR(T:cA)(J:ay)(I:Sc):Prop:=∀c P q,iO T I.names=aa (c,P,q)→sX J I c P∧I.qual++"<lambda>"=q
theorem o9{T:cA}{J:ay}{I:Sc}(h:nO (iO T I.names) ae=ae):dR T J I:=λc P q=>jV (M:=λo=>o=aa (c,P,q)→sX J I c P∧I.qual++"<lambda>"=q) h λN e=>aG e
structure KT(W:aK)(w:aJ)(K:aY)(T:cA):Prop where
 fn:∀x f,T.fn.lookup x=aa f→bG K bp x=aa (aa (.ref f))∧eF K (.ref f)=ae
 cls:∀x c,T.cls.lookup x=aa c→bG K bp x=aa (aa (.ref c))∧eF K (.ref c)=ae∧makesIn K c=ae
 init:∀c f,T.init c=aa f→fJ K (.ref c) "__init__"=aa (aa (.ref f))∧typeIn K (.ref f)=aa (.type "function")
 meth:∀c m f,T.meth c m=aa f→rG K c m f=ae∧eF K (.ref f)=ae
 field:∀c m,T.field c m=ae→pi K c m=ae
 store:∀c m,T.store c m=ae→oh K c m=ae
 glob:∀x v,T.glob.lookup x=aa v→∃Y,bG K bp x=aa (aa Y)∧VR (λa=>K.lookup a) v Y
 bits:∃d M,bG K bp (aq "BITS")=aa (aa (.ref d))∧(∀h,K.In h→h.DictOf (iY W w) d M)∧∀k i,T.bits.lookup k=aa i→∃t,M.lookup k=aa (.int i t)
 blt:∀u p,j8 u=aa p→bG K bp p.1=aa ah
 isi:∀u x,lF u=aa x→bG K bp x=aa ah
 isi0:bG K bp (aq "isinstance")=aa ah
 range:bG K bp (aq "range")=aa ah
 heard:s9 K
section
variable{W:aK}{w:aJ}{K:aY}{J:ay}{n:Nat}{I:Sc}{S:aA}{Z:St}{X:ak→St→Prop}{Q:V→St→Prop}
theorem aS.Zw{v:V}{f:ai}(h:aS W w J n Z [v] (t1 λx=>aV f [x]) Q X):aS W w J n Z [v] (λO=>aV f O) Q X:=
 λA G s O F T H B U Y E d=>B.e1 λp g=>h A G s [p] F T H (.cons g .nil) U Y E d
theorem aS.ZV(C:Cx K J){u:Bu}{v z:V}{p:ak×ai}(q:Q z Z):j8 u=aa p→bq u Z v=aa z→aS W w J n Z [v] (λO=>aV p.2 O) Q X:=
 Bu.casesOn (motive_3:=λu=>j8 u=aa p→bq u Z v=aa z→aS W w J n Z [v] (λO=>aV p.2 O) Q X) u (λe h=>aI e▸ .Zw (.Z2 C h q)) (λe h=>aI e▸ .Zw (.ZH h q)) (λe h=>aI e▸ .Zw (.ZF h q)) (λe h=>aI e▸ .Zw (.ZR h q)) (λe h=>aI e▸ .Zw (.ZT h q))
  (λe h=>aI e▸ .Zw (.ZC C h q)) (λe=>aG e) (λe=>aG e) (λe=>aG e) (λe=>aG e)
abbrev sV(x:ak)(f:ai):Prop:=nK x=aa f∧x≠"__name__"∧(x==("__debug__":ak))=aj
theorem N7{u:Bu}{p:ak×ai}:j8 u=aa p→sV p.1 p.2∧pV W w p.2:=
 Bu.casesOn (motive_3:=λu=>j8 u=aa p→sV p.1 p.2∧pV W w p.2) u (λe=>aI e▸⟨by decide+kernel,oO _⟩) (λe=>aI e▸⟨by decide+kernel,rH _⟩) (λe=>aI e▸⟨by decide+kernel,rH _⟩) (λe=>aI e▸⟨by decide+kernel,rH _⟩) (λe=>aI e▸⟨by decide+kernel,oO _⟩)
  (λe=>aI e▸⟨by decide+kernel,oO _⟩) (λe=>aG e) (λe=>aG e) (λe=>aG e) (λe=>aG e)
theorem Kh{u:Bu}{x:ak}:lF u=aa x→sV x (.type (oX u))∧kn u:=
 Bu.casesOn (motive_3:=λu=>lF u=aa x→sV x (.type (oX u))∧kn u) u (λe=>aG e) (λe=>aG e) (λe=>aG e) (λe=>aG e) (λe=>aG e) (λe=>aG e)
  (λe=>aI e▸⟨by decide+kernel,.i⟩) (λe=>aI e▸⟨by decide+kernel,.b⟩) (λe=>aI e▸⟨by decide+kernel,.t⟩) (λe=>aI e▸⟨by decide+kernel,.s⟩)
theorem AE.ZS{T:cA}{e:ar}{y L:aN}(C:Cx K J)(Y:KT W w K T)(u:I.names.lookup (aq "BITS")=aa .globalImplicit)(P:cY e=ae)
  (h:AE W w J n I S e Z (λv U=>n8 v λVv=>oQ (T.bits.lookup Vv) λi=>Q (.int i) U) X):AE W w J n I S (.Subscript (.Name (aq "BITS") y) e L) Z Q X:=
 λA N G Vw H F D RQ RE E m=>dj Y.bits λd x o f r=>Subscript_ (mM C F D.top D.hr (cU H u) o (h A N G Vw H F D _ _ (λv p O U R V g j c B=>uc (M:=λv=>VR O.im v p→_) B (λVv B c=>c.eS λa=>fg B λi b q=>aE (r Vv i b) λt l=>
  have z:=f R (C.at (D.top.le g) j)
  kN (s:={Vw with heap:=R,toks:=V}) z.typeIs F1.lookup (wpAny_getItem_of (knd:=iY W w) (k:=Vv) (tq _ _ _ _) z.mapOf ((kX _ _).trans l) (E (.int i) _ O U R _ g j (.int _ _) q)) ((bK P).sub _ _)) c) m) (by decide+kernel))
end
def PT(E:ar):Prop:=∀O a,isTrue E O a=(do let v←a;dW E.pos;fw [v] (truthy v))
section
variable{W:aK}{w:aJ}{K:aY}{J:ay}{n:Nat}{I:Sc}{S:aA}{Z:St}{X:ak→St→Prop}{Q Q' :V→St→Prop}{E:ar}
theorem AE.Zv(h:AE W w J n I S E Z Q X)(k:∀v Z,Q v Z→Q' v Z):AE W w J n I S E Z Q' X:=h.Zz k λN N x=>x
theorem AT.Zv{R g:Bool→St→Prop}(h:AT W w J n I S E Z R X)(k:∀b Z,R b Z→g b Z):AT W w J n I S E Z g X:=λA O G s U F D Y V B L=>h A O G s U F D Y V (λb N M H u a d q=>B b N M H u a d (k _ _ q)) L
structure EV(W:aK)(w:aJ)(J:ay)(n:Nat)(I:Sc)(S:aA)(E:ar)(Z:St)(Q:V→St→Prop)(X:ak→St→Prop):Prop where
 v:AE W w J n I S E Z Q X
 t:∀R:Bool→St→Prop,(∀O Z,Q O Z→∃c,d7 Z O=aa c∧R c Z)→AT W w J n I S E Z R X
theorem EV.of(h:AE W w J n I S E Z Q X)(p:PT E):EV W w J n I S E Z Q X:=⟨h,λR k=>AT.ZB (h.Zv k) p⟩
theorem EV.Zv(h:EV W w J n I S E Z Q X)(k:∀v Z,Q v Z→Q' v Z):EV W w J n I S E Z Q' X:=⟨h.v.Zv k,λR H=>h.t R λv Z q=>H v Z (k v Z q)⟩
structure te(W:aK)(w:aJ)(J:ay)(z:fK)(n:Nat)(I:Sc)(S:aA)(P:List ar)(Z:St)(Q:V→St→Prop)(X:ak→St→Prop):Prop where
 v:∀O,AB W w J O z n I S P Z Q X
 t:∀R:Bool→St→Prop,(∀U Z,Q U Z→∃c,d7 Z U=aa c∧R c Z)→dU W w J z n I S P Z R X
theorem dH.Zv{z:fK}{b:Bool}{P G R g:Prop}(p:P→G)(r:R→g):dH z b P R→dH z b G g:=
 zE (motive:=λz=>dH z b P R→dH z b G g) z (bJ (motive:=λb=>dH .And b P R→dH .And b G g) b p r) (bJ (motive:=λb=>dH .Or b P R→dH .Or b G g) b r p)
theorem dU.Zv{z:fK}{x:ar}{r:List ar}{R:Bool→St→Prop}:AT W w J n I S x Z (λb U=>dH z b (R b U) (dU W w J z n I S r U R X)) X→dU W w J z n I S (x::r) Z R X:=
 zE (motive:=λz=>AT W w J n I S x Z (λb U=>dH z b (R b U) (dU W w J z n I S r U R X)) X→dU W w J z n I S (x::r) Z R X) z
  (λh=>.Zw (h.Zv λb Z q=>bJ (motive:=λb=>dH .And b (R b Z) (dU W w J .And n I S r Z R X)→if b=ae then dU W w J .And n I S r Z R X else R aj Z) b id id q))
  (λh=>.Zy (h.Zv λb Z q=>bJ (motive:=λb=>dH .Or b (R b Z) (dU W w J .Or n I S r Z R X)→if b=ae then R ae Z else dU W w J .Or n I S r Z R X) b id id q))
theorem dH.Zw{z:fK}{b:Bool}{R:Bool→St→Prop}(r:R b Z):dH z b (R b Z) (dU W w J z n I S [] Z R X):=
 zE (motive:=λz=>dH z b (R b Z) (dU W w J z n I S [] Z R X)) z (bJ (motive:=λb=>R b Z→dH .And b (R b Z) (dU W w J .And n I S [] Z R X)) b id .Zx r) (bJ (motive:=λb=>R b Z→dH .Or b (R b Z) (dU W w J .Or n I S [] Z R X)) b .Zz id r)
theorem te.Zw{z:fK}(h:EV W w J n I S E Z Q X):te W w J z n I S [E] Z Q X:=⟨λV=>.Zw h.v,λR k=>.Zv (h.t _ λv Z q=>aB (k v Z q) λc m r=>⟨c,m,.Zw r⟩)⟩
theorem te.Zv{z:fK}{y:ar}{r:List ar}(h:EV W w J n I S E Z (λv U=>∃c,d7 U v=aa c∧dH z c (Q v U) (te W w J z n I S (y::r) U Q X)) X):te W w J z n I S (E::y::r) Z Q X:=by
 revert W w J n I S Z X Q E z y r;apply aX;generalize aT _=W,aL _=w,e9 _=J,e8 _=n,e7 _=I,e6 _=S,e5 _=Z,e4 _=X,e3 _=Q,e2 _=E,e1 _=z,e0 _=y;apply aP;generalize e0 _=r;intro h
 exact
   ⟨λV=>.Zv (h.v.Zv λv Z q=>aB q λc m q=>⟨c,m,q.Zv id λe=>e.v V⟩),
    λR k=>.Zv (h.t _ λv Z q=>aB q λc m q=>⟨c,m,q.Zv (λq=>aB (k v Z q) λO e r=>aI (e.symm.trans m)▸r) λe=>e.t R k⟩)⟩
theorem EV.Zw{z:fK}{P:List ar}{V:aN}(h:te W w J z n I S P Z Q X):EV W w J n I S (.BoolOp z P V) Z Q X:=⟨.ZB (h.v V),λR k=>.Zy (h.t R k)⟩
theorem AT.Zx{t b o:ar}{V:aN}{R:Bool→St→Prop}(h:AT W w J n I S t Z (λc U=>if c then AT W w J n I S b U R X else AT W w J n I S o U R X) X):AT W w J n I S (.IfExp t b o V) Z R X:=
 λA O G s L F D u C P d=>(az (h A O G s L F D _ _ (λc Y U N B g j q=>by
  cases c<;>exact q A O Y _ L F (D.Zv g j) _ _ (λb z M m f k H q=>P b z M m f (g.Zv k) H q) (d.Zv g)) d):au _ A (do if←isTrue t O (a7 t O)then isTrue b O (a7 b O)else isTrue o O (a7 o O)) u C s)
end
variable(T:cA)(CC:Nat→CS)
abbrev ME(W:aK)(w:aJ)(J:ay)(e:Ex):Prop:=∀I,dR T J I→∀E n S Z Q X,dm T e I.names E=ae→cm T e ⟨CC,n,X,S⟩ Q Z→EV W w J n I (cl S) E Z Q X
abbrev MI(W:aK)(w:aJ)(J:ay)(c:It):Prop:=∀I,dR T J I→∀E n S Z Q X,uE T c I.names E=ae→qB T c ⟨CC,n,X,S⟩ Q Z→AI W w J n I (cl S) E Z Q X
def sY(W:aK)(w:aJ){O:Type} [DecidableEq O](y:ja W w O)(f:O→Ky):Prop:=∀k c n p (A:aD) Z s (U:ai→aw→Prop) J,c=vL (f k)→(∀x u,y.is k x=ae→U x {s with toks:=u})→au (av W w) A (a7 (.Constant c n p) Z) U J s
structure ML(W:aK)(w:aJ)(J:ay)(P:Exs):Prop where
 L:∀I,dR T J I→∀l n S Z V Q X,(gd T P).L I.names l=ae→kW T P ⟨CC,n,X,S⟩ Q Z→AL W w J n I (cl S) V l Z (λU Z=>U.length=l.length∧Q U Z) X
 A:∀I,dR T J I→∀l n S Z (Q:QB) X,(gd T P).A I.names l=ae→gW T P ⟨CC,n,X,S⟩ Q Z→iX W w J n I (cl S) l Z Q X
 D:∀{O:Type} [DecidableEq O] (y:ja W w O) (f:O→Ky),sY W w y f→∀I,dR T J I→∀V n S X i z l Z Q,(gd T P).D (i.map f) I.names z l=ae→kW T P ⟨CC,n,X,S⟩ Q Z→AD W w J y V n I (cl S) i z l Z Q X
section
variable{W:aK}{w:aJ}{K:aY}{J:ay}{T:cA}{CC:Nat→CS}
theorem Je:ME T CC W w J .skip:=λI G E n S Z Q X N d=>d.elim
theorem Jk:ME T CC W w J .none:=λI G E n S Z Q X B d=>ln B λc k p h=>dE h (.of (.ZL d) λN N=>rfl)
theorem JH(b:Bool):ME T CC W w J (.bool b):=λI G E n S Z Q X B d=>ln B λc k p h=>dE h (.of (.ZK d) λN N=>rfl)
theorem Js(b:Int):ME T CC W w J (.int b):=λI G E n S Z Q X B d=>ln B λc k p h=>dE h (.of (.ZW d) λN N=>rfl)
theorem Jc(b:ak):ME T CC W w J (.str b):=λI G E n S Z Q X B d=>ln B λc k p h=>dE h (.of (.ZX d) λN N=>rfl)
theorem Jm(i:Nat):ME T CC W w J (.neg i):=λI G E n S Z Q X B d=>uq B λo a q h=>k2 h λR H=>dE R (ln (M:=λa=>EV W w J n I (cl S) (.UnaryOp .USub a q) Z Q X) H λc k p j=>dE j (.of (.Z1 d) λN N=>rfl))
theorem I9(i:Nat):ME T CC W w J (.var i):=λI G E n S Z Q X B d=>gc B λx p h=>k4 h λR H j z=>aB (BT d) λv g q=>.of (.Z5 (bU H) g q (n1 j) (n1 z)) λN N=>rfl
theorem Ju(C:Cx K J)(Y:KT W w K T)(y:ak):ME T CC W w J (.glob y):=λI G E n S Z Q X B d=>hG B λp H j=>fg d λv g q=>aB (Y.glob _ _ g) λO z A=>.of (.ZV C H z A q (n1 j)) λN N=>rfl
theorem JJ(C:Cx K J)(Y:KT W w K T){e:Ex}(F:ME T CC W w J e):ME T CC W w J (.bits e):=λI G E n S Z Q X B d=>lj B λo i p h=>hG (O:=λo=>EV W w J n I (cl S) (.Subscript o i p) Z Q X) h λq H j=>k2 j λt j=>.of (.ZS C Y H t (F I G _ n S Z _ X j d).v) λN N=>rfl
theorem JK{o:Bo}{a b:Ex}(s:ME T CC W w J a)(A:ME T CC W w J b):ME T CC W w J (.bin o a b):=λI G E n S Z Q X B d=>A6 B λx p y V h=>k3 h λR H j=>dE R
 (.of (.ZA ((s I G _ n S Z _ X H d).v.Zv λx U q=>(A I G _ n S U _ X j q).v.Zv λy f q=>aB (Ob q) λz O q=>.ZU O q)) λN N=>rfl)
theorem JE(C:Cx K J){o:Co}{a b:Ex}(s:ME T CC W w J a)(A:ME T CC W w J b):ME T CC W w J (.cmp o a b):=λI O E n S Z Q X B d=>A5 B λx i l p h=>eQ (W:=λi=>EV W w J n I (cl S) (.Compare x i l p) Z Q X) h λc h=>eQ (W:=λl=>EV W w J n I (cl S) (.Compare x [c] l p) Z Q X) h λy h=>k3 h λY H j=>k2 j λt j=>
 dE Y (have G:∀P:QV,(∀v Z,Q v Z→P v Z)→_:=λP k=>(s I O _ n S Z _ X H d).v.Zv λx U q=>(A I O _ n S U _ X j q).v.Zv λy f q=>aB (yz q) λz V q=>aS.ZB C V (k _ _ q)
  ⟨.ZZ (G Q λN N h=>h) ((bK t).marks _),λR k=>.Zz (G _ k) ((bK t).marks _)⟩)
theorem JF(C:Cx K J){o H:Co}{a b c:Ex}(s:ME T CC W w J a)(A:ME T CC W w J b)(V:ME T CC W w J c):ME T CC W w J (.chain o a b H c):=by
 revert W w K J T CC o H a b c;apply ch;generalize e5 _=W,e4 _=w,e3 _=K,e2 _=J,e1 _=T,e0 _=CC;intro C;apply eE;generalize e4 _=o,e3 _=H,e2 _=a,e1 _=b,e0 _=c;intro s A V
 exact λI O E n S Z Q X B L=>A5 B λx i l p h=>jm (W:=λi=>EV W w J n I (cl S) (.Compare x i l p) Z Q X) h λc d h=>jm (W:=λl=>EV W w J n I (cl S) (.Compare x [c,d] l p) Z Q X) h λy z h=>k5 h λF g j D Y=>k2 Y λt Y=>
   dE F (dE (M:=λd=>EV W w J n I (cl S) (.Compare x [eM o,d] [y,z] p) Z Q X) g (
    have G:∀P:QB,(∀b Z,Q (.bool b) Z→P b Z)→AE W w J n I (cl S) x Z (λx U=>AE W w J n I (cl S) y U (λy f=>∃v,bD o f x y=aa v∧bJ (motive:=λN=>Prop) v (P aj f) (AE W w J n I (cl S) z f (λu m=>∃z,bD H m y u=aa z∧P z m) X)) X) X:=
     λP k=>(s I O _ n S Z _ X j L).v.Zv λx U q=>(A I O _ n S U _ X D q).v.Zv λy f q=>aB (yz q) λv hv q=>⟨v,hv,bJ (motive:=λv=>bQ v _ _→bJ (motive:=λN=>Prop) v (P aj f) (AE W w J n I (cl S) z f (λu m=>∃z,bD H m y u=aa z∧P z m) X)) v (k aj f) (λq=>(V I O _ n S f _ X Y q).v.Zv λu m q=>aB (yz q) λz hz q=>⟨z,hz,k _ _ q⟩) q⟩;
    ⟨.ZG C (G _ λN N q=>q) ((bK t).marks _),λR k=>.Zw C (G R λb Z q=>aB (k _ _ q) λc e r=>aI e▸r) ((bK t).marks _)⟩))
theorem Jj{a:Ex}(F:ME T CC W w J a):ME T CC W w J (.not a):=λI G E n S Z Q X B d=>uq B λo x p h=>k2 h λO H=>dE O
 ⟨.Z2 ((F I G _ n S Z _ X H d).v.Zv λx U q=>gb q),λR k=>.ZA ((F I G _ n S Z _ X H d).t _ λv U q=>aB (gb q) λc m q=>aB (k _ _ q) λY e r=>⟨c,m,(aI e:(!c)=Y).symm▸r⟩)⟩
theorem yO{b:Bool}{P R G g:Prop}(p:P→G)(r:R→g):bQ b P R→dH .And b g G:=bJ (motive:=λb=>bQ b P R→dH .And b g G) b r p
theorem uk{b:Bool}{P R G g:Prop}(p:P→G)(r:R→g):bQ b P R→dH .Or b G g:=bJ (motive:=λb=>bQ b P R→dH .Or b G g) b r p
theorem JO{a b:Ex}(s:ME T CC W w J a)(A:ME T CC W w J b):ME T CC W w J (.and a b):=by
 revert W w J T CC a b;apply dQ;generalize e6 _=W,e5 _=w,e4 _=J,e3 _=T,e2 _=CC,e1 _=a,e0 _=b;intro s A
 exact λI G E n S Z Q X B d=>ro B λo l p h=>k2 h λR h=>jm (W:=λl=>EV W w J n I (cl S) (.BoolOp o l p) Z Q X) h λx y h=>k2 h λO Y=>dE R
   (.Zw (.Zv ((s I G _ n S Z _ X O d).Zv λv U q=>aB (gb q) λc m q=>⟨c,m,yO (λq=>.Zw (A I G _ n S U _ X Y q)) id q⟩)))
theorem Ji{a b:Ex}(s:ME T CC W w J a)(A:ME T CC W w J b):ME T CC W w J (.or a b):=λI G E n S Z Q X B d=>ro B λo l p h=>k2 h λR h=>jm (W:=λl=>EV W w J n I (cl S) (.BoolOp o l p) Z Q X) h λx y h=>k2 h λO Y=>dE R
 (.Zw (.Zv ((s I G _ n S Z _ X O d).Zv λv U q=>aB (gb q) λc m q=>⟨c,m,uk id (λq=>.Zw (A I G _ n S U _ X Y q)) q⟩)))
theorem JN{a b c:Ex}(s:ME T CC W w J a)(A:ME T CC W w J b)(V:ME T CC W w J c):ME T CC W w J (.and3 a b c):=by
 revert W w J T CC a b c;apply jy;generalize e7 _=W,e6 _=w,e5 _=J,e4 _=T,e3 _=CC,e2 _=a,e1 _=b,e0 _=c;intro s A V
 exact λI G E n S Z Q X B d=>ro B λo l p h=>k2 h λR h=>uB (W:=λl=>EV W w J n I (cl S) (.BoolOp o l p) Z Q X) h λx y z h=>k3 h λO Y L=>dE R
   (.Zw (.Zv ((s I G _ n S Z _ X O d).Zv λv U q=>aB (gb q) λc m q=>⟨c,m,yO (λq=>.Zv ((A I G _ n S U _ X Y q).Zv λv f q=>aB (gb q) λc m q=>⟨c,m,yO (λq=>.Zw (V I G _ n S f _ X L q)) id q⟩)) id q⟩)))
theorem Jh{a b c:Ex}(s:ME T CC W w J a)(A:ME T CC W w J b)(V:ME T CC W w J c):ME T CC W w J (.or3 a b c):=λI G E n S Z Q X B d=>ro B λo l p h=>k2 h λR h=>uB (W:=λl=>EV W w J n I (cl S) (.BoolOp o l p) Z Q X) h λx y z h=>k3 h λO Y L=>dE R
 (.Zw (.Zv ((s I G _ n S Z _ X O d).Zv λv U q=>aB (gb q) λc m q=>⟨c,m,uk id (λq=>.Zv ((A I G _ n S U _ X Y q).Zv λv f q=>aB (gb q) λc m q=>⟨c,m,uk id (λq=>.Zw (V I G _ n S f _ X L q)) q⟩)) q⟩)))
theorem Cp{b:Bool}{P R G g:Prop}(p:P→G)(r:R→g):bQ b P R→if b then G else g:=bJ (motive:=λb=>bQ b P R→if b then G else g) b r p
theorem Jr{t a b:Ex}(l:ME T CC W w J t)(s:ME T CC W w J a)(A:ME T CC W w J b):ME T CC W w J (.ite t a b):=by
 revert W w J T CC t a b;apply jy;generalize e7 _=W,e6 _=w,e5 _=J,e4 _=T,e3 _=CC,e2 _=t,e1 _=a,e0 _=b;intro l s A
 exact λI G E n S Z Q X B d=>Ik B λx y z p h=>k3 h λO H j=>
   ⟨.ZJ ((l I G _ n S Z _ X O d).t _ λv U q=>aB (gb q) λc m q=>⟨c,m,Cp (λq=>(s I G _ n S U _ X H q).v) (λq=>(A I G _ n S U _ X j q).v) q⟩),
    λR k=>.Zx ((l I G _ n S Z _ X O d).t _ λv U q=>aB (gb q) λc m q=>⟨c,m,Cp (λq=>(s I G _ n S U _ X H q).t R k) (λq=>(A I G _ n S U _ X j q).t R k) q⟩)⟩
theorem AL.Zx{n:Nat}{I:Sc}{S:aA}{Z:St}{O:aN}{l:List ar}{Q Q' :List V→St→Prop}{X:ak→St→Prop}(h:AL W w J n I S O l Z Q X)(k:∀v Z,Q v Z→Q' v Z):AL W w J n I S O l Z Q' X:=
 λA U G s Y F D B L E N=>h A U G s Y F D B L (λv R H M u g a b c d=>E v R H M u g a b c (k _ _ d)) N
theorem ML.l1{P:Exs}(F:ML T CC W w J P){I:Sc}(G:dR T J I){l n S Z V Q X}(R:(gd T P).L I.names l=ae)(H:jc l.length 1000=ae)(d:kW T P ⟨CC,n,X,S⟩ Q Z):AL W w J n I (cl S) V l Z (λL Z=>L.length≤1000∧Q L Z) X:=
 (F.L I G _ n S Z _ _ X R d).Zx λL U q=>⟨q.1.symm▸gz H,q.2⟩
theorem Ja{P:Exs}(F:ML T CC W w J P):ME T CC W w J (.tup P):=λI G E n S Z Q X B d=>q9 B λl k p h=>k2 h λR H=>.of (.ZQ (F.l1 G R H d)) λN N=>rfl
theorem Jq{P:Exs}(F:ML T CC W w J P):ME T CC W w J (.listF P):=λI G E n S Z Q X B d=>AY B λl p h=>k2 h λR H=>.of (.ZM (F.l1 G R H d)) λN N=>rfl
theorem Jp{P:Exs}(F:ML T CC W w J P):ME T CC W w J (.listM P):=λI G E n S Z Q X B d=>AY B λl p h=>k2 h λR H=>.of (.ZN (F.l1 G R H d)) λN N=>rfl
theorem JA:ME T CC W w J .dictK:=λI G E n S Z Q X B d=>uy B λi l p h=>fB (M:=λi=>EV W w J n I (cl S) (.Dict i l p) Z Q X) h λh=>jn (M:=λl=>EV W w J n I (cl S) (.Dict [] l p) Z Q X) h (.of (.Zw .k d) λN N=>rfl)
end
section
variable{W:aK}{w:aJ}{K:aY}{J:ay}{T:cA}{CC:Nat→CS}
theorem Bn:ML T CC W w J .nil where
 L:=λI G l n S Z V Q X B d=>jn B (.Zw ⟨rfl,d⟩)
 A:=λI G l n S Z Q X B d=>jn B d
 D:=λy f O I G V n S X i z l Z Q B d=>br (motive:=λi=>(gd T .nil).D (i.map f) I.names z l=ae→AD W w J y V n I (cl S) i z l Z Q X) i (λB=>fB (M:=λz=>AD W w J y V n I (cl S) [] z l Z Q X) B λh=>jn (M:=λl=>AD W w J y V n I (cl S) [] [] l Z Q X) h (.Zw d)) (λN N=>aF) B
theorem J9{o:Option ar}{k:Ky}{O:Option ar→Prop}(h:B5 o k=ae)(c:∀n p,O (aa (.Constant (vL k) n p))):O o:=lh h λE h=>ln (M:=λE=>O (aa E)) h λd n p h=>dE (M:=λd=>O (aa (.Constant d n p))) h (c n p)
theorem Bp{e:Ex}{r:Exs}(g:ME T CC W w J e)(E:ML T CC W w J r):ML T CC W w J (.cons e r)where
 L:=λI G l n S Z V Q X B d=>hH B λx l h=>k2 h λR j=>k2 R λt H=>.Zv ((g I G _ n S Z _ X H d).v.Zv λv U q=>(E.L I G _ n S U V _ X j q).Zx λC Z q=>⟨congrArg (·+1) q.1,q.2⟩) ((bK t).star _)
 A:=λI G l n S Z Q X B d=>eQ B λx h=>k2 h λH j=>(g I G _ n S Z _ X H d).t _ λv U q=>aB (gb q) λc N q=>⟨c,N,bJ (motive:=λc=>bQ c (gW T r ⟨CC,n,X,S⟩ Q U) (Q aj U)→Q c U) c id (λq=>E.A I G [] n S U Q X j q) q⟩
 D:=λy f Y I G V n S X i z l Z Q B d=>br (motive:=λi=>(gd T (.cons e r)).D (i.map f) I.names z l=ae→AD W w J y V n I (cl S) i z l Z Q X) i aF (λk i B=>hH (M:=λz=>AD W w J y V n I (cl S) (k::i) z l Z Q X) B λo z h=>hH (M:=λl=>AD W w J y V n I (cl S) (k::i) (o::z) l Z Q X) h λx l h=>k3 h λR H j=>
   J9 (O:=λo=>AD W w J y V n I (cl S) (k::i) (o::z) (x::l) Z Q X) R λm p=>.Zv (λP O s F u h=>Y k _ m p P O s F u rfl h) ((g I G _ n S Z _ X H d).v.Zv λv U q=>E.D y f Y I G V n S X _ _ _ U _ j q)) B
theorem J7:sY W w (dI W w) Ky.i:=λk c n p A O s Z U e h=>e▸zm (h _ _ (kF _ _ _ _))
theorem J6:sY W w (iY W w) Ky.s:=λk c n p A O s Z U e h=>e▸FY (h _ _ (tq _ _ _ _))
theorem KY{P:Exs}{L:dN}{z:List (Option ar)}{l:List ar}{G:Fr}{Q:QL}{Z:St}(h:(gd T P).D [] L z l=ae)(d:kW T P G Q Z):Q [] Z:=by
 cases P with
 |nil=>exact d
 |cons _ _=>exact aF h
theorem DN{Y:Type} [DecidableEq Y]{y:ja W w Y}{f:Y→Ky}(N:sY W w y f){m:List (Y×V)→O}(u:∀B h a d l M,h.DictOf y a M→bR B l M→OR W w B h a d (m l))(p:∀l,dK (m l)=aj)(x:qd (m [])){P:Exs}(F:ML T CC W w J P)
  {I:Sc}(G:dR T J I){n:Nat}{S:aA}{X:QX}{i:List Y}{z:List (Option ar)}{l:List ar}{Z:aN}{U:St}{Q:QV}(R:(gd T P).D (i.map f) I.names z l=ae)(H:yv i.length z l=ae)(C:i.Nodup)(L:kW T P ⟨CC,n,X,S⟩ (λj U=>kr (m (i.zip j)) Q U) U):AE W w J n I (cl S) (.Dict z l Z) U Q X:=
 k4 H λa b c d=>have s:=gA c;have t:=gA d
  br (motive:=λg=>z=g→AE W w J n I (cl S) (.Dict g l Z) U Q X) z (λe=>by
    subst e;have D:=List.length_eq_zero_iff.mp s.symm;have E:=List.length_eq_zero_iff.mp t;subst E;exact .Zw x (KY R L))
   (λk r e=>e▸ .ZU u p C b s (λq=>List.cons_ne_nil _ _ (e.symm.trans q)) (gz a) (F.D _ _ N I G Z n S X _ _ _ U _ R L)) rfl
theorem JB{i:List Int}{P:Exs}(F:ML T CC W w J P):ME T CC W w J (.dictI i P):=λI G E n S Z Q X B O=>uy B λz l V h=>k3 h λR H j=>
 .of (DN J7 (m:=λl=>.idict l) (λU h a d l M x y=>⟨M,x,y⟩) (λN=>rfl) .i F G R H (of_decide_eq_true j) O) λN N=>rfl
theorem Jz{i:List ak}{P:Exs}(F:ML T CC W w J P):ME T CC W w J (.dictS i P):=λI G E n S Z Q X B O=>uy B λz l V h=>k3 h λR H j=>
 .of (DN J6 (m:=λl=>.sdict l) (λU h a d l M x y=>⟨M,x,y⟩) (λN=>rfl) .s F G R H (of_decide_eq_true j) O) λN N=>rfl
theorem JL(C:Cx K J)(Y:KT W w K T){o:Ex}{m:ak}(F:ME T CC W w J o):ME T CC W w J (.attr o m):=λI G E n S Z Q X B d=>mt B λx b p h=>k3 h λR H j=>sE (M:=λb=>EV W w J n I (cl S) (.Attribute x b p) Z Q X) R
 (.of (.ZR C ((F I G _ n S Z _ X j d).v.Zv λv U q=>wX q λa c t r q=>fg q λu O q=>bu (jY O) λV O=>.mk a c t u r (Y.field _ _ V) O q) (m6 H)) λN N=>rfl)
theorem Jb{o i:Ex}(O:ME T CC W w J o)(v:ME T CC W w J i):ME T CC W w J (.sub o i):=λI G E n S Z Q X B d=>lj B λx y p h=>k2 h λR H=>k2 H λt H=>
 .of (.Z4 (bK t).sub ((O I G _ n S Z _ X R d).v.Zv λx U q=>(v I G _ n S U _ X H q).v.Zv λy f q=>db q)) λN N=>rfl
theorem Jf{o:Ex}(U:ME T CC W w J o):ME T CC W w J (.rev o):=λI G E n S Z Q X B d=>lj B λx s p h=>AU (M:=λs=>EV W w J n I (cl S) (.Subscript x s p) Z Q X) h λa b c q h=>k4 h λR H j V=>
 jV (M:=λa=>EV W w J n I (cl S) (.Subscript x (.Slice a b c q) p) Z Q X) R λN=>jV (M:=λb=>EV W w J n I (cl S) (.Subscript x (.Slice ah b c q) p) Z Q X) H λN=>lh (M:=λc=>EV W w J n I (cl S) (.Subscript x (.Slice ah ah c q) p) Z Q X) j λy h=>uq (M:=λy=>EV W w J n I (cl S) (.Subscript x (.Slice ah ah (aa y) q) p) Z Q X) h λu z O h=>k2 h λA L=>
 dE (M:=λu=>EV W w J n I (cl S) (.Subscript x (.Slice ah ah (aa (.UnaryOp u z O)) q) p) Z Q X) A (ln (M:=λz=>EV W w J n I (cl S) (.Subscript x (.Slice ah ah (aa (.UnaryOp .USub z O)) q) p) Z Q X) L λc k i h=>dE (M:=λc=>EV W w J n I (cl S) (.Subscript x (.Slice ah ah (aa (.UnaryOp .USub (.Constant c k i) O)) q) p) Z Q X) h
  (.of (.Z3 ((U I G _ n S Z _ X V d).v.Zv λx Y q=>db q)) λN N=>rfl))
theorem qk.of{o:Option ar}{I:Sc}{n:Nat}{S:aA}{Z:St}{Q:QV}{X:QX}:AE W w J n I S (qZ o) Z Q X→qk W w J n I S o Z Q X:=
 a9 (motive:=λo=>AE W w J n I S (qZ o) Z Q X→qk W w J n I S o Z Q X) o (λh A O G s U F D Y V E d=>h A O G s U F D Y V E d) λe h=>.Zv h
theorem Jd{o Y V:Ex}(O:ME T CC W w J o)(e:ME T CC W w J Y)(g:ME T CC W w J V):ME T CC W w J (.slice o Y V):=λI G E n S Z Q X B d=>lj B λx s p h=>AU (M:=λs=>EV W w J n I (cl S) (.Subscript x s p) Z Q X) h λa b c q h=>k4 h λR H j z=>
 jV (M:=λc=>EV W w J n I (cl S) (.Subscript x (.Slice a b c q) p) Z Q X) R λN=>.of (.ZP ((O I G _ n S Z _ X H d).v.Zv λx U q=>.of ((e I G _ n S U _ X j q).v.Zv λy f q=>.of ((g I G _ n S f _ X z q).v.Zv λy f q=>db q)))) λN N=>rfl
theorem Jv{e:Ex}(F:ME T CC W w J e):ME T CC W w J (.freeze e):=λI G E n S Z Q X B d=>k2 B λR H=>gc (M:=λE=>dm T e I.names E=ae→EV W w J n I (cl S) E Z Q X) H (λx p N h=>.of (.ZC ((F I G _ n S Z _ X h d).v.Zv λv U q=>mz q λa l r q=>.mk a l r q)) λN N=>rfl) R
theorem Dl{P:Exs}{L:dN}{G:Fr}{Q:QL}{Z:St}(h:(gd T P).L L []=ae)(d:kW T P G Q Z):Q [] Z:=by
 cases P with
 |nil=>exact d
 |cons _ _=>exact aF h
theorem D9(C:Cx K J){x:ak}{f:ag}{P:Exs}{I:Sc}{n:Nat}{S:aA}{Z:St}{Q:QV}{X:QX}{y V:aN}{l:List ar}(F:ML T CC W w J P)(G:dR T J I)(H:I.names.lookup x=aa .globalImplicit)(j:(x==("__debug__":ak))=aj)
  (o:bG K bp x=aa (aa (.ref f)))(Y:eF K (.ref f)=ae)(t:l.all cY=ae)(A:(gd T P).L I.names l=ae){R:QL}(d:kW T P ⟨CC,n,X,S⟩ R Z)(b:∀L U,R L U→aS W w J n U L (λB=>aV (.ref f) B) Q X):
  EV W w J n I (cl S) (.Call (.Name x y) l [] V) Z Q X:=
 .of (br (motive:=λl=>l.all cY=ae→(gd T P).L I.names l=ae→AE W w J n I (cl S) (.Call (.Name x y) l [] V) Z Q X) l (λN A=>.ZE C H o Y (b _ _ (Dl A d)) j)
  (λe r t A=>k2 t λs M=>.ZT C H o Y ((F.L I G _ n S Z V _ X A d).Zx λL U q=>b _ _ q.2) j ((bK s).star _) λO=>(mj V O M).1) t A) λN N=>rfl
theorem JG(C:Cx K J)(Y:KT W w K T)(O:∀m f L Z Q X,CC m f L Z Q X→fF W w J m Z L f Q X){x:ak}{f:ag}{P:Exs}(F:ML T CC W w J P):ME T CC W w J (.call x f P):=λI G E n S Z Q X B d=>jS B λg l p h=>hG (O:=λg=>EV W w J n I (cl S) (.Call g l [] p) Z Q X) h λq R h=>k4 h λH j z A=>
 bu (Y.fn _ _ (bU j)) λo V=>D9 C F G R (n1 H) o V z A d λL U q=>(O _ _ _ _ _ _ q).v
theorem Jl(C:Cx K J)(Y:KT W w K T)(V:∀m f L Z Q X,CC m f L Z Q X→fF W w J m Z L f Q X){x:ak}{c:ag}{O:Exs}(F:ML T CC W w J O):ME T CC W w J (.new x c O):=by
 revert W w K J T CC x c O;apply ch;generalize e5 _=W,e4 _=w,e3 _=K,e2 _=J,e1 _=T,e0 _=CC;intro C Y V;apply bY;generalize e2 _=x,e1 _=c,e0 _=O;intro F
 exact λI G E n S Z Q X B d=>jS B λg l p h=>hG (O:=λg=>EV W w J n I (cl S) (.Call g l [] p) Z Q X) h λq R h=>k4 h λH j z A=>
   bb (Y.cls _ _ (bU j)) λo N u=>D9 C F G R (n1 H) o N z A d λL U q=>aB q λm e q=>fg q λf t q=>bu (Y.init _ _ t) λD y=>qF (a:=n) (b:=m+1) (P:=λn=>aS W w J n U L (λr=>aV (.ref c) r) Q X) e (aS.Z6 C u D y λi k=>V _ _ _ _ _ _ (q i k))
theorem Bv(Y:KT W w K T){v:V}{m:ak}{P:LW}{G:Fr}{Z:St}{Q:QV}{R:ag→V→St→Prop}(q:oZ Z v (Fs T v m P G Z Q))(k:∀f,P G (Ft f v G Q) Z→R f v Z):nj K m R Z v:=
 wX (M:=λu=>v=u→nj K m R Z u) q (λa c t r q e=>fg q λf I q=>bu (jY I) λO I=>bu (Y.meth _ _ _ I) λF E=>.mk a c t f r F E O (e▸k f q)) rfl
theorem Jo(C:Cx K J)(Y:KT W w K T)(L:∀m f M Z Q X,CC m f M Z Q X→fF W w J m Z M f Q X){o:Ex}{m:ak}{P:Exs}(p:ME T CC W w J o)(F:ML T CC W w J P):ME T CC W w J (.meth o m P):=by
 revert W w K J T CC o m P;apply ch;generalize e5 _=W,e4 _=w,e3 _=K,e2 _=J,e1 _=T,e0 _=CC;intro C Y L;apply bY;generalize e2 _=o,e1 _=m,e0 _=P;intro p F
 exact λI G E n B Z Q X u d=>mr u λx c l V R H j h=>k3 h λA S s=>
   .of (br (motive:=λl=>l.all cY=ae→jc l.length 20=ae→(gd T P).L I.names l=ae→AE W w J n I (cl B) (.Call (.Attribute x m c) l [] V) Z Q X) l
    (λS j s=>.ZO C ((p I G _ n B Z _ X A d).v.Zv λv U q=>Bv Y q λf q=>(L _ _ _ _ _ _ (Dl s q)).v) λO=>lw R (m6 H O) (ou V O S j))
    (λe r S j s=>k2 S λt g=>.ZY C ((p I G _ n B Z _ X A d).v.Zv λv U q=>Bv Y q λf q=>(F.L I G _ n B U V _ X s q).Zx λM N q=>(L _ _ _ _ _ _ q.2).v) (λO=>lw R (m6 H O) (ou V O S j)) ((bK t).star _) λO=>(mj V O g).1) S j s) λz z=>rfl
theorem JI(C:Cx K J)(Y:KT W w K T){u:Bu}{e:Ex}(F:ME T CC W w J e):ME T CC W w J (.blt u e):=by
 revert W w K J T CC u e;apply ch;generalize e5 _=W,e4 _=w,e3 _=K,e2 _=J,e1 _=T,e0 _=CC;intro C Y;apply bF;generalize e1 _=u,e0 _=e;intro F
 exact λI G E n S Z Q X L d=>jS L λg l p h=>
   a9 (motive:=λo=>j8 u=o→a9 (motive:=λN=>Bool) o (a9 (motive:=λN=>Bool) (lF u) aj λq=>eP I.names (aq "isinstance") g (gJ l λx y=>pl (dm T e) I.names x&&eP I.names q y ae)) (λz=>eP I.names z.1 g (eU l λx=>pl (dm T e) I.names x))=ae→EV W w J n I (cl S) (.Call g l [] p) Z Q X) (j8 u)
    (λN h=>a9 (motive:=λo=>lF u=o→a9 (motive:=λN=>Bool) o aj (λq=>eP I.names (aq "isinstance") g (gJ l λx y=>pl (dm T e) I.names x&&eP I.names q y ae))=ae→EV W w J n I (cl S) (.Call g l [] p) Z Q X) (lF u) (λN=>aF)
     (λq j h=>hG (O:=λg=>EV W w J n I (cl S) (.Call g l [] p) Z Q X) h λV R h=>jm (W:=λl=>EV W w J n I (cl S) (.Call (.Name (aq "isinstance") V) l [] p) Z Q X) h λx y h=>k2 h λO H=>k2 O λt O=>hG (O:=λy=>EV W w J n I (cl S) (.Call (.Name (aq "isinstance") V) [x,y] [] p) Z Q X) H λr s N=>
      bu (Kh j) λb P=>.of (.Z0 C P R Y.isi0 (by decide+kernel) s (Y.isi _ _ j) b.1 ((F I G _ n S Z _ X O d).v.Zv λv U q=>db q) (by decide+kernel) (by decide+kernel) b.2.1 b.2.2 ((bK t).star _)) λN N=>rfl) rfl h)
    (λz B h=>hG (O:=λg=>EV W w J n I (cl S) (.Call g l [] p) Z Q X) h λV R h=>eQ (W:=λl=>EV W w J n I (cl S) (.Call (.Name z.1 V) l [] p) Z Q X) h λx h=>k2 h λt O=>bu (N7 B) λb m=>
     .of (.ZF C R (Y.blt _ _ B) b.1 m (.Zv ((F I G _ n S Z _ X O d).v.Zv λv U q=>.Zw (fg q λz f q=>.ZV C q B f)) ((bK t).star _)) b.2.1 b.2.2 ((bK t).star _) λD=>rfl) λN N=>rfl) rfl h
theorem uJ{n:Nat}{I:Sc}{S:aA}{Y:St}{X:ak→St→Prop}{Q:V→St→Prop}{x y:ar}{m:ak}{c O:aN}(b:(c.endLine==O.line)=ae)(i:kb x=ae)(t:cY y=ae)
  (h:AE W w J n I S x Y (λv U=>kA m (λB v U=>AE W w J n I S y U (λu f=>aS W w J n f [v,u] (λL=>aV (.builtin B) L) Q X) X) U v) X):EV W w J n I S (.Call (.Attribute x m c) [y] [] O) Y Q X:=by
 revert W w J n I S Y X Q x y m c O;apply aX;generalize aT _=W,aL _=w,e9 _=J,e8 _=n,e7 _=I,e6 _=S,e5 _=Y,e4 _=X,e3 _=Q,e2 _=x,e1 _=y,e0 _=m;apply bF;generalize e1 _=c,e0 _=O;intro b i t h
 exact
   have C:[y].all cY=ae:=(zW _).trans t
   .of (.Zx (h.Zv λv U q=>q.casesOn λa B e q=>.mk a B e (.Zv (q.Zv λu f q=>.Zw q) ((bK t).star _))) (λZ=>lw b (m6 i Z) (ou O Z C rfl)) ((bK t).star _) λZ=>(mj O Z C).1) λN N=>rfl
theorem JM{o e:Ex}(p:ME T CC W w J o)(g:ME T CC W w J e):ME T CC W w J (.append o e):=λI G E n S Z Q X B d=>mr B λx c l V R H j h=>eQ (W:=λl=>EV W w J n I (cl S) (.Call (.Attribute x _ c) l [] V) Z Q X) h λy h=>k2 h λs Y=>k2 Y λt Y=>
 uJ R H t ((p I G _ n S Z _ X s d).v.Zv λv U q=>mz (M:=λu=>v=u→kA _ _ U u) q (λa l r q e=>.mk a "list.append" (.l l r PySem.F.slot_list_append PySem.F.type_list_append) ((g I G _ n S U _ X Y q).v.Zv λy f q=>e▸
  mz (M:=λu=>aS W w J n f [u,y] (λO=>aV (.builtin "list.append") O) Q X) q λA C b q=>fg q λz L q=>bu (jY L) λN F=>ez (λz=>Q .none (f.Zv A (.list z))→aS W w J n f [.obj A,y] (λO=>aV (.builtin "list.append") O) Q X) F (λq=>.ZD b N q) q)) rfl)
theorem Jw{o e:Ex}(p:ME T CC W w J o)(g:ME T CC W w J e):ME T CC W w J (.extend o e):=λI G E n S Z Q X B d=>mr B λx c l V R H j h=>eQ (W:=λl=>EV W w J n I (cl S) (.Call (.Attribute x _ c) l [] V) Z Q X) h λy h=>k2 h λs Y=>k2 Y λt Y=>
 uJ R H t ((p I G _ n S Z _ X s d).v.Zv λv U q=>mz (M:=λu=>v=u→kA _ _ U u) q (λa l r q e=>.mk a "list.extend" (.l l r F8 PySem.F.type_list_extend) ((g I G _ n S U _ X Y q).v.Zv λy f q=>e▸
  mz (M:=λu=>aS W w J n f [u,y] (λO=>aV (.builtin "list.extend") O) Q X) q λA P b q=>aB (KW q) λm C q=>fg q λz L q=>bu (jY L) λN F=>ez (λz=>Q .none (f.Zv A (.list z))→aS W w J n f [.obj A,y] (λO=>aV (.builtin "list.extend") O) Q X) F (λq=>.ZE b C N q) q)) rfl)
theorem Jg{o:Ex}(Z:ME T CC W w J o):ME T CC W w J (.pop o):=λI G E n S Y Q X B d=>mr B λx c l V R H j h=>fB (M:=λl=>EV W w J n I (cl S) (.Call (.Attribute x _ c) l [] V) Y Q X) h λs=>
 .of (.ZD ((Z I G _ n S Y _ X s d).v.Zv λv U q=>mz q λa l r q=>fg q λp L q=>bu (jY L) λN F=>aB (tI.mp F) λz C u=>.mk a "list.pop" (.l l r PySem.F.slot_list_pop PySem.F.type_list_pop) (aS.Z7 r N C (by subst u;exact q))) λO=>lw R (m6 H O) (ou _ O rfl rfl)) λg g=>rfl
theorem Jy{o e:Ex}(O:ME T CC W w J o)(g:ME T CC W w J e):ME T CC W w J (.dpop o e):=by
 revert W w J T CC o e;apply dQ;generalize e6 _=W,e5 _=w,e4 _=J,e3 _=T,e2 _=CC,e1 _=o,e0 _=e;intro O g
 exact λI G E n S B Q X L d=>mr L λx c l V R H m h=>eQ (W:=λl=>EV W w J n I (cl S) (.Call (.Attribute x _ c) l [] V) B Q X) h λy h=>k2 h λs Y=>k2 Y λt Y=>
   uJ R H t ((O I G _ n S B _ X s d).v.Zv λv U q=>o0 (M:=λu=>v=u→kA _ _ U u) q (λa l r q e=>.mk a "dict.pop" (.d l r tD PySem.F.type_dict_pop) ((g I G _ n S U _ X Y q).v.Zv λy f q=>e▸
    o0 (M:=λu=>aS W w J n f [u,y] (λZ=>aV (.builtin "dict.pop") Z) Q X) q λA D b q=>jX (M:=λy=>aS W w J n f [.obj A,y] (λZ=>aV (.builtin "dict.pop") Z) Q X) q λk q=>fg q λp N q=>bu (jY N) λF C=>aB (tI.mp C) λz j P=>.ZK b F j (by subst P;exact q))) rfl)
theorem Ix{l:List (Int×V)}{k:Int}{P:V×List (Int×V)→Prop}{R:Prop}(O:l.length≤1000)(h:oK (pF l k) P R):a9 (motive:=λN=>Prop) (l.lookup k) R λz=>P (z,l.filter λp=>p.1 !=k):=
 a9 (motive:=λo=>oK (o.map λz=>(z,l.filter λp=>p.1 !=k)) P R→a9 (motive:=λN=>Prop) o R λz=>P (z,l.filter λp=>p.1 !=k)) (l.lookup k) id (λN=>id) ((if_pos O:pF l k=_)▸h)
theorem Jx(C:Cx K J){o e d:Ex}(p:ME T CC W w J o)(g:ME T CC W w J e)(D:ME T CC W w J d):ME T CC W w J (.dpopD o e d):=by
 revert W w K J T CC o e d;apply ch;generalize e5 _=W,e4 _=w,e3 _=K,e2 _=J,e1 _=T,e0 _=CC;intro C;apply bY;generalize e2 _=o,e1 _=e,e0 _=d;intro p g D
 exact λI G E n S N Q X H F=>mr H λx c l V j P h3 h=>jm (W:=λl=>EV W w J n I (cl S) (.Call (.Attribute x _ c) l [] V) N Q X) h λy z h=>k3 h λs Y B=>k2 Y λt Y=>k2 B λZ B=>
   have R:[y,z].all cY=ae:=cj.mpr ⟨t,(zW _).trans Z⟩
   .of (.Zx ((p I G _ n S N _ X s F).v.Zv λv U q=>o0 (M:=λu=>v=u→kA _ _ U u) q (λa l r q e=>.mk a "dict.pop" (.d l r tD PySem.F.type_dict_pop) (.Zv ((g I G _ n S U _ X Y q).v.Zv λy f q=>.Zv ((D I G _ n S f _ X B q).v.Zv λu m q=>.Zw (e▸
    o0 (M:=λv=>aS W w J n m [v,y,u] (λL=>aV (.builtin "dict.pop") L) Q X) q λA l' b q=>jX (M:=λy=>aS W w J n m [.obj A,y,u] (λL=>aV (.builtin "dict.pop") L) Q X) q λk q=>.ZG C b q.1 (Ix q.1 q.2))) ((bK Z).star _)) ((bK t).star _))) rfl)
    (λO=>lw j (m6 P O) (ou V O R rfl)) ((bK t).star _) λO=>(mj V O R).1) λi i=>rfl
section
variable{n:Nat}{Z:St}{X:ak→St→Prop}{Q:V→St→Prop}
theorem aS.ZP{args:List V}{t:List ai→bI ai}{l:List V}(q:∀a,Z a=ah→Q (.obj a) (Z.Zv a (.list l)))
  (h:∀A G s O U Y,Fo A n→cW J A G→HR W w G Z s.heap→VRs G.im args O→
   (∀L u,VRs G.im l L→U (.ref s.heap.objs.size) {s with heap:=s.heap.push (my L),toks:=u})→au (av W w) A (t O) U Y s):aS W w J n Z args t Q X:=
 λA G s O F T H S U Y E d=>h A G s O U Y F T H S λL u g=>
  have I:=eV s.heap
  E _ _ G _ _ u (.Zw _) (H.ZJ (o:=.list l) I (λN N e=>bM _ e) rfl ⟨L,⟨_,gQ _ rfl⟩,g⟩) (.obj _) (q _ (H.Zv I).mu)
theorem IL{x y:V}{l:List V}(h:cE .mul x y=aa (.lst l)):∃u b,x=.lst [u]∧y=.int b∧0≤b∧b≤1000∧l=bA b.toNat u:=by
 cases ES h with
 |mulL u b O=>
  simp only[Bool.and_eq_true,decide_eq_true_eq]at O;exact⟨u,b,rfl,rfl,O.1,O.2,rfl⟩
theorem aS.ZO{x y:V}{l:List V}(h:cE .mul x y=aa (.lst l))(q:∀a,Z a=ah→Q (.obj a) (Z.Zv a (.list l))):aS W w J n Z [x,y] (t2 (gu .Mult)) Q X:=by
 refine f9 (IL h) λu b B o i p M=>?_;refine qF B ?_;refine qF o ?_;subst M;refine .ZP q λA G s rs I N F T H Vv k=>Vv.e2 λra rb R g=>g.eI λf=>R.eL λr m L d j=>VRs.e1 (P:=λL=>G.im r=aa (eJ "list" L m)→au (av W w) A (t2 (gu .Mult) [.ref r,.int b f]) I N s) j (λc t d=>?_) d
 ·have C:=H.im _ _ d
  have E:(#[c]:Array ai).size*b.toNat=b.toNat:=by simp
  refine wpAny_binaryOp_repeat_ref (T:="list") (U:="int") (by decide) ⟨_,C,rfl⟩ (λz=>typeIs_int z b f) noFill_list_mul PySem.F.fills_int_mul zy repeat_list PySem.F.slot_int_index.lookup
   (nI zy (typeIs_int s b f) PySem.F.entry_int_rmul (PySem.F.args_int_rmul_2 _ _) (int___rmul___int_list b f r #[c] m)
    ⟨C,rfl,⟨_,C,rfl⟩,nI PySem.F.slot_list_mul ⟨_,C,rfl⟩ PySem.F.entry_list_mul (PySem.F.args_list_mul_2 _ _)
     (Qv r #[c] m b f (by simp[Gb];lia) (by refine(bo E)▸ ?_;lia) (by
      have d:(#[c]:Array ai).size*b.toNat=b.toNat:=by trivial
      simp only[zC,eX];rw[show((#[c]:Array ai).size:Nat)=1 from rfl];simp;lia))
     ⟨C,?_⟩⟩)
  have e:(tN (λY S=>Y++S) #[] (bA (if(#[c]:Array ai).isEmpty=ae then 0 else b.toNat) #[c]))=(bA b.toNat c).toArray:=by
   rw[show((#[c]:Array ai).isEmpty)=aj from rfl,if_neg (by decide)]
   have:∀(n:Nat) (O:Array ai),tN (λY S=>Y++S) O (bA n #[c])=O++(bA n c).toArray:=by
    intro n
    induction n with
    |zero=>intro O;rfl
    |succ n D=>intro O;rw[List.replicate_succ];rw[List.foldl_cons];rw[D];apply Array.ext';simp[List.replicate_succ]
   rw[this];simp
  have v:=k (bA b.toNat c) s.toks (VRs.Zz t _)
  first
   |(exact e▸v)
   |exact e▸v
end
theorem Jn{a b:Ex}(s:ME T CC W w J a)(A:ME T CC W w J b):ME T CC W w J (.mulM a b):=by
 revert W w J T CC a b;apply dQ;generalize e6 _=W,e5 _=w,e4 _=J,e3 _=T,e2 _=CC,e1 _=a,e0 _=b;intro s A
 exact λI G E n S Z Q X B d=>A6 B λx p y V h=>k3 h λR H j=>dE R
   (.of (.ZA ((s I G _ n S Z _ X H d).v.Zv λx U q=>(A I G _ n S U _ X j q).v.Zv λy f q=>fg q λz O q=>fg q λl C q=>by
    cases z<;>cases C;exact .ZO O q)) λN N=>rfl)
end
section
variable{W:aK}{w:aJ}{K:aY}{J:ay}{T:cA}{CC:Nat→CS}
theorem AI.Zv{n:Nat}{I:Sc}{S:aA}{e:ar}{Z:St}{Q Q' :List V→bV→St→Prop}{X:ak→St→Prop}(h:AI W w J n I S e Z Q X)(k:∀l s Z,Q l s Z→Q' l s Z):AI W w J n I S e Z Q' X:=
 λA O G s Y F D B L E N=>h A O G s Y F D B L (λl U r P o R M H u a b c d e f g q=>E l U r P o R M H u a b c d e f g (k _ _ _ q)) N
theorem Br{e:Ex}(F:ME T CC W w J e):MI T CC W w J (.seq e):=λI G E n S Z Q X B d=>.Zy ((F I G E n S Z _ X B d).v.Zv λv U q=>Ke q)
theorem Bt(C:Cx K J)(Y:KT W w K T){e:Ex}(F:ME T CC W w J e):MI T CC W w J (.range e):=by
 revert W w K J T CC e;apply ch;generalize e5 _=W,e4 _=w,e3 _=K,e2 _=J,e1 _=T,e0 _=CC;intro C Y;apply aP;generalize e0 _=e;intro F
 exact λI G E n S Z Q X B d=>jS B λg l p h=>hG (O:=λg=>AI W w J n I (cl S) (.Call g l [] p) Z Q X) h λq H h=>eQ (W:=λl=>AI W w J n I (cl S) (.Call (.Name _ q) l [] p) Z Q X) h λx h=>k2 h λt h=>
   .Zw C H Y.range (by decide+kernel) (.Zv ((F I G _ n S Z _ X h d).v.Zv λv U q=>.Zw (jX (M:=λv=>∃l,lS [v] l∧Q l ah U) q λi q=>⟨_,.one i q.1,q.2⟩)) ((bK t).star _)) (by decide+kernel) (by decide+kernel) ((bK t).star _) λN=>rfl
theorem Bs(C:Cx K J)(Y:KT W w K T){a b c:Ex}(s:ME T CC W w J a)(A:ME T CC W w J b)(V:ME T CC W w J c):MI T CC W w J (.range3 a b c):=by
 revert W w K J T CC a b c;apply ch;generalize e5 _=W,e4 _=w,e3 _=K,e2 _=J,e1 _=T,e0 _=CC;intro C Y;apply bY;generalize e2 _=a,e1 _=b,e0 _=c;intro s A V
 exact λI G E n S Z Q X P t=>jS P λg l p h=>hG (O:=λg=>AI W w J n I (cl S) (.Call g l [] p) Z Q X) h λq D h=>uB (W:=λl=>AI W w J n I (cl S) (.Call (.Name _ q) l [] p) Z Q X) h λx y z h=>k3 h λO B L=>k2 O λR O=>k2 B λH B=>k2 L λd L=>
   .Zw C D Y.range (by decide+kernel) (.Zv ((s I G _ n S Z _ X O t).v.Zv λv U q=>.Zv ((A I G _ n S U _ X B q).v.Zv λF f q=>.Zv ((V I G _ n S f _ X L q).v.Zv λu m q=>.Zw
    (jX (M:=λv=>∃l,lS [v,F,u] l∧Q l ah m) q λi q=>jX (M:=λF=>∃l,lS [.int i,F,u] l∧Q l ah m) q λj q=>jX (M:=λu=>∃l,lS [.int i,.int j,u] l∧Q l ah m) q λk q=>fg q.2.2 λl r o=>bu (jY r) λe el=>⟨l,e.symm▸aI el▸ .down i j q.1 q.2.1,o⟩)) ((bK d).star _)) ((bK H).star _)) ((bK R).star _))
    (by decide+kernel) (by decide+kernel) ((bK R).star _) λN=>(mj (P:=[y,z]) p N (cj.mpr ⟨H,(zW _).trans d⟩)).1
theorem iX.Zv{n:Nat}{I:Sc}{S:aA}{C:List ar}{Z:St}{R g:Bool→St→Prop}{X:ak→St→Prop}(h:iX W w J n I S C Z R X)(k:∀c Z,R c Z→g c Z):iX W w J n I S C Z g X:=
 br (motive:=λC=>iX W w J n I S C Z R X→iX W w J n I S C Z g X) C (k ae Z) (λc r=>br (motive:=λr=>iX W w J n I S (c::r) Z R X→iX W w J n I S (c::r) Z g X) r (λh=>AT.Zv h k) λN N h=>h) h
theorem D2{n:Nat}{I:Sc}{S:aA}{i:Nat}{B:Exs}{C:List ar}{z:Ex}{k:ar}{Y:bV}{b a:QL}{X:QX}(G:dR T J I)(d:∀M Z,b M Z→a M Z)(g:ME T CC W w J z)(L:ML T CC W w J B)(N:dm T z I.names k=ae)(m:(gd T B).A I.names C=ae)(l:List V):
  ∀(O:List V) (Z:St),ft (iV (cm T z) [i] (gW T B) ⟨CC,n,X,S⟩) Y l O b Z→eu W w J n I (cl S) i C k Y a X l O Z:=
 bc (motive:=λl=>∀(O:List V) (Z:St),ft (iV (cm T z) [i] (gW T B) ⟨CC,n,X,S⟩) Y l O b Z→eu W w J n I (cl S) i C k Y a X l O Z) (λO Z h=>(jQ h).imp id (d _ _))
  (λv r F O Z h=>bu (jQ h) λR H=>⟨R,iX.Zv (L.A I G C n ((i,v)::S) Z _ X m H) λc U q=>bJ (motive:=λc=>Fx (cm T z) (ax i v ⟨CC,n,X,S⟩) (Fy (ft (iV (cm T z) [i] (gW T B) ⟨CC,n,X,S⟩) Y r) O b) c U→qf (λQ Z=>AE W w J n I (cJ i v (cl S)) k Z Q X) (eu W w J n I (cl S) i C k Y a X r) O c U) c
   (λq=>F O U (nS O▸q)) (λq=>(g I G _ n ((i,v)::S) U _ X N q).v.Zv λy f q=>F (O++[y]) f q) q⟩) l
theorem Mw{n:Nat}{I:Sc}{S:aA}{i:Nat}{z:Ex}{k:ar}{U:bV}{b a:QL}{X:QX}{p:List V}(G:dR T J I)(d:∀L Z,b L Z→a (p++L) Z)(g:ME T CC W w J z)(Y:dm T z I.names k=ae)(l:List V):
  ∀(O:List V) (Z:St),ft (λv K Z=>cm T z (ax i v ⟨CC,n,X,S⟩) (s8 K) Z) U l O b Z→eu W w J n I (cl S) i [] k U a X l (p++O) Z:=
 bc (motive:=λl=>∀(O:List V) (Z:St),ft (λv K Z=>cm T z (ax i v ⟨CC,n,X,S⟩) (s8 K) Z) U l O b Z→eu W w J n I (cl S) i [] k U a X l (p++O) Z) (λO Z h=>(jQ h).imp id (d _ _))
  (λv r F O Z h=>bu (jQ h) λR H=>⟨R,(g I G _ n ((i,v)::S) Z _ X Y H).v.Zv λy f q=>(iA p O [y]).symm▸F (O++[y]) f q⟩) l
theorem MB{n:Nat}{I:Sc}{S:aA}{i B:Nat}{Y:It}{z:Ex}{k e:ar}{U:bV}{b a:QL}{X:QX}(G:dR T J I)(d:∀L Z,b L Z→a L Z)(g:ME T CC W w J z)(M:MI T CC W w J Y)(R:dm T z I.names k=ae)(f:uE T Y I.names e=ae)(l:List V):
  ∀(O:List V) (Z:St),ft (zg (cm T z) i B (qB T Y) ⟨CC,n,X,S⟩) U l O b Z→ku W w J n I (cl S) i B e k U a X l O Z:=
 bc (motive:=λl=>∀(O:List V) (Z:St),ft (zg (cm T z) i B (qB T Y) ⟨CC,n,X,S⟩) U l O b Z→ku W w J n I (cl S) i B e k U a X l O Z) (λO Z h=>(jQ h).imp id (d _ _))
  (λv r F O Z h=>bu (jQ h) λH u=>⟨H,(M I G _ n ((i,v)::S) Z _ X f u).Zv λC m N q=>⟨q.1,nS O▸Mw (S:=(i,v)::S) (p:=O) G (λL Z q=>F (O++L) Z q) g R C [] N q.2⟩⟩) l
theorem sA{I:Sc}{S:aA}{O:cG}{i:Nat}{x:ak}{G:List Nat}(h:sB I.names O i x G=ae):iW I (cl S) (cl (gZ G S)) O i x:=by
 revert I S O i x G;apply ch;generalize e5 _=I,e4 _=S,e3 _=O,e2 _=i,e1 _=x,e0 _=G;intro h
 exact k6 h λR H j z A s=>by
   have c:=λp t=>dA.mp A p t;refine⟨λp t U=>?_,λp t U=>?_,λp t=>bu (D8.mp t) λP g=>k2 (dA.mp s p.1 (Bz g)) λa b=>⟨P,bU a,bU b⟩,bU z,gz R,bU H,bU j,λp t U=>?_⟩
   ·have:=c p t;rw[U]at this;exact aF this
   ·have:=c p t;rw[U]at this;exact bU this
   ·have:=c p t;rw[U]at this;exact bU this
theorem EK{f:Bool}{Q Q' :QV}(k:∀v Z,Q v Z→Q' v Z)(L:List V)(Z:St):(fc (motive:=λN=>QL) (nu Q) (sZ Q) f) L Z→kz f Q' L Z:=
 bJ (motive:=λf=>(fc (motive:=λN=>QL) (nu Q) (sZ Q) f) L Z→kz f Q' L Z) f (k _ _) λh a O=>k _ _ (h a O)
theorem JD{f:Bool}{z:Ex}{D:List Nat}{c:It}{O:Exs}{G:List Nat}(Z:ME T CC W w J z)(v:MI T CC W w J c)(V:ML T CC W w J O):ME T CC W w J (.comp f z D c O G):=by
 revert W w J T CC f z D c O G;apply et;generalize aL _=W,e9 _=w,e8 _=J,e7 _=T,e6 _=CC,e5 _=f,e4 _=z,e3 _=D,e2 _=c,e1 _=O,e0 _=G;intro Z v V
 exact λI R E n S B Q X F d=>uz F λk g L Y h=>AZ (O:=λg=>EV W w J n I (cl S) (.ListComp k g L Y) B Q X) h λx u a C h=>
   eQ (W:=λD=>cm T (.comp f z D c O G) ⟨CC,n,X,S⟩ Q B→EV W w J n I (cl S) (.ListComp k [⟨.Name x u,a,C,0⟩] L Y) B Q X) h (λi h d=>k5 h λj H P t A=>k2 H λm H=>
    .of (.Zy (f:=f) (sA (S:=S) j) (bK m).fold ((v I R _ n S B _ X H d).Zv λl y U q=>⟨q.1,D2 (I:=jR I L) (o9 A) (EK λN N q=>q) Z V P t l [] U q.2⟩)) λN N=>rfl) d
theorem JC{z:Ex}{x y:Nat}{c Y:It}{G:List Nat}(O:ME T CC W w J z)(Z:MI T CC W w J c)(b:MI T CC W w J Y):ME T CC W w J (.comp2 z x c y Y G):=by
 revert W w J T CC z x y c Y G;apply et;generalize aL _=W,e9 _=w,e8 _=J,e7 _=T,e6 _=CC,e5 _=z,e4 _=x,e3 _=y,e2 _=c,e1 _=Y,e0 _=G;intro O Z b
 exact λI F E n S R Q X C d=>uz C λk g H B h=>Il (W:=λg=>EV W w J n I (cl S) (.ListComp k g H B) R Q X) h λu r a v i e h=>
   k6 h λj P t V A s=>k2 V λm V=>k2 A λL A=>k2 s λs f=>
    .of (.ZH (f:=aj) (sA (S:=S) j) (sA (S:=S) P) (uI t) (bK m).fold (bK L).fold ((Z I F _ n S R _ X V d).Zv λl D U q=>⟨q.1,MB (I:=jR I H) (o9 f) (λN N q=>q) O b s A l [] U q.2⟩)) λN N=>rfl
theorem J3{I:Sc}{S:aA}{O:cG}{i:ar}{G:List Nat}(h:BY I.names O G=ae):yW I (cl S) (cl (gZ G S)) ⟨[],[],ah,[],[],ah,[]⟩ i O:=by
 revert I S O i G;apply eE;generalize e4 _=I,e3 _=S,e2 _=O,e1 _=i,e0 _=G;intro h
 exact k5 h λR H j z A=>
   ⟨λN=>rfl,λN N N N=>rfl,λp t e=>k2 (dA.mp z p t) λN b=>(gB.mp b).elim (λb=>aF ((n1 b).symm.trans (beq_iff_eq.mpr e))) bU,λp t=>bu (D8.mp t) λP g=>k2 (dA.mp A p.1 (Bz g)) λa b=>⟨P,bU a,bU b⟩,
    λp t e=>k2 (dA.mp z p t) λa N=>aF ((n1 a).symm.trans (beq_iff_eq.mpr e)),bU R,n1 H,n1 j⟩
theorem Jt(C:Cx K J)(Y:KT W w K T)(U:XC K){Vw:ag}{q:ak}{e:Ex}{G:List Nat}(F:ME T CC W w J e):ME T CC W w J (.heard Vw q e G):=by
 revert W w K J T CC Vw q e G;apply ch;generalize e5 _=W,e4 _=w,e3 _=K,e2 _=J,e1 _=T,e0 _=CC;intro C Y U;apply dM;generalize e3 _=Vw,e2 _=q,e1 _=e,e0 _=G;intro F
 exact λI V E n S Z Q X B d=>jS B λg l p h=>hG (O:=λg=>EV W w J n I (cl S) (.Call g l [] p) Z Q X) h λy H h=>
   eQ (W:=λl=>EV W w J n I (cl S) (.Call (.Name _ y) l [] p) Z Q X) h λx h=>Ii (M:=λx=>EV W w J n I (cl S) (.Call (.Name _ y) [x] [] p) Z Q X) h λargs i O f h=>k5 h λR j z A s=>IG (O:=λargs=>EV W w J n I (cl S) (.Call (.Name _ y) [.Lambda args i O f] [] p) Z Q X) j
    (lh (M:=λo=>iO T I.names=o→EV W w J n I (cl S) (.Call (.Name _ y) [.Lambda ⟨[],[],ah,[],[],ah,[]⟩ i O f] [] p) Z Q X) R (λe h t=>k2 h λk L=>bH d λm N r v=>bu (V _ _ _ t) λu D=>Y.heard.casesOn λfH Vv iC p1 p2 p3 p4 p5 p6 p7 p8 p9 pa pb pc c=>
     qF (P:=λn=>EV W w J n I (cl S) (.Call (.Name _ y) [.Lambda ⟨[],[],ah,[],[],ah,[]⟩ i O f] [] p) Z Q X) N (.of (.ZI C U c H u ((gA k).symm▸D.trans (bU L)▸r) (J3 z) λb=>(F ⟨O.names,b,_⟩ (o9 A) _ m (gZ G S) Z _ _ s v).v) λa a=>rfl)) rfl)
structure SA(W:aK)(w:aJ)(J:ay)(T:cA)(CC:Nat→CS):Prop where
 e:∀e:Ex,ME T CC W w J e
 i:∀it:It,MI T CC W w J it
 l:∀es:Exs,ML T CC W w J es
theorem Hr(C:Cx K J)(Y:KT W w K T)(h:XC K)(S:∀m f M R Q X,CC m f M R Q X→fF W w J m R M f Q X):SA W w J T CC:=by
 revert W w K J T CC;apply ch;generalize e5 _=W,e4 _=w,e3 _=K,e2 _=J,e1 _=T,e0 _=CC;intro C Y h S
 have Z:∀e:Ex,ME T CC W w J e:=λe=>Ex.rec (motive_1:=ME T CC W w J) (motive_2:=MI T CC W w J) (motive_3:=ML T CC W w J)
  Je Jk JH Js Jm Jc I9 (λe F=>JJ C Y F) (Ju C Y) (λO F=>Ja F) (λO F=>Jq F) (λO F=>Jp F)
  (λH O F=>JB F) (λH O F=>Jz F) JA (λo a b s A=>JK s A) (λa b s A=>Jn s A) (λo a b s A=>JE C s A)
  (λo a b o' c s A V=>JF C s A V) (λa b s A=>JO s A) (λa b s A=>Ji s A) (λa b c s A V=>Jh s A V)
  (λa b c s A V=>JN s A V) (λa F=>Jj F) (λt a b l s A=>Jr l s A) (λx f O F=>JG C Y S F) (λx c O F=>Jl C Y S F)
  (λo m O p F=>Jo C Y S p F) (λu e F=>JI C Y F) (λo m F=>JL C Y F) (λo i p v=>Jb p v) (λo lo hi p I L=>Jd p I L)
  (λo F=>Jf F) (λo e p g=>JM p g) (λo e p g=>Jw p g) (λo F=>Jg F) (λo k p j=>Jy p j) (λo k d p j D=>Jx C p j D)
  (λmb z xs B cs G g v V=>JD g v V) (λz x B y n G g v U=>JC g v U) (λP q e G F=>Jt C Y h F) (λe F=>Jv F)
  (λe F=>Br F) (λe F=>Bt C Y F) (λa b c s A V=>Bs C Y s A V) Bn (λe r g E=>Bp g E) e
 refine⟨Z,λB=>?_,λO=>?_⟩
 ·cases B with
  |seq e=>exact Br (Z e)
  |range e=>exact Bt C Y (Z e)
  |range3 a b c=>exact Bs C Y (Z a) (Z b) (Z c)
 ·exact Exs.rec (motive_1:=λN=>True) (motive_2:=λN=>True) (motive_3:=ML T CC W w J) trivial trivial (λN=>trivial) (λN=>trivial) (λN=>trivial) (λN=>trivial) (λN=>trivial) (λN N=>trivial) (λN=>trivial) (λN N=>trivial) (λN N=>trivial) (λN N=>trivial)
   (λN N N=>trivial) (λN N N=>trivial) trivial (λN N N N N=>trivial) (λN N N N=>trivial) (λN N N N N=>trivial) (λN N N N N N N N=>trivial) (λN N N N=>trivial) (λN N N N=>trivial) (λN N N N N N=>trivial) (λN N N N N N=>trivial) (λN N=>trivial) (λN N N N N N=>trivial)
   (λN N N N=>trivial) (λN N N N=>trivial) (λN N N N N=>trivial) (λN N N=>trivial) (λN N N=>trivial) (λN N N N=>trivial) (λN N N N N N=>trivial) (λN N=>trivial) (λN N N N=>trivial) (λN N N N=>trivial) (λN N=>trivial) (λN N N N=>trivial) (λN N N N N N=>trivial)
   (λN N N N N N N N N=>trivial) (λN N N N N N N N N=>trivial) (λN N N N N=>trivial) (λN N=>trivial) (λN N=>trivial) (λN N=>trivial) (λN N N N N N=>trivial) Bn (λe r N F=>Bp (Z e) F) O
end
noncomputable def lA(L:List (ak×dX))(i:Nat)(x:ak):Bool:=kQ i cB&&NM i==x&&(L.lookup x==aa .local ||L.lookup x==aa .cell)
theorem oR{L:List (ak×dX)}{i:Nat}{x:ak}(h:lA L i x=ae):i<cB∧NM i=x∧(L.lookup x=aa .local ∨L.lookup x=aa .cell):=
 k3 h λa b c=>⟨gz a,bU b,(gB.mp c).imp bU bU⟩
section
variable(T:cA)
noncomputable def jo(L:dN)(t:Tg)(E:ar):Bool:=Tg.casesOn (motive:=λ_=>Bool) t (λi=>fP E λx=>lA L i x) (λo m=>oD E λx b _=>b==m&&dm T o L x) λo i=>ll E λx y=>dm T o L x&&dm T i L y
noncomputable def lq(L:dN):List Tg→List ar→Bool:=bc (λl=>jT l) λt _ F l=>gI l λE r=>cY E&&jo T L t E&&F r
noncomputable def GM(t:Tg):Option Nat:=Tg.casesOn (motive:=λ_=>Option Nat) t aa (λ_ _=>ah) λ_ _=>ah
noncomputable def tV:List Tg→Option (List Nat):=bc (aa []) λt _ F=>a9 (motive:=λ_=>Option (List Nat)) (GM t) ah λi=>F.map (i:: ·)
noncomputable def DU(E:ar):Bool:=dite (E.ctorIdx=25) (λh=>Expr.Tuple.elim E h λL _ _=> !(L.all (tw 8))||L.all (tv 8)) λ_=>ae
noncomputable def oG(L:dN):List Nat→List ar→Bool:=bc (λl=>jT l) λi _ F l=>gI l λE r=>fP E (λx=>lA L i x)&&F r
noncomputable def oH(L:dN)(D:List Nat)(E:ar):Bool:=eU D (λi=>fP E λx=>lA L i x)|| (oz E λl=>oG L D l&& !cI D.length 1)
noncomputable def DY(e:Ex)(k:Bool):Bool:=Ex.casesOn (motive_1:=λ_=>Bool) e aj aj (λ_=>aj) (λ_=>aj) (λ_=>aj) (λ_=>aj) (λ_=>aj) (λ_=>aj) (λ_=>aj) (λ_=>aj) (λ_=>aj) (λ_=>aj) (λ_ _=>aj) (λ_ _=>aj) aj (λ_ _ _=>aj) (λ_ _=>aj) (λ_ _ _=>aj) (λ_ _ _ _ _=>aj) (λ_ _=>aj) (λ_ _=>aj) (λ_ _ _=>aj) (λ_ _ _=>aj) (λ_=>aj) (λ_ _ _=>aj) (λ_ _ _=>aj) (λ_ _ _=>aj) (λ_ _ _=>aj) (λ_ _=>aj) (λ_ _=>aj) (λ_ _=>aj) (λ_ _ _=>aj) (λ_=>aj) (λ_ _=>aj) (λ_ _=>aj) (λ_=>aj) (λ_ _=>aj) (λ_ _ _=>aj) (λ_ _ _ _ _ _=>k) (λ_ _ _ _ _ _=>aj) (λ_ _ _ _=>aj) (λ_=>aj)
@[elab_as_elim] theorem Mv{M:Ex→Prop}{e:Ex}{k:Bool}(h:DY e k=ae)(r:∀f z D c O G,k=ae→M (.comp f z D c O G)):M e:=by
 revert M e k;apply bY;generalize e2 _=M,e1 _=e,e0 _=k;intro h r;revert h;cases e
 case comp=>exact λh=>r _ _ _ _ _ _ h
 all_goals exact λh=>aF h
noncomputable def Cu(t:Tg)(e:Ex):Bool:=Tg.casesOn (motive:=λ_=>Bool) t (λ_=>DY e ae) (λ_ _=>aj) λ_ _=>aj
noncomputable def Cw(t:Tg):Bool:=Tg.casesOn (motive:=λ_=>Bool) t (λ_=>aj) (λ_ _=>ae) λ_ _=>aj
noncomputable def tW(O:List Tg):Bool:=a9 (motive:=λ_=>Bool) (tV O) ae λK=>aO K.Nodup
abbrev eW:=dN→bh→Bool
abbrev ib:=dN→List bh→Bool
noncomputable abbrev B6:eW:=λ_ _=>ae
noncomputable abbrev Cf(e:Ex):eW:=λL S=>ux S λE=>pl (dm T e) L E&&rF E
noncomputable abbrev B8(t:Tg)(e:Ex):eW:=λL S=>rq S λl E=>eU l λg=>cY g&&jo T L t g&&pl (dm T e) L E&&(rF E||Cu t e||Cw t)
noncomputable abbrev B7(O:List Tg)(e:Ex):eW:=λL S=>rq S λl E=>eU l λg=>oz g λl=>pl (dm T e) L E&&lq T L O l&&rF E&&DU E&&tW O
noncomputable abbrev Ci(i:Nat)(e:Ex):eW:=λL S=>uA S λg o E=>fP g λx=>aO (o=.Add)&&lA L i x&& !(x==("__classdict__":ak))&&dm T e L E
noncomputable abbrev Ca(e:Ex):eW:=λL S=>rh S λo=>sO o λE=>dm T e L E
noncomputable abbrev B9:eW:=λ_ S=>rh S rA
noncomputable abbrev Cb:eW:=λ_ S=>ut S ae
noncomputable abbrev Cd(t:Ex)(b:Sxs)(o:Sxs)(j:ib)(g:ib):eW:=λL S=>uv S λx y z=>dm T t L x&&j L y&&g L z
noncomputable abbrev Cc(t:Ex)(b:Sxs)(j:ib):eW:=λL S=>uo S λx y=>dm T t L x&&j L y
noncomputable abbrev Ch(D:List Nat)(c:It)(b:Sxs)(j:ib):eW:=λL S=>rj S λg x y=>oH L D g&&pl (uE T c) L x&&j L y
noncomputable abbrev Cg(x:Nat)(e:Ex)(b:Sxs)(j:ib):eW:=λL S=>rj S λg E y=>fP g (λz=>lA L x z)&&pl (dm T e) L E&&j L y
noncomputable abbrev Ce(k:Ex)(m:Ex):eW:=λL S=>ur S λE=>iI E λg l _=>eP L (pS "MachineFault") g (gJ l λa b=>pl (dm T k) L a&&pl (dm T m) L b)
noncomputable abbrev Cj:ib:=λ_ l=>jT l
noncomputable abbrev Ck(e:Sx)(r:Sxs)(m:eW)(a:ib):ib:=λL l=>gI l λx l=>m L x&&a L l
noncomputable abbrev Ir:Sx→eW:=Sx.rec (motive_1:=λ_=>eW) (motive_2:=λ_=>ib) B6 (Cf T) (B8 T) (B7 T) (Ci T) (Ca T) B9 Cb (Cd T) (Cc T) (Ch T) (Cg T) (Ce T) Cj Ck
noncomputable abbrev oJ:Sxs→ib:=Sxs.rec (motive_1:=λ_=>eW) (motive_2:=λ_=>ib) B6 (Cf T) (B8 T) (B7 T) (Ci T) (Ca T) B9 Cb (Cd T) (Cc T) (Ch T) (Cg T) (Ce T) Cj Ck
end
section
variable{W:aK}{w:aJ}{K:aY}{J:ay}{T:cA}{CC:Nat→CS}{n:Nat}{I:Sc}{S:aA}{Z:St}{X:ak→St→Prop}
inductive RT(CC:Nat→CS)(n:Nat)(X:QX)(K:QT):aA→St→Prop
 |mk (S:aA) (Z:St):K ⟨CC,n,X,S⟩ Z→RT CC n X K (cl S) Z
theorem Bk{i:Nat}{E:ar}{v:V}{Q:aA→St→Prop}(h:fP E (λx=>lA I.names i x)=ae)(q:Q (cJ i v S) Z):AG W w J n I S E v Z Q X:=
 gc h λx p h=>bb (oR h) λa b c=>.Zx a b c q
theorem Ak(Y:KT W w K T)(C:Cx K J)(O:∀e:Ex,ME T CC W w J e)(G:dR T J I){t:Tg}{E:ar}{v:V}{Q:QT}:jo T I.names t E=ae→nZ T t v ⟨CC,n,X,S⟩ Q Z→AG W w J n I (cl S) E v Z (RT CC n X Q) X:=
 Tg.casesOn (motive:=λt=>jo T I.names t E=ae→nZ T t v ⟨CC,n,X,S⟩ Q Z→AG W w J n I (cl S) E v Z (RT CC n X Q) X) t
  (λi B d=>Bk B (.mk ((i,v)::S) Z d))
  (λo m B d=>mt B λx b p h=>k2 h λR H=>sE (M:=λb=>AG W w J n I (cl S) (.Attribute x b p) v Z (RT CC n X Q) X) R (.Zy C ((O o I G _ n S Z _ X H d).v.Zv λx U q=>
   wX q λa c N r q=>fg q λz L q=>bu (jY L) λs e=>.mk a c N r (Y.store _ _ s.1) s.2 (.mk S _ ((aI e).symm▸q)))))
  (λo i B d=>lj B λx y p h=>k2 h λR H=>.Zz ((O o I G _ n S Z _ X R d).v.Zv λx U q=>(O i I G _ n S U _ X H q).v.Zv λy f q=>fg q λz L q=>⟨z,L,.mk S _ q⟩))
theorem Hm(Y:KT W w K T)(C:Cx K J)(R:∀e:Ex,ME T CC W w J e)(G:dR T J I){Q:QT}(O:List Tg):∀{l:List ar} {L:List V} {S:aA} {Z:St},lq T I.names O l=ae→iB T O L ⟨CC,n,X,S⟩ Q Z→ic W w J n I (cl S) l L Z (RT CC n X Q) X:=
 bc (motive:=λO=>∀{l:List ar} {L:List V} {S:aA} {Z:St},lq T I.names O l=ae→iB T O L ⟨CC,n,X,S⟩ Q Z→ic W w J n I (cl S) l L Z (RT CC n X Q) X)
  (λ{l L S Z} B d=>jn B (br (motive:=λL=>iB T [] L ⟨CC,n,X,S⟩ Q Z→ic W w J n I (cl S) [] L Z (RT CC n X Q) X) L (λd=>.Zw (.mk _ _ d)) (λN N d=>d.elim) d))
  (λt O F {l L S Z} B d=>hH B λE r h=>k3 h λH u g=>br (motive:=λL=>iB T (t::O) L ⟨CC,n,X,S⟩ Q Z→ic W w J n I (cl S) (E::r) L Z (RT CC n X Q) X) L (λd=>d.elim)
   (λv L d=>.Zv ((bK H).asg _) ((Ak Y C R G u d).Zv λU M q=>RT.casesOn (motive:=λU M N=>ic W w J n I U r L M (RT CC n X Q) X) q λa j q=>F g q)) d) O
theorem Iq{L:dN}(O:List Tg):∀{l:List ar},lq T L O l=ae→O.length=l.length∧l.all cY=ae:=
 bc (motive:=λO=>∀{l:List ar},lq T L O l=ae→O.length=l.length∧l.all cY=ae) (λB=>jn B ⟨rfl,rfl⟩)
  (λt O F {l} B=>hH (M:=λl=>(t::O).length=l.length∧l.all cY=ae) B λE r h=>k3 h λU N H=>bu (F H) λa b=>⟨congrArg Nat.succ a,cj.mpr ⟨U,b⟩⟩) O
theorem yN{O:aH}(l:List ar):l.all cY=ae→(gv l O).findIdx? (·.1)=ah∧(gv l O).length=l.length:=
 bc (motive:=λl=>l.all cY=ae→(gv l O).findIdx? (·.1)=ah∧(gv l O).length=l.length) (λN=>⟨rfl,rfl⟩) (λe r F h=>k2 h λR H=>bu (F H) λa b=>by
  rw[(bK R).asg];exact⟨List.findIdx?_cons.trans (congrArg (Option.map _) a),congrArg Nat.succ b⟩) l
inductive hY(O:aH)(Y:List Tg)(D:List ak)(L:List V)(S:aA)(R:aA→Prop):Prop
 |mk (U):tV Y=aa U→D=U.map NM→(∀i∈U,i<cB∧O.kindOf (NM i)=aa .local)→R (mP (U.zip L) S)→hY O Y D L S R
theorem GW{O:aH}{f:ar→Option ak}(s:yS O f){Q:QT}(U:List Tg):∀{l:List ar} {L:List V} {S:aA} {D:List ak},lq T I.names U l=ae→iB T U L ⟨CC,n,X,S⟩ Q Z→l.map f=D.map aa→hY O U D L (cl S) λC=>RT CC n X Q C Z:=
 bc (motive:=λU=>∀{l:List ar} {L:List V} {S:aA} {D:List ak},lq T I.names U l=ae→iB T U L ⟨CC,n,X,S⟩ Q Z→l.map f=D.map aa→hY O U D L (cl S) λC=>RT CC n X Q C Z)
  (λ{l L S D} B d=>jn B (λe=>br (motive:=λL=>iB T [] L ⟨CC,n,X,S⟩ Q Z→hY O [] D L (cl S) λC=>RT CC n X Q C Z) L (λd=>.mk [] rfl (List.map_eq_nil_iff.mp e.symm) (λN h=>nomatch h) (.mk _ _ d)) (λN N d=>d.elim) d))
  (λt U F {l L S D} B d=>hH (M:=λl=>l.map f=D.map aa→hY O (t::U) D L (cl S) λC=>RT CC n X Q C Z) B λE r h=>k3 h λhp R H=>br (motive:=λD=>(E::r).map f=D.map aa→hY O (t::U) D L (cl S) λC=>RT CC n X Q C Z) D (λe=>List.noConfusion rfl (heq_of_eq e)) λy D e=>bu (List.cons.inj e) λY u=>
   br (motive:=λL=>iB T (t::U) L ⟨CC,n,X,S⟩ Q Z→hY O (t::U) (y::D) L (cl S) λC=>RT CC n X Q C Z) L (λd=>d.elim) (λv L d=>
    Tg.casesOn (motive:=λt=>jo T I.names t E=ae→iB T (t::U) (v::L) ⟨CC,n,X,S⟩ Q Z→hY O (t::U) (y::D) (v::L) (cl S) λC=>RT CC n X Q C Z) t
     (λi R d=>gc (M:=λE=>f E=aa y→hY O (.var i::U) (y::D) (v::L) (cl S) λC=>RT CC n X Q C Z) R (λx p h Y=>bb (oR h) λa b c=>bu (s.n _ _ _ Y) λq g=>(F (S:=(i,v)::S) H d u).casesOn λP z G A k=>
      .mk (i::P) (congrArg (Option.map _) z) (congr (congrArg List.cons (q.symm.trans b.symm)) G) (λj hj=>(bf.mp hj).elim (λe=>e▸⟨a,b▸g⟩) (A j)) k) Y)
     (λo m R N=>mt (M:=λE=>f E=aa y→hY O (.attr o m::U) (y::D) (v::L) (cl S) λC=>RT CC n X Q C Z) R (λx m' p N Y=>aG ((s.a _ _ _).symm.trans Y)) Y)
     (λo m R N=>lj (M:=λE=>f E=aa y→hY O (.sub o m::U) (y::D) (v::L) (cl S) λC=>RT CC n X Q C Z) R (λx m' p N Y=>aG ((s.s _ _ _).symm.trans Y)) Y) R d) d) U
theorem Mm{A:aD}{E:ai→aw→Prop}{c t:ag}{y:Array ai}(U:t≠c)(n:Nat):∀(i:Nat) (s:aw) (Q:List ai→aw→Prop),s.heap.IsListIter c t i→s.heap.IsList t y→i+n=y.size→
  (∀B,B.IsListIter c t y.size→iq c s.heap B→Q (y.toList.drop i) {s with heap:=B})→au (av W w) A (draw (.ref c) n) Q E s:=by
 induction n with
 |zero=>exact λi s Q d N e O=>aR (List.drop_eq_nil_of_le (cN e.symm)▸O s.heap (e▸d) (.refl ..))
 |succ n F=>
  intro i s Q d P e O;have q:i<y.size:=Gg (Nat.lt_add_of_pos_right (Nat.succ_pos n)) e;refine(?_:au _ _ (pyNext (.ref c)>>=_) Q E s);refine az (wpAny_pyNext_list_item d P (QA q) λR a f=>?_);refine az (cC (F (i+1) _ _ a (P.extBut f.extBut U) ((Nat.succ_add_eq_add_succ i n).trans e) λp b g=>aR ?_));have h:=O p b (f.trans g);rw[Qx (l:=y.toList) q]at h;exact h
theorem GQ{A:aD}{E:ai→aw→Prop}{s:aw}{t:ag}{y:Array ai}{Q:List ai→aw→Prop}(O:A.handled=ah)(P:s.heap.IsList t y)
  (U:∀B,gx s.heap.objs.size s.heap B→Q y.toList {s with heap:=B}):au (av W w) A (tm (.ref t) y.size ah) Q E s:=by
 revert W w A E s t y Q;apply jy;generalize e7 _=W,e6 _=w,e5 _=A,e4 _=E,e3 _=s,e2 _=t,e1 _=y,e0 _=Q;intro O P U;have q:t≠s.heap.objs.size:=P.elim λo u=>iu (eZ u.1);refine az ?_;refine az (wpAny_specialOf P.typeIs F.slot_list_iter.lookup (aR (iD jO (az (cC (FW P (az (cC (Mm q y.size 0 _ _ ⟨_,gQ _ rfl,rfl,rfl⟩ (P.push _) (zG _) λR a f=>?_)))))))));refine iD (jK _) (az (cC (wpAny_pyNext_list_end O a ((P.push _).extBut f.extBut q) (Array.getElem?_eq_none (f8 _)) λp k=>?_)));exact iD jO (aR (U p λb o i e=>k b o i (f.extBut b o i (bM _ e))))
inductive sM:V→List V→Prop
 |t (L):sM (.tup L) L
 |l (L):sM (.lst L) L
theorem sM.do{A:aD}{G:Gh}{s:aw}{v:V}{Y:ai}{L:List V}{U:List ai→aw→Prop}{M:ai→aw→Prop}(u:sM v L)(N:A.handled=ah)(H:HR W w G Z s.heap)(g:VR G.im v Y){k:Nat}(C:L.length=k)(j:∀O B,VRs G.im L O→HR W w G Z B→U O {s with heap:=B}):
  au (av W w) A (tm Y k ah) U M s:=
 sM.casesOn (motive:=λv L F=>VR G.im v Y→L.length=k→(∀O B,VRs G.im L O→HR W w G Z B→U O {s with heap:=B})→au (av W w) A (tm Y k ah) U M s) u (λL g C j=>tX N H g C j)
  (λL g C j=>g.eL λr D p d R=>(dz.trans (R.Zv.trans C))▸GQ N (du H d) λB z=>j p B R (H.ZA λb o e=>z b o (iu (eZ e)) e)) g C j
theorem AG.Zw{O:List ar}{k:Nat}{r:aN}{v:V}{L:List V}{Q:aA→St→Prop}(u:sM v L)(t:O.all cY=ae)(C:L.length=O.length)(h:ic W w J n I S O L Z Q X):AG W w J n I S (.Tuple O k r) v Z Q X:=by
 intro A U G s B M F D g R H E d;refine(?_:au _ _ (do dW r;unpack B (gv O U)) _ _ _);refine az (fG ?_);unfold unpack;rw[(yN O t).1];rw[(yN O t).2];exact az (cC (u.do F.hd D.hr g C λY N g l=>h A U G {s with heap:=N} Y M F ⟨D.top,l,D.er⟩ g _ _ E d))
structure pQ(W:aK)(w:aJ)(J:ay)(n:Nat)(I:Sc)(S:aA)(l:List ar)(L:List V)(Z:St)(R:aA→St→Prop)(X:ak→St→Prop):Prop where
 a:ic W w J n I S l L Z R X
 n:L.length=l.length
 p:l.all cY=ae
theorem zX{Q:QT}(O:List Nat):∀{l:List ar} {L:List V} {S:aA},oG I.names O l=ae→me O L ⟨CC,n,X,S⟩ (λG=>Q G Z)→pQ W w J n I (cl S) l L Z (RT CC n X Q) X:=
 bc (motive:=λO=>∀{l:List ar} {L:List V} {S:aA},oG I.names O l=ae→me O L ⟨CC,n,X,S⟩ (λG=>Q G Z)→pQ W w J n I (cl S) l L Z (RT CC n X Q) X)
  (λ{l L S} B q=>jn B (br (motive:=λL=>me [] L ⟨CC,n,X,S⟩ (λG=>Q G Z)→pQ W w J n I (cl S) [] L Z (RT CC n X Q) X) L (λq=>⟨.Zw (.mk _ _ q),rfl,rfl⟩) (λN N q=>q.elim) q))
  (λi O F {l L S} B q=>hH B λE r h=>k2 h λR H=>br (motive:=λL=>me (i::O) L ⟨CC,n,X,S⟩ (λG=>Q G Z)→pQ W w J n I (cl S) (E::r) L Z (RT CC n X Q) X) L (λq=>q.elim)
   (λv L q=>have z:=F (S:=(i,v)::S) H q;gc (M:=λE=>pQ W w J n I (cl S) (E::r) (v::L) Z (RT CC n X Q) X) R λx p h=>bb (oR h) λa b c=>⟨.Zv (λN=>rfl) (.Zx a b c z.a),congrArg Nat.succ z.n,z.p⟩) q) O
structure Vu(W:aK)(w:aJ)(J:ay)(n:Nat)(I:Sc)(S:aA)(E:ar)(v:V)(Z:St)(R:aA→St→Prop)(X:ak→St→Prop):Prop where
 a:AG W w J n I S E v Z R X
 g:iU E
theorem CJ{E:ar}{D:List Nat}{L:dN}(B:oH L D E=ae):iU E:=(gB.mp B).elim (λh=>eQ (W:=λN=>iU E) h λi h=>gc (M:=iU) h λN N N=>.n λN N=>rfl) λh=>q9 (M:=iU) h λl k p N=>.t l k p rfl
theorem Hn{D:List Nat}{E:ar}{v:V}{Q:QT}(B:oH I.names D E=ae)(d:j9 D v ⟨CC,n,X,S⟩ λG=>Q G Z):AG W w J n I (cl S) E v Z (RT CC n X Q) X:=by
 revert W w J CC n I S Z X D E v Q;apply aX;generalize aT _=W,aL _=w,e9 _=J,e8 _=CC,e7 _=n,e6 _=I,e5 _=S,e4 _=Z,e3 _=X,e2 _=D,e1 _=E,e0 _=v;apply aP;generalize e0 _=Q;intro B d
 exact
   (gB.mp B).elim (λh=>eQ (W:=λD=>j9 D v ⟨CC,n,X,S⟩ (λG=>Q G Z)→AG W w J n I (cl S) E v Z (RT CC n X Q) X) h (λi h d=>Bk h (.mk ((i,v)::S) Z d)) d)
    λh=>q9 h λl k p h=>k2 h λR H=>br (motive:=λD=>j9 D v ⟨CC,n,X,S⟩ (λG=>Q G Z)→oG I.names D l=ae→(!cI D.length 1)=ae→AG W w J n I (cl S) (.Tuple l k p) v Z (RT CC n X Q) X) D (λd N N=>d.elim)
     (λx D=>br (motive:=λD=>j9 (x::D) v ⟨CC,n,X,S⟩ (λG=>Q G Z)→oG I.names (x::D) l=ae→(!cI (x::D).length 1)=ae→AG W w J n I (cl S) (.Tuple l k p) v Z (RT CC n X Q) X) D (λN N h=>aF h)
      (λy D d R N=>jg (C:=λv=>AG W w J n I (cl S) (.Tuple l k p) v Z (RT CC n X Q) X) d (λN h=>h.elim) (λN h=>h.elim) (λL q=>have z:=zX (W:=W) (w:=w) (J:=J) _ R q;.Zw (.t L) z.p z.n z.a)
       (λL q=>have z:=zX (W:=W) (w:=w) (J:=J) _ R q;.Zw (.l L) z.p z.n z.a) λN h=>h.elim)) d R H
end
section
variable{W:aK}{w:aJ}{K:aY}{J:ay}{T:cA}{CC:Nat→CS}
abbrev RC(CC:Nat→CS)(n:Nat)(X:QX)(R:QF):Fl→aA→St→Prop:=λy=>RT CC n X (R y)
abbrev MS(T:cA)(CC:Nat→CS)(W:aK)(w:aJ)(J:ay)(s:Sx):Prop:=∀I,dR T J I→∀S n O Z Q X,Ir T s I.names S=ae→qA T s ⟨CC,n,X,O⟩ Q Z→AX W w J n I (cl O) S Z (RC CC n X Q) X
abbrev gM(T:cA)(CC:Nat→CS)(W:aK)(w:aJ)(J:ay)(s:Sxs):Prop:=∀I,dR T J I→∀l n S Z Q X,oJ T s I.names l=ae→aM T s ⟨CC,n,X,S⟩ Q Z→AS W w J n I (cl S) l Z (RC CC n X Q) X
theorem AX.ZH{n:Nat}{I:Sc}{O:aA}{S:bh}{Z:St}{Q Q' :Fl→aA→St→Prop}{X:ak→St→Prop}(h:AX W w J n I O S Z Q X)(k:∀f O Z,Q f O Z→Q' f O Z):AX W w J n I O S Z Q' X:=
 λA U G s B F D L N E R=>h A U G s B F D L N (λy rfl' H V M u g a b c d=>E y rfl' H V M u g a b c (k _ _ _ d)) R
theorem ID{L:dN}{t:Tg}{g E:ar}{O:aH}:jo T L t g=ae→jF [g] E O=a8 ah:=
 Tg.casesOn (motive:=λt=>jo T L t g=ae→jF [g] E O=a8 ah) t (λi h=>gc (M:=λg=>jF [g] E O=a8 ah) h λN N N=>rfl) (λo m h=>mt (M:=λg=>jF [g] E O=a8 ah) h λN N N N=>rfl) λo i h=>lj (M:=λg=>jF [g] E O=a8 ah) h λN N N N=>rfl
theorem GL{O:List Tg}{Z:List Nat}(h:tW O=ae)(e:tV O=aa Z):Z.Nodup:=by
 unfold tW at h;rw[e]at h;exact of_decide_eq_true h
variable(C:Cx K J)(Y:KT W w K T)(hS:SA W w J T CC)
include hS in
theorem IX{e:Ex}:MS T CC W w J (.expr e):=λI G S n O Z Q X B d=>Io B λE p h=>k2 h λR H=>k2 R λt R=>.ZA ((bK t).sw H _ _) ((hS.e e I G _ n O Z _ X R d).v.Zv λv U q=>.mk O U q)
include hS in
theorem IR{e:Ex}:MS T CC W w J (.ret e):=λI G S n O Z Q X B d=>AV B λo p h=>lh (M:=λo=>AX W w J n I (cl O) (.Return o p) Z (RC CC n X Q) X) h λE h=>.ZI ((hS.e e I G _ n O Z _ X h d).v.Zv λv U q=>.mk O U q)
theorem IQ:MS T CC W w J .ret0:=λI G S n O Z Q X B d=>AV B λo p h=>jV (M:=λo=>AX W w J n I (cl O) (.Return o p) Z (RC CC n X Q) X) h λN=>.ZD (.mk O Z d)
theorem IS:MS T CC W w J .pass:=λI G S n O Z Q X B d=>Ih B λp N=>.ZC (.mk O Z d)
include hS in
theorem I7{i:Nat}{e:Ex}:MS T CC W w J (.aug i e):=by
 revert W w J T CC i e;apply eE;generalize e4 _=W,e3 _=w,e2 _=J,e1 _=T,e0 _=CC;intro hS;apply bF;generalize e1 _=i,e0 _=e
 exact λI G S n O Z Q X B d=>Ip B λg o E p h=>gc (M:=λg=>AX W w J n I (cl O) (.AugAssign g o E p) Z (RC CC n X Q) X) h λx s h=>k4 h λR H L N=>dE (M:=λo=>AX W w J n I (cl O) (.AugAssign (.Name x s) o E p) Z (RC CC n X Q) X) R
   (bb (oR H) λa b c=>aB (BT d) λv V q=>jX (M:=λv=>(i,v)∈cl O→AX W w J n I (cl O) (.AugAssign (.Name x s) .Add E p) Z (RC CC n X Q) X) q (λk q V=>
    .ZF a b c V (n1 L) ((hS.e e I G _ n O Z _ X N q).v.Zv λy U q=>jX (M:=λy=>∃z,oI y aa=aa z∧RC CC n X Q .next (cJ i (.int (k+z)) (cl O)) U) q λj q=>⟨j,rfl,.mk ((i,.int (k+j))::O) U q⟩)) V)
include C Y hS in
theorem IP{t:Tg}{e:Ex}:MS T CC W w J (.set t e):=by
 revert W w K J T CC t e;apply ch;generalize e5 _=W,e4 _=w,e3 _=K,e2 _=J,e1 _=T,e0 _=CC;intro C Y hS;apply bF;generalize e1 _=t,e0 _=e
 exact λI G S n O Z Q X u d=>A7 u λl E p h=>eQ (W:=λl=>AX W w J n I (cl O) (.Assign l E p) Z (RC CC n X Q) X) h λg h=>k4 h λhg H R V=>k2 R λF R=>
   have s:(∀U,lV E (aa g) p.line U=a8 aj)→AX W w J n I (cl O) (.Assign [g] E p) Z (RC CC n X Q) X:=λsw=>.Zx sw (λU=>ID H) (λU=>congrArg (tM Prod.snd) ((bK hg).asg [] U)) ((hS.e e I G _ n O Z _ X R d).v.Zv λv B q=>Ak Y C hS.e G H q)
   (gB.mp V).elim (λV=>(gB.mp V).elim (λV=>s ((bK F).sw V _ _))
   (Tg.casesOn (motive:=λt=>jo T I.names t g=ae→qA T (.set t e) ⟨CC,n,X,O⟩ Q Z→Cu t e=ae→AX W w J n I (cl O) (.Assign [g] E p) Z (RC CC n X Q) X) t
    (λj H d V=>Mv (M:=λe=>dm T e I.names E=ae→qA T (.set (.var j) e) ⟨CC,n,X,O⟩ Q Z→AX W w J n I (cl O) (.Assign [g] E p) Z (RC CC n X Q) X) V (λr z A k cs fr _ u d=>
     gc (M:=λg=>AX W w J n I (cl O) (.Assign [g] E p) Z (RC CC n X Q) X) H λy P h=>bb (oR h) λa b c=>
     uz (M:=λE=>AX W w J n I (cl O) (.Assign [.Name y P] E p) Z (RC CC n X Q) X) u λel g f L h=>AZ (O:=λg=>AX W w J n I (cl O) (.Assign [.Name y P] (.ListComp el g f L) p) Z (RC CC n X Q) X) h λx px N D h=>
     eQ (W:=λA=>qA T (.set (.var j) (.comp r z A k cs fr)) ⟨CC,n,X,O⟩ Q Z→AX W w J n I (cl O) (.Assign [.Name y P] (.ListComp el [⟨.Name x px,N,D,0⟩] f L) p) Z (RC CC n X Q) X) h (λi h d=>k5 h λR H V h4 h5=>k2 H λF H=>
      .Zw (r:=r) (sA (S:=O) R) (bK F).fold a b c ((hS.i k I G _ n O Z _ X H d).Zv λl Vv B q=>⟨q.1,D2 (I:=jR I f) (o9 h5) (EK λv Z q=>.mk ((j,v)::O) Z q) (hS.e z) (hS.l cs) V h4 l [] B q.2⟩)) d) R d)
    (λ_ _ _ _ V=>aF V) (λ_ _ _ _ V=>aF V) H d))
   (Tg.casesOn (motive:=λt=>jo T I.names t g=ae→Cw t=ae→AX W w J n I (cl O) (.Assign [g] E p) Z (RC CC n X Q) X) t (λ_ _ h=>aF h) (λo m H _=>s λU=>mt (M:=λg=>lV E (aa g) p.line U=a8 aj) H λo m q _=>(bK F).swA o m q _ U) (λ_ _ _ h=>aF h) H)
include C Y hS in
theorem IO{O:List Tg}{e:Ex}:MS T CC W w J (.sets O e):=by
 revert W w K J T CC O e;apply ch;generalize e5 _=W,e4 _=w,e3 _=K,e2 _=J,e1 _=T,e0 _=CC;intro C Y hS;apply bF;generalize e1 _=O,e0 _=e
 exact λI G S n Z U Q X N d=>A7 N λl E p h=>eQ (W:=λl=>AX W w J n I (cl Z) (.Assign l E p) U (RC CC n X Q) X) h λg h=>q9 (M:=λg=>AX W w J n I (cl Z) (.Assign [g] E p) U (RC CC n X Q) X) h λl k i h=>k5 h λR H j z A=>k2 R λt R=>bu (Iq O H) λF u=>
   .ZE ((bK t).sw j _ _) (λL b x e c=>(gB.mp (show(!(L.all (tw 8))||L.all (tv 8))=ae from qE (P:=λE=>DU E=ae) e z)).elim (λh=>aF ((n1 h).symm.trans c)) id) (λV=>yN l u)
    ((hS.e e I G _ n Z U _ X R d).v.Zv λv B q=>GV q λL q=>.mk L (q.1.trans F) (Hm Y C hS.e G O H q.2) λV f a s e=>(GW s O H q.2 e).casesOn λm o D y r=>
     ⟨m,D,GL A o,y,r⟩)
include hS in
theorem IU{t:Ex}{b o:Sxs}(i:gM T CC W w J b)(u:gM T CC W w J o):MS T CC W w J (.ife t b o):=λI G S n O Z Q X B d=>Ij B λx y z p h=>k3 h λR H j=>
 .ZG ((hS.e t I G _ n O Z _ X R d).t _ λv U q=>aB (gb q) λc m q=>⟨c,m,bJ (motive:=λc=>Fv (aM T b) (aM T o) ⟨CC,n,X,O⟩ Q U c→AS W w J n I (cl O) (bJ c z y) U (RC CC n X Q) X) c (u I G _ n O U _ X j) (i I G _ n O U _ X H) q⟩)
theorem C5{n:Nat}{X:QX}{R:QF}{a:SW}{j:aA→St→Prop}{y:Fl}{S:aA}{Z:St}(k:∀S Z,a ⟨CC,n,X,S⟩ R Z→j (cl S) Z):RC CC n X (nv a R) y S Z→gP j (RC CC n X R) y S Z:=
 Fl.casesOn (motive:=λy=>RC CC n X (nv a R) y S Z→gP j (RC CC n X R) y S Z) y (λq=>q.casesOn k) id (λq=>q.casesOn k) λN=>id
include hS in
theorem JT{I:Sc}(G:dR T J I){n:Nat}{t:Ex}{b:Sxs}{x:ar}{y:List bh}{Q:QF}{X:QX}(i:gM T CC W w J b)(R:dm T t I.names x=ae)(H:oJ T b I.names y=ae)(k:Nat):∀(S:aA) (Z:St),pW (cm T t) (aM T b) k ⟨CC,n,X,S⟩ Q Z→lT W w J n I x y (RC CC n X Q) X k (cl S) Z:=
 kO (motive:=λk=>∀(S:aA) (Z:St),pW (cm T t) (aM T b) k ⟨CC,n,X,S⟩ Q Z→lT W w J n I x y (RC CC n X Q) X k (cl S) Z) (λ_ _ h=>h.elim) (λk F S Z h=>(hS.e t I G _ n S Z _ X R h).t _ λv U q=>aB (gb q) λc m q=>⟨c,m,
  bJ (motive:=λc=>Fu (aM T b) (pW (cm T t) (aM T b) k) ⟨CC,n,X,S⟩ Q U c→bJ (motive:=λ_=>Prop) c (RC CC n X Q .next (cl S) U) (AS W w J n I (cl S) y U (gP (lT W w J n I x y (RC CC n X Q) X k) (RC CC n X Q)) X)) c (.mk S U) (λq=>(i I G _ n S U _ X H q).Zv λO d f q=>C5 F q) q⟩) k
include hS in
theorem IT{t:Ex}{b:Sxs}(i:gM T CC W w J b):MS T CC W w J (.loop t b):=λI G S n O Z Q X B d=>Ie B λx y p h=>k2 h λR H=>aE d λk U=>.ZB (JT hS G i R H k O Z U)
theorem DJ{I:Sc}(G:dR T J I){n:Nat}{b:Sxs}{y:List bh}{g:ar}{D:List Nat}{O:bV}{Q:QF}{X:QX}(i:gM T CC W w J b)(R:oH I.names D g=ae)(H:oJ T b I.names y=ae)(l:List V):
  ∀(S:aA) (Z:St),ia (aM T b) D O l ⟨CC,n,X,S⟩ Q Z→gq W w J n I g y O (RC CC n X Q) X l (cl S) Z:=
 bc (motive:=λl=>∀(S:aA) (Z:St),ia (aM T b) D O l ⟨CC,n,X,S⟩ Q Z→gq W w J n I g y O (RC CC n X Q) X l (cl S) Z) (λS Z h=>bu (jQ h) λa q=>⟨a,.mk S Z q⟩)
  (λv r F S Z h=>bu (jQ h) λa q=>⟨a,(Hn R q).Zv λU M q=>RT.casesOn (motive:=λU M N=>AS W w J n I U y M (gP (gq W w J n I g y O (RC CC n X Q) X r) (RC CC n X Q)) X) q λc B q=>(i I G _ n c B _ X H q).Zv λL d f q=>C5 F q⟩) l
include hS in
theorem IZ{D:List Nat}{c:It}{b:Sxs}(i:gM T CC W w J b):MS T CC W w J (.each D c b):=by
 revert W w J T CC D c b;apply eE;generalize e4 _=W,e3 _=w,e2 _=J,e1 _=T,e0 _=CC;intro hS;apply bY;generalize e2 _=D,e1 _=c,e0 _=b;intro i
 exact λI G S n O Z Q X B d=>A3 B λg x y p h=>k3 h λR H j=>k2 H λt H=>
   .Zv (CJ R) (bK t).fold ((hS.i c I G _ n O Z _ X H d).Zv λl V U q=>DJ G i R j l O U q.2)
include C hS in
theorem IY{i:Nat}{e:Ex}{b:Sxs}(Z:gM T CC W w J b):MS T CC W w J (.eachD i e b):=by
 revert W w K J T CC i e b;apply ch;generalize e5 _=W,e4 _=w,e3 _=K,e2 _=J,e1 _=T,e0 _=CC;intro C hS;apply bY;generalize e2 _=i,e1 _=e,e0 _=b;intro Z
 exact λI G S n O V Q X B d=>A3 B λg x y p h=>k3 h λR H j=>k2 H λt H=>
   have P:oH I.names [i] g=ae:=gB.mpr (.inl R)
   .Zy C (CJ P) (bK t).fold ((hS.e e I G _ n O V _ X H d).v.Zv λv U q=>o0 q λa l r q=>.mk a l r λL=>(DJ G Z P j _ O _ (q.2 L)).Zv λF M N q=>q.casesOn λO V q=>⟨q.1,.mk O _ q.2⟩)
include C hS in
theorem IV{k m:Ex}(V:XC K)(x:XI K)(o:bG K bp (pS "MachineFault")=aa (aa (.ref 83)))(r:eF K (.ref 83)=ae):MS T CC W w J (.fault k m):=by
 revert W w K J T CC k m;apply ch;generalize e5 _=W,e4 _=w,e3 _=K,e2 _=J,e1 _=T,e0 _=CC;intro C hS;apply bF;generalize e1 _=k,e0 _=m;intro V x o r
 exact λI G S n O Z Q X B d=>Ig B λE p h=>jS (O:=λE=>AX W w J n I (cl O) (.Raise (aa E) ah p) Z (RC CC n X Q) X) h λg l q h=>hG (O:=λg=>AX W w J n I (cl O) (.Raise (aa (.Call g l [] q)) ah p) Z (RC CC n X Q) X) h λy H h=>jm (W:=λl=>AX W w J n I (cl O) (.Raise (aa (.Call (.Name (pS "MachineFault") y) l [] q)) ah p) Z (RC CC n X Q) X) h λa b h=>k2 h λj z=>k2 j λL j=>k2 z λD z=>
   .Zz C V x H o r ((hS.e k I G _ n O Z _ X j d).v.Zv λv U q=>uc q λN q=>⟨N,rfl,(hS.e m I G _ n O U _ X z q).v.Zv λF f q=>uc q λR q=>⟨R,rfl,q.1,q.2⟩⟩) ((bK L).star _) ((bK D).star _)
theorem IM:gM T CC W w J .nil:=λI G l n S Z Q X B d=>jn B (.Zx (.mk S Z d))
theorem IN{s:Sx}{r:Sxs}(O:MS T CC W w J s)(E:gM T CC W w J r):gM T CC W w J (.cons s r):=by
 revert W w J T CC s r;apply dQ;generalize e6 _=W,e5 _=w,e4 _=J,e3 _=T,e2 _=CC,e1 _=s,e0 _=r;intro O E
 exact λI G l n S Z Q X B d=>hH B λx l h=>k2 h λR H=>.Zw ((O I G _ n S Z _ X R d).ZH λy c U=>
   Fl.casesOn (motive:=λy=>RC CC n X (nt (aM T r) Q) y c U→E4 (AS W w J n I c l U (RC CC n X Q) X) (RC CC n X Q) y c U) y (λq=>RT.casesOn (motive:=λc U N=>AS W w J n I c l U (RC CC n X Q) X) q λD k q=>E I G _ n D k _ X H q) id id λN=>id)
theorem Ho(C:Cx K J)(Y:KT W w K T)(h:XC K)(x:XI K)(V:bG K bp (pS "MachineFault")=aa (aa (.ref 83)))(Z:eF K (.ref 83)=ae)
  (B:∀m f L U Q X,CC m f L U Q X→fF W w J m U L f Q X)(b:Sxs):gM T CC W w J b:=
 have hS:=Hr (T:=T) (CC:=CC) C Y h B
 Sxs.rec (motive_1:=MS T CC W w J) (motive_2:=gM T CC W w J) (λM G S n N U Q X R d=>d.elim) (λe=>IX hS) (λt e=>IP C Y hS) (λH e=>IO C Y hS) (λi e=>I7 hS) (λe=>IR hS) IQ IS
  (λt b o O u=>IU hS O u) (λt b O=>IT hS O) (λD c b O=>IZ hS O) (λi e b O=>IY C hS O) (λk m=>IV C hS h x V Z) IM (λs r I E=>IN I E) b
theorem MK{p:Nat×V}{S:aA}:p∈cl S→p∈S:=
 bc (motive:=λS=>p∈cl S→p∈S) id (λq r F h=>(fi.mp h).elim (λe=>e▸ .head _) λh=>.tail _ (F h.1)) S
inductive td(J:ay)(K:aY)(T:cA)(f:ag)(d:Fn):Prop
 |mk (i I):oJ T d.body I.names i=ae→dR T J I→(∀m,m≤d.params.length→d.params.length≤m+d.dflts.length→qa K f i I d.params m (d.dflts.drop (m+d.dflts.length-d.params.length)))→td J K T f d
theorem Hq{a:ag→Option Fn}(C:Cx K J)(Y:KT W w K T)(V:XC K)(x:XI K)(o:bG K bp (pS "MachineFault")=aa (aa (.ref 83)))(r:eF K (.ref 83)=ae)
  (b:∀f d,a f=aa d→td J K T f d):Cl T a λm f L Z Q X=>fF W w J m Z L f Q X where
 enter:=λ{n f d L S Z Q X} B l H=>cL (λS=>aM T d.body ⟨λm f L Z Q X=>fF W w J m Z L f Q X,n,X,S⟩ (aQ Q) Z→fF W w J (n+1) Z L f Q X) l (λc H=>(b f d B).casesOn λi I R u g=>
  .fn C (g _ c.1 c.2) λA O G s j F D=>((Ho C Y V x o r (λm f L Z Q X h=>h) d.body I u i n _ Z _ X R H).Zv (Q' :=λy N M=>sQ Q y M) λy U M=>
   Fl.casesOn (motive:=λy=>RC _ n X (aQ Q) y U M→sQ Q y M) y (λq=>q.casesOn λN N q=>q) (λq=>q.casesOn λN N q=>q) (λq=>q.casesOn λN N q=>q) (λv q=>q.casesOn λN N q=>q)) A O G s j F (D.Zw λp t=>MK t)) H
end
end
section
open PySem PySem.W PyProof.Rows PySem.Calls
def zi(P:List ai→Prop)(n:Nat):Prop:=kO (motive:=λ_=>(List ai→Prop)→Prop) (λP=>P []) (λ_ F P=>∀v,F λL=>P (v::L)) n P
theorem zi.at{n:Nat}:∀{P:List ai→Prop} {O:List ai},zi P n→O.length=n→P O:=
 kO (motive:=λn=>∀{P:List ai→Prop} {O:List ai},zi P n→O.length=n→P O) (λh e=>zS e▸h) (λn F {P O} h e=>
  br (motive:=λO=>O.length=n+1→P O) O (λe=>nomatch e) (λv O e=>F (P:=λL=>P (v::L)) (h v) (zH e)) e) n
noncomputable def xp(d:Data):fZ:=Data.casesOn (motive:=λ_=>fZ) d gT (λ_=>gT) (λ_ _=>gT) (λ_ _=>gT) (λ_ _ _=>gT) (λ_ _=>gT) (λ_=>gT) (λf=>f) (λ_=>gT) (λ_=>gT) gT
noncomputable def xq(K:aY)(f:ag):fZ:=a9 (motive:=λ_=>fZ) (K.lookup f) gT λo=>xp o.data
def nA(K:aY)(f:ag)(d:Fn)(k:Nat):Prop:=zi (λO=>∀S,peek K S (bindArgs (xq K f) ⟨O,[]⟩)=aa ((d.params.map NM).zip (O++bA k .none))) (d.params.length-k)
def qh(K:aY)(f:ag)(d:Fn):Prop:=bc (motive:=λ_=>Prop) (nA K f d 0) (λ_ l F=>nA K f d (l.length+1)∧F) d.dflts
theorem N9{K:aY}{f:ag}{d:Fn}{k:Nat}(h:qh K f d)(U:k≤d.dflts.length):nA K f d k:=by
 revert K f d k;apply dM;generalize e3 _=K,e2 _=f,e1 _=d,e0 _=k;intro h U
 exact
   bc (motive:=λl=>bc (motive:=λN=>Prop) (nA K f d 0) (λN l F=>nA K f d (l.length+1)∧F) l→k≤l.length→nA K f d k) (λh e=>Nat.le_zero.mp e▸h)
    (λN l F h e=>(Nat.lt_or_eq_of_le e).elim (λq=>F h.2 (Nat.le_of_lt_succ q)) λq=>q▸h.1) d.dflts h U
inductive qj(K:aY):List (Nat×Fn)→Prop
 |nil:qj K []
 |cons {a d l}:qh K a d→qj K l→qj K ((a,d)::l)
theorem qj.at{K:aY}{p:Nat×Fn}{l:List (Nat×Fn)}(h:qj K l):p∈l→qh K p.1 p.2:=
 qj.rec (motive:=λl N=>p∈l→qh K p.1 p.2) (λh=>nomatch h) (λb N F h=>(bf.mp h).elim (λe=>e▸b) F) h
theorem KV{x:fZ}{i:List bh}(R:x.body=.stmts i)(H:x.globals=bp)(j:x.closure=[])(z:x.builtins=lY):
  x=fnOf x.name x.qualname x.params i x.scope x.defaults x.kwdefaults x.doc x.pyModule x.annotations x.code x.closureTuple:=by
 revert x i;apply bF;generalize e1 _=x,e0 _=i;intro R H j z
 exact
   have g:∀O e W f,x.body=O→x.globals=e→x.closure=W→x.builtins=f→x=⟨x.name,x.qualname,x.params,O,x.scope,e,W,x.defaults,x.kwdefaults,x.doc,x.pyModule,x.annotations,x.code,x.closureTuple,f⟩:=λN N N N a b c d=>a▸b▸c▸d▸rfl
   g _ _ _ _ R H j z
inductive lQ(J:ay):Prop
 |mk (Q i o):J.Ns bp Q→Q "__builtins__"=aa (.ref i)→i≠lY→i≠bp→J.get? i=aa o→o.cls=.type "module"→o.dict=aa lY→o.data=.plain→lQ J
noncomputable def A4(o:Option aC)(k:fZ→List bh→Bool):Bool:=sO o λo=>dite (o.data.ctorIdx=7) (λh=>Data.func.elim o.data h λx=>dite (x.body.ctorIdx=0) (λh=>tC x.body h λb=>k x b) λ_=>aj) λ_=>aj
inductive qc(o:Option aC)(k:fZ→List bh→Bool):Prop
 |mk (t x b):o=aa t→t.data=.func x→x.body=.stmts b→k x b=ae→qc o k
theorem Im{o:Option aC}{k:fZ→List bh→Bool}(h:A4 o k=ae):qc o k:=
 lh (M:=λH=>o=H→qc o k) h (λH h e=>dn h λq=> @Data.func.elim (λD=>H.data=D→dite (D.ctorIdx=7) (λh=>Data.func.elim D h λx=>dite (x.body.ctorIdx=0) (λh=>tC x.body h λb=>k x b) λN=>aj) (λN=>aj)=ae→qc o k) H.data q
  (λx j h=>dn (show dite (x.body.ctorIdx=0) (λh=>tC x.body h λb=>k x b) (λN=>aj)=ae from h) λq=> @tC (λB=>x.body=B→dite (B.ctorIdx=0) (λh=>tC B h λb=>k x b) (λN=>aj)=ae→qc o k) x.body q (λb C h=>.mk H x b e j C h) rfl h) rfl h) rfl
variable(K:aY)(T:cA)(ts:List ag)
noncomputable def CI(x:fZ):Bool:=nO (iO T x.scope.names) ae||sO (iO T x.scope.names) λe=>x.code== .ref e.1&&codeHdIn K e.1 e.2.1&&(x.qualname++".<locals>."++"<lambda>"==e.2.2)&&ts.contains e.2.1
noncomputable def AA(x:fZ)(d:Fn)(O:List bh):Bool:=x.globals==bp&&x.closure.isEmpty&&x.builtins==lY&&codeIn K x.code x.qualname&&((d.params.all λi=>kQ i cB)&&aO d.params.Nodup&&(d.params.all λi=>x.scope.names.lookup (NM i)==aa .local ||x.scope.names.lookup (NM i)==aa .cell)&&
 (aO ((cellsFrom 0 x.scope.names []).map (·.1)).Nodup&& !x.scope.isCoroutine&& !x.scope.isGenerator&&x.scope.kind== .function&&(oJ T d.body x.scope.names O&&CI K T ts x)))
noncomputable def pO(d:Fn):Bool:=d.dflts.all λv=>V.casesOn (motive_1:=λ_=>Bool) v ae (λ_=>aj) (λ_=>aj) (λ_=>aj) (λ_=>aj) (λ_=>aj) λ_=>aj
noncomputable def C0(f:ag)(d:Fn):Bool:=A4 (K.lookup f) λx b=>pO d&&AA K T ts x d b
variable{K:aY}{T:cA}{ts:List ag}{J:ay}
theorem KC(X:K.In J)(B:lQ J)(G:∀P∈ts,J.get? P=ah∧bp≠P){x:fZ}(h:CI K T ts x=ae):dR T J ⟨x.scope.names,x.code,x.qualname++".<locals>."⟩:=by
 revert K T ts J x;apply dM;generalize e3 _=K,e2 _=T,e1 _=ts,e0 _=J;intro X B G;apply aP;generalize e0 _=x;intro h
 exact
   (gB.mp h).elim (λh=>o9 h) λh c P q e=>by
    refine lh (M:=λo=>iO T x.scope.names=o→_) h (λZ h R=>?_) rfl;cases aI (R.symm.trans e)
    exact k4 h λO H j z=>B.casesOn λQ i o l W A Y w g f a=>have F:=G P (List.contains_iff_mem.mp z)
     ⟨⟨bU O,codeHd_of_K X H,⟨Q,l,i,o,W,A,Y,λq=>aG ((q▸F.1).symm.trans w),w,g,f,a⟩,F.2⟩,bU j⟩
theorem KO(X:K.In J)(B:lQ J)(G:∀P∈ts,J.get? P=ah∧bp≠P){f:ag}{d:Fn}{t:aC}{x:fZ}{b:List bh}(u:K.lookup f=aa t)(g:t.data=.func x)(i:x.body=.stmts b)(h:AA K T ts x d b=ae)
  (k:∀m,m≤d.params.length→d.params.length≤m+d.dflts.length→∃c,VRs (λa=>K.lookup a) (d.dflts.drop (m+d.dflts.length-d.params.length)) c∧∀(s:aw) O,K.In s.heap→O.length=m→BindsTo s x ⟨O,[]⟩ ((d.params.map NM).zip (O++c))):td J K T f d:=by
 revert K T ts J f d t x b;apply dM;generalize e3 _=K,e2 _=T,e1 _=ts,e0 _=J;intro X B G;apply eE;generalize e4 _=f,e3 _=d,e2 _=t,e1 _=x,e0 _=b;intro u g i h k
 exact
   k5 h λR H j z A=>k4 A λW Y l o=>k5 o λp q n r v=>k2 v λw y=>
    .mk b ⟨x.scope.names,x.code,x.qualname++".<locals>."⟩ w (KC X B G y) λm F E=>aB (k m F E) λc S I=>
     have e:=KV i (bU R) (List.isEmpty_iff.mp H) (bU j)
     .mk _ _ _ _ _ _ _ _ _ _ _ _ _ _ c (u.trans (congrArg (λD=>aa (⟨t.cls,t.dict,D,t.slots⟩:aC)) (g.trans (congrArg Data.func e)))) z (λs O Z C=>e▸I s O Z C) S W (of_decide_eq_true Y) l (of_decide_eq_true p) (n1 q) (n1 n) (bU r) rfl
theorem IB{f:ag→Option aC}{L:List V}:pO ⟨[],L,.nil⟩=ae→VRs f L (bA L.length .none):=
 bc (motive:=λL=>pO ⟨[],L,.nil⟩=ae→VRs f L (bA L.length .none)) (λN=>.nil) (λv L F h=>k2 h λa b=>.cons (V.casesOn (motive_1:=λv=>V.casesOn (motive_1:=λN=>Bool) v ae (λN=>aj) (λN=>aj) (λN=>aj) (λN=>aj) (λN=>aj) (λN=>aj)=ae→VR f v .none) v (λN=>.none) (λN h=>aF h) (λN h=>aF h) (λN h=>aF h) (λN h=>aF h) (λN h=>aF h) (λN h=>aF h) a) (F b)) L
theorem IA{L:List V}{j:Nat}(h:pO ⟨[],L,.nil⟩=ae):pO ⟨[],L.drop j,.nil⟩=ae:=dA.mpr λv g=>dA.mp h v (List.mem_of_mem_drop g)
theorem KP(X:K.In J)(B:lQ J)(G:∀P∈ts,J.get? P=ah∧bp≠P){Z:ag}{d:Fn}(h:C0 K T ts Z d=ae)(Q:qh K Z d):td J K T Z d:=by
 revert K T ts J Z d;apply dM;generalize e3 _=K,e2 _=T,e1 _=ts,e0 _=J;intro X B G;apply bF;generalize e1 _=Z,e0 _=d;intro h Q
 exact
   (Im h).casesOn λt x b u S i h=>k2 h λk O=>KO X B G u S i O λm F E=>by
    have e:xq K Z=x:=by unfold xq;exact u▸(congrArg xp S:xp t.data=x)
    have U:(d.dflts.drop (m+d.dflts.length-d.params.length)).length=d.params.length-m:=by rw[List.length_drop];rw[zJ];rw[←Nat.sub_sub_right _ F];rw[Nat.sub_sub_self (Nat.sub_le_of_le_add (zJ m _▸E))]
    have g:=IB (f:=λa=>K.lookup a) (IA (j:=m+d.dflts.length-d.params.length) k);rw[U]at g;exact⟨_,g,λs W X C=>e▸kp_binds X (zi.at (N9 Q (Nat.sub_le_of_le_add (zJ m _▸E))) (C.trans (Nat.sub_sub_self F).symm))⟩
noncomputable def jz:List ak:=[aq "%",aq "&",aq "*",aq "+",aq "-",aq "/",aq "<",aq ">",aq "^",aq "f",aq "g",aq "h",aq "i",aq "|",aq "!=",aq "<<",aq "<=",aq "==",aq ">=",aq ">>",aq "fn",aq "go",aq "i8",aq "u8",aq "adt",aq "box",aq "i16",aq "i32",aq "i64",aq "int",aq "led",aq "may",aq "nop",aq "ref",aq "run",aq "u16",aq "u32",aq "u64",aq "use",aq "Body",aq "adts",aq "args",aq "base",aq "body",aq "bool",aq "call",aq "cast",aq "copy",aq "dead",aq "fits",aq "free",aq "fuel",aq "glue",aq "jobs",aq "kind",aq "late",aq "live",aq "made",aq "many",aq "move",aq "name",aq "pair",aq "push",aq "read",aq "room",aq "sigs",aq "spot",aq "step",aq "tags",aq "Frame",aq "OWNER",aq "Stack",aq "World",aq "after",aq "array",aq "asked",aq "block",aq "boxed",aq "cells",aq "const",aq "deref",aq "enter",aq "exact",aq "field",aq "homes",aq "impls",aq "index",aq "items",aq "known",aq "least",aq "leave",aq "moved",aq "never",aq "parts",aq "place",aq "print",aq "spots",aq "taken",aq "truth",aq "tuple",aq "unary",aq "usize",aq "value",aq "world",aq "write",aq "Memory",aq "Places",aq "UNINIT",aq "assign",aq "binary",aq "blocks",aq "bodies",aq "bounds",aq "consts",aq "filled",aq "frames",aq "inputs",aq "joined",aq "local ",aq "locals",aq "memory",aq "number",aq "of_one",aq "of_two",aq "places",aq "prints",aq "return",aq "shared",aq "stacks",aq "summed",aq "target",aq "traits",aq "uninit",aq "unique",aq "Machine",aq "Rvalues",aq "_law_u8",aq "aliased",aq "body_of",aq "checked",aq "do_call",aq "dropped",aq "home_of",aq "is_enum",aq "is_live",aq "is_told",aq "missing",aq "modules",aq "outcome",aq "pointer",aq "program",aq "rvalues",aq "size_of",aq "spot_of",aq "type_of",aq "wrapped",aq "DropGlue",aq "__init__",aq "_law_one",aq "_law_put",aq "allocate",aq "bound_of",aq "cells_of",aq "compared",aq "division",aq "downcast",aq "greatest",aq "measured",aq "needs_of",aq "read_all",aq "reckoned",aq "retagged",aq "variants",aq "FuelFault",aq "LendError",aq "Selection",aq "TypeFault",aq "_law_done",aq "_law_pair",aq "_law_pool",aq "_law_take",aq "answer_of",aq "arg_count",aq "do_assert",aq "do_switch",aq "fresh_tag",aq "give_back",aq "is_signed",aq "make_home",aq "new_local",aq "put_parts",aq "reference",aq "told_live",aq "write_all",aq "Allocation",aq "MOST_CELLS",aq "MOST_PARTS",aq "TraitFault",aq "_law_cells",aq "_law_taken",aq "candidates",aq "element_of",aq "inner_told",aq "input_rows",aq "live_count",aq "part_types",aq "parts_told",aq "statements",aq "terminator",aq "told_value",aq "variant_of",aq "want_whole",aq "COMPARISONS",aq "_law_stands",aq "allocations",aq "first_place",aq "is_of_parts",aq "MachineFault",aq "_law_machine",aq "_law_operand",aq "_law_setting",aq "discriminant",aq "do_statement",aq "want_variant",aq "_law_reckoned",aq "do_terminator",aq "is_field_seen",aq "measured_anew",aq "uninitialised",aq " has arguments",aq "_law_all_taken",aq "_law_run_right",aq "parts_of_cells",aq "_law_call_right",aq "_law_told_right",aq "offset_of_field",aq "MOST_DEEP_layout",aq " has no cells now",aq "as many inputs as ",aq "nothing is called ",aq "an allocation is freed twice",aq "a write by a shared reference",aq "_law_run_right.<locals>.<lambda>",aq "_law_call_right.<locals>.<lambda>",aq "as many arguments as are told for ",aq "an input that is no value of its type",aq "a reference leads beyond its allocation",aq "a value that was never put there is read",aq "a division by nought that nothing noticed",aq "a variant that was never put there is read",aq "a reference to what is there no more is used",aq "a reference is used that others have made void"]
noncomputable def SM(i:Nat):ak:=jz.getD i (aq "")
noncomputable def hZ:Nat:=252
theorem Oy:(mI (jz.map mV)&&cI jz.length hZ)=ae:=by decide+kernel
theorem E7{i j:Nat}(f:i<hZ)(O:j<hZ)(h:i≠j):SM i≠SM j:=by
 obtain⟨R,H⟩:=cj.mp Oy;have C:jz.length=hZ:=gA H
 have c:∀k,k<hZ→(jz.map mV)[k]? =aa (mV (SM k)):=λk U=>by
  rw[jf,l7 (C▸U)];unfold SM;rw[zQ,l7 (C▸U)];rfl
 intro e;exact h (w6 R i j _ (c i f) (e▸c j O))
theorem Oz(i j:Nat)(f:kQ i hZ=ae)(O:kQ j hZ=ae):(SM i==SM j)=cI i j:=by
 have f:=gz f;have O:=gz O;cases q:cI i j with
 |true=>rw[gA q];exact beq_self_eq_true _
 |false=>exact beq_eq_false_iff_ne.mpr (E7 f O (zI q))
noncomputable section
noncomputable def xl:Fn:=⟨[34],[],(.cons (.ret (.cmp .eq (.sub (.var 34) (.int 0)) (.str (SM 12)))) .nil)⟩
noncomputable def C1:Fn:=⟨[34],[],(.cons (.ret (.ite (.call (SM 187) 105 (.cons (.var 34) .nil)) (.bin .sub (.int 0) (.bin .pow (.int 2) (.bin .sub (.bits (.var 34)) (.int 1)))) (.int 0))) .nil)⟩
noncomputable def C8:Fn:=⟨[34],[],(.cons (.ret (.ite (.call (SM 187) 105 (.cons (.var 34) .nil)) (.bin .sub (.bin .pow (.int 2) (.bin .sub (.bits (.var 34)) (.int 1))) (.int 1)) (.bin .sub (.bin .pow (.int 2) (.bits (.var 34))) (.int 1)))) .nil)⟩
noncomputable def C9:Fn:=⟨[34,96],[],(.cons (.ret (.chain .le (.call (SM 89) 112 (.cons (.var 34) .nil)) (.var 96) .le (.call (SM 166) 119 (.cons (.var 34) .nil)))) .nil)⟩
noncomputable def CP:Fn:=⟨[34,96],[],(.cons (.set (.var 11) (.call (SM 89) 112 (.cons (.var 34) .nil))) (.cons (.ret (.bin .add (.var 11) (.bin .mod (.bin .sub (.var 96) (.var 11)) (.bin .pow (.int 2) (.bits (.var 34)))))) .nil))⟩
noncomputable def xo:Fn:=⟨[6,1,2],[],(.cons (.ife (.cmp .eq (.var 6) (.str (SM 3))) (.cons (.ret (.bin .add (.var 1) (.var 2))) .nil) .nil) (.cons (.ife (.cmp .eq (.var 6) (.str (SM 4))) (.cons .skip .nil) .nil) (.cons (.ife (.cmp .eq (.var 6) (.str (SM 2))) (.cons .skip .nil) .nil) (.cons (.ife (.cmp .eq (.var 6) (.str (SM 1))) (.cons .skip .nil) .nil) (.cons (.ife (.cmp .eq (.var 6) (.str (SM 13))) (.cons .skip .nil) .nil) (.cons (.ife (.cmp .eq (.var 6) (.str (SM 8))) (.cons .skip .nil) .nil) (.cons (.ife (.cmp .notIn (.var 6) (.tup (.cons (.str (SM 5)) (.cons (.str (SM 0)) .nil)))) (.cons .skip .nil) .nil) (.cons (.ife (.cmp .eq (.var 2) (.int 0)) (.cons .skip .nil) .nil) (.cons .skip .nil)))))))))⟩
noncomputable def xt:Fn:=⟨[34,6,1,2],[],(.cons (.ife (.cmp .in_ (.var 6) (.tup (.cons (.str (SM 15)) (.cons (.str (SM 19)) .nil)))) (.cons .skip .nil) .nil) (.cons (.set (.var 60) (.call (SM 82) 154 (.cons (.var 6) (.cons (.var 1) (.cons (.var 2) .nil))))) (.cons (.ife (.cmp .is_ (.var 60) .none) (.cons .skip .nil) .nil) (.cons (.ife (.and3 (.cmp .eq (.var 6) (.str (SM 0))) (.cmp .eq (.var 2) (.neg 1)) (.call (SM 187) 105 (.cons (.var 34) .nil))) (.cons .skip .nil) .nil) (.cons (.ret (.tup (.cons (.call (SM 155) 133 (.cons (.var 34) (.cons (.var 60) .nil))) (.cons (.not (.call (SM 49) 126 (.cons (.var 34) (.cons (.var 60) .nil)))) .nil)))) .nil)))))⟩
noncomputable def xr:Fn:=⟨[6,1,2],[],(.cons (.ife (.cmp .eq (.var 6) (.str (SM 17))) (.cons .skip .nil) .nil) (.cons (.ife (.cmp .eq (.var 6) (.str (SM 14))) (.cons .skip .nil) .nil) (.cons (.ife (.cmp .eq (.var 6) (.str (SM 6))) (.cons (.ret (.cmp .lt (.var 1) (.var 2))) .nil) .nil) (.cons (.ife (.cmp .eq (.var 6) (.str (SM 16))) (.cons .skip .nil) .nil) (.cons (.ife (.cmp .eq (.var 6) (.str (SM 7))) (.cons .skip .nil) .nil) (.cons (.ife (.cmp .eq (.var 6) (.str (SM 18))) (.cons .skip .nil) .nil) (.cons .skip .nil)))))))⟩
noncomputable def CU:Fn:=⟨[51,85],[],(.cons (.ret (.sub (.call (SM 167) 277 (.cons (.var 51) (.cons (.var 85) (.cons (.int 0) (.cons .dictK .nil))))) (.int 0))) .nil)⟩
noncomputable def mQ:Fn:=⟨[51,85,23,66],[],(.cons (.ife (.cmp .in_ (.sub (.var 51) (.int 0)) (.tup (.cons (.str (SM 29)) (.cons (.str (SM 44)) (.cons (.str (SM 33)) (.cons (.str (SM 25)) .nil)))))) (.cons (.ret (.tup (.cons (.int 1) (.cons (.int 1) .nil)))) .nil) .nil) (.cons (.ife (.cmp .eq (.sub (.var 51) (.int 0)) (.str (SM 92))) (.cons .skip .nil) .nil) (.cons (.ife (.cmp .notIn (.var 51) (.var 66)) (.cons (.ife (.cmp .ge (.var 23) (.glob (SM 236))) (.cons .skip .nil) .nil) (.cons (.set (.sub (.var 66) (.var 51)) .none) (.cons (.set (.sub (.var 66) (.var 51)) (.call (SM 227) 282 (.cons (.var 51) (.cons (.var 85) (.cons (.bin .add (.var 23) (.int 1)) (.cons (.var 66) .nil)))))) .nil))) .nil) (.cons (.ife (.cmp .is_ (.sub (.var 66) (.var 51)) .none) (.cons .skip .nil) .nil) (.cons (.ife (.cmp .gt (.sub (.sub (.var 66) (.var 51)) (.int 1)) (.glob (SM 196))) (.cons .skip .nil) .nil) (.cons (.ret (.sub (.var 66) (.var 51))) .nil))))))⟩
noncomputable def r6:Fn:=⟨[51,85,23,66],[],(.cons (.ife (.cmp .eq (.sub (.var 51) (.int 0)) (.str (SM 99))) (.cons (.ret (.call (SM 129) 289 (.cons (.sub (.var 51) (.int 1)) (.cons (.var 85) (.cons (.var 23) (.cons (.var 66) .nil)))))) .nil) .nil) (.cons (.ife (.cmp .eq (.sub (.var 51) (.int 0)) (.str (SM 74))) (.cons .skip (.cons .skip .nil)) .nil) (.cons (.ife (.cmp .ne (.sub (.var 51) (.int 0)) (.str (SM 24))) (.cons .skip .nil) .nil) (.cons .skip (.cons (.each [123] (.range (.blt .len (.attr (.var 60) (SM 172)))) (.cons .skip .nil)) (.cons (.ife (.not (.attr (.var 60) (SM 143))) (.cons .skip .nil) .nil) (.cons .skip .nil)))))))⟩
noncomputable def r4:Fn:=⟨[83,85,23,66],[],(.cons (.sets [(.var 58),(.var 73)] (.tup (.cons (.int 0) (.cons (.int 1) .nil)))) (.cons (.each [51] (.seq (.var 83)) (.cons (.set (.var 14) (.call (SM 167) 277 (.cons (.var 51) (.cons (.var 85) (.cons (.var 23) (.cons (.var 66) .nil)))))) (.cons (.sets [(.var 58),(.var 73)] (.tup (.cons (.bin .add (.var 58) (.sub (.var 14) (.int 0))) (.cons (.bin .add (.var 73) (.sub (.var 14) (.int 1))) .nil)))) .nil))) (.cons (.ret (.tup (.cons (.var 58) (.cons (.var 73) .nil)))) .nil)))⟩
noncomputable def xf:Fn:=⟨[51,123,85],[],(.cons (.ife (.cmp .eq (.sub (.var 51) (.int 0)) (.str (SM 99))) (.cons (.ret (.blt .list_ (.sub (.var 51) (.int 1)))) .nil) .nil) (.cons .skip .nil))⟩
noncomputable def xn:Fn:=⟨[51,85],[],(.cons (.ret (.ite (.and (.cmp .eq (.sub (.var 51) (.int 0)) (.str (SM 24))) (.attr (.sub (.attr (.var 85) (SM 40)) (.sub (.var 51) (.int 1))) (SM 143))) (.int 1) (.int 0))) .nil)⟩
noncomputable def CZ:Fn:=⟨[51,123,96,85],[],(.cons (.set (.var 83) (.call (SM 205) 294 (.cons (.var 51) (.cons (.var 123) (.cons (.var 85) .nil))))) (.cons (.ret (.bin .add (.call (SM 215) 301 (.cons (.var 51) (.cons (.var 85) .nil))) (.blt .sum_ (.comp aj (.call (SM 152) 270 (.cons (.var 12) (.cons (.var 85) .nil))) [12] (.seq (.slice (.var 83) .none (.var 96))) .nil [85])))) .nil))⟩
noncomputable def xz:Fn:=⟨[44,16],[],(.cons (.set (.attr (.var 44) (SM 87)) (.listF (.cons (.tup (.cons (.var 16) (.cons (.str (SM 133)) .nil))) .nil))) .nil)⟩
noncomputable def xy:Fn:=⟨[44,16],[],(.cons (.each [5] (.range3 (.bin .sub (.blt .len (.attr (.var 44) (SM 87))) (.int 1)) (.neg 1) (.neg 1)) (.cons (.ife (.cmp .eq (.sub (.sub (.attr (.var 44) (SM 87)) (.var 5)) (.int 0)) (.var 16)) (.cons (.ret (.var 5)) .nil) .nil) .nil)) (.cons (.fault (.str (SM 137)) (.str (SM 251))) .nil))⟩
noncomputable def xx:Fn:=⟨[44,16],[],(.cons (.set (.var 5) (.meth (.var 44) (SM 94) (.cons (.var 16) .nil))) (.cons (.set (.var 33) (.comp aj (.var 14) [14] (.seq (.slice (.attr (.var 44) (SM 87)) (.bin .add (.var 5) (.int 1)) .none)) (.cons (.cmp .ne (.sub (.var 14) (.int 1)) (.str (SM 133))) .nil) [])) (.cons (.set (.attr (.var 44) (SM 87)) (.bin .add (.slice (.attr (.var 44) (SM 87)) .none (.bin .add (.var 5) (.int 1))) (.var 33))) .nil)))⟩
noncomputable def xw:Fn:=⟨[44,16],[],(.cons (.set (.var 5) (.meth (.var 44) (SM 94) (.cons (.var 16) .nil))) (.cons (.ife (.cmp .eq (.sub (.sub (.attr (.var 44) (SM 87)) (.var 5)) (.int 1)) (.str (SM 127))) (.cons (.fault (.str (SM 137)) (.str (SM 241))) .nil) .nil) (.cons (.set (.attr (.var 44) (SM 87)) (.bin .add (.slice (.attr (.var 44) (SM 87)) .none (.var 5)) (.listF (.cons (.tup (.cons (.var 16) (.cons (.str (SM 133)) .nil))) .nil)))) .nil)))⟩
noncomputable def CY:Fn:=⟨[137,97,16],[],(.cons (.ret (.tup (.cons (.str (SM 149)) (.cons (.var 137) (.cons (.var 97) (.cons (.var 16) .nil)))))) .nil)⟩
noncomputable def xh:Fn:=⟨[74,37],[],(.cons (.ret (.tup (.cons (.str (SM 149)) (.cons (.sub (.var 74) (.int 1)) (.cons (.bin .add (.sub (.var 74) (.int 2)) (.var 37)) (.cons (.sub (.var 74) (.int 3)) .nil)))))) .nil)⟩
noncomputable def Di:Fn:=⟨[44,45],[],(.cons (.set (.attr (.var 44) (SM 78)) (.mulM (.listF (.cons (.glob (SM 107)) .nil)) (.var 45))) (.cons (.set (.attr (.var 44) (SM 128)) (.comp aj (.new (SM 71) 370 (.cons (.glob (SM 70)) .nil)) [5] (.range (.var 45)) .nil [])) (.cons (.set (.attr (.var 44) (SM 144)) (.bool ae)) .nil)))⟩
noncomputable def Da:Fn:=⟨[44],[],(.cons (.set (.attr (.var 44) (SM 214)) (.listM .nil)) (.cons (.set (.attr (.var 44) (SM 58)) (.int 0)) (.cons (.set (.attr (.var 44) (SM 68)) (.int 0)) .nil)))⟩
noncomputable def xM:Fn:=⟨[44,45],[],(.cons (.ife (.cmp .gt (.bin .add (.attr (.var 44) (SM 58)) (.var 45)) (.glob (SM 195))) (.cons .skip .nil) .nil) (.cons (.set (.attr (.var 44) (SM 58)) (.bin .add (.attr (.var 44) (SM 58)) (.var 45))) (.cons (.expr (.append (.attr (.var 44) (SM 214)) (.new (SM 194) 404 (.cons (.var 45) .nil)))) (.cons (.ret (.bin .sub (.blt .len (.attr (.var 44) (SM 214))) (.int 1))) .nil))))⟩
noncomputable def Db:Fn:=⟨[44,96],[],(.cons (.ret (.call (SM 149) 382 (.cons (.var 96) (.cons (.int 0) (.cons (.glob (SM 70)) .nil))))) .nil)⟩
noncomputable def xK:Fn:=⟨[44,96],[],(.cons (.ret (.and (.chain .le (.int 0) (.var 96) .lt (.blt .len (.attr (.var 44) (SM 214)))) (.attr (.sub (.attr (.var 44) (SM 214)) (.var 96)) (SM 144)))) .nil)⟩
noncomputable def xJ:Fn:=⟨[44],[],(.cons (.ret (.blt .len (.comp aj (.var 12) [12] (.seq (.attr (.var 44) (SM 214))) (.cons (.attr (.var 12) (SM 144)) .nil) []))) .nil)⟩
noncomputable def xL:Fn:=⟨[44,96],[],(.cons (.ife (.not (.meth (.var 44) (SM 144) (.cons (.var 96) .nil))) (.cons (.fault (.str (SM 141)) (.str (SM 240))) .nil) .nil) (.cons (.set (.var 29) (.sub (.attr (.var 44) (SM 214)) (.var 96))) (.cons (.set (.attr (.var 44) (SM 58)) (.bin .sub (.attr (.var 44) (SM 58)) (.blt .len (.attr (.var 29) (SM 78))))) (.cons (.sets [(.attr (.var 29) (SM 144)),(.attr (.var 29) (SM 78)),(.attr (.var 29) (SM 128))] (.tup (.cons (.bool aj) (.cons (.listF .nil) (.cons (.listF .nil) .nil))))) .nil))))⟩
noncomputable def xH:Fn:=⟨[44,74,45],[],(.cons (.ife (.not (.meth (.var 44) (SM 144) (.cons (.sub (.var 74) (.int 1)) .nil))) (.cons (.fault (.str (SM 141)) (.str (SM 250))) .nil) .nil) (.cons (.set (.var 60) (.sub (.attr (.var 44) (SM 214)) (.sub (.var 74) (.int 1)))) (.cons (.ife (.or (.cmp .lt (.sub (.var 74) (.int 2)) (.int 0)) (.cmp .gt (.bin .add (.sub (.var 74) (.int 2)) (.var 45)) (.blt .len (.attr (.var 60) (SM 78))))) (.cons (.fault (.str (SM 112)) (.str (SM 246))) .nil) .nil) (.cons (.ret (.var 60)) .nil))))⟩
noncomputable def xI:Fn:=⟨[44,74],[],(.cons (.set (.var 60) (.meth (.var 44) (SM 64) (.cons (.var 74) (.cons (.int 1) .nil)))) (.cons (.expr (.meth (.sub (.attr (.var 60) (SM 128)) (.sub (.var 74) (.int 2))) (SM 63) (.cons (.sub (.var 74) (.int 3)) .nil))) (.cons (.ret (.sub (.attr (.var 60) (SM 78)) (.sub (.var 74) (.int 2)))) .nil)))⟩
noncomputable def xG:Fn:=⟨[44,74,84],[],(.cons (.set (.var 60) (.meth (.var 44) (SM 64) (.cons (.var 74) (.cons (.int 1) .nil)))) (.cons (.expr (.meth (.sub (.attr (.var 60) (SM 128)) (.sub (.var 74) (.int 2))) (SM 104) (.cons (.sub (.var 74) (.int 3)) .nil))) (.cons (.set (.sub (.attr (.var 60) (SM 78)) (.sub (.var 74) (.int 2))) (.var 84)) .nil)))⟩
noncomputable def sb:Fn:=⟨[44,74,45],[],(.cons (.ret (.comp aj (.meth (.var 44) (SM 63) (.cons (.call (SM 91) 389 (.cons (.var 74) (.cons (.var 5) .nil))) .nil)) [5] (.range (.var 45)) .nil [44,74])) .nil)⟩
noncomputable def r9:Fn:=⟨[44,74,110],[],(.cons (.each [5] (.range (.blt .len (.var 110))) (.cons (.expr (.meth (.var 44) (SM 104) (.cons (.call (SM 91) 389 (.cons (.var 74) (.cons (.var 5) .nil))) (.cons (.sub (.var 110) (.var 5)) .nil)))) .nil)) .nil)⟩
noncomputable def xm:Fn:=⟨[4,85],[],(.cons (.ret (.and (.cmp .eq (.sub (.var 4) (.int 0)) (.str (SM 24))) (.attr (.sub (.attr (.var 85) (SM 40)) (.sub (.var 4) (.int 1))) (SM 143)))) .nil)⟩
noncomputable def xd:Fn:=⟨[4,123,85],[],(.cons (.ife (.cmp .eq (.sub (.var 4) (.int 0)) (.str (SM 99))) (.cons (.ret (.blt .list_ (.sub (.var 4) (.int 1)))) .nil) .nil) (.cons (.ife (.cmp .eq (.sub (.var 4) (.int 0)) (.str (SM 74))) (.cons .skip .nil) .nil) (.cons .skip .nil)))⟩
noncomputable def ph:Fn:=⟨[4],[],(.cons (.ret (.cmp .in_ (.sub (.var 4) (.int 0)) (.tup (.cons (.str (SM 99)) (.cons (.str (SM 74)) (.cons (.str (SM 24)) .nil)))))) .nil)⟩
noncomputable def xe:Fn:=⟨[4,58,85],[],(.cons (.sets [(.var 123),(.var 5)] (.tup (.cons .none (.cons (.int 0) .nil)))) (.cons (.ife (.call (SM 143) 523 (.cons (.var 4) (.cons (.var 85) .nil))) (.cons .skip .nil) .nil) (.cons (.set (.var 60) (.listM .nil)) (.cons (.each [25] (.seq (.call (SM 206) 528 (.cons (.var 4) (.cons (.var 123) (.cons (.var 85) .nil))))) (.cons (.set (.var 37) (.call (SM 152) 270 (.cons (.var 25) (.cons (.var 85) .nil)))) (.cons (.expr (.append (.var 60) (.slice (.var 58) (.var 5) (.bin .add (.var 5) (.var 37))))) (.cons (.aug 5 (.var 37)) .nil)))) (.cons (.ret (.tup (.cons (.var 123) (.cons (.freeze (.var 60)) .nil)))) .nil)))))⟩
noncomputable def CQ:Fn:=⟨[4,58,85],[],(.cons (.ife (.not (.call (SM 216) 535 (.cons (.var 4) .nil))) (.cons (.ife (.or (.cmp .eq (.sub (.var 4) (.int 0)) (.str (SM 92))) (.cmp .eq (.sub (.var 58) (.int 0)) (.glob (SM 107)))) (.cons (.fault (.str (SM 228)) (.str (SM 247))) .nil) .nil) (.cons .ret0 .nil)) .nil) (.cons (.ife (.and (.call (SM 143) 523 (.cons (.var 4) (.cons (.var 85) .nil))) (.cmp .eq (.sub (.var 58) (.int 0)) (.glob (SM 107)))) (.cons (.fault (.str (SM 228)) (.str (SM 249))) .nil) .nil) (.cons (.sets [(.var 123),(.var 42)] (.call (SM 232) 542 (.cons (.var 4) (.cons (.var 58) (.cons (.var 85) .nil))))) (.cons (.set (.var 136) (.call (SM 206) 528 (.cons (.var 4) (.cons (.var 123) (.cons (.var 85) .nil))))) (.cons (.each [3] (.range (.blt .len (.var 42))) (.cons (.expr (.call (SM 211) 549 (.cons (.sub (.var 136) (.var 3)) (.cons (.sub (.var 42) (.var 3)) (.cons (.var 85) .nil))))) .nil)) .nil)))))⟩
noncomputable def C7:Fn:=⟨[4,84,85],[],(.cons (.set (.var 35) (.listM (.cons (.tup (.cons (.var 4) (.cons (.var 84) .nil))) .nil))) (.cons (.loop (.cmp .ne (.var 35) (.listF .nil)) (.cons (.sets [(.var 30),(.var 51)] (.pop (.var 35))) (.cons (.set (.var 63) (.call (SM 202) 563 (.cons (.var 30) (.cons (.var 51) (.cons (.var 85) .nil))))) (.cons (.ife (.cmp .is_ (.var 63) .none) (.cons .skip .nil) .nil) (.cons (.expr (.extend (.var 35) (.var 63))) .nil))))) (.cons (.ret (.bool ae)) .nil)))⟩
noncomputable def r7:Fn:=⟨[4,84,85],[],(.cons (.ife (.cmp .eq (.sub (.var 4) (.int 0)) (.str (SM 44))) (.cons (.ret (.ite (.blt .isBool (.var 84)) (.listF .nil) .none)) .nil) .nil) (.cons (.ife (.cmp .eq (.sub (.var 4) (.int 0)) (.str (SM 29))) (.cons (.set (.var 127) (.and (.blt .isInt (.var 84)) (.not (.blt .isBool (.var 84))))) (.cons (.ret (.ite (.and (.var 127) (.call (SM 49) 126 (.cons (.sub (.var 4) (.int 1)) (.cons (.var 84) .nil)))) (.listF .nil) .none)) .nil)) .nil) (.cons (.ife (.not (.blt .isTuple (.var 84))) (.cons .skip .nil) .nil) (.cons (.ife (.cmp .in_ (.sub (.var 4) (.int 0)) (.tup (.cons (.str (SM 99)) (.cons (.str (SM 74)) .nil)))) (.cons .skip .nil) .nil) (.cons (.ife (.cmp .ne (.blt .len (.var 84)) (.int 2)) (.cons .skip .nil) .nil) (.cons (.ife (.cmp .eq (.sub (.var 4) (.int 0)) (.str (SM 25))) (.cons .skip .nil) .nil) (.cons (.ife (.or (.cmp .ne (.sub (.var 4) (.int 0)) (.str (SM 24))) (.not (.blt .isTuple (.sub (.var 84) (.int 1))))) (.cons .skip .nil) .nil) (.cons .skip (.cons .skip .nil)))))))))⟩
noncomputable def xu:Fn:=⟨[4,84,85,94],[.none],(.cons (.sets [(.var 24),(.var 35)] (.tup (.cons (.listM .nil) (.cons (.listM (.cons (.tup (.cons (.str (SM 102)) (.cons (.var 4) (.cons (.var 84) .nil)))) .nil)) .nil)))) (.cons (.loop (.cmp .ne (.var 35) (.listF .nil)) (.cons (.sets [(.var 53),(.var 30),(.var 51)] (.pop (.var 35))) (.cons (.ife (.cmp .eq (.var 53) (.str (SM 77))) (.cons .skip (.cons .skip (.cons .skip (.cons .skip .nil)))) (.cons (.ife (.cmp .eq (.var 53) (.str (SM 93))) (.cons (.set (.var 42) (.rev (.comp aj (.pop (.var 24)) [3] (.range (.sub (.var 51) (.int 1))) .nil [24]))) (.cons (.expr (.append (.var 24) (.ite (.cmp .eq (.sub (.var 30) (.int 0)) (.str (SM 24))) (.call (SM 114) 588 (.cons (.var 30) (.cons (.sub (.var 51) (.int 0)) (.cons (.var 42) (.cons (.var 85) .nil))))) (.call (SM 117) 581 (.cons (.var 42) .nil))))) .nil)) (.cons (.ife (.and (.cmp .eq (.sub (.var 30) (.int 0)) (.str (SM 25))) (.cmp .isNot (.var 94) .none)) (.cons .skip (.cons .skip .nil)) (.cons (.ife (.not (.call (SM 216) 535 (.cons (.var 30) .nil))) (.cons (.expr (.append (.var 24) (.listF (.cons (.var 51) .nil)))) .nil) (.cons (.sets [(.var 123),(.var 110)] (.ite (.cmp .eq (.sub (.var 30) (.int 0)) (.str (SM 24))) (.var 51) (.tup (.cons .none (.cons (.var 51) .nil))))) (.cons (.set (.var 136) (.call (SM 206) 528 (.cons (.var 30) (.cons (.var 123) (.cons (.var 85) .nil))))) (.cons (.expr (.append (.var 35) (.tup (.cons (.str (SM 93)) (.cons (.var 30) (.cons (.tup (.cons (.var 123) (.cons (.blt .len (.var 136)) .nil))) .nil)))))) (.cons (.expr (.extend (.var 35) (.comp aj (.tup (.cons (.str (SM 102)) (.cons (.sub (.var 136) (.var 3)) (.cons (.sub (.var 110) (.var 3)) .nil)))) [3] (.range3 (.bin .sub (.blt .len (.var 136)) (.int 1)) (.neg 1) (.neg 1)) .nil [110,136]))) .nil))))) .nil)) .nil)) .nil)) .nil))) (.cons (.ret (.sub (.var 24) (.int 0))) .nil)))⟩
noncomputable def C6:Fn:=⟨[42],[],(.cons (.set (.var 60) (.listM .nil)) (.cons (.each [14] (.seq (.var 42)) (.cons (.expr (.extend (.var 60) (.var 14))) .nil)) (.cons (.ret (.freeze (.var 60))) .nil)))⟩
noncomputable def CR:Fn:=⟨[4,58,85,94],[],(.cons (.sets [(.var 24),(.var 35)] (.tup (.cons (.listM .nil) (.cons (.listM (.cons (.tup (.cons (.str (SM 102)) (.cons (.var 4) (.cons (.var 58) .nil)))) .nil)) .nil)))) (.cons (.loop (.cmp .ne (.var 35) (.listF .nil)) (.cons (.sets [(.var 53),(.var 30),(.var 14)] (.pop (.var 35))) (.cons (.ife (.cmp .eq (.var 53) (.str (SM 30))) (.cons .skip .nil) (.cons (.ife (.cmp .eq (.var 53) (.str (SM 93))) (.cons (.set (.var 110) (.blt .tuple_ (.rev (.comp aj (.pop (.var 24)) [3] (.range (.sub (.var 14) (.int 1))) .nil [24])))) (.cons (.expr (.append (.var 24) (.ite (.cmp .ne (.sub (.var 30) (.int 0)) (.str (SM 24))) (.var 110) (.tup (.cons (.sub (.var 14) (.int 0)) (.cons (.var 110) .nil)))))) .nil)) (.cons (.ife (.cmp .in_ (.sub (.var 30) (.int 0)) (.tup (.cons (.str (SM 25)) (.cons (.str (SM 33)) .nil)))) (.cons .skip (.cons .skip (.cons .skip .nil))) (.cons (.ife (.not (.call (SM 216) 535 (.cons (.var 30) .nil))) (.cons (.expr (.append (.var 24) (.sub (.var 14) (.int 0)))) .nil) (.cons (.sets [(.var 123),(.var 42)] (.call (SM 232) 542 (.cons (.var 30) (.cons (.var 14) (.cons (.var 85) .nil))))) (.cons (.set (.var 136) (.call (SM 206) 528 (.cons (.var 30) (.cons (.var 123) (.cons (.var 85) .nil))))) (.cons (.expr (.append (.var 35) (.tup (.cons (.str (SM 93)) (.cons (.var 30) (.cons (.tup (.cons (.ite (.cmp .is_ (.var 123) .none) (.int 0) (.var 123)) (.cons (.blt .len (.var 42)) .nil))) .nil)))))) (.cons (.expr (.extend (.var 35) (.comp aj (.tup (.cons (.str (SM 102)) (.cons (.sub (.var 136) (.var 3)) (.cons (.sub (.var 42) (.var 3)) .nil)))) [3] (.range3 (.bin .sub (.blt .len (.var 42)) (.int 1)) (.neg 1) (.neg 1)) .nil [42,136]))) .nil))))) .nil)) .nil)) .nil)) .nil))) (.cons (.ret (.sub (.var 24) (.int 0))) .nil)))⟩
noncomputable def yd:Fn:=⟨[44,100],[],(.cons (.set (.attr (.var 44) (SM 124)) (.var 100)) (.cons (.set (.attr (.var 44) (SM 103)) (.attr (.var 100) (SM 103))) .nil))⟩
noncomputable def w9:Fn:=⟨[4,6,1,2],[],(.cons (.sets [(.var 84),(.var 112)] (.call (SM 139) 161 (.cons (.sub (.var 4) (.int 1)) (.cons (.var 6) (.cons (.var 1) (.cons (.var 2) .nil)))))) (.cons (.ife (.cmp .is_ (.var 84) .none) (.cons (.fault (.str (SM 164)) (.str (SM 248))) .nil) .nil) (.cons (.ret (.tup (.cons (.var 84) (.cons (.var 112) .nil)))) .nil)))⟩
noncomputable def xF:Fn:=⟨[44,94,85],[],(.cons (.set (.attr (.var 44) (SM 120)) (.var 94)) (.cons (.set (.attr (.var 44) (SM 103)) (.var 85)) .nil))⟩
noncomputable def po:Fn:=⟨[44,61,67],[],(.cons (.ife (.cmp .notIn (.var 67) (.attr (.var 61) (SM 84))) (.cons (.fault (.str (SM 141)) (.bin .add (.bin .add (.str (SM 118)) (.blt .str_ (.var 67))) (.str (SM 237)))) .nil) .nil) (.cons (.ret (.meth (.attr (.var 44) (SM 120)) (SM 42) (.cons (.sub (.attr (.var 61) (SM 84)) (.var 67)) .nil))) .nil))⟩
noncomputable def j2:Fn:=⟨[44,61,74],[],(.cons (.sets [(.var 67),(.var 78)] (.var 74)) (.cons (.sets [(.var 118),(.var 4),(.var 123)] (.tup (.cons (.meth (.var 44) (SM 142) (.cons (.var 61) (.cons (.var 67) .nil))) (.cons (.sub (.sub (.attr (.attr (.var 61) (SM 43)) (SM 119)) (.var 67)) (.int 0)) (.cons .none .nil))))) (.cons (.each [49] (.seq (.var 78)) (.cons (.ife (.cmp .eq (.sub (.var 49) (.int 0)) (.str (SM 165))) (.cons .skip (.cons .skip .nil)) (.cons (.ife (.cmp .eq (.sub (.var 49) (.int 0)) (.str (SM 83))) (.cons (.set (.var 118) (.call (SM 91) 389 (.cons (.var 118) (.cons (.call (SM 235) 306 (.cons (.var 4) (.cons (.var 123) (.cons (.sub (.var 49) (.int 1)) (.cons (.attr (.var 44) (SM 103)) .nil))))) .nil)))) (.cons (.sets [(.var 4),(.var 123)] (.tup (.cons (.sub (.call (SM 206) 528 (.cons (.var 4) (.cons (.var 123) (.cons (.attr (.var 44) (SM 103)) .nil)))) (.sub (.var 49) (.int 1))) (.cons .none .nil)))) .nil)) (.cons (.ife (.cmp .eq (.sub (.var 49) (.int 0)) (.str (SM 80))) (.cons .skip (.cons .skip .nil)) (.cons .skip .nil)) .nil)) .nil)) .nil)) (.cons (.ret (.tup (.cons (.var 118) (.cons (.var 4) .nil)))) .nil))))⟩
noncomputable def pj:Fn:=⟨[44,118,4],[],(.cons (.set (.var 58) (.meth (.attr (.var 44) (SM 120)) (SM 169) (.cons (.var 118) (.cons (.call (SM 152) 270 (.cons (.var 4) (.cons (.attr (.var 44) (SM 103)) .nil))) .nil)))) (.cons (.expr (.call (SM 211) 549 (.cons (.var 4) (.cons (.var 58) (.cons (.attr (.var 44) (SM 103)) .nil))))) (.cons (.ret (.var 58)) .nil)))⟩
noncomputable def xE:Fn:=⟨[44,118,4],[],(.cons (.expr (.meth (.attr (.var 44) (SM 120)) (SM 193) (.cons (.var 118) (.cons (.bin .mul (.listF (.cons (.glob (SM 107)) .nil)) (.call (SM 152) 270 (.cons (.var 4) (.cons (.attr (.var 44) (SM 103)) .nil)))) .nil)))) .nil)⟩
noncomputable def xD:Fn:=⟨[44,61,116],[],(.cons (.ife (.cmp .eq (.sub (.var 116) (.int 0)) (.str (SM 79))) (.cons (.ret (.tup (.cons (.call (SM 162) 574 (.cons (.sub (.var 116) (.int 1)) (.cons (.sub (.var 116) (.int 2)) (.cons (.attr (.var 44) (SM 103)) .nil)))) (.cons (.sub (.var 116) (.int 1)) .nil)))) .nil) .nil) (.cons (.sets [(.var 118),(.var 4)] (.meth (.var 44) (SM 153) (.cons (.var 61) (.cons (.sub (.var 116) (.int 1)) .nil)))) (.cons (.set (.var 58) (.meth (.var 44) (SM 63) (.cons (.var 118) (.cons (.var 4) .nil)))) (.cons (.ife (.cmp .eq (.sub (.var 116) (.int 0)) (.str (SM 59))) (.cons (.expr (.meth (.var 44) (SM 90) (.cons (.var 118) (.cons (.var 4) .nil)))) .nil) .nil) (.cons (.ret (.tup (.cons (.var 58) (.cons (.var 4) .nil)))) .nil)))))⟩
noncomputable def xB:Fn:=⟨[44,100],[],(.cons (.set (.attr (.var 44) (SM 124)) (.var 100)) (.cons (.set (.attr (.var 44) (SM 103)) (.attr (.var 100) (SM 103))) .nil))⟩
noncomputable def xC:Fn:=⟨[44,61,103],[],(.cons (.set (.var 34) (.sub (.var 103) (.int 0))) (.cons (.ife (.cmp .eq (.var 34) (.str (SM 38))) (.cons (.ret (.sub (.meth (.attr (.var 44) (SM 124)) (SM 97) (.cons (.var 61) (.cons (.sub (.var 103) (.int 1)) .nil))) (.int 0))) .nil) .nil) (.cons (.ife (.cmp .eq (.var 34) (.str (SM 33))) (.cons .skip .nil) .nil) (.cons (.ife (.cmp .in_ (.var 34) (.tup (.cons (.str (SM 109)) (.cons (.str (SM 139)) .nil)))) (.cons (.ret (.meth (.var 44) (SM 123) (.cons (.var 61) (.cons (.var 103) .nil)))) .nil) .nil) (.cons (.ife (.cmp .in_ (.var 34) (.tup (.cons (.str (SM 100)) (.cons (.str (SM 46)) .nil)))) (.cons .skip .nil) .nil) (.cons (.ife (.cmp .eq (.var 34) (.str (SM 221))) (.cons .skip .nil) .nil) (.cons (.ife (.cmp .eq (.var 34) (.str (SM 25))) (.cons .skip .nil) .nil) (.cons (.ret (.meth (.var 44) (SM 57) (.cons (.var 61) (.cons (.var 103) .nil)))) .nil))))))))⟩
noncomputable def r8:Fn:=⟨[44,61,103],[],(.cons (.set (.var 6) (.sub (.var 103) (.int 1))) (.cons (.sets [(.var 59),(.var 4)] (.meth (.attr (.var 44) (SM 124)) (SM 97) (.cons (.var 61) (.cons (.sub (.var 103) (.int 2)) .nil)))) (.cons (.set (.var 105) (.sub (.meth (.attr (.var 44) (SM 124)) (SM 97) (.cons (.var 61) (.cons (.sub (.var 103) (.int 3)) .nil))) (.int 0))) (.cons (.sets [(.var 1),(.var 2)] (.tup (.cons (.sub (.var 59) (.int 0)) (.cons (.sub (.var 105) (.int 0)) .nil)))) (.cons (.ife (.cmp .in_ (.var 6) (.glob (SM 212))) (.cons (.ret (.listF (.cons (.call (SM 163) 182 (.cons (.var 6) (.cons (.var 1) (.cons (.var 2) .nil)))) .nil))) .nil) .nil) (.cons (.ife (.cmp .in_ (.var 6) (.tup (.cons (.str (SM 1)) (.cons (.str (SM 13)) (.cons (.str (SM 8)) .nil))))) (.cons .skip .nil) .nil) (.cons (.sets [(.var 84),(.var 112)] (.call (SM 170) 795 (.cons (.var 4) (.cons (.var 6) (.cons (.var 1) (.cons (.var 2) .nil)))))) (.cons (.ret (.ite (.cmp .eq (.sub (.var 103) (.int 0)) (.str (SM 139))) (.listF (.cons (.var 84) (.cons (.var 112) .nil))) (.listF (.cons (.var 84) .nil)))) .nil))))))))⟩
noncomputable def xA:Fn:=⟨[44,61,103],[],(.cons (.ife (.cmp .ne (.sub (.var 103) (.int 0)) (.str (SM 24))) (.cons (.ret (.call (SM 117) 581 (.cons (.comp aj (.sub (.meth (.attr (.var 44) (SM 124)) (SM 97) (.cons (.var 61) (.cons (.var 12) .nil))) (.int 0)) [12] (.seq (.sub (.var 103) (.int 1))) .nil [44,61]) .nil))) .nil) .nil) (.cons .skip (.cons .skip .nil)))⟩
noncomputable def yc:Fn:=⟨[44,20,107,54],[],(.cons (.set (.attr (.var 44) (SM 43)) (.var 20)) (.cons (.set (.attr (.var 44) (SM 130)) (.var 107)) (.cons (.set (.attr (.var 44) (SM 73)) (.var 54)) (.cons (.set (.attr (.var 44) (SM 84)) (.dictI [] .nil)) (.cons (.set (.attr (.var 44) (SM 76)) (.int 0)) (.cons (.set (.attr (.var 44) (SM 86)) (.int 0)) (.cons (.set (.attr (.var 44) (SM 53)) (.listF .nil)) .nil)))))))⟩
noncomputable def CT:Fn:=⟨[20],[],(.cons (.set (.var 60) (.dictI [] .nil)) (.cons (.each [139,140] (.seq (.attr (.var 20) (SM 110))) (.cons (.each [135] (.seq (.var 139)) (.cons (.ife (.cmp .eq (.sub (.var 135) (.int 0)) (.str (SM 56))) (.cons (.set (.sub (.var 60) (.sub (.var 135) (.int 1))) (.bool ae)) .nil) .nil) .nil)) .nil)) (.cons (.ret (.var 60)) .nil)))⟩
noncomputable def xO:Fn:=⟨[44,119,85,92,27],[],(.cons (.set (.attr (.var 44) (SM 150)) (.var 119)) (.cons (.set (.attr (.var 44) (SM 103)) (.var 85)) (.cons (.set (.attr (.var 44) (SM 116)) (.var 92)) (.cons (.set (.attr (.var 44) (SM 51)) (.var 27)) (.cons (.set (.attr (.var 44) (SM 120)) (.new (SM 105) 512 .nil)) (.cons (.set (.attr (.var 44) (SM 124)) (.new (SM 106) 868 (.cons (.attr (.var 44) (SM 120)) (.cons (.var 85) .nil)))) (.cons (.set (.attr (.var 44) (SM 151)) (.new (SM 135) 936 (.cons (.attr (.var 44) (SM 124)) .nil))) (.cons (.set (.attr (.var 44) (SM 52)) (.new (SM 156) 761 (.cons (.attr (.var 44) (SM 124)) .nil))) (.cons (.set (.attr (.var 44) (SM 55)) (.dictS [] .nil)) (.cons (.set (.attr (.var 44) (SM 115)) (.listM .nil)) (.cons (.set (.attr (.var 44) (SM 125)) (.listM .nil)) (.cons (.set (.attr (.var 44) (SM 148)) .none) .nil))))))))))))⟩
noncomputable def xN:Fn:=⟨[44,10],[],(.cons (.set (.var 20) (.meth (.var 44) (SM 138) (.cons (.var 10) .nil))) (.cons (.ife (.cmp .ne (.blt .len (.attr (.var 44) (SM 116))) (.attr (.var 20) (SM 182))) (.cons (.fault (.str (SM 45)) (.bin .add (.bin .add (.str (SM 238)) (.var 10)) (.str (SM 229)))) .nil) .nil) (.cons (.set (.var 136) (.comp aj (.sub (.sub (.attr (.var 20) (SM 119)) (.bin .add (.var 3) (.int 1))) (.int 0)) [3] (.range (.attr (.var 20) (SM 182))) .nil [20])) (.cons (.each [3] (.range (.attr (.var 20) (SM 182))) (.cons (.ife (.not (.call (SM 145) 556 (.cons (.sub (.var 136) (.var 3)) (.cons (.sub (.attr (.var 44) (SM 116)) (.var 3)) (.cons (.attr (.var 44) (SM 103)) .nil))))) (.cons (.fault (.str (SM 54)) (.str (SM 245))) .nil) .nil) .nil)) (.cons (.ret (.comp aj (.call (SM 162) 574 (.cons (.sub (.var 136) (.var 3)) (.cons (.sub (.attr (.var 44) (SM 116)) (.var 3)) (.cons (.attr (.var 44) (SM 103)) (.cons (.attr (.var 44) (SM 120)) .nil))))) [3] (.range (.attr (.var 20) (SM 182))) .nil [44,136])) .nil)))))⟩
noncomputable def pq:Fn:=⟨[44,10],[],(.cons (.ife (.cmp .notIn (.var 10) (.attr (.var 44) (SM 150))) (.cons (.fault (.str (SM 146)) (.bin .add (.str (SM 239)) (.var 10))) .nil) .nil) (.cons (.ret (.sub (.attr (.var 44) (SM 150)) (.var 10))) .nil))⟩
noncomputable def mR:Fn:=⟨[44,10,42,107,54],[],(.cons (.set (.var 61) (.new (SM 69) 964 (.cons (.meth (.var 44) (SM 138) (.cons (.var 10) .nil)) (.cons (.var 107) (.cons (.var 54) .nil))))) (.cons (.ife (.cmp .ne (.blt .len (.var 42)) (.attr (.attr (.var 61) (SM 43)) (SM 182))) (.cons (.fault (.str (SM 45)) (.bin .add (.str (SM 244)) (.var 10))) .nil) .nil) (.cons (.ife (.cmp .notIn (.var 10) (.attr (.var 44) (SM 55))) (.cons (.set (.sub (.attr (.var 44) (SM 55)) (.var 10)) (.call (SM 192) 975 (.cons (.attr (.var 61) (SM 43)) .nil))) .nil) .nil) (.cons (.each [67] (.range (.blt .len (.attr (.attr (.var 61) (SM 43)) (SM 119)))) (.cons (.ife (.cmp .notIn (.var 67) (.sub (.attr (.var 44) (SM 55)) (.var 10))) (.cons (.expr (.meth (.var 44) (SM 188) (.cons (.var 61) (.cons (.var 67) .nil)))) .nil) .nil) .nil)) (.cons (.each [3] (.range (.blt .len (.var 42))) (.cons (.expr (.meth (.attr (.var 44) (SM 120)) (SM 193) (.cons (.meth (.attr (.var 44) (SM 124)) (SM 142) (.cons (.var 61) (.cons (.bin .add (.var 3) (.int 1)) .nil))) (.cons (.sub (.var 42) (.var 3)) .nil)))) .nil)) (.cons (.expr (.append (.attr (.var 44) (SM 115)) (.var 61))) .nil))))))⟩
noncomputable def sd:Fn:=⟨[44,61,67],[],(.cons (.expr (.meth (.var 44) (SM 186) (.cons (.var 61) (.cons (.var 67) .nil)))) (.cons (.set (.sub (.attr (.var 61) (SM 84)) (.var 67)) (.meth (.attr (.var 44) (SM 120)) (SM 160) (.cons (.call (SM 152) 270 (.cons (.sub (.sub (.attr (.attr (.var 61) (SM 43)) (SM 119)) (.var 67)) (.int 0)) (.cons (.attr (.var 44) (SM 103)) .nil))) .nil))) .nil))⟩
noncomputable def se:Fn:=⟨[44,61,67],[],(.cons (.ife (.cmp .in_ (.var 67) (.attr (.var 61) (SM 84))) (.cons (.expr (.meth (.attr (.var 44) (SM 120)) (SM 50) (.cons (.dpop (.attr (.var 61) (SM 84)) (.var 67)) .nil))) .nil) .nil) .nil)⟩
noncomputable def xP:Fn:=⟨[44,61,135],[],(.cons (.set (.var 34) (.sub (.var 135) (.int 0))) (.cons (.ife (.cmp .eq (.var 34) (.str (SM 108))) (.cons (.set (.var 58) (.meth (.attr (.var 44) (SM 151)) (SM 78) (.cons (.var 61) (.cons (.sub (.var 135) (.int 2)) .nil)))) (.cons (.sets [(.var 118),(.var 4)] (.meth (.attr (.var 44) (SM 124)) (SM 153) (.cons (.var 61) (.cons (.sub (.var 135) (.int 1)) .nil)))) (.cons (.expr (.meth (.attr (.var 44) (SM 120)) (SM 193) (.cons (.var 118) (.cons (.var 58) .nil)))) .nil))) (.cons (.ife (.cmp .eq (.var 34) (.str (SM 56))) (.cons (.expr (.meth (.var 44) (SM 188) (.cons (.var 61) (.cons (.sub (.var 135) (.int 1)) .nil)))) .nil) (.cons (.ife (.cmp .eq (.var 34) (.str (SM 48))) (.cons (.expr (.meth (.var 44) (SM 186) (.cons (.var 61) (.cons (.sub (.var 135) (.int 1)) .nil)))) .nil) (.cons (.ife (.cmp .eq (.var 34) (.str (SM 95))) (.cons (.sets [(.var 58),(.var 4)] (.meth (.attr (.var 44) (SM 124)) (SM 97) (.cons (.var 61) (.cons (.sub (.var 135) (.int 1)) .nil)))) (.cons (.expr (.append (.attr (.var 44) (SM 125)) (.call (SM 209) 593 (.cons (.var 4) (.cons (.var 58) (.cons (.attr (.var 44) (SM 103)) (.cons (.attr (.var 44) (SM 120)) .nil))))))) .nil)) .nil) .nil)) .nil)) .nil)) .nil))⟩
noncomputable def xQ:Fn:=⟨[44,61,140],[],(.cons (.sets [(.var 34),(.var 125),(.var 129),(.var 74),(.var 57)] (.var 140)) (.cons (.set (.var 42) (.comp aj (.sub (.meth (.attr (.var 44) (SM 124)) (SM 97) (.cons (.var 61) (.cons (.var 12) .nil))) (.int 0)) [12] (.seq (.var 129)) .nil [44,61])) (.cons (.expr (.meth (.var 44) (SM 81) (.cons (.sub (.var 125) (.int 1)) (.cons (.var 42) (.cons (.meth (.attr (.var 44) (SM 124)) (SM 153) (.cons (.var 61) (.cons (.var 74) .nil))) (.cons (.var 57) .nil)))))) .nil)))⟩
noncomputable def ye:Fn:=⟨[44,39,132,142,87,77],[.none,.none],(.cons (.set (.attr (.var 44) (SM 60)) (.var 39)) (.cons (.set (.attr (.var 44) (SM 182)) (.var 132)) (.cons (.set (.attr (.var 44) (SM 119)) (.blt .list_ (.var 142))) (.cons (.set (.attr (.var 44) (SM 110)) (.ite (.cmp .is_ (.var 87) .none) (.listF .nil) (.var 87))) (.cons (.set (.attr (.var 44) (SM 96)) (.ite (.cmp .is_ (.var 77) .none) (.dictI [] .nil) (.var 77))) .nil)))))⟩
noncomputable def xv:Fn:=⟨[44,115],[.none],(.cons (.set (.attr (.var 44) (SM 147)) (.var 115)) (.cons (.set (.attr (.var 44) (SM 40)) (.dictI [] .nil)) (.cons (.set (.attr (.var 44) (SM 172)) (.dictI [] .nil)) (.cons (.set (.attr (.var 44) (SM 65)) (.dictI [] .nil)) (.cons (.set (.attr (.var 44) (SM 131)) (.dictI [] .nil)) (.cons (.set (.attr (.var 44) (SM 85)) (.listF .nil)) (.cons (.set (.attr (.var 44) (SM 113)) (.dictI [] .nil)) (.cons (.set (.attr (.var 44) (SM 111)) (.dictI [] .nil)) .nil))))))))⟩
noncomputable def xW:Fn:=⟨[104],[],(.cons (.set (.var 22) (.ite (.cmp .gt (.blt .len (.var 104)) (.int 0)) (.sub (.var 104) (.int 0)) (.int 0))) (.cons (.set (.var 45) (.ite (.cmp .ge (.var 22) (.int 0)) (.var 22) (.bin .sub (.neg 1) (.var 22)))) (.cons (.ret (.listM (.cons (.ite (.cmp .ge (.var 45) (.bin .pow (.int 10) (.int 18))) (.var 45) (.int 0)) (.cons (.bin .mod (.bin .mul (.bin .add (.bin .mod (.var 45) (.int 2147483629)) (.int 23)) (.int 48271)) (.int 2147483647)) .nil)))) .nil)))⟩
noncomputable def xT:Fn:=⟨[106,17],[],(.cons (.ife (.cmp .gt (.sub (.var 106) (.int 0)) (.int 0)) (.cons (.set (.var 91) (.bin .mod (.sub (.var 106) (.int 0)) (.var 17))) (.cons (.set (.sub (.var 106) (.int 0)) (.bin .fdiv (.sub (.var 106) (.int 0)) (.var 17))) (.cons (.ret (.var 91)) .nil))) .nil) (.cons (.set (.sub (.var 106) (.int 1)) (.bin .mod (.bin .add (.bin .mul (.sub (.var 106) (.int 1)) (.int 39373)) (.int 7)) (.int 2147483647))) (.cons (.ret (.bin .mod (.bin .fdiv (.bin .mod (.bin .mul (.sub (.var 106) (.int 1)) (.sub (.var 106) (.int 1))) (.int 2147483629)) (.int 32)) (.var 17))) .nil)))⟩
noncomputable def xZ:Fn:=⟨[106,108],[],(.cons (.ret (.sub (.var 108) (.call (SM 180) 1191 (.cons (.var 106) (.cons (.blt .len (.var 108)) .nil))))) .nil)⟩
noncomputable def xR:Fn:=⟨[],[],(.cons (.ret (.tup (.cons (.str (SM 29)) (.cons (.str (SM 23)) .nil)))) .nil)⟩
noncomputable def xX:Fn:=⟨[],[],(.cons (.ret (.tup (.cons (.str (SM 99)) (.cons (.tup (.cons (.tup (.cons (.str (SM 29)) (.cons (.str (SM 23)) .nil))) (.cons (.tup (.cons (.str (SM 44)) .nil)) .nil))) .nil)))) .nil)⟩
noncomputable def Dg:Fn:=⟨[96,64],[],(.cons (.set (.var 65) (.listF (.cons (.tup (.cons (.str (SM 99)) (.cons (.tup .nil) .nil))) (.cons (.call (SM 136) 1205 .nil) (.cons (.tup (.cons (.str (SM 44)) .nil)) (.cons (.call (SM 178) 1212 .nil) (.cons (.call (SM 136) 1205 .nil) (.cons (.call (SM 178) 1212 .nil) .nil)))))))) (.cons (.set (.var 20) (.new (SM 39) 1144 (.cons (.str (SM 9)) (.cons (.int 2) (.cons (.comp aj (.tup (.cons (.var 34) (.cons (.bool ae) (.cons .none .nil)))) [34] (.seq (.var 65)) .nil []) (.cons (.listF (.cons (.listF (.cons (.listF (.cons (.tup (.cons (.str (SM 56)) (.cons (.int 4) .nil))) (.cons (.tup (.cons (.str (SM 56)) (.cons (.int 5) .nil))) .nil))) (.cons (.tup (.cons (.str (SM 126)) .nil)) .nil))) .nil)) .nil)))))) (.cons (.set (.var 63) (.new (SM 39) 1144 (.cons (.str (SM 10)) (.cons (.int 2) (.cons (.comp aj (.tup (.cons (.var 34) (.cons (.bool ae) (.cons .none .nil)))) [34] (.seq (.listF (.cons (.call (SM 136) 1205 .nil) (.cons (.call (SM 136) 1205 .nil) (.cons (.tup (.cons (.str (SM 44)) .nil)) .nil))))) .nil []) (.cons (.listF (.cons (.listF (.cons (.listF .nil) (.cons (.tup (.cons (.str (SM 126)) .nil)) .nil))) .nil)) .nil)))))) (.cons (.set (.var 113) (.new (SM 134) 1079 (.cons (.dictS [(SM 9),(SM 10)] (.cons (.var 20) (.cons (.var 63) .nil))) (.cons (.new (SM 72) 1173 (.cons .none .nil)) (.cons (.listF (.cons (.var 96) (.cons (.var 64) .nil))) (.cons (.int 99) .nil)))))) (.cons (.expr (.meth (.var 113) (SM 81) (.cons (.str (SM 9)) (.cons (.meth (.var 113) (SM 203) (.cons (.str (SM 9)) .nil)) (.cons .none (.cons .none .nil)))))) (.cons (.ret (.var 113)) .nil))))))⟩
noncomputable def sf:Fn:=⟨[13,74],[],(.cons (.sets [(.var 67),(.var 78)] (.var 74)) (.cons (.ife (.cmp .notIn (.var 67) (.var 13)) (.cons (.ret (.str (SM 141))) .nil) .nil) (.cons (.ife (.cmp .eq (.var 78) (.tup .nil)) (.cons (.ret (.tup (.cons (.sub (.var 13) (.var 67)) (.cons (.int 0) .nil)))) .nil) .nil) (.cons (.ret (.tup (.cons (.slice (.sub (.var 13) (.var 67)) (.sub (.sub (.var 78) (.int 0)) (.int 1)) (.bin .add (.sub (.sub (.var 78) (.int 0)) (.int 1)) (.int 1))) (.cons (.sub (.sub (.var 78) (.int 0)) (.int 1)) .nil)))) .nil))))⟩
noncomputable def Df:Fn:=⟨[13,74,58],[],(.cons (.set (.var 56) (.sub (.call (SM 198) 1231 (.cons (.var 13) (.cons (.var 74) .nil))) (.int 1))) (.cons (.set (.var 14) (.sub (.var 13) (.sub (.var 74) (.int 0)))) (.cons (.set (.sub (.var 13) (.sub (.var 74) (.int 0))) (.bin .add (.bin .add (.slice (.var 14) .none (.var 56)) (.var 58)) (.slice (.var 14) (.bin .add (.var 56) (.blt .len (.var 58))) .none))) .nil)))⟩
noncomputable def xS:Fn:=⟨[13,116],[],(.cons (.ife (.cmp .eq (.sub (.var 116) (.int 0)) (.str (SM 79))) (.cons (.ret (.ite (.blt .isTuple (.sub (.var 116) (.int 2))) (.blt .list_ (.sub (.var 116) (.int 2))) (.listF (.cons (.sub (.var 116) (.int 2)) .nil)))) .nil) .nil) (.cons (.set (.var 51) (.call (SM 198) 1231 (.cons (.var 13) (.cons (.sub (.var 116) (.int 1)) .nil)))) (.cons (.ife (.or (.cmp .eq (.var 51) (.str (SM 141))) (.cmp .in_ .none (.sub (.var 51) (.int 0)))) (.cons (.ret (.ite (.cmp .eq (.var 51) (.str (SM 141))) (.str (SM 141)) (.str (SM 228)))) .nil) .nil) (.cons (.ife (.cmp .eq (.sub (.var 116) (.int 0)) (.str (SM 59))) (.cons (.expr (.call (SM 159) 1238 (.cons (.var 13) (.cons (.sub (.var 116) (.int 1)) (.cons (.bin .mul (.listF (.cons .none .nil)) (.blt .len (.sub (.var 51) (.int 0)))) .nil))))) .nil) .nil) (.cons (.ret (.sub (.var 51) (.int 0))) .nil)))))⟩
noncomputable def Dh:Fn:=⟨[13,129],[],(.cons (.set (.var 60) (.listM .nil)) (.cons (.each [116] (.seq (.var 129)) (.cons (.set (.var 51) (.call (SM 199) 1245 (.cons (.var 13) (.cons (.var 116) .nil)))) (.cons (.ife (.blt .isStr (.var 51)) (.cons (.ret (.var 51)) .nil) .nil) (.cons (.expr (.append (.var 60) (.var 51))) .nil)))) (.cons (.ret (.freeze (.var 60))) .nil)))⟩
noncomputable def xV:Fn:=⟨[13,103],[],(.cons (.ife (.cmp .ne (.sub (.var 103) (.int 0)) (.str (SM 109))) (.cons (.set (.var 42) (.call (SM 230) 1252 (.cons (.var 13) (.cons (.ite (.cmp .eq (.sub (.var 103) (.int 0)) (.str (SM 38))) (.listF (.cons (.sub (.var 103) (.int 1)) .nil)) (.sub (.var 103) (.int 1))) .nil)))) (.cons (.ret (.ite (.blt .isStr (.var 42)) (.var 42) (.comp2 (.var 22) 14 (.seq (.var 42)) 22 (.seq (.var 14)) []))) .nil)) .nil) (.cons (.set (.var 42) (.call (SM 230) 1252 (.cons (.var 13) (.cons (.slice (.var 103) (.int 2) .none) .nil)))) (.cons (.ife (.blt .isStr (.var 42)) (.cons (.ret (.var 42)) .nil) .nil) (.cons (.sets [(.var 1),(.var 2)] (.tup (.cons (.sub (.sub (.var 42) (.int 0)) (.int 0)) (.cons (.sub (.sub (.var 42) (.int 1)) (.int 0)) .nil)))) (.cons (.ret (.ite (.cmp .eq (.sub (.var 103) (.int 1)) (.str (SM 3))) (.listF (.cons (.bin .mod (.bin .add (.var 1) (.var 2)) (.int 256)) .nil)) (.listF (.cons (.cmp .lt (.var 1) (.var 2)) .nil)))) .nil)))))⟩
noncomputable def ya:Fn:=⟨[13,101,135],[],(.cons (.set (.var 53) (.sub (.var 135) (.int 0))) (.cons (.ife (.cmp .eq (.var 53) (.str (SM 56))) (.cons (.set (.sub (.var 13) (.sub (.var 135) (.int 1))) (.bin .mul (.listF (.cons .none .nil)) (.sub (.listF (.cons (.int 0) (.cons (.int 1) (.cons (.int 1) (.cons (.int 2) (.cons (.int 1) (.cons (.int 2) .nil))))))) (.sub (.var 135) (.int 1))))) .nil) .nil) (.cons (.ife (.cmp .eq (.var 53) (.str (SM 48))) (.cons (.expr (.dpopD (.var 13) (.sub (.var 135) (.int 1)) .none)) .nil) .nil) (.cons (.ife (.cmp .eq (.var 53) (.str (SM 95))) (.cons (.set (.var 51) (.call (SM 199) 1245 (.cons (.var 13) (.cons (.sub (.var 135) (.int 1)) .nil)))) (.cons (.ife (.blt .isStr (.var 51)) (.cons (.ret (.var 51)) .nil) .nil) (.cons (.expr (.append (.var 101) (.ite (.cmp .eq (.blt .len (.var 51)) (.int 1)) (.sub (.var 51) (.int 0)) (.blt .tuple_ (.var 51))))) .nil))) .nil) (.cons (.ife (.cmp .eq (.var 53) (.str (SM 108))) (.cons (.set (.var 51) (.call (SM 224) 1257 (.cons (.var 13) (.cons (.sub (.var 135) (.int 2)) .nil)))) (.cons (.ife (.blt .isStr (.var 51)) (.cons (.ret (.var 51)) .nil) .nil) (.cons (.ife (.cmp .notIn (.sub (.sub (.var 135) (.int 1)) (.int 0)) (.var 13)) (.cons (.ret (.str (SM 141))) .nil) .nil) (.cons (.expr (.call (SM 159) 1238 (.cons (.var 13) (.cons (.sub (.var 135) (.int 1)) (.cons (.var 51) .nil))))) .nil)))) .nil) (.cons (.ret .none) .nil))))))⟩
noncomputable def xU:Fn:=⟨[113,61,13],[],(.cons (.ife (.cmp .ne (.blt .sorted_ (.attr (.var 61) (SM 84))) (.blt .sorted_ (.var 13))) (.cons .skip .nil) .nil) (.cons (.eachD 67 (.var 13) (.cons (.set (.var 9) (.comp aj (.ite (.cmp .is_ (.var 22) .none) (.tup (.cons (.str (SM 132)) .nil)) (.var 22)) [22] (.seq (.sub (.var 13) (.var 67))) .nil [])) (.cons (.ife (.cmp .ne (.attr (.sub (.attr (.attr (.var 113) (SM 120)) (SM 214)) (.sub (.attr (.var 61) (SM 84)) (.var 67))) (SM 78)) (.var 9)) (.cons .skip .nil) .nil) .nil))) (.cons (.ret (.cmp .eq (.meth (.attr (.var 113) (SM 120)) (SM 204) .nil) (.blt .len (.var 13)))) .nil)))⟩
noncomputable def De:Fn:=⟨[96,64,139],[],(.cons (.sets [(.var 113),(.var 13),(.var 101)] (.tup (.cons (.call (SM 218) 1217 (.cons (.var 96) (.cons (.var 64) .nil))) (.cons (.dictI [0,1,2,3] (.cons (.listF .nil) (.cons (.listF (.cons (.var 96) .nil)) (.cons (.listF (.cons (.var 64) .nil)) (.cons (.listF (.cons .none (.cons .none .nil))) .nil))))) (.cons (.listM .nil) .nil))))) (.cons (.set (.var 61) (.sub (.attr (.var 113) (SM 115)) (.neg 1))) (.cons (.each [135] (.seq (.var 139)) (.cons (.set (.var 62) (.heard 1271 (SM 242) (.meth (.var 113) (SM 222) (.cons (.var 61) (.cons (.var 135) .nil))) [61,113,135])) (.cons (.ife (.or (.cmp .ne (.var 62) (.call (SM 177) 1264 (.cons (.var 13) (.cons (.var 101) (.cons (.var 135) .nil))))) (.not (.call (SM 213) 1269 (.cons (.var 113) (.cons (.var 61) (.cons (.var 13) .nil)))))) (.cons .skip .nil) .nil) .nil))) (.cons (.ret (.ite (.and (.cmp .eq (.attr (.var 113) (SM 125)) (.var 101)) (.cmp .eq (.attr (.var 113) (SM 115)) (.listF (.cons (.var 61) .nil)))) (.tup (.cons (.var 113) (.cons (.var 13) .nil))) .none)) .nil))))⟩
noncomputable def yb:Fn:=⟨[15,10,129,74],[],(.cons (.ife (.cmp .is_ (.var 15) .none) (.cons .skip .nil) .nil) (.cons (.sets [(.var 113),(.var 13)] (.var 15)) (.cons (.set (.var 61) (.sub (.attr (.var 113) (SM 115)) (.neg 1))) (.cons (.set (.var 42) (.call (SM 230) 1252 (.cons (.var 13) (.cons (.var 129) .nil)))) (.cons (.set (.var 9) (.ite (.blt .isStr (.var 42)) (.var 42) .none)) (.cons (.ife (.and (.cmp .is_ (.var 9) .none) (.cmp .notIn (.sub (.var 74) (.int 0)) (.var 13))) (.cons (.set (.var 9) (.str (SM 141))) .nil) .nil) (.cons (.ife (.and (.cmp .is_ (.var 9) .none) (.cmp .ne (.var 10) (.str (SM 10)))) (.cons (.set (.var 9) (.str (SM 146))) .nil) .nil) (.cons (.ife (.and (.cmp .is_ (.var 9) .none) (.cmp .ne (.blt .len (.var 129)) (.int 2))) (.cons (.set (.var 9) (.str (SM 45))) .nil) .nil) (.cons (.ife (.cmp .ne (.heard 1278 (SM 243) (.meth (.var 113) (SM 140) (.cons (.var 61) (.cons (.tup (.cons (.str (SM 45)) (.cons (.tup (.cons (.str (SM 20)) (.cons (.var 10) (.cons (.tup .nil) .nil)))) (.cons (.var 129) (.cons (.var 74) (.cons (.int 6) .nil)))))) .nil))) [10,61,74,113,129]) (.var 9)) (.cons .skip .nil) .nil) (.cons (.ife (.cmp .isNot (.var 9) .none) (.cons (.ret (.and (.cmp .eq (.attr (.var 113) (SM 115)) (.listF (.cons (.var 61) .nil))) (.call (SM 213) 1269 (.cons (.var 113) (.cons (.var 61) (.cons (.var 13) .nil)))))) .nil) .nil) (.cons (.set (.var 138) (.sub (.attr (.var 113) (SM 115)) (.neg 1))) (.cons (.set (.var 28) (.tup (.cons (.tup (.cons (.str (SM 149)) (.cons (.sub (.attr (.var 61) (SM 84)) (.sub (.var 74) (.int 0))) (.cons (.sub (.call (SM 198) 1231 (.cons (.var 13) (.cons (.var 74) .nil))) (.int 1)) (.cons (.int 0) .nil))))) (.cons (.call (SM 136) 1205 .nil) .nil)))) (.cons (.ife (.or3 (.cmp .ne (.blt .len (.attr (.var 113) (SM 115))) (.int 2)) (.cmp .ne (.attr (.attr (.var 138) (SM 43)) (SM 60)) (.str (SM 10))) (.cmp .ne (.tup (.cons (.attr (.var 138) (SM 130)) (.cons (.attr (.var 138) (SM 73)) .nil))) (.tup (.cons (.var 28) (.cons (.int 6) .nil))))) (.cons .skip .nil) .nil) (.cons (.set (.var 58) (.comp aj (.attr (.sub (.attr (.attr (.var 113) (SM 120)) (SM 214)) (.sub (.attr (.var 138) (SM 84)) (.var 67))) (SM 78)) [67] (.range (.int 3)) .nil [113,138])) (.cons (.ret (.and (.cmp .eq (.var 58) (.listF (.cons (.listF (.cons (.tup (.cons (.str (SM 132)) .nil)) .nil)) (.cons (.sub (.var 42) (.int 0)) (.cons (.sub (.var 42) (.int 1)) .nil))))) (.cmp .eq (.tup (.cons (.attr (.var 138) (SM 76)) (.cons (.attr (.var 138) (SM 86)) .nil))) (.tup (.cons (.int 0) (.cons (.int 0) .nil)))))) .nil)))))))))))))))⟩
noncomputable def xY:Fn:=⟨[106,47],[],(.cons (.sets [(.var 59),(.var 105)] (.tup (.cons (.tup (.cons (.str (SM 83)) (.cons (.int 0) .nil))) (.cons (.tup (.cons (.str (SM 83)) (.cons (.int 1) .nil))) .nil)))) (.cons (.set (.var 100) (.dictS [(SM 121),(SM 98),(SM 61)] (.cons (.listF (.cons (.tup (.cons (.int 1) (.cons (.tup .nil) .nil))) (.cons (.tup (.cons (.int 4) (.cons (.tup .nil) .nil))) (.cons (.tup (.cons (.int 3) (.cons (.tup (.cons (.var 59) .nil)) .nil))) (.cons (.tup (.cons (.int 5) (.cons (.tup (.cons (.var 59) .nil)) .nil))) .nil))))) (.cons (.listF (.cons (.tup (.cons (.int 2) (.cons (.tup .nil) .nil))) (.cons (.tup (.cons (.int 3) (.cons (.tup (.cons (.var 105) .nil)) .nil))) (.cons (.tup (.cons (.int 5) (.cons (.tup (.cons (.var 105) .nil)) .nil))) .nil)))) (.cons (.listF (.cons (.tup (.cons (.int 3) (.cons (.tup .nil) .nil))) (.cons (.tup (.cons (.int 5) (.cons (.tup .nil) .nil))) .nil))) .nil))))) (.cons (.set (.var 84) (.call (SM 180) 1191 (.cons (.var 106) (.cons (.int 256) .nil)))) (.cons (.set (.var 90) (.dictS [(SM 121),(SM 98),(SM 61)] (.cons (.tup (.cons (.str (SM 79)) (.cons (.call (SM 136) 1205 .nil) (.cons (.var 84) .nil)))) (.cons (.tup (.cons (.str (SM 79)) (.cons (.tup (.cons (.str (SM 44)) .nil)) (.cons (.cmp .gt (.var 84) (.int 99)) .nil)))) (.cons (.tup (.cons (.str (SM 79)) (.cons (.call (SM 178) 1212 .nil) (.cons (.tup (.cons (.var 84) (.cons (.cmp .lt (.var 84) (.int 99)) .nil))) .nil)))) .nil))))) (.cons (.set (.var 74) (.call (SM 158) 1198 (.cons (.var 106) (.cons (.sub (.var 100) (.var 47)) .nil)))) (.cons (.ret (.call (SM 158) 1198 (.cons (.var 106) (.cons (.listF (.cons (.sub (.var 90) (.var 47)) (.cons (.tup (.cons (.str (SM 47)) (.cons (.var 74) .nil))) (.cons (.tup (.cons (.str (SM 59)) (.cons (.var 74) .nil))) (.cons (.sub (.var 90) (.var 47)) .nil))))) .nil)))) .nil))))))⟩
noncomputable def Dd:Fn:=⟨[106],[],(.cons (.sets [(.var 47),(.var 59),(.var 105)] (.tup (.cons (.call (SM 158) 1198 (.cons (.var 106) (.cons (.listF (.cons (.str (SM 121)) (.cons (.str (SM 98)) (.cons (.str (SM 61)) .nil)))) .nil))) (.cons (.tup (.cons (.str (SM 83)) (.cons (.int 0) .nil))) (.cons (.tup (.cons (.str (SM 83)) (.cons (.int 1) .nil))) .nil))))) (.cons (.sets [(.var 12),(.var 70)] (.tup (.cons (.call (SM 219) 1288 (.cons (.var 106) (.cons (.str (SM 121)) .nil))) (.cons (.call (SM 219) 1288 (.cons (.var 106) (.cons (.str (SM 121)) .nil))) .nil)))) (.cons (.ife (.cmp .eq (.var 47) (.str (SM 121))) (.cons (.set (.var 74) (.call (SM 158) 1198 (.cons (.var 106) (.cons (.listF (.cons (.tup (.cons (.int 1) (.cons (.tup .nil) .nil))) (.cons (.tup (.cons (.int 4) (.cons (.tup .nil) .nil))) (.cons (.tup (.cons (.int 3) (.cons (.tup (.cons (.var 59) .nil)) .nil))) (.cons (.tup (.cons (.int 5) (.cons (.tup (.cons (.var 59) .nil)) .nil))) .nil))))) .nil)))) (.cons (.set (.var 36) (.tup (.cons (.str (SM 109)) (.cons (.str (SM 3)) (.cons (.var 12) (.cons (.var 70) .nil)))))) .nil)) (.cons (.ife (.cmp .eq (.var 47) (.str (SM 98))) (.cons (.sets [(.var 74),(.var 36)] (.tup (.cons (.call (SM 158) 1198 (.cons (.var 106) (.cons (.listF (.cons (.tup (.cons (.int 2) (.cons (.tup .nil) .nil))) (.cons (.tup (.cons (.int 3) (.cons (.tup (.cons (.var 105) .nil)) .nil))) (.cons (.tup (.cons (.int 5) (.cons (.tup (.cons (.var 105) .nil)) .nil))) .nil)))) .nil))) (.cons (.tup (.cons (.str (SM 109)) (.cons (.str (SM 6)) (.cons (.var 12) (.cons (.var 70) .nil))))) .nil)))) .nil) (.cons (.sets [(.var 74),(.var 36)] (.tup (.cons (.call (SM 158) 1198 (.cons (.var 106) (.cons (.listF (.cons (.tup (.cons (.int 3) (.cons (.tup .nil) .nil))) (.cons (.tup (.cons (.int 5) (.cons (.tup .nil) .nil))) .nil))) .nil))) (.cons (.tup (.cons (.str (SM 99)) (.cons (.tup (.cons (.var 12) (.cons (.call (SM 219) 1288 (.cons (.var 106) (.cons (.str (SM 98)) .nil))) .nil))) .nil))) .nil)))) .nil)) .nil)) (.cons (.ret (.tup (.cons (.str (SM 108)) (.cons (.var 74) (.cons (.call (SM 158) 1198 (.cons (.var 106) (.cons (.listF (.cons (.var 36) (.cons (.tup (.cons (.str (SM 38)) (.cons (.call (SM 219) 1288 (.cons (.var 106) (.cons (.var 47) .nil))) .nil))) .nil))) .nil))) .nil))))) .nil))))⟩
noncomputable def Dc:Fn:=⟨[],[],(.cons (.sets [(.var 76),(.var 7)] (.tup (.cons (.tup (.cons (.str (SM 79)) (.cons (.call (SM 136) 1205 .nil) (.cons (.int 7) .nil)))) (.cons (.tup (.cons (.str (SM 79)) (.cons (.tup (.cons (.str (SM 44)) .nil)) (.cons (.bool ae) .nil)))) .nil)))) (.cons (.sets [(.var 40),(.var 26)] (.tup (.cons (.tup (.cons (.int 3) (.cons (.tup (.cons (.tup (.cons (.str (SM 83)) (.cons (.int 0) .nil))) .nil)) .nil))) (.cons (.tup (.cons (.int 4) (.cons (.tup .nil) .nil))) .nil)))) (.cons (.set (.var 42) (.listF (.cons (.tup (.cons (.str (SM 108)) (.cons (.var 26) (.cons (.tup (.cons (.str (SM 38)) (.cons (.var 76) .nil))) .nil)))) (.cons (.tup (.cons (.str (SM 56)) (.cons (.int 4) .nil))) (.cons (.tup (.cons (.str (SM 108)) (.cons (.var 26) (.cons (.tup (.cons (.str (SM 38)) (.cons (.var 76) .nil))) .nil)))) (.cons (.tup (.cons (.str (SM 56)) (.cons (.int 4) .nil))) (.cons (.tup (.cons (.str (SM 95)) (.cons (.tup (.cons (.str (SM 47)) (.cons (.var 26) .nil))) .nil))) (.cons (.tup (.cons (.str (SM 108)) (.cons (.var 26) (.cons (.tup (.cons (.str (SM 109)) (.cons (.str (SM 3)) (.cons (.tup (.cons (.str (SM 59)) (.cons (.tup (.cons (.int 1) (.cons (.tup .nil) .nil))) .nil))) (.cons (.tup (.cons (.str (SM 79)) (.cons (.call (SM 136) 1205 .nil) (.cons (.int 255) .nil)))) .nil))))) .nil)))) (.cons (.tup (.cons (.str (SM 108)) (.cons (.var 40) (.cons (.tup (.cons (.str (SM 38)) (.cons (.tup (.cons (.str (SM 59)) (.cons (.var 26) .nil))) .nil))) .nil)))) (.cons (.tup (.cons (.str (SM 95)) (.cons (.tup (.cons (.str (SM 47)) (.cons (.tup (.cons (.int 3) (.cons (.tup .nil) .nil))) .nil))) .nil))) (.cons (.tup (.cons (.str (SM 108)) (.cons (.tup (.cons (.int 3) (.cons (.tup .nil) .nil))) (.cons (.tup (.cons (.str (SM 99)) (.cons (.tup (.cons (.var 76) (.cons (.var 7) .nil))) .nil))) .nil)))) (.cons (.tup (.cons (.str (SM 95)) (.cons (.tup (.cons (.str (SM 59)) (.cons (.tup (.cons (.int 3) (.cons (.tup .nil) .nil))) .nil))) .nil))) (.cons (.tup (.cons (.str (SM 48)) (.cons (.int 4) .nil))) (.cons (.tup (.cons (.str (SM 48)) (.cons (.int 4) .nil))) .nil)))))))))))))) (.cons (.ife (.cmp .is_ (.call (SM 231) 1276 (.cons (.int 5) (.cons (.bool aj) (.cons (.var 42) .nil)))) .none) (.cons .skip .nil) .nil) (.cons (.sets [(.var 12),(.var 82)] (.tup (.cons (.tup (.cons (.str (SM 59)) (.cons (.tup (.cons (.int 1) (.cons (.tup .nil) .nil))) .nil))) (.cons (.tup (.cons (.str (SM 47)) (.cons (.tup (.cons (.int 2) (.cons (.tup .nil) .nil))) .nil))) .nil)))) (.cons (.each [10,129,74] (.seq (.listF (.cons (.tup (.cons (.str (SM 10)) (.cons (.tup (.cons (.var 12) (.cons (.var 82) .nil))) (.cons (.var 40) .nil)))) (.cons (.tup (.cons (.str (SM 11)) (.cons (.tup (.cons (.var 12) (.cons (.var 82) .nil))) (.cons (.tup (.cons (.int 1) (.cons (.tup .nil) .nil))) .nil)))) .nil)))) (.cons (.ife (.not (.call (SM 233) 1281 (.cons (.call (SM 231) 1276 (.cons (.int 5) (.cons (.bool ae) (.cons (.listF .nil) .nil)))) (.cons (.var 10) (.cons (.var 129) (.cons (.var 74) .nil)))))) (.cons .skip .nil) .nil) .nil)) (.cons (.ret (.bool ae)) .nil)))))))⟩
noncomputable def C3:Fn:=⟨[104],[],(.cons (.ife (.not (.call (SM 234) 1302 .nil)) (.cons .skip .nil) .nil) (.cons (.sets [(.var 106),(.var 42)] (.tup (.cons (.call (SM 179) 1184 (.cons (.var 104) .nil)) (.cons (.listM .nil) .nil)))) (.cons (.sets [(.var 96),(.var 64)] (.tup (.cons (.call (SM 180) 1191 (.cons (.var 106) (.cons (.int 256) .nil))) (.cons (.cmp .eq (.call (SM 180) 1191 (.cons (.var 106) (.cons (.int 2) .nil))) (.int 0)) .nil)))) (.cons (.each [52] (.range (.call (SM 180) 1191 (.cons (.var 106) (.cons (.int 6) .nil)))) (.cons (.set (.var 18) (.call (SM 180) 1191 (.cons (.var 106) (.cons (.int 9) .nil)))) (.cons (.ife (.cmp .lt (.var 18) (.int 4)) (.cons (.expr (.append (.var 42) (.call (SM 220) 1295 (.cons (.var 106) .nil)))) .nil) (.cons (.ife (.cmp .lt (.var 18) (.int 6)) (.cons (.expr (.append (.var 42) (.tup (.cons (.call (SM 158) 1198 (.cons (.var 106) (.cons (.listF (.cons (.str (SM 56)) (.cons (.str (SM 56)) (.cons (.str (SM 48)) .nil)))) .nil))) (.cons (.bin .add (.int 1) (.call (SM 180) 1191 (.cons (.var 106) (.cons (.int 5) .nil)))) .nil))))) .nil) (.cons (.ife (.cmp .lt (.var 18) (.int 8)) (.cons (.expr (.append (.var 42) (.tup (.cons (.str (SM 95)) (.cons (.call (SM 219) 1288 (.cons (.var 106) (.cons (.call (SM 158) 1198 (.cons (.var 106) (.cons (.listF (.cons (.str (SM 121)) (.cons (.str (SM 98)) (.cons (.str (SM 61)) .nil)))) .nil))) .nil))) .nil))))) .nil) (.cons (.expr (.append (.var 42) (.tup (.cons (.str (SM 32)) .nil)))) .nil)) .nil)) .nil)) .nil))) (.cons (.set (.var 129) (.tup (.cons (.call (SM 219) 1288 (.cons (.var 106) (.cons (.str (SM 121)) .nil))) (.cons (.call (SM 219) 1288 (.cons (.var 106) (.cons (.str (SM 98)) .nil))) (.cons (.call (SM 219) 1288 (.cons (.var 106) (.cons (.str (SM 121)) .nil))) .nil))))) (.cons (.sets [(.var 37),(.var 74)] (.tup (.cons (.call (SM 158) 1198 (.cons (.var 106) (.cons (.listF (.cons (.int 2) (.cons (.int 2) (.cons (.int 2) (.cons (.int 1) (.cons (.int 3) .nil)))))) .nil))) (.cons (.call (SM 158) 1198 (.cons (.var 106) (.cons (.listF (.cons (.tup (.cons (.int 1) (.cons (.tup .nil) .nil))) (.cons (.tup (.cons (.int 4) (.cons (.tup .nil) .nil))) (.cons (.tup (.cons (.int 3) (.cons (.tup (.cons (.tup (.cons (.str (SM 83)) (.cons (.int 0) .nil))) .nil)) .nil))) .nil)))) .nil))) .nil)))) (.cons (.set (.var 10) (.call (SM 158) 1198 (.cons (.var 106) (.cons (.listF (.cons (.str (SM 10)) (.cons (.str (SM 10)) (.cons (.str (SM 10)) (.cons (.str (SM 11)) .nil))))) .nil)))) (.cons (.ret (.call (SM 233) 1281 (.cons (.call (SM 231) 1276 (.cons (.var 96) (.cons (.var 64) (.cons (.var 42) .nil)))) (.cons (.var 10) (.cons (.slice (.var 129) .none (.var 37)) (.cons (.var 74) .nil)))))) .nil))))))))⟩
noncomputable abbrev Bx:List (Nat×List (ak×Nat)):=[(370,[(SM 94,334),(SM 63,353),(SM 104,360)]),(404,[]),(512,[(SM 160,436),(SM 42,443),(SM 144,450),(SM 204,455),(SM 50,462),(SM 64,469),(SM 63,476),(SM 104,490),(SM 169,495),(SM 193,502)]),(761,[]),(868,[(SM 142,816),(SM 153,823),(SM 63,851),(SM 90,858),(SM 97,865)]),(936,[(SM 78,893),(SM 123,907),(SM 57,933)]),(964,[]),(1079,[(SM 203,1001),(SM 138,1008),(SM 81,1015),(SM 188,1022),(SM 186,1029),(SM 222,1050),(SM 140,1076)]),(1144,[]),(1173,[])]
noncomputable abbrev Cy:List (Nat×Nat):=[(370,327),(404,401),(512,422),(761,737),(868,809),(936,886),(964,954),(1079,989),(1144,1098),(1173,1163)]
noncomputable abbrev xk:List (Nat×List ak):=[(370,[SM 87]),(404,[SM 78,SM 128,SM 144]),(512,[SM 214,SM 58,SM 68]),(761,[SM 124,SM 103]),(868,[SM 120,SM 103]),(936,[SM 124,SM 103]),(964,[SM 43,SM 130,SM 73,SM 84,SM 76,SM 86,SM 53]),(1079,[SM 150,SM 103,SM 116,SM 51,SM 120,SM 124,SM 151,SM 52,SM 55,SM 115,SM 125,SM 148]),(1144,[SM 60,SM 182,SM 119,SM 110,SM 96]),(1173,[SM 147,SM 40,SM 172,SM 65,SM 131,SM 85,SM 113,SM 111])]
noncomputable def TT:cA where
 meth c m:=(Bx.lookup c).bind λl=>l.lookup m
 init c:=Cy.lookup c
 field c m:=((xk.lookup c).getD []).contains m
 store c m:=((xk.lookup c).getD []).contains m
 bits:=[(SM 22,8),(SM 26,16),(SM 27,32),(SM 28,64),(SM 23,8),(SM 35,16),(SM 36,32),(SM 37,64),(SM 101,64)]
 glob:=[(SM 212,(.tup [(.str (SM 17)),(.str (SM 14)),(.str (SM 6)),(.str (SM 16)),(.str (SM 7)),(.str (SM 18))])),(SM 195,(.int 200000)),(SM 236,(.int 100)),(SM 196,(.int 65536)),(SM 70,(.int 0)),(SM 107,(.tup [(.str (SM 132))]))]
 fn:=[(SM 230,1252),(SM 233,1281),(SM 198,1231),(SM 177,1264),(SM 218,1217),(SM 158,1198),(SM 219,1288),(SM 178,1212),(SM 179,1184),(SM 159,1238),(SM 224,1257),(SM 231,1276),(SM 220,1295),(SM 213,1269),(SM 180,1191),(SM 199,1245),(SM 234,1302),(SM 136,1205),(SM 162,574),(SM 139,161),(SM 163,182),(SM 82,154),(SM 114,588),(SM 215,301),(SM 49,126),(SM 166,119),(SM 202,563),(SM 143,523),(SM 216,535),(SM 187,105),(SM 145,556),(SM 117,581),(SM 89,112),(SM 167,277),(SM 227,282),(SM 91,389),(SM 235,306),(SM 205,294),(SM 232,542),(SM 206,528),(SM 149,382),(SM 170,795),(SM 152,270),(SM 129,289),(SM 192,975),(SM 209,593),(SM 211,549),(SM 155,133)]
 cls:=[(SM 194,404),(SM 39,1144),(SM 156,761),(SM 69,964),(SM 134,1079),(SM 105,512),(SM 106,868),(SM 135,936),(SM 71,370),(SM 72,1173)]
 hd:=[(NM 62,1275,1271,SM 242),(NM 28,1280,1278,SM 243)]
noncomputable def xg:List (Nat×Fn):=[(105,xl),(112,C1),(119,C8),(126,C9),(133,CP),(154,xo),(161,xt),(182,xr),(270,CU),(277,mQ),(282,r6),(289,r4),(294,xf),(301,xn),(306,CZ),(327,xz),(334,xy),(353,xx),(360,xw),(382,CY),(389,xh),(401,Di),(422,Da),(436,xM),(443,Db),(450,xK),(455,xJ),(462,xL),(469,xH),(476,xI),(490,xG),(495,sb),(502,r9),(523,xm),(528,xd),(535,ph),(542,xe),(549,CQ),(556,C7),(563,r7),(574,xu),(581,C6),(593,CR),(737,yd),(795,w9),(809,xF),(816,po),(823,j2),(851,pj),(858,xE),(865,xD),(886,xB),(893,xC),(907,r8),(933,xA),(954,yc),(975,CT),(989,xO),(1001,xN),(1008,pq),(1015,mR),(1022,sd),(1029,se),(1050,xP),(1076,xQ),(1098,ye),(1163,xv),(1184,xW),(1191,xT),(1198,xZ),(1205,xR),(1212,xX),(1217,Dg),(1231,sf),(1238,Df),(1245,xS),(1252,Dh),(1257,xV),(1264,ya),(1269,xU),(1276,De),(1281,yb),(1288,xY),(1295,Dd),(1302,Dc),(1309,C3)]
noncomputable def cy(a:ag):Option Fn:=xg.lookup a
end
theorem Km{R:WRecords}{W:aK}{w:aJ}{h:ay}{f:ag→Option aC}(D:List WData):∀{L:List ai},WShape.hasItems R D .int=ae→WellAll w.params h L D→∃I:List Int,D=I.map .int∧VRs f (I.map .int) L:=
 bc (motive:=λD=>∀{L:List ai},WShape.hasItems R D .int=ae→WellAll w.params h L D→∃I:List Int,D=I.map .int∧VRs f (I.map .int) L)
  (λN w=>by cases w;exact⟨[],rfl,.nil⟩)
  (λx D F L O z=>k2 O λZ H=>aE (hasW_int Z) λi e=>by
   subst e;refine dj (wellAll_cons_inv z) λv c e a b=>?_;refine qF e ?_;refine aB (F H b) λI e k=>?_;refine qF e ?_;exact aE (F5 ((encInt W w).is a).1) λt e=>⟨i::I,rfl,e▸ .cons (.int i t) k⟩) D
theorem Os{l:OpenLaw}{w:aJ}{h:ay}{U:ag→Option aC}{args:List WData}{t:List ai}(b:l.most=aa 63)(i:l.bound=ah)(O:l.row.toRowW.claim.pre args=ae)(N:WellAll w.params h t args):
  ∃(I:List Int) (a:ag) (L:List ai),I.length≤63∧t=[.ref a]∧h.get? a=aa (eJ "list" L 0)∧VRs U (I.map .int) L:=by
 revert l w h U args t;apply ch;generalize e5 _=l,e4 _=w,e3 _=h,e2 _=U,e1 _=args,e0 _=t;intro b i O N;have g:=(pre_splitW O).1;have m:=(pre_splitW O).2;refine dj (hasAllW_cons (e:=.list .int) (es:=[]) g) λd r S R H=>?_;subst S;obtain rfl:=hasAllW_nil H;refine aB (hasW_list R) λD k j=>?_;subst k;refine dj (wellAll_cons_inv N) λv c n K Z=>?_;refine qF n ?_;cases Z;cases K with|list u N=>
 obtain⟨I,J,w⟩:=Km (W:=l.prog) (f:=U) D j N;refine⟨I,_,_,?_,rfl,u,w⟩;have z:l.pre.holds l.row.toRowW.records {args:=[.list D]}=ae:=m;unfold OpenLaw.pre at z;rw[b]at z;replace z:=i▸z;have A:=(holds_andW z).1;subst J;refine Nat.le_of_not_lt λq=>?_
 have J:less? (.int 63) (.int ((I.map WData.int).length:Int))=aa ae:=by
  rw[less?];rw[Num.less?];rw[bT];exact congrArg aa (decide_eq_true (kT.mpr q))
 have W:(WTm.not (.lt (.lit (.int 63)) (.len (.arg 0)))).value l.row.toRowW.records {args:=[.list (I.map .int)]}=(WTm.not .res).value l.row.toRowW.records {args:=[],res:=(less? (.int 63) (.int ((I.map WData.int).length:Int))).map .bool}:=by kernel_rfl
 rw[J]at W;exact aF ((holdsW_of_value (X:=aj) W).symm.trans A)
section
variable{l:OpenLaw}{q:aK}{loose:List ak}{XP:(ak→Option ai)→ay→Prop}{K:Params→aY}{as:List ag}{e:∀P,as=(K P).map (·.1)}{ts:List ag}{d:DefRec}
structure Qr(K:aY)(R:ay)(a:List (ag×ag)):Prop where
 C:Cx K (ghostOf R a)
 B:lQ (ghostOf R a)
theorem Ku{K:aY}{R:ay}{a:List (ag×ag)}{p:aK}{loose:List ak}{b:ExcName→Option ai}{Q f:ak→Option ai}(J:TabsAt a R)(X:K.In R)(v:noTabs K=ae)(T:Top p loose b Q f R)(O:R.NoSeer):Qr K R a:=by
 revert K R a p loose b Q f;apply jy;generalize e7 _=K,e6 _=R,e5 _=a,e4 _=p,e3 _=loose,e2 _=b,e1 _=Q,e0 _=f;intro J X v T O;have M:=ghost_top J T;have H:=ghost_K J X v;refine z4 (M.bmain) λi t W Z A Y w g=>?_;refine zZ (M.g) λc U r V C N=>?_;exact⟨⟨H,⟨_,_,_,_,topRead_of M⟩,M.nolimit,O.mods.elim λD h=>(ghost_ns J h.1).elim λo h=>h.elim λU h=>h.elim λr h=>⟨o,h.1⟩⟩,.mk Q i t M.g W Z (λq=>by rw[q]at A;replace A:=aI (V.symm.trans A);subst A;rw[g]at C;cases C) A Y w g⟩
noncomputable def oi:St:=λa=>if a=1271 then aa (.tab (SM 242))else if a=1278 then aa (.tab (SM 243))else ah
noncomputable abbrev iG:List (ag×ag):=[(1275,1271),(1280,1278)]
theorem Ag{a:ag}{o:O}(h:oi a=aa o):a∈iG.map (·.2)∧∃q,o=.tab q:=by
 unfold oi at h;split at h
 ·rename_i e;exact⟨e▸ .head _,_,(aI h).symm⟩
 ·split at h
  ·rename_i e;exact⟨e▸ .tail _ (.head _),_,(aI h).symm⟩
  ·exact aG h
theorem Kt{W:aK}{w:aJ}{R:ay}(J:TabsAt iG R):HR W w ⟨(ghostOf R iG).get?,λN=>ah,λN=>aj⟩ oi R:=by
 revert W w R;apply bY;generalize e2 _=W,e1 _=w,e0 _=R;intro J
 exact
   ⟨λa o e=>of_hideAll _ e,λN N e=>aG e,λN N N=>rfl,.mk id (λa o e=>by
    refine bu (Ag e) λb c=>?_;obtain⟨q,rfl⟩:=c;refine aB (cR.mp b) λr E g=>?_;subst g;exact⟨⟨#[],(J r E).2,trivial,λN N e=>aG e⟩,hideAll_none _ b,rfl⟩) λa o e f=>by refine bu (Ag e) λN h=>?_;obtain⟨q,rfl⟩:=h;exact aF f⟩
abbrev E8:V→St→Prop:=λv Z=>v=.bool ae∧Z 1271=aa (.tab (SM 242))∧Z 1278=aa (.tab (SM 243))
theorem KR(M:l.most=aa 63)(i:l.bound=ah)(F:d.name=pS "law")(u:1271∈ts)(T:1278∈ts)(A:∀P,codeHdIn (K P) 1275 1271=ae∧codeHdIn (K P) 1280 1278=ae∧noTabs (K P)=ae∧bG (K P) bp (pS "law")=aa (aa (.ref 1309)))(Q:importsNone q=ae)
  (j:∀(w:aJ) (J:ay),Cx (K w.params) J→lQ J→(∀P∈ [1271,1278],J.get? P=ah)→∀I:List Int,I.length≤63→fF l.row.toRowW.prog w J 100 oi [.lst (I.map .int)] 1309 E8 λN N=>False):
  WalkO q loose XP (kmHook K as e ts).says l.row.toRowW d [] λVJ vs=>aV VJ vs:=by
 revert l q loose XP K as ts d;apply ch;generalize e5 _=l,e4 _=q,e3 _=loose,e2 _=XP,e1 _=K,e0 _=as;intro e;apply bF;generalize e1 _=ts,e0 _=d;intro M i F u T A Q j;intro w Vv D mg mb G Y fa o pm cd VC dV kV ho hd VD hD s hg args Vw as Z Vx VE L VF;have VI:=km_in_of Y;refine qz (A w.params) λc1 c2 c3 c4=>?_
 have J:TabsAt iG D.heap:=λp t=>by
  simp only[bf,bZ,or_false]at t;rcases t with rfl|rfl
  ·exact⟨codeHd_of_K VI c1,km_tabs_of Y _ u⟩
  ·exact⟨codeHd_of_K VI c2,km_tabs_of Y _ T⟩
 obtain⟨C,B⟩:=Ku J VI c3 G.T (G.T.seer Q)
 have z:fa=1309:=by
  have:=mg_of VI G.T.g c4;rw[←F]at this;replace this:=s.symm.trans this;exact Value.ref.inj (aI this)
 refine qF z ?_;refine eH (Os (U:=(ghostOf D.heap iG).get?) M i Z L) λI a vs hl U ha hv=>?_;refine qF U ?_;have c:=ghost_get J ha (λq=>by cases q);refine(j w _ C B (λP hP=>hideAll_none _ (by simpa using hP)) I hl).v callerA ⟨(ghostOf D.heap iG).get?,λN=>ah,λN=>aj⟩ D [.ref a] ⟨rfl,by decide,by decide⟩ ⟨λN N e=>e,.mk [] rfl λN h=>nomatch h⟩ (Kt J) (.cons (.lst c hv) .nil) _ _ (λv rv G' VG h' tk k H V q=>?_) (λN N N N N N N N x=>x.elim);refine bb (q) λg q1 q2=>?_;subst g;refine VR.eB V ?_;have y:∀b o,D.heap.get? b=aa o→b∉iG.map (·.2)→h'.get? b=aa o:=λb o e i=>H.im _ _ (k.im _ _ (ghost_ne e i))
 have W:∀VH∈iG,∃O,h'.get? VH.2=aa (tabObj O):=λVH E=>by
  simp only[bf,bZ,or_false]at E;rcases E with rfl|rfl
  ·exact(H.ZO q1).elim λO h=>⟨O,h.1⟩
  ·exact(H.ZO q2).elim λO h=>⟨O,h.1⟩
 refine⟨.inl ⟨.bool ae,.bool ae,[],rfl,raisesW_false allW_false_nil,.bool ae,?_,λN=>⟨.nil,λN h=>nomatch h⟩⟩,⟨λb o e=>?_,λb o e=>?_⟩,rfl,.of_eq hg⟩
 ·exact postW_of (r:=l.row.toRowW) (X:=ae) (by refine(?_:WShape.has _ (.bool ae) .bool=ae);kernel_rfl) (congrArg (λb=>aa (WData.bool b)) (same_self (.bool ae))) rfl
 ·by_cases i:b∈iG.map (·.2)
  ·refine aB (cR.mp i) λVH E S=>?_;subst S
   obtain⟨O,t⟩:=W VH E;have R:=(J VH E).2;replace R:=e.symm.trans R;cases aI R;refine GC ((J VH E).1) λoc ws N N N m=>?_;refine GD m λN N N N Vy Vz VA VB N=>?_;exact .inr (.inl ⟨⟨_,oc,ws,Vy,Vz,VA,VB⟩,rfl, #[],O,rfl,by rw[t,Array.empty_append]⟩)
  ·exact .inl (y b o e i)
 ·by_cases i:b∈iG.map (·.2)
  ·refine aB (cR.mp i) λVH E n=>?_;refine qE n ?_
   exact(W VH E).elim λO h=>⟨_,h⟩
  ·exact⟨o,y b o e i⟩
end
noncomputable def BZ(K:aY)(T:cA)(r:List (Nat×List (ak×Nat)))(g:List (Nat×Nat))(y:List (Nat×List ak)):Bool:=
 (T.fn.all λp=>bG K bp p.1==aa (aa (.ref p.2))&&eF K (.ref p.2))&&(T.cls.all λp=>bG K bp p.1==aa (aa (.ref p.2))&&eF K (.ref p.2)&&makesIn K p.2)&&
 (g.all λp=>fJ K (.ref p.1) "__init__"==aa (aa (.ref p.2))&&typeIn K (.ref p.2)==aa (.type "function"))&&(r.all λp=>p.2.all λq=>rG K p.1 q.1 q.2&&eF K (.ref q.2))&&
 ((y.all λp=>p.2.all λm=>pi K p.1 m&&oh K p.1 m)&&((["len","list","tuple","str","sum","sorted","int","bool","isinstance","range"].all λx=>bG K bp (aq x)==aa ah)))
theorem oN{O:Type}{x:Nat}{c:O}{l:List (Nat×O)}:l.lookup x=aa c→(x,c)∈l:=
 bc (motive:=λl=>l.lookup x=aa c→(x,c)∈l) (λh=>aG h) (λp r F h=>by
  rw[ey]at h;by_cases q:x=p.1
  ·rw[beq_iff_eq.mpr q]at h
   exact(aI h:p.2=c)▸q▸ .head _
  ·rw[beq_false_of_ne q]at h;exact .tail _ (F h)) l
theorem J8{W:aK}{w:aJ}{K:aY}{T:cA}{r:List (Nat×List (ak×Nat))}{g:List (Nat×Nat)}{y:List (Nat×List ak)}(h:BZ K T r g y=ae)(S:∀c m,T.meth c m=(r.lookup c).bind λl=>l.lookup m)(C:∀c,T.init c=g.lookup c)(D:∀c m,T.field c m=((y.lookup c).getD []).contains m)(P:∀c m,T.store c m=((y.lookup c).getD []).contains m)
  (n:∀x v,T.glob.lookup x=aa v→∃Y,bG K bp x=aa (aa Y)∧VR (λa=>K.lookup a) v Y)(o:∃d M,bG K bp (aq "BITS")=aa (aa (.ref d))∧(∀h,K.In h→h.DictOf (iY W w) d M)∧∀k i,T.bits.lookup k=aa i→∃t,M.lookup k=aa (.int i t))(X:s9 K):KT W w K T:=by
 revert W w K T r g y;apply dQ;generalize e6 _=W,e5 _=w,e4 _=K,e3 _=T,e2 _=r,e1 _=g,e0 _=y;intro h S C D P n o X
 exact k5 h λR H j z A=>k2 A λA s=>by
   have L:∀x∈ ["len","list","tuple","str","sum","sorted","int","bool","isinstance","range"],bG K bp (aq x)=aa ah:=λx O=>bU (dA.mp s x O)
   have B:∀c m,((y.lookup c).getD []).contains m=ae→pi K c m=ae∧oh K c m=ae:=λc m q=>by
    cases e:y.lookup c with
    |none=>rw[e]at q;exact aF q
    |some l=>rw[e]at q;exact k2 (dA.mp (dA.mp A _ (oN e)) m (List.contains_iff_mem.mp q)) λa b=>⟨a,b⟩
   refine⟨λx f e=>k2 (dA.mp R _ (iK e)) λa b=>⟨bU a,b⟩,λx f e=>k3 (dA.mp H _ (iK e)) λa b c=>⟨bU a,b,c⟩,λc f e=>k2 (dA.mp j _ (oN ((C c).symm.trans e))) λa b=>⟨bU a,bU b⟩,
    λc m f e=>?_,λc m e=>(B c m ((D c m).symm.trans e)).1,λc m e=>(B c m ((P c m).symm.trans e)).2,n,o,λu p e=>?_,λu x e=>?_,L _ (by decide+kernel),L _ (by decide+kernel),X⟩
   ·rw[S]at e
    cases q:r.lookup c with
    |none=>rw[q]at e;exact aG e
    |some l=>rw[q]at e;exact k2 (dA.mp (dA.mp z _ (oN q)) _ (iK e)) λa b=>⟨a,b⟩
   ·cases u<;>first|exact aG e|(cases aI e;exact L _ (by decide+kernel))
   ·cases u<;>first|exact aG e|(cases aI e;exact L _ (by decide+kernel))
noncomputable def EO(P:Params)(q:ak×Tok×Int×Tok):kM:={hash:=PyData.keyHash P q.1,key:=.str q.1 q.2.1,val:=.int q.2.2.1 q.2.2.2}
theorem UY{W:aK}{w:aJ}{K:aY}{T:cA}{d Z:Nat}{l:List (ak×Tok×Int×Tok)}(o:bG K bp (aq "BITS")=aa (aa (.ref d)))(u:K.lookup d=aa {cls:=.type "dict",data:=.dict (l.map (EO w.params)).toArray Z})(D:(l.map (·.1)).Nodup)(O:T.bits=l.map λq=>(q.1,q.2.2.1)):
  ∃d M,bG K bp (aq "BITS")=aa (aa (.ref d))∧(∀h,K.In h→h.DictOf (iY W w) d M)∧∀k i,T.bits.lookup k=aa i→∃t,M.lookup k=aa (.int i t):=by
 revert W w K T d Z l;apply dQ;generalize e6 _=W,e5 _=w,e4 _=K,e3 _=T,e2 _=d,e1 _=Z,e0 _=l;intro o u D O
 exact
   ⟨d,l.map λq=>(q.1,.int q.2.2.1 q.2.2.2),o,λh X=>⟨_,_,_,X _ _ u,⟨rfl,rfl,rfl⟩,rfl,λe z=>by
    refine aB (cR.mp (List.mem_toArray.mp z)) λq N S=>?_;refine qE S ?_;exact⟨q.1,beq_self_eq_true q.1,rfl⟩,by
    show Pairs _ (l.map (EO w.params)) _;clear o u D O
    induction l with
    |nil=>exact .nil
    |cons q r F=>exact .cons (beq_self_eq_true q.1) rfl F,by rw[kS];exact D⟩,λk i h=>by
    rw[O]at h;clear o u D O
    induction l with
    |nil=>exact aG h
    |cons q r F=>
     rw[bX]at h;rw[fj]at h;refine(bo bX)▸ ?_;rw[fj];by_cases e:k=q.1
     ·subst e;rw[beq_self_eq_true]at h⊢;exact⟨_,congrArg (λi=>aa (Value.int i q.2.2.2)) (aI h)⟩
     ·rw[beq_false_of_ne e]at h⊢;exact F h⟩
theorem IK{j i:Nat}(h:j≠i):cI j i=aj:=by cases q:cI j i with|false=>rfl|true=>exact absurd (gA q) h
@[simp] theorem Sa{O:Type}(i:Nat)(v:O)(S:List (Nat×O)):dJ i ((i,v)::S)=aa v:=by simp[dJ]
@[simp] theorem Sb{O:Type}{i j:Nat}(v:O)(S:List (Nat×O))(h:j≠i):dJ j ((i,v)::S)=dJ j S:=by rw[ey,show(j==i)=aj from beq_eq_false_iff_ne.mpr h]
theorem E6{i j:Nat}(f:i<252)(J:j<252):(SM i==SM j)=aO (i=j):=by
 rw[Oz i j (by simpa[hZ]using f) (by simpa[hZ]using J)];by_cases h:i=j
 ·subst h;simp
 ·rw[IK h];simp[h]
@[simp] theorem R8{O:Type}(s:ak)(v:O)(S:List (ak×O)):dJ s ((s,v)::S)=aa v:=by simp[dJ]
@[simp] theorem R9{O:Type}{i j:Nat}(v:O)(S:List (ak×O))(J:j<252)(f:i<252)(h:j≠i):dJ (SM j) ((SM i,v)::S)=dJ (SM j) S:=by rw[ey,E6 J f];simp[h]
@[simp] theorem Sd{O W:Type} [BEq O](a:O):dJ a ([]:List (O×W))=ah:=id rfl
theorem OA:(jz.all PyData.strOk)=ae:=by decide+kernel
theorem Ov(i:Nat):PyData.canLay0 (.str (SM i))=ae:=by
 show PyData.strOk (SM i)=ae;unfold SM;rw[zQ];cases h:jz[i]?with
 |none=>decide+kernel
 |some s=>exact dA.mp OA s (kR h)
@[simp] theorem RP{O:Type}(k:ak)(v:O):cq k v []=[(k,v)]:=id rfl
@[simp] theorem RO{O:Type}(k:ak)(v u:O)(r:List (ak×O)):cq k v ((k,u)::r)=(k,v)::r:=by simp[cq]
@[simp] theorem RS{O:Type}{i j:Nat}(v u:O)(r:List (ak×O))(f:i<252)(J:j<252)(h:i≠j):cq (SM i) v ((SM j,u)::r)=(SM j,u)::cq (SM i) v r:=by
 rw[mh,if_neg (E7 (by simpa[hZ]using f) (by simpa[hZ]using J) h)]
noncomputable def BX(a:ag)(o:Option O):Option (ag×List V):=hJ o λl=>aa (a,l)
noncomputable def CG(a:ag)(o:Option O):Option (ag×List (Int×V)):=fh o nn (λl=>aa (a,l)) nn nn nn
noncomputable def Cq(a:ag)(o:Option O):Option (List V×bV):=hJ o λl=>aa (l,aa (a,.list l))
noncomputable def BS(o:Option O):Option (List V):=hJ o aa
@[simp] theorem Vp(Z:St)(a:ag):Op Z (.obj a)=wY a (Z a):=id rfl
@[simp] theorem Vn(Z:St)(a:ag):On Z (.obj a)=BX a (Z a):=id rfl
@[simp] theorem Vq(Z:St)(a:ag):Oq Z (.obj a)=CG a (Z a):=id rfl
@[simp] theorem Ra(Z:St)(a:ag)(i:V):gX Z (.obj a) i=iH i (Z a):=by cases i<;>rfl
@[simp] theorem Sj(Z:St)(a:ag):mA Z (.obj a)=rN (Z a):=id rfl
@[simp] theorem Kc(Z:St)(a:ag):iM Z (.obj a)=Cq a (Z a):=id rfl
@[simp] theorem QG(Z:St)(a:ag):d7 Z (.obj a)=md (Z a):=id rfl
@[simp] theorem vI(Z:St)(a:ag):eg Z (.obj a)=BS (Z a):=id rfl
@[simp] theorem Rj(Z:St)(a:ag)(i v:V):qN Z (.obj a) i v=ji Z a i v (Z a):=by cases i<;>rfl
@[simp] theorem Tf(Z:St)(a:ag)(x:V):hU Z x (.obj a)=lH x (Z a):=by unfold hU lH;rfl
@[simp] theorem Td(a c:ag)(t:List (ak×V)):wY a (aa (.inst c t))=aa (a,c,t):=id rfl
@[simp] theorem Sg(a:ag)(l:List V):BX a (aa (.list l))=aa (a,l):=id rfl
@[simp] theorem Tx(a:ag)(l:List (Int×V)):CG a (aa (.idict l))=aa (a,l):=id rfl
@[simp] theorem Rf(k:Int)(l:List V):iH (.int k) (aa (.list l))=cg l k:=id rfl
@[simp] theorem Rh(k:Int)(l:List (Int×V)):iH (.int k) (aa (.idict l))=l.lookup k:=id rfl
@[simp] theorem Re(k:Int)(r:Nat)(l:List (Int×V)):iH (.int k) (aa (.pdict r l))=l.lookup k:=id rfl
@[simp] theorem Rc(k:ak)(l:List (ak×V)):iH (.str k) (aa (.sdict l))=l.lookup k:=id rfl
@[simp] theorem Sv(a:ag)(l:List V):Cq a (aa (.list l))=aa (l,aa (a,.list l)):=id rfl
@[simp] theorem R7(l:List V):BS (aa (.list l))=aa l:=id rfl
@[simp] theorem Tn(k:Int)(l:List (Int×V)):lH (.int k) (aa (.idict l))=aa (l.lookup k).isSome:=id rfl
@[simp] theorem Tl(k:Int)(r:Nat)(l:List (Int×V)):lH (.int k) (aa (.pdict r l))=aa (l.lookup k).isSome:=id rfl
@[simp] theorem Tk(k:ak)(l:List (ak×V)):lH (.str k) (aa (.sdict l))=aa (l.lookup k).isSome:=id rfl
@[simp] theorem Rl(Z:St)(a:ag)(k:Int)(v:V)(l:List V):ji Z a (.int k) v (aa (.list l))=if 0≤k∧k.toNat<l.length∧bj k=ae then aa (Z.Zv a (.list (l.set k.toNat v)))else ah:=id rfl
@[simp] theorem Rn(Z:St)(a:ag)(k:Int)(v:V)(l:List (Int×V)):ji Z a (.int k) v (aa (.idict l))=if l.length≤1000 then aa (Z.Zv a (.idict (cD k v l)))else ah:=id rfl
@[simp] theorem Rk(Z:St)(a:ag)(k:ak)(v:V)(l:List (ak×V)):ji Z a (.str k) v (aa (.sdict l))=if l.length≤1000 then aa (Z.Zv a (.sdict (cq k v l)))else ah:=id rfl
@[simp] theorem Sl(l:List V):rN (aa (.list l))=if l.length≤1000 then aa l.length else ah:=id rfl
@[simp] theorem Sk(l:List (Int×V)):rN (aa (.idict l))=if l.length≤1000 then aa l.length else ah:=id rfl
@[simp] theorem QM(l:List V):md (aa (.list l))=if l.length≤1000 then aa (!l.isEmpty)else ah:=id rfl
@[simp] theorem QK(Z:St)(b:Bool):d7 Z (.bool b)=aa b:=id rfl
@[simp] theorem QH(Z:St):d7 Z .none=aa aj:=id rfl
@[simp] theorem QJ(Z:St)(l:List V):d7 Z (.lst l)=if l.length≤1000 then aa (!l.isEmpty)else ah:=id rfl
@[simp] theorem Vo(i:Int):Oo (.int i)=aa i:=id rfl
@[simp] theorem Vm(i:ak):Ol (.str i)=aa i:=id rfl
@[simp] theorem Vk(i:List V):Ok (.tup i)=aa i:=id rfl
theorem Ox:(jz.all λs=>aO (s.length≤60))=ae:=by decide+kernel
theorem gp(i:Nat):(SM i).length≤60:=by
 revert i;apply aP;generalize e0 _=i;unfold SM;rw[zQ];cases h:jz[i]?with
 |none=>decide+kernel
 |some s=>exact of_decide_eq_true (dA.mp Ox s (kR h))
theorem qM(a b:ak):(a++b).length=a.length+b.length:=by show(a.cps++b.cps).size=a.cps.size+b.cps.size;exact Array.size_append
@[simp] theorem Ve(i j:Nat):cE .add (.str (SM i)) (.str (SM j))=aa (.str (SM i++SM j)):=by have:=gp i;have:=gp j;show(if _ then _ else _)=_;rw[if_pos (decide_eq_true (by lia))]
@[simp] theorem Vd(i c:Nat):cE .add (.str (SM i)) (.str ⟨#[c]⟩)=aa (.str (SM i++⟨#[c]⟩)):=by have:=gp i;show(if _ then _ else _)=_;rw[if_pos (decide_eq_true (by show(SM i).length+1≤1000;lia))]
@[simp] theorem Vc(i c j:Nat):cE .add (.str (SM i++⟨#[c]⟩)) (.str (SM j))=aa (.str (SM i++⟨#[c]⟩++SM j)):=by have:=gp i;have:=gp j;show(if _ then _ else _)=_;rw[if_pos (decide_eq_true (by rw[qM];show(SM i).length+1+(SM j).length≤1000;lia))]
@[simp] theorem TB(i j:Nat):((SM i).length+(SM j).length≤1000)=True:=by have:=gp i;have:=gp j;exact eq_true (by lia)
@[simp] theorem TA(h i c j:Nat):((SM h).length+(SM i++⟨#[c]⟩++SM j).length≤1000)=True:=by have:=gp i;have:=gp j;have:=gp h;exact eq_true (by rw[qM,qM];show(SM h).length+((SM i).length+1+(SM j).length)≤1000;lia)
@[simp] theorem Tz(h i j:Nat):((SM h).length+(SM i++SM j).length≤1000)=True:=by have:=gp i;have:=gp j;have:=gp h;exact eq_true (by rw[qM];lia)
@[simp] theorem UU(Z:St)(i:Int):bq .str_ Z (.int i)=if 0≤i∧i<10 then aa (.str ⟨#[48+i.toNat]⟩)else ah:=id rfl
@[simp] theorem Ty(a:Int):a.fmod 256=a % 256:=l8 _ (by decide)
@[simp] theorem R6:bC (0:Nat) 1=0∧bC (0:Nat) 2=0∧bC (0:Nat) 3=0∧bC (0:Nat) 4=0∧bC (0:Nat) 5=0∧bC (0:Nat) 6=0∧bC (1:Nat) 0=0∧bC (1:Nat) 2=1∧bC (1:Nat) 3=1∧bC (2:Nat) 0=0∧bC (2:Nat) 1=1∧bC (2:Nat) 3=2∧bC (2:Nat) 4=2∧bC (2:Nat) 5=2∧bC (2:Nat) 6=2∧bC (3:Nat) 0=0:=by and_intros<;>exact id rfl
@[simp] theorem R5:bC (3:Nat) 1=1∧bC (3:Nat) 2=2∧bC (4:Nat) 6=4:=by and_intros<;>exact id rfl
theorem mn{i:Int}(R: -1000000000000000000≤i)(H:i≤1000000000000000000):bj i=ae:=by unfold bj;exact decide_eq_true (by lia)
@[simp] theorem Au:bj 0=ae:=by unfold bj;rfl
@[simp] theorem At:bj 1=ae:=by unfold bj;rfl
@[simp] theorem As:bj 2=ae:=by unfold bj;rfl
@[simp] theorem Ar:bj 3=ae:=by unfold bj;rfl
@[simp] theorem Aq:bj 4=ae:=by unfold bj;rfl
@[simp] theorem Ap:bj 5=ae:=by unfold bj;rfl
@[simp] theorem Rx:bj 6=ae:=by unfold bj;rfl
@[simp] theorem Rw:bj 7=ae:=by unfold bj;rfl
@[simp] theorem Ru:bj 8=ae:=by unfold bj;rfl
@[simp] theorem Rt:bj 9=ae:=by unfold bj;rfl
@[simp] theorem RA:bj 10=ae:=by unfold bj;rfl
@[simp] theorem Rz:bj 39373=ae:=by unfold bj;rfl
@[simp] theorem Ry:bj 48271=ae:=by unfold bj;rfl
@[simp] theorem Am:bj (-1)=ae:=by unfold bj;rfl
@[simp] theorem w8(O:V)(l:List V):cg (O::l) 0=aa O:=by simp[cg,Au]
@[simp] theorem Kr(W O:V)(l:List V):cg (W::O::l) 1=aa O:=by simp[cg,At]
@[simp] theorem Kq(W Z O:V)(l:List V):cg (W::Z::O::l) 2=aa O:=by simp[cg,As]
@[simp] theorem Tv(O W Z e:V)(l:List V):cg (O::W::Z::e::l) 3=aa e:=by simp[cg,Ar]
@[simp] theorem Tu(O W Z e q:V)(l:List V):cg (O::W::Z::e::q::l) 4=aa q:=by simp[cg,Aq]
@[simp] theorem Tt(O W Z e q r:V)(l:List V):cg (O::W::Z::e::q::r::l) 5=aa r:=by simp[cg,Ap]
@[simp] theorem Ts(x:V):cg [x] (-1)=aa x:=by simp[cg,Am]
@[simp] theorem Tq(x y:V):cg [x,y] (-1)=aa y:=by simp[cg,Am]
@[simp] theorem Ab(Z:St)(l:List V)(k:Int):gX Z (.tup l) (.int k)=cg l k:=id rfl
@[simp] theorem Rb(Z:St)(l:List V)(k:Int):gX Z (.lst l) (.int k)=cg l k:=id rfl
@[simp] theorem Vg(a b:Int):cE .add (.int a) (.int b)=aa (.int (a+b)):=id rfl
@[simp] theorem U0(a b:Int):cE .sub (.int a) (.int b)=aa (.int (a-b)):=id rfl
@[simp] theorem U9(a b:Int):cE .mul (.int a) (.int b)=if bj a&&bj b then aa (.int (a*b))else ah:=id rfl
@[simp] theorem Va(a b:Int):cE .mod (.int a) (.int b)=if b=0 then ah else aa (.int (a.fmod b)):=id rfl
@[simp] theorem Vb(a b:Int):cE .fdiv (.int a) (.int b)=if b=0∨b.natAbs≥1073741824 then ah else aa (.int (a.fdiv b)):=id rfl
@[simp] theorem U8(a b:Int):cE .pow (.int a) (.int b)=if bj a&&aO (0≤b)&&aO (b≤100)then aa (.int (a^b.toNat))else ah:=id rfl
@[simp] theorem Vf(a b:List V):cE .add (.lst a) (.lst b)=if aO (a.length+b.length≤1000)then aa (.lst (a++b))else ah:=id rfl
@[simp] theorem U7(u:V)(b:Int):cE .mul (.lst [u]) (.int b)=if aO (0≤b)&&aO (b≤1000)then aa (.lst (bA b.toNat u))else ah:=id rfl
@[simp] theorem UK(Z:St)(a b:Int):bD .lt Z (.int a) (.int b)=aa (aO (a<b)):=id rfl
@[simp] theorem UL(Z:St)(a b:Int):bD .le Z (.int a) (.int b)=aa (aO (a≤b)):=id rfl
@[simp] theorem UP(Z:St)(a b:Int):bD .gt Z (.int a) (.int b)=aa (aO (b<a)):=id rfl
@[simp] theorem UQ(Z:St)(a b:Int):bD .ge Z (.int a) (.int b)=aa (aO (b≤a)):=id rfl
@[simp] theorem UN(Z:St)(x y:V):bD .is_ Z x y=gk x y:=id rfl
@[simp] theorem UM(Z:St)(x y:V):bD .isNot Z x y=(gk x y).map (!·):=id rfl
@[simp] theorem UO(Z:St)(x y:V):bD .in_ Z x y=hU Z x y:=id rfl
@[simp] theorem UJ(Z:St)(x y:V):bD .notIn Z x y=(hU Z x y).map (!·):=id rfl
@[simp] theorem SD:gk .none .none=aa ae:=id rfl
@[simp] theorem SG(a:Int):gk (.int a) .none=aa aj:=id rfl
@[simp] theorem SH(a:Bool):gk (.bool a) .none=aa aj:=id rfl
@[simp] theorem Sz(a:ak):gk (.str a) .none=aa aj:=id rfl
@[simp] theorem Sy(a:List V):gk (.tup a) .none=aa aj:=id rfl
@[simp] theorem SE(a:List V):gk (.lst a) .none=aa aj:=id rfl
@[simp] theorem SC(a:ag):gk (.obj a) .none=aa aj:=id rfl
noncomputable def yk(e:Option Bool)(Z:St)(x y:V):Option Bool:=a9 e (Do Z x y) aa
noncomputable def si(e:Option Bool)(Z:St)(x y:V):Option Bool:=a9 e ((iP Z x y).map (!·)) λb=>aa (!b)
@[simp] theorem NC(Z:St)(x y:V):bD .eq Z x y=yk (cM Z x y) Z x y:=id rfl
@[simp] theorem El(Z:St)(x y:V):bD .ne Z x y=si (cM Z x y) Z x y:=id rfl
noncomputable def yj(e:Option Bool)(Z:St)(x y:V):Option Bool:=a9 e (jZ Z x y) aa
@[simp] theorem K4(Z:St)(x y:V):yk ah Z x y=yj (iP Z x y) Z x y:=id rfl
@[simp] theorem Uo(b:Bool)(Z:St)(x y:V):yk (aa b) Z x y=aa b:=id rfl
@[simp] theorem K3(b:Bool)(Z:St)(x y:V):yj (aa b) Z x y=aa b:=id rfl
@[simp] theorem Um(Z:St)(x y:V):yj ah Z x y=jZ Z x y:=id rfl
@[simp] theorem Dp(Z:St)(x y:V):si ah Z x y=(iP Z x y).map (!·):=id rfl
@[simp] theorem Un(b:Bool)(Z:St)(x y:V):si (aa b) Z x y=aa (!b):=id rfl
@[simp] theorem Uq(Z:St)(y:V):cM Z (.none) y=ah:=id rfl
@[simp] theorem Ux(Z:St)(x:V):cM Z x (.none)=ah:=by unfold cM;cases eg Z x<;>rfl
@[simp] theorem Ur(Z:St)(a:Int)(y:V):cM Z (.int a) y=ah:=id rfl
@[simp] theorem Uy(Z:St)(a:Int)(x:V):cM Z x (.int a)=ah:=by unfold cM;cases eg Z x<;>rfl
@[simp] theorem Us(Z:St)(a:Bool)(y:V):cM Z (.bool a) y=ah:=id rfl
@[simp] theorem Uz(Z:St)(a:Bool)(x:V):cM Z x (.bool a)=ah:=by unfold cM;cases eg Z x<;>rfl
@[simp] theorem Mj(Z:St)(a:ak)(y:V):cM Z (.str a) y=ah:=id rfl
@[simp] theorem Uv(Z:St)(a:ak)(x:V):cM Z x (.str a)=ah:=by unfold cM;cases eg Z x<;>rfl
@[simp] theorem Up(Z:St)(a:List V)(y:V):cM Z (.tup a) y=ah:=id rfl
@[simp] theorem Uu(Z:St)(a:List V)(x:V):cM Z x (.tup a)=ah:=by unfold cM;cases eg Z x<;>rfl
@[simp] theorem Uw(Z:St)(a:ag)(x:V):cM Z x (.obj a)=ah:=by unfold cM;cases eg Z x<;>rfl
@[simp] theorem DI(Z:St)(a:V)(l:List V)(x:V):cM Z x (.lst (a::l))=ah:=by unfold cM;cases eg Z x<;>rfl
noncomputable def yt:Option (List V)→Option Bool:=λo=>o.map List.isEmpty
@[simp] theorem Mk(Z:St)(x:V):cM Z x (.lst [])=yt (eg Z x):=by unfold cM yt;cases eg Z x<;>rfl
@[simp] theorem Ut(l:List V):yt (aa l)=aa l.isEmpty:=id rfl
@[simp] theorem Se(Z:St)(l:List V):eg Z (.lst l)=aa l:=id rfl
noncomputable def yx(Z:St)(k:Nat)(o:Option O):Option bk:=hJ o λl=>(fk (bP Z k) l).map .list
@[simp] theorem pA(Z:St)(x y:V):iP Z x y=mS (bP Z 8 x) (bP Z 8 y):=by unfold iP mS;rfl
@[simp] theorem sh(d e:bk):mS (aa d) (aa e)=aa (aZ d e):=id rfl
@[simp] theorem Ul(e:Option bk):mS ah e=ah:=by unfold mS;rfl
@[simp] theorem UD(Z:St)(k:Nat):bP Z (k+1) .none=aa .none:=id rfl
@[simp] theorem UE(Z:St)(k:Nat)(i:Int):bP Z (k+1) (.int i)=aa (.int i):=id rfl
@[simp] theorem UF(Z:St)(k:Nat)(i:Bool):bP Z (k+1) (.bool i)=aa (.bool i):=id rfl
@[simp] theorem Ms(Z:St)(k:Nat)(i:Nat):bP Z (k+1) (.str (SM i))=aa (.str (SM i)):=if_pos (Ov i)
@[simp] theorem Mr(Z:St)(k:Nat)(l:List V):bP Z (k+1) (.tup l)=(fk (bP Z k) l).map .tuple:=id rfl
@[simp] theorem DQ(Z:St)(k:Nat)(l:List V):bP Z (k+1) (.lst l)=(fk (bP Z k) l).map .list:=id rfl
@[simp] theorem pJ(Z:St)(k:Nat)(a:ag):bP Z (k+1) (.obj a)=yx Z k (Z a):=id rfl
@[simp] theorem DS(Z:St)(k:Nat)(l:List V):yx Z k (aa (.list l))=(fk (bP Z k) l).map .list:=id rfl
@[simp] theorem UG(Z:St)(k:Nat)(c:ag)(t:List (ak×V)):yx Z k (aa (.inst c t))=ah:=id rfl
@[simp] theorem Mp(f:V→Option bk):fk f []=aa []:=id rfl
@[simp] theorem sx(f:V→Option bk)(x:V)(r:List V):fk f (x::r)=pI (f x) (fk f r):=by
 rfl
@[simp] theorem yw(d:bk)(c:List bk):pI (aa d) (aa c)=aa (d::c):=id rfl
@[simp] theorem UC(o:Option (List bk)):pI ah o=ah:=by unfold pI;rfl
@[simp] theorem Te(Z:St)(x:V)(l:List V):hU Z x (.tup l)=jt (bP Z 8 (.tup l)) (bP Z 8 x):=by unfold hU jt;rfl
@[simp] theorem Th(Z:St)(x:V)(l:List V):hU Z x (.lst l)=jt (bP Z 8 (.lst l)) (bP Z 8 x):=by unfold hU jt;rfl
@[simp] theorem Ti(f:List bk)(d:bk):jt (aa (.tuple f)) (aa d)=aa (f.any λy=>aZ y d):=id rfl
@[simp] theorem Tj(f:List bk)(d:bk):jt (aa (.list f)) (aa d)=aa (f.any λy=>aZ y d):=id rfl
@[simp] theorem TN{i j:Nat}(f:i<252)(J:j<252):aZ (.str (SM i)) (.str (SM j))=aO (i=j):=by unfold aZ;exact E6 f J
@[simp] theorem Ud(i j:Int):aZ (.int i) (.int j)=(i==j):=by unfold aZ;rfl
@[simp] theorem Ui(i j:Bool):aZ (.bool i) (.bool j)=(i==j):=by unfold aZ;rfl
@[simp] theorem TY:aZ .none .none=ae:=by unfold aZ;rfl
@[simp] theorem T0(y:Int):aZ (.none) (.int y)=aj:=by unfold aZ;rfl
@[simp] theorem T1(y:Bool):aZ (.none) (.bool y)=aj:=by unfold aZ;rfl
@[simp] theorem TX(y:ak):aZ (.none) (.str y)=aj:=by unfold aZ;rfl
@[simp] theorem TV(y:List bk):aZ (.none) (.tuple y)=aj:=by unfold aZ;rfl
@[simp] theorem TZ(y:List bk):aZ (.none) (.list y)=aj:=by unfold aZ;rfl
@[simp] theorem Ub(x:Int):aZ (.int x) (.none)=aj:=by unfold aZ;rfl
@[simp] theorem Ua(x:Int)(y:ak):aZ (.int x) (.str y)=aj:=by unfold aZ;rfl
@[simp] theorem T9(x:Int)(y:List bk):aZ (.int x) (.tuple y)=aj:=by unfold aZ;rfl
@[simp] theorem Uc(x:Int)(y:List bk):aZ (.int x) (.list y)=aj:=by unfold aZ;rfl
@[simp] theorem Ug(x:Bool):aZ (.bool x) (.none)=aj:=by unfold aZ;rfl
@[simp] theorem Uf(x:Bool)(y:ak):aZ (.bool x) (.str y)=aj:=by unfold aZ;rfl
@[simp] theorem Ue(x:Bool)(y:List bk):aZ (.bool x) (.tuple y)=aj:=by unfold aZ;rfl
@[simp] theorem Uh(x:Bool)(y:List bk):aZ (.bool x) (.list y)=aj:=by unfold aZ;rfl
@[simp] theorem TO(x:ak):aZ (.str x) (.none)=aj:=by unfold aZ;rfl
@[simp] theorem TS(x:ak)(y:Int):aZ (.str x) (.int y)=aj:=by unfold aZ;rfl
@[simp] theorem TU(x:ak)(y:Bool):aZ (.str x) (.bool y)=aj:=by unfold aZ;rfl
@[simp] theorem TM(x:ak)(y:List bk):aZ (.str x) (.tuple y)=aj:=by unfold aZ;rfl
@[simp] theorem TQ(x:ak)(y:List bk):aZ (.str x) (.list y)=aj:=by unfold aZ;rfl
@[simp] theorem TH(x:List bk):aZ (.tuple x) (.none)=aj:=by unfold aZ;rfl
@[simp] theorem TJ(x:List bk)(y:Int):aZ (.tuple x) (.int y)=aj:=by unfold aZ;rfl
@[simp] theorem TL(x:List bk)(y:Bool):aZ (.tuple x) (.bool y)=aj:=by unfold aZ;rfl
@[simp] theorem TG(x:List bk)(y:ak):aZ (.tuple x) (.str y)=aj:=by unfold aZ;rfl
@[simp] theorem TI(x:List bk)(y:List bk):aZ (.tuple x) (.list y)=aj:=by unfold aZ;rfl
@[simp] theorem T6(x:List bk):aZ (.list x) (.none)=aj:=by unfold aZ;rfl
@[simp] theorem T7(x:List bk)(y:Int):aZ (.list x) (.int y)=aj:=by unfold aZ;rfl
@[simp] theorem T8(x:List bk)(y:Bool):aZ (.list x) (.bool y)=aj:=by unfold aZ;rfl
@[simp] theorem T4(x:List bk)(y:ak):aZ (.list x) (.str y)=aj:=by unfold aZ;rfl
@[simp] theorem T2(x:List bk)(y:List bk):aZ (.list x) (.tuple y)=aj:=by unfold aZ;rfl
@[simp] theorem Dm(x y:List bk):aZ (.tuple x) (.tuple y)=fY x y:=by conv=>lhs;unfold aZ
@[simp] theorem yg(x y:List bk):aZ (.list x) (.list y)=fY x y:=by conv=>lhs;unfold aZ
@[simp] theorem yh:fY [] []=ae:=by unfold fY;rfl
@[simp] theorem sg(x y:bk)(D f:List bk):fY (x::D) (y::f)=(aZ x y&&fY D f):=by conv=>lhs;unfold fY
@[simp] theorem Uk(x:bk)(D:List bk):fY (x::D) []=aj:=by unfold fY;rfl
@[simp] theorem Uj(x:bk)(D:List bk):fY [] (x::D)=aj:=by unfold fY;rfl
@[simp] theorem Sw(Z:St)(l:List V):iM Z (.tup l)=aa (l,ah):=id rfl
@[simp] theorem wU(Z:St)(l:List V):iM Z (.lst l)=aa (l,ah):=id rfl
@[simp] theorem Rs(Z:St):dk ah Z=True:=id rfl
@[simp] theorem Rr(a:ag)(o:O)(Z:St):dk (aa (a,o)) Z=(Z a=aa o):=id rfl
@[simp] theorem Sh(Z:St)(l:List V):mA Z (.tup l)=if l.length≤1000 then aa l.length else ah:=id rfl
@[simp] theorem Si(Z:St)(l:List V):mA Z (.lst l)=if l.length≤1000 then aa l.length else ah:=id rfl
@[simp] theorem UX(Z:St)(v:V):bq .len Z v=(mA Z v).map λn:Nat=>.int n:=by
 revert Z v;apply bF;generalize e1 _=Z,e0 _=v;unfold bq;cases mA Z v<;>rfl
@[simp] theorem SZ(Z:St):bq .isInt Z (.none)=aa (.bool aj):=id rfl
@[simp] theorem S4(Z:St)(a:Int):bq .isInt Z (.int a)=aa (.bool ae):=id rfl
@[simp] theorem S5(Z:St)(a:Bool):bq .isInt Z (.bool a)=aa (.bool ae):=id rfl
@[simp] theorem SY(Z:St)(a:ak):bq .isInt Z (.str a)=aa (.bool aj):=id rfl
@[simp] theorem SX(Z:St)(a:List V):bq .isInt Z (.tup a)=aa (.bool aj):=id rfl
@[simp] theorem S3(Z:St)(a:List V):bq .isInt Z (.lst a)=aa (.bool aj):=id rfl
@[simp] theorem S8(Z:St):bq .isBool Z (.none)=aa (.bool aj):=id rfl
@[simp] theorem Ta(Z:St)(a:Int):bq .isBool Z (.int a)=aa (.bool aj):=id rfl
@[simp] theorem Tb(Z:St)(a:Bool):bq .isBool Z (.bool a)=aa (.bool ae):=id rfl
@[simp] theorem S7(Z:St)(a:ak):bq .isBool Z (.str a)=aa (.bool aj):=id rfl
@[simp] theorem S6(Z:St)(a:List V):bq .isBool Z (.tup a)=aa (.bool aj):=id rfl
@[simp] theorem S9(Z:St)(a:List V):bq .isBool Z (.lst a)=aa (.bool aj):=id rfl
@[simp] theorem SK(Z:St):bq .isTuple Z (.none)=aa (.bool aj):=id rfl
@[simp] theorem SN(Z:St)(a:Int):bq .isTuple Z (.int a)=aa (.bool aj):=id rfl
@[simp] theorem SO(Z:St)(a:Bool):bq .isTuple Z (.bool a)=aa (.bool aj):=id rfl
@[simp] theorem SJ(Z:St)(a:ak):bq .isTuple Z (.str a)=aa (.bool aj):=id rfl
@[simp] theorem SI(Z:St)(a:List V):bq .isTuple Z (.tup a)=aa (.bool ae):=id rfl
@[simp] theorem SL(Z:St)(a:List V):bq .isTuple Z (.lst a)=aa (.bool aj):=id rfl
@[simp] theorem SR(Z:St):bq .isStr Z (.none)=aa (.bool aj):=id rfl
@[simp] theorem ST(Z:St)(a:Int):bq .isStr Z (.int a)=aa (.bool aj):=id rfl
@[simp] theorem SV(Z:St)(a:Bool):bq .isStr Z (.bool a)=aa (.bool aj):=id rfl
@[simp] theorem SQ(Z:St)(a:ak):bq .isStr Z (.str a)=aa (.bool ae):=id rfl
@[simp] theorem SP(Z:St)(a:List V):bq .isStr Z (.tup a)=aa (.bool aj):=id rfl
@[simp] theorem SS(Z:St)(a:List V):bq .isStr Z (.lst a)=aa (.bool aj):=id rfl
@[simp] theorem UW(Z:St)(l:List V):bq .list_ Z (.lst l)=if l.length≤1000 then aa (.lst l)else ah:=id rfl
@[simp] theorem UV(Z:St)(l:List V):bq .list_ Z (.tup l)=if l.length≤1000 then aa (.lst l)else ah:=id rfl
@[simp] theorem US(Z:St)(l:List V):bq .tuple_ Z (.lst l)=if l.length≤1000 then aa (.tup l)else ah:=id rfl
@[simp] theorem UR(Z:St)(l:List V):bq .tuple_ Z (.tup l)=aa (.tup l):=id rfl
@[simp] theorem UT(Z:St)(l:List V):bq .sum_ Z (.lst l)=(kZ l 0).map .int:=id rfl
@[simp] theorem Q8(s:Int):kZ [] s=aa s:=id rfl
@[simp] theorem Q9(i s:Int)(r:List V):kZ (.int i::r) s=kZ r (s+i):=id rfl
@[simp] theorem rt{O W:Type}(f:O→W)(x:O):(aa x).map f=aa (f x):=id rfl
@[simp] theorem RZ{O W:Type}(f:O→W):(ah:Option O).map f=ah:=id rfl
@[simp] theorem RK(l:List V):qW (.lst l)=if l.length≤1000 then aa (.lst l.reverse)else ah:=id rfl
noncomputable def Ay(l:List V):Option Nat→Option Nat→Option V:=λa b=>o2 a b λa b=>if l.length≤1000 then aa (.tup ((l.take b).drop a))else ah
noncomputable def Az(l:List V):Option Nat→Option Nat→Option V:=λa b=>o2 a b λa b=>if l.length≤1000 then aa (.lst ((l.take b).drop a))else ah
@[simp] theorem RB(l:List V)(S f:V):lb (.tup l) S f=Ay l (iR l.length 0 S) (iR l.length l.length f):=id rfl
@[simp] theorem RD(l:List V)(S f:V):lb (.lst l) S f=Az l (iR l.length 0 S) (iR l.length l.length f):=id rfl
@[simp] theorem RH(l:List V)(a b:Nat):Ay l (aa a) (aa b)=if l.length≤1000 then aa (.tup ((l.take b).drop a))else ah:=id rfl
@[simp] theorem RI(l:List V)(a b:Nat):Az l (aa a) (aa b)=if l.length≤1000 then aa (.lst ((l.take b).drop a))else ah:=id rfl
@[simp] theorem UH(m d:Nat):iR m d .none=aa d:=id rfl
@[simp] theorem UI(m d:Nat)(i:Int):iR m d (.int i)=if 0≤i then aa (bC i.toNat m)else ah:=id rfl
@[simp] theorem TE(l:List V):pt (.lst l)=aa l:=id rfl
@[simp] theorem TD(l:List V):pt (.tup l)=aa l:=id rfl
@[simp] theorem RM:fO 0 0=[]∧fO 0 1=[.int 0]∧fO 0 2=[.int 0,.int 1]∧fO 0 3=[.int 0,.int 1,.int 2]∧fO 0 4=[.int 0,.int 1,.int 2,.int 3]∧fO 0 5=[.int 0,.int 1,.int 2,.int 3,.int 4]∧fO 0 6=[.int 0,.int 1,.int 2,.int 3,.int 4,.int 5]∧fO 0 7=[.int 0,.int 1,.int 2,.int 3,.int 4,.int 5,.int 6]∧oq (-1) (-1) (-1)=aa []∧oq (0) (-1) (-1)=aa [.int 0]∧oq (1) (-1) (-1)=aa [.int 1,.int 0]∧oq (2) (-1) (-1)=aa [.int 2,.int 1,.int 0]:=by and_intros<;>exact id rfl
@[simp] theorem Tm(u:List V)(e:Option (Bool×V)):lH (.tup u) (aa (.kdict e))=(gj (.tup u)).map λk=>mG e k:=id rfl
@[simp] theorem Ss(k:Bool):mG ah k=aj:=id rfl
@[simp] theorem Sr(k S:Bool)(v:V):mG (aa (S,v)) k=aO (S=k):=id rfl
@[simp] theorem Rg(u:List V)(k:Bool)(v:V):iH (.tup u) (aa (.kdict (aa (k,v))))=qK k v (gj (.tup u)):=by
 revert u k v;apply bY;generalize e2 _=u,e1 _=k,e0 _=v;simp only[iH,qK];cases gj (.tup u)<;>rfl
@[simp] theorem Ri(k:Bool)(v:V):qK k v (aa k)=aa v:=if_pos rfl
@[simp] theorem Rm(Z:St)(a:ag)(u:List V)(v:V)(e:Option (Bool×V)):ji Z a (.tup u) v (aa (.kdict e))=k7 Z a v e (gj (.tup u)):=by
 revert Z a u v e;apply eE;generalize e4 _=Z,e3 _=a,e2 _=u,e1 _=v,e0 _=e;simp only[ji,k7];cases e<;>cases gj (.tup u)<;>rfl
@[simp] theorem Rp(Z:St)(a:ag)(v:V)(k:Bool):k7 Z a v ah (aa k)=aa (Z.Zv a (.kdict (aa (k,v)))):=id rfl
@[simp] theorem Ro(Z:St)(a:ag)(v u:V)(k:Bool):k7 Z a v (aa (k,u)) (aa k)=aa (Z.Zv a (.kdict (aa (k,v)))):=if_pos rfl
@[simp] theorem Sn:gj (.tup [.str (SM 99),.tup []])=aa aj∧gj (.tup [.str (SM 99),.tup [.tup [.str (SM 29),.str (SM 23)],.tup [.str (SM 44)]]])=aa ae∧TT.meth 370 (SM 94)=aa 334∧TT.meth 370 (SM 63)=aa 353∧TT.meth 370 (SM 104)=aa 360∧TT.meth 512 (SM 160)=aa 436∧TT.meth 512 (SM 42)=aa 443∧TT.meth 512 (SM 144)=aa 450∧TT.meth 512 (SM 204)=aa 455∧TT.meth 512 (SM 50)=aa 462∧TT.meth 512 (SM 64)=aa 469∧TT.meth 512 (SM 63)=aa 476∧TT.meth 512 (SM 104)=aa 490∧TT.meth 512 (SM 169)=aa 495∧TT.meth 512 (SM 193)=aa 502∧TT.meth 868 (SM 142)=aa 816:=by and_intros<;>kernel_rfl
@[simp] theorem QN:TT.meth 868 (SM 153)=aa 823∧TT.meth 868 (SM 63)=aa 851∧TT.meth 868 (SM 90)=aa 858∧TT.meth 868 (SM 97)=aa 865∧TT.meth 936 (SM 78)=aa 893∧TT.meth 936 (SM 123)=aa 907∧TT.meth 936 (SM 57)=aa 933∧TT.meth 1079 (SM 203)=aa 1001∧TT.meth 1079 (SM 138)=aa 1008∧TT.meth 1079 (SM 81)=aa 1015∧TT.meth 1079 (SM 188)=aa 1022∧TT.meth 1079 (SM 186)=aa 1029∧TT.meth 1079 (SM 222)=aa 1050∧TT.meth 1079 (SM 140)=aa 1076:=by and_intros<;>kernel_rfl
@[simp] theorem QW:TT.init 370=aa 327:=by rfl
@[simp] theorem QU:TT.init 404=aa 401:=by rfl
@[simp] theorem QS:TT.init 512=aa 422:=by rfl
@[simp] theorem QR:TT.init 761=aa 737:=by rfl
@[simp] theorem QQ:TT.init 868=aa 809:=by rfl
@[simp] theorem QP:TT.init 936=aa 886:=by rfl
@[simp] theorem QO:TT.init 964=aa 954:=by rfl
@[simp] theorem Q0:TT.init 1079=aa 989:=by rfl
@[simp] theorem QZ:TT.init 1144=aa 1098:=by rfl
@[simp] theorem QY:TT.init 1173=aa 1163:=by rfl
@[simp] theorem Q3:TT.field 370 (SM 87)=ae∧TT.store 370 (SM 87)=ae∧TT.field 404 (SM 78)=ae∧TT.store 404 (SM 78)=ae∧TT.field 404 (SM 128)=ae∧TT.store 404 (SM 128)=ae∧TT.field 404 (SM 144)=ae∧TT.store 404 (SM 144)=ae∧TT.field 512 (SM 214)=ae∧TT.store 512 (SM 214)=ae∧TT.field 512 (SM 58)=ae∧TT.store 512 (SM 58)=ae∧TT.field 512 (SM 68)=ae∧TT.store 512 (SM 68)=ae∧TT.field 761 (SM 124)=ae∧TT.store 761 (SM 124)=ae:=by and_intros<;>kernel_rfl
@[simp] theorem Q2:TT.field 761 (SM 103)=ae∧TT.store 761 (SM 103)=ae∧TT.field 868 (SM 120)=ae∧TT.store 868 (SM 120)=ae∧TT.field 868 (SM 103)=ae∧TT.store 868 (SM 103)=ae∧TT.field 936 (SM 124)=ae∧TT.store 936 (SM 124)=ae∧TT.field 936 (SM 103)=ae∧TT.store 936 (SM 103)=ae∧TT.field 964 (SM 43)=ae∧TT.store 964 (SM 43)=ae∧TT.field 964 (SM 130)=ae∧TT.store 964 (SM 130)=ae∧TT.field 964 (SM 73)=ae∧TT.store 964 (SM 73)=ae:=by and_intros<;>kernel_rfl
@[simp] theorem Q1:TT.field 964 (SM 84)=ae∧TT.store 964 (SM 84)=ae∧TT.field 964 (SM 76)=ae∧TT.store 964 (SM 76)=ae∧TT.field 964 (SM 86)=ae∧TT.store 964 (SM 86)=ae∧TT.field 964 (SM 53)=ae∧TT.store 964 (SM 53)=ae∧TT.field 1079 (SM 150)=ae∧TT.store 1079 (SM 150)=ae∧TT.field 1079 (SM 103)=ae∧TT.store 1079 (SM 103)=ae∧TT.field 1079 (SM 116)=ae∧TT.store 1079 (SM 116)=ae∧TT.field 1079 (SM 51)=ae∧TT.store 1079 (SM 51)=ae:=by and_intros<;>kernel_rfl
@[simp] theorem Q6:TT.field 1079 (SM 120)=ae∧TT.store 1079 (SM 120)=ae∧TT.field 1079 (SM 124)=ae∧TT.store 1079 (SM 124)=ae∧TT.field 1079 (SM 151)=ae∧TT.store 1079 (SM 151)=ae∧TT.field 1079 (SM 52)=ae∧TT.store 1079 (SM 52)=ae∧TT.field 1079 (SM 55)=ae∧TT.store 1079 (SM 55)=ae∧TT.field 1079 (SM 115)=ae∧TT.store 1079 (SM 115)=ae∧TT.field 1079 (SM 125)=ae∧TT.store 1079 (SM 125)=ae∧TT.field 1079 (SM 148)=ae∧TT.store 1079 (SM 148)=ae:=by and_intros<;>kernel_rfl
@[simp] theorem Q5:TT.field 1144 (SM 60)=ae∧TT.store 1144 (SM 60)=ae∧TT.field 1144 (SM 182)=ae∧TT.store 1144 (SM 182)=ae∧TT.field 1144 (SM 119)=ae∧TT.store 1144 (SM 119)=ae∧TT.field 1144 (SM 110)=ae∧TT.store 1144 (SM 110)=ae∧TT.field 1144 (SM 96)=ae∧TT.store 1144 (SM 96)=ae∧TT.field 1173 (SM 147)=ae∧TT.store 1173 (SM 147)=ae∧TT.field 1173 (SM 40)=ae∧TT.store 1173 (SM 40)=ae∧TT.field 1173 (SM 172)=ae∧TT.store 1173 (SM 172)=ae:=by and_intros<;>kernel_rfl
@[simp] theorem Q4:TT.field 1173 (SM 65)=ae∧TT.store 1173 (SM 65)=ae∧TT.field 1173 (SM 131)=ae∧TT.store 1173 (SM 131)=ae∧TT.field 1173 (SM 85)=ae∧TT.store 1173 (SM 85)=ae∧TT.field 1173 (SM 113)=ae∧TT.store 1173 (SM 113)=ae∧TT.field 1173 (SM 111)=ae∧TT.store 1173 (SM 111)=ae∧TT.glob.lookup (SM 212)=aa (.tup [(.str (SM 17)),(.str (SM 14)),(.str (SM 6)),(.str (SM 16)),(.str (SM 7)),(.str (SM 18))])∧TT.glob.lookup (SM 195)=aa (.int 200000)∧TT.glob.lookup (SM 236)=aa (.int 100)∧TT.glob.lookup (SM 196)=aa (.int 65536)∧TT.glob.lookup (SM 70)=aa (.int 0)∧TT.glob.lookup (SM 107)=aa (.tup [(.str (SM 132))]):=by and_intros<;>kernel_rfl
@[simp] theorem Q7:TT.bits.lookup (SM 23)=aa 8:=by kernel_rfl
section
variable{D:Nat→CS} [Cl TT cy D]{n:Nat}{Z:St}{Q:QV}{X:QX}
theorem en{f:ag}{d:Fn}{L:List V}{S:aA}(O:cy f=aa d)(i:EQ d L=aa S)(h:aM TT d.body ⟨D,n,X,S⟩ (aQ Q) Z):D (n+1) f L Z Q X:=Cl.enter O i h
theorem Mh{O:V}(h:aM TT xl.body (ax 34 O ⟨D,n,X,[]⟩) (aQ Q) Z):D (n+1) 105 [O] Z Q X:=en (f:=105) rfl rfl h
theorem Md{O:V}(h:aM TT C1.body (ax 34 O ⟨D,n,X,[]⟩) (aQ Q) Z):D (n+1) 112 [O] Z Q X:=en (f:=112) rfl rfl h
theorem L9{O:V}(h:aM TT C8.body (ax 34 O ⟨D,n,X,[]⟩) (aQ Q) Z):D (n+1) 119 [O] Z Q X:=en (f:=119) rfl rfl h
theorem LS{O W:V}(h:aM TT C9.body (ax 34 O (ax 96 W ⟨D,n,X,[]⟩)) (aQ Q) Z):D (n+1) 126 [O,W] Z Q X:=en (f:=126) rfl rfl h
theorem LG{O W:V}(h:aM TT CP.body (ax 34 O (ax 96 W ⟨D,n,X,[]⟩)) (aQ Q) Z):D (n+1) 133 [O,W] Z Q X:=en (f:=133) rfl rfl h
theorem LF{O W U:V}(h:aM TT xo.body (ax 6 O (ax 1 W (ax 2 U ⟨D,n,X,[]⟩))) (aQ Q) Z):D (n+1) 154 [O,W,U] Z Q X:=en (f:=154) rfl rfl h
theorem LE{O W U e:V}(h:aM TT xt.body (ax 34 O (ax 6 W (ax 1 U (ax 2 e ⟨D,n,X,[]⟩)))) (aQ Q) Z):D (n+1) 161 [O,W,U,e] Z Q X:=en (f:=161) rfl rfl h
theorem LD{O W U:V}(h:aM TT xr.body (ax 6 O (ax 1 W (ax 2 U ⟨D,n,X,[]⟩))) (aQ Q) Z):D (n+1) 182 [O,W,U] Z Q X:=en (f:=182) rfl rfl h
theorem sk{O W:V}(h:aM TT CU.body (ax 51 O (ax 85 W ⟨D,n,X,[]⟩)) (aQ Q) Z):D (n+1) 270 [O,W] Z Q X:=en (f:=270) rfl rfl h
theorem sj{O W U e:V}(h:aM TT mQ.body (ax 51 O (ax 85 W (ax 23 U (ax 66 e ⟨D,n,X,[]⟩)))) (aQ Q) Z):D (n+1) 277 [O,W,U,e] Z Q X:=en (f:=277) rfl rfl h
theorem DC{O W U e:V}(h:aM TT r6.body (ax 51 O (ax 85 W (ax 23 U (ax 66 e ⟨D,n,X,[]⟩)))) (aQ Q) Z):D (n+1) 282 [O,W,U,e] Z Q X:=en (f:=282) rfl rfl h
theorem DB{O W U e:V}(h:aM TT r4.body (ax 83 O (ax 85 W (ax 23 U (ax 66 e ⟨D,n,X,[]⟩)))) (aQ Q) Z):D (n+1) 289 [O,W,U,e] Z Q X:=en (f:=289) rfl rfl h
theorem LC{O W U:V}(h:aM TT xf.body (ax 51 O (ax 123 W (ax 85 U ⟨D,n,X,[]⟩))) (aQ Q) Z):D (n+1) 294 [O,W,U] Z Q X:=en (f:=294) rfl rfl h
theorem LB{O W:V}(h:aM TT xn.body (ax 51 O (ax 85 W ⟨D,n,X,[]⟩)) (aQ Q) Z):D (n+1) 301 [O,W] Z Q X:=en (f:=301) rfl rfl h
theorem DA{O W U e:V}(h:aM TT CZ.body (ax 51 O (ax 123 W (ax 96 U (ax 85 e ⟨D,n,X,[]⟩)))) (aQ Q) Z):D (n+1) 306 [O,W,U,e] Z Q X:=en (f:=306) rfl rfl h
theorem LA{O W:V}(h:aM TT xz.body (ax 44 O (ax 16 W ⟨D,n,X,[]⟩)) (aQ Q) Z):D (n+1) 327 [O,W] Z Q X:=en (f:=327) rfl rfl h
theorem Lz{O W:V}(h:aM TT xy.body (ax 44 O (ax 16 W ⟨D,n,X,[]⟩)) (aQ Q) Z):D (n+1) 334 [O,W] Z Q X:=en (f:=334) rfl rfl h
theorem Ly{O W:V}(h:aM TT xx.body (ax 44 O (ax 16 W ⟨D,n,X,[]⟩)) (aQ Q) Z):D (n+1) 353 [O,W] Z Q X:=en (f:=353) rfl rfl h
theorem Lx{O W:V}(h:aM TT xw.body (ax 44 O (ax 16 W ⟨D,n,X,[]⟩)) (aQ Q) Z):D (n+1) 360 [O,W] Z Q X:=en (f:=360) rfl rfl h
theorem Lw{O W U:V}(h:aM TT CY.body (ax 137 O (ax 97 W (ax 16 U ⟨D,n,X,[]⟩))) (aQ Q) Z):D (n+1) 382 [O,W,U] Z Q X:=en (f:=382) rfl rfl h
theorem Lu{O W:V}(h:aM TT xh.body (ax 74 O (ax 37 W ⟨D,n,X,[]⟩)) (aQ Q) Z):D (n+1) 389 [O,W] Z Q X:=en (f:=389) rfl rfl h
theorem yq{O W:V}(h:aM TT Di.body (ax 44 O (ax 45 W ⟨D,n,X,[]⟩)) (aQ Q) Z):D (n+1) 401 [O,W] Z Q X:=en (f:=401) rfl rfl h
theorem Ls{O:V}(h:aM TT Da.body (ax 44 O ⟨D,n,X,[]⟩) (aQ Q) Z):D (n+1) 422 [O] Z Q X:=en (f:=422) rfl rfl h
theorem Lr{O W:V}(h:aM TT xM.body (ax 44 O (ax 45 W ⟨D,n,X,[]⟩)) (aQ Q) Z):D (n+1) 436 [O,W] Z Q X:=en (f:=436) rfl rfl h
theorem Lq{O W:V}(h:aM TT Db.body (ax 44 O (ax 96 W ⟨D,n,X,[]⟩)) (aQ Q) Z):D (n+1) 443 [O,W] Z Q X:=en (f:=443) rfl rfl h
theorem Lp{O W:V}(h:aM TT xK.body (ax 44 O (ax 96 W ⟨D,n,X,[]⟩)) (aQ Q) Z):D (n+1) 450 [O,W] Z Q X:=en (f:=450) rfl rfl h
theorem Lo{O:V}(h:aM TT xJ.body (ax 44 O ⟨D,n,X,[]⟩) (aQ Q) Z):D (n+1) 455 [O] Z Q X:=en (f:=455) rfl rfl h
theorem Ln{O W:V}(h:aM TT xL.body (ax 44 O (ax 96 W ⟨D,n,X,[]⟩)) (aQ Q) Z):D (n+1) 462 [O,W] Z Q X:=en (f:=462) rfl rfl h
theorem Lm{O W U:V}(h:aM TT xH.body (ax 44 O (ax 74 W (ax 45 U ⟨D,n,X,[]⟩))) (aQ Q) Z):D (n+1) 469 [O,W,U] Z Q X:=en (f:=469) rfl rfl h
theorem Ll{O W:V}(h:aM TT xI.body (ax 44 O (ax 74 W ⟨D,n,X,[]⟩)) (aQ Q) Z):D (n+1) 476 [O,W] Z Q X:=en (f:=476) rfl rfl h
theorem Lk{O W U:V}(h:aM TT xG.body (ax 44 O (ax 74 W (ax 84 U ⟨D,n,X,[]⟩))) (aQ Q) Z):D (n+1) 490 [O,W,U] Z Q X:=en (f:=490) rfl rfl h
theorem Dz{O W U:V}(h:aM TT sb.body (ax 44 O (ax 74 W (ax 45 U ⟨D,n,X,[]⟩))) (aQ Q) Z):D (n+1) 495 [O,W,U] Z Q X:=en (f:=495) rfl rfl h
theorem Dx{O W U:V}(h:aM TT r9.body (ax 44 O (ax 74 W (ax 110 U ⟨D,n,X,[]⟩))) (aQ Q) Z):D (n+1) 502 [O,W,U] Z Q X:=en (f:=502) rfl rfl h
theorem Lj{O W:V}(h:aM TT xm.body (ax 4 O (ax 85 W ⟨D,n,X,[]⟩)) (aQ Q) Z):D (n+1) 523 [O,W] Z Q X:=en (f:=523) rfl rfl h
theorem Li{O W U:V}(h:aM TT xd.body (ax 4 O (ax 123 W (ax 85 U ⟨D,n,X,[]⟩))) (aQ Q) Z):D (n+1) 528 [O,W,U] Z Q X:=en (f:=528) rfl rfl h
theorem yp{O:V}(h:aM TT ph.body (ax 4 O ⟨D,n,X,[]⟩) (aQ Q) Z):D (n+1) 535 [O] Z Q X:=en (f:=535) rfl rfl h
theorem Lh{O W U:V}(h:aM TT xe.body (ax 4 O (ax 58 W (ax 85 U ⟨D,n,X,[]⟩))) (aQ Q) Z):D (n+1) 542 [O,W,U] Z Q X:=en (f:=542) rfl rfl h
theorem pD{O W U:V}(h:aM TT CQ.body (ax 4 O (ax 58 W (ax 85 U ⟨D,n,X,[]⟩))) (aQ Q) Z):D (n+1) 549 [O,W,U] Z Q X:=en (f:=549) rfl rfl h
theorem Dw{O W U:V}(h:aM TT C7.body (ax 4 O (ax 84 W (ax 85 U ⟨D,n,X,[]⟩))) (aQ Q) Z):D (n+1) 556 [O,W,U] Z Q X:=en (f:=556) rfl rfl h
theorem Dv{O W U:V}(h:aM TT r7.body (ax 4 O (ax 84 W (ax 85 U ⟨D,n,X,[]⟩))) (aQ Q) Z):D (n+1) 563 [O,W,U] Z Q X:=en (f:=563) rfl rfl h
theorem Dt{O W U e:V}(h:aM TT xu.body (ax 4 O (ax 84 W (ax 85 U (ax 94 e ⟨D,n,X,[]⟩)))) (aQ Q) Z):D (n+1) 574 [O,W,U,e] Z Q X:=en (f:=574) rfl rfl h
theorem yo{O W U:V}(h:aM TT xu.body (ax 4 O (ax 84 W (ax 85 U (ax 94 .none ⟨D,n,X,[]⟩)))) (aQ Q) Z):D (n+1) 574 [O,W,U] Z Q X:=en (f:=574) rfl rfl h
theorem Lg{O:V}(h:aM TT C6.body (ax 42 O ⟨D,n,X,[]⟩) (aQ Q) Z):D (n+1) 581 [O] Z Q X:=en (f:=581) rfl rfl h
theorem yn{O W U e:V}(h:aM TT CR.body (ax 4 O (ax 58 W (ax 85 U (ax 94 e ⟨D,n,X,[]⟩)))) (aQ Q) Z):D (n+1) 593 [O,W,U,e] Z Q X:=en (f:=593) rfl rfl h
theorem Lf{O W:V}(h:aM TT yd.body (ax 44 O (ax 100 W ⟨D,n,X,[]⟩)) (aQ Q) Z):D (n+1) 737 [O,W] Z Q X:=en (f:=737) rfl rfl h
theorem Le{O W U e:V}(h:aM TT w9.body (ax 4 O (ax 6 W (ax 1 U (ax 2 e ⟨D,n,X,[]⟩)))) (aQ Q) Z):D (n+1) 795 [O,W,U,e] Z Q X:=en (f:=795) rfl rfl h
theorem Ld{O W U:V}(h:aM TT xF.body (ax 44 O (ax 94 W (ax 85 U ⟨D,n,X,[]⟩))) (aQ Q) Z):D (n+1) 809 [O,W,U] Z Q X:=en (f:=809) rfl rfl h
theorem ym{O W U:V}(h:aM TT po.body (ax 44 O (ax 61 W (ax 67 U ⟨D,n,X,[]⟩))) (aQ Q) Z):D (n+1) 816 [O,W,U] Z Q X:=en (f:=816) rfl rfl h
theorem mT{O W U:V}(h:aM TT j2.body (ax 44 O (ax 61 W (ax 74 U ⟨D,n,X,[]⟩))) (aQ Q) Z):D (n+1) 823 [O,W,U] Z Q X:=en (f:=823) rfl rfl h
theorem yl{O W U:V}(h:aM TT pj.body (ax 44 O (ax 118 W (ax 4 U ⟨D,n,X,[]⟩))) (aQ Q) Z):D (n+1) 851 [O,W,U] Z Q X:=en (f:=851) rfl rfl h
theorem Lc{O W U:V}(h:aM TT xE.body (ax 44 O (ax 118 W (ax 4 U ⟨D,n,X,[]⟩))) (aQ Q) Z):D (n+1) 858 [O,W,U] Z Q X:=en (f:=858) rfl rfl h
theorem Lb{O W U:V}(h:aM TT xD.body (ax 44 O (ax 61 W (ax 116 U ⟨D,n,X,[]⟩))) (aQ Q) Z):D (n+1) 865 [O,W,U] Z Q X:=en (f:=865) rfl rfl h
theorem La{O W:V}(h:aM TT xB.body (ax 44 O (ax 100 W ⟨D,n,X,[]⟩)) (aQ Q) Z):D (n+1) 886 [O,W] Z Q X:=en (f:=886) rfl rfl h
theorem K9{O W U:V}(h:aM TT xC.body (ax 44 O (ax 61 W (ax 103 U ⟨D,n,X,[]⟩))) (aQ Q) Z):D (n+1) 893 [O,W,U] Z Q X:=en (f:=893) rfl rfl h
theorem Ds{O W U:V}(h:aM TT r8.body (ax 44 O (ax 61 W (ax 103 U ⟨D,n,X,[]⟩))) (aQ Q) Z):D (n+1) 907 [O,W,U] Z Q X:=en (f:=907) rfl rfl h
theorem K8{O W U:V}(h:aM TT xA.body (ax 44 O (ax 61 W (ax 103 U ⟨D,n,X,[]⟩))) (aQ Q) Z):D (n+1) 933 [O,W,U] Z Q X:=en (f:=933) rfl rfl h
theorem K7{O W U e:V}(h:aM TT yc.body (ax 44 O (ax 20 W (ax 107 U (ax 54 e ⟨D,n,X,[]⟩)))) (aQ Q) Z):D (n+1) 954 [O,W,U,e] Z Q X:=en (f:=954) rfl rfl h
theorem Dr{O:V}(h:aM TT CT.body (ax 20 O ⟨D,n,X,[]⟩) (aQ Q) Z):D (n+1) 975 [O] Z Q X:=en (f:=975) rfl rfl h
theorem K6{O W U e q:V}(h:aM TT xO.body (ax 44 O (ax 119 W (ax 85 U (ax 92 e (ax 27 q ⟨D,n,X,[]⟩))))) (aQ Q) Z):D (n+1) 989 [O,W,U,e,q] Z Q X:=en (f:=989) rfl rfl h
theorem Mi{O W:V}(h:aM TT xN.body (ax 44 O (ax 10 W ⟨D,n,X,[]⟩)) (aQ Q) Z):D (n+1) 1001 [O,W] Z Q X:=en (f:=1001) rfl rfl h
theorem yr{O W:V}(h:aM TT pq.body (ax 44 O (ax 10 W ⟨D,n,X,[]⟩)) (aQ Q) Z):D (n+1) 1008 [O,W] Z Q X:=en (f:=1008) rfl rfl h
theorem sq{O W U e q:V}(h:aM TT mR.body (ax 44 O (ax 10 W (ax 42 U (ax 107 e (ax 54 q ⟨D,n,X,[]⟩))))) (aQ Q) Z):D (n+1) 1015 [O,W,U,e,q] Z Q X:=en (f:=1015) rfl rfl h
theorem DG{O W U:V}(h:aM TT sd.body (ax 44 O (ax 61 W (ax 67 U ⟨D,n,X,[]⟩))) (aQ Q) Z):D (n+1) 1022 [O,W,U] Z Q X:=en (f:=1022) rfl rfl h
theorem DF{O W U:V}(h:aM TT se.body (ax 44 O (ax 61 W (ax 67 U ⟨D,n,X,[]⟩))) (aQ Q) Z):D (n+1) 1029 [O,W,U] Z Q X:=en (f:=1029) rfl rfl h
theorem Mg{O W U:V}(h:aM TT xP.body (ax 44 O (ax 61 W (ax 135 U ⟨D,n,X,[]⟩))) (aQ Q) Z):D (n+1) 1050 [O,W,U] Z Q X:=en (f:=1050) rfl rfl h
theorem Mf{O W U:V}(h:aM TT xQ.body (ax 44 O (ax 61 W (ax 140 U ⟨D,n,X,[]⟩))) (aQ Q) Z):D (n+1) 1076 [O,W,U] Z Q X:=en (f:=1076) rfl rfl h
theorem Me{O W U e q:V}(h:aM TT ye.body (ax 44 O (ax 39 W (ax 132 U (ax 142 e (ax 87 q (ax 77 .none ⟨D,n,X,[]⟩)))))) (aQ Q) Z):D (n+1) 1098 [O,W,U,e,q] Z Q X:=en (f:=1098) rfl rfl h
theorem Mb{O W:V}(h:aM TT xv.body (ax 44 O (ax 115 W ⟨D,n,X,[]⟩)) (aQ Q) Z):D (n+1) 1163 [O,W] Z Q X:=en (f:=1163) rfl rfl h
theorem Ma{O:V}(h:aM TT xW.body (ax 104 O ⟨D,n,X,[]⟩) (aQ Q) Z):D (n+1) 1184 [O] Z Q X:=en (f:=1184) rfl rfl h
theorem L8{O W:V}(h:aM TT xT.body (ax 106 O (ax 17 W ⟨D,n,X,[]⟩)) (aQ Q) Z):D (n+1) 1191 [O,W] Z Q X:=en (f:=1191) rfl rfl h
theorem L7{O W:V}(h:aM TT xZ.body (ax 106 O (ax 108 W ⟨D,n,X,[]⟩)) (aQ Q) Z):D (n+1) 1198 [O,W] Z Q X:=en (f:=1198) rfl rfl h
theorem L5(h:aM TT xR.body ⟨D,n,X,[]⟩ (aQ Q) Z):D (n+1) 1205 [] Z Q X:=en (f:=1205) rfl rfl h
theorem L4(h:aM TT xX.body ⟨D,n,X,[]⟩ (aQ Q) Z):D (n+1) 1212 [] Z Q X:=en (f:=1212) rfl rfl h
theorem LZ{O W:V}(h:aM TT Dg.body (ax 96 O (ax 64 W ⟨D,n,X,[]⟩)) (aQ Q) Z):D (n+1) 1217 [O,W] Z Q X:=en (f:=1217) rfl rfl h
theorem DE{O W:V}(h:aM TT sf.body (ax 13 O (ax 74 W ⟨D,n,X,[]⟩)) (aQ Q) Z):D (n+1) 1231 [O,W] Z Q X:=en (f:=1231) rfl rfl h
theorem LY{O W U:V}(h:aM TT Df.body (ax 13 O (ax 74 W (ax 58 U ⟨D,n,X,[]⟩))) (aQ Q) Z):D (n+1) 1238 [O,W,U] Z Q X:=en (f:=1238) rfl rfl h
theorem LV{O W:V}(h:aM TT xS.body (ax 13 O (ax 116 W ⟨D,n,X,[]⟩)) (aQ Q) Z):D (n+1) 1245 [O,W] Z Q X:=en (f:=1245) rfl rfl h
theorem LU{O W:V}(h:aM TT Dh.body (ax 13 O (ax 129 W ⟨D,n,X,[]⟩)) (aQ Q) Z):D (n+1) 1252 [O,W] Z Q X:=en (f:=1252) rfl rfl h
theorem LT{O W:V}(h:aM TT xV.body (ax 13 O (ax 103 W ⟨D,n,X,[]⟩)) (aQ Q) Z):D (n+1) 1257 [O,W] Z Q X:=en (f:=1257) rfl rfl h
theorem LQ{O W U:V}(h:aM TT ya.body (ax 13 O (ax 101 W (ax 135 U ⟨D,n,X,[]⟩))) (aQ Q) Z):D (n+1) 1264 [O,W,U] Z Q X:=en (f:=1264) rfl rfl h
theorem LP{O W U:V}(h:aM TT xU.body (ax 113 O (ax 61 W (ax 13 U ⟨D,n,X,[]⟩))) (aQ Q) Z):D (n+1) 1269 [O,W,U] Z Q X:=en (f:=1269) rfl rfl h
theorem LO{O W U:V}(h:aM TT De.body (ax 96 O (ax 64 W (ax 139 U ⟨D,n,X,[]⟩))) (aQ Q) Z):D (n+1) 1276 [O,W,U] Z Q X:=en (f:=1276) rfl rfl h
theorem LN{O W U e:V}(h:aM TT yb.body (ax 15 O (ax 10 W (ax 129 U (ax 74 e ⟨D,n,X,[]⟩)))) (aQ Q) Z):D (n+1) 1281 [O,W,U,e] Z Q X:=en (f:=1281) rfl rfl h
theorem LM{O W:V}(h:aM TT xY.body (ax 106 O (ax 47 W ⟨D,n,X,[]⟩)) (aQ Q) Z):D (n+1) 1288 [O,W] Z Q X:=en (f:=1288) rfl rfl h
theorem LK{O:V}(h:aM TT Dd.body (ax 106 O ⟨D,n,X,[]⟩) (aQ Q) Z):D (n+1) 1295 [O] Z Q X:=en (f:=1295) rfl rfl h
theorem LJ(h:aM TT Dc.body ⟨D,n,X,[]⟩ (aQ Q) Z):D (n+1) 1302 [] Z Q X:=en (f:=1302) rfl rfl h
theorem LH{O:V}(h:aM TT C3.body (ax 104 O ⟨D,n,X,[]⟩) (aQ Q) Z):D (n+1) 1309 [O] Z Q X:=en (f:=1309) rfl rfl h
end
theorem St.Zy.Zw{Z:St}:Z.Zy Z:=λ_ _ h=>h
theorem St.Zy.Zx{a b c:St}(h:a.Zy b)(k:b.Zy c):a.Zy c:=λx o e=>k x o (h x o e)
theorem St.Zy.Zv{a b:St}(h:a.Zy b){x:ag}(K:a x=ah)(o:O):a.Zy (b.Zv x o):=λy p e=>by
 have n:y≠x:=λq=>by subst q;rw[K]at e;cases e
 rw[St.Zw _ _ n];exact h y p e
noncomputable abbrev bO:V:=.tup [.str (SM 29),.str (SM 23)]
noncomputable abbrev tB:V:=.tup [.str (SM 44)]
noncomputable abbrev n7:V:=.tup [.str (SM 99),.tup []]
noncomputable abbrev dD:V:=.tup [.str (SM 99),.tup [bO,tB]]
noncomputable abbrev cz:V:=.tup [.str (SM 132)]
theorem Tp{p q:Prop} [Decidable p] [Decidable q]{O:Type}(a b:O)(h:p↔q):(if p then a else b)=if q then a else b:=by by_cases e:p<;>simp[e,←h]
@[simp] theorem RV(k:Int)(v:V):cD k v []=[(k,v)]:=id rfl
@[simp] theorem RU(k:Int)(v u:V)(r:List (Int×V)):cD k v ((k,u)::r)=(k,v)::r:=if_pos rfl
@[simp] theorem RW{k j:Int}(v u:V)(r:List (Int×V))(h:j≠k):cD k v ((j,u)::r)=(j,u)::cD k v r:=if_neg λq=>h q.symm
@[simp] theorem TC{T:cA}{c:ag}{m:ak}{t:List (ak×V)}(h:T.field c m=ae):C2 T c m t=t.lookup m:=if_pos h
@[simp] theorem R4{T:cA}{c:ag}{m:ak}{t:List (ak×V)}(h:t.lookup m=ah):Bm T c m t=T.meth c m:=if_pos h
@[simp] theorem Rq{T:cA}{c:ag}{m:ak}{v:V}{t:List (ak×V)}(h:T.store c m=ae)(B:t.length≤1000):Af T c m v t=aa (cq m v t):=if_pos ⟨h,B⟩
@[simp] theorem Vr{l:List V}{y:V}(h:l.length≤1000):EY l y=aa (l++[y]):=if_pos h
@[simp] theorem TF{r l:List V}(h:r.length+l.length≤1000):Dk r l=aa (r++l):=if_pos h
@[simp] theorem RX{l:List V}(h:l.length≤1000):AN l=l.getLast?.map λz=>(z,l.dropLast):=if_pos h
@[simp] theorem UA{l:List (Int×V)}{k:Int}(h:l.length≤1000):pF l k=(l.lookup k).map λz=>(z,l.filter λp=>p.1 !=k):=if_pos h
theorem Fg.go{t:EW}{b:SW}{G:Fr}{R:QF}{Z:St}(k:Nat)(h:pW t b k G R Z):Fg t b G R Z:=⟨k,h⟩
theorem JX{i:Nat}{v:V}{P:V→Prop}:∀{S:aA},S.lookup i=aa v→P v→ly i S P
 |(j,u)::r,h,k=>by
  rw[ey]at h;show(fc (ly i r P) (P u) (cI i j):Prop)
  have e:(i==j)=cI i j:=by
   cases q:cI i j with
   |true=>rw[gA q];exact beq_self_eq_true _
   |false=>exact beq_eq_false_iff_ne.mpr (zI q)
  rw[e]at h;cases q:cI i j with
  |true=>rw[q]at h;cases h;exact k
  |false=>rw[q]at h;exact JX h k
theorem Kf{Z:St}{v:V}{K:QI}{l:List V}{s:bV}(h:iM Z v=aa (l,s))(k:K l s Z):rV Z v K:=by
 revert Z v K l s;apply eE;generalize e4 _=Z,e3 _=v,e2 _=K,e1 _=l,e0 _=s;intro h k
 exact
   jp (λv=>rV Z v K) h (λi e=>by cases e;exact k) (λi e=>by cases e;exact k) λa e=>rz (λo=>lB o λl=>K l (aa (a,.list l)) Z) e λO X=>by cases X;exact k
theorem oo{I:List Nat}{i:Nat}{v:V}(b:gi i I=ae):∀{S:aA},S.lookup i=aa v→(gZ I S).lookup i=aa v
 |(j,u)::r,h=>by
  show(fc (gZ I r) ((j,u)::gZ I r) (gi j I):aA).lookup i=aa v;rw[ey]at h;cases q:i==j with
  |true=>
   rw[q]at h;cases h;rw[←bU q,b];show dJ i ((i,v)::_)=_;rw[ey,beq_self_eq_true]
  |false=>
   rw[q]at h;have F:=oo b h;cases gi j I with
   |true=>show dJ i ((j,u)::_)=_;rw[ey,q];exact F
   |false=>exact F
theorem bz{o:O}{Q:QV}{Z:St}(h:∀a,Z a=ah→Q (.obj a) (Z.Zv a o)):kr o Q Z:=h
theorem fC{D:Nat→CS}{m:Nat}{c:ag}{L:List V}{Z:St}{Q:QV}{X:QX}{f:ag}(h:∀a,Z a=ah→D m f (.obj a::L) (Z.Zv a (.inst c [])) (Fm a Q) X):Fd D m c L Z Q X f:=h
theorem sN{Z:St}{a b:ag}{o:O}{x:Option O}(h:b≠a)(k:Z b=x):Z.Zv a o b=x:=(St.Zw Z o h).trans k
end
section
open PySem PySem.W PyProof.Rows PySem.Calls
set_option hygiene false
local macro_rules | `(tactic|walk_at "s")=> `(tactic|first|assumption|(with_reducible_and_instances ((repeat refine sN (by assumption) ?_);first|assumption|exact St.Zx ..))|(with_reducible_and_instances (first|refine(?_:C2 .. =some _)|refine(?_:Af .. =some _)|refine(?_:Bm .. =some _)|refine(?_:bD .. =some _)|refine(?_:gX .. =some _)|refine(?_:d7 .. =some _)|refine(?_:bq .. =some _)|refine(?_:lb .. =some _)|refine(?_:List.lookup .. =some _));show type_of% (by simp;rfl:_=some _);kernel_rfl)|(simp -implicitDefEqProofs [St.Zx,St.Zw, -Option.some.injEq, *]<;>rfl)|rfl)
local macro_rules | `(tactic|walk_at "w")=> `(tactic|repeat(first|with_reducible_and_instances assumption|focus(with_reducible_and_instances (first|apply R2|apply R3|apply Sf|apply Tw|apply Tc|apply And.intro|apply R0|apply JX);walk_at "s")|with_reducible_and_instances (first|refine Exists.intro _ (And.intro rfl ?_)|refine Vh rfl ?_|refine Vi rfl ?_)|focus(with_reducible_and_instances apply Vh;walk_at "s")|focus(with_reducible_and_instances apply Vi;walk_at "s")|focus(with_reducible_and_instances apply R1;walk_at "s")|focus(with_reducible_and_instances refine(?_:_=_);walk_at "s")|assumption))
set_option hygiene true
theorem qG{O:Type}{l:List O}(h:l.length=2):∃a b,l=[a,b]:=by
 rcases l with _|⟨a,_|⟨b,_|⟨c,l⟩⟩⟩<;>first|exact⟨_,_,rfl⟩|exact absurd h (by simp)
section
variable{D:Nat→CS} [Cl TT cy D]{n:Nat}{Z:St}{Q:QV}{X:QX}
theorem OB:SM 23=⟨#[117,56]⟩:=by kernel_rfl
theorem OC:SM 12=⟨#[105]⟩:=by kernel_rfl
theorem Hb(Z:St):gX Z (.str (SM 23)) (.int 0)=aa (.str ⟨#[117]⟩):=by rw[OB];rfl
theorem K1(Z:St):bD .eq Z (.str ⟨#[117]⟩) (.str (SM 12))=aa aj:=by
 revert Z;apply aP;generalize e0 _=Z;rw[OC];rw[NC];rw[Mj];rw[K4];have d:bP Z 8 (.str ⟨#[117]⟩)=aa (.str ⟨#[117]⟩):=if_pos (by decide+kernel);have L:bP Z 8 (.str ⟨#[105]⟩)=aa (.str ⟨#[105]⟩):=if_pos (by decide+kernel);rw[pA];rw[d];rw[L];rw[sh];rw[K3];decide+kernel
theorem Ev(h:Q (.bool aj) Z):D (n+1) 105 [.str (SM 23)] Z Q X:=by
 refine Mh ?_;unfold xl;have J:=Hb Z;have F:=K1 Z;walk_at "w"
theorem Et(h:Q (.int 0) Z):D (n+2) 112 [.str (SM 23)] Z Q X:=by
 refine Md ?_;walk_at "w";refine Ev (D:=D) ?_;walk_at "w"
theorem Nz(h:Q (.int 255) Z):D (n+2) 119 [.str (SM 23)] Z Q X:=by
 refine L9 ?_;walk_at "w";refine Ev (D:=D) ?_;walk_at "w"
theorem EB(i:Int)(h:Q (.bool (aO (0≤i)&&aO (i≤255))) Z):D (n+3) 126 [.str (SM 23),.int i] Z Q X:=by
 refine LS ?_;walk_at "w";refine Et (D:=D) ?_;walk_at "w";by_cases e:0≤i<;>simp only[e,decide_true,decide_false,Bool.true_and,Bool.false_and]at h⊢ <;>walk_at "w"
 ·refine Nz (D:=D) ?_
  walk_at "w"
theorem MU(i:Int)(h:Q (.int (i % 256)) Z):D (n+3) 133 [.str (SM 23),.int i] Z Q X:=by
 refine LG ?_;have B:Q (.int (0+i % 256)) Z:=by simpa using h
 walk_at "w";refine Et (D:=D) ?_;walk_at "w"
theorem NB(a b:Int)(h:Q (.int (a+b)) Z):D (n+1) 154 [.str (SM 3),.int a,.int b] Z Q X:=by
 refine LF ?_;unfold xo;walk_at "w"
theorem NK(a b:Int)(h:Q (.tup [.int ((a+b) % 256),.bool (!(aO (0≤a+b)&&aO (a+b≤255)))]) Z):D (n+4) 161 [.str (SM 23),.str (SM 3),.int a,.int b] Z Q X:=by
 refine LE ?_;unfold xt;walk_at "w";refine NB (D:=D) a b ?_;walk_at "w";refine MU (D:=D) _ ?_;walk_at "w";refine EB (D:=D) _ ?_;walk_at "w"
theorem Na(a b:Int)(h:Q (.tup [.int ((a+b) % 256),.bool (!(aO (0≤a+b)&&aO (a+b≤255)))]) Z):D (n+5) 795 [bO,.str (SM 3),.int a,.int b] Z Q X:=by
 refine Le ?_;unfold w9;walk_at "w";refine NK (D:=D) a b ?_;walk_at "w"
theorem NJ(a b:Int)(h:Q (.bool (aO (a<b))) Z):D (n+1) 182 [.str (SM 6),.int a,.int b] Z Q X:=by
 refine LD ?_;unfold xr;walk_at "w"
theorem Nf{a b c:V}(h:Q (.tup [.str (SM 149),a,b,c]) Z):D (n+1) 382 [a,b,c] Z Q X:=by
 refine Lw ?_;walk_at "w"
theorem j6{a c:V}{i j:Int}(h:Q (.tup [.str (SM 149),a,.int (i+j),c]) Z):D (n+1) 389 [.tup [.str (SM 149),a,.int i,c],.int j] Z Q X:=by
 refine Lu ?_;unfold xh;walk_at "w"
theorem Em{w d k:V}(h:Q (.tup [.int 1,.int 1]) Z):D (n+1) 277 [bO,w,d,k] Z Q X:=by
 refine sj ?_;unfold mQ;walk_at "w"
theorem En{w d k:V}(h:Q (.tup [.int 1,.int 1]) Z):D (n+1) 277 [tB,w,d,k] Z Q X:=by
 refine sj ?_;unfold mQ;walk_at "w"
theorem M3{w d k:V}(h:Q (.tup [.int 0,.int 1]) Z):D (n+1) 289 [.tup [],w,d,k] Z Q X:=by
 refine DB ?_;unfold r4;walk_at "w"
theorem M6{w d k:V}(h:Q (.tup [.int 2,.int 3]) Z):D (n+2) 289 [.tup [bO,tB],w,d,k] Z Q X:=by
 refine DB ?_;unfold r4;walk_at "w";refine Em (D:=D) ?_;walk_at "w";refine En (D:=D) ?_;walk_at "w"
theorem NS{w d k:V}(h:Q (.tup [.int 0,.int 1]) Z):D (n+2) 282 [n7,w,d,k] Z Q X:=by
 refine DC ?_;unfold r6;walk_at "w";refine M3 (D:=D) ?_;walk_at "w"
theorem NT{w d k:V}(h:Q (.tup [.int 2,.int 3]) Z):D (n+3) 282 [dD,w,d,k] Z Q X:=by
 refine DC ?_;unfold r6;walk_at "w";refine M6 (D:=D) ?_;walk_at "w"
theorem Ni{w:V}{a:ag}(k:Z a=aa (.kdict ah))(h:∀o H,Q (.tup [.int 0,.int 1]) ((Z.Zv a o).Zv a H)):D (n+4) 277 [n7,w,.int 0,.obj a] Z Q X:=by
 refine sj ?_;unfold mQ;walk_at "w";refine NS (D:=D) ?_;walk_at "w";exact h _ _
theorem Nj{w:V}{a:ag}(k:Z a=aa (.kdict ah))(h:∀o H,Q (.tup [.int 2,.int 3]) ((Z.Zv a o).Zv a H)):D (n+4) 277 [dD,w,.int 0,.obj a] Z Q X:=by
 refine sj ?_;unfold mQ;walk_at "w";refine NT (D:=D) ?_;walk_at "w";exact h _ _
theorem lL{w:V}(h:∀M,Z.Zy M→Q (.int 1) M):D (n+2) 270 [bO,w] Z Q X:=by
 refine sk ?_;walk_at "w";refine bz λa k=>?_;walk_at "w";refine Em (D:=D) ?_;walk_at "w";exact h _ (St.Zy.Zw.Zv k _)
theorem pL{w:V}(h:∀M,Z.Zy M→Q (.int 1) M):D (n+2) 270 [tB,w] Z Q X:=by
 refine sk ?_;walk_at "w";refine bz λa k=>?_;walk_at "w";refine En (D:=D) ?_;walk_at "w";exact h _ (St.Zy.Zw.Zv k _)
theorem M7{w:V}(h:∀M,Z.Zy M→Q (.int 0) M):D (n+5) 270 [n7,w] Z Q X:=by
 refine sk ?_;walk_at "w";refine bz λa k=>?_;walk_at "w";refine Ni (D:=D) (St.Zx _ _ _) λo H=>?_;walk_at "w";exact h _ (((St.Zy.Zw.Zv k _).Zv k _).Zv k _)
theorem sG{w:V}(h:∀M,Z.Zy M→Q (.int 2) M):D (n+5) 270 [dD,w] Z Q X:=by
 refine sk ?_;walk_at "w";refine bz λa k=>?_;walk_at "w";refine Nj (D:=D) (St.Zx _ _ _) λo H=>?_;walk_at "w";exact h _ (((St.Zy.Zw.Zv k _).Zv k _).Zv k _)
end
noncomputable abbrev cT:O:=.inst 370 [(SM 87,.lst [.tup [.int 0,.str (SM 133)]])]
noncomputable abbrev dF(W:ag)(Z:List ag):O:=.inst 404 [(SM 78,.obj W),(SM 128,.lst (Z.map .obj)),(SM 144,.bool ae)]
noncomputable abbrev pH:O:=.inst 404 [(SM 78,.lst []),(SM 128,.lst []),(SM 144,.bool aj)]
noncomputable abbrev bL(Z:ag)(W:Int):O:=.inst 512 [(SM 214,.obj Z),(SM 58,.int W),(SM 68,.int 0)]
noncomputable abbrev dP(i k:Int):V:=.tup [.str (SM 149),.int i,.int k,.int 0]
structure Lv(Z:St)(Y W:ag)(O:Int)(L:List V)(i:Nat)(S U:ag)(J:List ag)(B:List V):Prop where
 m:Z Y=aa (bL W O)
 l:Z W=aa (.list L)
 len:L.length≤1000
 at_:L[i]? =aa (.obj S)
 o:Z S=aa (dF U J)
 c:Z U=aa (.list B)
 sl:J.length=B.length
 s:∀I∈J,Z I=aa cT
 ne:U≠W
theorem St.ZB{Z:St}{a:ag}{o:O}(h:Z a=aa o):Z.Zv a o=Z:=by
 funext b
 by_cases e:b=a
 ·refine qF e ?_;rw[St.Zx];rw[h]
 ·rw[St.Zw _ _ e]
theorem g8{l:List V}{i:Nat}{v:V}(h:l[i]? =aa v)(C:l.length≤1000):cg l (i:Int)=aa v:=by
 have f:i<l.length:=(jN.mp h).1;unfold cg;rw[if_pos (mn (by lia) (by lia))];rw[if_pos (by lia)];simpa using h
section
variable{D:Nat→CS} [Cl TT cy D]{n:Nat}{Z:St}{Q:QV}{X:QX}
theorem yI{a:ag}{v:V}(k:Z a=aa (.inst 370 []))(h:Q .none (Z.Zv a (.inst 370 [(SM 87,.lst [.tup [v,.str (SM 133)]])]))):D (n+1) 327 [.obj a,v] Z Q X:=by
 refine LA ?_;unfold xz;walk_at "w"
theorem EI{a:ag}(h:Z a=aa cT)(E:Q (.int 0) Z):D (n+1) 334 [.obj a,.int 0] Z Q X:=by
 refine Lz ?_;unfold xy;walk_at "w"
theorem N0{a:ag}(h:Z a=aa cT)(E:Q .none Z):D (n+2) 353 [.obj a,.int 0] Z Q X:=by
 refine Ly ?_;unfold xx;walk_at "w";refine EI (D:=D) h ?_;walk_at "w"
 with_reducible_and_instances conv=>whnf
 rw[St.ZB h];exact E
theorem NZ{a:ag}(h:Z a=aa cT)(E:Q .none Z):D (n+2) 360 [.obj a,.int 0] Z Q X:=by
 refine Lx ?_;unfold xw;walk_at "w";refine EI (D:=D) h ?_;walk_at "w"
 with_reducible_and_instances conv=>whnf
 rw[St.ZB h];exact E
variable{mem al ao ca:ag}{many:Int}{L:List V}{i:Nat}{ss:List ag}{cs:List V}
theorem Ew(h:Lv Z mem al many L i ao ca ss cs)(E:Q (.bool ae) Z):D (n+1) 450 [.obj mem,.int i] Z Q X:=by
 revert D n Z Q X mem al ao ca many L i ss cs;apply aP;generalize e0 _=D;intro T;apply aX;generalize aT _=n,aL _=Z,e9 _=Q,e8 _=X,e7 _=mem,e6 _=al,e5 _=ao,e4 _=ca,e3 _=many,e2 _=L,e1 _=i,e0 _=ss;apply aP;generalize e0 _=cs;intro h E;refine fy λb=>?_;obtain⟨R,H,j,z,A,s,Y,l,o⟩:=h;refine b ?_;clear b;have J:(0:Int)≤(i:Int):=by lia
 have F:(i:Int)<(L.length:Int):=by have:=(jN.mp z).1;lia
 have u:=g8 z j;refine Lp ?_;unfold xK;walk_at "w"
theorem Eg{k:Nat}{j:Int}{N:Nat}{z:Int}(J:j=k)(O:z=N)(h:Lv Z mem al many L i ao ca ss cs)(m:cs.length≤1000)(U:k+N≤cs.length)(E:Q (.obj ao) Z):D (n+2) 469 [.obj mem,dP i j,.int z] Z Q X:=by
 subst J O;refine Lm ?_;unfold xH;have u:=g8 h.at_ h.len;obtain⟨R,H,W,Y,A,s,V,l,o⟩:=id h;walk_at "w";refine Ew (D:=D) h ?_;have d:¬((k:Int)<0):=by lia
 have S:¬((cs.length:Int)<(k:Int)+(N:Int)):=by lia
 walk_at "w"
theorem yE{Y:Nat}{j:Int}{v:V}(J:j=Y)(h:Lv Z mem al many L i ao ca ss cs)(m:cs.length≤1000)(U:cs[Y]? =aa v)(E:Q v Z):D (n+3) 476 [.obj mem,dP i j] Z Q X:=by
 revert D n Z Q X mem al ao ca many L i ss cs Y j v;apply aP;generalize e0 _=D;intro O;apply aX;generalize aT _=n,aL _=Z,e9 _=Q,e8 _=X,e7 _=mem,e6 _=al,e5 _=ao,e4 _=ca,e3 _=many,e2 _=L,e1 _=i,e0 _=ss;apply dM;generalize e3 _=cs,e2 _=Y,e1 _=j,e0 _=v;intro J h m U E;refine qF J ?_;have C:=(jN.mp U).1;have W:=g8 U m;have T:ss[Y]? =aa (ss[Y]'(by rw[h.sl];exact C)):=l7 _;have F:cg (ss.map V.obj) (Y:Int)=aa (.obj (ss[Y]'(by rw[h.sl];exact C))):=g8 (by rw[jf];rw[T];rfl) (by rw[bT];rw[h.sl];exact m);have l:=h.s _ (Gs (by rw[h.sl];exact C));have R:=h.m;have A:=h.o;have s:=h.c;refine Ll ?_;unfold xI;walk_at "w";refine Eg (D:=D) (k:=Y) (N:=1) rfl rfl h m (by assumption) ?_;walk_at "w";refine N0 (D:=D) l ?_;walk_at "w"
theorem yD{O:Nat}{j:Int}{v:V}(J:j=O)(h:Lv Z mem al many L i ao ca ss cs)(m:cs.length≤1000)(C:O<cs.length)(E:Q .none (Z.Zv ca (.list (cs.set O v)))):D (n+3) 490 [.obj mem,dP i j,v] Z Q X:=by
 revert D n Z Q X mem al ao ca many L i ss cs O j v;apply aP;generalize e0 _=D;intro W;apply aX;generalize aT _=n,aL _=Z,e9 _=Q,e8 _=X,e7 _=mem,e6 _=al,e5 _=ao,e4 _=ca,e3 _=many,e2 _=L,e1 _=i,e0 _=ss;apply dM;generalize e3 _=cs,e2 _=O,e1 _=j,e0 _=v;intro J h m C E;refine qF J ?_;have T:ss[O]? =aa (ss[O]'(by rw[h.sl];exact C)):=l7 _;have F:cg (ss.map V.obj) (O:Int)=aa (.obj (ss[O]'(by rw[h.sl];exact C))):=g8 (by rw[jf];rw[T];rfl) (by rw[bT];rw[h.sl];exact m);have l:=h.s _ (Gs (by rw[h.sl];exact C));have R:=h.m;have A:=h.o;have s:=h.c;refine Lk ?_;unfold xG;walk_at "w";refine Eg (D:=D) (k:=O) (N:=1) rfl rfl h m (by assumption) ?_;walk_at "w";refine NZ (D:=D) l ?_;have d:(0:Int)≤(O:Int)∧(O:Int).toNat<cs.length∧bj (O:Int)=ae:=⟨by lia,by assumption,mn (by lia) (by lia)⟩;have U:(O:Int).toNat=O:=rfl;walk_at "w"
end
theorem St.Zz(Z:St)(a:ag)(o H:O):(Z.Zv a o).Zv a H=Z.Zv a H:=by
 funext b
 by_cases e:b=a
 ·refine qF e ?_;rw[St.Zx];rw[St.Zx]
 ·rw[St.Zw _ _ e,St.Zw _ _ e,St.Zw _ _ e]
theorem dq{Z:St}{a b:ag}{o H:O}(h:Z a=aa o)(B:Z b=aa H)(k:o≠H):a≠b:=λe=>by
 subst e;rw[h]at B;exact k (aI B)
theorem bx{Z:St}{a b:ag}{o:O}(h:Z a=aa o)(B:Z b=ah):a≠b:=λe=>by
 subst e;exact qS (h.symm.trans B)
theorem Lv.Zx{U:St}{W J:ag}{O:Int}{L:List V}{i:Nat}{Y Z:ag}{S:List ag}{B:List V}(h:Lv U W J O L i Y Z S B){a:List V}(C:a.length=B.length):
  Lv (U.Zv Z (.list a)) W J O L i Y Z S a where
 m:=by rw[St.Zw _ _ (dq h.m h.c (by simp))];exact h.m
 l:=by rw[St.Zw _ _ h.ne.symm];exact h.l
 len:=h.len
 at_:=h.at_
 o:=by rw[St.Zw _ _ (dq h.o h.c (by simp))];exact h.o
 c:=St.Zx _ _ _
 sl:=by rw[C];exact h.sl
 s:=λI T=>by rw[St.Zw _ _ (dq (h.s I T) h.c (by simp))];exact h.s I T
 ne:=h.ne
theorem Lv.Zv{Z M:St}{W U:ag}{O:Int}{L:List V}{i:Nat}{J Y:ag}{S:List ag}{B:List V}(h:Lv Z W U O L i J Y S B)(k:Z.Zy M):Lv M W U O L i J Y S B:=
 ⟨k _ _ h.m,k _ _ h.l,h.len,h.at_,k _ _ h.o,k _ _ h.c,h.sl,λs T=>k _ _ (h.s s T),h.ne⟩
section
variable{D:Nat→CS} [Cl TT cy D]{n:Nat}{Z:St}{Q:QV}{X:QX}{mem al ao ca:ag}{many:Int}{L:List V}{i:Nat}{ss:List ag}{cs:List V}
theorem Eh{k:Nat}{j:Int}{v:V}(J:j=k)(h:Lv Z mem al many L i ao ca ss cs)(m:cs.length≤1000)(U:cs[k]? =aa v)(E:Q (.lst [v]) Z):D (n+4) 495 [.obj mem,dP i j,.int 1] Z Q X:=by
 have R:=h.m;refine Dz ?_;unfold sb;walk_at "w";refine j6 (D:=D) ?_;walk_at "w";refine yE (D:=D) (by lia) h m U ?_;walk_at "w"
theorem Nb{v u:V}(h:Lv Z mem al many L i ao ca ss cs)(J:cs=[v,u])(E:Q (.lst [v,u]) Z):D (n+4) 495 [.obj mem,dP i 0,.int 2] Z Q X:=by
 subst J;have R:=h.m;refine Dz ?_;unfold sb;walk_at "w";refine j6 (D:=D) ?_;walk_at "w";refine yE (D:=D) (Y:=0) rfl h (by simp) rfl ?_;walk_at "w";refine j6 (D:=D) ?_;walk_at "w";refine yE (D:=D) (Y:=1) rfl h (by simp) rfl ?_;walk_at "w"
theorem yA{k:Nat}{j:Int}{v:V}(J:j=k)(h:Lv Z mem al many L i ao ca ss cs)(m:cs.length≤1000)(C:k<cs.length)(E:Q .none (Z.Zv ca (.list (cs.set k v)))):D (n+4) 502 [.obj mem,dP i j,.lst [v]] Z Q X:=by
 have R:=h.m;refine Dx ?_;unfold r9;walk_at "w";refine j6 (D:=D) ?_;walk_at "w";refine yD (D:=D) (by lia) h m C ?_;walk_at "w"
theorem MT{v u:V}(h:Lv Z mem al many L i ao ca ss cs)(C:cs.length=2)(E:Q .none (Z.Zv ca (.list [v,u]))):D (n+4) 502 [.obj mem,dP i 0,.lst [v,u]] Z Q X:=by
 revert D n Z Q X mem al ao ca many L i ss cs v u;apply aP;generalize e0 _=D;intro T;apply aX;generalize aT _=n,aL _=Z,e9 _=Q,e8 _=X,e7 _=mem,e6 _=al,e5 _=ao,e4 _=ca,e3 _=many,e2 _=L,e1 _=i,e0 _=ss;apply bY;generalize e2 _=cs,e1 _=v,e0 _=u;intro h C E;have R:=h.m;refine Dx ?_;unfold r9;walk_at "w";refine j6 (D:=D) ?_;walk_at "w";refine yD (D:=D) (O:=0) rfl h (by lia) (by lia) ?_;have B:=h.Zx (a:=cs.set 0 v) (by simp);have H:=B.m;walk_at "w";refine j6 (D:=D) ?_;walk_at "w";refine yD (D:=D) (O:=1) rfl B (by simp;lia) (by simp;lia) ?_;walk_at "w"
 with_reducible_and_instances conv=>whnf
 rw[St.Zz];obtain⟨a,b,rfl⟩:=qG C;exact E
theorem EG{w:V}{k:Int}(E:Q (dP k 0) Z):D (n+2) 443 [w,.int k] Z Q X:=by
 refine Lq ?_;walk_at "w";refine Nf (D:=D) ?_;walk_at "w"
structure sW(Z M:St)(a:ag)(m:Nat)(ca:ag)(ss:List ag):Prop where
 o:M a=aa (dF ca ss)
 c:M ca=aa (.list (bA m cz))
 sl:ss.length=m
 s:∀O∈ss,M O=aa cT
 nd:(ca::ss).Nodup
 fr:∀x∈ca::ss,Z x=ah
 keep:∀b o,b≠a→Z b=aa o→M b=aa o
theorem NW{a:ag}(k:Z a=aa (.inst 404 []))(h:∀M ca ss,sW Z M a 0 ca ss→Q .none M):D (n+3) 401 [.obj a,.int 0] Z Q X:=by
 refine yq ?_;walk_at "w";refine bz λca m=>?_;have P:a≠ca:=bx k m;walk_at "w";refine h _ ca [] ⟨St.Zx _ _ _,?_,rfl,nofun,by simp,by simpa using m,λb o e q=>?_⟩
 ·have:=P.symm;walk_at "w"
 ·have:b≠ca:=bx q m
  walk_at "w"
theorem bg{Z:St}{a b:ag}{o:O}(h:(Z.Zv a o) b=ah):b≠a∧a≠b∧Z b=ah:=by
 by_cases e:b=a
 ·subst e;rw[St.Zx]at h;exact qS h
 ·exact⟨e,λq=>e q.symm,by rwa [St.Zw _ _ e]at h⟩
theorem NV{a:ag}(k:Z a=aa (.inst 404 []))(h:∀M ca ss,sW Z M a 1 ca ss→Q .none M):D (n+3) 401 [.obj a,.int 1] Z Q X:=by
 revert D n Z Q X a;apply aP;generalize e0 _=D;intro O;apply eE;generalize e4 _=n,e3 _=Z,e2 _=Q,e1 _=X,e0 _=a;intro k h;refine yq ?_;walk_at "w";refine bz λca m=>?_;have P:a≠ca:=bx k m;have c:=P.symm;walk_at "w";refine fC λH g=>?_;refine bb (bg g) λv r g=>?_;refine bb (bg g) λw f g=>?_;refine yI (D:=D) (St.Zx _ _ _) ?_;rw[St.Zz];walk_at "w";refine h _ ca [H] ⟨St.Zx _ _ _,?_,rfl,?_,?_,?_,λb o e q=>?_⟩
 ·walk_at "w"
 ·intro s T;cases jd.mp T;walk_at "w"
 ·simp[f]
 ·simp[m,g]
 ·have:b≠ca:=bx q m
  have:b≠H:=bx q g;walk_at "w"
theorem NU{a:ag}(k:Z a=aa (.inst 404 []))(h:∀M ca ss,sW Z M a 2 ca ss→Q .none M):D (n+3) 401 [.obj a,.int 2] Z Q X:=by
 revert D n Z Q X a;apply aP;generalize e0 _=D;intro W;apply eE;generalize e4 _=n,e3 _=Z,e2 _=Q,e1 _=X,e0 _=a;intro k h;refine yq ?_;walk_at "w";refine bz λca m=>?_;have P:a≠ca:=bx k m;have c:=P.symm;walk_at "w";refine fC λH g=>?_;refine bb (bg g) λv r g=>?_;refine bb (bg g) λw f g=>?_;refine yI (D:=D) (St.Zx _ _ _) ?_;rw[St.Zz];walk_at "w";refine fC λj O=>?_;refine bb (bg O) λF p O=>?_;refine bb (bg O) λE u O=>?_;refine bb (bg O) λl t O=>?_;refine yI (D:=D) (St.Zx _ _ _) ?_;rw[St.Zz];walk_at "w";refine h _ ca [H,j] ⟨St.Zx _ _ _,?_,rfl,?_,?_,?_,λb o e q=>?_⟩
 ·walk_at "w"
 ·intro s T
  rcases bf.mp T with q|T
  ·walk_at "w"
  ·cases jd.mp T;walk_at "w"
 ·simp[f,t,p]
 ·simp[m,g,O]
 ·have:b≠ca:=bx q m
  have:b≠H:=bx q g;have:b≠j:=bx q O;walk_at "w"
theorem NX{m:Nat}(b:m<3){a:ag}(k:Z a=aa (.inst 404 []))(h:∀M ca ss,sW Z M a m ca ss→Q .none M):D (n+3) 401 [.obj a,.int m] Z Q X:=by
 rcases m with _|_|_|_
 ·exact NW (D:=D) k h
 ·exact NV (D:=D) k h
 ·exact NU (D:=D) k h
 ·exact absurd b (qt.2 (Nat.le_add_left 3 _))
structure zh(Z M:St)(mem al:ag)(many:Int)(L:List V)(m:Nat)(a ca:ag)(ss:List ag):Prop where
 mm:M mem=aa (bL al (many+m))
 l:M al=aa (.list (L++[.obj a]))
 o:M a=aa (dF ca ss)
 c:M ca=aa (.list (bA m cz))
 sl:ss.length=m
 s:∀O∈ss,M O=aa cT
 nd:(a::ca::ss).Nodup
 fr:∀x∈a::ca::ss,Z x=ah
 keep:∀b o,b≠mem→b≠al→Z b=aa o→M b=aa o
theorem EH{m:Nat}{t:Int}(O:m<3)(p:t=m)(R:Z mem=aa (bL al many))(H:Z al=aa (.list L))(j:many≤100000)(z:L.length≤990)
  (h:∀M a ca ss,zh Z M mem al many L m a ca ss→Q (.int L.length) M):D (n+5) 436 [.obj mem,.int t] Z Q X:=by
 revert D n Z Q X mem al many L m t;apply aP;generalize e0 _=D;intro S;apply fD;generalize e9 _=n,e8 _=Z,e7 _=Q,e6 _=X,e5 _=mem,e4 _=al,e3 _=many,e2 _=L,e1 _=m,e0 _=t;intro O p R H j z h;refine qF p ?_;have I:(200000<many+(m:Int))=False:=eq_false (by lia);refine Lr ?_;unfold xM;have P:al≠mem:=dq H R (by simp);have c:=P.symm;walk_at "w";refine fC λa k=>?_;refine bb (bg k) λv r k=>?_;have w:al≠a:=bx H k;have f:=w.symm;refine NX (D:=D) O (St.Zx _ _ _) λM ca ss N=>?_;have B:M al=aa (.list L):=N.keep _ _ w (by rw[St.Zw _ _ w];rw[St.Zw _ _ P];rw[H]);have W:M mem=aa (bL al (many+m)):=N.keep _ _ r (by rw[St.Zw _ _ r];rw[St.Zx]);have F:L.length≤1000:=by exact aW ‹_› (by decide)
 have Y:L.length+1≤1000:=by lia
 have u:((L++[V.obj a]).length≤1000)=True:=by simp;lia
 have C:(((L++[V.obj a]).length:Nat):Int)-1=L.length:=by simp
 have G:∀x∈ca::ss,x≠a∧Z x=ah:=λx K=>by
  refine bb (bg (N.fr x K)) λd E U=>?_;exact⟨d,(bg U).2.2⟩
 have g:∀x∈ca::ss,x≠al:=λx K=>(bx H (G x K).2).symm;walk_at "w";refine h _ a ca ss ⟨?_,St.Zx _ _ _,?_,?_,N.sl,?_,?_,?_,?_⟩
 ·rw[St.Zw _ _ c];exact W
 ·rw[St.Zw _ _ f];exact N.o
 ·rw[St.Zw _ _ (g ca (.head _))];exact N.c
 ·intro s T;rw[St.Zw _ _ (g s (.tail _ T))];exact N.s s T
 ·exact dY.mpr ⟨λq=>(G a q).1 rfl,N.nd⟩
 ·intro x K
  rcases bf.mp K with q|q
  ·refine qF q ?_;exact k
  ·exact(G x q).2
 ·intro b o l J e
  have A:b≠a:=bx e k;rw[St.Zw _ _ J];exact N.keep _ _ A (by rw[St.Zw _ _ A];rw[St.Zw _ _ l];exact e)
theorem NA(h:Lv Z mem al many L i ao ca ss cs)(m:cs.length≤1000)(E:Q .none ((Z.Zv mem (bL al (many-cs.length))).Zv ao pH)):D (n+2) 462 [.obj mem,.int i] Z Q X:=by
 revert D n Z Q X mem al ao ca many L i ss cs;apply aP;generalize e0 _=D;intro T;apply aX;generalize aT _=n,aL _=Z,e9 _=Q,e8 _=X,e7 _=mem,e6 _=al,e5 _=ao,e4 _=ca,e3 _=many,e2 _=L,e1 _=i,e0 _=ss;apply aP;generalize e0 _=cs;intro h m E;have R:=h.m;have H:=h.l;have A:=h.o;have s:=h.c;have q:=g8 h.at_ h.len;have P:ao≠mem:=dq A R (by lia);have c:=P.symm;refine Ln ?_;unfold xL;walk_at "w";refine Ew (D:=D) h ?_;walk_at "w"
 with_reducible_and_instances conv=>whnf
 simp only[St.Zz];exact E
theorem Nm{as:List (ag×Bool)}(R:Z mem=aa (bL al many))(H:Z al=aa (.list (as.map λp=>.obj p.1)))(C:as.length≤1000)
  (k:∀p∈as,∃c s,Z p.1=aa (.inst 404 [(SM 78,c),(SM 128,s),(SM 144,.bool p.2)]))(E:Q (.int (as.filter (·.2)).length) Z):D (n+2) 455 [.obj mem] Z Q X:=by
 revert D n Z Q X mem al many as;apply aP;generalize e0 _=D;intro T;apply jy;generalize e7 _=n,e6 _=Z,e5 _=Q,e4 _=X,e3 _=mem,e2 _=al,e1 _=many,e0 _=as;intro R H C k E;refine Lo ?_;unfold xJ;have q:(as.map λp=>V.obj p.1).length≤1000:=by rw[bT];exact C
 walk_at "w"
 have y:∀(l:List (ag×Bool)) (m:Nat) (O:List V),(∀p∈l,∃c s,Z p.1=aa (.inst 404 [(SM 78,c),(SM 128,s),(SM 144,.bool p.2)]))→O.length=m→m+l.length≤1000→m+(l.filter (·.2)).length=(as.filter (·.2)).length→
   ft (iV (cm TT (.var 12)) [12] (gW TT (.cons (.attr (.var 12) (SM 144)) .nil)) (mo [] (ax 44 (.obj mem) ⟨D,n+1,X,[]⟩))) (aa (al,.list (as.map λp=>.obj p.1))) (l.map λp=>.obj p.1) O (nu (FB .len (Fp (ax 44 (.obj mem) ⟨D,n+1,X,[]⟩) (nt (aM TT .nil) (aQ Q))))) Z:=by
  intro l
  induction l with
  |nil=>
   intro m O _ b z w;subst b;have d:(as.filter (·.2)).length=O.length:=by simp at w;lia
   have U:O.length≤1000:=by simp at z;lia
   rw[d]at E;refine(bo eG)▸ ?_;walk_at "w"
  |cons p l F=>
   intro m O t b z w;refine nX (t p (.head _)) λc s e=>?_;have a:=λm O=>F m O (λp h=>t p (.tail _ h));refine(bo bX)▸ ?_;cases W:p.2 with
   |false=>
    rw[tP (by simp[W])]at w;simp only[l6]at z;have f:=a m (O++[]) (by simp[b]) (by exact iw ‹_›) w;walk_at "w"
   |true=>
    rw[tO (by trivial)]at w;simp only[l6]at z w;have f:=a (m+1) (O++[.obj p.1]) (by simp[b]) (by lia) (by lia);walk_at "w"
 exact y as 0 [] k rfl (by lia) (by lia)
end
theorem St.Zy.Zy{a b:St}(h:a.Zy b){x:ag}(K:a x=ah):a.Zy (b.ZA x):=λy p e=>by
 have n:y≠x:=λq=>by subst q;exact aG (K.symm.trans e)
 unfold St.ZA;rw[if_neg n];exact h y p e
section
variable{D:Nat→CS} [Cl TT cy D]{n:Nat}{Z:St}{Q:QV}{X:QX}
theorem Dq{i:Nat}(f:i<252)(a:i≠24):bD .eq Z (.str (SM i)) (.str (SM 24))=aa aj:=by
 simp -implicitDefEqProofs [-Gc, *]<;>rfl
theorem Ey{i:Nat}{r:List V}{w:V}(f:i<252)(a:i≠24)(h:Q (.bool aj) Z):D (n+1) 523 [.tup (.str (SM i)::r),w] Z Q X:=by
 have e:=Dq f a (Z:=Z);refine Lj ?_;unfold xm;walk_at "w"
theorem EC{i:Nat}{r:List V}{w:V}(f:i<252)(a:i≠24)(h:Q (.int 0) Z):D (n+1) 301 [.tup (.str (SM i)::r),w] Z Q X:=by
 have e:=Dq f a (Z:=Z);refine LB ?_;unfold xn;walk_at "w"
theorem mX{O:List V}{v w:V}(C:O.length≤1000)(h:Q (.lst O) Z):D (n+1) 528 [.tup [.str (SM 99),.tup O],v,w] Z Q X:=by
 refine Li ?_;unfold xd;walk_at "w"
theorem Ek{O:List V}{v w:V}(C:O.length≤1000)(h:Q (.lst O) Z):D (n+1) 294 [.tup [.str (SM 99),.tup O],v,w] Z Q X:=by
 refine LC ?_;unfold xf;walk_at "w"
theorem Nh{w v:V}(h:Q (.int 0) Z):D (n+2) 306 [dD,v,.int 0,w] Z Q X:=by
 refine DA ?_;walk_at "w";refine Ek (D:=D) (by decide) ?_;walk_at "w";refine EC (D:=D) (by decide) (by decide) ?_;walk_at "w"
theorem Ng{w v:V}(h:∀M,Z.Zy M→Q (.int 1) M):D (n+3) 306 [dD,v,.int 1,w] Z Q X:=by
 refine DA ?_;walk_at "w";refine Ek (D:=D) (by decide) ?_;walk_at "w";refine EC (D:=D) (by decide) (by decide) ?_;walk_at "w";refine lL (D:=D) λM T=>?_;walk_at "w";exact h _ T
theorem yG{r:List V}(h:Q (.bool ae) Z):D (n+1) 535 [.tup (.str (SM 99)::r)] Z Q X:=by
 refine yp ?_;unfold ph;walk_at "w"
theorem lM{r:List V}(h:Q (.bool aj) Z):D (n+1) 535 [.tup (.str (SM 29)::r)] Z Q X:=by
 refine yp ?_;unfold ph;walk_at "w"
theorem lN{r:List V}(h:Q (.bool aj) Z):D (n+1) 535 [.tup (.str (SM 44)::r)] Z Q X:=by
 refine yp ?_;unfold ph;walk_at "w"
theorem Ej{a b w:V}(h:∀M,Z.Zy M→Q (.tup [.none,.lst [.lst [a],.lst [b]]]) M):D (n+3) 542 [dD,.lst [a,b],w] Z Q X:=by
 revert D n Z Q X a b w;apply aP;generalize e0 _=D;intro T;apply dQ;generalize e6 _=n,e5 _=Z,e4 _=Q,e3 _=X,e2 _=a,e1 _=b,e0 _=w;intro h;refine Lh ?_;unfold xe;walk_at "w";refine Ey (D:=D) (by decide) (by decide) ?_;walk_at "w";refine bz λf I=>?_;walk_at "w";refine mX (D:=D) (by simp) ?_;walk_at "w";refine lL (D:=D) λJ S=>?_;have d:=S _ _ (St.Zx _ _ _);walk_at "w";refine pL (D:=D) λK O=>?_;have L:=O _ _ (St.Zx _ _ _);walk_at "w";exact h _ ((((((St.Zy.Zw.Zv I _).Zx S).Zv I _).Zx O).Zv I _).Zy I)
def Cv(v:V):Prop:=(∃i,v=.int i)∨∃b,v=.bool b
theorem Ec{v w:V}(g:Cv v)(h:Q .none Z):D (n+2) 549 [bO,.lst [v],w] Z Q X:=by
 refine pD ?_;walk_at "w";refine lM (D:=D) ?_;rcases g with⟨i,rfl⟩|⟨b,rfl⟩<;>walk_at "w"
theorem Ee{v w:V}(g:Cv v)(h:Q .none Z):D (n+2) 549 [tB,.lst [v],w] Z Q X:=by
 refine pD ?_;walk_at "w";refine lN (D:=D) ?_;rcases g with⟨i,rfl⟩|⟨b,rfl⟩<;>walk_at "w"
theorem Eb{w:V}(h:X (SM 228) Z):D (n+2) 549 [bO,.lst [cz],w] Z Q X:=by
 refine pD ?_;walk_at "w";refine lM (D:=D) ?_;walk_at "w"
theorem Ed{w:V}(h:X (SM 228) Z):D (n+2) 549 [tB,.lst [cz],w] Z Q X:=by
 refine pD ?_;walk_at "w";refine lN (D:=D) ?_;walk_at "w"
theorem MV{u v w:V}(O:Cv u∨u=cz)(g:Cv v∨v=cz)(h:Cv u→Cv v→∀M,Z.Zy M→Q .none M)(K:¬(Cv u∧Cv v)→∀M,Z.Zy M→X (SM 228) M):D (n+4) 549 [dD,.lst [u,v],w] Z Q X:=by
 revert D n Z Q X u v w;apply aP;generalize e0 _=D;intro T;apply dQ;generalize e6 _=n,e5 _=Z,e4 _=Q,e3 _=X,e2 _=u,e1 _=v,e0 _=w;intro O g h K;have o:¬Cv cz:=by rintro(⟨i,h⟩|⟨i,h⟩)<;>cases h
 refine pD ?_;walk_at "w";refine yG (D:=D) ?_;walk_at "w";refine Ey (D:=D) (by decide) (by decide) ?_;walk_at "w";refine Ej (D:=D) λJ S=>?_;walk_at "w";refine mX (D:=D) (by decide) ?_;walk_at "w";rcases O with O|rfl
 ·refine Ec (D:=D) O ?_
  walk_at "w";rcases g with g|rfl
  ·have B:=h O g J S
   refine Ee (D:=D) g ?_;walk_at "w"
  ·have B:=K (λq=>o q.2) J S
   exact Ed (D:=D) B
 ·have B:=K (λq=>o q.1) J S
  exact Eb (D:=D) B
theorem Eu{u v:V}(h:Q (.lst [u,v]) Z):D (n+1) 581 [.lst [.lst [u],.lst [v]]] Z Q X:=by
 revert D n Z Q X u v;apply aP;generalize e0 _=D;intro T;apply ch;generalize e5 _=n,e4 _=Z,e3 _=Q,e2 _=X,e1 _=u,e0 _=v;intro h;refine Lg ?_;walk_at "w";refine bz λa k=>?_;walk_at "w"
 have e:(((Z.Zv a (.list [])).Zv a (.list [u])).Zv a (.list [u,v])).ZA a=Z:=by
  funext b
  unfold St.ZA;by_cases e:b=a
  ·refine qF e ?_;rw[if_pos rfl];rw[k]
  ·rw[if_neg e];rw[St.Zw _ _ e];rw[St.Zw _ _ e];rw[St.Zw _ _ e]
 with_reducible_and_instances conv=>whnf
 rw[e];exact h
theorem Nx{b:Bool}{w:V}(h:Q (.lst []) Z):D (n+1) 563 [tB,.bool b,w] Z Q X:=by
 refine Dv ?_;unfold r7;walk_at "w"
theorem Nv{i:Int}{w:V}(x:0≤i)(R:i≤255)(h:Q (.lst []) Z):D (n+4) 563 [bO,.int i,w] Z Q X:=by
 refine Dv ?_;unfold r7;walk_at "w";refine EB (D:=D) i ?_;walk_at "w"
theorem Nt{b:Bool}{w:V}(h:∀M,Z.Zy M→Q (.bool ae) M):D (n+5) 556 [tB,.bool b,w] Z Q X:=by
 refine Dw ?_;walk_at "w";refine bz λa k=>?_;walk_at "w";refine Fg.go 3 ?_;walk_at "w";refine Nx (D:=D) ?_;walk_at "w";exact h _ (((St.Zy.Zw.Zv k _).Zv k _).Zv k _)
theorem Nr{i:Int}{w:V}(x:0≤i)(R:i≤255)(h:∀M,Z.Zy M→Q (.bool ae) M):D (n+5) 556 [bO,.int i,w] Z Q X:=by
 refine Dw ?_;walk_at "w";refine bz λa k=>?_;walk_at "w";refine Fg.go 3 ?_;walk_at "w";refine Nv (D:=D) x R ?_;walk_at "w";exact h _ (((St.Zy.Zw.Zv k _).Zv k _).Zv k _)
theorem NL{v w m:V}(h:∀M,Z.Zy M→Q (.lst [v]) M):D (n+5) 574 [bO,v,w,m] Z Q X:=by
 revert D n Z Q X v w m;apply aP;generalize e0 _=D;intro T;apply dQ;generalize e6 _=n,e5 _=Z,e4 _=Q,e3 _=X,e2 _=v,e1 _=w,e0 _=m;intro h;refine Dt ?_;walk_at "w";refine bz λa k=>?_;walk_at "w";refine bz λb i=>?_;refine bb (bg i) λP c i=>?_;walk_at "w";refine Fg.go 5 ?_;walk_at "w";refine lM (D:=D) ?_;walk_at "w";exact h _ (((((St.Zy.Zw.Zv k _).Zv i _).Zv i _).Zv k _))
theorem NN{v w m:V}(h:∀M,Z.Zy M→Q (.lst [v]) M):D (n+5) 574 [tB,v,w,m] Z Q X:=by
 revert D n Z Q X v w m;apply aP;generalize e0 _=D;intro T;apply dQ;generalize e6 _=n,e5 _=Z,e4 _=Q,e3 _=X,e2 _=v,e1 _=w,e0 _=m;intro h;refine Dt ?_;walk_at "w";refine bz λa k=>?_;walk_at "w";refine bz λb i=>?_;refine bb (bg i) λP c i=>?_;walk_at "w";refine Fg.go 5 ?_;walk_at "w";refine lN (D:=D) ?_;walk_at "w";exact h _ (((((St.Zy.Zw.Zv k _).Zv i _).Zv i _).Zv k _))
theorem NO{v w:V}(h:∀M,Z.Zy M→Q (.lst [v]) M):D (n+5) 574 [bO,v,w] Z Q X:=by
 revert D n Z Q X v w;apply aP;generalize e0 _=D;intro T;apply ch;generalize e5 _=n,e4 _=Z,e3 _=Q,e2 _=X,e1 _=v,e0 _=w;intro h;refine yo ?_;walk_at "w";refine bz λa k=>?_;walk_at "w";refine bz λb i=>?_;refine bb (bg i) λP c i=>?_;walk_at "w";refine Fg.go 5 ?_;walk_at "w";refine lM (D:=D) ?_;walk_at "w";exact h _ (((((St.Zy.Zw.Zv k _).Zv i _).Zv i _).Zv k _))
theorem NQ{v w:V}(h:∀M,Z.Zy M→Q (.lst [v]) M):D (n+5) 574 [tB,v,w] Z Q X:=by
 revert D n Z Q X v w;apply aP;generalize e0 _=D;intro T;apply ch;generalize e5 _=n,e4 _=Z,e3 _=Q,e2 _=X,e1 _=v,e0 _=w;intro h;refine yo ?_;walk_at "w";refine bz λa k=>?_;walk_at "w";refine bz λb i=>?_;refine bb (bg i) λP c i=>?_;walk_at "w";refine Fg.go 5 ?_;walk_at "w";refine lN (D:=D) ?_;walk_at "w";exact h _ (((((St.Zy.Zw.Zv k _).Zv i _).Zv i _).Zv k _))
theorem NP{u v w:V}(h:∀M,Z.Zy M→Q (.lst [u,v]) M):D (n+5) 574 [dD,.tup [u,v],w] Z Q X:=by
 revert D n Z Q X u v w;apply aP;generalize e0 _=D;intro T;apply dQ;generalize e6 _=n,e5 _=Z,e4 _=Q,e3 _=X,e2 _=u,e1 _=v,e0 _=w;intro h;refine yo ?_;walk_at "w";refine bz λa k=>?_;walk_at "w";refine bz λb i=>?_;refine bb (bg i) λP c i=>?_;walk_at "w";refine Fg.go 7 ?_;walk_at "w";refine yG (D:=D) ?_;walk_at "w";refine mX (D:=D) (by decide) ?_;walk_at "w";refine lM (D:=D) ?_;walk_at "w";refine lN (D:=D) ?_;walk_at "w";refine Eu (D:=D) ?_;walk_at "w";exact h _ (((((((((((((St.Zy.Zw.Zv k _).Zv i _).Zv i _).Zv i _).Zv i _).Zv i _).Zv k _).Zv i _).Zv k _).Zv i _).Zv k _).Zv k _).Zv k _)
theorem MW{v w m:V}(h:∀M,Z.Zy M→Q v M):D (n+5) 593 [bO,.lst [v],w,m] Z Q X:=by
 revert D n Z Q X v w m;apply aP;generalize e0 _=D;intro T;apply dQ;generalize e6 _=n,e5 _=Z,e4 _=Q,e3 _=X,e2 _=v,e1 _=w,e0 _=m;intro h;refine yn ?_;walk_at "w";refine bz λa k=>?_;walk_at "w";refine bz λb i=>?_;refine bb (bg i) λP c i=>?_;walk_at "w";refine Fg.go 5 ?_;walk_at "w";refine lM (D:=D) ?_;walk_at "w";exact h _ (((((St.Zy.Zw.Zv k _).Zv i _).Zv i _).Zv k _))
theorem M1{v w m:V}(h:∀M,Z.Zy M→Q v M):D (n+5) 593 [tB,.lst [v],w,m] Z Q X:=by
 refine yn ?_;walk_at "w";refine bz λa k=>?_;walk_at "w";refine bz λb i=>?_;refine bb (bg i) λP c i=>?_;walk_at "w";refine Fg.go 5 ?_;walk_at "w";refine lN (D:=D) ?_;walk_at "w";exact h _ (((((St.Zy.Zw.Zv k _).Zv i _).Zv i _).Zv k _))
theorem MY{u v w m:V}(h:∀M,Z.Zy M→Q (.tup [u,v]) M):D (n+6) 593 [dD,.lst [u,v],w,m] Z Q X:=by
 revert D n Z Q X u v w m;apply aP;generalize e0 _=D;intro T;apply jy;generalize e7 _=n,e6 _=Z,e5 _=Q,e4 _=X,e3 _=u,e2 _=v,e1 _=w,e0 _=m;intro h;refine yn ?_;walk_at "w";refine bz λa k=>?_;walk_at "w";refine bz λb i=>?_;refine bb (bg i) λP c i=>?_;walk_at "w";refine Fg.go 7 ?_;walk_at "w";refine yG (D:=D) ?_;walk_at "w";refine Ej (D:=D) λJ S=>?_;have z:=S a (.list []) (by walk_at "w");have C:=S b (.list []) (by walk_at "w");walk_at "w";refine mX (D:=D) (by decide) ?_;walk_at "w";refine lM (D:=D) ?_;walk_at "w";refine lN (D:=D) ?_;walk_at "w";exact h _ ((((((((((((((St.Zy.Zw.Zv k _).Zv i _).Zv i _).Zx S).Zv i _).Zv i _).Zv i _).Zv k _).Zv i _).Zv k _).Zv i _).Zv k _).Zv k _).Zv k _)
end
structure Al where
 ao:ag
 ca:ag
 ss:List ag
 cs:List V
 lv:Bool
noncomputable def Al.Zv(a:Al):List (ag×O):=if a.lv then(a.ao,dF a.ca a.ss)::(a.ca,.list a.cs)::a.ss.map λs=>(s,cT)else[(a.ao,pH)]
structure cw where
 mem:ag
 al:ag
 hm:ag
 pr:ag
 plc:ag
 rv:ag
 frame:ag
 bd:ag
 mach:ag
 w:ag
 prog:ag
 bdg:ag
 late:ag
 lat1:ag
 frms:ag
 glu:V
 inp:V
 blk:V
 sp:V
 sp2:V
 frl:List V
instance:Nonempty cw:=⟨by constructor<;>exact gU inferInstance⟩
noncomputable abbrev mD:List V:=[n7,bO,tB,dD,bO,dD]
noncomputable abbrev lz(l:List V):V:=.lst (l.map λk=>.tup [k,.bool ae,.none])
noncomputable def cw.Zv(A:cw):List (ag×O):=
 [(A.plc,.inst 868 [(SM 120,.obj A.mem),(SM 103,.obj A.w)]),
  (A.rv,.inst 936 [(SM 124,.obj A.plc),(SM 103,.obj A.w)]),
  (A.frame,.inst 964 [(SM 43,.obj A.bd),(SM 130,.none),(SM 73,.none),(SM 84,.obj A.hm),(SM 76,.int 0),(SM 86,.int 0),(SM 53,.lst [])]),
  (A.bd,.inst 1144 [(SM 60,.str (SM 9)),(SM 182,.int 2),(SM 119,lz mD),(SM 110,A.blk),(SM 96,A.sp)]),
  (A.bdg,.inst 1144 [(SM 60,.str (SM 10)),(SM 182,.int 2),(SM 119,lz [bO,bO,tB]),(SM 110,.lst [.lst [.lst [],.tup [.str (SM 126)]]]),(SM 96,A.sp2)]),
  (A.prog,.sdict [(SM 9,.obj A.bd),(SM 10,.obj A.bdg)]),
  (A.mach,.inst 1079 [(SM 150,.obj A.prog),(SM 103,.obj A.w),(SM 116,A.inp),(SM 51,.int 99),(SM 120,.obj A.mem),(SM 124,.obj A.plc),(SM 151,.obj A.rv),(SM 52,A.glu),(SM 55,.obj A.late),(SM 115,.obj A.frms),(SM 125,.obj A.pr),(SM 148,.none)]),
  (A.late,.sdict [(SM 9,.obj A.lat1)]),
  (A.frms,.list A.frl)]
structure Mc where
 many:Int
 als:List Al
 h:List (Int×V)
instance:Nonempty Mc:=⟨by constructor<;>exact gU inferInstance⟩
noncomputable def Mc.Zv(A:cw)(m:Mc)(W:List V)(F:List (ag×O)):List (ag×O):=
 (A.mem,bL A.al m.many)::(A.al,.list (m.als.map λa=>.obj a.ao))::(A.hm,.idict m.h)::(A.pr,.list W)::(m.als.flatMap Al.Zv++(A.Zv++F))
def Hp(Z:St)(e:List (ag×O)):Prop:=(e.map (·.1)).Nodup∧∀p∈e,Z p.1=aa p.2
theorem Hp.ZB{Z M:St}{e:List (ag×O)}(h:Hp Z e)(k:Z.Zy M):Hp M e:=⟨h.1,λp t=>k _ _ (h.2 p t)⟩
theorem Hp.Zz{Z:St}{e X:List (ag×O)}(h:Hp Z e)(k:e.Perm X):Hp Z X:=⟨(k.map _).nodup_iff.mp h.1,λp t=>h.2 p (k.mem_iff.mpr t)⟩
theorem Hp.ZC{Z:St}{a:ag}{o:O}{e:List (ag×O)}(h:Hp Z ((a,o)::e))(H:O):Hp (Z.Zv a H) ((a,H)::e):=by
 refine⟨h.1,λp t=>?_⟩;refine bW (bf.mp t) (λq=>?_) λq=>?_
 ·refine qF q ?_;exact St.Zx _ _ _
 ·have n:p.1≠a:=λF=>by
   have:=(dY.mp h.1).1;exact this (cR.mpr ⟨p,q,F⟩)
  rw[St.Zw _ _ n];exact h.2 p (.tail _ q)
theorem Hp.Zy{Z:St}{e:List (ag×O)}(h:Hp Z e){a:ag}(k:Z a=ah)(o:O):Hp (Z.Zv a o) ((a,o)::e):=by
 have n:∀p∈e,p.1≠a:=λp t q=>by have:=h.2 p t;rw[q]at this;exact aG (k.symm.trans this)
 refine⟨dY.mpr ⟨λq=>?_,h.1⟩,λp t=>?_⟩
 ·refine aB (cR.mp q) λp t e=>?_
  exact n p t e
 ·refine bW (bf.mp t) (λq=>?_) λq=>?_
  ·refine qF q ?_;exact St.Zx _ _ _
  ·rw[St.Zw _ _ (n p q)];exact h.2 p q
theorem Hp.Zv{Z:St}{p:ag×O}{e:List (ag×O)}(h:Hp Z (p::e)):Hp Z e:=⟨(dY.mp h.1).2,λq j=>h.2 q (.tail _ j)⟩
theorem Hp.Zx{Z:St}{a:ag}{o:O}{d L:List (ag×O)}(h:Hp Z (d++(a,o)::L))(H:O):Hp (Z.Zv a H) (d++(a,H)::L):=
 ((h.Zz Gk).ZC H).Zz Gk.symm
theorem Hp.ZG{Z:St}{a:ag}{o:O}{x:ag×O}{P S R:List (ag×O)}(h:Hp Z (P++((x::(a,o)::S)++R)))(H:O):Hp (Z.Zv a H) (P++((x::(a,H)::S)++R)):=by
 have e:∀y,P++((x::y::S)++R)=(P++[x])++y::(S++R):=λy=>by simp
 rw[e]at h⊢;exact h.Zx H
theorem Hp.ne{Z:St}{e:List (ag×O)}(h:Hp Z e){d L U:List (ag×O)}{p q:ag×O}(k:e=d++p::(L++q::U)):p.1≠q.1:=by
 intro c
 have:=h.1;rw[k]at this;rw[jM]at this;rw[bX]at this;rw[jM]at this;rw[bX]at this;have H:=(nR.mp this).2.1;exact(dY.mp H).1 (by refine(bo c)▸ ?_;simp)
theorem Hp.ZD{Z:St}{d L:List (ag×O)}(h:Hp Z (d++L)):Hp Z d∧Hp Z L:=by
 have:=h.1;rw[jM]at this;have n:=nR.mp this;exact⟨⟨n.1,λp t=>h.2 p (l5 _ t)⟩,⟨n.2.1,λp t=>h.2 p (iz _ t)⟩⟩
abbrev Ow:=Int→Option (List (Option V))
noncomputable def oc:Option V→V|ah=>cz|aa v=>v
noncomputable def ov:Option V→V|ah=>.none|aa v=>v
def d8(x:Option V):Prop:=x=ah∨∃i:Int,x=aa (.int i)∧0≤i∧i≤255
def d9(x:Option V):Prop:=x=ah∨∃b:Bool,x=aa (.bool b)
def b9(k:Int)(r:List (Option V)):Prop:=
 (k=0∧r=[])∨((k=1∨k=4)∧∃x,r=[x]∧d8 x)∨(k=2∧∃x,r=[x]∧d9 x)∨((k=3∨k=5)∧∃x y,r=[x,y]∧d8 x∧d9 y)
theorem b9.Zv{k:Int}{r:List (Option V)}(h:b9 k r):r.length≤2:=by
 revert k r;apply bF;generalize e1 _=k,e0 _=r;intro h;rcases h with⟨_,rfl⟩|⟨_,x,rfl,_⟩|⟨_,x,rfl,_⟩|⟨_,x,y,rfl,_⟩<;>simp
noncomputable def Ow.Zv(f:Ow)(k:Int)(r:Option (List (Option V))):Ow:=λj=>if j=k then r else f j
structure cF(Z:St)(A:cw)(m:Mc)(f:Ow)(W:List V)(F:List (ag×O))(N:Nat):Prop where
 hp:Hp Z (m.Zv A W F)
 hn:(m.h.map (·.1)).Nodup
 hk:∀k,(m.h.lookup k).isSome=(f k).isSome
 at_:∀k r,f k=aa r→∃(i:Nat) (B:Al),m.h.lookup k=aa (.int i)∧m.als[i]? =aa B∧B.lv=ae∧B.cs=r.map oc∧B.ss.length=B.cs.length
 inj:∀k H (i:Nat),m.h.lookup k=aa (.int i)→m.h.lookup H=aa (.int i)→k=H
 ty:∀k r,f k=aa r→b9 k r
 cnt:(m.als.filter (·.lv)).length=m.h.length
 many:m.many≤2*m.als.length
 len:m.als.length≤N
def aU(Z:St)(A:cw)(f:Ow)(W:List V)(F:List (ag×O))(N:Nat):Prop:=∃m,cF Z A m f W F N
theorem aU.ZA{Z M:St}{A:cw}{f:Ow}{W:List V}{F:List (ag×O)}{N:Nat}(h:aU Z A f W F N)(k:Z.Zy M):aU M A f W F N:=by
 refine aE (h) λm h=>?_;exact⟨m,{h with hp:=h.hp.ZB k}⟩
section
variable{Z:St}{A:cw}{m:Mc}{f:Ow}{ps:List V}{F:List (ag×O)}{N:Nat}
theorem cF.Zx(h:cF Z A m f ps F N):Z A.mem=aa (bL A.al m.many):=h.hp.2 _ (.head _)
theorem cF.al(h:cF Z A m f ps F N):Z A.al=aa (.list (m.als.map λa=>.obj a.ao)):=h.hp.2 _ (.tail _ (.head _))
theorem cF.hm(h:cF Z A m f ps F N):Z A.hm=aa (.idict m.h):=h.hp.2 _ (.tail _ (.tail _ (.head _)))
theorem cF.pr(h:cF Z A m f ps F N):Z A.pr=aa (.list ps):=h.hp.2 _ (.tail _ (.tail _ (.tail _ (.head _))))
theorem cF.sr(h:cF Z A m f ps F N):Hp Z (A.Zv++F):=by
 have:=h.hp;unfold Mc.Zv at this;exact(this.Zv.Zv.Zv.Zv).ZD.2
theorem aU.Zz(h:aU Z A f ps F N){p:ag×O}(t:p∈A.Zv):Z p.1=aa p.2:=by
 refine aE (h) λm h=>?_;exact h.sr.2 p (l5 _ t)
theorem aU.Zy(h:aU Z A f ps F N){p:ag×O}(t:p∈F):Z p.1=aa p.2:=by
 refine aE (h) λm h=>?_;exact h.sr.2 p (iz _ t)
theorem aU.Zw(h:aU Z A f ps F N):Z A.plc=aa (.inst 868 [(SM 120,.obj A.mem),(SM 103,.obj A.w)]):=h.Zz (p:=(_,_)) (.head _)
theorem aU.rv(h:aU Z A f ps F N):Z A.rv=aa (.inst 936 [(SM 124,.obj A.plc),(SM 103,.obj A.w)]):=h.Zz (p:=(_,_)) (.tail _ (.head _))
theorem aU.Zx(h:aU Z A f ps F N):Z A.frame=aa (.inst 964 [(SM 43,.obj A.bd),(SM 130,.none),(SM 73,.none),(SM 84,.obj A.hm),(SM 76,.int 0),(SM 86,.int 0),(SM 53,.lst [])]):=h.Zz (p:=(_,_)) (.tail _ (.tail _ (.head _)))
theorem aU.bd(h:aU Z A f ps F N):Z A.bd=aa (.inst 1144 [(SM 60,.str (SM 9)),(SM 182,.int 2),(SM 119,lz mD),(SM 110,A.blk),(SM 96,A.sp)]):=h.Zz (p:=(_,_)) (.tail _ (.tail _ (.tail _ (.head _))))
theorem aU.ZF(h:aU Z A f ps F N):Z A.bdg=aa (.inst 1144 [(SM 60,.str (SM 10)),(SM 182,.int 2),(SM 119,lz [bO,bO,tB]),(SM 110,.lst [.lst [.lst [],.tup [.str (SM 126)]]]),(SM 96,A.sp2)]):=h.Zz (p:=(_,_)) (.tail _ (.tail _ (.tail _ (.tail _ (.head _)))))
theorem aU.ZE(h:aU Z A f ps F N):Z A.prog=aa (.sdict [(SM 9,.obj A.bd),(SM 10,.obj A.bdg)]):=h.Zz (p:=(_,_)) (.tail _ (.tail _ (.tail _ (.tail _ (.tail _ (.head _))))))
theorem aU.Zv(h:aU Z A f ps F N):Z A.mach=aa (.inst 1079 [(SM 150,.obj A.prog),(SM 103,.obj A.w),(SM 116,A.inp),(SM 51,.int 99),(SM 120,.obj A.mem),(SM 124,.obj A.plc),(SM 151,.obj A.rv),(SM 52,A.glu),(SM 55,.obj A.late),(SM 115,.obj A.frms),(SM 125,.obj A.pr),(SM 148,.none)]):=h.Zz (p:=(_,_)) (.tail _ (.tail _ (.tail _ (.tail _ (.tail _ (.tail _ (.head _)))))))
theorem aU.ZC(h:aU Z A f ps F N):Z A.late=aa (.sdict [(SM 9,.obj A.lat1)]):=h.Zz (p:=(_,_)) (.tail _ (.tail _ (.tail _ (.tail _ (.tail _ (.tail _ (.tail _ (.head _))))))))
theorem aU.ZB(h:aU Z A f ps F N):Z A.frms=aa (.list A.frl):=h.Zz (p:=(_,_)) (.tail _ (.tail _ (.tail _ (.tail _ (.tail _ (.tail _ (.tail _ (.tail _ (.head _)))))))))
end
theorem ud{O:Type}:∀{W:List O} {U:Nat} {Z:O},W[U]? =aa Z→∃v M,W=v++Z::M∧v.length=U
 |x::W,0,Z,h=>⟨[],W,by simp at h;rw[h];rfl,rfl⟩
 |x::W,U+1,Z,h=>by
  refine dO (ud (W:=W) (U:=U) (Z:=Z) (by simpa using h)) λv M e q=>?_;exact⟨x::v,M,by rw[e];rfl,by simp[q]⟩
theorem ue{O:Type}(a b:O)(M:List O):∀(v:List O),(v++a::M).set v.length b=v++b::M
 | []=>rfl
 |x::v=>by simp[ue a b M v]
theorem rK(k j:Int)(h:List (Int×V)):(h.filter λp=>p.1 !=k).lookup j=if j=k then ah else h.lookup j:=by
 revert k j h;apply bY;generalize e2 _=k,e1 _=j,e0 _=h
 induction h with
 |nil=>simp
 |cons p r F=>
  obtain⟨i,v⟩:=p;by_cases e:i=k
  ·subst e
   rw[tP (by simp)];rw[F];by_cases c:j=i
   ·rw[if_pos c];rw[if_pos c]
   ·rw[if_neg c];rw[if_neg c];rw[ey];rw[show(j==i)=aj from beq_eq_false_iff_ne.mpr c]
  ·rw[tO (by simpa using e)];rw[ey];rw[ey];rw[F]
   by_cases c:j=i
   ·subst c;simp[e]
   ·rw[show(j==i)=aj from beq_eq_false_iff_ne.mpr c]
theorem rI(k j:Int)(v:V)(h:List (Int×V))(Y:h.lookup k=ah):(h++[(k,v)]).lookup j=if j=k then aa v else h.lookup j:=by
 revert k j v h;apply dM;generalize e3 _=k,e2 _=j,e1 _=v,e0 _=h;intro Y
 induction h with
 |nil=>
  by_cases c:j=k
  ·refine qF c ?_;simp
  ·rw[if_neg c];rw[tL];rw[ey];rw[show(j==k)=aj from beq_eq_false_iff_ne.mpr c]
 |cons p r F=>
  obtain⟨i,u⟩:=p;rw[ey]at Y;by_cases e:k=i
  ·subst e;simp at Y
  ·rw[show(k==i)=aj from beq_eq_false_iff_ne.mpr e]at Y
   rw[List.cons_append];rw[ey];rw[ey];rw[F Y];by_cases c:j=i
   ·subst c;have X:¬j=k:=λq=>e q.symm
    simp[X]
   ·rw[show(j==i)=aj from beq_eq_false_iff_ne.mpr c]
theorem ui(k:Int)(v:V):∀(h:List (Int×V)),h.lookup k=ah→cD k v h=h++[(k,v)]
 | [],_=>rfl
 |(i,u)::r,Y=>by
  rw[ey]at Y;by_cases e:k=i
  ·subst e;simp at Y
  ·rw[show(k==i)=aj from beq_eq_false_iff_ne.mpr e]at Y
   refine(if_neg e:cq k v ((i,u)::r)=_).trans ?_;exact congrArg _ (ui k v r Y)
theorem jW{k:Int}:∀{h:List (Int×V)},h.lookup k=ah→k∉h.map (·.1)
 | [],_=>by simp
 |(i,u)::r,Y=>by
  rw[ey]at Y;by_cases e:k=i
  ·subst e;simp at Y
  ·rw[show(k==i)=aj from beq_eq_false_iff_ne.mpr e]at Y
   simp only[bX,bf,not_or];exact⟨e,jW Y⟩
theorem B0{k:Int}{h:List (Int×V)}(U:(h.lookup k).isSome=ae):k∈h.map (·.1):=by
 revert k h;apply bF;generalize e1 _=k,e0 _=h;intro U
 induction h with
 |nil=>simp at U
 |cons p r F=>
  obtain⟨i,u⟩:=p;rw[ey]at U;by_cases e:k=i
  ·refine qF e ?_;exact List.mem_cons_self
  ·rw[show(k==i)=aj from beq_eq_false_iff_ne.mpr e]at U
   exact dZ _ (F U)
theorem KS{k:Int}{h:List (Int×V)}(Y:(h.map (·.1)).Nodup)(U:(h.lookup k).isSome=ae):(h.filter λp=>p.1 !=k).length+1=h.length:=by
 induction h with
 |nil=>simp at U
 |cons p r F=>
  obtain⟨i,u⟩:=p;rw[bX]at Y;rw[dY]at Y;by_cases e:i=k
  ·refine qE e ?_
   rw[tP (by simp)];rw[l6]
   have:(r.filter λp=>p.1 !=i)=r:=List.filter_eq_self.mpr λp t=>by
    have:p.1≠i:=λq=>Y.1 (cR.mpr ⟨p,t,q⟩);simpa using this
   rw[this]
  ·rw[ey]at U;rw[show(k==i)=aj from beq_eq_false_iff_ne.mpr λq=>e q.symm]at U
   rw[tO (by simpa using e),l6,l6,F Y.2 U]
section
variable{Z:St}{A:cw}{m:Mc}{f:Ow}{ps:List V}{F:List (ag×O)}{N:Nat}
noncomputable def Mc.Zw(A:cw)(m:Mc)(ps:List V)(v:List Al):List (ag×O):=
 [(A.mem,bL A.al m.many),(A.al,.list (m.als.map λa=>.obj a.ao)),(A.hm,.idict m.h),(A.pr,.list ps)]++v.flatMap Al.Zv
theorem pB{v M:List Al}{B:Al}(a:m.als=v++B::M):m.Zv A ps F=m.Zw A ps v++(B.Zv++(M.flatMap Al.Zv++(A.Zv++F))):=by
 unfold Mc.Zv Mc.Zw;rw[a];simp[iA]
theorem cF.lv(h:cF Z A m f ps F N)(G:N≤900){k:Int}{r:List (Option V)}(I:f k=aa r):∃(i:Nat) (B:Al),m.h.lookup k=aa (.int i)∧
  Lv Z A.mem A.al m.many (m.als.map λa=>.obj a.ao) i B.ao B.ca B.ss (r.map oc)∧
  ∀D,b9 k D→cF (Z.Zv B.ca (.list (D.map oc))) A {m with als:=m.als.set i {B with cs:=D.map oc}} (f.Zv k (aa D)) ps F N:=by
 revert Z A m f ps F N k r;apply dQ;generalize e6 _=Z,e5 _=A,e4 _=m,e3 _=f,e2 _=ps,e1 _=F,e0 _=N;intro h G;apply bF;generalize e1 _=k,e0 _=r;intro I;refine f9 (h.at_ k r I) λi B R H O z W=>?_;refine dO (ud H) λv M e Vw=>?_;have C:i<m.als.length:=(jN.mp H).1;have l:B.Zv=(B.ao,dF B.ca B.ss)::(B.ca,.list B.cs)::B.ss.map λs=>(s,cT):=by unfold Al.Zv;rw[if_pos O]
 have t:=h.hp;rw[pB e]at t;rw[l]at t;have g:∀Vv∈B.Zv,Z Vv.1=aa Vv.2:=λVv K=>h.hp.2 Vv (by rw[pB e];exact iz _ (l5 _ K));replace g:=l▸g
 have n:B.ca≠A.al:=by
  have:=t.ne (p:=(A.al,.list (m.als.map λa=>.obj a.ao))) (q:=(B.ca,.list B.cs)) (d:=[(A.mem,bL A.al m.many)]) (L:=[(A.hm,.idict m.h),(A.pr,.list ps)]++v.flatMap Al.Zv++[(B.ao,dF B.ca B.ss)]) (U:=(B.ss.map λs=>(s,cT))++(M.flatMap Al.Zv++(A.Zv++F))) (by unfold Mc.Zw;simp[iA]);exact this.symm
 refine⟨i,B,R,⟨h.Zx,h.al,by rw[bT];have:=h.len;lia,by rw[jf];rw[H];rfl,g _ (.head _),by exact z▸g _ (.tail _ (.head _)),by rw[W,z],λs T=>g (s,cT) (.tail _ (.tail _ (cR.mpr ⟨s,T,rfl⟩))),n⟩,λD P=>?_⟩;have X:m.als.set i {B with cs:=D.map oc}=v++{B with cs:=D.map oc}::M:=by exact e▸Vw▸ue _ _ _ _
 have o:D.length=r.length:=by
  have:=h.ty k r I;rcases this with⟨a,rfl⟩|⟨a,x,rfl,_⟩|⟨a,x,rfl,_⟩|⟨a,x,y,rfl,_⟩<;>rcases P with⟨b,rfl⟩|⟨b,x,rfl,_⟩|⟨b,x,rfl,_⟩|⟨b,x,y,rfl,_⟩<;>first|rfl|(exfalso;lia)
 exact{
  hp:=by
   rw[pB (m:={m with als:=m.als.set i {B with cs:=D.map oc}}) X];have w:(m.als.set i {B with cs:=D.map oc}).map (λa=>V.obj a.ao)=m.als.map λa=>.obj a.ao:=by rw[X];rw[e];simp
   have Y:Mc.Zw A {m with als:=m.als.set i {B with cs:=D.map oc}} ps v=m.Zw A ps v:=by unfold Mc.Zw;rw[w]
   rw[Y,show({B with cs:=D.map oc}:Al).Zv=(B.ao,dF B.ca B.ss)::(B.ca,.list (D.map oc))::B.ss.map λs=>(s,cT)by unfold Al.Zv;rw[if_pos O]];exact Hp.ZG t _
  hn:=h.hn
  hk:=λj=>by
   unfold Ow.Zv;by_cases c:j=k
   ·refine qF c ?_;rw[if_pos rfl];rw[h.hk];rw[I];rfl
   ·rw[if_neg c];exact h.hk j
  at_:=λj s J=>by
   unfold Ow.Zv at J;by_cases c:j=k
   ·subst c;rw[if_pos rfl]at J;refine oE J ?_
    exact⟨i,_,R,List.getElem?_set_self C,O,rfl,by rw[W,z,bT,bT,o]⟩
   ·rw[if_neg c]at J
    refine f9 (h.at_ j s J) λU L S u d E Q=>?_;have:i≠U:=λVw=>by subst Vw;exact c (h.inj _ _ _ S R)
    exact⟨U,L,S,by rw[List.getElem?_set_ne this];exact u,d,E,Q⟩
  inj:=h.inj
  ty:=λj s J=>by
   unfold Ow.Zv at J;by_cases c:j=k
   ·subst c;rw[if_pos rfl]at J;refine oE J ?_;exact P
   ·rw[if_neg c]at J;exact h.ty j s J
  cnt:=by
   refine h.cnt▸ ?_;refine(?_:((m.als.set i {B with cs:=D.map oc}).filter (·.lv)).length=_);rw[X];rw[e];simp[List.filter_cons,O]
  many:=by refine(?_:m.many≤2*(m.als.set i _).length);exact(zP).symm▸h.many
  len:=by refine(?_:(m.als.set i _).length≤N);exact(zP).symm▸h.len}
theorem cF.Zy(h:cF Z A m f ps F N):m.h.length≤N:=by
 rw[←h.cnt];exact aW (List.length_filter_le _ _) h.len
theorem KH{Z:St}{g U b Y J:ag}{y:ag×O}{B R S:List (ag×O)}{M e T k n:O}(h:Hp Z (((g,M)::(U,e)::(b,T)::y::B)++(((Y,k)::(J,n)::S)++R)))(c a W:O):
  Hp (Z.Zv b a) (((g,M)::(U,e)::(b,a)::y::B)++(((Y,k)::(J,n)::S)++R))∧U≠J∧
   Hp (((Z.Zv b a).Zv g c).Zv Y W) (((J,n)::S)++(((g,c)::(U,e)::(b,a)::y::B)++((Y,W)::R))):=
 have V:=Hp.Zx (d:=[(g,M),(U,e)]) (L:=y::(B++(((Y,k)::(J,n)::S)++R))) h a;have H:=Hp.ZC (o:=M) V c;have j:=Hp.Zx (d:=(g,c)::(U,e)::(b,a)::y::B) (L:=((J,n)::S)++R) H W
 ⟨V,h.ne (p:=(U,e)) (q:=(J,n)) (d:=[(g,M)]) (L:=(b,T)::y::(B++[(Y,k)])) (U:=S++R) (by simp),j.Zz (by
  have:=Qw ((g,c)::(U,e)::(b,a)::y::(B++[(Y,W)])) ((J,n)::S) R;simpa using this)⟩
theorem cF.ZB(Vv:cF Z A m f ps F N)(G:N≤900){k:Int}{r:List (Option V)}(I:f k=aa r):∃(i:Nat) (B:Al),m.h.lookup k=aa (.int i)∧
  Lv (Z.Zv A.hm (.idict (m.h.filter λp=>p.1 !=k))) A.mem A.al m.many (m.als.map λa=>.obj a.ao) i B.ao B.ca B.ss (r.map oc)∧
  cF (((Z.Zv A.hm (.idict (m.h.filter λp=>p.1 !=k))).Zv A.mem (bL A.al (m.many- ((r.map oc).length:Nat)))).Zv B.ao pH) A
   {many:=m.many- ((r.map oc).length:Nat),als:=m.als.set i {B with lv:=aj},h:=m.h.filter λp=>p.1 !=k} (f.Zv k ah) ps F N:=by
 revert Z A m f ps F N k r;apply dQ;generalize e6 _=Z,e5 _=A,e4 _=m,e3 _=f,e2 _=ps,e1 _=F,e0 _=N;intro Vv G;apply bF;generalize e1 _=k,e0 _=r;intro I;refine f9 (Vv.at_ k r I) λi B W H d z b=>?_;refine dj (Vv.lv G I) λU x D L zz=>?_;have M:U=i:=by rw[W]at D;have:=V.int.inj (aI D);lia
 subst M;have hB:x.ao=B.ao:=by have:=L.at_;rw[jf]at this;rw[H]at this;exact(V.obj.inj (aI this)).symm
 refine dO (ud H) λv t e q=>?_;have be:B.Zv=(B.ao,dF B.ca B.ss)::(B.ca,.list B.cs)::B.ss.map λs=>(s,cT):=by unfold Al.Zv;rw[if_pos d]
 have Q:=Vv.hp;rw[pB e]at Q;rw[be]at Q;refine bb (KH (g:=A.mem) (U:=A.al) (b:=A.hm) (y:=(A.pr,.list ps)) (B:=v.flatMap Al.Zv) (Y:=B.ao) (J:=B.ca) (S:=B.ss.map λs=>(s,cT)) (R:=t.flatMap Al.Zv++(A.Zv++F)) Q (bL A.al (m.many- ((r.map oc).length:Nat))) (.idict (m.h.filter λp=>p.1 !=k)) pH) λP n w3=>?_;have C:∀{a:ag} {o:O},Z a=aa o→a≠A.hm→(Z.Zv A.hm (.idict (m.h.filter λp=>p.1 !=k))) a=aa o:=λg c=>by rw[St.Zw _ _ c];exact g
 have T:∀{a:ag} {o:O},Z a=aa o→(∀l,o≠.idict l)→a≠A.hm:=λg c=>dq g Vv.hm (c _);refine⟨U,B,W,⟨C Vv.Zx (T Vv.Zx (by simp)),C Vv.al (T Vv.al (by simp)),L.len,by rw[jf];rw[H];rfl,?_,?_,by rw[b,z],?_,?_⟩,?_⟩
 ·exact P.2 (B.ao,dF B.ca B.ss) (iz _ (l5 _ (.head _)))
 ·exact z▸P.2 (B.ca,.list B.cs) (iz _ (l5 _ (.tail _ (.head _))))
 ·intro s hs;exact P.2 (s,cT) (iz _ (l5 _ (.tail _ (.tail _ (Go (f:=λs=>(s,cT)) hs)))))
 ·exact n.symm
 ·have X:m.als.set U {B with lv:=aj}=v++{B with lv:=aj}::t:=by rw[e];exact q▸ue _ _ _ _
  have K:(m.h.lookup k).isSome=ae:=by rw[W];rfl
  exact{
   hp:=by
    rw[pB (m:={many:=m.many- ((r.map oc).length:Nat),als:=m.als.set U {B with lv:=aj},h:=m.h.filter λp=>p.1 !=k}) X];have w:(m.als.set U {B with lv:=aj}).map (λa=>V.obj a.ao)=m.als.map λa=>.obj a.ao:=by rw[X];rw[e];simp
    unfold Mc.Zw;rw[w,show({B with lv:=aj}:Al).Zv=[(B.ao,pH)]by rfl];exact w3.ZD.2
   hn:=by
    have:=Vv.hn;exact(List.Sublist.map _ (List.filter_sublist)).nodup this
   hk:=λj=>by
    unfold Ow.Zv;rw[rK];by_cases c:j=k
    ·rw[if_pos c];rw[if_pos c];rfl
    ·rw[if_neg c];rw[if_neg c];exact Vv.hk j
   at_:=λj s J=>by
    unfold Ow.Zv at J;by_cases c:j=k
    ·subst c;rw[if_pos rfl]at J;exact aG J
    ·rw[if_neg c]at J
     obtain⟨E,u,y,a2,a3,a4,a5⟩:=Vv.at_ j s J;have:U≠E:=λq=>by subst q;exact c (Vv.inj _ _ _ y W)
     exact⟨E,u,by show(m.h.filter λp=>p.1 !=k).lookup j=_;rw[rK,if_neg c];exact y,by rw[List.getElem?_set_ne this];exact a2,a3,a4,a5⟩
   inj:=λj j' i W H=>by
    rw[rK]at W H;split at W
    ·cases W
    ·split at H
     ·cases H
     ·exact Vv.inj _ _ _ W H
   ty:=λj s J=>by
    unfold Ow.Zv at J;by_cases c:j=k
    ·subst c;rw[if_pos rfl]at J;cases J
    ·rw[if_neg c]at J;exact Vv.ty j s J
   cnt:=by
    have Y:=Vv.cnt;have c2:=KS Vv.hn K;show((m.als.set U {B with lv:=aj}).filter (·.lv)).length=(m.h.filter λp=>p.1 !=k).length;rw[X];rw[e]at Y;simp[List.filter_cons,d]at Y⊢;exact zH (Y.trans c2.symm)
   many:=by show m.many-_≤2*(m.als.set U _).length;rw[zP];exact tQ (Int.sub_le_self _ (Int.natCast_nonneg _)) Vv.many
   len:=by show(m.als.set U _).length≤N;rw[zP];exact Vv.len}
end
section
variable{Z:St}{A:cw}{m:Mc}{f:Ow}{ps:List V}{F:List (ag×O)}{N:Nat}
theorem cF.Zz(Vx:cF Z A m f ps F N){k:Int}(hf:f k=ah){z:Nat}(X:b9 k (bA z ah)){M:St}{a W:ag}{U:List ag}
  (J:zh Z M A.mem A.al m.many (m.als.map λa=>.obj a.ao) z a W U):
  cF (M.Zv A.hm (.idict (cD k (.int m.als.length) m.h))) A {many:=m.many+z,als:=m.als++[⟨a,W,U,bA z cz,ae⟩],h:=cD k (.int m.als.length) m.h} (f.Zv k (aa (bA z ah))) ps F (N+1):=by
 revert Z A m f ps F N k z M a W U;apply dQ;generalize e6 _=Z,e5 _=A,e4 _=m,e3 _=f,e2 _=ps,e1 _=F,e0 _=N;intro Vx;apply aP;generalize e0 _=k;intro hf;apply aP;generalize e0 _=z;intro X;apply dM;generalize e3 _=M,e2 _=a,e1 _=W,e0 _=U;intro J;have hz:z≤2:=by have:=X.Zv;simpa using this
 have v:m.h.lookup k=ah:=by have:=Vx.hk k;rw[hf]at this;simpa using this
 have Q:Hp Z ([(A.mem,bL A.al m.many),(A.al,.list (m.als.map λa=>.obj a.ao))]++((A.hm,.idict m.h)::(A.pr,.list ps)::(m.als.flatMap Al.Zv++(A.Zv++F)))):=Vx.hp;have E:=Q.ZD.2
 have nm:∀p∈((A.hm,O.idict m.h)::(A.pr,.list ps)::(m.als.flatMap Al.Zv++(A.Zv++F))),p.1≠A.mem∧p.1≠A.al:=λp hp=>by
  have D:=Q.1;rw[jM]at D;rw[nR]at D;exact⟨λq=>D.2.2 A.mem (by exact List.mem_cons_self) p.1 (cR.mpr ⟨p,hp,rfl⟩) q.symm,λq=>D.2.2 A.al (by simp) p.1 (cR.mpr ⟨p,hp,rfl⟩) q.symm⟩
 have Vv:Hp M ((A.hm,.idict m.h)::(A.pr,.list ps)::(m.als.flatMap Al.Zv++(A.Zv++F))):=
  ⟨E.1,λp hp=>J.keep _ _ (nm p hp).1 (nm p hp).2 (E.2 p hp)⟩
 have Vw:∀p∈((A.hm,O.idict m.h)::(A.pr,.list ps)::(m.als.flatMap Al.Zv++(A.Zv++F))),∀x∈a::W::U,p.1≠x:=λp hp x K=>bx (E.2 p hp) (J.fr x K);have G:∀x∈a::W::U,A.mem≠x∧A.al≠x:=λx K=>⟨bx Vx.Zx (J.fr x K),bx Vx.al (J.fr x K)⟩;have hB:∀B:Al,B=⟨a,W,U,bA z cz,ae⟩→B.Zv=(a,dF W U)::(W,.list (bA z cz))::U.map λs=>(s,cT):=λB e=>by refine qF e ?_;rfl
 have w:((a,dF W U)::(W,O.list (bA z cz))::U.map λs=>(s,cT)).map (·.1)=a::W::U:=by simp[kS,Gx]
 have I:Hp M (((a,dF W U)::(W,.list (bA z cz))::U.map λs=>(s,cT))++([(A.mem,bL A.al (m.many+z)),(A.al,.list (m.als.map (λa=>.obj a.ao)++[.obj a]))]++((A.hm,.idict m.h)::(A.pr,.list ps)::(m.als.flatMap Al.Zv++(A.Zv++F))))):=by
  constructor
  ·rw[jM];rw[w];rw[nR]
   refine⟨J.nd,?_,?_⟩
   ·exact Q.1
   ·intro x K y l
    rw[jM]at l;rw[je]at l;rcases l with l|l
    ·simp at l
     rcases l with rfl|rfl
     ·exact(G x K).1.symm
     ·exact(G x K).2.symm
    ·refine aE (cR.mp l) λp u=>?_;obtain⟨hp,rfl⟩:=u
     exact(Vw p hp x K).symm
  ·intro p hp
   rcases je.mp hp with hp|hp
   ·rcases bf.mp hp with rfl|hp
    ·exact J.o
    ·rcases bf.mp hp with rfl|hp
     ·exact J.c
     ·refine aE (cR.mp hp) λs C=>?_;obtain⟨n,rfl⟩:=C
      exact J.s s n
   ·rcases je.mp hp with hp|hp
    ·simp at hp
     rcases hp with rfl|rfl
     ·exact J.mm
     ·exact J.l
    ·exact Vv.2 p hp
 have P:Hp (M.Zv A.hm (.idict (cD k (.int m.als.length) m.h))) ((((a,dF W U)::(W,.list (bA z cz))::U.map λs=>(s,cT))++[(A.mem,bL A.al (m.many+z)),(A.al,.list (m.als.map (λa=>.obj a.ao)++[.obj a]))])++(A.hm,.idict (cD k (.int m.als.length) m.h))::(A.pr,.list ps)::(m.als.flatMap Al.Zv++(A.Zv++F))):=
  Hp.Zx (o:=.idict m.h) (by rw[iA];exact I) _
 have g:=ui k (.int m.als.length) m.h v
 exact{
  hp:=by
   unfold Mc.Zv;refine P.Zz ?_;rw[List.flatMap_append];rw[jM];simp only[List.flatMap_cons,List.flatMap_nil,nS,hB _ rfl,bX,eG]
   have:∀(N:List (ag×O)) (a b c d:ag×O) (L R:List (ag×O)),((N++[a,b])++c::d::(L++R)).Perm (a::b::c::d::((L++N)++R)):=λN a b c d L R=>by
    have S:((N++[a,b])++c::d::(L++R))=(N++([a,b,c,d]++L))++R:=by simp[iA]
    have H:(a::b::c::d::((L++N)++R))=(([a,b,c,d]++L)++N)++R:=by rfl
    rw[S];exact(List.perm_append_comm).append_right R
   exact this _ _ _ _ _ _ _
  hn:=by
   refine(?_:((cD k (.int m.als.length) m.h).map (·.1)).Nodup);rw[g];rw[jM];rw[nR];refine⟨Vx.hn,by simp,λx K y l=>?_⟩;simp at l;refine qF l ?_;exact λq=>jW v (q▸K)
  hk:=λj=>by
   refine(?_:((cD k (.int m.als.length) m.h).lookup j).isSome=_);unfold Ow.Zv;rw[g];rw[rI _ _ _ _ v];by_cases c:j=k
   ·rw[if_pos c];rw[if_pos c];rfl
   ·rw[if_neg c];rw[if_neg c];exact Vx.hk j
  at_:=λj s Y=>by
   unfold Ow.Zv at Y;by_cases c:j=k
   ·subst c;rw[if_pos rfl]at Y;refine oE Y ?_
    refine⟨m.als.length,⟨a,W,U,bA z cz,ae⟩,?_,?_,rfl,?_,?_⟩
    ·refine(?_:(cD j (.int m.als.length) m.h).lookup j=_)
     rw[g];rw[rI _ _ _ _ v];rw[if_pos rfl]
    ·skip
     simp
    ·skip
     simp[oc]
    ·skip
     rw[J.sl];rw[List.length_replicate]
   ·rw[if_neg c]at Y
    refine f9 (Vx.at_ j s Y) λi' B' t T a3 a4 a5=>?_;have hl:=(jN.mp T).1;refine⟨i',B',?_,?_,a3,a4,a5⟩
    ·show(cD k (.int m.als.length) m.h).lookup j=_
     rw[g,rI _ _ _ _ v,if_neg c];exact t
    ·show(m.als++[_])[i']? =_
     rw[List.getElem?_append_left hl];exact T
  inj:=λj j' i S H=>by
   have lt:∀j (i:Nat),m.h.lookup j=aa (.int i)→i<m.als.length:=λj i e=>by
    have n:(f j).isSome=ae:=by rw[←Vx.hk,e];rfl
    obtain⟨r,E⟩:=Option.isSome_iff_exists.mp n;obtain⟨i',B',t,T,_⟩:=Vx.at_ j r E;rw[e]at t
    have:=V.int.inj (aI t);exact zT this▸(jN.mp T).1
   change (cD k (.int m.als.length) m.h).lookup j=_ at S;change (cD k (.int m.als.length) m.h).lookup j' =_ at H;rw[g,rI _ _ _ _ v]at S H;split at S
   ·split at H
    ·rename_i a b;rw[a,b]
    ·exact absurd (lt _ _ H) (zT (V.int.inj (aI S))▸jK _)
   ·split at H
    ·exact absurd (lt _ _ S) (zT (V.int.inj (aI H))▸jK _)
    ·exact Vx.inj _ _ _ S H
  ty:=λj s Y=>by
   unfold Ow.Zv at Y;by_cases c:j=k
   ·subst c;rw[if_pos rfl]at Y;cases Y;exact X
   ·rw[if_neg c]at Y;exact Vx.ty j s Y
  cnt:=by
   show((m.als++[(⟨a,W,U,bA z cz,ae⟩:Al)]).filter (·.lv)).length=(cD k (.int m.als.length) m.h).length;rw[g,List.filter_append,qw,Vx.cnt,qw];rfl
  many:=by show m.many+z≤2*((m.als++[_]).length:Nat);have:=Vx.many;rw[qw];exact tQ (Int.add_le_add this (Int.ofNat_le.mpr hz)) (by rw[List.length_singleton,Int.natCast_add,Int.mul_add];exact Int.le_refl _)
  len:=by show(m.als++[_]).length≤N+1;rw[qw];exact tJ Vx.len 1}
theorem aU.ZG(h:aU Z A f ps F N){M:Nat}(k:N≤M):aU Z A f ps F M:=by
 refine aE (h) λm h=>?_;exact⟨m,{h with len:=aW h.len k}⟩
theorem aU.ZJ(h:aU Z A f ps F N)(y:List V):aU (Z.Zv A.pr (.list y)) A f y F N:=by
 refine aE (h) λm h=>?_;exact⟨m,{h with hp:=Hp.Zx (d:=[(A.mem,bL A.al m.many),(A.al,.list (m.als.map λa=>.obj a.ao)),(A.hm,.idict m.h)]) (o:=.list ps) h.hp _}⟩
theorem aU.ZD{a:ag}{o:O}{W U:List (ag×O)}(h:aU Z A f ps (W++(a,o)::U) N)(H:O):aU (Z.Zv a H) A f ps (W++(a,H)::U) N:=by
 revert Z A f ps N a o W U H;apply j7;generalize e8 _=Z,e7 _=A,e6 _=f,e5 _=ps,e4 _=N,e3 _=a,e2 _=o,e1 _=W,e0 _=U;intro h;apply aP;generalize e0 _=H;refine aE (h) λm h=>?_;refine⟨m,{h with hp:=?_}⟩
 have:=h.hp;have e:∀o,m.Zv A ps (W++(a,o)::U)=((A.mem,bL A.al m.many)::(A.al,.list (m.als.map λa=>.obj a.ao))::(A.hm,.idict m.h)::(A.pr,.list ps)::(m.als.flatMap Al.Zv++(A.Zv++W)))++(a,o)::U:=λo=>by unfold Mc.Zv;simp[iA]
 rw[e]at this⊢;exact this.Zx _
theorem aU.ZH(h:aU Z A f ps F N){a:ag}(k:Z a=ah)(o:O):aU (Z.Zv a o) A f ps ((a,o)::F) N:=by
 revert Z A f ps F N a o;apply ch;generalize e5 _=Z,e4 _=A,e3 _=f,e2 _=ps,e1 _=F,e0 _=N;intro h;apply aP;generalize e0 _=a;intro k;apply aP;generalize e0 _=o;refine aE (h) λm h=>?_;refine⟨m,{h with hp:=?_}⟩;refine(h.hp.Zy k o).Zz ?_;have e:∀r,m.Zv A ps r=((A.mem,bL A.al m.many)::(A.al,.list (m.als.map λa=>.obj a.ao))::(A.hm,.idict m.h)::(A.pr,.list ps)::(m.als.flatMap Al.Zv++A.Zv))++r:=λr=>by unfold Mc.Zv;simp[iA]
 rw[e];rw[e];exact Gk.symm
theorem aU.ow(h:aU Z A f ps F N){g:Ow}(e:f=g):aU Z A g ps F N:=e▸h
end
noncomputable def So.ctorIdx(s:So):Nat:=So.casesOn (motive_4:=λ_=>Nat) s 0 1 2
structure Pc where
 k:Int
 fld:Option Bool
instance:Nonempty Pc:=⟨⟨0,ah⟩⟩
noncomputable def Pc.Zv(p:Pc):Int:=match p.fld with|aa ae=>1|_=>0
noncomputable def Pc.Zw(p:Pc):V:=match p.fld with|ah=>.tup []|aa b=>.tup [.tup [.str (SM 83),.int (if b then 1 else 0)]]
noncomputable def Pc.v(p:Pc):V:=.tup [.int p.k,p.Zw]
def Pc.ok:So→Pc→Prop
 | .num,p=>p=⟨1,ah⟩∨p=⟨4,ah⟩∨p=⟨3,aa aj⟩∨p=⟨5,aa aj⟩
 | .tru,p=>p=⟨2,ah⟩∨p=⟨3,aa ae⟩∨p=⟨5,aa ae⟩
 | .par,p=>p=⟨3,ah⟩∨p=⟨5,ah⟩
noncomputable abbrev lU(k:Int)(t:V):Prop:=(0≤k∧k<10)∧∀Z:St,gX Z (lz mD) (.int k)=aa (.tup [t,.bool ae,.none])
inductive Sq:So→Pc→Prop
 |n1 (k:Int):lU k bO→Sq .num ⟨k,ah⟩
 |n2 (k:Int):lU k dD→Sq .num ⟨k,aa aj⟩
 |t1 (k:Int):lU k tB→Sq .tru ⟨k,ah⟩
 |t2 (k:Int):lU k dD→Sq .tru ⟨k,aa ae⟩
 |p (k:Int):lU k dD→Sq .par ⟨k,ah⟩
theorem Aj{s:So}{p:Pc}(t:p.ok s):Sq s p:=by
 revert s p;apply bF;generalize e1 _=s,e0 _=p;intro t;have f:lU 3 dD:=⟨by decide,λ_=>by kernel_rfl⟩;have a:lU 5 dD:=⟨by decide,λ_=>by kernel_rfl⟩;cases s
 ·rcases t with rfl|rfl|rfl|rfl
  ·exact .n1 _ ⟨by decide,λ_=>by kernel_rfl⟩
  ·exact .n1 _ ⟨by decide,λ_=>by kernel_rfl⟩
  ·exact .n2 _ f
  ·exact .n2 _ a
 ·rcases t with rfl|rfl|rfl
  ·exact .t1 _ ⟨by decide,λ_=>by kernel_rfl⟩
  ·exact .t2 _ f
  ·exact .t2 _ a
 ·rcases t with rfl|rfl
  ·exact .p _ f
  ·exact .p _ a
noncomputable def So.ty:So→V| .num=>bO| .tru=>tB| .par=>dD
noncomputable def cV(y:Option Bool)(r:List (Option V)):List (Option V):=match y with|ah=>r|aa aj=>r.take 1|aa ae=>r.drop 1
noncomputable def jk(y:Option Bool)(r c:List (Option V)):List (Option V):=match y with|ah=>c|aa aj=>c++r.drop 1|aa ae=>r.take 1++c
def Vl:So→V→List V→Prop
 | .num,v,c=>∃i:Int,0≤i∧i≤255∧v=.int i∧c=[.int i]
 | .tru,v,c=>∃b:Bool,v=.bool b∧c=[.bool b]
 | .par,v,c=>∃(i:Int) (b:Bool),0≤i∧i≤255∧v=.tup [.int i,.bool b]∧c=[.int i,.bool b]
inductive Od where|cn(v:V)(c:List V)|us(t:Bool)(p:Pc)
instance:Nonempty Od:=⟨.cn .none []⟩
noncomputable def Od.v(s:So):Od→V
 | .cn v _=>.tup [.str (SM 79),s.ty,v]
 | .us t p=>.tup [.str (SM (if t then 59 else 47)),p.v]
def Od.ok(s:So):Od→Prop| .cn v c=>Vl s v c| .us _ p=>Pc.ok s p
noncomputable def bN(f:Ow):Od→Sum Nat (List V×Ow)
 | .cn _ c=>.inr (c,f)
 | .us t p=>match f p.k with
  |ah=>.inl 141
  |aa r=>if(cV p.fld r).all gS then .inr ((cV p.fld r).map oc,if t then f.Zv p.k (aa (jk p.fld r ((cV p.fld r).map λ_=>ah)))else f)else .inl 228
section
variable{D:Nat→CS} [Cl TT cy D]{n:Nat}{Z:St}{Q:QV}{X:QX}{A:cw}{m:Mc}{f:Ow}{ps:List V}{F:List (ag×O)}{N:Nat}
theorem cF.Zv(h:cF Z A m f ps F N):aU Z A f ps F N:=⟨m,h⟩
theorem cF.Zw{M:St}(h:cF Z A m f ps F N)(k:Z.Zy M):cF M A m f ps F N:={h with hp:=h.hp.ZB k}
theorem lO{k:Int}{i:Nat}(h:cF Z A m f ps F N)(e:m.h.lookup k=aa (.int i))(E:Q (dP i 0) Z):D (n+3) 816 [.obj A.plc,.obj A.frame,.int k] Z Q X:=by
 have R:=h.Zv.Zx;have H:=h.Zv.Zw;have j:=h.hm;have z:=h.Zx;refine ym ?_;unfold po;walk_at "w";refine EG (D:=D) ?_;walk_at "w"
theorem Ny{k:Int}(U:0≤k∧k<10)(h:cF Z A m f ps F N)(e:m.h.lookup k=ah)(d:X (SM 141) Z):D (n+3) 816 [.obj A.plc,.obj A.frame,.int k] Z Q X:=by
 have R:=h.Zv.Zx;have H:=h.Zv.Zw;have j:=h.hm;have z:=h.Zx;refine ym ?_;unfold po;walk_at "w"
theorem sF{s:So}{p:Pc}{i:Nat}(t:p.ok s)(h:cF Z A m f ps F N)(e:m.h.lookup p.k=aa (.int i))(E:∀M,Z.Zy M→Q (.tup [dP i p.Zv,s.ty]) M):D (n+5) 823 [.obj A.plc,.obj A.frame,p.v] Z Q X:=by
 revert D n Z Q X A m f ps F N s p i;apply aP;generalize e0 _=D;intro T;apply aX;generalize aT _=n,aL _=Z,e9 _=Q,e8 _=X,e7 _=A,e6 _=m,e5 _=f,e4 _=ps,e3 _=F,e2 _=N,e1 _=s,e0 _=p;apply aP;generalize e0 _=i;intro t h e E;have R:=h.Zv.Zx;have H:=h.Zv.Zw;have j:=h.Zv.bd;have I:=E Z .Zw;cases Aj t with
 |n1 k U=>(have u:=U.2 Z;simp only[Pc.v,Pc.Zw,Pc.Zv,So.ty]at e E I⊢;refine mT ?_;unfold j2;walk_at "w";refine lO (D:=D) h e ?_;walk_at "w")
 |n2 k U=>
  have u:=U.2 Z
  (simp only[Pc.v,Pc.Zw,Pc.Zv,So.ty]at e E I⊢;refine mT ?_;unfold j2;walk_at "w";refine lO (D:=D) h e ?_;walk_at "w")
  refine Nh (D:=D) ?_;walk_at "w";refine j6 (D:=D) ?_;walk_at "w";refine mX (D:=D) (by simp) ?_;walk_at "w"
 |t1 k U=>(have u:=U.2 Z;simp only[Pc.v,Pc.Zw,Pc.Zv,So.ty]at e E I⊢;refine mT ?_;unfold j2;walk_at "w";refine lO (D:=D) h e ?_;walk_at "w")
 |t2 k U=>
  have u:=U.2 Z
  (simp only[Pc.v,Pc.Zw,Pc.Zv,So.ty]at e E I⊢;refine mT ?_;unfold j2;walk_at "w";refine lO (D:=D) h e ?_;walk_at "w")
  refine Ng (D:=D) λJ S=>?_;have C:=(h.Zw S).Zv.Zw;have O:=E J S;walk_at "w";refine j6 (D:=D) ?_;walk_at "w";refine mX (D:=D) (by simp) ?_;walk_at "w"
 |p k U=>(have u:=U.2 Z;simp only[Pc.v,Pc.Zw,Pc.Zv,So.ty]at e E I⊢;refine mT ?_;unfold j2;walk_at "w";refine lO (D:=D) h e ?_;walk_at "w")
theorem yB{s:So}{p:Pc}(t:p.ok s)(h:cF Z A m f ps F N)(e:m.h.lookup p.k=ah)(d:X (SM 141) Z):D (n+5) 823 [.obj A.plc,.obj A.frame,p.v] Z Q X:=by
 revert D n Z Q X A m f ps F N s p;apply aP;generalize e0 _=D;intro T;apply aX;generalize aT _=n,aL _=Z,e9 _=Q,e8 _=X,e7 _=A,e6 _=m,e5 _=f,e4 _=ps,e3 _=F,e2 _=N,e1 _=s,e0 _=p;intro t h e d;have R:=h.Zv.Zx;have H:=h.Zv.Zw;have j:=h.Zv.bd;cases Aj t<;>(rename_i k U;have u:=U.2 Z;simp only[Pc.v,Pc.Zw,Pc.Zv,So.ty]at e⊢;refine mT ?_;unfold j2;walk_at "w";exact Ny (D:=D) U.1 h e d)
end
def uC:So→Option V→Prop| .num,x=>d8 x| .tru,x=>d9 x| .par,_=>False
theorem uD{x:Option V}(h:d8 x)(T:x.isSome=ae):Cv (oc x):=by
 rcases h with rfl|⟨i,rfl,_⟩
 ·exact aF T
 ·exact .inl ⟨i,rfl⟩
theorem uF{x:Option V}(h:d9 x)(T:x.isSome=ae):Cv (oc x):=by
 rcases h with rfl|⟨i,rfl⟩
 ·exact aF T
 ·exact .inr ⟨i,rfl⟩
inductive Sp:So→Pc→List (Option V)→Prop
 |n1 (k x):(k=1∨k=4)→d8 x→Sp .num ⟨k,ah⟩ [x]
 |n2 (k x y):(k=3∨k=5)→d8 x→d9 y→Sp .num ⟨k,aa aj⟩ [x,y]
 |t1 (x):d9 x→Sp .tru ⟨2,ah⟩ [x]
 |t2 (k x y):(k=3∨k=5)→d8 x→d9 y→Sp .tru ⟨k,aa ae⟩ [x,y]
 |p (k x y):(k=3∨k=5)→d8 x→d9 y→Sp .par ⟨k,ah⟩ [x,y]
theorem qR{s:So}{p:Pc}{r:List (Option V)}(t:p.ok s)(P:b9 p.k r):Sp s p r:=by
 revert s p r;apply bY;generalize e2 _=s,e1 _=p,e0 _=r;intro t P
 have W:∀{k},(k=1∨k=4)→b9 k r→∃x,r=[x]∧d8 x:=λU P=>by
  rcases P with⟨c,_⟩|⟨_,h⟩|⟨c,_⟩|⟨c,_⟩
  ·exact absurd c (by rcases U with rfl|rfl<;>decide)
  ·exact h
  ·exact absurd c (by rcases U with rfl|rfl<;>decide)
  ·exact absurd c (by rcases U with rfl|rfl<;>decide)
 have f:∀{k},(k=3∨k=5)→b9 k r→∃x y,r=[x,y]∧d8 x∧d9 y:=λU P=>by
  rcases P with⟨c,_⟩|⟨c,_⟩|⟨c,_⟩|⟨_,h⟩
  ·exact absurd c (by rcases U with rfl|rfl<;>decide)
  ·exact absurd c (by rcases U with rfl|rfl<;>decide)
  ·exact absurd c (by rcases U with rfl|rfl<;>decide)
  ·exact h
 have a:b9 2 r→∃x,r=[x]∧d9 x:=λP=>by
  rcases P with⟨c,_⟩|⟨c,_⟩|⟨_,h⟩|⟨c,_⟩
  ·exact absurd c (by decide)
  ·exact absurd c (by decide)
  ·exact h
  ·exact absurd c (by decide)
 have F:∀{k},(k=1∨k=4)→b9 k r→Sp .num ⟨k,ah⟩ r:=λU P=>aB (W U P) λx e h=>e▸ .n1 _ _ U h;have l:∀{k O s},(∀x y,d8 x→d9 y→Sp s ⟨k,O⟩ [x,y])→(k=3∨k=5)→b9 k r→Sp s ⟨k,O⟩ r:=λm U P=>dj (f U P) λx y e h B=>e▸m x y h B;cases s with
 |num=>
  rcases t with rfl|rfl|rfl|rfl
  ·exact F (.inl rfl) P
  ·exact F (.inr rfl) P
  ·exact l (λx y=>.n2 _ x y (.inl rfl)) (.inl rfl) P
  ·exact l (λx y=>.n2 _ x y (.inr rfl)) (.inr rfl) P
 |tru=>
  rcases t with rfl|rfl|rfl
  ·exact aB (a P) λx e h=>e▸ .t1 _ h
  ·exact l (λx y=>.t2 _ x y (.inl rfl)) (.inl rfl) P
  ·exact l (λx y=>.t2 _ x y (.inr rfl)) (.inr rfl) P
 |par=>
  rcases t with rfl|rfl
  ·exact l (λx y=>.p _ x y (.inl rfl)) (.inl rfl) P
  ·exact l (λx y=>.p _ x y (.inr rfl)) (.inr rfl) P
theorem g9{s:So}{p:Pc}{r:List (Option V)}(T:s≠.par)(t:p.ok s)(P:b9 p.k r):
  ∃x,∃j:Nat,cV p.fld r=[x]∧r[j]? =aa x∧p.Zv=(j:Int)∧uC s x∧∀y,jk p.fld r [y]=r.set j y∧(uC s y→b9 p.k (r.set j y)):=by
 revert s p r;apply bY;generalize e2 _=s,e1 _=p,e0 _=r;intro T t P;cases qR t P with
 |n1 k x U K=>exact⟨x,0,rfl,rfl,rfl,K,λy=>⟨rfl,λh=>.inr (.inl ⟨U,y,rfl,h⟩)⟩⟩
 |n2 k x y U K l=>exact⟨x,0,rfl,rfl,rfl,K,λz=>⟨rfl,λh=>.inr (.inr (.inr ⟨U,z,y,rfl,h,l⟩))⟩⟩
 |t1 x K=>exact⟨x,0,rfl,rfl,rfl,K,λy=>⟨rfl,λh=>.inr (.inr (.inl ⟨rfl,y,rfl,h⟩))⟩⟩
 |t2 k x y U K l=>exact⟨y,1,rfl,rfl,rfl,l,λz=>⟨rfl,λh=>.inr (.inr (.inr ⟨U,x,z,rfl,K,h⟩))⟩⟩
 |p=>exact(T rfl).elim
theorem mc{p:Pc}{r:List (Option V)}(t:p.ok .par)(P:b9 p.k r):p.fld=ah∧∃x y,r=[x,y]∧d8 x∧d9 y∧∀u v,d8 u→d9 v→b9 p.k [u,v]:=by
 cases qR t P with
 |p k x y U K l=>exact⟨rfl,x,y,rfl,K,l,λu v O g=>.inr (.inr (.inr ⟨U,u,v,rfl,O,g⟩))⟩
section
variable{D:Nat→CS} [Cl TT cy D]{n:Nat}{Z:St}{Q:QV}{X:QX}{A:cw}{m:Mc}{f:Ow}{ps:List V}{F:List (ag×O)}{N:Nat}
theorem AC{k:Int}{i W:Nat}(e:m.h.lookup k=aa (.int i))(O:m.h.lookup k=aa (.int W)):W=i:=by
 replace O:=e.symm.trans O;have:=V.int.inj (aI O);lia
theorem Ei{s:So}{p:Pc}{r:List (Option V)}{i:Nat}(G:N≤900)(t:p.ok s)(h:cF Z A m f ps F N)(I:f p.k=aa r)(e:m.h.lookup p.k=aa (.int i))
  (d:(cV p.fld r).all gS=aj→∀M,Z.Zy M→X (SM 228) M)
  (E:(cV p.fld r).all gS=ae→∀M,Z.Zy M→Q (.lst ((cV p.fld r).map oc)) M):D (n+6) 851 [.obj A.plc,dP i p.Zv,s.ty] Z Q X:=by
 revert D n Z Q X A m f ps F N s p r i;apply aP;generalize e0 _=D;intro iC;apply aX;generalize aT _=n,aL _=Z,e9 _=Q,e8 _=X,e7 _=A,e6 _=m,e5 _=f,e4 _=ps,e3 _=F,e2 _=N,e1 _=s,e0 _=p;apply bF;generalize e1 _=r,e0 _=i;intro G t h I e d E;refine dj (h.lv G I) λi' B H L z1=>?_
 have:=AC e H;refine qE this ?_;have P:=h.ty _ _ I;have h2:=h.Zv.Zw;have h4:=h.Zx;have Y:(r.map oc).length≤1000:=by rw[bT];have:=P.Zv;exact aW ‹_› (by decide)
 cases s with
 |num=>
  obtain⟨x,j,W,C,q,k, -⟩:=g9 (by simp) t P;rw[W]at d E;refine yl ?_;unfold pj;simp only[So.ty,q];walk_at "w";refine lL (D:=D) λJ S=>?_;have w:=(h.Zw S).Zv.Zw;walk_at "w";refine Eh (D:=D) (v:=oc x) rfl (L.Zv S) Y (by rw[jf];rw[C];rfl) ?_;walk_at "w";cases K:x.isSome with
  |true=>
   have:=E (by simp[K]) J S;refine Ec (D:=D) (uD k K) ?_;simp only[bX,eG]at this;walk_at "w"
  |false=>
   have:=d (by simp[K]) J S;rw[show oc x=cz by cases x with|none=>rfl|some Vv=>cases K];exact Eb (D:=D) this
 |tru=>
  obtain⟨x,j,W,C,q,k, -⟩:=g9 (by simp) t P;rw[W]at d E;refine yl ?_;unfold pj;simp only[So.ty,q];walk_at "w";refine pL (D:=D) λJ S=>?_;have w:=(h.Zw S).Zv.Zw;walk_at "w";refine Eh (D:=D) (v:=oc x) rfl (L.Zv S) Y (by rw[jf];rw[C];rfl) ?_;walk_at "w";cases K:x.isSome with
  |true=>
   have:=E (by simp[K]) J S;refine Ee (D:=D) (uF k K) ?_;simp only[bX,eG]at this;walk_at "w"
  |false=>
   have:=d (by simp[K]) J S;rw[show oc x=cz by cases x with|none=>rfl|some Vv=>cases K];exact Ed (D:=D) this
 |par=>
  obtain⟨W,x,b⟩:=mc t P;refine gV b λy C q k c=>?_;subst C;have T:p.Zv=0:=by unfold Pc.Zv;rw[W]
  rw[W,show cV ah [x,y]=[x,y]from rfl]at d E;refine yl ?_;unfold pj;simp only[So.ty,T];walk_at "w";refine sG (D:=D) λJ S=>?_;have w:=(h.Zw S).Zv.Zw;walk_at "w";refine Nb (D:=D) (v:=oc x) (u:=oc y) (L.Zv S) rfl ?_;walk_at "w";have U:∀{z:Option V},z.isSome=aj→oc z=cz:=λ{z} hz=>by cases z with|none=>rfl|some Vv=>exact Aa hz
  have o:¬Cv cz:=by rintro(⟨i,h⟩|⟨i,h⟩)<;>cases h
  refine MV (D:=D) ?_ ?_ ?_ ?_
  ·cases K:x.isSome with
   |true=>exact .inl (uD q K)
   |false=>exact .inr (U K)
  ·cases K:y.isSome with
   |true=>exact .inl (uF k K)
   |false=>exact .inr (U K)
  ·intro R g O a
   have a1:x.isSome=ae:=by cases K:x.isSome with|true=>rfl|false=>rw[U K]at R;exact(o R).elim
   have a2:y.isSome=ae:=by cases K:y.isSome with|true=>rfl|false=>rw[U K]at g;exact(o g).elim
   have:=E (by simp[a1,a2]) O (S.Zx a);walk_at "w"
  ·intro hn O a
   refine d ?_ O (S.Zx a);cases K:x.isSome with
   |false=>simp[K]
   |true=>
    cases l:y.isSome with
    |false=>simp[K,l]
    |true=>exact(hn ⟨uD q K,uF k l⟩).elim
end
def mw:So→List (Option V)→Prop
 | .num,c=>∃x,c=[x]∧d8 x
 | .tru,c=>∃x,c=[x]∧d9 x
 | .par,c=>∃x y,c=[x,y]∧d8 x∧d9 y
section
variable{D:Nat→CS} [Cl TT cy D]{n:Nat}{Z:St}{Q:QV}{X:QX}{A:cw}{m:Mc}{f:Ow}{ps:List V}{F:List (ag×O)}{N:Nat}
theorem mW{s:So}{p:Pc}{r c:List (Option V)}{i:Nat}(G:N≤900)(t:p.ok s)(h:cF Z A m f ps F N)(I:f p.k=aa r)(e:m.h.lookup p.k=aa (.int i))(O:mw s c)
  (E:∀M,aU M A (f.Zv p.k (aa (jk p.fld r c))) ps F N→Q .none M):D (n+4) 502 [.obj A.mem,dP i p.Zv,.lst (c.map oc)] Z Q X:=by
 revert D n Z Q X A m f ps F N s p r c i;apply aP;generalize e0 _=D;intro R;apply aX;generalize aT _=n,aL _=Z,e9 _=Q,e8 _=X,e7 _=A,e6 _=m,e5 _=f,e4 _=ps,e3 _=F,e2 _=N,e1 _=s,e0 _=p;apply bY;generalize e2 _=r,e1 _=c,e0 _=i;intro G t h I e O E;refine dj (h.lv G I) λU B J L b=>?_
 have:=AC e J;refine qE this ?_;have P:=h.ty _ _ I;have Y:(r.map oc).length≤1000:=by rw[bT];have:=P.Zv;exact aW ‹_› (by decide)
 have a:∀{s:So},s≠.par→p.ok s→∀x,uC s x→c=[x]→D (n+4) 502 [.obj A.mem,dP U p.Zv,.lst (c.map oc)] Z Q X:=by
  intro s T t x K O;subst O;refine f9 (g9 T t P) λy j W C q k g=>?_;refine bu (g x) λo w=>?_;refine(bo q)▸ ?_;refine yA (D:=D) rfl L Y (by rw[bT];exact(jN.mp C).1) ?_;refine E _ ?_;refine(bo o)▸ ?_
  have:=(b _ (w K)).Zv
  rwa [List.map_set]at this
 cases s with
 |num=>obtain⟨x,rfl,K⟩:=O;exact a (s:=.num) (by simp) t x K rfl
 |tru=>obtain⟨x,rfl,K⟩:=O;exact a (s:=.tru) (by simp) t x K rfl
 |par=>
  refine dj (O) λx y z K l=>?_;subst z;obtain⟨W,u,H⟩:=mc t P;refine gV H λv C q k g=>?_;subst C;have S:p.Zv=0:=by unfold Pc.Zv;rw[W]
  refine(bo S)▸ ?_;refine MT (D:=D) L rfl ?_;refine E _ ?_;refine(bo W)▸ ?_;exact(b [x,y] (g x y K l)).Zv
theorem Nn{U:So}{p:Pc}{r:List (Option V)}{i:Nat}(G:N≤900)(t:p.ok U)(h:cF Z A m f ps F N)(I:f p.k=aa r)(e:m.h.lookup p.k=aa (.int i))
  (E:∀M,aU M A (f.Zv p.k (aa (jk p.fld r ((cV p.fld r).map λO=>ah)))) ps F N→Q .none M):D (n+6) 858 [.obj A.plc,dP i p.Zv,U.ty] Z Q X:=by
 revert D n Z Q X A m f ps F N U p r i;apply aP;generalize e0 _=D;intro T;apply aX;generalize aT _=n,aL _=Z,e9 _=Q,e8 _=X,e7 _=A,e6 _=m,e5 _=f,e4 _=ps,e3 _=F,e2 _=N,e1 _=U,e0 _=p;apply bF;generalize e1 _=r,e0 _=i;intro G t h I e E;have H:=h.Zv.Zw;have z:=h.Zx;have P:=h.ty _ _ I;refine Lc ?_;unfold xE;cases U with
 |num=>
  obtain⟨x,j,W, -, -, -, -⟩:=g9 (s:=.num) (by simp) t P;rw[W]at E;walk_at "w";refine lL (D:=D) λJ S=>?_;walk_at "w";refine mW (D:=D) (c:=[ah]) G t (h.Zw S) I e ⟨ah,rfl,.inl rfl⟩ λM B=>?_
  have:=E M B;walk_at "w"
 |tru=>
  obtain⟨x,j,W, -, -, -, -⟩:=g9 (s:=.tru) (by simp) t P;rw[W]at E;walk_at "w";refine pL (D:=D) λJ S=>?_;walk_at "w";refine mW (D:=D) (c:=[ah]) G t (h.Zw S) I e ⟨ah,rfl,.inl rfl⟩ λM B=>?_
  have:=E M B;walk_at "w"
 |par=>
  refine fy λb=>?_;refine bu (mc t P) λW l=>?_;obtain⟨u,o⟩:=l;refine b ?_;clear b;refine gV o λv C q k g=>?_;subst C;rw[show cV p.fld [u,v]=[u,v]by rw[W];rfl]at E;walk_at "w";refine sG (D:=D) λJ S=>?_;walk_at "w";refine mW (D:=D) (c:=[ah,ah]) G t (h.Zw S) I e ⟨ah,ah,rfl,.inl rfl,.inl rfl⟩ λM B=>?_
  have:=E M B;walk_at "w"
theorem jx{s:So}{o:Od}(G:N≤900)(u:o.ok s)(h:aU Z A f ps F N)(d:∀e,bN f o=.inl e→∀M,aU M A f ps F N→X (SM e) M)
  (E:∀c g,bN f o=.inr (c,g)→∀M,aU M A g ps F N→Q (.tup [.lst c,s.ty]) M):D (n+7) 865 [.obj A.plc,.obj A.frame,o.v s] Z Q X:=by
 revert D n Z Q X A f ps F N s o;apply aP;generalize e0 _=D;intro T;apply et;generalize aL _=n,e9 _=Z,e8 _=Q,e7 _=X,e6 _=A,e5 _=f,e4 _=ps,e3 _=F,e2 _=N,e1 _=s,e0 _=o;intro G u h d E;have H:=h.Zw;refine Lb ?_;unfold xD;cases o with
 |cn v c=>
  have q:=λM U=>E c f rfl M U;cases s with
  |num=>
   refine gV (u) λi x R l y=>?_;refine qF l ?_;subst y;simp only[Od.v,So.ty]at q⊢;walk_at "w";refine NO (D:=D) λJ S=>?_
   have:=q J (h.ZA S);walk_at "w"
  |tru=>
   refine aB (u) λb z C=>?_;refine qF z ?_;subst C;simp only[Od.v,So.ty]at q⊢;walk_at "w";refine NQ (D:=D) λJ S=>?_
   have:=q J (h.ZA S);walk_at "w"
  |par=>
   refine nW (u) λi b x R O P=>?_;refine qF O ?_;subst P;simp only[Od.v,So.ty]at q⊢;walk_at "w";refine NP (D:=D) λJ S=>?_
   have:=q J (h.ZA S);walk_at "w"
 |us t p=>
  obtain⟨m,h⟩:=h;cases I:f p.k with
  |none=>
   have e:m.h.lookup p.k=ah:=by have:=h.hk p.k;rw[I]at this;simpa using this
   have q:=d 141 (by simp only[bN,I]) Z h.Zv;have Y:=λQ=>yB (D:=D) (n:=n+1) (Q:=Q) u h e q;cases t<;>simp only[Od.v,if_true,if_false,nT]<;>walk_at "w"<;>exact Y _
  |some r=>
   refine dO (h.lv G I) λi B e V=>?_;cases t with
   |false=>
    simp only[Od.v,if_false,nT];walk_at "w";refine sF (D:=D) u h e λJ S=>?_;have w:=(h.Zw S).Zv.Zw;walk_at "w";refine Ei (D:=D) G u (h.Zw S) I e ?_ ?_
    ·intro g K a
     exact d 228 (by simp only[bN,I,g];rfl) K (h.Zv.ZA (S.Zx a))
    ·intro g K a
     have q:=E _ _ (by simp only[bN,I,g,if_true];rfl) K (h.Zv.ZA (S.Zx a));walk_at "w"
   |true=>
    simp only[Od.v,if_true];walk_at "w";refine sF (D:=D) u h e λJ S=>?_;have w:=(h.Zw S).Zv.Zw;walk_at "w";refine Ei (D:=D) G u (h.Zw S) I e ?_ ?_
    ·intro g K a
     exact d 228 (by simp only[bN,I,g];rfl) K (h.Zv.ZA (S.Zx a))
    ·intro g K a
     have W:=(h.Zw (S.Zx a)).Zv.Zw;walk_at "w";refine Nn (D:=D) G u (h.Zw (S.Zx a)) I e λk j=>?_;have q:=E _ _ (by simp only[bN,I,g,if_true];rfl) k j;walk_at "w"
end
inductive Rv where
 |add(a b:Od)
 |lt(a b:Od)
 |use(o:Od)
 |tup(a b:Od)
instance:Nonempty Rv:=⟨.use (.cn .none [])⟩
noncomputable def Rv.v(s:So):Rv→V
 | .add a b=>.tup [.str (SM 109),.str (SM 3),a.v .num,b.v .num]
 | .lt a b=>.tup [.str (SM 109),.str (SM 6),a.v .num,b.v .num]
 | .use o=>.tup [.str (SM 38),o.v s]
 | .tup a b=>.tup [.str (SM 99),.tup [a.v .num,b.v .tru]]
def Rv.ok:So→Rv→Prop
 | .num,.add a b=>a.ok .num∧b.ok .num
 | .tru,.lt a b=>a.ok .num∧b.ok .num
 | .par,.tup a b=>a.ok .num∧b.ok .tru
 |s,.use o=>o.ok s
 |_,_=>False
noncomputable def dB(f:Ow)(a b:Od):Sum (Nat×Ow) (List V×List V×Ow):=match bN f a with
 | .inl e=>.inl (e,f)
 | .inr (c,g)=>match bN g b with
  | .inl e=>.inl (e,g)
  | .inr (d,h)=>.inr (c,d,h)
noncomputable def yP(x y:Int):List V:=[.int ((x+y) % 256)]
noncomputable def ul(k:Int→Int→List V):List V→List V→List V
 | [.int x],[.int y]=>k x y
 |_,_=>[]
theorem q7{k:Int→Int→List V}{i j:Int}:ul k [.int i] [.int j]=k i j:=rfl
noncomputable def vH(x y:Int):List V:=[.bool (aO (x<y))]
noncomputable def dc{O W:Type}{d:Type}(k:O→W):Sum d O→Sum d W| .inl e=>.inl e| .inr x=>.inr (k x)
noncomputable def cX(f:Ow):Rv→Sum (Nat×Ow) (List V×Ow)
 | .add a b=>dc (λx=>(ul yP x.1 x.2.1,x.2.2)) (dB f a b)
 | .lt a b=>dc (λx=>(ul vH x.1 x.2.1,x.2.2)) (dB f a b)
 | .tup a b=>dc (λx=>(x.1++x.2.1,x.2.2)) (dB f a b)
 | .use o=>match bN f o with| .inl e=>.inl (e,f)| .inr x=>.inr x
def Vs:So→List V→Prop
 | .num,c=>∃i:Int,0≤i∧i≤255∧c=[.int i]
 | .tru,c=>∃b:Bool,c=[.bool b]
 | .par,c=>∃(i:Int) (b:Bool),0≤i∧i≤255∧c=[.int i,.bool b]
theorem A9{x:Option V}(h:d8 x)(T:x.isSome=ae):∃i:Int,0≤i∧i≤255∧oc x=.int i:=by
 rcases h with rfl|⟨i,rfl,R,H⟩
 ·exact aF T
 ·exact⟨i,R,H,rfl⟩
theorem Bb{x:Option V}(h:d9 x)(T:x.isSome=ae):∃i:Bool,oc x=.bool i:=by
 rcases h with rfl|⟨i,rfl⟩
 ·exact aF T
 ·exact⟨i,rfl⟩
theorem KJ{O:So}{p:Pc}{r:List (Option V)}(t:p.ok O)(P:b9 p.k r)(g:(cV p.fld r).all gS=ae):Vs O ((cV p.fld r).map oc):=by
 revert O p r;apply bY;generalize e2 _=O,e1 _=p,e0 _=r;intro t P g;cases O with
 |num=>
  refine f9 (g9 (s:=.num) (by simp) t P) λx j W C q k S=>?_;rw[W]at g⊢;refine bH (A9 k (by simpa using g)) λi a b e=>?_;exact⟨i,a,b,by rw[bX];rw[e];rfl⟩
 |tru=>
  refine f9 (g9 (s:=.tru) (by simp) t P) λx j W C q k h=>?_;rw[W]at g⊢;refine aE (Bb k (by simpa using g)) λi e=>?_;exact⟨i,by rw[bX];rw[e];rfl⟩
 |par=>
  refine bu (mc t P) λW c=>?_;obtain⟨x,f⟩:=c;refine gV f λy C q k l=>?_;subst C;rw[W]at g⊢;simp[cV]at g;refine bH (A9 q g.1) λi a b e=>?_;refine aE (Bb k g.2) λj L=>?_;exact⟨i,j,a,b,by refine(?_:[oc x,oc y]=_);rw[e,L]⟩
theorem fN{s:So}{o:Od}{f g:Ow}{c:List V}(u:o.ok s)(P:∀k r,f k=aa r→b9 k r)(e:bN f o=.inr (c,g)):Vs s c:=by
 cases o with
 |cn v d=>
  cases e;cases s with
  |num=>refine gV (u) λi a b N m=>?_;refine qF m ?_;exact⟨i,a,b,rfl⟩
  |tru=>refine aB (u) λb N h=>?_;refine qF h ?_;exact⟨b,rfl⟩
  |par=>refine nW (u) λi b x R N j=>?_;refine qF j ?_;exact⟨i,b,x,R,rfl⟩
 |us t p=>
  simp only[bN]at e;cases E:f p.k with
  |none=>rw[E]at e;cases e
  |some r=>
   rw[E]at e;simp only at e;cases q:(cV p.fld r).all gS with
   |false=>rw[q]at e;simp at e
   |true=>
    rw[q]at e
    have:=tj e;rw[tH]at this;refine this.1▸ ?_;exact KJ u (P _ _ E) q
theorem aU.ty{Z:St}{A:cw}{f:Ow}{W:List V}{F:List (ag×O)}{N:Nat}(h:aU Z A f W F N):∀k r,f k=aa r→b9 k r:=by
 obtain⟨m,h⟩:=h;exact h.ty
section
variable{D:Nat→CS} [Cl TT cy D]{n:Nat}{Z:St}{Q:QV}{X:QX}{A:cw}{m:Mc}{f:Ow}{ps:List V}{F:List (ag×O)}{N:Nat}
theorem Nc{U:So}{Y:Rv}(G:N≤900)(B:Y.ok U)(h:aU Z A f ps F N)(O:∀e g,cX f Y=.inl (e,g)→∀M,aU M A g ps F N→X (SM e) M)
  (E:∀c g,cX f Y=.inr (c,g)→Vs U c→∀M,aU M A g ps F N→Q (.lst c) M):D (n+10) 893 [.obj A.rv,.obj A.frame,Y.v U] Z Q X:=by
 revert D n Z Q X A f ps F N U Y;apply aP;generalize e0 _=D;intro T;apply et;generalize aL _=n,e9 _=Z,e8 _=Q,e7 _=X,e6 _=A,e5 _=f,e4 _=ps,e3 _=F,e2 _=N,e1 _=U,e0 _=Y;intro G B h O E;have H:=h.rv;have S:=h.Zw;refine K9 ?_;unfold xC;cases Y with
 |use o=>
  have u:o.ok U:=by cases U<;>exact B
  simp only[Rv.v];walk_at "w";refine jx (D:=D) G u h ?_ ?_
  ·intro e z J R
   exact O e f (by simp only[cX,z]) J R
  ·intro c g z J R
   have:=E c g (by simp only[cX,z]) (fN u h.ty z) J R;walk_at "w"
 |add a b=>
  cases U<;>first|exact B.elim|skip;obtain⟨k,t⟩:=B;simp only[Rv.v];walk_at "w";refine Ds ?_;unfold r8;walk_at "w";refine jx (D:=D) (s:=.num) G k h ?_ ?_
  ·intro e z J R
   exact O e f (by simp only[cX,dB,z,dc]) J R
  ·intro c g z J R
   have w:=R.rv;have l:=R.Zw;obtain⟨i,x,V,rfl⟩:=fN k h.ty z;walk_at "w";refine jx (D:=D) (s:=.num) G t R ?_ ?_
   ·intro e v K H
    exact O e g (by simp only[cX,dB,z,v,dc]) K H
   ·intro d C v K H
    obtain⟨j,W,y,rfl⟩:=fN t R.ty v;walk_at "w";refine Na (D:=D) i j ?_;have q:=E [.int ((i+j) % 256)] C (by simp only[cX,dB,z,v,dc,q7,yP]) ⟨_,by lia,by lia,rfl⟩ K H;walk_at "w"
 |lt a b=>
  cases U<;>first|exact B.elim|skip;obtain⟨k,t⟩:=B;simp only[Rv.v];walk_at "w";refine Ds ?_;unfold r8;walk_at "w";refine jx (D:=D) (s:=.num) G k h ?_ ?_
  ·intro e z J R
   exact O e f (by simp only[cX,dB,z,dc]) J R
  ·intro c g z J R
   have w:=R.rv;have l:=R.Zw;obtain⟨i,x,V,rfl⟩:=fN k h.ty z;walk_at "w";refine jx (D:=D) (s:=.num) G t R ?_ ?_
   ·intro e v K H
    exact O e g (by simp only[cX,dB,z,v,dc]) K H
   ·intro d C v K H
    obtain⟨j,W,y,rfl⟩:=fN t R.ty v;walk_at "w";refine NJ (D:=D) i j ?_;have q:=E [.bool (aO (i<j))] C (by simp only[cX,dB,z,v,dc,q7,vH]) ⟨_,rfl⟩ K H;walk_at "w"
 |tup a b=>
  cases U<;>first|exact B.elim|skip;obtain⟨k,t⟩:=B;simp only[Rv.v];walk_at "w";refine K8 ?_;unfold xA;walk_at "w";refine jx (D:=D) (s:=.num) G k h ?_ ?_
  ·intro e z J R
   exact O e f (by simp only[cX,dB,z,dc]) J R
  ·intro c g z J R
   have w:=R.rv;have l:=R.Zw;obtain⟨i,x,V,rfl⟩:=fN k h.ty z;walk_at "w";refine jx (D:=D) (s:=.tru) G t R ?_ ?_
   ·intro e v K H
    exact O e g (by simp only[cX,dB,z,v,dc]) K H
   ·intro d C v K H
    obtain⟨j,rfl⟩:=fN t R.ty v;walk_at "w";refine Eu (D:=D) ?_;have q:=E [.int i,.bool j] C (by simp only[cX,dB,z,v,dc,List.cons_append,tL]) ⟨i,j,x,V,rfl⟩ K H;walk_at "w"
end
inductive fq where
 |asg(s:So)(p:Pc)(Y:Rv)
 |live(k:Int)
 |dead(k:Int)
 |prt(s:So)(o:Od)
 |nop
instance:Nonempty fq:=⟨.nop⟩
noncomputable def fq.v:fq→V
 | .asg s p Y=>.tup [.str (SM 108),p.v,Y.v s]
 | .live k=>.tup [.str (SM 56),.int k]
 | .dead k=>.tup [.str (SM 48),.int k]
 | .prt s o=>.tup [.str (SM 95),o.v s]
 | .nop=>.tup [.str (SM 32)]
def hM(k:Int):Prop:=k=1∨k=2∨k=3∨k=4∨k=5
def fq.ok:fq→Prop
 | .asg s p Y=>p.ok s∧Y.ok s
 | .live k=>hM k
 | .dead k=>hM k
 | .prt s o=>o.ok s
 | .nop=>True
noncomputable def gF(k:Int):Nat:=if k=0 then 0 else if k=3∨k=5 then 2 else 1
noncomputable def tY(k:Int):V:=if k=0 then n7 else if k=2 then tB else if k=3∨k=5 then dD else bO
noncomputable def jP:So→List V→V
 | .par,c=>.tup c
 |_,[x]=>x
 |_,_=>.none
theorem GP{i:Int}:jP .num [.int i]=.int i:=rfl
theorem GN{b:Bool}:jP .tru [.bool b]=.bool b:=rfl
theorem GO{c:List V}:jP .par c=.tup c:=rfl
noncomputable def fR(f:Ow)(O:List V):fq→Option Nat×Ow×List V
 | .asg s p Y=>match cX f Y with
  | .inl (e,g)=>(aa e,g,O)
  | .inr (c,g)=>match g p.k with
   |ah=>(aa 141,g,O)
   |aa r=>(ah,g.Zv p.k (aa (jk p.fld r (c.map aa))),O)
 | .live k=>(ah,f.Zv k (aa (bA (gF k) ah)),O)
 | .dead k=>(ah,f.Zv k ah,O)
 | .prt s o=>match bN f o with
  | .inl e=>(aa e,f,O)
  | .inr (c,g)=>(ah,g,O++[jP s c])
 | .nop=>(ah,f,O)
theorem AK{f:Ow}{k:Int}(h:f k=ah):f.Zv k ah=f:=by
 funext j;unfold Ow.Zv
 by_cases e:j=k
 ·refine qF e ?_;rw[if_pos rfl];rw[h]
 ·rw[if_neg e]
theorem HS(f:Ow)(k:Int)(a b:Option (List (Option V))):(f.Zv k a).Zv k b=f.Zv k b:=by
 funext j;unfold Ow.Zv
 by_cases e:j=k
 ·rw[if_pos e];rw[if_pos e]
 ·rw[if_neg e,if_neg e,if_neg e]
theorem HQ(f:Ow)(k:Int)(a:Option (List (Option V))):(f.Zv k a) k=a:=if_pos rfl
theorem JQ(c:List V):(c.map aa).map oc=c:=by
 rw[kS];exact List.map_id' _|>.trans rfl
section
variable{D:Nat→CS} [Cl TT cy D]{n:Nat}{Z:St}{Q:QV}{X:QX}{A:cw}{m:Mc}{f:Ow}{ps:List V}{F:List (ag×O)}{N:Nat}
theorem EA{k:Int}(G:N≤900)(h:aU Z A f ps F N)(E:∀M,aU M A (f.Zv k ah) ps F N→Q .none M):D (n+3) 1029 [.obj A.mach,.obj A.frame,.int k] Z Q X:=by
 revert D n Z Q X A f ps F N k;apply aP;generalize e0 _=D;intro T;apply fD;generalize e9 _=n,e8 _=Z,e7 _=Q,e6 _=X,e5 _=A,e4 _=f,e3 _=ps,e2 _=F,e1 _=N,e0 _=k;intro G h E;have R:=h.Zx;have H:=h.Zv;refine aE (h) λm h=>?_;have j:=h.hm;have z:=h.Zx;refine DF ?_;unfold se;cases I:f k with
 |none=>
  have e:m.h.lookup k=ah:=by have:=h.hk k;rw[I]at this;simpa using this
  have q:=E Z ((h.Zv).ow (AK I).symm);walk_at "w"
 |some r=>
  refine dj (h.ZB G I) λi B e L O=>?_;have Y:(r.map oc).length≤1000:=by rw[bT];have:=(h.ty _ _ I).Zv;exact aW ‹_› (by decide)
  have C:=h.Zy;have t:m.h.length≤1000:=by lia
  walk_at "w";refine NA (D:=D) L Y ?_;have q:=E _ O.Zv;walk_at "w"
theorem n6{k:Int}(U:k=0∨hM k):b9 k (bA (gF k) ah)∧gF k<3:=by
 revert k;apply aP;generalize e0 _=k;intro U;rcases U with rfl|rfl|rfl|rfl|rfl|rfl
 ·exact⟨.inl ⟨rfl,rfl⟩,by decide⟩
 ·exact⟨.inr (.inl ⟨by decide,ah,rfl,.inl rfl⟩),by decide⟩
 ·exact⟨.inr (.inr (.inl ⟨rfl,ah,rfl,.inl rfl⟩)),by decide⟩
 ·exact⟨.inr (.inr (.inr ⟨by decide,ah,ah,rfl,.inl rfl,.inl rfl⟩)),by decide⟩
 ·exact⟨.inr (.inl ⟨by decide,ah,rfl,.inl rfl⟩),by decide⟩
 ·exact⟨.inr (.inr (.inr ⟨by decide,ah,ah,rfl,.inl rfl,.inl rfl⟩)),by decide⟩
theorem M8{k:Int}{w:V}(U:k=0∨hM k)(h:∀M,Z.Zy M→Q (.int (gF k)) M):D (n+5) 270 [tY k,w] Z Q X:=by
 revert D n Z Q X k w;apply aP;generalize e0 _=D;intro T;apply ch;generalize e5 _=n,e4 _=Z,e3 _=Q,e2 _=X,e1 _=k,e0 _=w;intro U h;rcases U with rfl|rfl|rfl|rfl|rfl|rfl
 ·exact M7 (D:=D) h
 ·exact lL (D:=D) h
 ·exact pL (D:=D) h
 ·exact sG (D:=D) h
 ·exact lL (D:=D) h
 ·exact sG (D:=D) h
theorem Ks{k:Int}(U:k=0∨hM k):cg (mD.map λk=>.tup [k,.bool ae,.none]) k=aa (.tup [tY k,.bool ae,.none]):=by
 revert k;apply aP;generalize e0 _=k;intro U;rcases U with rfl|rfl|rfl|rfl|rfl|rfl<;>simp[cg,Au,At,As,Ar,Aq,Ap,tY]
theorem Ep{k:Int}(G:N<900)(U:k=0∨hM k)(h:aU Z A f ps F N)(E:∀M,aU M A (f.Zv k (aa (bA (gF k) ah))) ps F (N+1)→Q .none M):D (n+6) 1022 [.obj A.mach,.obj A.frame,.int k] Z Q X:=by
 revert D n Z Q X A f ps F N k;apply aP;generalize e0 _=D;intro T;apply fD;generalize e9 _=n,e8 _=Z,e7 _=Q,e6 _=X,e5 _=A,e4 _=f,e3 _=ps,e2 _=F,e1 _=N,e0 _=k;intro G U h E;have R:=h.Zx;have H:=h.Zv;refine DG ?_;unfold sd;walk_at "w";refine EA (D:=D) (by exact iw ‹_›) h λI B=>?_;have L:=B.Zx;have c:=B.Zv;have u:=B.bd;have V:=Ks U;simp only[mD,bX,eG]at V;refine aE (B) λm B=>?_;have x:=B.Zx;walk_at "w";refine M8 (D:=D) U λK S=>?_;have p:=B.Zw S;have w:=p.Zx;have Y:=p.len;walk_at "w";refine EH (D:=D) (n6 U).2 rfl p.Zx p.al (by have:=p.many;lia) (by rw[bT];lia) λW a g C J=>?_;have j:=p.Zz (HQ f k ah) (n6 U).1 J;rw[HS]at j;have q:=E _ j.Zv;have y:∀{b:ag} {o:O},K b=aa o→o≠bL A.al m.many→(∀l,o≠.list l)→W b=aa o:=λ{b o} e P v=>J.keep b o (dq e p.Zx P) (dq e p.al (v _)) e;have s:=y p.Zv.Zx (by lia) (by lia);have d:=y p.hm (by simp) (by simp);have z:=p.Zy;have t:(m.h.length≤1000)=True:=eq_true (by lia);walk_at "w"
theorem M2{s:So}{c:List V}{w m:V}(O:Vs s c)(h:∀M,Z.Zy M→Q (jP s c) M):D (n+6) 593 [s.ty,.lst c,w,m] Z Q X:=by
 cases s with
 |num=>refine bH (O) λi W W a=>?_;subst a;exact MW (D:=D) h
 |tru=>refine aE (O) λi d=>?_;subst d;exact M1 (D:=D) h
 |par=>refine dj (O) λi b W W e=>?_;subst e;exact MY (D:=D) h
theorem Ba{s:So}{c:List V}(h:Vs s c):mw s (c.map aa):=by
 cases s with
 |num=>refine bH (h) λi a b e=>?_;refine qF e ?_;exact⟨_,rfl,.inr ⟨i,rfl,a,b⟩⟩
 |tru=>obtain⟨i,rfl⟩:=h;exact⟨_,rfl,.inr ⟨i,rfl⟩⟩
 |par=>refine dj (h) λi b R H d=>?_;refine qF d ?_;exact⟨_,_,rfl,.inr ⟨i,rfl,R,H⟩,.inr ⟨b,rfl⟩⟩
theorem NI{U:fq}(G:N<900)(L:ps.length≤900)(Y:U.ok)(h:aU Z A f ps F N){o:Option Nat}{g:Ow}{y:List V}(e:fR f ps U=(o,g,y))
  (d:∀c,o=aa c→∀M,aU M A g y F (N+1)→X (SM c) M)(E:o=ah→∀M,aU M A g y F (N+1)→Q .none M):D (n+11) 1050 [.obj A.mach,.obj A.frame,U.v] Z Q X:=by
 revert D n Z Q X A f ps F N U o g y;apply aP;generalize e0 _=D;intro l;apply fD;generalize e9 _=n,e8 _=Z,e7 _=Q,e6 _=X,e5 _=A,e4 _=f,e3 _=ps,e2 _=F,e1 _=N,e0 _=U;intro G L Y h;apply bY;generalize e2 _=o,e1 _=g,e0 _=y;intro e d E;have h1:=h.Zv;have h2:=h.Zw;have j:=h.rv;have u:∀{Z f ps},aU Z A f ps F N→aU Z A f ps F (N+1):=λh=>h.ZG (nP _);refine Mg ?_;unfold xP;cases U with
 |nop=>
  cases e;have q:=E rfl Z (u h);simp only[fq.v];walk_at "w"
 |live k=>
  cases e;simp only[fq.v];walk_at "w";refine Ep (D:=D) G (.inr Y) h λJ O=>?_;have q:=E rfl J O;walk_at "w"
 |dead k=>
  cases e;simp only[fq.v];walk_at "w";refine EA (D:=D) (by exact iw ‹_›) h λJ O=>?_;have q:=E rfl J (u O);walk_at "w"
 |prt s od=>
  simp only[fq.v];walk_at "w";refine jx (D:=D) (by exact iw ‹_›) Y h ?_ ?_
  ·intro c W J O
   simp only[fR,W]at e;cases e;exact d c rfl J (u O)
  ·intro c C W J O
   simp only[fR,W]at e;cases e;have H:=O.Zv;refine aE (O) λm b=>?_;have P:=b.pr;walk_at "w";refine M2 (D:=D) (fN Y h.ty W) λK a=>?_;have T:=(b.Zw a).pr;have b3:(ps.length≤1000)=True:=eq_true (by exact aW ‹_› (by decide));have q:=E rfl _ (u ((b.Zw a).Zv.ZJ (ps++[jP s c])));walk_at "w"
 |asg s p rv=>
  refine bu (Y) λI x=>?_;simp only[fq.v];walk_at "w";refine Nc (D:=D) (by exact iw ‹_›) x h ?_ ?_
  ·intro c C W J O
   simp only[fR,W]at e;cases e;exact d c rfl J (u O)
  ·intro c C W w J O
   have H:=O.Zv;have P:=O.Zw;simp only[fR,W]at e;obtain⟨m,b⟩:=O;cases t:C p.k with
   |none=>
    rw[t]at e;cases e;have S:m.h.lookup p.k=ah:=by have:=b.hk p.k;rw[t]at this;simpa using this
    walk_at "w";exact yB (D:=D) I b S (d 141 rfl J (u b.Zv))
   |some r=>
    rw[t]at e;cases e;obtain⟨i,B,S, -⟩:=b.lv (by lia) t;walk_at "w";refine sF (D:=D) I b S λK a=>?_;have z:=b.Zw a;have b1:=z.Zv.Zv;have T:=z.Zx;walk_at "w";have v:=λQ E=>mW (D:=D) (n:=n+6) (X:=X) (Q:=Q) (by lia) I z t S (Ba w) E;rw[JQ]at v;refine v _ λR j=>?_;have q:=E rfl R (u j);walk_at "w"
end
noncomputable abbrev cO(r:List (Option V)):V:=.lst (r.map ov)
structure LR(l:List (Int×V))(f:Ow)(N:Nat):Prop where
 lk:∀k,l.lookup k=(f k).map cO
 nd:(l.map (·.1)).Nodup
 len:l.length≤N
 ty:∀k r,f k=aa r→b9 k r
structure dw(Z M:St)(a:ag)(o:O):Prop where
 at_:M a=aa o
 keep:∀b p,b≠a→Z b=aa p→M b=aa p
theorem dw.Zx{Z M:St}{a:ag}{o:O}(h:Z.Zy M)(k:Z a=aa o):dw Z M a o:=⟨h _ _ k,λb p _ e=>h _ _ e⟩
theorem dw.Zw(Z:St)(a:ag)(o:O):dw Z (Z.Zv a o) a o:=⟨St.Zx _ _ _,λb p n e=>by rw[St.Zw _ _ n];exact e⟩
theorem dw.Zy{Z J K:St}{a:ag}{o p:O}(h:dw Z J a o)(k:dw J K a p):dw Z K a p:=⟨k.at_,λb q n e=>k.keep b q n (h.keep b q n e)⟩
theorem aU.ZI{Z M:St}{A:cw}{f:Ow}{W:List V}{U J:List (ag×O)}{N:Nat}{a:ag}{o H:O}(h:aU Z A f W (U++(a,o)::J) N)(u:dw Z M a H):aU M A f W (U++(a,H)::J) N:=by
 refine(h.ZD H).ZA λb p e=>?_;by_cases c:b=a
 ·subst c;rw[St.Zx]at e;refine oE e ?_;exact u.at_
 ·rw[St.Zw _ _ c]at e;exact u.keep b p c e
theorem JU(k j:Int)(v:V)(l:List (Int×V)):(cD k v l).lookup j=if j=k then aa v else l.lookup j:=rJ k v l j
theorem rT(k:Int)(v:V):∀(l:List (Int×V)),(cD k v l).map (·.1)=if(l.lookup k).isSome then l.map (·.1)else l.map (·.1)++[k]
 | []=>rfl
 |(i,u)::r=>by
  by_cases e:k=i
  ·subst e;rw[show cD k v ((k,u)::r)=(k,v)::r from if_pos rfl];simp
  ·rw[show cD k v ((i,u)::r)=(i,u)::cD k v r from if_neg e,bX,rT k v r,ey,show(k==i)=aj from beq_eq_false_iff_ne.mpr e]
   split<;>rfl
theorem LR.Zx{l:List (Int×V)}{f:Ow}{N:Nat}(h:LR l f N){k:Int}{r:List (Option V)}(P:b9 k r):LR (cD k (cO r) l) (f.Zv k (aa r)) (N+1)where
 lk:=λj=>by
  rw[JU];unfold Ow.Zv;by_cases c:j=k
  ·rw[if_pos c];rw[if_pos c];rfl
  ·rw[if_neg c];rw[if_neg c];exact h.lk j
 nd:=by
  rw[rT];split
  ·exact h.nd
  ·rename_i q
   rw[nR];refine⟨h.nd,by simp,λx K y O=>?_⟩;simp at O;refine qF O ?_;exact λe=>jW (Option.not_isSome_iff_eq_none.mp q) (e▸K)
 len:=by
  have:(cD k (cO r) l).length=((cD k (cO r) l).map (·.1)).length:=(bT _).symm;rw[this];rw[rT]
  have:=h.len;split<;>simp<;>lia
 ty:=λj s e=>by
  unfold Ow.Zv at e;by_cases c:j=k
  ·subst c;rw[if_pos rfl]at e;refine oE e ?_;exact P
  ·rw[if_neg c]at e;exact h.ty j s e
theorem LR.Zy{l:List (Int×V)}{f:Ow}{N:Nat}(h:LR l f N){k:Int}{r:List (Option V)}(P:b9 k r)(T:(f k).isSome=ae):LR (cD k (cO r) l) (f.Zv k (aa r)) N:=by
 obtain⟨a,b,c,d⟩:=h.Zx P;refine⟨a,b,?_,d⟩;have:(cD k (cO r) l).length=((cD k (cO r) l).map (·.1)).length:=(bT _).symm;rw[this];rw[rT];rw[h.lk k];rw[if_pos (by exact(Option.isSome_map).trans (T))];rw[bT];exact h.len
theorem LR.Zz{l:List (Int×V)}{f:Ow}{N:Nat}(h:LR l f N)(k:Int):LR (l.filter λp=>p.1 !=k) (f.Zv k ah) N where
 lk:=λj=>by
  rw[rK];unfold Ow.Zv;by_cases c:j=k
  ·rw[if_pos c];rw[if_pos c];rfl
  ·rw[if_neg c];rw[if_neg c];exact h.lk j
 nd:=(List.Sublist.map _ (List.filter_sublist)).nodup h.nd
 len:=aW (List.length_filter_le _ _) h.len
 ty:=λj s e=>by
  unfold Ow.Zv at e;by_cases c:j=k
  ·subst c;rw[if_pos rfl]at e;exact aG e
  ·rw[if_neg c]at e;exact h.ty j s e
theorem LR.Zv{l:List (Int×V)}{f:Ow}{N M:Nat}(h:LR l f N)(k:N≤M):LR l f M:={h with len:=aW h.len k}
section
variable{D:Nat→CS} [Cl TT cy D]{n:Nat}{Z:St}{Q:QV}{X:QX}{f:Ow}{N:Nat}{own:ag}{l:List (Int×V)}
theorem Np{s:So}{p:Pc}(t:p.ok s)(u:Z own=aa (.idict l))(h:LR l f N)(I:f p.k=ah)(E:Q (.str (SM 141)) Z):D (n+1) 1231 [.obj own,p.v] Z Q X:=by
 have e:l.lookup p.k=ah:=by rw[h.lk];rw[I];rfl
 refine DE ?_;unfold sf;simp only[Pc.v];walk_at "w"
theorem sI{s:So}{p:Pc}{r:List (Option V)}(t:p.ok s)(u:Z own=aa (.idict l))(h:LR l f N)(I:f p.k=aa r)(E:Q (.tup [cO (cV p.fld r),.int p.Zv]) Z):D (n+1) 1231 [.obj own,p.v] Z Q X:=by
 revert D n Z Q X f N own l s p r;apply aP;generalize e0 _=D;intro T;apply et;generalize aL _=n,e9 _=Z,e8 _=Q,e7 _=X,e6 _=f,e5 _=N,e4 _=own,e3 _=l,e2 _=s,e1 _=p,e0 _=r;intro t u h I E;have e:l.lookup p.k=aa (cO r):=by rw[h.lk];rw[I];rfl
 have P:=h.ty _ _ I;clear h I;refine DE ?_;unfold sf;cases qR t P<;>(simp only[Pc.v,Pc.Zw,Pc.Zv,cV,cO,bX,eG,List.take_succ_cons,List.take_zero,List.drop_succ_cons,List.drop_zero]at e E⊢;walk_at "w")
end
theorem AM{O:So}{p:Pc}{r c:List (Option V)}(t:p.ok O)(P:b9 p.k r)(m:mw O c):b9 p.k (jk p.fld r c):=by
 revert O p r c;apply dM;generalize e3 _=O,e2 _=p,e1 _=r,e0 _=c;intro t P m;cases O with
 |num=>
  obtain⟨x,rfl,K⟩:=m;refine f9 (g9 (s:=.num) (by simp) t P) λy j W C q k g=>?_;refine bu (g x) λo w=>?_;rw[o];exact w K
 |tru=>
  obtain⟨x,rfl,K⟩:=m;refine f9 (g9 (s:=.tru) (by simp) t P) λy j W C q k g=>?_;refine bu (g x) λo w=>?_;rw[o];exact w K
 |par=>
  refine dj (m) λx y a K l=>?_;refine qF a ?_;refine bu (mc t P) λW b=>?_;obtain⟨u,e⟩:=b;refine gV e λv C q k g=>?_;exact W▸g x y K l
inductive E9(p:Pc)(r c:List (Option V)):Prop
 |mk (A B C:List V) (m n:Int):lb (cO r) .none (.int p.Zv)=aa (.lst A)→cE .add (.lst A) (cO c)=aa (.lst B)→(∀Z,bq .len Z (cO c)=aa (.int n))→p.Zv+n=m→lb (cO r) (.int m) .none=aa (.lst C)→cE .add (.lst B) (.lst C)=aa (cO (jk p.fld r c))→E9 p r c
theorem HT{s:So}{p:Pc}{r c:List (Option V)}(t:p.ok s)(P:b9 p.k r)(m:mw s c):E9 p r c:=by
 revert s p r c;apply dM;generalize e3 _=s,e2 _=p,e1 _=r,e0 _=c;intro t P m;cases qR t P with
 |n1 k x U K=>obtain⟨z,rfl,O⟩:=m;exact .mk [] [ov z] [] 1 1 (by kernel_rfl) (by kernel_rfl) (λ_=>by kernel_rfl) (by kernel_rfl) (by kernel_rfl) (by kernel_rfl)
 |n2 k x y U K l=>obtain⟨z,rfl,O⟩:=m;exact .mk [] [ov z] [ov y] 1 1 (by kernel_rfl) (by kernel_rfl) (λ_=>by kernel_rfl) (by kernel_rfl) (by kernel_rfl) (by kernel_rfl)
 |t1 x K=>obtain⟨z,rfl,O⟩:=m;exact .mk [] [ov z] [] 1 1 (by kernel_rfl) (by kernel_rfl) (λ_=>by kernel_rfl) (by kernel_rfl) (by kernel_rfl) (by kernel_rfl)
 |t2 k x y U K l=>obtain⟨z,rfl,O⟩:=m;exact .mk [ov x] [ov x,ov z] [] 2 1 (by kernel_rfl) (by kernel_rfl) (λ_=>by kernel_rfl) (by kernel_rfl) (by kernel_rfl) (by kernel_rfl)
 |p k x y U K l=>refine dj (m) λz u b O W=>?_;subst b;exact .mk [] [ov z,ov u] [] 2 2 (by kernel_rfl) (by kernel_rfl) (λ_=>by kernel_rfl) (by kernel_rfl) (by kernel_rfl) (by kernel_rfl)
section
variable{D:Nat→CS} [Cl TT cy D]{n:Nat}{Z:St}{Q:QV}{X:QX}{f:Ow}{N:Nat}{own:ag}{l:List (Int×V)}
theorem Es{s:So}{p:Pc}{r c:List (Option V)}(G:N≤900)(t:p.ok s)(u:Z own=aa (.idict l))(h:LR l f N)(I:f p.k=aa r)(O:mw s c)
  (E:∀M K,LR K (f.Zv p.k (aa (jk p.fld r c))) N→dw Z M own (.idict K)→Q .none M):D (n+2) 1238 [.obj own,p.v,cO c] Z Q X:=by
 revert D n Z Q X f N own l s p r c;apply aP;generalize e0 _=D;intro T;apply aX;generalize aT _=n,aL _=Z,e9 _=Q,e8 _=X,e7 _=f,e6 _=N,e5 _=own,e4 _=l,e3 _=s,e2 _=p,e1 _=r,e0 _=c;intro G t u h I O E;have e:l.lookup p.k=aa (cO r):=by rw[h.lk];rw[I];rfl
 have P:=h.ty _ _ I;have U:(l.length≤1000)=True:=eq_true (by have:=h.len;lia);have q:=E _ _ (h.Zy (AM t P O) (by rw[I];rfl)) (.Zw Z own _);refine LY ?_;walk_at "w";refine sI (D:=D) t u h I ?_;clear h I E;have b:∀Z,gX Z p.v (.int 0)=aa (.int p.k):=λZ=>by unfold Pc.v;rw[Ab,w8]
 refine(HT t P O).casesOn λA B C m g i o W k v w=>?_;clear O P t;have b:=b Z;have W:=W Z;walk_at "w"
inductive Rd:So→List (Option V)→Prop
 |num {x}:d8 x→Rd .num [x]
 |tru {x}:d9 x→Rd .tru [x]
 |par {x y}:d8 x→d9 y→Rd .par [x,y]
theorem CL{U:So}{p:Pc}{r:List (Option V)}(t:p.ok U)(P:b9 p.k r):Rd U (cV p.fld r):=by
 revert U p r;apply bY;generalize e2 _=U,e1 _=p,e0 _=r;intro t P;cases U with
 |num=>refine f9 (g9 (s:=.num) (by simp) t P) λx j W C q k c=>?_;rw[W];exact .num k
 |tru=>refine f9 (g9 (s:=.tru) (by simp) t P) λx j W C q k e=>?_;rw[W];exact .tru k
 |par=>refine bu (mc t P) λW a=>?_;refine aE (a) λx b=>?_;refine gV b λy C q k O=>?_;rw[W];rw[C];exact .par q k
theorem Rd.ne{s:So}{c:List (Option V)}(h:Rd s c)(Z:St)(k:Int):bD .eq Z (.tup [cO c,.int k]) (.str (SM 141))=aa aj:=by
 revert s c Z k;apply bF;generalize e1 _=s,e0 _=c;intro h;apply bF;generalize e1 _=Z,e0 _=k;rcases h with K|K|⟨K,O⟩
 ·rcases K with rfl|⟨i,rfl, -⟩<;>kernel_rfl
 ·rcases K with rfl|⟨i,rfl⟩<;>kernel_rfl
 ·rcases K with rfl|⟨i,rfl, -⟩<;>rcases O with rfl|⟨j,rfl⟩<;>kernel_rfl
theorem Rd.Zv{s:So}{c:List (Option V)}(h:Rd s c)(Z:St):bD .in_ Z .none (cO c)=aa (!(c.all gS)):=by
 revert s c Z;apply bF;generalize e1 _=s,e0 _=c;intro h;apply aP;generalize e0 _=Z;rcases h with K|K|⟨K,O⟩
 ·rcases K with rfl|⟨i,rfl, -⟩<;>kernel_rfl
 ·rcases K with rfl|⟨i,rfl⟩<;>kernel_rfl
 ·rcases K with rfl|⟨i,rfl, -⟩<;>rcases O with rfl|⟨j,rfl⟩<;>kernel_rfl
theorem Rd.Zx{s:So}{c:List (Option V)}(h:Rd s c)(g:c.all gS=ae):V.lst (c.map oc)=cO c:=
 congrArg V.lst (Gq λx K=>by cases x with|none=>exact aF (dA.mp g _ K)|some v=>rfl)
theorem Rd.Zz{s:So}{c:List (Option V)}(h:Rd s c):cE .mul (.lst [.none]) (.int ((c.map ov).length:Nat))=aa (cO (c.map λ_=>ah)):=by
 cases h<;>kernel_rfl
theorem Rd.Zy{s:So}{c:List (Option V)}(h:Rd s c)(Z:St):bq .len Z (cO c)=aa (.int ((c.map ov).length:Nat)):=by
 revert s c Z;apply bF;generalize e1 _=s,e0 _=c;intro h;apply aP;generalize e0 _=Z;cases h<;>kernel_rfl
theorem Rd.Zw{s:So}{c:List (Option V)}(h:Rd s c):mw s (c.map λO=>ah):=by
 cases h with
 |num=>exact⟨_,rfl,.inl rfl⟩
 |tru=>exact⟨_,rfl,.inl rfl⟩
 |par=>exact⟨_,_,rfl,.inl rfl,.inl rfl⟩
theorem Er{s:So}{o:Od}(G:N≤900)(B:o.ok s)(u:Z own=aa (.idict l))(h:LR l f N)(d:∀e,bN f o=.inl e→Q (.str (SM e)) Z)
  (E:∀c g,bN f o=.inr (c,g)→∀M K,LR K g N→dw Z M own (.idict K)→Q (.lst c) M):D (n+3) 1245 [.obj own,o.v s] Z Q X:=by
 revert D n Z Q X f N own l s o;apply aP;generalize e0 _=D;intro T;apply fD;generalize e9 _=n,e8 _=Z,e7 _=Q,e6 _=X,e5 _=f,e4 _=N,e3 _=own,e2 _=l,e1 _=s,e0 _=o;intro G B u h d E;refine LV ?_;unfold xS;cases o with
 |cn v c=>
  have q:=E c f rfl Z l h (.Zx .Zw u);cases s with
  |num=>refine gV (B) λi x R k m=>?_;refine qF k ?_;subst m;simp only[Od.v];walk_at "w"
  |tru=>obtain⟨b,rfl,rfl⟩:=B;simp only[Od.v];walk_at "w"
  |par=>refine nW (B) λi b x R w y=>?_;refine qF w ?_;subst y;simp only[Od.v];walk_at "w"
 |us t p=>
  simp only[Od.ok]at B;cases I:f p.k with
  |none=>
   have q:=d 141 (by simp only[bN,I]);cases t<;>simp only[Od.v,if_true,if_false,nT]<;>walk_at "w"<;>refine Np (D:=D) B u h I ?_<;>walk_at "w"
  |some r=>
   have P:=h.ty _ _ I;have a:=CL B P;have J:(cV p.fld r).all gS=aj→Q (.str (SM 228)) Z:=λg=>d 228 (by simp only[bN,I,g];rfl);cases t with
   |false=>
    simp only[Od.v,if_false,nT];have F:(cV p.fld r).all gS=ae→Q (.lst ((cV p.fld r).map oc)) Z:=λg=>E _ _ (by simp only[bN,I,g,if_true];rfl) Z l h (.Zx .Zw u);walk_at "w";refine sI (D:=D) B u h I ?_;clear d E h I;generalize cV p.fld r=c at a J F⊢;have V:=a.ne Z p.Zv;have A:=a.Zv Z;cases g:c.all gS with
    |false=>have q:=J g;rw[g]at A;replace A:_=aa ae:=A;clear J F;walk_at "w"
    |true=>have q:=F g;rw[a.Zx g]at q;rw[g]at A;replace A:_=aa aj:=A;clear J F;walk_at "w"
   |true=>
    simp only[Od.v,if_true];have F:(cV p.fld r).all gS=ae→∀M K,LR K (f.Zv p.k (aa (jk p.fld r ((cV p.fld r).map λW=>ah)))) N→dw Z M own (.idict K)→Q (.lst ((cV p.fld r).map oc)) M:=λg=>E _ _ (by simp only[bN,I,g,if_true]);have z:=λQ j=>Es (D:=D) (n:=n) (Q:=Q) (X:=X) G B u h I a.Zw j;walk_at "w";refine sI (D:=D) B u h I ?_;clear d E h I;generalize cV p.fld r=c at a J F z⊢;have V:=a.ne Z p.Zv;have A:=a.Zv Z;have H:=a.Zz;have S:=a.Zy Z;cases g:c.all gS with
    |false=>have q:=J g;rw[g]at A;replace A:_=aa ae:=A;clear J F z;walk_at "w"
    |true=>
     have F:=F g;rw[g]at A;replace A:_=aa aj:=A;rw[a.Zx g]at F;clear J;walk_at "w";refine z _ λM K C O=>?_
     have:=F M K C O;walk_at "w"
end
noncomputable def cZ(f:Ow):List (So×Od)→Sum (Nat×Ow) (List (List V)×Ow)
 | []=>.inr ([],f)
 |x::r=>match bN f x.2 with
  | .inl e=>.inl (e,f)
  | .inr (c,g)=>dc (λy=>(c::y.1,y.2)) (cZ g r)
noncomputable def c9(U:List (So×Od)):List V:=U.map λx=>x.2.v x.1
section
variable{D:Nat→CS} [Cl TT cy D]{n:Nat}{Z:St}{Q:QV}{X:QX}{f:Ow}{N:Nat}{own:ag}{l:List (Int×V)}
theorem pM{U:List (So×Od)}{t:V}(P:t=.tup (c9 U)∨t=.lst (c9 U))(C:U.length≤100)(G:N≤900)(B:∀x∈U,x.2.ok x.1)(u:Z own=aa (.idict l))(h:LR l f N)
  (d:∀e g,cZ f U=.inl (e,g)→∀M K,LR K g N→dw Z M own (.idict K)→Q (.str (SM e)) M)
  (E:∀W g,cZ f U=.inr (W,g)→∀M K,LR K g N→dw Z M own (.idict K)→Q (.lst (W.map .lst)) M):D (n+4) 1252 [.obj own,t] Z Q X:=by
 revert D n Z Q X f N own l U t;apply aP;generalize e0 _=D;intro iC;apply fD;generalize e9 _=n,e8 _=Z,e7 _=Q,e6 _=X,e5 _=f,e4 _=N,e3 _=own,e2 _=l,e1 _=U,e0 _=t;intro P C G B u h d E;have Y:(c9 U).length≤1000:=by unfold c9;rw[bT];exact aW ‹_› (by decide)
 have R:∀(a:ag) (i:a≠own) (k:Z a=ah) (U:List (So×Od)) (f:Ow) (l:List (Int×V)) (H:St) (O:List (List V)) (I:aA),(∀x∈U,x.2.ok x.1)→LR l f N→dw Z H own (.idict l)→H a=aa (.list (O.map .lst))→O.length+U.length≤900→
   I.lookup 13=aa (.obj own)→I.lookup 60=aa (.obj a)→
   (∀e g,cZ f U=.inl (e,g)→∀M K,LR K g N→dw Z M own (.idict K)→Q (.str (SM e)) M)→
   (∀W g,cZ f U=.inr (W,g)→∀M K,LR K g N→dw Z M own (.idict K)→Q (.lst ((O++W).map .lst)) M)→
   ia (aM TT (.cons (.set (.var 51) (.call (SM 199) 1245 (.cons (.var 13) (.cons (.var 116) .nil)))) (.cons (.ife (.blt .isStr (.var 51)) (.cons (.ret (.var 51)) .nil) .nil) (.cons (.expr (.append (.var 60) (.var 51))) .nil)))) [116] ah (c9 U) ⟨D,n+3,X,I⟩ (nt (aM TT (.cons (.ret (.freeze (.var 60))) .nil)) (aQ Q)) H:=by
  intro a i k U
  induction U with
  |nil=>
   intro f l H O I B h S m Y T A d E
   have q:=E [] f rfl (H.ZA a) l h ⟨by unfold St.ZA;rw[if_neg i.symm];exact S.at_,λb p n e=>by
    have:b≠a:=bx e k;unfold St.ZA;rw[if_neg this];exact S.keep b p n e⟩
   rw[nS]at q;simp only[c9,eG];clear d E;walk_at "w"
  |cons x r F=>
   intro f l H O I B h S m Y T A d E;simp only[c9,bX];walk_at "w";refine Er (D:=D) (s:=x.1) (o:=x.2) G (B x (.head _)) S.at_ h ?_ ?_
   ·intro e z
    have q:=d e f (by simp only[cZ,z]) H l h S;clear F d E;walk_at "w"
   ·intro c g z J v h1 w
    have b1:J a=aa (.list (O.map .lst)):=w.keep a _ i m;have b2:O.length≤1000:=by lia
    have b3:J own=aa (.idict v):=w.at_
    have u2:dw Z (J.Zv a (.list ((O++[c]).map .lst))) own (.idict v):=⟨by rw[St.Zw _ _ i.symm];exact b3,λb p nb e=>by
     have:b≠a:=bx e k;rw[St.Zw _ _ this];exact(S.Zy w).keep b p nb e⟩
    have nx:=F g v (J.Zv a (.list ((O++[c]).map .lst))) (O++[c]) ((51,.lst c)::(116,x.2.v x.1)::I) (λy hy=>B y (.tail _ hy)) h1 u2 (St.Zx _ _ _) (by simp at Y⊢;lia)
     T A
     (λe j L=>d e j (by simp only[cZ,z,L,dc])) (λW j L M K C S=>by
      have:=E (c::W) j (by simp only[cZ,z,L,dc]) M K C S
      rwa [List.append_cons]at this)
    rw[jM]at nx;change ia _ _ _ (c9 r) _ _ _ at nx;clear F d E;walk_at "w"
 refine LU ?_;walk_at "w";refine bz λa k=>?_;have i:a≠own:=(bx u k).symm;have st:=R a i k U f l (Z.Zv a (.list [])) [] [(60,.obj a),(13,.obj own),(129,t)] B h ⟨by rw[St.Zw _ _ i.symm];exact u,λb p zz e=>by rw[St.Zw _ _ (bx e k)];exact e⟩ (St.Zx _ _ _) (by simp;exact aW ‹_› (by decide)) rfl rfl d (λW g L=>by rw[tL];exact E W g L);clear R d E;rcases P with rfl|rfl
 ·walk_at "w"
 ·walk_at "w"
theorem E0{f:Ow}{s:So}{a:Od}:cZ f [(s,a)]=dc (λx=>([x.1],x.2)) (match bN f a with| .inl e=>.inl (e,f)| .inr x=>.inr x):=by
 simp only[cZ];cases bN f a with
 |inl e=>rfl
 |inr x=>rfl
theorem m7{f:Ow}{s t:So}{a b:Od}:cZ f [(s,a),(t,b)]=dc (λx=>([x.1,x.2.1],x.2.2)) (dB f a b):=by
 simp only[cZ,dB];cases bN f a with
 |inl e=>rfl
 |inr x=>
  simp only;cases bN x.2 b with
  |inl e=>rfl
  |inr y=>rfl
theorem t7{s t:So}{a b:Od}{f:Ow}{c d:List V}{g:Ow}(O:a.ok s)(i:b.ok t)(P:∀k r,f k=aa r→b9 k r)(h:∀g c,bN f a=.inr (c,g)→∀k r,g k=aa r→b9 k r)(e:dB f a b=.inr (c,d,g)):Vs s c∧Vs t d:=by
 revert s t a b f c d g;apply jy;generalize e7 _=s,e6 _=t,e5 _=a,e4 _=b,e3 _=f,e2 _=c,e1 _=d,e0 _=g;intro O i P h e;unfold dB at e;cases R:bN f a with
 |inl x=>rw[R]at e;cases e
 |inr x=>
  obtain⟨v,W⟩:=x;replace e:=R▸e;simp only at e;cases H:bN W b with
  |inl y=>rw[H]at e;cases e
  |inr y=>
   obtain⟨I,C⟩:=y;replace e:=H▸e;simp only at e
   have:=tj e;simp only[tH]at this;obtain⟨rfl,rfl,rfl⟩:=this;exact⟨fN O P R,fN i (h _ _ R) H⟩
theorem qJ{s:So}{o:Od}{f g:Ow}{c:List V}(B:o.ok s)(P:∀k r,f k=aa r→b9 k r)(e:bN f o=.inr (c,g)):∀k r,g k=aa r→b9 k r:=by
 cases o with
 |cn v d=>cases e;exact P
 |us t p=>
  simp only[bN]at e;cases E:f p.k with
  |none=>rw[E]at e;cases e
  |some r=>
   replace e:=E▸e;simp only at e;cases q:(cV p.fld r).all gS with
   |false=>rw[q]at e;simp at e
   |true=>
    rw[q]at e
    have:=tj e;rw[tH]at this;refine this.2▸ ?_;cases t with
    |false=>exact P
    |true=>
     intro k O U;simp only[if_true]at U;unfold Ow.Zv at U;by_cases c:k=p.k
     ·rw[if_pos c]at U;refine oE U ?_;rw[c]
      exact AM B (P _ _ E) (CL B (P _ _ E)).Zw
     ·rw[if_neg c]at U;exact P _ _ U
theorem Nk{s:So}{Y:Rv}(G:N≤900)(B:Y.ok s)(u:Z own=aa (.idict l))(h:LR l f N)(O:∀e g,cX f Y=.inl (e,g)→∀M K,LR K g N→dw Z M own (.idict K)→Q (.str (SM e)) M)
  (E:∀c g,cX f Y=.inr (c,g)→Vs s c→∀M K,LR K g N→dw Z M own (.idict K)→Q (.lst c) M):D (n+5) 1257 [.obj own,Y.v s] Z Q X:=by
 revert D n Z Q X f N own l s Y;apply aP;generalize e0 _=D;intro T;apply fD;generalize e9 _=n,e8 _=Z,e7 _=Q,e6 _=X,e5 _=f,e4 _=N,e3 _=own,e2 _=l,e1 _=s,e0 _=Y;intro G B u h O E;refine LT ?_;unfold xV;cases Y with
 |use o=>
  have I:o.ok s:=by cases s<;>exact B
  simp only[Rv.v];walk_at "w";refine pM (D:=D) (U:=[(s,o)]) (.inr rfl) (by simp) G (by simpa using I) u h ?_ ?_
  ·intro e g z J v R w
   rw[E0]at z;have q:=O e g (by simp only[cX];cases P:bN f o with|inl x=>rw[P]at z;cases z;rfl|inr x=>rw[P]at z;cases z) J v R w;clear O E;walk_at "w"
  ·intro U g z J v R w
   rw[E0]at z;cases P:bN f o with
   |inl x=>rw[P]at z;cases z
   |inr x=>
    obtain⟨c,W⟩:=x;replace z:=P▸z;cases z;have L:=fN I h.ty P;have q:=E c W (by simp only[cX,P]) L J v R w;clear O E P;cases s with
    |num=>refine bH (L) λi V V p=>?_;subst p;simp only[bX,eG];walk_at "w"
    |tru=>refine aE (L) λi F=>?_;subst F;simp only[bX,eG];walk_at "w"
    |par=>refine dj (L) λi b V V r=>?_;subst r;simp only[bX,eG];walk_at "w"
 |tup a b=>
  cases s<;>first|exact B.elim|skip;obtain⟨k,t⟩:=B;simp only[Rv.v];walk_at "w";refine pM (D:=D) (U:=[(.num,a),(.tru,b)]) (.inl rfl) (by simp) G (by simp;exact⟨k,t⟩) u h ?_ ?_
  ·intro e g z J v R w
   rw[m7]at z;have q:=O e g (by simp only[cX];cases P:dB f a b with|inl x=>rw[P]at z;cases z;rfl|inr x=>rw[P]at z;cases z) J v R w;clear O E;walk_at "w"
  ·intro U g z J v R w
   rw[m7]at z;cases P:dB f a b with
   |inl x=>rw[P]at z;cases z
   |inr x=>
    obtain⟨c,d,W⟩:=x;rw[P]at z;cases z;obtain⟨⟨i,S,H,rfl⟩,⟨j,rfl⟩⟩:=t7 k t h.ty (λg c e=>qJ k h.ty e) P;have q:=E _ W (by simp only[cX,P,dc];rfl) ⟨i,j,S,H,rfl⟩ J v R w;clear O E P;simp only[bX,eG];walk_at "w"
 |add a b=>
  cases s<;>first|exact B.elim|skip;obtain⟨k,t⟩:=B;simp only[Rv.v];walk_at "w";refine pM (D:=D) (U:=[(.num,a),(.num,b)]) (.inl rfl) (by simp) G (by simp;exact⟨k,t⟩) u h ?_ ?_
  ·intro e g z J v R w
   rw[m7]at z;have q:=O e g (by simp only[cX];cases P:dB f a b with|inl x=>rw[P]at z;cases z;rfl|inr x=>rw[P]at z;cases z) J v R w;clear O E;walk_at "w"
  ·intro U g z J v R w
   rw[m7]at z;cases P:dB f a b with
   |inl x=>rw[P]at z;cases z
   |inr x=>
    obtain⟨c,d,W⟩:=x;rw[P]at z;cases z;obtain⟨⟨i,S,H,rfl⟩,⟨j,m,y,rfl⟩⟩:=t7 k t h.ty (λg c e=>qJ k h.ty e) P;have q:=E [.int ((i+j) % 256)] W (by simp only[cX,P,dc,q7,yP]) ⟨_,by lia,by lia,rfl⟩ J v R w;clear O E P;simp only[bX,eG];walk_at "w"
 |lt a b=>
  cases s<;>first|exact B.elim|skip;obtain⟨k,t⟩:=B;simp only[Rv.v];walk_at "w";refine pM (D:=D) (U:=[(.num,a),(.num,b)]) (.inl rfl) (by simp) G (by simp;exact⟨k,t⟩) u h ?_ ?_
  ·intro e g z J v R w
   rw[m7]at z;have q:=O e g (by simp only[cX];cases P:dB f a b with|inl x=>rw[P]at z;cases z;rfl|inr x=>rw[P]at z;cases z) J v R w;clear O E;walk_at "w"
  ·intro U g z J v R w
   rw[m7]at z;cases P:dB f a b with
   |inl x=>rw[P]at z;cases z
   |inr x=>
    obtain⟨c,d,W⟩:=x;rw[P]at z;cases z;obtain⟨⟨i,S,H,rfl⟩,⟨j,m,y,rfl⟩⟩:=t7 k t h.ty (λg c e=>qJ k h.ty e) P;have q:=E [.bool (aO (i<j))] W (by simp only[cX,P,dc,q7,vH]) ⟨_,rfl⟩ J v R w;clear O E P;simp only[bX,eG];walk_at "w"
end
noncomputable def gH:Option Nat→V|ah=>.none|aa e=>.str (SM e)
structure m9(Z M:St)(a:ag)(o:O)(b:ag)(p:O):Prop where
 at1:M a=aa o
 at2:M b=aa p
 keep:∀c q,c≠a→c≠b→Z c=aa q→M c=aa q
theorem dw.Zv{Z M:St}{a b:ag}{o p:O}(h:dw Z M a o)(i:Z b=aa p)(n:b≠a):m9 Z M a o b p:=⟨h.at_,h.keep _ _ n i,λc q P _ e=>h.keep c q P e⟩
theorem m9.Zv{Z M:St}{a b:ag}{o p:O}(h:m9 Z M a o b p)(n:a≠b)(i:O):m9 Z (M.Zv b i) a o b i:=
 ⟨by rw[St.Zw _ _ n];exact h.at1,St.Zx _ _ _,λc q P v e=>by rw[St.Zw _ _ v];exact h.keep c q P v e⟩
theorem JP(c:List V):(c.map aa).map ov=c:=by
 rw[kS];exact List.map_id' _|>.trans rfl
section
variable{D:Nat→CS} [Cl TT cy D]{n:Nat}{Z:St}{Q:QV}{X:QX}{f:Ow}{N:Nat}{own pz:ag}{l:List (Int×V)}{ps:List V}
theorem No{W:fq}(a:N<900)(d:ps.length≤900)(B:W.ok)(Y:Z own=aa (.idict l))(O:Z pz=aa (.list ps))(h:LR l f N){o:Option Nat}{g:Ow}{y:List V}(e:fR f ps W=(o,g,y))
  (E:∀M K,LR K g (N+1)→m9 Z M own (.idict K) pz (.list y)→Q (gH o) M):D (n+6) 1264 [.obj own,.obj pz,W.v] Z Q X:=by
 revert D n Z Q X f N own pz l ps W o g y;apply aP;generalize e0 _=D;intro iC;apply et;generalize aL _=n,e9 _=Z,e8 _=Q,e7 _=X,e6 _=f,e5 _=N,e4 _=own,e3 _=pz,e2 _=l,e1 _=ps,e0 _=W;intro a d B Y O h;apply bY;generalize e2 _=o,e1 _=g,e0 _=y;intro e E;have T:own≠pz:=dq Y O (by simp);have U:=T.symm;have S:m9 Z Z own (.idict l) pz (.list ps):=⟨Y,O,λI I I I e=>e⟩;have C:(l.length≤1000)=True:=eq_true (by have:=h.len;lia);refine LQ ?_;unfold ya;cases W with
 |nop=>
  cases e;have q:=E Z l (h.Zv (by exact jL _ _)) S;simp only[gH]at q;simp only[fq.v];clear E;walk_at "w"
 |live k=>
  cases e;have q:=E _ _ (h.Zx (n6 (.inr B)).1) ((dw.Zw Z own _).Zv O U);clear E S;simp only[fq.v];rcases B with rfl|rfl|rfl|rfl|rfl
  ·walk_at "w"
  ·walk_at "w"
  ·walk_at "w"
  ·walk_at "w"
  ·walk_at "w"
 |dead k=>
  cases e;simp only[fq.v];cases L:f k with
  |none=>
   have H:l.lookup k=ah:=by rw[h.lk];rw[L];rfl
   have q:=E Z l (by rw[AK L];exact h.Zv (by exact jL _ _)) S;clear E;simp only[gH]at q;walk_at "w"
  |some r=>
   have H:l.lookup k=aa (cO r):=by rw[h.lk,L];rfl
   have q:=E _ _ ((h.Zz k).Zv (by lia)) ((dw.Zw Z own _).Zv O U);clear E;simp only[gH]at q;walk_at "w"
 |prt s od=>
  simp only[fq.v];walk_at "w";refine Er (D:=D) (by lia) B Y h ?_ ?_
  ·intro c m
   simp only[fR,m]at e;cases e;have q:=E Z l (h.Zv (by lia)) S;clear E;simp only[gH]at q;walk_at "w"
  ·intro c F m J v R w
   simp only[fR,m]at e;cases e;have G:=w.Zv O U;have A:=G.at2;have b3:(ps.length≤1000)=True:=eq_true (by lia);have q:=E _ v (R.Zv (by lia)) (G.Zv T (.list (ps++[jP s c])));have j:=fN B h.ty m;clear E m;simp only[gH]at q;cases s with
   |num=>obtain⟨i,_,_,rfl⟩:=j;rw[GP]at q;walk_at "w"
   |tru=>obtain⟨i,rfl⟩:=j;rw[GN]at q;walk_at "w"
   |par=>obtain⟨i,b,_,_,rfl⟩:=j;rw[GO]at q;walk_at "w"
 |asg s p rv=>
  obtain⟨P,x⟩:=B;simp only[fq.v];walk_at "w";refine Nk (D:=D) (by lia) x Y h ?_ ?_
  ·intro c F m J v R w
   simp only[fR,m]at e;cases e;have q:=E J v (R.Zv (by lia)) (w.Zv O U);clear E;simp only[gH]at q;walk_at "w"
  ·intro c F m hv J v R w
   simp only[fR,m]at e;have A:=w.at_;cases t:F p.k with
   |none=>
    rw[t]at e;cases e;have H:v.lookup p.k=ah:=by rw[R.lk,t];rfl
    have q:=E J v (R.Zv (by lia)) (w.Zv O U);clear E;simp only[gH]at q;simp only[Pc.v];walk_at "w"
   |some r=>
    rw[t]at e;cases e;have H:v.lookup p.k=aa (cO r):=by rw[R.lk,t];rfl
    have z:=λQ hq=>Es (D:=D) (n:=n+3) (Q:=Q) (X:=X) (by lia) P A R t (Ba hv) hq;have q:=λM K C u=>E M K (LR.Zv C (nP N)) ((w.Zy u).Zv O U);clear E;simp only[gH]at q;simp only[cO,JP]at z;simp only[Pc.v]at z⊢;walk_at "w";refine z _ λM K C u=>?_
    have:=q M K C u;walk_at "w"
end
theorem JS{k:Int}(x:0≤k)(h:k<6):k=0∨k=1∨k=2∨k=3∨k=4∨k=5:=aE (qx x) λn e=>by subst e;exact(by decide+kernel:∀n<6,((n:Nat):Int)=0∨(n:Int)=1∨(n:Int)=2∨(n:Int)=3∨(n:Int)=4∨(n:Int)=5) n (kT.mp h)
theorem Iv{k:Int}(x:0≤k)(h:k<5):hM (1+k):=aE (qx x) λn e=>by subst e;exact(by unfold hM;decide+kernel:∀n<5,hM (1+((n:Nat):Int))) n (kT.mp h)
theorem Bf:∀{Z W:List Int},Z.Nodup→(∀x∈Z,x∈W)→Z.length≤W.length
 | [],_,_,_=>gy _
 |x::r,W,D,h=>by
  rw[dY]at D;have K:=h x (.head _)
  have:=Bf (Z:=r) (W:=W.erase x) D.2 λy O=>(List.mem_erase_of_ne λq=>D.1 (by exact q▸O)).mpr (h y (.tail _ O));rw[List.length_erase_of_mem K]at this;exact Nat.succ_le_of_lt (fL this (Nat.sub_lt (List.length_pos_of_mem K) Nat.one_pos))
theorem B4{i:List Int}(D:i.Nodup)(h:∀k∈i,0≤k∧k≤5):i.length≤6:=
 Bf (W:=[0,1,2,3,4,5]) D λx K=>by rcases JS (h x K).1 (zU (h x K).2 (by decide))with rfl|rfl|rfl|rfl|rfl|rfl<;>decide
theorem Hv{a b:List Int}(p:a.Perm b):jj a=jj b:=by
 have d:∀(a b c:Int),aO (a≤b)=ae→aO (b≤c)=ae→aO (a≤c)=ae:=λa b c R H=>by simp at*;lia
 have e:∀(a b:Int),(aO (a≤b)||aO (b≤a))=ae:=λa b=>by simp;lia
 refine List.Perm.eq_of_pairwise (le:=λx y=>aO (x≤y)=ae) (λx y N N R H=>by simp at R H;lia) (Gl d e a) (Gl d e b) ?_;exact(Gn _ _).trans (p.trans (Gn _ _).symm)
theorem DP(Z:St)(k:Nat):∀(i:List Int),fk (bP Z (k+1)) (i.map .int)=aa (i.map PyData.int)
 | []=>rfl
 |x::r=>by rw[bX];rw[sx];rw[DP Z k r];rfl
theorem Dn:∀(i:List Int),fY (i.map PyData.int) (i.map PyData.int)=ae
 | []=>yh
 |x::r=>by rw[bX];rw[sg];rw[Dn r];simp
theorem II(Z:St)(i:List Int):si (cM Z (.lst (i.map .int)) (.lst (i.map .int))) Z (.lst (i.map .int)) (.lst (i.map .int))=aa aj:=by
 cases i with
 |nil=>rfl
 |cons x r=>
  refine(bo bX)▸ ?_;rw[DI];rw[Dp];rw[pA];refine bX▸ ?_;rw[DQ];rw[DP];rw[rt];rw[sh];rw[yg];rw[Dn];rfl
noncomputable def pg(v:V):Prop:=v=cz∨(∃i:Int,v=.int i)∨∃b:Bool,v=.bool b
theorem xj(Z:St)(k:Nat){v:V}(h:pg v):∃d,bP Z (k+2) v=aa d∧aZ d d=ae:=by
 revert Z k v;apply bY;generalize e2 _=Z,e1 _=k,e0 _=v;intro h;rcases h with rfl|⟨i,rfl⟩|⟨b,rfl⟩
 ·exact⟨_,by rw[Mr,sx,Ms,Mp,yw,rt],by rw[Dm,sg];simp⟩
 ·exact⟨_,rfl,by simp⟩
 ·exact⟨_,rfl,by simp⟩
theorem KQ(Z:St)(L:List V):(∀v∈L,pg v)→∃c,fk (bP Z 7) L=aa c∧fY c c=ae:=
 bc (motive:=λL=>(∀v∈L,pg v)→∃c,fk (bP Z 7) L=aa c∧fY c c=ae) (λ_=>⟨[],rfl,yh⟩)
  (λv r F h=>aB (xj Z 5 (h v (.head _))) λd R H=>aB (F λv g=>h v (.tail _ g)) λc j z=>⟨d::c,by rw[sx,R,j,yw],by rw[sg];rw[H];rw[z];rfl⟩) L
theorem IJ{Z:St}{a:ag}{L:List V}(k:Z a=aa (.list L))(h:∀v∈L,pg v):bD .ne Z (.obj a) (.lst L)=aa aj:=by
 revert Z a L;apply bY;generalize e2 _=Z,e1 _=a,e0 _=L;intro k h;refine aB (KQ Z L h) λc R H=>?_;cases L with
 |nil=>rw[El,Mk,vI,k];rfl
 |cons x r=>rw[El,DI,Dp,pA,pJ,DQ,k,DS,R,rt,sh,yg,H];rfl
theorem GS{k:Int}{r:List (Option V)}(h:b9 k r):∀x∈r,x=ah∨(∃i:Int,x=aa (V.int i))∨∃b:Bool,x=aa (V.bool b):=by
 have P:∀{x},d8 x→x=ah∨(∃i:Int,x=aa (V.int i))∨∃b:Bool,x=aa (V.bool b):=λh=>h.imp id λh=>.inl (h.imp λ_ h=>h.1);have v:∀{x},d9 x→x=ah∨(∃i:Int,x=aa (V.int i))∨∃b:Bool,x=aa (V.bool b):=λh=>h.imp id .inr;rcases h with⟨-,rfl⟩|⟨-,x,rfl,K⟩|⟨-,x,rfl,K⟩|⟨-,x,y,rfl,K,l⟩
 ·exact λ_ h=>nomatch h
 ·exact λ_ h=>jd.mp h▸P K
 ·exact λ_ h=>jd.mp h▸v K
 ·exact λ_ h=>(bf.mp h).elim (λe=>e▸P K) λh=>jd.mp h▸v l
theorem Iy{r:List (Option V)}(h:∀x∈r,x=ah∨(∃i:Int,x=aa (V.int i))∨∃b:Bool,x=aa (V.bool b)):∀v∈r.map oc,pg v:=λv g=>
 aB (cR.mp g) λx K e=>by
  rw[←e];rcases h x K with e|⟨i,e⟩|⟨i,e⟩<;>rw[e]
  ·exact .inl rfl
  ·exact .inr (.inl ⟨i,rfl⟩)
  ·exact .inr (.inr ⟨i,rfl⟩)
noncomputable abbrev uG:Ex:=.ite (.cmp .is_ (.var 22) .none) (.tup (.cons (.str (SM 132)) .nil)) (.var 22)
theorem DW{D:Nat→CS}{n:Nat}{Z:St}{X:QX}{K:QL}:∀(r:List (Option V)) {O:List V},(∀x∈r,x=ah∨(∃i:Int,x=aa (V.int i))∨∃b:Bool,x=aa (V.bool b))→K (O++r.map oc) Z→ft (iV (cm TT uG) [22] (gW TT .nil) ⟨D,n,X,[]⟩) ah (r.map ov) O K Z
 | [],O,_,h=>by rw[eG,nS]at h;exact h
 |x::r,O,E,h=>by
  have j:ft (iV (cm TT uG) [22] (gW TT .nil) ⟨D,n,X,[]⟩) ah (r.map ov) (O++[oc x]) K Z:=DW r (λy l=>E y (.tail _ l)) (by rw[iA];exact h);rcases E x (.head _)with e|⟨i,e⟩|⟨i,e⟩<;>(subst e;simp only[bX,ov];clear h E;walk_at "w")
theorem Mt{D:Nat→CS}{n:Nat}{Z:St}{X:QX}{K:QL}{r:List (Option V)}(E:∀x∈r,x=ah∨(∃i:Int,x=aa (V.int i))∨∃b:Bool,x=aa (V.bool b))(h:K (r.map oc) Z):ft (iV (cm TT uG) [22] (gW TT .nil) ⟨D,n,X,[]⟩) ah (r.map ov) [] K Z:=DW r E h
theorem b9.k{k:Int}{r:List (Option V)}(h:b9 k r):0≤k∧k≤5:=by
 revert k r;apply bF;generalize e1 _=k,e0 _=r;intro h;rcases h with⟨c,_⟩|⟨c,_⟩|⟨c,_⟩|⟨c,_⟩<;>lia
theorem LR.Zw{l:List (Int×V)}{O:Ow}{N:Nat}(h:LR l O N):l.length≤6:=by
 rw[←bT (f:=(·.1))];refine B4 h.nd λk U=>?_;cases e:O k with
 |none=>exact(jW (by rw[h.lk];refine(bo e)▸ ?_;rfl) U).elim
 |some r=>exact(h.ty _ _ e).k
theorem cF.ZC{Z:St}{A:cw}{m:Mc}{J:Ow}{W:List V}{F:List (ag×O)}{N:Nat}(h:cF Z A m J W F N):m.h.length≤6:=by
 revert Z A m J W F N;apply dQ;generalize e6 _=Z,e5 _=A,e4 _=m,e3 _=J,e2 _=W,e1 _=F,e0 _=N;intro h;rw[←bT (f:=(·.1))];refine B4 h.hn λk U=>?_;cases e:J k with
 |none=>exact(jW (by have:=h.hk k;rw[e]at this;simpa using this) U).elim
 |some r=>exact(h.ty _ _ e).k
theorem B1{Z:St}{A:cw}{m:Mc}{f:Ow}{W:List V}{F:List (ag×O)}{N M:Nat}{l:List (Int×V)}(h:cF Z A m f W F N)(C:LR l f M):(m.h.map (·.1)).Perm (l.map (·.1)):=by
 refine(List.perm_ext_iff_of_nodup h.hn C.nd).mpr λk=>?_;cases e:f k with
 |none=>exact⟨λq=>(jW (by have:=h.hk k;rw[e]at this;simpa using this) q).elim,λq=>(jW (by rw[C.lk];rw[e];rfl) q).elim⟩
 |some r=>exact⟨λU=>B0 (by rw[C.lk];rw[e];rfl),λU=>B0 (by rw[h.hk];rw[e];rfl)⟩
noncomputable def Ai(o:Option O):Option V:=fh o nn (λl=>if l.length<64 then aa (.lst ((jj (l.map (·.1))).map .int))else ah) nn nn nn
theorem EN(Z:St)(a:ag):bq .sorted_ Z (.obj a)=Ai (Z a):=rfl
theorem Ah(l:List (Int×V))(h:l.length≤6):Ai (aa (.idict l))=aa (.lst ((jj (l.map (·.1))).map .int)):=if_pos (by exact fL ‹_› (by decide))
theorem qP{s:bV}{Z:St}{P:Prop}(h:dk s Z)(k:P):k8 s Z P:=match s,h with|ah,_=>k|aa (_,_),h=>⟨h,k⟩
theorem FO{b:SW}{D:List Nat}{s:bV}{R:QF}(P:Fr→St→Prop)(T:∀G Z,P G Z→dk s Z):∀{l:List V},
  (∀v∈l,∀G Z (K:QF),P G Z→(∀G Z,P G Z→K .next G Z)→j9 D v G λG=>b G K Z)→(∀G Z,P G Z→R .next G Z)→∀{G Z},P G Z→ia b D s l G R Z
 | [],_,i,G,Z,p=>qP (T _ _ p) (i _ _ p)
 |v::l,a,i,G,Z,p=>qP (T _ _ p) (a v (.head _) G Z (nv (ia b D s l) R) p λN N p=>FO P T (λv g=>a v (.tail _ g)) i p)
section
variable{D:Nat→CS} [Cl TT cy D]{n:Nat}{Z:St}{Q:QV}{X:QX}{A:cw}{f:Ow}{ps:List V}{r1 r2:List (ag×O)}{N M:Nat}{own:ag}{l:List (Int×V)}
theorem Ef(j:N≤900)(h:aU Z A f ps (r1++(own,.idict l)::r2) N)(C:LR l f M)(E:Q (.bool ae) Z):D (n+3) 1269 [.obj A.mach,.obj A.frame,.obj own] Z Q X:=by
 revert D n Z Q X A f ps r1 r2 N M own l;apply aP;generalize e0 _=D;intro iC;apply aX;generalize aT _=n,aL _=Z,e9 _=Q,e8 _=X,e7 _=A,e6 _=f,e5 _=ps,e4 _=r1,e3 _=r2,e2 _=N,e1 _=M,e0 _=own;apply aP;generalize e0 _=l;intro j h C E;have h1:=h.Zv;have h2:=h.Zx;have d:Z own=aa (.idict l):=h.Zy (p:=(own,.idict l)) (by simp);obtain⟨m,b⟩:=id h;have h4:=b.hm;have s1:bq .sorted_ Z (.obj A.hm)=aa (.lst ((jj (l.map (·.1))).map .int)):=by rw[EN,h4,Ah _ b.ZC,Hv (B1 b C)]
 have s2:bq .sorted_ Z (.obj own)=aa (.lst ((jj (l.map (·.1))).map .int)):=by rw[EN,d,Ah _ C.Zw]
 have s3:=II Z (jj (l.map (·.1)));refine LP ?_;unfold xU;walk_at "w";clear s1 s2 s3;have Vv:=C.Zw;refine⟨by show l.length≤1000;lia,λO=>?_⟩;show ia _ _ (aa (own,.pdict O l)) (l.map λVz=>.int Vz.1) _ _ (Z.Zv own (.pdict O l));have J:=h.ZD (.pdict O l);obtain⟨m1,V⟩:=id J;have a1:=J.Zv;have a2:=J.Zx;have T:(Z.Zv own (.pdict O l)) own=aa (.pdict O l):=St.Zx _ _ _;have a4:=V.hm;have a5:=V.Zx;have a6:=V.al;have t:(Z.Zv own (.pdict O l)).Zv own (.idict l)=Z:=by rw[St.Zz];exact St.ZB d
 have U:∀S:aA,S.lookup 113=aa (.obj A.mach)→S.lookup 13=aa (.obj own)→nt (aM TT (.cons (.ret (.cmp .eq (.meth (.attr (.var 113) (SM 120)) (SM 204) .nil) (.blt .len (.var 13)))) .nil)) (aQ Q) .next ⟨D,n+2,X,S⟩ Z:=by
  intro S F H;have c5:=b.Zx;have c6:=b.al;have c1:=h.Zv;walk_at "w";refine Nm (D:=D) (as:=m.als.map λa=>(a.ao,a.lv)) c5 (by rw[c6,kS];rfl) (by rw[bT];have:=b.len;lia) ?_ ?_
  ·intro Vz Y
   obtain⟨a,ha,rfl⟩:=cR.mp Y;have g:∀q∈a.Zv,Z q.1=aa q.2:=λq hq=>b.hp.2 q (by unfold Mc.Zv;simp only[bf,je];exact .inr (.inr (.inr (.inr (.inl (List.mem_flatMap.mpr ⟨a,ha,hq⟩))))));unfold Al.Zv at g;cases W:a.lv with
   |true=>rw[W]at g;exact⟨_,_,g (a.ao,_) (.head _)⟩
   |false=>rw[W]at g;exact⟨_,_,g (a.ao,_) (.head _)⟩
  ·have e:((m.als.map λa=>(a.ao,a.lv)).filter (·.2)).length=l.length:=by
    rw[List.filter_map,bT]
    have:=b.cnt;have Vz:=(B1 b C).length_eq;rw[bT,bT]at Vz;rw[←Vz,←this];rfl
   rw[e];have Vx:(l.length≤1000)=True:=eq_true (by lia);have Vy:bD .eq Z (.int l.length) (.int l.length)=aa ae:=by simp -implicitDefEqProofs<;>rfl
   walk_at "w"
 refine FO (P:=λG R=>∃S,G=⟨D,n+2,X,S⟩∧R=Z.Zv own (.pdict O l)∧S.lookup 113=aa (.obj A.mach)∧S.lookup 61=aa (.obj A.frame)∧S.lookup 13=aa (.obj own)) ?_ ?_ ?_ ⟨[(113,.obj A.mach),(61,.obj A.frame),(13,.obj own)],rfl,rfl,rfl,rfl,rfl⟩
 ·rintro G R ⟨S,rfl,rfl, -⟩
  exact T
 ·rintro v W G R K ⟨S,rfl,rfl,F,H,o⟩ c
  obtain⟨Vz,Y,rfl⟩:=cR.mp W;obtain⟨k,u⟩:=Vz
  have I:∃r,f k=aa r:=by
   cases e:f k with
   |none=>exact(jW (by rw[C.lk,e];rfl) (cR.mpr ⟨(k,u),Y,rfl⟩)).elim
   |some r=>exact⟨r,rfl⟩
  obtain⟨r,I⟩:=I;have e:l.lookup k=aa (cO r):=by rw[C.lk,I];rfl
  obtain⟨i,B,eh,L, -⟩:=V.lv j I;have q:=g8 L.at_ L.len;have b1:=L.o;have b2:=L.c;have s:=C.ty _ _ I;have done:∀w,K .next (ax 9 w (ax 67 (.int k) ⟨D,n+2,X,S⟩)) (Z.Zv own (.pdict O l)):=λw=>c _ _ ⟨_,rfl,rfl,F,H,o⟩;clear c W L I U E V b h J Y;have hr:=GS s;have c1:=IJ b2 (Iy hr);have Vw:(r.map ov).length≤1000:=by rcases s with⟨-,rfl⟩|⟨-,x,rfl, -⟩|⟨-,x,rfl, -⟩|⟨-,x,y,rfl, -⟩<;>exact gz rfl
  walk_at "w";refine Mt (D:=D) (n:=n+2) (X:=X) hr ?_;walk_at "w";exact done _
 ·rintro G R ⟨S,rfl,rfl,F,H,o⟩
  have z:=U S F o;rw[←t]at z;exact⟨T,z⟩
end
theorem Hp.ZA{Z M:St}{a:ag}{o H:O}{e:List (ag×O)}(h:Hp Z ((a,o)::e))(u:dw Z M a H):Hp M ((a,H)::e):=by
 refine(h.ZC H).ZB λb p q=>?_;by_cases c:b=a
 ·subst c;rw[St.Zx]at q;refine oE q ?_;exact u.at_
 ·rw[St.Zw _ _ c]at q;exact u.keep b p c q
theorem Hp.Zw{Z:St}{a:ag}{o:O}{e:List (ag×O)}(h:Hp Z ((a,o)::e)):Z a=aa o:=h.2 _ (.head _)
section
variable{D:Nat→CS} [Cl TT cy D]{n:Nat}{Z:St}{Q:QV}{X:QX}
theorem EJ{a:ag}{L ac f:V}{c:List V}(C:c.length≤1000)(i:gk f .none=aa aj)(k:Z a=aa (.inst 1144 []))(h:∀M s,dw Z M a (.inst 1144 [(SM 60,L),(SM 182,ac),(SM 119,.lst c),(SM 110,f),(SM 96,s)])→Q .none M):
  D (n+1) 1098 [.obj a,L,ac,.lst c,f] Z Q X:=by
 revert D n Z Q X a L ac f c;apply aP;generalize e0 _=D;intro O;apply j7;generalize e8 _=n,e7 _=Z,e6 _=Q,e5 _=X,e4 _=a,e3 _=L,e2 _=ac,e1 _=f,e0 _=c;intro C i k h;refine Me ?_;unfold ye;have t:(c.length≤1000)=True:=eq_true C;walk_at "w";refine bz λs T=>?_;refine bb (bg T) λN N T=>?_;refine bb (bg T) λN N T=>?_;refine bb (bg T) λN N T=>?_;refine bb (bg T) λN N T=>?_;walk_at "w";refine h _ (.obj s) ⟨St.Zx _ _ _,λb p I e=>?_⟩;have:b≠s:=bx e T;walk_at "w"
theorem NY{a:ag}{v:V}(k:Z a=aa (.inst 1173 []))(h:∀M o,dw Z M a o→Q .none M):D (n+1) 1163 [.obj a,v] Z Q X:=by
 revert D n Z Q X a v;apply aP;generalize e0 _=D;intro T;apply ch;generalize e5 _=n,e4 _=Z,e3 _=Q,e2 _=X,e1 _=a,e0 _=v;intro k h;refine Mb ?_;unfold xv;walk_at "w";refine bz λH g=>?_;refine bb (bg g) λN N g=>?_;walk_at "w";refine bz λj i=>?_;refine bb (bg i) λN N i=>?_;refine bb (bg i) λN N i=>?_;refine bb (bg i) λN N i=>?_;walk_at "w";refine bz λC l=>?_;refine bb (bg l) λN N l=>?_;refine bb (bg l) λN N l=>?_;refine bb (bg l) λN N l=>?_;refine bb (bg l) λN N l=>?_;refine bb (bg l) λN N l=>?_;walk_at "w";refine bz λm K=>?_;refine bb (bg K) λN N K=>?_;refine bb (bg K) λN N K=>?_;refine bb (bg K) λN N K=>?_;refine bb (bg K) λN N K=>?_;refine bb (bg K) λN N K=>?_;refine bb (bg K) λN N K=>?_;refine bb (bg K) λN N K=>?_;walk_at "w";refine bz λq f=>?_;refine bb (bg f) λN N f=>?_;refine bb (bg f) λN N f=>?_;refine bb (bg f) λN N f=>?_;refine bb (bg f) λN N f=>?_;refine bb (bg f) λN N f=>?_;refine bb (bg f) λN N f=>?_;refine bb (bg f) λN N f=>?_;refine bb (bg f) λN N f=>?_;refine bb (bg f) λN N f=>?_;refine bb (bg f) λN N f=>?_;walk_at "w";refine bz λr c=>?_;refine bb (bg c) λN N c=>?_;refine bb (bg c) λN N c=>?_;obtain⟨_,_,c⟩:=bg c;obtain⟨_,_,c⟩:=bg c;obtain⟨_,_,c⟩:=bg c;obtain⟨_,_,c⟩:=bg c;obtain⟨_,_,c⟩:=bg c;obtain⟨_,_,c⟩:=bg c;obtain⟨_,_,c⟩:=bg c;obtain⟨_,_,c⟩:=bg c;obtain⟨_,_,c⟩:=bg c;obtain⟨_,_,c⟩:=bg c;walk_at "w";refine h _ _ ⟨St.Zx _ _ _,λb p I e=>?_⟩;have:b≠H:=bx e g;have:b≠j:=bx e i;have:b≠C:=bx e l;have:b≠m:=bx e K;have:b≠q:=bx e f;have:b≠r:=bx e c;walk_at "w"
theorem N3{a:ag}(k:Z a=aa (.inst 512 []))(h:∀M O,Z O=ah→dw Z M a (bL O 0)→M O=aa (.list [])→Q .none M):D (n+1) 422 [.obj a] Z Q X:=by
 refine Ls ?_;walk_at "w";refine bz λs T=>?_;have P:a≠s:=bx k T;have v:=P.symm;walk_at "w";refine h _ s T ⟨St.Zx _ _ _,λb p I e=>?_⟩ ?_
 ·have:b≠s:=bx e T
  walk_at "w"
 ·walk_at "w"
theorem N2{a m w:ag}(k:Z a=aa (.inst 868 []))(h:Q .none (Z.Zv a (.inst 868 [(SM 120,.obj m),(SM 103,.obj w)]))):D (n+1) 809 [.obj a,.obj m,.obj w] Z Q X:=by
 refine Ld ?_;unfold xF;walk_at "w"
 with_reducible_and_instances conv=>whnf
 rw[St.Zz];exact h
theorem N1{a p m w:ag}(k:Z a=aa (.inst 936 []))(t:Z p=aa (.inst 868 [(SM 120,.obj m),(SM 103,.obj w)]))(h:Q .none (Z.Zv a (.inst 936 [(SM 124,.obj p),(SM 103,.obj w)]))):D (n+1) 886 [.obj a,.obj p] Z Q X:=by
 refine La ?_;unfold xB;have P:p≠a:=dq t k (by simp);walk_at "w"
 with_reducible_and_instances conv=>whnf
 rw[St.Zz];exact h
theorem N5{a p m w:ag}(k:Z a=aa (.inst 761 []))(t:Z p=aa (.inst 868 [(SM 120,.obj m),(SM 103,.obj w)]))(h:Q .none (Z.Zv a (.inst 761 [(SM 124,.obj p),(SM 103,.obj w)]))):D (n+1) 737 [.obj a,.obj p] Z Q X:=by
 refine Lf ?_;unfold yd;have P:p≠a:=dq t k (by simp);walk_at "w"
 with_reducible_and_instances conv=>whnf
 rw[St.Zz];exact h
theorem yJ{a:ag}{b t f:V}(k:Z a=aa (.inst 964 []))(h:∀M O,Z O=ah→dw Z M a (.inst 964 [(SM 43,b),(SM 130,t),(SM 73,f),(SM 84,.obj O),(SM 76,.int 0),(SM 86,.int 0),(SM 53,.lst [])])→M O=aa (.idict [])→Q .none M):D (n+1) 954 [.obj a,b,t,f] Z Q X:=by
 revert D n Z Q X a b t f;apply aP;generalize e0 _=D;intro W;apply jy;generalize e7 _=n,e6 _=Z,e5 _=Q,e4 _=X,e3 _=a,e2 _=b,e1 _=t,e0 _=f;intro k h;refine K7 ?_;unfold yc;walk_at "w";refine bz λs T=>?_;refine bb (bg T) λN N T=>?_;refine bb (bg T) λN N T=>?_;refine bb (bg T) λN N T=>?_;walk_at "w";refine h _ s T ⟨St.Zx _ _ _,λb p I e=>?_⟩ ?_
 ·have:b≠s:=bx e T
  walk_at "w"
 ·walk_at "w"
end
theorem Hp.ZE{Z M:St}{e X:List (ag×O)}(h:Hp Z e)(B:Hp M X)(k:e.map (·.1)=X.map (·.1)){a:ag}{o:O}(W:Z a=ah)(c:M a=aa o):Hp M ((a,o)::X):=by
 refine⟨dY.mpr ⟨λq=>?_,B.1⟩,λp t=>?_⟩
 ·change a∈X.map (·.1)at q
  rw[←k]at q;refine aB (cR.mp q) λp t d=>?_
  have:=h.2 p t;rw[d]at this;exact aG (W.symm.trans this)
 ·refine bW (bf.mp t) (λq=>?_) λq=>?_
  ·refine qF q ?_;exact c
  ·exact B.2 p q
noncomputable def jq(W w:ag)(c:V)(Z l Y P g v j:ag):O:=.inst 1079 [(SM 150,.obj W),(SM 103,.obj w),(SM 116,c),(SM 51,.int 99),(SM 120,.obj Z),(SM 124,.obj l),(SM 151,.obj Y),(SM 52,.obj P),(SM 55,.obj g),(SM 115,.obj v),(SM 125,.obj j),(SM 148,.none)]
section
variable{D:Nat→CS} [Cl TT cy D]{n:Nat}{Z:St}{Q:QV}{X:QX}
theorem N4{a W VA:ag}{c:V}{e:List (ag×O)}(H:Hp Z ((a,.inst 1079 [])::e))(h:∀M U R l Y P g v j,Hp M ((j,.list [])::(v,.list [])::(g,.sdict [])::(P,.inst 761 [(SM 124,.obj l),(SM 103,.obj VA)])::(Y,.inst 936 [(SM 124,.obj l),(SM 103,.obj VA)])::(l,.inst 868 [(SM 120,.obj U),(SM 103,.obj VA)])::(R,.list [])::(U,bL R 0)::(a,jq W VA c U l Y P g v j)::e)→Q .none M):
  D (n+3) 989 [.obj a,.obj W,.obj VA,c,.int 99] Z Q X:=by
 revert D n Z Q X a W VA c e;apply aP;generalize e0 _=D;intro iC;apply j7;generalize e8 _=n,e7 _=Z,e6 _=Q,e5 _=X,e4 _=a,e3 _=W,e2 _=VA,e1 _=c,e0 _=e;intro H h;have k:=H.Zw;refine K6 ?_;unfold xO
 try walk_at "w"
 simp only[St.Zz];have H1:=H.ZC (.inst 1079 [(SM 150,.obj W),(SM 103,.obj VA),(SM 116,c),(SM 51,.int 99)]);generalize Z.Zv a (.inst 1079 [(SM 150,.obj W),(SM 103,.obj VA),(SM 116,c),(SM 51,.int 99)])=VB at H1⊢;clear k H;refine fC λU hm=>?_;have p:=H1.Zy hm (.inst 512 []);refine N3 (D:=D) p.Zw λT R E u A=>?_;have H3:=p.ZE (p.ZA u) rfl E A;have k:=H3.2 (a,_) (.tail _ (.tail _ (.head _)));simp only at k
 try walk_at "w"
 have F:=Hp.Zx (d:=[_,_]) H3 (.inst 1079 [(SM 150,.obj W),(SM 103,.obj VA),(SM 116,c),(SM 51,.int 99),(SM 120,.obj U)]);generalize T.Zv a (.inst 1079 [(SM 150,.obj W),(SM 103,.obj VA),(SM 116,c),(SM 51,.int 99),(SM 120,.obj U)])=G at F⊢;clear k A u;have k:=F.2 (a,_) (.tail _ (.tail _ (.head _)));simp only at k
 try walk_at "w"
 refine fC λl hp=>?_;have H5:=F.Zy hp (.inst 868 []);refine N2 (D:=D) H5.Zw ?_;rw[St.Zz];have K:=F.Zy hp (.inst 868 [(SM 120,.obj U),(SM 103,.obj VA)]);generalize G.Zv l (.inst 868 [(SM 120,.obj U),(SM 103,.obj VA)])=r at K⊢;clear k H5;have k:=K.2 (a,_) (.tail _ (.tail _ (.tail _ (.head _))));simp only at k
 try walk_at "w"
 have C:=Hp.Zx (d:=[_,_,_]) K (.inst 1079 [(SM 150,.obj W),(SM 103,.obj VA),(SM 116,c),(SM 51,.int 99),(SM 120,.obj U),(SM 124,.obj l)]);generalize r.Zv a (.inst 1079 [(SM 150,.obj W),(SM 103,.obj VA),(SM 116,c),(SM 51,.int 99),(SM 120,.obj U),(SM 124,.obj l)])=o at C⊢;clear k;have k:=C.2 (a,_) (.tail _ (.tail _ (.tail _ (.head _))));simp only at k
 try walk_at "w"
 refine fC λY hr=>?_;have t:=C.Zy hr (.inst 936 []);refine N1 (D:=D) (m:=U) (w:=VA) t.Zw (t.2 (l,_) (.tail _ (.head _))) ?_;rw[St.Zz];have s:=C.Zy hr (.inst 936 [(SM 124,.obj l),(SM 103,.obj VA)]);generalize o.Zv Y (.inst 936 [(SM 124,.obj l),(SM 103,.obj VA)])=q at s⊢;clear k t;have k:=s.2 (a,_) (.tail _ (.tail _ (.tail _ (.tail _ (.head _)))));simp only at k
 try walk_at "w"
 have J:=Hp.Zx (d:=[_,_,_,_]) s (.inst 1079 [(SM 150,.obj W),(SM 103,.obj VA),(SM 116,c),(SM 51,.int 99),(SM 120,.obj U),(SM 124,.obj l),(SM 151,.obj Y)]);generalize q.Zv a (.inst 1079 [(SM 150,.obj W),(SM 103,.obj VA),(SM 116,c),(SM 51,.int 99),(SM 120,.obj U),(SM 124,.obj l),(SM 151,.obj Y)])=Vv at J⊢;clear k;have k:=J.2 (a,_) (.tail _ (.tail _ (.tail _ (.tail _ (.head _)))));simp only at k
 try walk_at "w"
 refine fC λP hg=>?_;have x:=J.Zy hg (.inst 761 []);refine N5 (D:=D) (m:=U) (w:=VA) x.Zw (x.2 (l,_) (.tail _ (.tail _ (.head _)))) ?_;rw[St.Zz];have y:=J.Zy hg (.inst 761 [(SM 124,.obj l),(SM 103,.obj VA)]);generalize Vv.Zv P (.inst 761 [(SM 124,.obj l),(SM 103,.obj VA)])=Vw at y⊢;clear k x;have k:=y.2 (a,_) (.tail _ (.tail _ (.tail _ (.tail _ (.tail _ (.head _))))));simp only at k
 try walk_at "w"
 have I:=Hp.Zx (d:=[_,_,_,_,_]) y (.inst 1079 [(SM 150,.obj W),(SM 103,.obj VA),(SM 116,c),(SM 51,.int 99),(SM 120,.obj U),(SM 124,.obj l),(SM 151,.obj Y),(SM 52,.obj P)]);generalize Vw.Zv a (.inst 1079 [(SM 150,.obj W),(SM 103,.obj VA),(SM 116,c),(SM 51,.int 99),(SM 120,.obj U),(SM 124,.obj l),(SM 151,.obj Y),(SM 52,.obj P)])=Vx at I⊢;clear k;refine bz λg hl=>?_;have S:=I.Zy hl (.sdict [])
 try simp only[List.zip_nil_left]
 generalize Vx.Zv g (.sdict [])=z at S⊢;have k:=S.2 (a,_) (.tail _ (.tail _ (.tail _ (.tail _ (.tail _ (.tail _ (.head _)))))));simp only at k
 try walk_at "w"
 have d:=Hp.Zx (d:=[_,_,_,_,_,_]) S (.inst 1079 [(SM 150,.obj W),(SM 103,.obj VA),(SM 116,c),(SM 51,.int 99),(SM 120,.obj U),(SM 124,.obj l),(SM 151,.obj Y),(SM 52,.obj P),(SM 55,.obj g)])
 with_reducible_and_instances conv=>whnf
 generalize z.Zv a (.inst 1079 [(SM 150,.obj W),(SM 103,.obj VA),(SM 116,c),(SM 51,.int 99),(SM 120,.obj U),(SM 124,.obj l),(SM 151,.obj Y),(SM 52,.obj P),(SM 55,.obj g)])=N at d⊢;clear k;refine bz λv hf=>?_;have B:=d.Zy hf (.list []);generalize N.Zv v (.list [])=f at B⊢;have k:=B.2 (a,_) (.tail _ (.tail _ (.tail _ (.tail _ (.tail _ (.tail _ (.tail _ (.head _))))))));simp only at k
 try walk_at "w"
 have L:=Hp.Zx (d:=[_,_,_,_,_,_,_]) B (.inst 1079 [(SM 150,.obj W),(SM 103,.obj VA),(SM 116,c),(SM 51,.int 99),(SM 120,.obj U),(SM 124,.obj l),(SM 151,.obj Y),(SM 52,.obj P),(SM 55,.obj g),(SM 115,.obj v)])
 with_reducible_and_instances conv=>whnf
 generalize f.Zv a (.inst 1079 [(SM 150,.obj W),(SM 103,.obj VA),(SM 116,c),(SM 51,.int 99),(SM 120,.obj U),(SM 124,.obj l),(SM 151,.obj Y),(SM 52,.obj P),(SM 55,.obj g),(SM 115,.obj v)])=i at L⊢;clear k;refine bz λj Vy=>?_;have b:=L.Zy Vy (.list []);generalize i.Zv j (.list [])=Vz at b⊢;have k:=b.2 (a,_) (.tail _ (.tail _ (.tail _ (.tail _ (.tail _ (.tail _ (.tail _ (.tail _ (.head _)))))))));simp only at k
 try walk_at "w"
 with_reducible_and_instances conv=>whnf
 rw[St.Zz];exact h _ U R l Y P g v j (Hp.Zx (d:=[_,_,_,_,_,_,_,_]) b _)
theorem EF{o W:ag}{w c q r s u v x a E:V}{l O:V}(b:Z o=aa (.inst 1079 [(SM 150,.obj W),(SM 103,w),(SM 116,c),(SM 51,q),(SM 120,r),(SM 124,s),(SM 151,u),(SM 52,v),(SM 55,x),(SM 115,a),(SM 125,E),(SM 148,.none)]))
  (t:Z W=aa (.sdict [(SM 9,l),(SM 10,O)]))(U:Q l Z):D (n+1) 1008 [.obj o,.str (SM 9)] Z Q X:=by
 refine yr ?_;unfold pq;walk_at "w"
theorem EE{o W:ag}{w c q r s u v x a E:V}{l O:V}(b:Z o=aa (.inst 1079 [(SM 150,.obj W),(SM 103,w),(SM 116,c),(SM 51,q),(SM 120,r),(SM 124,s),(SM 151,u),(SM 52,v),(SM 55,x),(SM 115,a),(SM 125,E),(SM 148,.none)]))
  (t:Z W=aa (.sdict [(SM 9,l),(SM 10,O)]))(U:Q O Z):D (n+1) 1008 [.obj o,.str (SM 10)] Z Q X:=by
 refine yr ?_;unfold pq;walk_at "w"
theorem NR{o W:ag}{w c q r s u v x a E:V}{l O:V}(b:Z o=aa (.inst 1079 [(SM 150,.obj W),(SM 103,w),(SM 116,c),(SM 51,q),(SM 120,r),(SM 124,s),(SM 151,u),(SM 52,v),(SM 55,x),(SM 115,a),(SM 125,E),(SM 148,.none)]))
  (t:Z W=aa (.sdict [(SM 9,l),(SM 10,O)]))(d:X (SM 146) Z):D (n+1) 1008 [.obj o,.str (SM 11)] Z Q X:=by
 refine yr ?_;unfold pq;walk_at "w"
theorem j5(h:Q bO Z):D (n+1) 1205 [] Z Q X:=by
 refine L5 ?_;unfold xR;walk_at "w"
theorem yC(h:Q dD Z):D (n+1) 1212 [] Z Q X:=by
 refine L4 ?_;unfold xX;walk_at "w"
end
theorem AP{O:Type}:∀{W:List O} {U:Nat} {Z:O},W[U]? =aa Z→(Z::W.eraseIdx U).Perm W
 |x::W,0,Z,h=>by simp at h;subst h;exact Gw _
 |x::W,U+1,Z,h=>by
  have:=AP (W:=W) (U:=U) (Z:=Z) (by simpa using h);exact(List.Perm.swap x Z _).trans (this.cons x)
noncomputable def qY{O:Type}:List Nat→List O→List O
 | [],l=>l
 |i::K,l=>match l[i]?with|aa a=>a::qY K (l.eraseIdx i)|ah=>l
theorem AR{O:Type}:∀(K:List Nat) (l:List O),(qY K l).Perm l
 | [],l=>Gw l
 |i::K,l=>by
  unfold qY;cases h:l[i]?with
  |none=>exact Gw l
  |some a=>
   exact((AR K (l.eraseIdx i)).cons a).trans (AP h)
theorem Hp.ZF{Z:St}{e:List (ag×O)}(h:Hp Z e)(K:List Nat):Hp Z (qY K e):=h.Zz (AR K e).symm
theorem aU.ZL{Z:St}{A:cw}{f:Ow}{W:List V}{F:List (ag×O)}{N:Nat}(h:aU Z A f W F N)(y:List V):aU (Z.Zv A.frms (.list y)) {A with frl:=y} f W F N:=by
 revert Z A f W F N y;apply ch;generalize e5 _=Z,e4 _=A,e3 _=f,e2 _=W,e1 _=F,e0 _=N;intro h;apply aP;generalize e0 _=y;refine aE (h) λm h=>?_;refine⟨m,{h with hp:=?_}⟩
 have:=h.hp
 have e:∀y,m.Zv {A with frl:=y} W F=((A.mem,bL A.al m.many)::(A.al,.list (m.als.map λa=>.obj a.ao))::(A.hm,.idict m.h)::(A.pr,.list W)::(m.als.flatMap Al.Zv++(A.Zv.take 8)))++(A.frms,.list y)::F:=λy=>by
  unfold Mc.Zv cw.Zv;simp[iA]
 have R:=e A.frl;rw[show({A with frl:=A.frl}:cw)=A from rfl]at R;rw[R]at this;rw[e];exact this.Zx _
section
variable{D:Nat→CS} [Cl TT cy D]{n:Nat}{Z:St}{Q:QV}{X:QX}
noncomputable abbrev m0(c h:V):O:=.inst 1144 [(SM 60,.str (SM 9)),(SM 182,.int 2),(SM 119,lz mD),(SM 110,c),(SM 96,h)]
noncomputable abbrev mZ(h:V):O:=.inst 1144 [(SM 60,.str (SM 10)),(SM 182,.int 2),(SM 119,lz [bO,bO,tB]),(SM 110,.lst [.lst [.lst [],.tup [.str (SM 126)]]]),(SM 96,h)]
noncomputable abbrev mY:V:=.lst [.lst [.lst [.tup [.str (SM 56),.int 4],.tup [.str (SM 56),.int 5]],.tup [.str (SM 126)]]]
theorem Nu{o W U a w O l Y P g v j:ag}{num:Int}{z:Bool}{c h:V}(x:0≤num)(R:num≤255)(b:Z o=aa (jq W w (.lst [.int num,.bool z]) O l Y P g v j))
  (t:Z W=aa (.sdict [(SM 9,.obj U),(SM 10,.obj a)]))(i:Z U=aa (m0 c h))(E:∀M,Z.Zy M→Q (.lst [.lst [.int num],.lst [.bool z]]) M):D (n+6) 1001 [.obj o,.str (SM 9)] Z Q X:=by
 revert D n Z Q X o W U a w O l Y P g v j num z c h;apply aP;generalize e0 _=D;intro T;apply aX;generalize aT _=n,aL _=Z,e9 _=Q,e8 _=X,e7 _=o,e6 _=W,e5 _=U,e4 _=a,e3 _=w,e2 _=O,e1 _=l,e0 _=Y;apply jy;generalize e7 _=P,e6 _=g,e5 _=v,e4 _=j,e3 _=num,e2 _=z,e1 _=c,e0 _=h;intro x R b t i E;unfold jq at b;refine Mi ?_;unfold xN;walk_at "w";refine EF (D:=D) b t ?_;walk_at "w";refine Nr (D:=D) x R λI S=>?_;have r:=S _ _ b;have s:=S _ _ i;walk_at "w";refine Nt (D:=D) λK J=>?_;have B:=J _ _ r;have p:=J _ _ s;walk_at "w";refine NL (D:=D) λk m=>?_;have L:=m _ _ B;walk_at "w";refine NN (D:=D) λf G=>?_;have q:=E f (((S.Zx J).Zx m).Zx G);walk_at "w"
theorem M0{O:ag}{h:V}(i:Z O=aa (m0 mY h))(E:∀d,Z d=ah→Q (.obj d) (Z.Zv d (.idict [(4,.bool ae),(5,.bool ae)]))):D (n+1) 975 [.obj O] Z Q X:=by
 refine Dr ?_;walk_at "w";refine bz λd S=>?_;have P:O≠d:=bx i S;walk_at "w"
 with_reducible_and_instances conv=>whnf
 rw[St.Zz];rw[St.Zz];exact E d S
theorem MZ{O:ag}{h:V}(i:Z O=aa (mZ h))(E:∀d,Z d=ah→Q (.obj d) (Z.Zv d (.idict []))):D (n+1) 975 [.obj O] Z Q X:=by
 refine Dr ?_;walk_at "w";refine bz λd S=>?_;have P:O≠d:=bx i S;walk_at "w";exact E d S
theorem Hp.ix{Z:St}{e:List (ag×O)}(h:Hp Z e)(i:Nat){p:ag×O}(t:e[i]? =aa p):Z p.1=aa p.2:=h.2 p (kR t)
noncomputable def j3:Ow:=Ow.Zv (Ow.Zv (Ow.Zv (Ow.Zv (λ_=>ah) 0 (aa (bA (gF 0) ah))) 1 (aa (bA (gF 1) ah))) 2 (aa (bA (gF 2) ah))) 3 (aa (bA (gF 3) ah))
noncomputable def f0(num:Int)(z:Bool):Ow:=Ow.Zv (Ow.Zv j3 1 (aa [aa (.int num)])) 2 (aa [aa (.bool z)])
noncomputable abbrev jr:O:=.idict [(4,.bool ae),(5,.bool ae)]
set_option maxHeartbeats 400000 in
theorem NG{o U J a VO W C l t P g v T:ag}{wo:O}{num:Int}{Y:Bool}{E L:V}{e:List (ag×O)}(h0:0≤num)(h1:num≤255)
  (H:Hp Z ((T,.list [])::(v,.list [])::(g,.sdict [])::(P,.inst 761 [(SM 124,.obj l),(SM 103,.obj VO)])::(t,.inst 936 [(SM 124,.obj l),(SM 103,.obj VO)])::(l,.inst 868 [(SM 120,.obj W),(SM 103,.obj VO)])::(C,.list [])::(W,bL C 0)::(o,jq U VO (.lst [.int num,.bool Y]) W l t P g v T)::(VO,wo)::(U,.sdict [(SM 9,.obj J),(SM 10,.obj a)])::(a,mZ L)::(J,m0 mY E)::e))
  (q:∀M VS g1 g2,VS.mach=o→VS.frl=[.obj VS.frame]→aU M VS (f0 num Y) [] ((VS.lat1,jr)::g1::g2::e) 4→Q .none M):
  D (n+8) 1015 [.obj o,.str (SM 9),.lst [.lst [.int num],.lst [.bool Y]],.none,.none] Z Q X:=by
 revert D n Z Q X o U J a VO W C l t P g v T wo num Y E L e;apply aP;generalize e0 _=D;intro iC;apply aX;generalize aT _=n,aL _=Z,e9 _=Q,e8 _=X,e7 _=o,e6 _=U,e5 _=J,e4 _=a,e3 _=VO,e2 _=W,e1 _=C,e0 _=l;apply et;generalize aL _=t,e9 _=P,e8 _=g,e7 _=v,e6 _=T,e5 _=wo,e4 _=num,e3 _=Y,e2 _=E,e1 _=L,e0 _=e;intro h0 h1 H q;have VD:=H.ix 8 rfl;have VE:=H.ix 10 rfl;simp only[jq]at VD VE;refine sq ?_;unfold mR;walk_at "w";refine EF (D:=D) VD VE ?_;walk_at "w";refine fC λG Vv=>?_;have H1:=H.Zy Vv (.inst 964 []);refine yJ (D:=D) H1.Zw λK Vw Vx u Vy=>?_;have m:=H1.ZE (H1.ZA u) rfl Vx Vy;clear H1 VD VE;have a1:=m.ix 1 rfl;have a2:K J=aa (m0 mY E):=m.ix 14 rfl;have a3:=m.ix 10 rfl;have y:=m.ix 4 rfl;simp only[jq]at a1 a3 y;walk_at "w";refine M0 (D:=D) a2 λd r=>?_;have H3:=m.Zy r jr;have n1:o≠d:=bx a3 r;have n2:g≠d:=bx y r;have n3:G≠d:=bx a1 r;have n4:J≠d:=bx a2 r;have m1:o≠g:=dq a3 y (by simp);have m2:G≠g:=dq a1 y (by simp);have m3:J≠g:=dq a2 y (by simp);have H4:=Hp.Zx (d:=[_,_,_,_,_]) H3 (.sdict [(SM 9,.obj d)]);have H5:=H4.ZF [10,9,1,2,6,5,1,8,7,6,4,2,1]
 let z:cw:={mem:=W,al:=C,hm:=Vw,pr:=T,plc:=l,rv:=t,frame:=G,bd:=J,mach:=o,w:=VO,prog:=U,bdg:=a,late:=g,lat1:=d,frms:=v,glu:=.obj P,inp:=.lst [.int num,.bool Y],blk:=mY,sp:=E,sp2:=L,frl:=[]}
 let R:List (ag×O):=(d,jr)::(P,.inst 761 [(SM 124,.obj l),(SM 103,.obj VO)])::(VO,wo)::e
 have b:aU ((K.Zv d (.idict [(4,.bool ae),(5,.bool ae)])).Zv g (.sdict [(SM 9,.obj d)])) z (λS=>ah) [] R 0:=⟨⟨0,[],[]⟩,{
  hp:=H5
  hn:=zL
  hk:=λS=>rfl
  at_:=λS S h=>aG h
  inj:=λS S S h S=>by cases h
  ty:=λS S h=>by cases h
  cnt:=rfl
  many:=by decide
  len:=f8 _}⟩
 have F:∀{Z f N},aU Z z f [] R N→Z o=aa (jq U VO (.lst [.int num,.bool Y]) W l t P g v T):=λI=>I.Zv;have x:∀{Z f N},aU Z z f [] R N→Z g=aa (.sdict [(SM 9,.obj d)]):=λI=>I.ZC;have fd:∀{Z f N},aU Z z f [] R N→Z d=aa jr:=λI=>I.Zy (p:=(d,jr)) (.head _);have fp:∀{Z f N},aU Z z f [] R N→Z l=aa (.inst 868 [(SM 120,.obj W),(SM 103,.obj VO)]):=λI=>I.Zw;have ff:∀{Z f N},aU Z z f [] R N→Z v=aa (.list []):=λI=>I.ZB;have mk:∀{Z f N Q} (k:Int),N<900→(k=0∨hM k)→aU Z z f [] R N→(∀M,aU M z (f.Zv k (aa (bA (gF k) ah))) [] R (N+1)→Q .none M)→D (n+7) 1022 [.obj o,.obj G,.int k] Z Q X:=λk hN VH h q=>Ep (D:=D) hN VH h q;have fb:∀{Z f N},aU Z z f [] R N→Z J=aa (m0 mY E):=λI=>I.bd;have VI:∀{Z f N},aU Z z f [] R N→Z G=aa (.inst 964 [(SM 43,.obj J),(SM 130,.none),(SM 73,.none),(SM 84,.obj Vw),(SM 76,.int 0),(SM 86,.int 0),(SM 53,.lst [])]):=λI=>I.Zx;simp only[jq]at F;clear H m H3 H4 H5 u Vy Vx Vv r;walk_at "w";generalize(K.Zv d (.idict [(4,.bool ae),(5,.bool ae)])).Zv g (.sdict [(SM 9,.obj d)])=VJ at b⊢;clear a1 a2 a3 y;have q0:dJ (0:Int) [(4,V.bool ae),(5,V.bool ae)]=ah:=rfl;have q1:dJ (1:Int) [(4,V.bool ae),(5,V.bool ae)]=ah:=rfl;have q2:dJ (2:Int) [(4,V.bool ae),(5,V.bool ae)]=ah:=rfl;have q3:dJ (3:Int) [(4,V.bool ae),(5,V.bool ae)]=ah:=rfl;have q4:dJ (4:Int) [(4,V.bool ae),(5,V.bool ae)]=aa (.bool ae):=rfl;have q5:dJ (5:Int) [(4,V.bool ae),(5,V.bool ae)]=aa (.bool ae):=rfl;have b1:=F b;have b2:=x b;have b3:=fd b;walk_at "w";refine mk 0 (by decide) (.inl rfl) b λVK I1=>?_;have c1:=F I1;have c2:=x I1;have c3:=fd I1;walk_at "w";refine mk 1 (by decide) (.inr (.inl rfl)) I1 λVL I2=>?_;have d1:=F I2;have d2:=x I2;have d3:=fd I2;walk_at "w";refine mk 2 (by decide) (.inr (.inr (.inl rfl))) I2 λVM I3=>?_;have VP:=F I3;have VF:=x I3;have VQ:=fd I3;walk_at "w";refine mk 3 (by decide) (.inr (.inr (.inr (.inl rfl)))) I3 λVz I4=>?_;obtain⟨m4,M4⟩:=id I4;have g1:=F I4;have g2:=x I4;have g3:=fd I4;have g4:=fp I4;have g5:Vz W=aa (bL C m4.many):=M4.Zx;change cF Vz z m4 j3 [] R 4 at M4;walk_at "w";have VA:j3 1=aa [ah]:=by simp[j3,Ow.Zv,gF]
 obtain⟨i,B,e, -⟩:=M4.lv (by decide) VA;refine lO (D:=D) (A:=z) M4 e ?_;walk_at "w";refine mW (D:=D) (s:=.num) (p:=⟨1,ah⟩) (c:=[aa (.int num)]) (by decide) (.inl rfl) M4 VA e ⟨_,rfl,.inr ⟨num,rfl,h0,h1⟩⟩ λVG I5=>?_;obtain⟨m5,M5⟩:=id I5;have p1:=F I5;have p4:=fp I5;have p5:VG W=aa (bL C m5.many):=M5.Zx;walk_at "w";have VB:(Ow.Zv j3 1 (aa [aa (.int num)])) 2=aa [ah]:=by simp[j3,Ow.Zv,gF]
 obtain⟨j,B2,VF, -⟩:=M5.lv (by decide) VB;refine lO (D:=D) (A:=z) M5 VF ?_;walk_at "w";refine mW (D:=D) (s:=.tru) (p:=⟨2,ah⟩) (c:=[aa (.bool Y)]) (by decide) (.inl rfl) M5 VB VF ⟨_,rfl,.inr ⟨Y,rfl⟩⟩ λVC I6=>?_;have r1:=F I6;have r2:=ff I6;have VN:Q .none (VC.Zv v (.list [.obj G])):=q _ _ _ _ rfl rfl (I6.ZL [.obj G]);clear q;walk_at "w"
end
section
variable{D:Nat→CS} [Cl TT cy D]{n:Nat}{Z:St}{Q:QV}{X:QX}
theorem Nl{num:Int}{z:Bool}{e:List (ag×O)}(x:0≤num)(R:num≤255)(H:Hp Z e)
  (E:∀M A U C,A.frl=[.obj A.frame]→aU M A (f0 num z) [] ((A.lat1,jr)::U::C::e) 4→Q (.obj A.mach) M):
  D (n+9) 1217 [.int num,.bool z] Z Q X:=by
 revert D n Z Q X num z e;apply aP;generalize e0 _=D;intro iC;apply dQ;generalize e6 _=n,e5 _=Z,e4 _=Q,e3 _=X,e2 _=num,e1 _=z,e0 _=e;intro x R H E;refine LZ ?_;walk_at "w";refine j5 (D:=D) ?_;walk_at "w";refine yC (D:=D) ?_;walk_at "w";refine j5 (D:=D) ?_;walk_at "w";refine yC (D:=D) ?_;walk_at "w";refine fC λJ Y=>?_;have i:=H.Zy Y (.inst 1144 []);refine EJ (D:=D) (by decide) rfl i.Zw λl h u=>?_;have p:=i.ZA u;clear i u;walk_at "w";refine j5 (D:=D) ?_;walk_at "w";refine j5 (D:=D) ?_;walk_at "w";refine fC λa y=>?_;have r:=p.Zy y (.inst 1144 []);refine EJ (D:=D) (by decide) rfl r.Zw λK k u=>?_;have N:=r.ZA u;clear r u;walk_at "w";refine bz λW t=>?_;have S:=N.Zy t (.sdict [(SM 9,.obj J),(SM 10,.obj a)]);walk_at "w";generalize K.Zv W (.sdict [(SM 9,.obj J),(SM 10,.obj a)])=Vv at S⊢;refine fC λw L=>?_;have B:=S.Zy L (.inst 1173 []);refine NY (D:=D) B.Zw λVw wo u=>?_;have F:=B.ZA u;clear B u;walk_at "w";refine fC λo b=>?_;have j:=F.Zy b (.inst 1079 []);refine N4 (D:=D) j λV Vx al Vy rv Vz g v pr s=>?_;have d:=s.ix 8 rfl;have c:=s.ix 10 rfl;have P:V J=aa (m0 mY h):=s.ix 12 rfl;simp only[jq]at d c;walk_at "w";refine Nu (D:=D) x R (s.ix 8 rfl) c P λVA T=>?_;walk_at "w";refine NG (D:=D) x R (s.ZB T) λG A U C m f I=>?_;have q:=E G A U C f I;rw[m]at q;walk_at "w"
end
theorem aU.ZM{U M:St}{A:cw}{f:Ow}{J:List V}{W:List (ag×O)}{N:Nat}{a b:ag}{o H p i:O}(h:aU U A f J ((b,p)::(a,o)::W) N)(u:m9 U M a H b i):aU M A f J ((b,i)::(a,H)::W) N:=by
 have R:=aU.ZD (W:=[(b,p)]) (U:=W) h H;have Y:=aU.ZD (W:=[]) (U:=(a,H)::W) R i;refine Y.ZA λc q e=>?_;by_cases s:c=b
 ·cases s;rw[St.Zx]at e;refine oE e ?_;exact u.at2
 ·rw[St.Zw _ _ s]at e
  by_cases Z:c=a
  ·cases Z;rw[St.Zx]at e;refine oE e ?_;exact u.at1
  ·rw[St.Zw _ _ Z]at e;exact u.keep c q Z s e
def jU(v:V):Prop:=Cv v∨∃(i:Int) (b:Bool),v=.tup [.int i,.bool b]
theorem Iu(Z:St){v:V}(h:jU v):∃d,bP Z 7 v=aa d∧aZ d d=ae:=by
 revert Z v;apply bF;generalize e1 _=Z,e0 _=v;intro h;rcases h with(⟨i,rfl⟩|⟨b,rfl⟩)|⟨i,b,rfl⟩
 ·exact⟨_,rfl,by simp⟩
 ·exact⟨_,rfl,by simp⟩
 ·exact⟨_,rfl,by rw[Dm];simp⟩
theorem DO(Z:St):∀{O:List V},(∀v∈O,jU v)→∃c,fk (bP Z 7) O=aa c∧fY c c=ae
 | [],_=>⟨[],rfl,yh⟩
 |v::r,h=>by
  refine aB (Iu Z (h v (.head _))) λd R H=>?_;refine aB (DO Z (O:=r) λv g=>h v (.tail _ g)) λc j z=>?_;exact⟨d::c,by rw[sx,R,j,yw],by rw[sg];rw[H];rw[z];rfl⟩
theorem K2{Z:St}{a b:ag}{O:List V}(k:Z a=aa (.list O))(i:Z b=aa (.list O))(h:∀v∈O,jU v):iP Z (.obj a) (.obj b)=aa ae:=by
 refine aB (DO Z h) λc R H=>?_;rw[pA,pJ,pJ,k,i,DS,R,rt,sh,yg,H]
theorem yf(s:ak):aZ (.str s) (.str s)=ae:=by unfold aZ;exact beq_self_eq_true _
theorem Mn{f g:Ow}{O y:List V}{W:fq}{o:Option Nat}(B:W.ok)(P:∀k r,f k=aa r→b9 k r)(h:∀v∈O,jU v)(e:fR f O W=(o,g,y)):(∀v∈y,jU v)∧y.length≤O.length+1:=by
 revert f g O y W o;apply ch;generalize e5 _=f,e4 _=g,e3 _=O,e2 _=y,e1 _=W,e0 _=o;intro B P h e;have a:y=O→(∀v∈y,jU v)∧y.length≤O.length+1:=λq=>by refine qF q ?_;exact⟨h,by exact jL _ _⟩
 cases W with
 |nop=>cases e;exact a rfl
 |live k=>cases e;exact a rfl
 |dead k=>cases e;exact a rfl
 |asg s p Y=>
  simp only[fR]at e;cases R:cX f Y with
  |inl x=>rw[R]at e;cases e;exact a rfl
  |inr x=>
   obtain⟨c,C⟩:=x;replace e:=R▸e;simp only at e;cases H:C p.k with
   |none=>rw[H]at e;cases e;exact a rfl
   |some r=>rw[H]at e;cases e;exact a rfl
 |prt s T=>
  simp only[fR]at e;cases R:bN f T with
  |inl x=>rw[R]at e;cases e;exact a rfl
  |inr x=>
   obtain⟨c,C⟩:=x;replace e:=R▸e;cases e;have L:=fN B P R
   have Z:jU (jP s c):=by
    cases s with
    |num=>refine bH (L) λi N N l=>?_;refine qF l ?_;exact .inl (.inl ⟨i,rfl⟩)
    |tru=>obtain⟨i,rfl⟩:=L;exact .inl (.inr ⟨i,rfl⟩)
    |par=>refine dj (L) λi b N N m=>?_;refine qF m ?_;exact .inr ⟨i,b,rfl⟩
   refine⟨λv j=>?_,by simp⟩;rcases je.mp j with q|q
   ·exact h v q
   ·cases jd.mp q;exact Z
noncomputable abbrev l0(num:Int)(z:Bool):List (Int×V):=[(0,.lst []),(1,.lst [.int num]),(2,.lst [.bool z]),(3,.lst [.none,.none])]
theorem OH{num:Int}{z:Bool}(x:0≤num)(O:num≤255):LR (l0 num z) (f0 num z) 4 where
 lk:=λk=>by
  by_cases R:k=0
  ·refine qF R ?_;rfl
  by_cases d:k=1
  ·refine qF d ?_;rfl
  by_cases L:k=2
  ·refine qF L ?_;rfl
  by_cases U:k=3
  ·refine qF U ?_;rfl
  have a:(k==0)=aj:=beq_eq_false_iff_ne.mpr R;have l:(k==1)=aj:=beq_eq_false_iff_ne.mpr d;have W:(k==2)=aj:=beq_eq_false_iff_ne.mpr L;have A:(k==3)=aj:=beq_eq_false_iff_ne.mpr U;simp[f0,j3,Ow.Zv,dJ,R,d,L,U,a,l,W,A]
 nd:=by simp
 len:=by exact f8 _
 ty:=λk r h=>by
  unfold f0 j3 Ow.Zv at h;split at h
  ·rename_i c;refine oE h ?_;refine qF c ?_;exact .inr (.inr (.inl ⟨rfl,_,rfl,.inr ⟨z,rfl⟩⟩))
  split at h
  ·rename_i c;refine oE h ?_;refine qF c ?_;exact .inr (.inl ⟨by decide,_,rfl,.inr ⟨num,rfl,x,O⟩⟩)
  split at h
  ·rename_i c;refine oE h ?_;refine qF c ?_;exact(n6 (.inr (.inr (.inr (.inl rfl))))).1
  split at h
  ·rename_i c;refine oE h ?_;refine qF c ?_;exact(n6 (.inl rfl)).1
  ·exact aG h
theorem zc{b:SW}{D:List Nat}{s:bV}{R:QF}(P:Nat→Fr→St→Prop)(T:∀j G Z,P j G Z→dk s Z):∀{l:List V} {m:Nat},
  (∀v∈l,∀j G Z (K:QF),j<m+l.length→P j G Z→(∀G Z,P (j+1) G Z→K .next G Z)→j9 D v G λG=>b G K Z)→(∀G Z,P (m+l.length) G Z→R .next G Z)→∀{G Z},P m G Z→ia b D s l G R Z
 | [],_,_,i,G,Z,p=>qP (T _ _ _ p) (i _ _ p)
 |v::l,m,a,i,G,Z,p=>qP (T _ _ _ p) (a v (.head _) m G Z (nv (ia b D s l) R) (by simp) p λG Z p=>
   zc P T (m:=m+1) (λv g j G Z K J=>a v (.tail _ g) j G Z K (by simp;lia)) (λG Z p=>i G Z (by rw[l6];rw[show m+(l.length+1)=m+1+l.length by lia];exact p)) p)
section
variable{D:Nat→CS} [Cl TT cy D]{n:Nat}{Z:St}{Q:QV}{X:QX}
theorem sH{num:Int}{z:Bool}{a:V}{u:bV}{M:List fq}{e:List (ag×O)}(h0:0≤num)(h1:num≤255)(H:Hp Z e)(ht:(1271,O.tab (SM 242))∈e)
  (Y:∀R,(∀p∈e,R p.1=aa p.2)→iM R a=aa (M.map fq.v,u)∧dk u R)(ok:∀s∈M,s.ok)(Vx:M.length≤100)
  (hQ:∀R A f l U W S g1 E G,A.frl=[.obj A.frame]→aU R A f U ((S,.list U)::(W,.idict l)::g1::E::G::e) 200→LR l f 200→Q (.tup [.obj A.mach,.obj W]) R):
  D (n+20) 1276 [.int num,.bool z,a] Z Q X:=by
 revert D n Z Q X num z a u M e;apply aP;generalize e0 _=D;intro iC;apply fD;generalize e9 _=n,e8 _=Z,e7 _=Q,e6 _=X,e5 _=num,e4 _=z,e3 _=a,e2 _=u,e1 _=M,e0 _=e;intro h0 h1 H ht Y ok Vx hQ;refine LO ?_;walk_at "w";refine Nl (D:=D) h0 h1 H λVK A E G r I=>?_;walk_at "w";refine bz λW C=>?_;have T:=I.ZH C (.idict (l0 num z));walk_at "w";refine bz λS i=>?_;have d:=T.ZH i (.list []);have L3:=OH (z:=z) h0 h1;have a1:=d.Zv;have a2:=d.ZB;refine bu (Y _ λp hp=>d.Zy (dZ _ (dZ _ (dZ _ (dZ _ (dZ _ hp)))))) λs1 s2=>?_;have s3:M.length≤1000:=by exact aW ‹_› (by decide)
 simp only[l0]at d a1 a2 s1 s2;clear C i;walk_at "w";refine Kf s1 ?_;walk_at "w";have J:∀{B f l U N},aU B A f U ((S,.list U)::(W,.idict l)::(A.lat1,jr)::E::G::e) N→∀p∈e,B p.1=aa p.2:=λI p hp=>I.Zy (dZ _ (dZ _ (dZ _ (dZ _ (dZ _ hp)))));clear a1 a2 s1 s2 s3 T I
 refine zc (m:=0) (P:=λj fr B=>∃F,fr=⟨D,n+19,X,F⟩∧(∃f l U,aU B A f U ((S,.list U)::(W,.idict l)::(A.lat1,jr)::E::G::e) (4+j)∧LR l f (4+j)∧(∀v∈U,jU v)∧U.length≤j)∧
  F.lookup 113=aa (.obj A.mach)∧F.lookup 61=aa (.obj A.frame)∧F.lookup 13=aa (.obj W)∧F.lookup 101=aa (.obj S)) ?_ ?_ ?_ ⟨_,rfl,⟨_,_,_,d,L3,nofun,f8 _⟩,rfl,rfl,rfl,rfl⟩
 ·intro j fr B Vy;refine bH (Vy) λF VF Vz VG=>?_;refine nV (Vz) λf l U I VH=>?_
  exact(Y B (J I)).2
 ·intro v hv j fr B K hj VA hK;obtain⟨F,rfl,⟨f,l,U,I,L,b,x⟩,VB⟩:=VA;refine qz VB λp1 p2 p3 p4=>?_
  obtain⟨st,VD,rfl⟩:=cR.mp hv;have t:=ok st VD;rw[bT]at hj;have hP:B 1271=aa (.tab (SM 242)):=J I _ ht;have ho:B W=aa (.idict l):=I.Zy (p:=(W,_)) (.tail _ (.head _));have hz:B S=aa (.list U):=I.Zy (p:=(S,_)) (.head _);have b1:=I.Zv;have I0:=I;have L0:=L;obtain⟨o,g,y,hd⟩:∃o g y,fR f U st=(o,g,y):=⟨_,_,_,rfl⟩;obtain⟨VC,VI⟩:=Mn t I.ty b hd;clear d L3 Y J hv;have VJ:=oo (I:=[61,113,135]) rfl p1;have r2:=oo (I:=[61,113,135]) rfl p2;walk_at "w";clear VJ r2;clear b1 ho hz I L
  have Vv:∀h,aU h A g y ((S,.list U)::(W,.idict l)::(A.lat1,jr)::E::G::e) (4+j+1)→Fk (nZ TT (.var 62)) (ax 135 st.v ⟨D,n+19,X,F⟩)
    (nt (aM TT (.cons (.ife (.or (.cmp .ne (.var 62) (.call (SM 177) 1264 (.cons (.var 13) (.cons (.var 101) (.cons (.var 135) .nil))))) (.not (.call (SM 213) 1269 (.cons (.var 113) (.cons (.var 61) (.cons (.var 13) .nil)))))) (.cons .skip .nil) .nil) .nil)) K) (gH o) h:=by
   intro h k;have c1:h W=aa (.idict l):=k.Zy (p:=(W,_)) (.tail _ (.head _));have c2:h S=aa (.list U):=k.Zy (p:=(S,_)) (.head _);walk_at "w";refine No (D:=D) (by lia) (by lia) t c1 c2 L0 hd λVE l2 L2 u2=>?_;have T:=aU.ZM k u2;have done:∀w,K .next (ax 62 w (ax 135 st.v ⟨D,n+19,X,F⟩)) VE:=λw=>hK _ _ ⟨_,rfl,⟨g,l2,y,by rw[←qv];exact T,by rw[←qv];exact L2,VC,by lia⟩,p1,p2,p3,p4⟩;have Vw:=λQ q=>Ef (D:=D) (n:=n+16) (Q:=Q) (X:=X) (r1:=[(S,.list y)]) (by lia) T L2 q;clear hK u2 k T c1 c2;cases o with
   |none=>
    simp only[gH]at done⊢;walk_at "w";refine Vw _ ?_;walk_at "w";exact done _
   |some c=>
    have es:=yf (SM c);simp only[gH]at done⊢;walk_at "w";refine Vw _ ?_;walk_at "w";exact done _
  refine NI (D:=D) (by lia) (by lia) t I0 hd ?_ ?_
  ·intro c hc h k;subst hc;exact Vv h k
  ·intro hc h k;subst hc;exact Vv h k
 ·rintro fr B ⟨F,rfl,⟨f,l,U,I,L,b,x⟩,p1,p2,p3,p4⟩
  rw[bT]at I L x;have q:=hQ B A f l U W S _ _ _ r (I.ZG (by lia)) (L.Zv (by lia));have b1:=I.Zv;have b2:=I.ZB;rw[r]at b2;obtain⟨m,hm⟩:=id I;have b3:=K2 hm.pr (I.Zy (p:=(S,_)) (.head _)) b;have b4:jZ B (.obj A.frms) (.lst [.obj A.frame])=aa ae:=by unfold jZ;rw[vI,b2];exact if_pos rfl
  have b5:=I.Zx;rw[pA,pJ,pJ]at b3;simp only at b3;clear hQ Y d L3 I L b J;walk_at "w"
end
theorem zh.hp{S M:St}{Z Y:ag}{W:Int}{L:List V}{m:Nat}{a J:ag}{U:List ag}{E:List (ag×O)}(H:Hp S ((Z,bL Y W)::(Y,.list L)::E))(u:zh S M Z Y W L m a J U):
  Hp M ((Z,bL Y (W+m))::(Y,.list (L++[.obj a]))::(((a,dF J U)::(J,.list (bA m cz))::U.map λs=>(s,cT))++E)):=by
 revert S M Z Y W L m a J U E;apply et;generalize aL _=S,e9 _=M,e8 _=Z,e7 _=Y,e6 _=W,e5 _=L,e4 _=m,e3 _=a,e2 _=J,e1 _=U,e0 _=E;intro H u;have Q:=H.Zv.Zv;have R:=H.Zw;have N:=H.Zv.Zw;have D:=H.1;simp only[bX,dY,bf,not_or]at D;have g:∀p∈E,p.1≠Z∧p.1≠Y:=λp hp=>⟨λq=>D.1.2 (q▸cR.mpr ⟨p,hp,rfl⟩),λq=>D.2.1 (q▸cR.mpr ⟨p,hp,rfl⟩)⟩;have G:∀{p:ag×O},p∈(Z,bL Y W)::(Y,.list L)::E→∀x∈a::J::U,p.1≠x:=λhp x K=>bx (H.2 _ hp) (u.fr x K);have w:((a,dF J U)::(J,O.list (bA m cz))::U.map λs=>(s,cT)).map (·.1)=a::J::U:=by simp[kS,Gx]
 constructor
 ·simp only[bX,jM]
  have B:(U.map λs=>(s,cT)).map (·.1)=U:=by simp[kS,Gx]
  refine(bo B)▸ ?_
  have c:((a::J::U)++E.map (·.1)).Nodup:=by
   rw[nR];refine⟨u.nd,D.2.2,λx K y l=>?_⟩;refine aB (cR.mp l) λp hp b=>?_;refine qE b ?_;exact(G (.tail _ (.tail _ hp)) x K).symm
  have F:Z∉(a::J::U)++E.map (·.1):=λq=>by
   rcases je.mp q with q|q
   ·exact G (.head _) _ q rfl
   ·exact D.1.2 q
  have I:Y∉(a::J::U)++E.map (·.1):=λq=>by
   rcases je.mp q with q|q
   ·exact G (.tail _ (.head _)) _ q rfl
   ·exact D.2.1 q
  refine dY.mpr ⟨λq=>?_,dY.mpr ⟨I,c⟩⟩;rcases bf.mp q with q|q
  ·exact D.1.1 q
  ·exact F q
 ·intro p hp
  rcases bf.mp hp with rfl|hp
  ·exact u.mm
  rcases bf.mp hp with rfl|hp
  ·exact u.l
  rcases je.mp hp with hp|hp
  ·rcases bf.mp hp with rfl|hp
   ·exact u.o
   rcases bf.mp hp with rfl|hp
   ·exact u.c
   refine aB (cR.mp hp) λs T e=>?_;refine qE e ?_;exact u.s s T
  ·exact u.keep _ _ (g p hp).1 (g p hp).2 (Q.2 p hp)
theorem Lv.Zw{I:St}{Z J:ag}{W:Int}{L:List V}{i:Nat}{Y S:ag}{U:List ag}{B:List V}{F:List (ag×O)}(H:Hp I ((Z,bL J W)::(J,.list L)::F))(R:(Y,dF S U)∈F)(M:(S,.list B)∈F)(j:∀u∈U,(u,cT)∈F)
  (z:L[i]? =aa (.obj Y))(A:L.length≤1000)(N:U.length=B.length):Lv I Z J W L i Y S U B where
 m:=H.Zw
 l:=H.Zv.Zw
 len:=A
 at_:=z
 o:=H.Zv.Zv.2 _ R
 c:=H.Zv.Zv.2 _ M
 sl:=N
 s:=λu T=>H.Zv.Zv.2 _ (j u T)
 ne:=λq=>by
  have D:=H.1;simp only[bX,dY]at D;exact D.2.1 (q▸cR.mpr ⟨_,M,rfl⟩)
section
variable{D:Nat→CS} [Cl TT cy D]{n:Nat}{Z:St}{Q:QV}{X:QX}
theorem yF{o U Y l K g v d J w G z I:ag}{c P e T:V}{W:Int}{L:List V}{B E:List (ag×O)}{h:List (Int×V)}{k:Int}{t:V}(ht:t=bO∨t=tB)
  (H:Hp Z ((U,bL Y W)::(Y,.list L)::(B++(z,.idict h)::E)))(hL:L.length≤900)(b:W≤10000)(hh:h.length≤100)
  (f:(o,.inst 1079 [(SM 150,.obj J),(SM 103,.obj w),(SM 116,c),(SM 51,.int 99),(SM 120,.obj U),(SM 124,.obj l),(SM 151,.obj K),(SM 52,P),(SM 55,.obj g),(SM 115,.obj v),(SM 125,.obj d),(SM 148,.none)])∈E)
  (r:(G,.inst 964 [(SM 43,.obj I),(SM 130,T),(SM 73,.int 6),(SM 84,.obj z),(SM 76,.int 0),(SM 86,.int 0),(SM 53,.lst [])])∈E)
  (A:(I,mZ e)∈E)(hk:h.lookup k=ah)(u:cg [.tup [bO,.bool ae,.none],.tup [bO,.bool ae,.none],.tup [tB,.bool ae,.none]] k=aa (.tup [t,.bool ae,.none]))
  (hQ:∀M a N S,S.length=1→Hp M ((U,bL Y (W+1))::(Y,.list (L++[.obj a]))::((((a,dF N S)::(N,.list [cz])::S.map λs=>(s,cT))++B)++(z,.idict (h++[(k,.int L.length)]))::E))→Q .none M):
  D (n+6) 1022 [.obj o,.obj G,.int k] Z Q X:=by
 revert D n Z Q X o U Y l K g v d J w G z I c P e T W L B E h k t;apply aP;generalize e0 _=D;intro iC;apply aX;generalize aT _=n,aL _=Z,e9 _=Q,e8 _=X,e7 _=o,e6 _=U,e5 _=Y,e4 _=l,e3 _=K,e2 _=g,e1 _=v,e0 _=d;apply aX;generalize aT _=J,aL _=w,e9 _=G,e8 _=z,e7 _=I,e6 _=c,e5 _=P,e4 _=e,e3 _=T,e2 _=W,e1 _=L,e0 _=B;apply dM;generalize e3 _=E,e2 _=h,e1 _=k,e0 _=t;intro ht H hL b hh f r A hk u hQ;have R:∀{Z} {x y:ag×O} {B' :List (ag×O)} {j},Hp Z (x::y::(B' ++(z,.idict j)::E))→∀p∈E,Z p.1=aa p.2:=λH p hp=>H.2 p (.tail _ (.tail _ (iz _ (.tail _ hp))));have mH:∀{Z} {x y:ag×O} {B' :List (ag×O)} {j},Hp Z (x::y::(B' ++(z,.idict j)::E))→Z z=aa (.idict j):=λH=>H.2 (z,_) (.tail _ (.tail _ (iz _ (.head _))));have a1:=R H _ f;have a2:=R H _ r;have a3:=R H _ A;have a4:=mH H;have a5:=H.Zw;simp only at a1 a2 a3;have Vw:Q=Q:=rfl;refine DG ?_;unfold sd;walk_at "w";refine DF ?_;unfold se;walk_at "w"
 have sz:∀{Q:QV} {w:V},(∀M,Z.Zy M→Q (.int 1) M)→D (n+5) 270 [t,w] Z Q X:=λhq=>by
  rcases ht with rfl|rfl
  ·exact lL (D:=D) hq
  ·exact pL (D:=D) hq
 refine sz λVx k1=>?_;have i:=H.ZB k1;have b5:=i.Zw;walk_at "w";refine EH (D:=D) (m:=1) (by decide) rfl b5 i.Zv.Zw (by lia) (by exact aW ‹_› (by decide)) λVv a N S F=>?_;have H2:=F.hp i;have hn:=F.sl
 have C:Hp Vv ((U,bL Y (W+1))::(Y,.list (L++[.obj a]))::((((a,dF N S)::(N,.list [cz])::S.map λs=>(s,cT))++B)++(z,.idict h)::E)):=by
  rw[iA];exact H2
 have c2:=R C _ r;have c4:=mH C;have c6:(h.length≤1000)=True:=eq_true (by exact aW ‹_› (by decide));have c7:=ui k (.int L.length) h hk;have H3:=Hp.Zx (d:=(U,bL Y (W+1))::(Y,.list (L++[.obj a]))::(((a,dF N S)::(N,.list [cz])::S.map λs=>(s,cT))++B)) C (.idict (h++[(k,.int L.length)]));have q:=hQ _ a N S hn H3;simp only at c2;clear hQ H i H2 C H3 R mH sz F;walk_at "w"
end
section
variable{D:Nat→CS} [Cl TT cy D]{n:Nat}{Z:St}{Q:QV}{X:QX}{A:cw}{f:Ow}{ps:List V}{F:List (ag×O)}{N:Nat}
noncomputable abbrev BB:Ex:=.sub (.meth (.attr (.var 44) (SM 124)) (SM 97) (.cons (.var 61) (.cons (.var 12) .nil))) (.int 0)
theorem Eo{K:QL}{S:aA}(G:N≤900)(Y:S.lookup 44=aa (.obj A.mach))(B:S.lookup 61=aa (.obj A.frame)):∀{U:List (So×Od)} {f:Ow} {Z:St} {O:List V},(∀x∈U,x.2.ok x.1)→aU Z A f ps F N→
  (∀e g,cZ f U=.inl (e,g)→∀M,aU M A g ps F N→X (SM e) M)→(∀W g,cZ f U=.inr (W,g)→∀M,aU M A g ps F N→K (O++W.map .lst) M)→
  ft (iV (cm TT BB) [12] (gW TT .nil) (mo [44,61] ⟨D,n+7,X,S⟩)) ah (c9 U) O K Z
 | [],f,Z,O,_,I,_,E=>by
  have:=E [] f rfl Z I;rw[eG]at this;rw[nS]at this;exact this
 |x::r,f,Z,O,L,I,d,E=>by
  simp only[c9,bX];have H:=I.Zv;have P:=I.Zw;have t:=oo (I:=[44,61]) rfl Y;have T:=oo (I:=[44,61]) rfl B;have u:=λQ d E=>jx (D:=D) (n:=n) (Q:=Q) (X:=X) G (L x (.head _)) I d E
  have j:∀c g,bN f x.2=.inr (c,g)→∀M,aU M A g ps F N→ft (iV (cm TT BB) [12] (gW TT .nil) (mo [44,61] ⟨D,n+7,X,S⟩)) ah (c9 r) (O++[.lst c]) K M:=by
   intro c g m M b;refine Eo G Y B (λy l=>L y (.tail _ l)) b (λe C z=>d e C (by simp only[cZ,m,z,dc])) λW C z J R=>?_
   have:=E (c::W) C (by simp only[cZ,m,z,dc]) J R
   rwa [iA]
  have a:∀e,bN f x.2=.inl e→∀M,aU M A f ps F N→X (SM e) M:=λe z=>d e f (by simp only[cZ,z]);clear d E;walk_at "w";refine u _ a λc g m M b=>?_
  have:=j c g m M b;clear j u a;walk_at "w"
inductive Du where|bad(e:Nat)(g:Ow)|good(O:List (List V))(g:Ow)
noncomputable def Du.ctorIdx(d:Du):Nat:=Du.casesOn d (λ_ _=>0) λ_ _=>1
noncomputable def fQ(f:Ow)(p:Pc)(j:Bool)(U:List (So×Od)):Du:=match cZ f U with
 | .inl (e,g)=>.bad e g
 | .inr (O,g)=>match g p.k with
  |ah=>.bad 141 g
  |aa _=>if j then(if U.length=2 then .good O g else .bad 45 g)else .bad 146 g
theorem EZ:∀{U:List (So×Od)} {f g:Ow} {O:List (List V)},cZ f U=.inr (O,g)→O.length=U.length
 | [],f,g,O,h=>by cases h;rfl
 |x::r,f,g,O,h=>by
  simp only[cZ]at h;cases R:bN f x.2 with
  |inl e=>rw[R]at h;cases h
  |inr y=>
   obtain⟨c,W⟩:=y;replace h:=R▸h;simp only at h;cases H:cZ W r with
   |inl z=>rw[H]at h;cases h
   |inr z=>
    obtain⟨a,C⟩:=z;rw[H]at h;simp only[dc]at h
    have:=tj h;rw[tH]at this;rw[←this.1,l6,l6,EZ H]
noncomputable abbrev t9(j:Bool)(U:List (So×Od))(p:Pc):V:=.tup [.str (SM 45),.tup [.str (SM 20),.str (SM (if j then 10 else 11)),.tup []],.tup (c9 U),p.v,.int 6]
noncomputable abbrev B3(W U J Y V S B:ag×O)(I L M E:List (ag×O)):List (ag×O):=((W::U::I)++((J::Y::L)++((V::S::M)++[])))++B::E
section
variable{Z:St}{m l x2 y2 x1 y1 x0 y0 hh:ag×O}{S2 S1 S0 E T:List (ag×O)}{a:ag}{o:O}{P:ag×O→Prop}
theorem sL(h:∀q∈B3 x2 y2 x1 y1 x0 y0 hh S2 S1 S0 E,P q):P x2∧P y2∧P x1∧P y1∧P x0∧P y0∧P hh∧(∀q∈E,P q)∧(∀q∈S2,P q)∧∀q∈S1,P q:=by
 revert x2 y2 x1 y1 x0 y0 hh S2 S1 S0 E P;apply aX;generalize aT _=x2,aL _=y2,e9 _=x1,e8 _=y1,e7 _=x0,e6 _=y0,e5 _=hh,e4 _=S2,e3 _=S1,e2 _=S0,e1 _=E,e0 _=P;intro h
 exact
   have c:=λ{x} {l:List (ag×O)} (h:∀q∈x::l,P q)=>List.forall_mem_cons.mp h;have d:=λ{k l:List (ag×O)} (h:∀q∈k++l,P q)=>List.forall_mem_append.mp h;have H:=d h;have j:=d H.1;have z:=d j.2;have Y:=d z.2;have B:=c j.1;have W:=c B.2;have w:=c z.1;have U:=c w.2;have J:=c Y.1
   ⟨B.1,W.1,w.1,U.1,J.1,(c J.2).1,(c H.2).1,(c H.2).2,W.2,U.2⟩
theorem ET(_:Hp Z (m::l::B3 x2 y2 x1 y1 x0 y0 hh S2 S1 S0 E)):x2∈B3 x2 y2 x1 y1 x0 y0 hh S2 S1 S0 E∧y2∈B3 x2 y2 x1 y1 x0 y0 hh S2 S1 S0 E∧x1∈B3 x2 y2 x1 y1 x0 y0 hh S2 S1 S0 E∧y1∈B3 x2 y2 x1 y1 x0 y0 hh S2 S1 S0 E∧(∀q∈S2,q∈B3 x2 y2 x1 y1 x0 y0 hh S2 S1 S0 E)∧∀q∈S1,q∈B3 x2 y2 x1 y1 x0 y0 hh S2 S1 S0 E:=
 have w:=sL (P:=(·∈B3 x2 y2 x1 y1 x0 y0 hh S2 S1 S0 E)) λ_ h=>h
 ⟨w.1,w.2.1,w.2.2.1,w.2.2.2.1,w.2.2.2.2.2.2.2.2⟩
theorem Oh(h:Hp Z (m::l::B3 x2 y2 x1 (a,o) x0 y0 hh S2 S1 S0 E))(H:O):Hp (Z.Zv a H) (m::l::B3 x2 y2 x1 (a,H) x0 y0 hh S2 S1 S0 E):=
 have e:∀y1,m::l::B3 x2 y2 x1 y1 x0 y0 hh S2 S1 S0 E=(m::l::x2::y2::(S2++[x1]))++y1::(S1++x0::y0::(S0++hh::E)):=λ_=>by simp[B3]
 e (a,H)▸Hp.Zx (e (a,o)▸h) H
theorem Og(h:Hp Z (m::l::B3 x2 (a,o) x1 y1 x0 y0 hh S2 S1 S0 E))(H:O):Hp (Z.Zv a H) (m::l::B3 x2 (a,H) x1 y1 x0 y0 hh S2 S1 S0 E):=
 Hp.Zx (d:=[m,l,x2]) (L:=(S2++((x1::y1::S1)++((x0::y0::S0)++[])))++hh::E) h H
theorem Of(h:Hp Z (m::l::B3 x2 y2 x1 y1 x0 y0 hh S2 S1 S0 (E++(a,o)::T)))(H:O):Hp (Z.Zv a H) (m::l::B3 x2 y2 x1 y1 x0 y0 hh S2 S1 S0 (E++(a,H)::T)):=
 have e:∀y,m::l::B3 x2 y2 x1 y1 x0 y0 hh S2 S1 S0 (E++y::T)=(m::l::B3 x2 y2 x1 y1 x0 y0 hh S2 S1 S0 E)++y::T:=λ_=>by simp[B3]
 e (a,H)▸Hp.Zx (e (a,o)▸h) H
theorem cw.Zw{A:cw}{q:ag×O}(j:q∈A.Zv)(W:q.1≠A.frms)(v:q.1≠A.late):q∈A.Zv.take 7:=by
 revert A q;apply bF;generalize e1 _=A,e0 _=q;intro j W v
 exact
   (je.mp (j:q∈A.Zv.take 7++A.Zv.drop 7)).elim id λh=>(bf.mp h).elim (λe=>absurd (congrArg nN e) v) λh=>absurd (congrArg nN (jd.mp h)) W
end
inductive FT(Z:St)(A:cw)(p:Pc)(i:Nat)(b W:List V):Prop
 |mk (G z:ag) (O:Int) (L:List V) (x U J:Nat) (Y S c P s B:ag) (m H j:List ag):Z A.frms=aa (.list [.obj A.frame,.obj G])→Z G=aa (.inst 964 [(SM 43,.obj A.bdg),(SM 130,.tup [dP i p.Zv,bO]),(SM 73,.int 6),(SM 84,.obj z),(SM 76,.int 0),(SM 86,.int 0),(SM 53,.lst [])])→Z z=aa (.idict [(0,.int x),(1,.int U),(2,.int J)])→Z A.mem=aa (bL A.al O)→Z A.al=aa (.list L)→L.length≤1000→L[x]? =aa (.obj Y)→L[U]? =aa (.obj S)→L[J]? =aa (.obj c)→Z Y=aa (dF P m)→Z S=aa (dF s H)→Z c=aa (dF B j)→Z P=aa (.list [cz])→Z s=aa (.list b)→Z B=aa (.list W)→FT Z A p i b W
structure qi(Z:St)(A:cw)(p:Pc)(i:Nat)(b W:List V)(F:List (ag×O))(N:Nat)(h:List (Int×V)):Prop where
 ex:FT Z A p i b W
 st:∀q∈A.Zv,q.1≠A.frms→q.1≠A.late→Z q.1=aa q.2
 rs:∀q∈F,Z q.1=aa q.2
 hm:Z A.hm=aa (.idict h)
theorem Ez{l G U O w:ag}{b g a j:V}{h:List (Int×V)}{k i:Int}{J:ag}{W:Int}(R:Z G=aa (.inst 964 [(SM 43,b),(SM 130,g),(SM 73,a),(SM 84,.obj U),(SM 76,.int 0),(SM 86,.int 0),(SM 53,j)]))(H:Z l=aa (.inst 868 [(SM 120,.obj O),(SM 103,.obj w)]))
  (Y:Z U=aa (.idict h))(z:Z O=aa (bL J W))(e:h.lookup k=aa (.int i))(E:Q (dP i 0) Z):D (n+3) 816 [.obj l,.obj G,.int k] Z Q X:=by
 refine ym ?_;unfold po;walk_at "w";refine EG (D:=D) ?_;walk_at "w"
theorem NE{a g:V}(I:aU Z A f ps F N)(d:X (SM 146) Z):D (n+4) 1015 [.obj A.mach,.str (SM 11),a,g,.int 6] Z Q X:=by
 revert D n Z Q X A f ps F N a g;apply aP;generalize e0 _=D;intro T;apply et;generalize aL _=n,e9 _=Z,e8 _=Q,e7 _=X,e6 _=A,e5 _=f,e4 _=ps,e3 _=F,e2 _=N,e1 _=a,e0 _=g;intro I d;have l:=I.Zv;refine sq ?_;unfold mR;walk_at "w";exact NR (D:=D) l I.ZE d
theorem ND{a:List V}{g:V}(I:aU Z A f ps F N)(C:a.length≤1000)(Y:a.length≠2)(d:∀M,aU M A f ps F N→X (SM 45) M):D (n+4) 1015 [.obj A.mach,.str (SM 10),.lst a,g,.int 6] Z Q X:=by
 revert D n Z Q X A f ps F N a g;apply aP;generalize e0 _=D;intro T;apply et;generalize aL _=n,e9 _=Z,e8 _=Q,e7 _=X,e6 _=A,e5 _=f,e4 _=ps,e3 _=F,e2 _=N,e1 _=a,e0 _=g;intro I C Y d;have l:=I.Zv;have U:=(eq_true C);have J:((a.length:Int)==2)=aj:=by simp;lia
 refine sq ?_;unfold mR;walk_at "w";refine EE (D:=D) l I.ZE ?_;walk_at "w";refine fC λG r=>?_;refine yJ (D:=D) (St.Zx _ _ _) λK z O u W=>?_;have S:Z.Zy K:=λb p e=>u.keep b p (bx e r) (by rw[St.Zw _ _ (bx e r)];exact e);have y:=I.ZA S;have s:=u.at_;have B:=y.ZF;have h:=y.Zv;have q:=d K y;clear d;walk_at "w"
end
section
variable{D:Nat→CS} [Cl TT cy D]{n:Nat}{Z:St}{Q:QV}{X:QX}{A:cw}{f:Ow}{ps:List V}{F:List (ag×O)}{N:Nat}
theorem cF.ZA{m:Mc}(h:cF Z A m f ps F N):Hp Z ((A.mem,bL A.al m.many)::(A.al,.list (m.als.map λa=>.obj a.ao))::(A.hm,.idict m.h)::(A.pr,.list ps)::(A.Zv++(m.als.flatMap Al.Zv++F))):=
 h.hp.Zz ((((Qw _ _ _).cons _).cons _).cons _|>.cons _)
theorem NF{p:Pc}{i:Nat}{x y:V}(hN:N≤800)(Vx:A.frl=[.obj A.frame])(I:aU Z A f ps F N)
  (hQ:∀Vy m,cF Z A m f ps F N→qi Vy A p i [x] [y] F N m.h→Q .none Vy):
  D (n+8) 1015 [.obj A.mach,.str (SM 10),.lst [.lst [x],.lst [y]],.tup [dP i p.Zv,bO],.int 6] Z Q X:=by
 revert D n Z Q X A f ps F N p i x y;apply aP;generalize e0 _=D;intro iC;apply aX;generalize aT _=n,aL _=Z,e9 _=Q,e8 _=X,e7 _=A,e6 _=f,e5 _=ps,e4 _=F,e3 _=N,e2 _=p,e1 _=i,e0 _=x;apply aP;generalize e0 _=y;intro hN Vx I hQ;refine aE (id I) λm VF=>?_;have VP:=VF.len;have VM:=VF.many;have H1:=VF.ZA;have l:=I.Zv;refine sq ?_;unfold mR;walk_at "w";refine EE (D:=D) l I.ZE ?_;walk_at "w";refine fC λG hf=>?_;have H2:=H1.Zy hf (.inst 964 []);refine yJ (D:=D) H2.Zw λVv U Vz u VA=>?_;have H3:=H2.ZE (H2.ZA u) rfl Vz VA;clear H2 H1 u VA Vz l;have S:=H3.ix 1 rfl;have c:Vv A.bdg=aa (mZ A.sp2):=H3.ix 10 rfl;have a3:=H3.ix 12 rfl;have a4:=H3.ix 13 rfl;simp only at S a3 a4;walk_at "w";refine MZ (D:=D) c λe t=>?_;have H4:=H3.Zy t (.idict []);have n1:A.mach≠e:=bx a3 t;have n2:A.late≠e:=bx a4 t;have n3:G≠e:=bx S t;have n4:A.bdg≠e:=bx c t;have n5:=n2.symm;have r:A.mach≠A.late:=dq a3 a4 (by simp);have m2:G≠A.late:=dq S a4 (by simp);have m3:A.bdg≠A.late:=dq c a4 (by simp);have H5:=Hp.Zx (d:=[_,_,_,_,_,_,_,_,_,_,_,_,_,_]) H4 (.sdict [(SM 9,.obj A.lat1),(SM 10,.obj e)]);have H6:=H5.ZF [3,3,1];rw[Vx]at H6;obtain⟨E,T,M,hT⟩:∃E T:List (ag×O),E=(e,.idict [])::(G,.inst 964 [(SM 43,.obj A.bdg),(SM 130,.tup [dP i p.Zv,bO]),(SM 73,.int 6),(SM 84,.obj U),(SM 76,.int 0),(SM 86,.int 0),(SM 53,.lst [])])::(A.hm,.idict m.h)::(A.pr,.list ps)::(A.Zv.take 7++[(A.late,.sdict [(SM 9,.obj A.lat1),(SM 10,.obj e)])])∧T=m.als.flatMap Al.Zv++F:=⟨_,_,rfl,rfl⟩
 have H7:Hp ((Vv.Zv e (.idict [])).Zv A.late (.sdict [(SM 9,.obj A.lat1),(SM 10,.obj e)])) ((A.mem,bL A.al m.many)::(A.al,.list (m.als.map λa=>.obj a.ao))::([]++(U,.idict [])::(E++(A.frms,.list [.obj A.frame])::T))):=by
  rw[M,hT];exact H6
 have P:∀{i:Nat} {q:ag×O},E[i]? =aa q→q∈E:=λVU=>kR VU;have v:∀{q:ag×O},q∈E→q∈E++(A.frms,.list [.obj A.frame])::T:=λVU=>l5 _ VU;have f1:=P (i:=1) (q:=(G,.inst 964 [(SM 43,.obj A.bdg),(SM 130,.tup [dP i p.Zv,bO]),(SM 73,.int 6),(SM 84,.obj U),(SM 76,.int 0),(SM 86,.int 0),(SM 53,.lst [])])) (by rw[M];rfl);have f2:=P (i:=2) (q:=(A.hm,.idict m.h)) (by rw[M];rfl);have VN:=v (P (i:=0) (q:=(e,O.idict [])) (by rw[M];rfl));have Vw:=v f1;have VO:=v (P (i:=4) (q:=(A.plc,.inst 868 [(SM 120,.obj A.mem),(SM 103,.obj A.w)])) (by rw[M];rfl));have VG:=v (P (i:=8) (q:=(A.bdg,mZ A.sp2)) (by rw[M];rfl));have W:=v (P (i:=10) (q:=(A.mach,.inst 1079 [(SM 150,.obj A.prog),(SM 103,.obj A.w),(SM 116,A.inp),(SM 51,.int 99),(SM 120,.obj A.mem),(SM 124,.obj A.plc),(SM 151,.obj A.rv),(SM 52,A.glu),(SM 55,.obj A.late),(SM 115,.obj A.frms),(SM 125,.obj A.pr),(SM 148,.none)])) (by rw[M];rfl));have VB:=v (P (i:=11) (q:=(A.late,.sdict [(SM 9,.obj A.lat1),(SM 10,.obj e)])) (by rw[M];rfl));have VH:(A.frms,.list [.obj A.frame])∈E++(A.frms,.list [.obj A.frame])::T:=iz _ (.head _)
 have eS:∀q∈A.Zv,q.1≠A.frms→q.1≠A.late→q∈E:=λq o n1 n2=>by
  rw[M];exact .tail _ (.tail _ (.tail _ (.tail _ (l5 _ (cw.Zw o n1 n2)))))
 have eR:∀q∈F,q∈T:=λq o=>by rw[hT];exact iz _ o
 clear M hT P v H3 H4 H5 H6;walk_at "w";generalize(Vv.Zv e (.idict [])).Zv A.late (.sdict [(SM 9,.obj A.lat1),(SM 10,.obj e)])=VQ at H7⊢;clear S c a3 a4 n1 n2 n3 n4 n5 r m2 m3 t;have R:∀{Z:St} {x y:ag×O} {B' :List (ag×O)} {h'},Hp Z (x::y::(B' ++(U,.idict h')::(E++(A.frms,.list [.obj A.frame])::T)))→∀{p},p∈E++(A.frms,.list [.obj A.frame])::T→Z p.1=aa p.2:=λH p hp=>H.2 p (.tail _ (.tail _ (iz _ (.tail _ hp))));have VI:(m.als.map λa=>V.obj a.ao).length≤800:=by rw[bT];lia
 generalize hL:(m.als.map λa=>V.obj a.ao)=L at H7 VI;refine yF (D:=D) (B:=[]) (h:=[]) (.inl rfl) H7 (by lia) (by lia) (by simp) W Vw VG rfl (w8 _ _) λVS Y c0 s0 z0 H8=>?_;have l:=R H8 W;have b2:=R H8 VB;have b3:=R H8 VN;simp only at l b2 b3;walk_at "w";clear l b2 b3 H7;refine yF (D:=D) (.inl rfl) H8 (by simp;lia) (by lia) (by simp) W Vw VG rfl (Kr _ _ _) λVT S c1 s1 z1 H9=>?_;have l:=R H9 W;have b2:=R H9 VB;have b3:=R H9 VN;simp only at l b2 b3;walk_at "w";clear l b2 b3 H8;refine yF (D:=D) (.inr rfl) H9 (by simp;lia) (by lia) (by simp) W Vw VG rfl (Kq _ _ _ _) λVC c c2 s2 z2 g=>?_;have l:=R g W;have b:=R g VO;have b5:=g.Zw;have C:=R g Vw;have b7:VC U=aa (.idict [(0,.int L.length),(1,.int ((L++[V.obj Y]).length:Nat)),(2,.int (((L++[V.obj Y])++[V.obj S]).length:Nat))]):=g.2 (U,_) (.tail _ (.tail _ (iz _ (.head _))));simp only at l b b5 C;walk_at "w";refine Ez (D:=D) C b b7 b5 rfl ?_;clear l b b5 C b7 H9;have g0:(L++[V.obj Y]++[V.obj S]++[V.obj c])[L.length]? =aa (.obj Y):=by simp
 have g1:(L++[V.obj Y]++[V.obj S]++[V.obj c])[(L++[V.obj Y]).length]? =aa (.obj S):=by simp
 have g2:(L++[V.obj Y]++[V.obj S]++[V.obj c])[(L++[V.obj Y]++[V.obj S]).length]? =aa (.obj c):=by simp
 have g3:(L++[V.obj Y]++[V.obj S]++[V.obj c]).length≤1000:=by simp;lia
 walk_at "w";have z:=ET g;have VD:=Lv.Zw (Y:=S) (S:=c1) (U:=s1) (B:=[cz]) g z.2.2.1 z.2.2.2.1 (λs hs=>z.2.2.2.2.2 _ (Go hs)) g1 g3 z1;clear z;refine yA (D:=D) (k:=0) rfl VD (by decide) (by decide) ?_;have J:=Oh g (.list [x]);clear g VD;rw[show([cz]:List V).set 0 x=[x]from rfl];generalize VC.Zv c1 (.list [x])=VJ at J⊢;have w:=sL λq VU=>J.2 q (.tail _ (.tail _ VU));have j:=λ{p} hp=>w.2.2.2.2.2.2.2.1 p hp;have l:=j W;have b:=j VO;have b5:=J.Zw;have C:=j Vw;have b7:=w.2.2.2.2.2.2.1;simp only at l b b5 C b7;clear w;walk_at "w";refine Ez (D:=D) C b b7 b5 rfl ?_;clear l b b5 C b7 j;walk_at "w";have z:=ET J;have VE:=Lv.Zw (Y:=c) (S:=c2) (U:=s2) (B:=[cz]) J z.1 z.2.1 (λs hs=>z.2.2.2.2.1 _ (Go hs)) g2 g3 z2;clear z;refine yA (D:=D) (k:=0) rfl VE (by decide) (by decide) ?_;have K:=Og J (.list [y]);clear J VE;rw[show([cz]:List V).set 0 y=[y]from rfl];generalize VJ.Zv c2 (.list [y])=VK at K⊢;have w:=sL λq VU=>K.2 q (.tail _ (.tail _ VU));have j:=λ{p} hp=>w.2.2.2.2.2.2.2.1 p hp;have l:=j W;have C:=j Vw;have VL:=j VH;simp only at l C VL;clear w j;have d:=Of K (.list [.obj A.frame,.obj G]);have w:=sL λq VU=>d.2 q (.tail _ (.tail _ VU));have r:=List.forall_mem_append.mp w.2.2.2.2.2.2.2.1
 have q:=hQ (VK.Zv A.frms (.list [.obj A.frame,.obj G])) m VF {
  ex:=⟨G,U,m.many+1+1+1,L++[V.obj Y]++[V.obj S]++[V.obj c],L.length,(L++[V.obj Y]).length,(L++[V.obj Y]++[V.obj S]).length,Y,S,c,c0,c1,c2,s0,s1,s2,St.Zx _ _ _,r.1 _ f1,w.2.2.2.2.2.2.1,d.Zw,d.Zv.Zw,g3,g0,g1,g2,w.2.2.2.2.1,w.2.2.1,w.1,w.2.2.2.2.2.1,w.2.2.2.1,w.2.1⟩
  st:=λq o n1 n2=>r.1 _ (eS q o n1 n2)
  rs:=λq o=>r.2 _ (.tail _ (eR q o))
  hm:=r.1 _ f2}
 clear hQ K d r w;walk_at "w"
end
section
variable{D:Nat→CS} [Cl TT cy D]{n:Nat}{Z:St}{Q:QV}{X:QX}{A:cw}{f:Ow}{ps:List V}{F:List (ag×O)}{N:Nat}
theorem pP:∀{U:List (So×Od)} {f g:Ow} {O:List (List V)},(∀x∈U,x.2.ok x.1)→(∀k r,f k=aa r→b9 k r)→cZ f U=.inr (O,g)→∀(i:Nat) (x:So×Od),U[i]? =aa x→∃c,O[i]? =aa c∧Vs x.1 c
 | [],f,g,O,_,_,h=>λi x e=>by simp at e
 |y::r,f,g,O,B,P,h=>by
  simp only[cZ]at h;cases R:bN f y.2 with
  |inl e=>rw[R]at h;cases h
  |inr z=>
   obtain⟨c,W⟩:=z;replace h:=R▸h;simp only at h;cases H:cZ W r with
   |inl z=>rw[H]at h;cases h
   |inr z=>
    obtain⟨a,C⟩:=z;rw[H]at h;simp only[dc]at h
    have:=tj h;rw[tH]at this;refine this.1▸ ?_;intro i x e;cases i with
    |zero=>simp at e;subst e;exact⟨c,rfl,fN (B _ (.head _)) P R⟩
    |succ i=>exact pP (λx K=>B x (.tail _ K)) (qJ (B _ (.head _)) P R) H i x (by simpa using e)
theorem ED{j:Bool}{p:Pc}{U:List (So×Od)}(hN:N≤800)(L:A.frl=[.obj A.frame])(t:∀x∈U,x.2.ok x.1)(hl:U.length≤100)(hs:∀x y,U.map (·.1)=[x,y]→x≠.par∧y≠.par)(hp:p.ok .num)(I:aU Z A f ps F N)
  (d:∀e g,fQ f p j U=.bad e g→∀M,aU M A g ps F N→X (SM e) M)
  (E:∀W Y g,fQ f p j U=.good [W,Y] g→∀J M m VC,cF J A m g ps F N→m.h.lookup p.k=aa (.int (VC:Nat))→qi M A p VC W Y F N m.h→Q .none M):
  D (n+10) 1076 [.obj A.mach,.obj A.frame,t9 j U p] Z Q X:=by
 revert D n Z Q X A f ps F N j p U;apply aP;generalize e0 _=D;intro iC;apply aX;generalize aT _=n,aL _=Z,e9 _=Q,e8 _=X,e7 _=A,e6 _=f,e5 _=ps,e4 _=F,e3 _=N,e2 _=j,e1 _=p,e0 _=U;intro hN L t hl hs hp I d E;have l:=I.Zv;have VB:(c9 U).length≤1000:=by unfold c9;rw[bT];exact aW ‹_› (by decide)
 refine Mf ?_;unfold xQ;walk_at "w";refine Eo (D:=D) (n:=n+2) (f:=f) (by exact aW ‹_› (by decide)) rfl rfl t I ?_ ?_
 ·intro e g z J S
  exact d e g (by simp only[fQ,z]) J S
 ·intro cs g z J S
  have l:=S.Zv;have b2:=S.Zw;have Vx:=EZ z;refine aE (id S) λm b=>?_;rw[tL];cases o:g p.k with
  |none=>
   have T:m.h.lookup p.k=ah:=by have:=b.hk p.k;rw[o]at this;simpa using this
   have q:=d 141 g (by simp only[fQ,z,o]) J S;clear E d;walk_at "w";exact yB (D:=D) hp b T q
  |some r=>
   refine dO (b.lv (by exact aW ‹_› (by decide)) o) λVC B T Vz=>?_;have h:=λQ q=>sF (D:=D) (n:=n+4) (Q:=Q) (X:=X) hp b T q;cases j with
   |false=>
    have q:=d 146 g (by simp only[fQ,z,o];rfl);clear E d;walk_at "w";refine h _ λK a=>?_;clear h l b2;walk_at "w";exact NE (D:=D) (b.Zw a).Zv (q K (b.Zw a).Zv)
   |true=>
    by_cases G:U.length=2
    ·have q:=λW Y (e:cs=[W,Y])=>E W Y g (by simp only[fQ,z,o,if_true,G];rw[e])
     clear E d;walk_at "w";refine h _ λK a=>?_;clear h l b2;obtain⟨x0,x1,H⟩:∃x0 x1,U=[x0,x1]:=qG G;obtain⟨W,Y,Vy⟩:∃W Y,cs=[W,Y]:=qG (Vx.trans G);subst H Vy
     ·obtain⟨n0,n1⟩:=hs x0.1 x1.1 rfl
      refine aB (pP t I.ty z 0 x0 rfl) λc0 Vv v0=>?_;refine aB (pP t I.ty z 1 x1 rfl) λc1 Vw v1=>?_;replace Vv:=aI Vv;subst Vv;replace Vw:=aI Vw;subst Vw
      have R:∀{s:So} {c:List V},s≠.par→Vs s c→∃v,c=[v]:=λ{s c} hn hv=>by
       cases s with
       |num=>refine bH (hv) λVC zz zz C=>?_;refine qF C ?_;exact⟨_,rfl⟩
       |tru=>obtain⟨VC,rfl⟩:=hv;exact⟨_,rfl⟩
       |par=>exact(hn rfl).elim
      refine aE (R n0 v0) λv P=>?_;subst P;obtain⟨u,rfl⟩:=R n1 v1;walk_at "w";refine NF (D:=D) (p:=p) (i:=VC) (by lia) L (b.Zw a).Zv λk m3 w B=>?_
      have VA:m3.h.lookup p.k=aa (.int VC):=by
       have:=w.hm;rw[(b.Zw a).hm]at this;have:=O.idict.inj (aI this);exact this▸T
      have:=q _ _ rfl K k m3 VC w VA B;walk_at "w"
    ·have q:=d 45 g (by simp only[fQ,z,o,if_true,if_neg G])
     clear E d;walk_at "w";refine h _ λK a=>?_;clear h l b2;walk_at "w";exact ND (D:=D) (b.Zw a).Zv (by rw[bT];lia) (by rw[bT];lia) λk I3=>q k I3
theorem sJ{j:Bool}{p:Pc}{U:List (So×Od)}{e:Nat}{g:Ow}(S:fQ f p j U=.bad e g)(G:N≤800)(r:A.frl=[.obj A.frame])(B:∀x∈U,x.2.ok x.1)(C:U.length≤100)(T:∀x y,U.map (·.1)=[x,y]→x≠.par∧y≠.par)(t:p.ok .num)(I:aU Z A f ps F N)
  (d:∀M,aU M A g ps F N→X (SM e) M):D (n+10) 1076 [.obj A.mach,.obj A.frame,t9 j U p] Z Q X:=
 ED (D:=D) G r B C T t I (λW O h=>by cases S.symm.trans h;exact d) (λb J O h=>nomatch S.symm.trans h)
theorem NH{j:Bool}{p:Pc}{U:List (So×Od)}{O:List (List V)}{g:Ow}(z:cZ f U=.inr (O,g))(H:U.length=2)(S:fQ f p j U=.good O g)(G:N≤800)(r:A.frl=[.obj A.frame])(B:∀x∈U,x.2.ok x.1)(C:U.length≤100)(T:∀x y,U.map (·.1)=[x,y]→x≠.par∧y≠.par)(t:p.ok .num)(I:aU Z A f ps F N)
  (E:∀v u,O=[[v],[u]]→Cv v→Cv u→∀Y M m i,cF Y A m g ps F N→m.h.lookup p.k=aa (.int (i:Nat))→qi M A p i [v] [u] F N m.h→Q .none M):
  D (n+10) 1076 [.obj A.mach,.obj A.frame,t9 j U p] Z Q X:=by
 revert D n Z Q X A f ps F N j p U O g;apply aP;generalize e0 _=D;intro iC;apply aX;generalize aT _=n,aL _=Z,e9 _=Q,e8 _=X,e7 _=A,e6 _=f,e5 _=ps,e4 _=F,e3 _=N,e2 _=j,e1 _=p,e0 _=U;apply bF;generalize e1 _=O,e0 _=g;intro z H S G r B C T t I E
 exact
   ED (D:=D) G r B C T t I (λe' K h=>nomatch S.symm.trans h) (λr0 r1 K h=>by
    cases S.symm.trans h;obtain⟨W,J,e⟩:∃W J,U=[W,J]:=qG H;subst e;obtain⟨w,P⟩:=T W.1 J.1 rfl;refine aB (pP B I.ty z 0 W rfl) λc0 R o=>?_;refine aB (pP B I.ty z 1 J rfl) λVv d b=>?_;replace R:=aI R;subst R;replace d:=aI d;subst d
    have a:∀{s:So} {c:List V},s≠.par→Vs s c→∃v,c=[v]∧Cv v:=λ{s c} hn L=>by
     cases s with
     |num=>refine bH (L) λi zz zz k=>?_;refine qF k ?_;exact⟨_,rfl,.inl ⟨i,rfl⟩⟩
     |tru=>obtain⟨i,rfl⟩:=L;exact⟨_,rfl,.inr ⟨i,rfl⟩⟩
     |par=>exact(hn rfl).elim
    refine aB (a w o) λv l cv=>?_;subst l;refine aB (a P b) λu q cu=>?_;subst q;exact E v u rfl cv cu)
end
section
variable{D:Nat→CS} [Cl TT cy D]{n:Nat}{Z:St}{Q:QV}{X:QX}{A:cw}{f:Ow}{ps:List V}{N:Nat}
theorem qi.ne{p:Pc}{U:Nat}{b W:List V}{F:List (ag×O)}{h:List (Int×V)}{J K:St}(I:aU J A f ps F N)(B:qi K A p U b W F N h):
  K A.mach=aa (.inst 1079 [(SM 150,.obj A.prog),(SM 103,.obj A.w),(SM 116,A.inp),(SM 51,.int 99),(SM 120,.obj A.mem),(SM 124,.obj A.plc),(SM 151,.obj A.rv),(SM 52,A.glu),(SM 55,.obj A.late),(SM 115,.obj A.frms),(SM 125,.obj A.pr),(SM 148,.none)])∧
  K A.frame=aa (.inst 964 [(SM 43,.obj A.bd),(SM 130,.none),(SM 73,.none),(SM 84,.obj A.hm),(SM 76,.int 0),(SM 86,.int 0),(SM 53,.lst [])])∧K A.bdg=aa (mZ A.sp2):=
 ⟨B.st (A.mach,_) (kR (i:=6) rfl) (dq I.Zv I.ZB (by simp)) (dq I.Zv I.ZC (by simp)),
  B.st (A.frame,_) (kR (i:=2) rfl) (dq I.Zx I.ZB (by simp)) (dq I.Zx I.ZC (by simp)),
  B.st (A.bdg,_) (kR (i:=4) rfl) (dq I.ZF I.ZB (by simp)) (dq I.ZF I.ZC (by simp))⟩
theorem MG{i o:Int}:bD .ne Z (.tup [.tup [dP i o,bO],.int 6]) (.tup [.tup [.tup [.str (SM 149),.int i,.int o,.int 0],bO],.int 6])=aa aj:=by
 simp -implicitDefEqProofs [-Gc]<;>rfl
set_option maxHeartbeats 1000000 in
theorem yH{j:Bool}{p:Pc}{U:List (So×Od)}{W C:ag}{l:List (Int×V)}{g1 g2 g3:ag×O}{e:List (ag×O)}(Y:A.frl=[.obj A.frame])(ht:(1278,O.tab (SM 243))∈e)(P:∀x∈U,x.2.ok x.1)(T:U.length≤100)
  (b:∀x y,U.map (·.1)=[x,y]→x≠.par∧y≠.par)(t:p.ok .num)(I:aU Z A f ps ((C,.list ps)::(W,.idict l)::g1::g2::g3::e) 200)(L:LR l f 200)
  (E:∀Vv,(∀q∈e,Vv q.1=aa q.2)→Q (.bool ae) Vv):
  D (n+14) 1281 [.tup [.obj A.mach,.obj W],.str (SM (if j then 10 else 11)),.tup (c9 U),p.v] Z Q X:=by
 revert D n Z Q X A f ps j p U W C l g1 g2 g3 e;apply aP;generalize e0 _=D;intro iC;apply aX;generalize aT _=n,aL _=Z,e9 _=Q,e8 _=X,e7 _=A,e6 _=f,e5 _=ps,e4 _=j,e3 _=p,e2 _=U,e1 _=W,e0 _=C;apply eE;generalize e4 _=l,e3 _=g1,e2 _=g2,e1 _=g3,e0 _=e;intro Y ht P T b t I L E;have b1:=I.Zv;have b2:=I.ZB;rw[Y]at b2;have ho:Z W=aa (.idict l):=I.Zy (p:=(W,_)) (.tail _ (.head _));have s:∀{w f l N},aU w A f ps ((C,.list ps)::(W,.idict l)::g1::g2::g3::e) N→∀p∈e,w p.1=aa p.2:=λI p t=>I.Zy (dZ _ (dZ _ (dZ _ (dZ _ (dZ _ t)))));have a:∀{w VL r0 VC l h},qi w A p VL r0 VC ((C,.list ps)::(W,.idict l)::g1::g2::g3::e) 200 h→∀p∈e,w p.1=aa p.2:=λB p t=>B.rs p (dZ _ (dZ _ (dZ _ (dZ _ (dZ _ t)))))
 have J:∀{w:St} {g:Ow} {l2},aU w A g ps ((C,.list ps)::(W,.idict l2)::g1::g2::g3::e) 200→LR l2 g 200→
   w A.mach=aa (.inst 1079 [(SM 150,.obj A.prog),(SM 103,.obj A.w),(SM 116,A.inp),(SM 51,.int 99),(SM 120,.obj A.mem),(SM 124,.obj A.plc),(SM 151,.obj A.rv),(SM 52,A.glu),(SM 55,.obj A.late),(SM 115,.obj A.frms),(SM 125,.obj A.pr),(SM 148,.none)])∧
   w A.frms=aa (.list [.obj A.frame])∧jZ w (.obj A.frms) (.lst [.obj A.frame])=aa ae∧(∃fs,w A.frame=aa (.inst 964 fs))∧
   Q (.bool ae) w∧∀{k:Nat} {R:QV},R (.bool ae) w→D (k+3) 1269 [.obj A.mach,.obj A.frame,.obj W] w R X:=λ{w g l2} S L2=>by
  have c2:=S.ZB;rw[Y]at c2;exact⟨S.Zv,c2,by unfold jZ;rw[vI,c2];exact if_pos rfl,⟨_,S.Zx⟩,E w (s S),λr=>Ef (D:=D) (r1:=[(C,.list ps)]) (by lia) S L2 r⟩
 refine LN ?_;unfold yb;walk_at "w";refine pM (D:=D) (.inl rfl) T (by lia) P ho L ?_ ?_
 ·intro c g z F l1 G u1
  have M:=aU.ZI (U:=[(C,.list ps)]) I u1;have hP:F 1278=aa (.tab (SM 243)):=s M _ ht;have c1:=M.Zv;have c3:F W=aa (.idict l1):=u1.at_;have es:=yf (SM c);walk_at "w";refine sJ (D:=D) (by simp only[fQ,z]<;>rfl) (by lia) Y P T b t M λK S=>?_;refine nY (J S G) λd1 d2 d3 H d5 d6=>aE H λfs H=>?_;clear J E s a;walk_at "w";refine d6 ?_;walk_at "w"
 ·intro cs g z F l1 G u1
  have M:=aU.ZI (U:=[(C,.list ps)]) I u1;have hP:F 1278=aa (.tab (SM 243)):=s M _ ht;have c1:=M.Zv;have c3:F W=aa (.idict l1):=u1.at_;have VA:((c9 U).length≤1000)=True:=eq_true (by unfold c9;rw[bT];lia);have VD:∀Z,gX Z p.v (.int 0)=aa (.int p.k):=λZ=>by unfold Pc.v;rw[Ab,w8]
  cases hg:g p.k with
  |none=>
   have em:l1.lookup p.k=ah:=by rw[G.lk,hg];rfl
   have es:=yf (SM 141);walk_at "w";refine sJ (D:=D) (by simp only[fQ,z,hg]<;>rfl) (by lia) Y P T b t M λK S=>?_;refine nY (J S G) λd1 d2 d3 H d5 d6=>aE H λfs H=>?_;clear J E s a;walk_at "w";refine d6 ?_;walk_at "w"
  |some r=>
   have em:l1.lookup p.k=aa (cO r):=by rw[G.lk,hg];rfl
   cases j with
   |false=>
    simp only[nT,if_false];walk_at "w";refine sJ (D:=D) (j:=aj) (by simp only[fQ,z,hg,nT,if_false]<;>rfl) (by lia) Y P T b t M λK S=>?_;refine nY (J S G) λd1 d2 d3 H d5 d6=>aE H λfs H=>?_;clear J E s a;walk_at "w";refine d6 ?_;walk_at "w"
   |true=>
    simp only[if_true];by_cases h2:U.length=2
    ·have Vw:((c9 U).length:Int)=2:=by unfold c9;rw[bT];lia
     walk_at "w";refine NH (D:=D) (j:=ae) z h2 (by simp only[fQ,z,hg,if_true,if_pos h2]<;>rfl) (by lia) Y P T b t M λv u ec cv cu VE K m VL hm VF B=>?_;subst ec;refine bb (B.ne M) λw1 w2 w3=>?_;have q:=E K (a B);have w4:K W=aa (.idict l1):=B.rs (W,_) (.tail _ (.head _));have w5:=B.hm;have lc:=λQ hq=>sI (D:=D) (n:=n+12) (Q:=Q) (X:=X) t w4 G hg hq;refine B.ex.casesOn λfr VG VB LL i0 i1 i2 a0 a1 a2 k0 k1 k2 s0 s1 s2 y1 y2 y3 y4 y5 y6 y7 y8 y9 VH VI VJ Vx Vy Vz=>?_;have z0:=g8 y7 y6;have z1:=g8 y8 y6;have z2:=g8 y9 y6;have t0:dJ (0:Int) [(0,V.int i0),(1,.int i1),(2,.int i2)]=aa (.int i0):=rfl;have t1:dJ (1:Int) [(0,V.int i0),(1,.int i1),(2,.int i2)]=aa (.int i1):=rfl;have t2:dJ (2:Int) [(0,V.int i0),(1,.int i1),(2,.int i2)]=aa (.int i2):=rfl;clear J E s a B hm I M L G z b P b1 b2 c1 c3 u1 hP ho y7 y8 y9;walk_at "w";refine lc _ ?_;walk_at "w";refine j5 (D:=D) ?_;have VK:=MG (Z:=K) (i:=(VL:Int)) (o:=p.Zv)
     have c8:bD .eq K (.lst [.obj k0,.obj k1,.obj k2]) (.lst [.lst [.tup [.str (SM 132)]],.lst [v],.lst [u]])=aa ae:=
      aB (xj K 4 (.inr cv)) λd a1 a2=>aB (xj K 4 (.inr cu)) λd' a3 a4=>by
       simp -implicitDefEqProofs [-Gc,Vx,Vy,Vz,a1,a2,a3,a4]
     clear cv cu;walk_at "w"
    ·have Vw:(((c9 U).length:Int)==2)=aj:=by unfold c9;rw[bT];simp;lia
     walk_at "w";refine sJ (D:=D) (j:=ae) (by simp only[fQ,z,hg,if_true,if_neg h2]<;>rfl) (by lia) Y P T b t M λK S=>?_;refine nY (J S G) λd1 d2 d3 H d5 d6=>aE H λfs H=>?_;clear J E s a;walk_at "w";refine d6 ?_;walk_at "w"
end
def lR(Z:St)(a:ag):Prop:=∃m H:Int,Z a=aa (.list [.int m,.int H])∧0≤m∧0≤H∧H<2147483647
structure SU(Z M:St)(a:ag):Prop where
 keep:∀b o,b≠a→Z b=aa o→M b=aa o
 ok:lR M a
theorem SU.Zv{Z J K:St}{a:ag}(h:SU Z J a)(k:SU J K a):SU Z K a:=⟨λb o n e=>k.keep b o n (h.keep b o n e),k.ok⟩
theorem SU.Zw{Z:St}{a d:ag}(h:lR Z a)(S:Z d=ah)(o:O):SU Z (Z.Zv d o) a:=by
 refine dO (h) λm H e h=>?_;exact⟨λb p n q=>by rw[St.Zw _ _ (bx q S)];exact q,m,H,by rw[St.Zw _ _ (bx e S)];exact e,h⟩
section
variable{D:Nat→CS} [Cl TT cy D]{n:Nat}{Z:St}{Q:QV}{X:QX}
theorem Nd{O:List Int}(C:O.length≤900)(E:∀a m H,Z a=ah→0≤m→0≤H→H<2147483647→Q (.obj a) (Z.Zv a (.list [.int m,.int H]))):D (n+1) 1184 [.lst (O.map .int)] Z Q X:=by
 refine Ma ?_;unfold xW;have R:((O.map V.int).length≤1000)=True:=eq_true (by rw[bT];exact aW ‹_› (by decide))
 have p:∀s:Int,0≤s→bj (s.fmod 2147483629+23)=ae:=λs T=>by
  rw[l8 _ (by decide)]
  have:=tS s (b:=2147483629) (by decide)
  have:=tT s (b:=2147483629) (by decide);exact mn (by lia) (by lia)
 have W:∀t:Int,0≤t.fmod 2147483647∧t.fmod 2147483647<2147483647:=λt=>by
  rw[l8 _ (by decide)];exact⟨tS _ (by decide),tT _ (by decide)⟩
 have i:∀(m t:Int),0≤m→kr (.list [.int m,.int (t.fmod 2147483647)]) Q Z:=λm t h a k=>E a m _ k h (W t).1 (W t).2;clear E W;cases O with
 |nil=>
  have z:bj 23=ae:=mn (by decide) (by decide);have o:=λt=>i 0 t (by decide);clear p i;walk_at "w";have U:=o 1110233;rw[show((1110233:Int).fmod 2147483647)=1110233 from by decide]at U;exact U
 |cons x r=>
  have j:r.length≤999:=by simp at C;exact aW ‹_› (by decide)
  clear R;by_cases c:0≤x
  ·have z:=p x c
   by_cases d:1000000000000000000≤x
   ·have o:=λt=>i x t c
    clear p i;walk_at "w";exact λa k=>o _ a k
   ·have o:=λt=>i 0 t (by decide)
    clear p i;walk_at "w";exact λa k=>o _ a k
  ·have z:=p (-1-x) (by lia)
   by_cases d:1000000000000000000≤ -1-x
   ·have o:=λt=>i (-1-x) t (by lia)
    clear p i;walk_at "w";exact λa k=>o _ a k
   ·have o:=λt=>i 0 t (by decide)
    clear p i;walk_at "w";exact λa k=>o _ a k
theorem lK{a:ag}{f:Int}(O:0<f)(R:f≤1000)(S:lR Z a)(E:∀r M,0≤r→r<f→SU Z M a→Q (.int r) M):D (n+1) 1191 [.obj a,.int f] Z Q X:=by
 revert D n Z Q X a f;apply aP;generalize e0 _=D;intro T;apply ch;generalize e5 _=n,e4 _=Z,e3 _=Q,e2 _=X,e1 _=a,e0 _=f;intro O R S E;refine nW (S) λm H e I J F=>?_;have P:(f=0)=False:=eq_false (by lia);have L:(False∨f.natAbs≥1073741824)=False:=eq_false λh=>by rcases h with h|h<;>lia
 have C:(False∨(32:Int).natAbs≥1073741824)=False:=eq_false (by decide);have k:∀x y v:V,List.set [x,y] 0 v=[v,y]:=λN N N=>rfl;have g:∀x y v:V,List.set [x,y] 1 v=[x,v]:=λN N N=>rfl;have p:∀i:Int,0≤i→i<2147483647→bj i=ae:=λi a b=>mn (by lia) (by lia);have j:∀m H,0≤m→0≤H→H<2147483647→SU Z (Z.Zv a (.list [.int m,.int H])) a:=λm H U Y u=>⟨λb o n e=>by rw[St.Zw _ _ n];exact e,m,H,St.Zx _ _ _,U,Y,u⟩;refine L8 ?_;unfold xT;by_cases c:0<m
 ·have W:=E (m.fmod f) _ (by rw[l8 _ (by lia)];exact tS _ (by lia)) (by rw[l8 _ (by lia)];exact tT _ O) (j (m.fdiv f) H (by rw[Int.fdiv_eq_ediv_of_nonneg _ (by lia)];exact Int.ediv_nonneg I (by lia)) J F)
  clear E j;walk_at "w"
 ·have w:=p H J F
  have B:∀t:Int,0≤t.fmod 2147483647∧t.fmod 2147483647<2147483647:=λt=>by
   rw[l8 _ (by decide)];exact⟨tS _ (by decide),tT _ (by decide)⟩
  have l:=p _ (B (H*39373+7)).1 (B (H*39373+7)).2;have W:=λy:Int=>E (y.fmod f) _ (by rw[l8 _ (by lia)];exact tS _ (by lia)) (by rw[l8 _ (by lia)];exact tT _ O) (j m _ I (B (H*39373+7)).1 (B (H*39373+7)).2);clear E j B p;walk_at "w";exact W _
theorem eD{a:ag}{b:List V}(x:0<b.length)(R:b.length≤100)(S:lR Z a)(E:∀v∈b,∀M,SU Z M a→Q v M):D (n+2) 1198 [.obj a,.lst b] Z Q X:=by
 have C:(b.length≤1000)=True:=eq_true (by exact aW ‹_› (by decide));refine L7 ?_;unfold xZ;walk_at "w";refine lK (D:=D) (by lia) (by lia) S λr M O W u=>?_;obtain⟨k,rfl⟩:∃k:Nat,r=k:=⟨r.toNat,by lia⟩;have U:k<b.length:=by lia
 have e:cg b (k:Int)=aa b[k]:=g8 (l7 U) (by exact aW ‹_› (by decide));have q:=E b[k] (Gs U) M u;clear E;walk_at "w"
noncomputable def oj:So→V| .num=>.str (SM 121)| .tru=>.str (SM 98)| .par=>.str (SM 61)
theorem iS{a:ag}{s:So}(S:lR Z a)(E:∀(o:Od) M,o.ok s→SU Z M a→Q (o.v s) M):D (n+4) 1288 [.obj a,oj s] Z Q X:=by
 revert D n Z Q X a s;apply aP;generalize e0 _=D;intro m;apply ch;generalize e5 _=n,e4 _=Z,e3 _=Q,e2 _=X,e1 _=a,e0 _=s;intro S E;refine dO (id S) λs0 s1 e d=>?_;refine LM ?_;unfold xY;walk_at "w";refine bz λz B=>?_;have y:=SU.Zw S B (.sdict [(SM 121,.lst [.tup [.int 1,.tup []],.tup [.int 4,.tup []],.tup [.int 3,.tup [.tup [.str (SM 83),.int 0]]],.tup [.int 5,.tup [.tup [.str (SM 83),.int 0]]]]),(SM 98,.lst [.tup [.int 2,.tup []],.tup [.int 3,.tup [.tup [.str (SM 83),.int 1]]],.tup [.int 5,.tup [.tup [.str (SM 83),.int 1]]]]),(SM 61,.lst [.tup [.int 3,.tup []],.tup [.int 5,.tup []]])]);have I:z≠a:=(bx e B).symm;have l:(Z.Zv z (.sdict [(SM 121,.lst [.tup [.int 1,.tup []],.tup [.int 4,.tup []],.tup [.int 3,.tup [.tup [.str (SM 83),.int 0]]],.tup [.int 5,.tup [.tup [.str (SM 83),.int 0]]]]),(SM 98,.lst [.tup [.int 2,.tup []],.tup [.int 3,.tup [.tup [.str (SM 83),.int 1]]],.tup [.int 5,.tup [.tup [.str (SM 83),.int 1]]]]),(SM 61,.lst [.tup [.int 3,.tup []],.tup [.int 5,.tup []]])])) z=_:=St.Zx _ _ _;walk_at "w";generalize(Z.Zv z (.sdict [(SM 121,.lst [.tup [.int 1,.tup []],.tup [.int 4,.tup []],.tup [.int 3,.tup [.tup [.str (SM 83),.int 0]]],.tup [.int 5,.tup [.tup [.str (SM 83),.int 0]]]]),(SM 98,.lst [.tup [.int 2,.tup []],.tup [.int 3,.tup [.tup [.str (SM 83),.int 1]]],.tup [.int 5,.tup [.tup [.str (SM 83),.int 1]]]]),(SM 61,.lst [.tup [.int 3,.tup []],.tup [.int 5,.tup []]])]))=P at y l⊢;refine lK (D:=D) (by decide) (by decide) y.ok λb K J v1 G=>?_;walk_at "w";refine j5 (D:=D) ?_;walk_at "w";refine yC (D:=D) ?_;walk_at "w";refine bz λr V=>?_;have L:=G.keep _ _ I l;refine dO (id G.ok) λt0 t1 H T=>?_;have O:=SU.Zw G.ok V (.sdict [(SM 121,.tup [.str (SM 79),bO,.int b]),(SM 98,.tup [.str (SM 79),.tup [.str (SM 44)],.bool (aO (99<b))]),(SM 61,.tup [.str (SM 79),dD,.tup [.int b,.bool (aO (b<99))]])]);have C:r≠a:=(bx H V).symm;have A:=O.keep _ _ I L;have Y:(K.Zv r (.sdict [(SM 121,.tup [.str (SM 79),bO,.int b]),(SM 98,.tup [.str (SM 79),.tup [.str (SM 44)],.bool (aO (99<b))]),(SM 61,.tup [.str (SM 79),dD,.tup [.int b,.bool (aO (b<99))]])])) r=_:=St.Zx _ _ _;walk_at "w";generalize(K.Zv r (.sdict [(SM 121,.tup [.str (SM 79),bO,.int b]),(SM 98,.tup [.str (SM 79),.tup [.str (SM 44)],.bool (aO (99<b))]),(SM 61,.tup [.str (SM 79),dD,.tup [.int b,.bool (aO (b<99))]])]))=k at O A Y⊢;have U:=(y.Zv G).Zv O;clear B V l L e H S y G;cases s with
 |num=>
  simp only[oj];have j:=λ(o:Od) M (h:o.ok .num) (u:SU k M a)=>E o M h (U.Zv u);clear E U;walk_at "w";refine eD (D:=D) (by decide) (by decide) O.ok λF x f c=>?_
  obtain⟨p,t,rfl⟩:∃p:Pc,p.ok .num∧F=p.v:=by
   simp only[bf,bZ,or_false]at x;rcases x with rfl|rfl|rfl|rfl
   ·exact⟨⟨1,ah⟩,.inl rfl,rfl⟩
   ·exact⟨⟨4,ah⟩,.inr (.inl rfl),rfl⟩
   ·exact⟨⟨3,aa aj⟩,.inr (.inr (.inl rfl)),rfl⟩
   ·exact⟨⟨5,aa aj⟩,.inr (.inr (.inr rfl)),rfl⟩
  have w:=c.keep _ _ C Y;walk_at "w";refine eD (D:=D) (by simp) (by simp) c.ok λv g R N=>?_
  have i:∃o:Od,o.ok .num∧v=o.v .num:=by
   simp only[bf,bZ,or_false]at g;rcases g with rfl|rfl|rfl|rfl
   ·exact⟨.cn (.int b) [.int b],⟨b,J,by lia,rfl,rfl⟩,rfl⟩
   ·exact⟨.us aj p,t,rfl⟩
   ·exact⟨.us ae p,t,rfl⟩
   ·exact⟨.cn (.int b) [.int b],⟨b,J,by lia,rfl,rfl⟩,rfl⟩
  obtain⟨o,W,rfl⟩:=i;have q:=j o R W (c.Zv N);clear j;walk_at "w"
 |tru=>
  simp only[oj];have j:=λ(o:Od) M (h:o.ok .tru) (u:SU k M a)=>E o M h (U.Zv u);clear E U;walk_at "w";refine eD (D:=D) (by decide) (by decide) O.ok λF x f c=>?_
  obtain⟨p,t,rfl⟩:∃p:Pc,p.ok .tru∧F=p.v:=by
   simp only[bf,bZ,or_false]at x;rcases x with rfl|rfl|rfl
   ·exact⟨⟨2,ah⟩,.inl rfl,rfl⟩
   ·exact⟨⟨3,aa ae⟩,.inr (.inl rfl),rfl⟩
   ·exact⟨⟨5,aa ae⟩,.inr (.inr rfl),rfl⟩
  have w:=c.keep _ _ C Y;walk_at "w";refine eD (D:=D) (by simp) (by simp) c.ok λv g R N=>?_
  have i:∃o:Od,o.ok .tru∧v=o.v .tru:=by
   simp only[bf,bZ,or_false]at g;rcases g with rfl|rfl|rfl|rfl
   ·exact⟨.cn (.bool (aO (99<b))) [.bool (aO (99<b))],⟨_,rfl,rfl⟩,rfl⟩
   ·exact⟨.us aj p,t,rfl⟩
   ·exact⟨.us ae p,t,rfl⟩
   ·exact⟨.cn (.bool (aO (99<b))) [.bool (aO (99<b))],⟨_,rfl,rfl⟩,rfl⟩
  obtain⟨o,W,rfl⟩:=i;have q:=j o R W (c.Zv N);clear j;walk_at "w"
 |par=>
  simp only[oj];have j:=λ(o:Od) M (h:o.ok .par) (u:SU k M a)=>E o M h (U.Zv u);clear E U;walk_at "w";refine eD (D:=D) (by decide) (by decide) O.ok λF x f c=>?_
  obtain⟨p,t,rfl⟩:∃p:Pc,p.ok .par∧F=p.v:=by
   simp only[bf,bZ,or_false]at x;rcases x with rfl|rfl
   ·exact⟨⟨3,ah⟩,.inl rfl,rfl⟩
   ·exact⟨⟨5,ah⟩,.inr rfl,rfl⟩
  have w:=c.keep _ _ C Y;walk_at "w";refine eD (D:=D) (by simp) (by simp) c.ok λv g R N=>?_
  have i:∃o:Od,o.ok .par∧v=o.v .par:=by
   simp only[bf,bZ,or_false]at g;rcases g with rfl|rfl|rfl|rfl
   ·exact⟨.cn (.tup [.int b,.bool (aO (b<99))]) [.int b,.bool (aO (b<99))],⟨b,_,J,by lia,rfl,rfl⟩,rfl⟩
   ·exact⟨.us aj p,t,rfl⟩
   ·exact⟨.us ae p,t,rfl⟩
   ·exact⟨.cn (.tup [.int b,.bool (aO (b<99))]) [.int b,.bool (aO (b<99))],⟨b,_,J,by lia,rfl,rfl⟩,rfl⟩
  obtain⟨o,W,rfl⟩:=i;have q:=j o R W (c.Zv N);clear j;walk_at "w"
end
theorem HY{v:V}(h:v∈ [.tup [.int 1,.tup []],.tup [.int 4,.tup []],.tup [.int 3,.tup [.tup [.str (SM 83),.int 0]]],.tup [.int 5,.tup [.tup [.str (SM 83),.int 0]]]]):∃p:Pc,p.ok .num∧v=p.v:=by
 simp only[bf,bZ,or_false]at h;rcases h with rfl|rfl|rfl|rfl
 ·exact⟨⟨1,ah⟩,.inl rfl,rfl⟩
 ·exact⟨⟨4,ah⟩,.inr (.inl rfl),rfl⟩
 ·exact⟨⟨3,aa aj⟩,.inr (.inr (.inl rfl)),rfl⟩
 ·exact⟨⟨5,aa aj⟩,.inr (.inr (.inr rfl)),rfl⟩
theorem HW{v:V}(h:v∈ [.tup [.int 2,.tup []],.tup [.int 3,.tup [.tup [.str (SM 83),.int 1]]],.tup [.int 5,.tup [.tup [.str (SM 83),.int 1]]]]):∃p:Pc,p.ok .tru∧v=p.v:=by
 simp only[bf,bZ,or_false]at h;rcases h with rfl|rfl|rfl
 ·exact⟨⟨2,ah⟩,.inl rfl,rfl⟩
 ·exact⟨⟨3,aa ae⟩,.inr (.inl rfl),rfl⟩
 ·exact⟨⟨5,aa ae⟩,.inr (.inr rfl),rfl⟩
theorem HX{v:V}(h:v∈ [.tup [.int 3,.tup []],.tup [.int 5,.tup []]]):∃p:Pc,p.ok .par∧v=p.v:=by
 simp only[bf,bZ,or_false]at h;rcases h with rfl|rfl
 ·exact⟨⟨3,ah⟩,.inl rfl,rfl⟩
 ·exact⟨⟨5,ah⟩,.inr rfl,rfl⟩
section
variable{D:Nat→CS} [Cl TT cy D]{n:Nat}{Z:St}{Q:QV}{X:QX}
theorem M9{a:ag}(S:lR Z a)(W:∀(V:fq) M,V.ok→SU Z M a→Q V.v M):D (n+6) 1295 [.obj a] Z Q X:=by
 revert D n Z Q X a;apply aP;generalize e0 _=D;intro iC;apply eE;generalize e4 _=n,e3 _=Z,e2 _=Q,e1 _=X,e0 _=a;intro S W;refine LK ?_;walk_at "w";refine eD (D:=D) (by decide) (by decide) S λv g d y=>?_;walk_at "w";refine iS (D:=D) (s:=.num) y.ok λJ Vv I G=>?_;walk_at "w";refine iS (D:=D) (s:=.num) G.ok λe k x O=>?_;have U:=(y.Zv G).Zv O;have j:=λV M h (u:SU k M a)=>W V M h (U.Zv u);clear W;simp only[bf,bZ,or_false]at g;rcases g with rfl|rfl|rfl
 ·walk_at "w"
  refine eD (D:=D) (by decide) (by decide) O.ok λA B f c=>?_;refine aB (HY B) λp t w=>?_;refine qF w ?_;walk_at "w";refine iS (D:=D) (s:=.num) c.ok λz R l N=>?_;walk_at "w";refine eD (D:=D) (by simp) (by simp) N.ok λY b o m=>?_
  have i:∃r:Rv,r.ok .num∧Y=r.v .num:=by
   simp only[bf,bZ,or_false]at b;rcases b with rfl|rfl
   ·exact⟨.add J e,⟨I,x⟩,rfl⟩
   ·exact⟨.use z,l,rfl⟩
  refine aB (i) λr E C=>?_;refine qF C ?_;have q:=j (.asg .num p r) o ⟨t,E⟩ ((c.Zv N).Zv m);clear j;walk_at "w"
 ·walk_at "w"
  refine eD (D:=D) (by decide) (by decide) O.ok λA B f c=>?_;obtain⟨p,t,rfl⟩:=HW B;walk_at "w";refine iS (D:=D) (s:=.tru) c.ok λz R l N=>?_;walk_at "w";refine eD (D:=D) (by simp) (by simp) N.ok λY b o m=>?_
  have i:∃r:Rv,r.ok .tru∧Y=r.v .tru:=by
   simp only[bf,bZ,or_false]at b;rcases b with rfl|rfl
   ·exact⟨.lt J e,⟨I,x⟩,rfl⟩
   ·exact⟨.use z,l,rfl⟩
  refine aB (i) λr E F=>?_;refine qF F ?_;have q:=j (.asg .tru p r) o ⟨t,E⟩ ((c.Zv N).Zv m);clear j;walk_at "w"
 ·walk_at "w"
  refine eD (D:=D) (by decide) (by decide) O.ok λA B f c=>?_;obtain⟨p,t,rfl⟩:=HX B;walk_at "w";refine iS (D:=D) (s:=.tru) c.ok λT K L P=>?_;have c:=c.Zv P;walk_at "w";refine iS (D:=D) (s:=.par) c.ok λz R l N=>?_;walk_at "w";refine eD (D:=D) (by simp) (by simp) N.ok λY b o m=>?_
  have i:∃r:Rv,r.ok .par∧Y=r.v .par:=by
   simp only[bf,bZ,or_false]at b;rcases b with rfl|rfl
   ·exact⟨.tup J T,⟨I,L⟩,rfl⟩
   ·exact⟨.use z,l,rfl⟩
  refine aB (i) λr E H=>?_;refine qF H ?_;have q:=j (.asg .par p r) o ⟨t,E⟩ ((c.Zv N).Zv m);clear j;walk_at "w"
end
section
variable{D:Nat→CS} [Cl TT cy D]{n:Nat}{Z:St}{Q:QV}{X:QX}
theorem aU.ZK{A:cw}{f:Ow}{W:List V}{F U o R E:ag×O}{e:List (ag×O)}{N:Nat}(I:aU Z A f W (F::U::o::R::E::e) N):Hp Z e:=by
 refine aE (I) λm b=>?_;exact b.sr.ZD.2.Zv.Zv.Zv.Zv.Zv
noncomputable abbrev mO:Pc:=⟨4,ah⟩
noncomputable abbrev uj:Pc:=⟨3,aa aj⟩
noncomputable abbrev qV:Od:=.cn (.int 7) [.int 7]
noncomputable abbrev qL:List fq:=[.asg .num mO (.use qV),.live 4,.asg .num mO (.use qV),.live 4,.prt .num (.us aj mO),.asg .num mO (.add (.us ae ⟨1,ah⟩) (.cn (.int 255) [.int 255])),.asg .num uj (.use (.us ae mO)),.prt .par (.us aj ⟨3,ah⟩),
 .asg .par ⟨3,ah⟩ (.tup qV (.cn (.bool ae) [.bool ae])),.prt .par (.us ae ⟨3,ah⟩),.dead 4,.dead 4]
theorem Hf:∀s∈qL,s.ok:=by
 have R:Pc.ok .num mO:=.inr (.inl rfl);have o:Pc.ok .num uj:=.inr (.inr (.inl rfl));have F:Pc.ok .num ⟨1,ah⟩:=.inl rfl;have b:Pc.ok .par ⟨3,ah⟩:=.inl rfl;have c:Od.ok .num qV:=⟨7,by decide,by decide,rfl,rfl⟩;have a:hM 4:=.inr (.inr (.inr (.inl rfl)));intro s T;simp only[qL,bf,bZ,or_false]at T;rcases T with rfl|rfl|rfl|rfl|rfl|rfl|rfl|rfl|rfl|rfl|rfl|rfl
 ·exact⟨R,c⟩
 ·exact a
 ·exact⟨R,c⟩
 ·exact a
 ·exact R
 ·exact⟨R,F,⟨255,by decide,by decide,rfl,rfl⟩⟩
 ·exact⟨o,R⟩
 ·exact b
 ·exact⟨b,c,⟨ae,rfl,rfl⟩⟩
 ·exact b
 ·exact a
 ·exact a
theorem MX{e:List (ag×O)}(H:Hp Z e)(u:(1271,O.tab (SM 242))∈e)(V:(1278,O.tab (SM 243))∈e)(E:∀M,Hp M e→Q (.bool ae) M):D (n+22) 1302 [] Z Q X:=by
 revert D n Z Q X e;apply aP;generalize e0 _=D;intro P;apply eE;generalize e4 _=n,e3 _=Z,e2 _=Q,e1 _=X,e0 _=e;intro H u V E;refine LJ ?_;walk_at "w";refine j5 (D:=D) ?_;walk_at "w";refine j5 (D:=D) ?_;walk_at "w";refine sH (D:=D) (M:=qL) (u:=ah) (by decide) (by decide) H u ?_ Hf (by decide) λg A f l U W J Y C S r I L=>?_
 ·intro M _
  refine⟨?_,trivial⟩;simp only[wU,qL,bX,eG,fq.v,Rv.v,Od.v,Pc.v,Pc.Zw,So.ty,if_true,if_false,nT]
 have i:=I.ZK;clear I L;walk_at "w"
 have a:∀x∈ [(So.num,Od.us ae ⟨1,ah⟩),(So.tru,Od.us aj ⟨2,ah⟩)],x.2.ok x.1:=by
  intro x K;simp only[bf,bZ,or_false]at K;rcases K with rfl|rfl
  ·exact .inl rfl
  ·exact .inl rfl
 have B:∀x y,[(So.num,Od.us ae ⟨1,ah⟩),(So.tru,Od.us aj ⟨2,ah⟩)].map (·.1)=[x,y]→x≠.par∧y≠.par:=by
  intro x y h;simp at h;obtain⟨rfl,rfl⟩:=h;exact⟨by simp,by simp⟩
 refine sH (D:=D) (n:=n+1) (M:=[]) (u:=ah) (by decide) (by decide) i u ?_ (by simp) (by decide) λj A f l U W J Y C S r I L=>?_
 ·exact λN N=>⟨wU _ _,trivial⟩
 walk_at "w";refine yH (D:=D) (j:=ae) (p:=uj) (U:=[(So.num,Od.us ae ⟨1,ah⟩),(So.tru,Od.us aj ⟨2,ah⟩)]) r V a (by decide) B (.inr (.inr (.inl rfl))) I L λk m=>?_;have F:Hp k e:=⟨H.1,m⟩;clear I L;walk_at "w";refine sH (D:=D) (n:=n+1) (M:=[]) (u:=ah) (by decide) (by decide) F u ?_ (by simp) (by decide) λd A f l U W J Y C S r I L=>?_
 ·exact λN N=>⟨wU _ _,trivial⟩
 walk_at "w";refine yH (D:=D) (j:=aj) (p:=⟨1,ah⟩) (U:=[(So.num,Od.us ae ⟨1,ah⟩),(So.tru,Od.us aj ⟨2,ah⟩)]) r V a (by decide) B (.inl rfl) I L λR T=>?_;have q:=E R ⟨H.1,T⟩;clear E;walk_at "w"
end
section
variable{D:Nat→CS} [Cl TT cy D]{n:Nat}{Z:St}{Q:QV}{X:QX}
structure LI(w:St)(e:List (ag×O))(a m:ag)(g:List fq):Prop where
 src:lR w a
 rows:w m=aa (.list (g.map fq.v))
 ok:∀s∈g,s.ok
 ne:m≠a
 ke:∀p∈e,w p.1=aa p.2∧p.1≠a∧p.1≠m
theorem LI.su{w r:St}{e:List (ag×O)}{a m:ag}{g:List fq}(h:LI w e a m g)(u:SU w r a):LI r e a m g:=
 ⟨u.ok,u.keep _ _ h.ne h.rows,h.ok,h.ne,λp t=>⟨u.keep _ _ (h.ke p t).2.1 (h.ke p t).1,(h.ke p t).2⟩⟩
theorem LI.Zv{w:St}{e:List (ag×O)}{a m:ag}{g:List fq}(h:LI w e a m g){V:fq}(B:V.ok):LI (w.Zv m (.list (g.map fq.v++[V.v]))) e a m (g++[V]):=by
 revert w e a m g V;apply eE;generalize e4 _=w,e3 _=e,e2 _=a,e1 _=m,e0 _=g;intro h;apply aP;generalize e0 _=V;intro B;refine dO (h.src) λW H q b=>?_;refine⟨⟨W,H,by rw[St.Zw _ _ h.ne.symm];exact q,b⟩,by rw[St.Zx];simp,λs T=>?_,h.ne,λp t=>⟨by rw[St.Zw _ _ (h.ke p t).2.2];exact(h.ke p t).1,(h.ke p t).2⟩⟩;rcases je.mp T with c|c
 ·exact h.ok s c
 ·cases jd.mp c;exact B
theorem Hu{v:V}(h:v∈ [V.str (SM 121),.str (SM 98),.str (SM 61)]):∃s:So,v=oj s:=by
 simp only[bf,bZ,or_false]at h;rcases h with rfl|rfl|rfl
 ·exact⟨.num,rfl⟩
 ·exact⟨.tru,rfl⟩
 ·exact⟨.par,rfl⟩
theorem Nq{xs:List Int}{V4:List (ag×O)}(hl:xs.length≤900)(H:Hp Z V4)(Vz:(1271,O.tab (SM 242))∈V4)(VA:(1278,O.tab (SM 243))∈V4)(hQ:∀M,(∀q∈V4,M q.1=aa q.2)→Q (.bool ae) M):D (n+23) 1309 [.lst (xs.map .int)] Z Q X:=by
 revert D n Z Q X xs V4;apply aP;generalize e0 _=D;intro iC;apply ch;generalize e5 _=n,e4 _=Z,e3 _=Q,e2 _=X,e1 _=xs,e0 _=V4;intro hl H Vz VA hQ;refine LH ?_;walk_at "w";refine MX (D:=D) H Vz VA λVG H1=>?_;walk_at "w";refine Nd (D:=D) hl λa s0 s1 ha q0 q1 q2=>?_;walk_at "w";refine bz λm VH=>?_;refine bb (bg VH) λn1 n2 Vx=>?_
 have L0:LI ((VG.Zv a (.list [.int s0,.int s1])).Zv m (.list [])) V4 a m []:=⟨⟨s0,s1,by rw[St.Zw _ _ n2];exact St.Zx _ _ _,q0,q1,q2⟩,St.Zx _ _ _,by simp,n1,λV5 hp=>by
  have VF:=H1.2 V5 hp;have m1:V5.1≠a:=bx VF ha;have m2:V5.1≠m:=bx VF Vx;exact⟨by rw[St.Zw _ _ m2];rw[St.Zw _ _ m1];exact VF,m1,m2⟩⟩
 generalize(VG.Zv a (.list [.int s0,.int s1])).Zv m (.list [])=VX at L0⊢;clear VH Vx ha H1;walk_at "w";refine lK (D:=D) (by decide) (by decide) L0.src λnum VY u0 u1 U=>?_;have L1:=L0.su U;walk_at "w";refine lK (D:=D) (by decide) (by decide) L1.src λVW VZ w0 w1 G=>?_;have L2:=L1.su G;walk_at "w";refine lK (D:=D) (by decide) (by decide) L2.src λC V0 c0 c1 N=>?_;have L3:=L2.su N;have z1:bj C=ae:=mn (by lia) (by lia);have z3:(fO 0 C).length≤6:=by unfold fO;rw[bT,Gr,Int.sub_zero];exact Int.toNat_le.mpr (tR c1)
 have z2:(fO 0 C).length≤1000:=aW z3 (by decide);walk_at "w";clear L0 L1 L2 U G N z2;generalize(VW==0)=b;generalize fO 0 C=RG at z3⊢;refine zc (m:=0) (P:=λj fr τ=>∃φ,fr=⟨D,n+22,X,φ⟩∧(∃g,LI τ V4 a m g∧g.length≤j)∧φ.lookup 106=aa (.obj a)∧φ.lookup 42=aa (.obj m)∧φ.lookup 96=aa (.int num)∧φ.lookup 64=aa (.bool b)) ?_ ?_ ?_ ⟨_,rfl,⟨[],L3,f8 _⟩,rfl,rfl,rfl,rfl⟩
 ·exact λzz zz zz zz=>trivial
 ·rintro v-j fr τ K hj ⟨φ,rfl,⟨g,L,hs⟩,p1,p2,p3,p4⟩ hK
  have i:∀(R:fq) r w,R.ok→SU τ r a→(r m=aa (.list (g.map fq.v))∧g.length≤1000∧K .next (ax 18 w (ax 52 v ⟨D,n+22,X,φ⟩)) (r.Zv m (.list (g.map fq.v++[R.v])))):=by
   intro R r w F u;have L' :=L.su u;exact⟨L'.rows,aW hs (aW (iw (Gg hj (zG _))) (aW z3 (by decide))),hK _ _ ⟨_,rfl,⟨_,L'.Zv F,by rw[qw];exact tJ hs 1⟩,p1,p2,p3,p4⟩⟩
  have S0:=L.src;have r0:=L.rows;have rk:∀{r},SU τ r a→r m=aa (.list (g.map fq.v)):=λu=>(L.su u).rows;clear hK L L3;walk_at "w";refine lK (D:=D) (by decide) (by decide) S0 λJ VI y0 y1 U=>?_;have r1:=rk U;by_cases d1:J<4
  ·walk_at "w"
   refine M9 (D:=D) U.ok λR d F G=>?_;obtain⟨Vv,Vw,B⟩:=i R d (.int J) F (U.Zv G);clear i rk r0;walk_at "w"
  by_cases d2:J<6
  ·walk_at "w"
   refine eD (D:=D) (by simp) (by simp) U.ok λw hw d G=>?_;walk_at "w";refine lK (D:=D) (by decide) (by decide) G.ok λk T k0 k1 N=>?_;have VB:hM (1+k):=Iv k0 k1
   have:∃R:fq,R.ok∧R.v=.tup [w,.int (1+k)]:=by
    simp only[bf,bZ,or_false]at hw;rcases hw with rfl|rfl|rfl
    ·exact⟨.live (1+k),VB,rfl⟩
    ·exact⟨.live (1+k),VB,rfl⟩
    ·exact⟨.dead (1+k),VB,rfl⟩
   obtain⟨R,F,es⟩:=this;obtain⟨Vv,Vw,B⟩:=i R T (.int J) F ((U.Zv G).Zv N);rw[es]at B;clear i rk r0;walk_at "w"
  by_cases d3:J<8
  ·walk_at "w"
   refine eD (D:=D) (by simp) (by simp) U.ok λw hw d G=>?_;obtain⟨V9,rfl⟩:=Hu hw;walk_at "w";refine iS (D:=D) (s:=V9) G.ok λo T F N=>?_;obtain⟨Vv,Vw,B⟩:=i (.prt V9 o) T (.int J) F ((U.Zv G).Zv N);simp only[fq.v]at B;clear i rk r0;walk_at "w"
  ·obtain⟨Vv,Vw,B⟩:=i .nop VI (.int J) trivial U
   simp only[fq.v]at B;clear i rk r0;walk_at "w"
 ·rintro fr τ ⟨φ,rfl,⟨g,L,hs⟩,p1,p2,p3,p4⟩
  have S0:=L.src;have VN:g.length≤100:=aW hs (aW (cN (zG _)) (aW z3 (by decide)));clear L3;walk_at "w";refine iS (D:=D) (s:=.num) S0 λo1 VI VC U=>?_;walk_at "w";refine iS (D:=D) (s:=.tru) U.ok λo2 d VJ G=>?_;walk_at "w";refine iS (D:=D) (s:=.num) G.ok λo3 T VS N=>?_;walk_at "w";refine eD (D:=D) (by simp) (by simp) N.ok λmv VK V1 U4=>?_;walk_at "w";refine eD (D:=D) (by simp) (by simp) U4.ok λpv VL V3 U5=>?_
  obtain⟨V5,hp,rfl⟩:∃V5:Pc,V5.ok .num∧pv=V5.v:=by
   simp only[bf,bZ,or_false]at VL;rcases VL with rfl|rfl|rfl
   ·exact⟨⟨1,ah⟩,.inl rfl,rfl⟩
   ·exact⟨⟨4,ah⟩,.inr (.inl rfl),rfl⟩
   ·exact⟨⟨3,aa aj⟩,.inr (.inr (.inl rfl)),rfl⟩
  walk_at "w";refine eD (D:=D) (by simp) (by simp) U5.ok λkv VM VT U6=>?_
  obtain⟨VD,rfl⟩:∃VD:Bool,kv=.str (SM (if VD then 10 else 11)):=by
   simp only[bf,bZ,or_false]at VM;rcases VM with rfl|rfl|rfl|rfl
   ·exact⟨ae,rfl⟩
   ·exact⟨ae,rfl⟩
   ·exact⟨ae,rfl⟩
   ·exact⟨aj,rfl⟩
  have L6:=L.su (((((U.Zv G).Zv N).Zv U4).Zv U5).Zv U6)
  have H6:Hp VT ((m,.list (g.map fq.v))::V4):=by
   refine⟨dY.mpr ⟨λq=>?_,H.1⟩,λq V=>?_⟩
   ·obtain⟨q,V,VF⟩:=cR.mp q
    exact(L6.ke q V).2.2 VF
   ·rcases bf.mp V with c|c
    ·subst c;exact L6.rows
    ·exact(L6.ke q c).1
  have Vy:∀M,(∀q∈(m,O.list (g.map fq.v))::V4,M q.1=aa q.2)→iM M (.obj m)=aa (g.map fq.v,aa (m,.list (g.map fq.v)))∧dk (aa (m,.list (g.map fq.v))) M:=λM h=>by
   have h1:=h _ (.head _);exact⟨by rw[Kc,h1];rfl,h1⟩
  have S:=λQ V=>sH (D:=D) (n:=n+2) (Q:=Q) (X:=X) (num:=num) (z:=b) (a:=.obj m) u0 (Int.le_of_lt_add_one u1) H6 (.tail _ Vz) Vy L6.ok VN V;clear H6 Vy L6 U G N U4 U5 U6 L S0;have W:=λ{E:List (So×Od)} {M:St} {V6 V7 V8 VP z VQ Vv Vw B} Y F hl sp I LL Q V=>yH (D:=D) (n:=n+8) (Q:=Q) (X:=X) (Z:=M) (A:=V6) (f:=V7) (l:=V8) (ps:=VP) (W:=z) (C:=VQ) (g1:=Vv) (g2:=Vw) (g3:=B) (e:=(m,O.list (g.map fq.v))::V4) (j:=VD) (p:=V5) (U:=E) Y (.tail _ VA) F hl sp hp I LL V;simp only[bf,bZ,or_false]at VK
  have VU:∀x∈ [(So.num,o1),(So.tru,o2)],x.2.ok x.1:=by
   intro x hx;simp only[bf,bZ,or_false]at hx;rcases hx with rfl|rfl
   ·exact VC
   ·exact VJ
  have VV:∀x∈ [(So.num,o1)],x.2.ok x.1:=by
   intro x hx;simp only[bf,bZ,or_false]at hx;subst hx;exact VC
  have VE:∀x∈ [(So.num,o1),(So.tru,o2),(So.num,o3)],x.2.ok x.1:=by
   intro x hx;simp only[bf,bZ,or_false]at hx;rcases hx with rfl|rfl|rfl
   ·exact VC
   ·exact VJ
   ·exact VS
  have VO:mv=.int 2∨mv=.int 1∨mv=.int 3:=by rcases VK with h|h|h|h|h<;>simp[h]
  rcases VO with rfl|rfl|rfl
  ·walk_at "w"
   refine S _ λM V6 V7 V8 VP z VQ Vv Vw B Y I LL=>?_;have c:=W (E:=[(So.num,o1),(So.tru,o2)]) Y VU (by simp) (λx y h=>by simp at h;obtain⟨rfl,rfl⟩:=h;exact⟨by simp,by simp⟩) I LL;simp only[c9,bX,eG]at c;clear S W;walk_at "w";refine c _ λt he=>?_;have q:=hQ t λq V=>he q (.tail _ V);clear he;clear hQ c;walk_at "w"
  ·walk_at "w"
   refine S _ λM V6 V7 V8 VP z VQ Vv Vw B Y I LL=>?_;have c:=W (E:=[(So.num,o1)]) Y VV (by simp) (λx y h=>by simp at h) I LL;simp only[c9,bX,eG]at c;clear S W;walk_at "w";refine c _ λt he=>?_;have q:=hQ t λq V=>he q (.tail _ V);clear he;clear hQ c;walk_at "w"
  ·walk_at "w"
   refine S _ λM V6 V7 V8 VP z VQ Vv Vw B Y I LL=>?_;have c:=W (E:=[(So.num,o1),(So.tru,o2),(So.num,o3)]) Y VE (by simp) (λx y h=>by simp at h) I LL;simp only[c9,bX,eG]at c;clear S W;walk_at "w";refine c _ λt he=>?_;have q:=hQ t λq V=>he q (.tail _ V);clear he;clear hQ c;walk_at "w"
end
structure FJ(K:Params→aY):Prop where
 ck:∀P,xg.all (λp=>C0 (K P) TT [1271,1278] p.1 p.2)=ae
 bn:∀P,qj (K P) xg
 k1:∀P,BZ (K P) TT Bx Cy xk=ae
 bt:∀(W:aK) (w:aJ),∃d M,bG (K w.params) bp (aq "BITS")=aa (aa (.ref d))∧(∀h,(K w.params).In h→h.DictOf (iY W w) d M)∧∀k i,TT.bits.lookup k=aa i→∃t,M.lookup k=aa (.int i t)
 hx:∀P,s9 (K P)
 gl:∀P,∀x v,TT.glob.lookup x=aa v→∃Y,bG (K P) bp x=aa (aa Y)∧VR (λa=>(K P).lookup a) v Y
 xi:∀P,XI (K P)
 xc:∀P,XC (K P)
 g1:∀P,bG (K P) bp (pS "MachineFault")=aa (aa (.ref 83))
 g2:∀P,eF (K P) (.ref 83)=ae
 cc:∀P,codeHdIn (K P) 1275 1271=ae∧codeHdIn (K P) 1280 1278=ae∧noTabs (K P)=ae∧bG (K P) bp (pS "law")=aa (aa (.ref 1309))
noncomputable def Qq:Prop:=∀{K:Params→aY} (_:FJ K) {q:aK} {O:List ak} {Z:(ak→Option ai)→ay→Prop} {W:List ag} {e:∀P,W=(K P).map (·.1)} {d:DefRec} (_:d.name=pS "law") (_:importsNone q=ae),WalkO q O Z (kmHook K W e [1278,248,1271]).says PySem.Challenge.rw_xw0189_01.row.toRowW d [] λf L=>aV f L
theorem Vt{O:Type}{f:O→Bool}{l:List O}(n:Nat)(h:(l.take n).all f=ae)(H:(l.drop n).all f=ae):l.all f=ae:=by rw[←List.take_append_drop n l,List.all_append,h,H];rfl
theorem JR{K:Params→aY}(F:FJ K){W:aK}(w:aJ)(J:ay)(C:Cx (K w.params) J)(B:lQ J)(O:∀P∈ [1271,1278],J.get? P=ah)(I:List Int)(U:I.length≤63):fF W w J 100 oi [.lst (I.map .int)] 1309 E8 λ_ _=>False:=
 have:Cl TT cy λm f L Z Q X=>fF W w J m Z L f Q X:=Hq C (J8 (F.k1 _) (λ_ _=>rfl) (λ_=>rfl) (λ_ _=>rfl) (λ_ _=>rfl) (F.gl _) (F.bt W w) (F.hx _)) (F.xc _) (F.xi _) (F.g1 _) (F.g2 _)
  λf d h=>KP C.X B (λP b=>⟨O P b,by simp only[bf,bZ,or_false]at b;rcases b with rfl|rfl<;>decide⟩) (dA.mp (F.ck w.params) (f,d) (oN h)) ((F.bn w.params).at (p:=(f,d)) (oN h))
 Nq (D:=λm f L Z Q X=>fF W w J m Z L f Q X) (n:=77) (xs:=I) (V4:=[(1271,.tab (SM 242)),(1278,.tab (SM 243))]) (aW U (by decide)) ⟨by decide,λY t=>by simp only[bf,bZ,or_false]at t;rcases t with rfl|rfl<;>rfl⟩ (.head _) (.tail _ (.head _)) λM h=>⟨rfl,h _ (.head _),h _ (.tail _ (.head _))⟩
theorem Su:Qq:=λ{K} F {q O W Z e d} Y f=>
 KR rfl rfl Y (by decide) (by decide) F.cc f (JR F)
noncomputable def fz(o:Option aC):Option aC:=match o with
 |aa ⟨_,_,.freed,_⟩=>ah
 |o=>o
noncomputable def pk(l:List aC):Nat→List Nat→List (Option aC):=bc (motive:=λ_=>Nat→List Nat→List (Option aC)) (λ_ _=>[]) (λo _ F i O=>br O [] λa r=>bif cI a i then fz (aa o)::F (i+1) r else F (i+1) (a::r)) l
theorem AO{x:aC}{l:List aC}{i a:Nat}{o:aC}(h:i+1≤a∧fz l[a- (i+1)]? =aa o):i≤a∧fz (x::l)[a-i]? =aa o:=
 ⟨Nat.le_of_succ_le h.1,by have e:a-i=(a- (i+1))+1:=(by omega);rw[e,List.getElem?_cons_succ];exact h.2⟩
theorem HZ(l:List aC):∀(i:Nat) (K:List (Nat×aC)),pk l i (K.map (·.1))=K.map (λp=>aa p.2)→∀(a:Nat) o,K.lookup a=aa o→i≤a∧fz l[a-i]? =aa o:=by
 induction l with
 |nil=>
  intro i K h a o e;cases K with
  |nil=>cases e
  |cons p K=>cases h
 |cons x l F=>
  intro i K h a o e;cases K with
  |nil=>cases e
  |cons p K=>
   obtain⟨b,p⟩:=p;have h:(bif cI b i then fz (aa x)::pk l (i+1) (K.map (·.1))else pk l (i+1) (((b,p)::K).map (·.1)))=aa p::K.map (λp=>aa p.2):=h;cases O:cI b i with
   |false=>rw[O]at h;exact AO (F (i+1) ((b,p)::K) h a o e)
   |true=>
    rw[O]at h;have c:=gA O;have R:=List.cons.inj h;rw[ey]at e;cases k:a==b with
    |true=>
     rw[k]at e;have z:=bU k;subst z;subst c;have e:=aI e;subst e;exact⟨f8 _,by rw[Nat.sub_self];exact R.1⟩
    |false=>rw[k]at e;exact AO (F (i+1) K R.2 a o e)
noncomputable def Ia(as O:List Nat)(s:aw):List (Option aC)×List (Option aC):=(pk s.heap.objs.toList 0 as,O.map s.heap.get?)
noncomputable def H0(K:Params→aY)(O:List Nat)(w:aJ):List (Option aC)×List (Option aC):=((K w.params).map λp=>aa p.2,O.map λ_=>aa (tabObj #[]))
theorem RY{K:Params→aY}{as:List ag}(e:∀P,as=(K P).map (·.1))(O:List ag)(w:aJ)(s:aw)(x:Ia as O s=H0 K O w):(kmHook K as e O).says w s.heap:=
 ⟨λa o l=>by
  have h:=(Prod.mk.inj x).1;rw[e w.params]at h
  have:=(HZ _ 0 _ h a o l).2;rw[Nat.sub_zero,Array.getElem?_toList]at this;exact this,List.map_inj_left.mp (Prod.mk.inj x).2⟩
end
set_option Elab.async true
set_option maxHeartbeats 0
open PySem PySem.W PyProof.Rows PySem.Calls
section
local macro_rules |`(tactic|o_head $H)=>`(tactic|assumption)
theorem kfrag(h:PySem.Challenge.rw_xw0189_01.row.Holds):PySem.Challenge.rw_xw0189_01.row.Holds:=by k_head
end
noncomputable def kfrag_a:List Nat:=(kfrag.heap_1_1 (Classical.choice inferInstance)).map (·.1)
theorem kfrag_e:∀P,kfrag_a=(kfrag.heap_1_1 P).map (·.1):=λ_=>by kernel_rfl
theorem kfrag_f:FJ kfrag.heap_1_1:=
 ⟨λP=>Vt 15 (by kernel_rfl) (Vt 15 (by kernel_rfl) (Vt 15 (by kernel_rfl) (Vt 15 (by kernel_rfl) (Vt 13 (by kernel_rfl) (by kernel_rfl))))),
  λP=>by repeat(first|exact .nil|refine .cons ?_ ?_|kernel_rfl|intro _|constructor),λP=>by kernel_rfl,
  λp w=>UY (l:=[(SM 22,304,8,305),(SM 26,306,16,307),(SM 27,308,32,309),(SM 28,310,64,311),(SM 23,312,8,313),(SM 35,314,16,315),(SM 36,316,32,317),(SM 37,318,64,319),(SM 101,320,64,321)]) (by with_unfolding_all rfl) (by with_unfolding_all rfl) (by decide+kernel) rfl,
  λP=>.mk _ _ 21 _ _ _ _ _ _ _ _ _ _ _ default ⟨by with_unfolding_all rfl,by kernel_rfl,.mk _ _ _ _ _ _ _ _ _ _ _ _ _ _ [] (by with_unfolding_all rfl) (by kernel_rfl) (λs rs X hl=>by
   match rs,hl with
   |[a],_=>exact .of_eq (by rfl)) .nil (by rfl) (by decide) (by rfl) (by decide) rfl rfl rfl rfl,by rfl,by rfl,by rfl,by rfl,by kernel_rfl⟩,
  λP x v h=>by
   have i:=iK h
   simp only[TT,List.mem_cons,List.not_mem_nil,or_false,Prod.mk.injEq]at i
   rcases i with⟨rfl,rfl⟩|⟨rfl,rfl⟩|⟨rfl,rfl⟩|⟨rfl,rfl⟩|⟨rfl,rfl⟩|⟨rfl,rfl⟩<;>exact⟨_,by with_unfolding_all rfl,by repeat(first|with_unfolding_all rfl|constructor)⟩,
  λP=>by
   constructor<;>first|kernel_rfl|skip
   ·exact⟨_,_,_,_,_,_,_,_,_,_,_,_,_,_,_,_,_,_,_,_,_,_,by with_unfolding_all rfl,by rfl,by with_unfolding_all rfl,by kernel_rfl,λv m s X=>binds_K X rfl (by with_unfolding_all rfl) rfl (by rfl) (by rfl)⟩
   ·exact⟨_,_,_,_,_,_,_,_,_,_,_,_,_,_,_,_,_,_,by with_unfolding_all rfl,by rfl,by kernel_rfl,λv k m s X=>BindsTo.of_eq (by rfl)⟩
   ·exact⟨_,_,_,_,_,by with_unfolding_all rfl,by kernel_rfl,by kernel_rfl⟩,
  λP=>by
   constructor<;>first|kernel_rfl|skip
   exact⟨_,_,_,_,_,_,_,_,_,_,_,_,_,_,rfl,by with_unfolding_all rfl⟩,
  λP=>by kernel_rfl,λP=>by kernel_rfl,λP=>by and_intros<;>kernel_rfl⟩
noncomputable def kfrag_q:Program:={PySem.Challenge.pw_xw0189_01 with main:={PySem.Challenge.pw_xw0189_01.main with body:=PySem.Challenge.pw_xw0189_01.main.body.drop 128}}
noncomputable def hd.tw264360435925354521:=PySem.Challenge.pw_xw0189_01
theorem hd.te264360435925354521:PySem.Challenge.pw_xw0189_01=hd.tw264360435925354521:=rfl
namespace hd
def tw8499867674576427667:=V
def tw10200596682531068870:=V
def tw9691164852092459200:=V
def tw8455509636433690358:=V
def tw14569192112799493162:=V
def tw6231300445862588781:=V
def tw1479440292816680990:=V
def tw17213202801741711188:=V
def tw9193979096431994668:=V
def tw3692403537964248751:=V
def tw80207222412747470:=V
def tw1555437378128666086:=V
def tw8994223850203857199:=V
def tw12978694689486476534:=V
def tw14228869016593613808:=V
def tw3490399344014754336:=V
def tw2241180450144564393:=V
def tw17327716533671561472:=V
def tw10478568671102049440:=V
def tw4458026342584188919:=V
def tw13253541544203528774:=V
def tw2655586099545260437:=V
def tw3312639428575888987:=V
def tw6597962789093873526:=V
def tw10193104807299194216:=V
def tw3062554034549116351:=V
def tw10592794516085672850:=V
def tw10652557068286136655:=V
def tw5479632107175813453:=V
def tw15446708149075816471:=V
def tw9673087150982176410:=V
def tw16633321846759511662:=V
def tw17562630884545722471:=V
def tw10981247840145607329:=V
def tw9666415797876524396:=V
def tw4855435815858847083:=V
def tw10954896027920521500:=V
def tw6078900312468773854:=V
def tw17148754175671867601:=V
def tw11585793122591300342:=V
def tw8890726212758104139:=V
def tw14323767728887713897:=V
def tw1235247223174674489:=V
def tw12289785986931056098:=V
def tw5963049168890907350:=V
def tw69890677706110351:=V
def tw16049856711259736594:=V
def tw17059487216203745038:=V
def tw12387470312852788890:=V
def tw18280231356768202928:=V
def tw11155353856842241703:=V
def tw7504022934668878425:=V
def tw1160317203684671307:=V
def tw9729328000736971776:=V
def tw5604250919994444252:=V
def tw9139467792480963413:=V
def tw3227706676992921592:=V
def tw6825794384878216377:=V
def tw17523582860893176437:=V
def tw3641903923722224168:=V
def tw16192249821931289364:=V
def tw126899189614909607:=V
def tw12149660499277099224:=V
def tw2485592187805179729:=V
def tw1037384927157171198:=V
def tw6046201485432095634:=V
def tw15015567032572629849:=V
def tw13702962655247883447:=V
def tw9417033243287817803:=V
def tw6362447207671622590:=V
def tw16874378897286668274:=V
def tw5165858259965997201:=V
def tw9180358300632990600:=V
def tw1697823684261348857:=V
def tw16140346037966671567:=V
def tw15441256140065102201:=V
def tw2114883523508822293:=V
def tw11570111164570437037:=V
def tw9221647939110133654:=V
def tw12801012565498045964:=V
def tw12538513643702813137:=V
def tw15544853520655005638:=V
def tw2777310486606898128:=V
def tw5813924530853040166:=V
def tw231678842138440352:=V
def tw2382034009712293678:=V
def tw3916285193714390168:=V
def tw11082318014727886095:=V
def tw14479959197142875710:=V
def tw3751741238260587452:=V
def tw16490958093706603973:=V
def tw12905145899662694839:=V
def tw11043565332798135927:=V
def tw7333407450560187677:=V
def tw455996952264472808:=V
def tw9826395005243518002:=V
def tw15051540443700079324:=V
def tw1523212933880916979:=V
def tw11912248818721715553:=V
def tw4229197034057890473:=V
def tw10503033235834121926:=V
def tw11934350699983728027:=V
def tw6034331834246549318:=V
def tw11815352881546339388:=V
def tw11747188248321908775:=V
def tw17775649180985745786:=V
def tw16607972267231536329:=V
def tw18150562674833509941:=V
def tw187721451887068916:=V
def tw5636303146250169470:=V
def tw7839665609038958061:=V
def tw2395360589981782600:=V
def tw9276349011584097663:=V
def tw1109879514587821502:=V
def tw6064361311239337953:=V
def tw9372208762206411727:=V
def tw14204155614346801693:=V
def tw13419790239819088309:=V
def tw18260245816743181511:=V
def tw7252744027004354421:=V
def tw14304563500966998132:=V
def tw15161326946880079398:=V
def tw15459919231471728178:=V
def tw9156451550823312209:=V
def tw16064010049021166651:=V
def tw15184348022372230366:=V
def tw15610926135251115398:=V
def tw9013603393401162020:=V
def tw12010918843540018363:=V
def tw18264486928267264063:=V
def tw17287459089854585945:=V
def tw2177979273374649106:=V
def tw6418394132375852581:=V
def tw10257909930514227660:=V
def tw16561031784554278298:=V
def tw9032869535437464162:=V
def tw5109750279720785074:=V
def tw10010880442989136664:=V
def tw14885124812403076695:=V
def tw12917748928761252462:=V
def tw8583156150137307454:=V
def tw580301670077480640:=V
def tw4158538966326616356:=V
def tw10223230911338949651:=V
def tw4455062051430825911:=V
def tw14170626163746665929:=V
def tw5533284921534288411:=V
def tw4577393864431605276:=V
def tw10418821070498059912:=V
def tw12752725365382290980:=V
def tw18229235640690726180:=V
def tw10314814847376767113:=V
def tw9003164874222133143:=V
def tw10169186735810369720:=V
def tw7339385377263174568:=V
def tw12023000035769693673:=V
def tw8580518863689810338:=V
def tw15293771430684577509:=V
def tw13436793889874751463:=V
def tw16655954734093074254:=V
def tw16331016480089262388:=V
def tw778996663928911553:=V
def tw8019583575661373409:=V
def tw4790182246096814837:=V
def tw11810988563341916252:=V
def tw9789424005658652060:=V
def tw5216735753287636777:=V
def tw16973133056051306746:=V
def tw13291438424144138419:=V
def tw14784423416584386534:=V
def tw17237978297281736309:=V
def tw603594558354810906:=V
def tw14019357707464180739:=V
def tw8138335841240258086:=V
def tw420110763358337415:=V
def tw8594091374061654533:=V
def tw1513407473488127497:=V
def tw8722938342819674158:=V
def tw16732195475098059574:=V
def tw4794295470348331434:=V
def tw6496468359453899740:=V
def tw4544679596462431387:=V
def tw6128699546485818623:=V
def tw5766817342387943034:=V
def tw10200059711980206030:=V
def tw10290247671117069052:=V
def tw6156775387982992289:=V
def tw3219386304998410691:=V
def tw7828148429267724845:=V
def tw5486493490053360157:=V
def tw597430841090971830:=V
def tw4873480283540838167:=V
def tw9878135420369046608:=V
def tw1838016361993159935:=V
def tw1292574782506224866:=V
def tw2601553834287326237:=V
def tw6742079255410503971:=V
def tw13721701085657304472:=V
def tw14487415735459167684:=V
def tw1942723855846508794:=V
def tw18059793885086720939:=V
def tw2155373148024153087:=V
def tw1546340448729182881:=V
def tw5759647067039785218:=V
def tw10913585522690886933:=V
def tw13414662886053400026:=V
def tw13331704739837112769:=V
def tw9464389324830640952:=V
def tw3896432864908169337:=V
def tw3241314515751092627:=V
def tw16009306857160682382:=V
def tw1311894858572065410:=V
def tw11122842944015723790:=V
def tw18001230695176581838:=V
def tw13704628199583507327:=V
def tw18315960055377521309:=V
def tw2234841607322767675:=V
def tw3020274298221478276:=V
def tw7839861392634791998:=V
def tw7104915865109316593:=V
def tw1665519426611977725:=V
def tw14194955961183906216:=V
def tw17745206419663925312:=V
def tw10261226752179379232:=V
def tw10168931427177779312:=V
def tw9747750627657676039:=V
def tw5594199804548315133:=V
def tw16644201821892198081:=V
def tw18066081243835392563:=V
def tw13988012559056256269:=V
def tw543636222009071611:=V
def tw14791417324727343718:=V
def tw14199497947161861042:=V
def tw735499216457412341:=V
def tw18272491874396864091:=V
def tw9870564867049460845:=V
def tw18002567053797782338:=V
def tw14946310595379027892:=V
def tw8764165114954018434:=V
def tw367857026772771265:=V
def tw4292124644429209710:=V
def tw14076141398139754965:=V
def tw13043773894940636711:=V
def tw5129100327938481947:=V
def tw8983397095688490290:=V
def tw7011742071773796823:=V
def tw1992405202823017090:=V
def tw9365843419700471067:=V
def tw4992423415846252249:=V
def tw8494178379519767217:=V
def tw11476253306716732098:=V
def tw4568231203091369911:=V
def tw17438610683811369668:=V
def tw5848525411004977341:=V
def tw17848483983322774464:=V
def tw12179782168187316902:=V
def tw16531839799347345522:=V
def tw11798513794507384182:=V
def tw8184985727622759877:=V
def tw8418850081465071547:=V
def tw4812445951556440385:=V
def tw2223425423447361994:=V
def tw9810849677208565135:=V
def tw3278898641362494929:=V
def tw10610930620100246578:=V
def tw1070806864712125225:=V
def tw1575818370579092412:=V
def tw7192714274489868344:=V
def tw7430934849479919532:=V
def tw16762059770042763196:=V
def tw3731684781155429145:=V
def tw7046368057735379631:=V
def tw4277449665417238038:=V
def tw7873400313799303876:=V
def tw2782680217427406503:=V
def tw5285049794066362645:=V
def tw6425283475488350215:=V
def tw11243312107713688672:=V
def tw17510691922017120571:=V
def tw5588271506499744379:=V
def tw2130250830938240763:=V
def tw13565630665325419216:=V
def tw7459606713180098869:=V
def tw736559914600380603:=V
def tw12899943327723670910:=V
def tw14811596470062305402:=V
def tw15725300006707927175:=V
def tw2848176756851099411:=V
def tw7635829786263382596:=V
def tw4650248630828124516:=V
def tw8620653264166131082:=V
def tw17548301592722837999:=V
def tw9687556985513317663:=V
def tw4239049415839531936:=V
def tw16898703421338395802:=V
def tw4011730449221504619:=V
def tw16987089875077307720:=V
def tw10976678710191227778:=V
def tw7928477069593319606:=V
def tw1479959440485337153:=V
def tw15974211974722447953:=V
def tw6087493978418456603:=V
def tw2487633121026635805:=V
def tw6383293400628747032:=V
def tw6264115543738340563:=V
def tw3361780842719999595:=V
def tw567898682632124531:=V
def tw15709432073139065983:=V
def tw3564083277989941625:=V
def tw1387449649885023538:=V
def tw6196946367736269074:=V
def tw13673710656853086251:=V
def tw2389079507042779699:=V
def tw16821842716671950988:=V
def tw17631733924889304326:=V
def tw16671430358935201974:=V
def tw7730664659590461041:=V
def tw15232813378086664489:=V
def tw8038203026324743289:=V
def tw5654540503010958517:=V
def tw15516504957378829982:=V
def tw15149605427897886594:=V
def tw5587868097446475073:=V
def tw4834755124440303813:=V
def tw15378620127687112918:=V
def tw1479833339227408067:=V
def tw27347020408234108:=V
def tw12386524454841638718:=V
def tw5058971680067830842:=V
def tw6235530936889558916:=V
def tw5246941504419573690:=V
def tw9424071236715195469:=V
def tw3471617488691342163:=V
def tw628826382804869247:=V
def tw8434754763198761545:=V
def tw1756488131837449251:=V
def tw10942831735398218583:=V
def tw13585729697985622802:=V
def tw11239992877300529265:=V
def tw8753742132941547738:=V
def tw8974285638726340953:=V
def tw1434398142359552746:=V
def tw6467283406827068179:=V
def tw8998826512192558392:=V
def tw7562163892257148404:=V
def tw4636975807341552304:=V
def tw8631647698044649071:=V
def tw1324119301739381:=V
def tw6276673660110437445:=V
def tw12481797993636667465:=V
def tw1976320048464600139:=V
def tw10056392159520603492:=V
def tw865256926295866735:=V
def tw12904261374257909793:=V
def tw9522278419015659552:=V
def tw2364733319659085324:=V
def tw1861754713845661025:=V
def tw6897007368991420636:=V
def tw1280408269989808285:=V
def tw15039365748200984442:=V
def tw10126381309830911881:=V
def tw3076281753983609132:=V
def tw3595355477287675206:=V
def tw58351903789159699:=V
def tw11812990402858981387:=V
def tw1847498129718734126:=V
def tw17386589932338058259:=V
def tw13814786413287485596:=V
def tw1173135590058218265:=V
def tw4184917019135499818:=V
def tw6816647734673517018:=V
def tw6324595852799433117:=V
def tw324789982251995979:=V
def tw7182486151376732564:=V
def tw7306873896866421051:=V
def tw3610102804104083065:=V
def tw11862501624678476012:=V
def tw17519745973974767739:=V
def tw14084754144043732904:=V
def tw7569833724000825925:=V
def tw287947231083746679:=V
def tw5930415463011625340:=V
def tw16264488296547236668:=V
def tw14066897420323017581:=V
def tw6809180150348452684:=V
def tw4484312828943147451:=V
def tw2582875464695293758:=V
def tw13661864377559211056:=V
def tw7759662770534874592:=V
def tw1736350178976864181:=V
def tw11790099413888845297:=V
def tw1760938099516911481:=V
def tw4887793233202170652:=V
def tw15662535594664088486:=V
def tw15842043797858019231:=V
def tw1295079835146089599:=V
def tw42479039228130786:=V
def tw15834621417332309486:=V
def tw2938735568688020788:=V
def tw2253076609543119693:=V
def tw363472608344557089:=V
def tw2310416840173604703:=V
def tw10777565216647047016:=V
def tw10098858484532871584:=V
def tw6350475880396880301:=V
def tw15210470473946732509:=V
def tw4507420085913086705:=V
def tw6767105285010031935:=V
def tw10982043714301441875:=V
def tw3609619317189211081:=V
def tw8759374071611058102:=V
def tw18352704746069975241:=V
def tw9576667148146664971:=V
def tw4324768590502034390:=V
def tw570580334211071369:=V
def tw16568257914760601096:=V
def tw4901217085786567169:=V
def tw10287841801749109433:=V
def tw6645754676732357884:=V
def tw10554151724961605560:=V
def tw13078271307976294731:=V
def tw2557189256652083335:=V
def tw2908595245633717595:=V
def tw6760662844775422206:=V
def tw1669287690364492995:=V
def tw9452872987620912765:=V
def tw6269251234911203764:=V
def tw9959168783939394535:=V
def tw4551586886017427205:=V
def tw16738745784312259678:=V
def tw11145164175221040675:=V
def tw428484052712917160:=V
def tw18251112825599106275:=V
def tw3867037960071472045:=V
def tw9807025249006525022:=V
def tw1066297216363992635:=V
def tw14811076978495188195:=V
def tw1984363972637095396:=V
def tw10708561578853574150:=V
def tw16912601836600679760:=V
def tw8971800947757722863:=V
def tw2092355116749281574:=V
def tw7155325772150460729:=V
def tw15482834225003803977:=V
def tw17085629754188750694:=V
def tw17877473435196805177:=V
def tw7669143873086936922:=V
def tw17734745681671571602:=V
def tw13185193354669925997:=V
def tw17078526466157459939:=V
def tw9240168550403210075:=V
def tw1920314895626431374:=V
def tw5469443151430644227:=V
def tw15808516280766499198:=V
def tw6351979084779308449:=V
def tw15722214150439884324:=V
def tw1874159405358719183:=V
def tw11656587275550533016:=V
def tw5155557033790407861:=V
def tw6617686139246983403:=V
def tw17714025838733488182:=V
def tw10310522070392361284:=V
def tw4413494717353474276:=V
def tw9465431125875546204:=V
def tw16611703323094282476:=V
def tw15080681613647853314:=V
def tw10305269356859574647:=V
def tw9821591817271157005:=V
def tw17110113439582799386:=V
def tw6179258418468663141:=V
def tw14234986236628817851:=V
def tw4445787948887339598:=V
def tw13029036752043021494:=V
def tw11406844259604597016:=V
def tw3416535462228283139:=V
def tw8149274712835364755:=V
def tw9205932166849929317:=V
def tw2796045569192068878:=V
def tw4736157901138370405:=V
def tw4412262172769576561:=V
def tw6100019897110745148:=V
def tw11360155759697910294:=V
def tw18225048404721366151:=V
def tw13238961998321641863:=V
def tw12822435600720695279:=V
def tw10875472949588697265:=V
def tw12804790748501761660:=V
def tw4287501998611880655:=V
def tw12740448316850118660:=V
def tw4853578551445522630:=V
def tw14117766483522153913:=V
def tw16994832310330321305:=V
def tw14874740015416403351:=V
def tw8293519452102458304:=V
def tw6778391522916555698:=V
def tw7524951473946329476:=V
def tw13819635886744424586:=V
def tw13915988487920759594:=V
def tw2217210030526828308:=V
def tw8882255173952614290:=V
def tw4427974247585970236:=V
def tw17682009817383010814:=V
def tw16116582832771544909:=V
def tw5371229575969440175:=V
def tw13054651096227442229:=V
def tw1111395655364133852:=V
def tw5498244211294084031:=V
def tw10624226597165476215:=V
def tw7793654075249205795:=V
def tw4669232988116832430:=V
def tw18344054339320819672:=V
def tw2399103561582609577:=V
def tw17698727481433063041:=V
def tw3261694639857263868:=V
def tw6743835506366012284:=V
def tw6435613555943814401:=V
def tw14585109114721359362:=V
def tw2245258775325047736:=V
def tw8376689464294639256:=V
def tw13953861978323313743:=V
def tw4535849701284284645:=V
def tw14601715465040589972:=V
def tw791894052214622578:=V
def tw358998308624483670:=V
def tw7350544599812273793:=V
def tw5724930324438531845:=V
def tw840981496064437866:=V
def tw8363449657656907623:=V
def tw16222965213611063096:=V
def tw2488860425557155003:=V
def tw13345808911917323032:=V
def tw16558604503322718569:=V
def tw10953487992723715146:=V
def tw1209259664397189692:=V
def tw11056149785067698321:=V
def tw7238881122909273056:=V
def tw15575071372768740936:=V
def tw5764951542481038590:=V
def tw13997896966902399118:=V
def tw6355020355175173681:=V
def tw13397267326918798082:=V
def tw12634883239147335504:=V
def tw1844586762473781984:=V
def tw3713774561306115620:=V
def tw4212550544905979133:=V
def tw1527838690883220852:=V
def tw16148404707657748683:=V
def tw14252316831149585619:=V
def tw8620886767091428669:=V
def tw880765996842172355:=V
def tw15328818835906777346:=V
def tw12652299772924304202:=V
def tw6493439458051767224:=V
def tw13402166490378460096:=V
def tw18045596184195472670:=V
def tw3992577438768274325:=V
def tw12580157457374322825:=V
def tw17510342927460740847:=V
def tw11835290161127952913:=V
def tw8886676353466617286:=V
def tw7498954019459421862:=V
def tw6679102955309959600:=V
def tw10070748784411743049:=V
def tw73932630633417052:=V
def tw8715868543458076471:=V
def tw1080807525618032726:=V
def tw13034690579477884622:=V
def tw6219950571994921479:=V
def tw5038445343330553974:=V
def tw11170986363074059871:=V
def tw15473961653952966477:=V
def tw120949319569067898:=V
def tw15938347017603190336:=V
def tw1480571949376996046:=V
def tw13522595751371437881:=V
def tw12083575760338326149:=V
def tw3613764528863817497:=V
def tw6254241358121603344:=V
def tw4841115729618937879:=V
def tw7690266627064258982:=V
def tw2634524516542322496:=V
def tw7343300513203493971:=V
def tw8386983601427270016:=V
def tw17480675751169399666:=V
def tw2366270029833321311:=V
def tw17419490979579898423:=V
def tw14154010076438239110:=V
def tw15373592851439433439:=V
def tw13562634003028335048:=V
def tw7966823312900173658:=V
def tw15362009611261821448:=V
def tw11432382262962725059:=V
def tw5695148799593641189:=V
def tw893644547651322600:=V
def tw12785757555996779899:=V
def tw4027570223873491336:=V
def tw896392117091262416:=V
def tw13292936899121948504:=V
def tw6902259678686825763:=V
def tw11445796338385990213:=V
def tw3517015006915437578:=V
def tw1728196956790604047:=V
def tw15101716383203956559:=V
def tw11978532268704778355:=V
def tw14662617371843658649:=V
def tw13257976950880005937:=V
def tw2277299923939199616:=V
def tw5197284449146708579:=V
def tw15850850952774717093:=V
def tw18174727709737113557:=V
def tw18416071368914092631:=V
def tw12063813234649006523:=V
def tw2857093527191813627:=V
def tw11026102214843661311:=V
def tw4935679993663727648:=V
def tw16869773528944115042:=V
def tw15027813657048799489:=V
def tw17630102493349999429:=V
def tw14295902748450531312:=V
def tw5765981979616339262:=V
def tw1884399729814107754:=V
def tw4854368506661825922:=V
def tw16876290765625790874:=V
def tw14941774590477668621:=V
def tw1371220727996659393:=V
def tw15954617418576163654:=V
def tw16607784696358226408:=V
def tw1802135716158502341:=V
def tw16159750873741389634:=V
def tw14727973948776507358:=V
def tw8402618584194901558:=V
def tw9844633441911778520:=V
def tw8808839054081031943:=V
def tw10935814377348622260:=V
def tw17413402906406384846:=V
def tw4115823564253892186:=V
def tw5499663076606008585:=V
def tw10898578532549830312:=V
def tw6384089640036988262:=V
def tw6103308179388321402:=V
def tw15768255177571059533:=V
def tw9309459007353498140:=V
def tw1886097375651017517:=V
def tw3003183182289327622:=V
def tw4949857960039595651:=V
def tw11973842944795041657:=V
def tw7694040772201074070:=V
def tw6351698254187997254:=V
def tw14739706128910411235:=V
def tw4451072393086977611:=V
def tw2386032343275876092:=V
def tw16203475035833160808:=V
def tw15573792974875501539:=V
def tw17792526076716820980:=V
def tw3434591014449323440:=V
def tw6275758757913814308:=V
def tw14438868419966217030:=V
def tw1523658836675050804:=V
def tw12961144429417063065:=V
def tw1092365185724088631:=V
def tw13677020842628307333:=V
def tw10258465067628124579:=V
def tw3477474463364644245:=V
def tw11574777934848296746:=V
def tw3284363174483386244:=V
def tw3241225366106811912:=V
def tw10498207760515217633:=V
def tw11130649375529969920:=V
def tw7230765955390993930:=V
def tw5293970474611253079:=V
def tw18061153546308781385:=V
def tw2945750046319874812:=V
def tw14183143666670911114:=V
def tw8913407344586987475:=V
def tw2562384389655192718:=V
def tw18045105196089033547:=V
def tw1948366231462838307:=V
def tw1757259352951929482:=V
def tw10850427885867537041:=V
def tw8620915925392604993:=V
def tw8761934834357262393:=V
def tw3580206924867195457:=V
def tw6320518386173553733:=V
def tw13641004847509316846:=V
def tw1672987069340362256:=V
def tw6888037770979986429:=V
def tw1850006992992877954:=V
def tw7075670792697189723:=V
def tw7349092456717908193:=V
def tw9035368302765726918:=V
def tw15419413099817759249:=V
def tw4293566933973591676:=V
def tw8816488491593808883:=V
def tw4950615714455853267:=V
def tw8827373875297307324:=V
def tw4248678407315378616:=V
def tw3244765175273431187:=V
def tw8980041911258296626:=V
def tw820227566019061362:=V
def tw11080624332738626378:=V
def tw7587126088831727915:=V
def tw2359158310299208099:=V
def tw12402786825793880664:=V
def tw8867138011813171871:=V
def tw7258508106976716996:=V
def tw5725608563912678902:=V
def tw5875580373042446662:=V
def tw7684266224416042558:=V
def tw808681233213301776:=V
def tw8582838029754580635:=V
def tw10237519161082142411:=V
def tw12392441046977651542:=V
def tw16460976945913506865:=V
def tw5932558218160036093:=V
def tw2766661427924329419:=V
def tw13831593846471801795:=V
def tw17090953203297710942:=V
def tw5048557933796377899:=V
def tw8480387041410936312:=V
def tw14843652167993416414:=V
def tw16210493721406562244:=V
def tw7746552458522460070:=V
def tw1086749501690163283:=V
def tw15237705394332104762:=V
def tw7404191238989333517:=V
def tw8621839932002950188:=V
def tw7882751426655431386:=V
def tw7416751222084276281:=V
def tw11980236560753437918:=V
def tw10392334341150296681:=V
def tw11804036180299837096:=V
def tw3779012795390611018:=V
def tw15990409148406401000:=V
def tw17259825775893236993:=V
def tw8150992774993933158:=V
def tw3989794210015794800:=V
def tw10792643332837311246:=V
def tw1248928498290534400:=V
def tw9167245089561082170:=V
def tw17156858200166860814:=V
def tw14496288281795972469:=V
def tw2140662293383983925:=V
def tw12073835226634816525:=V
def tw6236048102885228246:=V
def tw9625954409417532054:=V
def tw4210854329550417504:=V
def tw7273997582074884960:=V
def tw12661178830731656644:=V
def tw5784692650032633571:=V
def tw12548654655308641768:=V
def tw13309457129844289811:=V
def tw219480563031444581:=V
def tw13784644807815321581:=V
def tw738775025143659625:=V
def tw8673665949694871306:=V
def tw7608060696618008248:=V
def tw6815161361294328400:=V
def tw13060237787698756651:=V
def tw12849525874377588401:=V
def tw13566373518162323693:=V
def tw12203266531451400970:=V
def tw8904193203061881282:=V
def tw5221659035299412244:=V
def tw3086868240375072983:=V
def tw9666658338934384728:=V
def tw16413547821465148756:=V
def tw16300260667763138969:=V
def tw13268954446999921834:=V
def tw3415153176103795331:=V
def tw3847808745515736820:=V
def tw15769674674836675847:=V
def tw13593311038801747615:=V
def tw4971707271873142875:=V
def tw11875649815601129772:=V
def tw5512636732973679808:=V
def tw15858063859152535700:=V
def tw9192306302185186207:=V
def tw6178929325686578268:=V
def tw13423386743651976425:=V
def tw10763837439906050012:=V
def tw16582145984224169819:=V
def tw3420781838494593268:=V
def tw6589317048279271080:=V
def tw675554889913544426:=V
def tw8667539529067879:=V
def tw378977806655794909:=V
def tw2394875097976081641:=V
def tw9434011793918776537:=V
def tw4170544652312619650:=V
def tw5487493568022846362:=V
def tw6567288245983111171:=V
def tw4925474479639805574:=V
def tw17776756044511651994:=V
def tw3610406353763610313:=V
def tw8978102704660224085:=V
def tw5558443091381482111:=V
def tw17597415741657687795:=V
def tw10735011138126884216:=V
def tw17015435336251040360:=V
def tw14026952437868980204:=V
def tw7116993658995107447:=V
def tw3434568106166762924:=V
def tw8754232674301072984:=V
def tw12071501765572576511:=V
def tw5267257673517129457:=V
def tw11307048654218664222:=V
def tw17860502405603952497:=V
def tw17232693881448610366:=V
def tw477729914001885993:=V
def tw9539737241629129775:=V
def tw5914723586387771985:=V
def tw15681598297672941335:=V
def tw10797655095234933175:=V
def tw10812026482400934424:=V
def tw5791980126387539862:=V
def tw4329327081025809573:=V
def tw3687686028191705147:=V
def tw2161470769050845104:=V
def tw2620797684545610549:=V
def tw12469394786265501217:=V
def tw13971359600739959757:=V
def tw11266129037736892665:=V
def tw4812048042432436358:=V
def tw8855148851239498441:=V
def tw15360700911483270650:=V
def tw10123922257226166911:=V
def tw1262521818313538117:=V
def tw4022063746063642947:=V
def tw8498548277181722101:=V
def tw15144907421984986667:=V
def tw8119415023574550399:=V
def tw16479881564531537609:=V
def tw10755821558809116012:=V
def tw3025108057812911590:=V
def tw4068178545649160379:=V
def tw4234769180768666233:=V
def tw15914279173456535478:=V
def tw41017763157688102:=V
def tw13012100217145684311:=V
def tw309218987962994604:=V
def tw14831906022683161478:=V
def tw4085355107048368183:=V
def tw6229570014629185221:=V
def tw61191686967583403:=V
def tw10804168806679319379:=V
def tw7167780255434881355:=V
def tw16655361398738801047:=V
def tw5489698587151705762:=V
def tw8359198448007392577:=V
def tw6619486752054971423:=V
def tw8053185651649180646:=V
def tw11094289645390684026:=V
def tw10266834256667246075:=V
def tw14658465915341274893:=V
def tw4520646222491181370:=V
def tw18183398384106905503:=V
def tw5976037514866842435:=V
def tw546453376004863633:=V
def tw15722331224553798755:=V
def tw12806410881072968316:=V
def tw10584935223327274461:=V
def tw5597022631086240730:=V
def tw1895951369120612711:=V
def tw13433236359130419834:=V
def tw17451717533980511810:=V
def tw2609263803504603046:=V
def tw6146999420328679401:=V
def tw12235683188849618921:=V
def tw432312013788014763:=V
def tw628478076801646101:=V
def tw14864250025649883108:=V
def tw7617803963422487118:=V
def tw9433380107526252560:=V
def tw7903667746670248309:=V
def tw8715333617671011236:=V
def tw1378153343294550077:=V
def tw12655525799616151746:=V
def tw11244900381572368662:=V
def tw10961369148470160073:=V
def tw9886747476611742599:=V
def tw1899478393449861924:=V
def tw11321808089211409890:=V
def tw8993227998240613506:=V
def tw5027669282166582034:=V
def tw16706406908939067481:=V
def tw1525885583670464380:=V
def tw17186467315314896858:=V
def tw10379133185000867636:=V
def tw16349847624731819066:=V
def tw16644025755203776648:=V
def tw16954684184137436936:=V
def tw2365020520246788147:=V
def tw3228372226667921670:=V
def tw6736383393313580409:=V
def tw2442061107527103931:=V
def tw13229510803694398910:=V
def tw870252485276807420:=V
def tw7416292914021302191:=V
def tw9321749180303621477:=V
def tw16408791803549164065:=V
def tw15455116640653406654:=V
def tw5777426239950281674:=V
def tw7931173958741972122:=V
def tw15695144274627864644:=V
def tw3604189019820491887:=V
def tw16367322488064149640:=V
def tw8670876273566594210:=V
def tw781112392691160112:=V
def tw8549678576505192021:=V
def tw17232697547758917835:=V
def tw10521865142931584956:=V
def tw18432477139146500567:=V
def tw3703956732320662906:=V
def tw16538304330064555565:=V
def tw16834843177216533021:=V
def tw7828219581880995019:=V
def tw14642527364979015918:=V
def tw11314117055357068600:=V
def tw6729940628936871286:=V
def tw18438121853782319176:=V
def tw9764821556886614387:=V
def tw6721296464632655532:=V
def tw4143826401244880611:=V
def tw3619886497775549814:=V
def tw1713613408738466740:=V
def tw14473985656389049187:=V
def tw14246127934150904186:=V
def tw1794401647697937491:=V
def tw9724669041814001911:=V
def tw1131009196008226358:=V
def tw1979913288306733268:=V
def tw10066325740915139090:=V
def tw856468140157597299:=V
def tw6178398987995114456:=V
def tw10604818783366450682:=V
def tw14185234552157331069:=V
def tw6355507385629914005:=V
def tw1122436896229213571:=V
def tw5257284115718746984:=V
def tw13710774639955215449:=V
def tw1322599901344629079:=V
def tw226073816358300282:=V
def tw6583578442109099172:=V
def tw15643034517356785631:=V
def tw16221998681652435002:=V
def tw4639630377994808837:=V
def tw580786715081773033:=V
def tw12927277143433365694:=V
def tw11403675791532753748:=V
def tw6390727810798310923:=V
def tw17748941975480150062:=V
def tw2811318038965151686:=V
def tw17746410852422831316:=V
def tw12343268692668775817:=V
def tw8218368388497587944:=V
def tw6387178735628264494:=V
def tw5662764230424782651:=V
def tw3584515259715860500:=V
def tw12398722771655946143:=V
def tw10142378343001408303:=V
def tw14684485023479115063:=V
def tw12795287235825905236:=V
def tw5246501284691441710:=V
def tw11615864803445427873:=V
def tw11226056209096007788:=V
def tw17475676430395871877:=V
def tw12632742169234008099:=V
def tw2229498832506520899:=V
def tw16477624312948428049:=V
def tw16118823824875299653:=V
def tw6522067053726604020:=V
def tw5071737660975045499:=V
def tw4588187551228634268:=V
def tw960524448959485159:=V
def tw6598610022634002709:=V
def tw17581694313120579900:=V
def tw17051707027893714694:=V
def tw17133045824648328273:=V
def tw15945647015417289575:=V
def tw4013227346040760583:=V
def tw15834134325217734722:=V
def tw7231647588127744845:=V
def tw5667273915815168098:=V
def tw15590289154827916315:=V
def tw4666280033733451440:=V
def tw6915010725816912745:=V
def tw10483159309910767364:=V
def tw10718497935973042336:=V
def tw1243817115420203540:=V
def tw7535887658832202149:=V
def tw14675040844991300425:=V
def tw3609727675691564194:=V
def tw8755810029303015932:=V
def tw4854229051247803819:=V
def tw7086048481527543654:=V
def tw5263473918493443672:=V
def tw1680920111763224811:=V
def tw2414695876002994979:=V
def tw16826218869028738250:=V
def tw7230039626435586406:=V
def tw16632024033765633173:=V
def tw17276195320934711480:=V
def tw18279466969836665061:=V
def tw29851341024097229:=V
def tw8513013380502322827:=V
def tw17662925508944244659:=V
def tw13863886583734531057:=V
def tw8549650921257051890:=V
def tw9939709412603809333:=V
def tw17052650310773991273:=V
def tw13162475630746883375:=V
def tw17438882437580071154:=V
def tw2501938814400721562:=V
def tw17245169477016047229:=V
def tw11746251328225360489:=V
def tw12822537139662283243:=V
def tw1658102840681255752:=V
def tw2202738052149791422:=V
def tw14679928423975458991:=V
def tw9716150944856294761:=V
def tw15157931247601712807:=V
def tw8225072435852268347:=V
def tw3750811979167540357:=V
def tw3825937853902108583:=V
def tw18254621711343407291:=V
def tw1166830999486302671:=V
def tw9246538752182454164:=V
def tw7547125785247578940:=V
def tw4124452956704139395:=V
def tw14520819711834966260:=V
def tw5063007335932810957:=V
def tw2331973963085040194:=V
def tw15638330822065878545:=V
def tw8191383141383413902:=V
def tw4153822554230765228:=V
def tw168201424540246993:=V
def tw9334336573746576752:=V
def tw566282697109011151:=V
def tw2283856342367524435:=V
def tw9677542627691614064:=V
def tw2138341982008666649:=V
def tw5635015706410844387:=V
def tw14616110268253331021:=V
def tw15364902741380281815:=V
def tw4139280733346450165:=V
def tw12859282356559654918:=V
def tw11109855531362756974:=V
def tw10998584579097939537:=V
def tw13637684649295473127:=V
def tw17573272137492337276:=V
def tw16279427001679887495:=V
def tw6299529512197398807:=V
def tw8986037579572391120:=V
def tw9324410711738953788:=V
def tw11445307732193420406:=V
def tw1711473549958359125:=V
def tw2678143867751452360:=V
def tw14987213230683893226:=V
def tw2871652266406334944:=V
def tw14805315293902769111:=V
def tw9669889567957919948:=V
def tw17825077915755302112:=V
def tw11959612452944106126:=V
def tw10731177294508112274:=V
def tw14669425496545353893:=V
def tw2680338956159875683:=V
def tw7913717863462653910:=V
def tw6872526038962216167:=V
def tw124703635131657984:=V
def tw4215820143475215781:=V
def tw14497964095726069059:=V
def tw3530395735491656021:=V
def tw18205726932040692184:=V
def tw9208106234588509766:=V
def tw13185518256862622155:=V
def tw12113259657773216964:=V
def tw8819627748442131313:=V
def tw4400060288345857186:=V
def tw16491924972389407994:=V
def tw2307930045212491506:=V
def tw8431553999049341567:=V
def tw16560290962428233049:=V
def tw2776922457245515730:=V
def tw12176083173453557179:=V
def tw7879665242938685309:=V
def tw17674521349322135176:=V
def tw5578469743405236373:=V
def tw7205870552132398805:=V
def tw9471604286028564565:=V
def tw3495553720403181153:=V
def tw14979002361958829438:=V
def tw8048615277679874159:=V
def tw306268748803782688:=V
def tw4323881887774741629:=V
def tw2521811729287596220:=V
def tw336506951737951121:=V
def tw11350916983344032794:=V
def tw1664424002330261135:=V
def tw17728965625124801958:=V
def tw8910540313397133072:=V
def tw2198320190079138372:=V
def tw11537399940052880508:=V
def tw18382448096889393371:=V
def tw2568273125106305562:=V
def tw5891310725916841985:=V
def tw1450175648694293406:=V
def tw7529648799523948996:=V
def tw9471679069698626803:=V
def tw14989010241459935700:=V
def tw11483237411998669720:=V
def tw14523085412063620967:=V
def tw14993929160186503751:=V
def tw596839332947609430:=V
def tw5928093246952578990:=V
def tw2540744197897768420:=V
def tw10977381208538771487:=V
def tw5727967610002061669:=V
def tw8185473973605470997:=V
def tw17233589022662653838:=V
def tw10800136255964178250:=V
def tw4437483791414902797:=V
def tw3252088795011185546:=V
def tw2107888079280393879:=V
def tw9700569562226587831:=V
def tw7522362723090193151:=V
def tw17282572219535590950:=V
def tw12034656612786429262:=V
def tw2513579433753930287:=V
def tw6586001862233079623:=V
def tw11864378218710959652:=V
def tw10586524348924607906:=V
def tw4898932216819464980:=V
def tw12675848167991613597:=V
def tw16706120442794172161:=V
def tw7703145625051659290:=V
def tw17082179047947594277:=V
def tw7082444589050389901:=V
def tw17214127696359073793:=V
def tw10478118752892766091:=V
def tw10314690494331789408:=V
def tw10753747369729691027:=V
def tw6758191495299125114:=V
def tw2343039922362307056:=V
def tw13005405145879189257:=V
def tw10334311738655131207:=V
def tw461652223194966327:=V
def tw2454814033019696937:=V
def tw5127809879845470621:=V
def tw4186443071834478652:=V
def tw517724198027276119:=V
def tw5021760664021748207:=V
def tw11833278902036403558:=V
def tw10720887837350958406:=V
def tw4429364384745439407:=V
def tw16149103838541710524:=V
def tw8366455275434205655:=V
def tw11044803229060463981:=V
def tw9012918078620557602:=V
def tw3394336870119047908:=V
def tw1601565571807774055:=V
def tw10950900528292386117:=V
def tw11320427198303771236:=V
def tw2337606911067854252:=V
def tw18224232547471651939:=V
def tw16278950018613345595:=V
def tw4494026699480025259:=V
def tw13893224023628974537:=V
def tw3957676037438438435:=V
def tw17444623497044311267:=V
def tw14661157006325481053:=V
def tw15610684576858937276:=V
def tw17033410494504267669:=V
def tw10991436397750085239:=V
def tw8223273226496171019:=V
def tw9146881087671835868:=V
def tw4499872705259310715:=V
def tw15342760918450512699:=V
def tw11871245172023452956:=V
def tw6620819106319425202:=V
def tw3929644205436876891:=V
def tw11615153089178345000:=V
def tw16753856019293054950:=V
def tw14056547237008328371:=V
def tw2068406123592202298:=V
def tw2495854087540526761:=V
def tw1635092285416264557:=V
def tw13769894087898017207:=V
def tw11869846291161295793:=V
def tw4130825540490128306:=V
def tw6942949338078487781:=V
def tw11443670614736355518:=V
def tw2371586418194438399:=V
def tw12621257661673282449:=V
def tw11521132717034644113:=V
def tw13493074278026115540:=V
def tw12685184891068620186:=V
def tw12894091464228559451:=V
def tw8057657703671246121:=V
def tw17316199666452605741:=V
def tw6953686225705527895:=V
def tw1488685991154950166:=V
def tw2223675290679670828:=V
def tw12945714742577324819:=V
def tw5339606861080546426:=V
def tw14831431034001966896:=V
def tw3541772276978147337:=V
def tw4303922720696150026:=V
def tw1099769379720537770:=V
def tw5645415064246725200:=V
def tw7309933557424586653:=V
def tw11143654925288551574:=V
def tw1383844976935760699:=V
def tw2316390732353752141:=V
def tw7575007369245600600:=V
def tw17653395014608570344:=V
def tw23902888720678887:=V
def tw13883575605910189399:=V
def tw18143610487759034564:=V
def tw15741303081692602393:=V
def tw10899236745666942599:=V
def tw5278541085303473619:=V
def tw1530186012659733002:=V
def tw4795873937789857368:=V
def tw4331374464667076758:=V
def tw7536728726010098992:=V
def tw6700630366935767112:=V
def tw16347810527638631630:=V
def tw17805375393286525145:=V
def tw8001206370205753959:=V
def tw9263913306972830034:=V
def tw8414816662057420513:=V
def tw10638500153800496621:=V
def tw6581903676286546102:=V
def tw6060171853651468988:=V
def tw2738606659493605458:=V
def tw11015883113180050327:=V
def tw18158035491867847236:=V
def tw17648703758258394866:=V
def tw9119655138871107046:=V
def tw7114702342371406679:=V
def tw12468848272116607636:=V
def tw17847010519790855202:=V
def tw12842129537826997421:=V
def tw896041191675105985:=V
def tw18193238122522623641:=V
def tw11966548221656425832:=V
def tw13821990636101746223:=V
def tw17553067712141033818:=V
def tw541580609670479430:=V
def tw10288849259350499405:=V
def tw16993542563090042548:=V
def tw10819485041398963147:=V
def tw6786659393958316216:=V
def tw6553926801971918991:=V
def tw6850404167445703353:=V
def tw10868664014757305031:=V
def tw1799029648346536868:=V
def tw13966082070955660426:=V
def tw9742114404145244758:=V
def tw5509500717763924342:=V
def tw17220510071083114264:=V
def tw10540686284600524729:=V
def tw8624149140182123753:=V
def tw14645323873262247986:=V
def tw14388194546541367734:=V
def tw18146240232297413648:=V
def tw16085002494570185179:=V
def tw15587043529229516289:=V
def tw6920564403339149048:=V
def tw17525284518677105772:=V
def tw1915855561349344771:=V
def tw3331922841121032985:=V
def tw9411467720932436458:=V
def tw17314117238199800277:=V
def tw15876243489191307597:=V
def tw317002116052639653:=V
def tw17301770046715024355:=V
def tw6837933980278877480:=V
def tw13655080880385067533:=V
def tw5627993144553289949:=V
def tw12316206225457281584:=V
def tw12370804845461041569:=V
def tw1369006999010240338:=V
def tw9320986196914341143:=V
def tw13702326064699736726:=V
def tw16415684545702188449:=V
def tw16640113483863055521:=V
def tw15170166819509798712:=V
def tw15101807949170559289:=V
def tw10559677044791332459:=V
def tw8410123359926234252:=V
def tw7518315188428639091:=V
def tw9373921966799846340:=V
def tw11397784770950222661:=V
def tw5807391630960238556:=V
def tw12126957479239861940:=V
def tw10963810766965298855:=V
def tw15179198262615223429:=V
def tw8456082310318268916:=V
def tw3206974332715364811:=V
def tw12955444227227605644:=V
def tw9376941887549378448:=V
def tw12711689768963827383:=V
def tw9892912983720489255:=V
def tw13905956793225008818:=V
def tw16794982553304676535:=V
def tw14803363636126791652:=V
def tw3197303534044600699:=V
def tw14458034077201591473:=V
def tw16801036939960256659:=V
def tw702076590378127617:=V
def tw13474202372236289985:=V
def tw1651091821338312751:=V
def tw17992777665364332788:=V
def tw8986265474265415063:=V
def tw2402173156857961524:=V
def tw690909109011163107:=V
def tw2292298833302678510:=V
def tw1552990149099477027:=V
end hd
local macro_rules |`(tactic|refine $_)=>`(tactic|assumption)
theorem hd:PySem.Challenge.rw_xw0189_01.Holds:=by
 w_on;o_law
 apply(λ(a:PySem.Challenge.rw_xw0189_01.row.Holds) (b:PySem.Challenge.rw_xw0189_01.row.Holds→PySem.Challenge.rw_xw0189_01.row.Holds)=>a)
 refine holds_open (q:=kfrag_q) (loose:=PySem.Challenge.pw_xw0189_01.boundNames) (Xt:=λs=>recOk (RowW.records PySem.Challenge.rw_xw0189_01.row.toRowW) s) (XP:=λ_ _=>True) (Yf:=Ia kfrag_a [1278,248,1271]) (Ya:=H0 kfrag.heap_1_1 [1278,248,1271]) (YP:=(kmHook kfrag.heap_1_1 kfrag_a kfrag_e [1278,248,1271]).says) (N:=17676) ?hl (RY kfrag_e _) (Hook.keeps _) (λ_ _=>trivial) (λ_ _ _ _ _=>trivial) (by rfl) (by rfl) (by rfl) (λs e=>recFacts_of e) (by rfl) (by assumption) (by decide+kernel) ⟨rfl,rfl,rfl,rfl,rfl,by decide+kernel⟩ ?hw ?hc
 rotate_right
 intro h
 o_head Hook.none
 case hw=>w_witness2
 exact Su kfrag_f rfl (by kernel_rfl)
end Mine.Internal
theorem PySem.Challenge.cw_xw0189_01_holds : PySem.Challenge.rw_xw0189_01.Holds :=
  Mine.Internal.hd
