import PyProof.Rows.All
import Wide.All
import OpenK.AllK
import Wide.FinOn
import KE.KTurns
import KE.KBytesWalk
import KE.BytesMake
import KE.KTurnsDict
import Lean
import PySem.Challenge.RW_sq0062_01
open And renaming intro→dF
open Array renaming getElem?_toList→xJ,length_toList→AO,mk→di,getElem?_eq_some_iff→sU
open Bool renaming true→l8,false→kC,and_eq_true_iff→u7,false_ne_true→oY,and_eq_true→nA,or_eq_true→sE,rec→qu
open Eq renaming mpr→fQ
open Exists renaming elim→sM
open False renaming elim→sQ
open ForInStep renaming yield→xE
open Int renaming ofNat→dW,not_lt→sN,natCast_nonneg→j9,min_eq_left→AG,ofNat_le→fZ,lt_of_le_of_lt→mj,le_trans→ed,ofNat_lt→iA,eq_ofNat_of_zero_le→ke,fmod→hM,le_add_of_nonneg_right→vk,add_le_add_left→pe,le_refl→vm,add_assoc→iO,add_le_add_right→xF,toNat→aj,add_one_le_of_lt→xG,negSucc→kI
open List renaming lookup→nJ,mem_append_left→aq,mem_append_right→ay,nodup_nil→sJ,mem_cons→bj,lookup_cons→kE,cons_append→Ar,nodup_cons→fY,append_assoc→mf,append_nil→iy,length_take→As,mem_of_mem_take→vd,take_append_drop→sK,length_drop→mh,of_mem_zip→Au,mem_of_mem_drop→xy,nodup_append→ve,length_append→ib,getElem?_append_left→Av,getElem?_eq_some_iff→iN,getElem?_append_right→E9,mem_append→aM,mem_singleton→bN,length→aN,length_take_le'→xz,forall_mem_cons→bU,mem_of_getElem?→et,getElem?_eq_getElem→qw,take_of_length_le→vf,isEmpty_iff→pb,all_eq_true→nK,drop_eq_getElem_cons→xA,reverse_cons→Aw,mem_map→ew,length_map→j0,mem_map_of_mem→Ax,mem_filter→j8,mem_iff_getElem?→pc,map_inj_left→xC,map_append→pd,not_mem_nil→Ay,mem_cons_of_mem→Az,take_add_one→vg,map→aA,forall_mem_singleton→eM,forall_mem_append→AA,getElem?_map→vh,take_zero→AB,take→cN,getD_eq_getElem?_getD→Fa,drop→eQ,getD→dD,contains_cons→xD,mem_filterMap→AC
open List.Sublist renaming cons_cons→Fg
open List.cons renaming inj→sT
open Nat renaming beq→ej,blt→sH,le_of_ble_eq_true→dB,le_max_left→jJ,le_trans→aI,le_max_right→ix,sub_add_cancel→vb,sub_le_iff_le_add→Ak,add_le_add_left→jq,not_lt→vc,ble→gH,le_refl→cS,succ_ne_zero→Al,le_succ→sI,succ_le_succ→dS,lt_succ_of_lt→nE,ne_of_lt→cL,not_lt_zero→Am,le_of_lt→xq,zero_le→da,eq_of_beq_eq_true→kD,lt_succ_self→qv,lt_of_le_of_lt→gZ,lt_irrefl→xr,zero_add→ma,le_add_right→oZ,lt_trans→nF,mul_le_mul_left→ly,le_of_eq→jr,max_le→jZ,le_add_left→lz,le_succ_of_le→An,add_le_add_right→lC,le_of_succ_le→Ao,lt_of_lt_of_le→Ap,add_le_add→xt,succ_ne_self→Aq
open Nat.succ renaming inj→qB
open Ne renaming symm→jb
open Option renaming map_eq_some_iff→iz,isSome_iff_exists→AE,toList_some→AF
open Option.some renaming inj→jK
open UInt8 renaming ofNat→nP
open PySem PySem.W PyProof.Rows
set_option Elab.async false
set_option maxRecDepth 100000
set_option maxHeartbeats 64000000
set_option linter.all false
set_option genInjectivity false
set_option bootstrap.genMatcherCode false
set_option compiler.extract_closed false
set_option genSizeOf false
set_option genSizeOfSpec false
open PySem.Challenge (rw_sq0062_01)
open PyProof.Rows renaming Below→fx,News→aU,envOf→gz,slot_tuple_getitem→AD,subscriptTail→vi,IntsAre→qA,next_is_new→sL,args_nil→nM,args_cons→kG,Call_→kH,Subscript_→vj,assign_Name→Fb
open PyProof.Rows.LCg renaming lst→io
open PySem renaming Stmt→bP,Scope→bD,Params→aB,Value→aa,Obj→av,DictEntry→l5,OsState→ei,World→ah,Heap→bA,Shared→ak,Program→cP,Around→bZ,Addr→ac,Str→ai,Tok→af,Pos→aW,Flow→eK,ExcName→gp,Code→gN,Env→cu,wpAny→aC,model→aG,Result→kB,execs→d8,leaving→qm,FuncData→i9,Expr→az,CmpOp→lv,Operator→qo,Comprehension→xm,PyData→bM,eval→eD,IsPart→l6,wpAny_bind→bC,wpAny_field→ny,wpAny_pure→dR,wpAny_typeOf→sx,wpAny_newObj_type→nz,sizeLine_eq→l7,wpAny_truthy_bool→lw,wpAny_standAt→xn,wpAny_mono→gx,wpAny_comprehension_free→Ag,wpAny_pyIter_tuple→xo,NameKind→jI,wpAny_BinOp→uY,wpAny_Return_some→Ah,wpAny_execs_cons→xp,wpAny_call→oX,wpAny_of_eq→qp,excClassObj→uZ,wpAny_loadPart_at→sy,wpAny_isSubtype_exc→Ai
open PySem.Around renaming under_plainId→AJ
open PySem.BindsTo renaming of_eq→vp
open PySem.Builtin.Int renaming intBits→AL
open PySem.Builtin.List renaming listExtendWith→Fi
open PySem.Builtin.Range renaming rangeSize→Ff
open PySem.Builtin.Slice renaming slicePlaces→AH,sliceAdjust→nN,sliceApplied→Fd
open PySem.Builtin.SmallTypes renaming nextOf→Fh
open PySem.Builtin.Tuple renaming tupleExact→sP
open PySem.Calls renaming Name_function_global→Fc
open PySem.ClassData renaming mk→Aj
open PySem.Data renaming seq→cZ,fields→gY,func→sD,dict→fG
open PySem.F renaming args_object_init_2→AK,slot_tuple_iterator_next→Fe
open PySem.Flow renaming next→fP
open PySem.FuncBody renaming stmts→sG
open PySem.FuncData renaming mk→sF
open PySem.Heap renaming get?_push_of_some→gO,size_push→mo,lt_size→fH,get?_push_size→ja,get?_none_of_le→xH,dictOf_iff→xI
open PySem.NameKind renaming free→AI
open PySem.Obj renaming mk→aZ,data→sC
open PySem.PassesOwn renaming never→sR
open PySem.Pv renaming callWith_type1→nO
open PySem.PyData renaming keyHash→aO,eqv→ec,int→au,depthAll→lx,tuple→de,list→qs
open PySem.SeqAt renaming shaped→iC
open PySem.Str renaming ofString→aF
open PySem.Value renaming builtin→gX,type→aw,none→aY,int→am,ref→ae,bool→fX
open PySem.W renaming segRun_of→nG,piece_app→nH,Frag→eE,ktrTop→gy,instObj→cV,dictOf→cY,TurnsAt→mc,RaisedS→me,fresh_of_stays→xu,hideAll_get→o7,hideAll_none→xw
open PySem.W.Frag renaming In→AM
open PySem.W.KTurns renaming ofWalks→vo
namespace Mine.Internal
theorem bW:type_of% @congrArg:=@congrArg
theorem ik:type_of% @beq_iff_eq:=@beq_iff_eq
theorem ia:type_of% @beq_false_of_ne:=@beq_false_of_ne
theorem d7:type_of% @if_neg:=@if_neg
theorem cJ:type_of% @of_decide_eq_true:=@of_decide_eq_true
theorem gW:type_of% @decide_eq_true:=@decide_eq_true
local macro_rules | `(tactic| omega) => `(tactic| first | lia | omega (config := {}))
section
noncomputable section
noncomputable abbrev PW:Program:=PySem.Challenge.pw_sq0062_01
noncomputable def dH (i:Nat):Stmt:=PW.main.body.getD i (.Pass ⟨0,0,0,0⟩)
noncomputable def cB:bP->List bP| .ClassDef z y q b ..=>b|_=>[]
noncomputable def nQ (i j:Nat):Stmt:=(cB (dH i)).getD j (.Pass ⟨0,0,0,0⟩)
noncomputable def noArgs:Arguments:={posonlyargs:=[],args:=[],vararg:=none,kwonlyargs:=[],kw_defaults:=[],kwarg:=none,defaults:=[]}
noncomputable def sA:bP->Arguments| .FunctionDef z a ..=>a|_=>noArgs
noncomputable def sB:bP->List bP| .FunctionDef z y b ..=>b|_=>[]
noncomputable def sS:bP->bD| .FunctionDef z y q j u g s ..=>s|_=>PW.main.scope
noncomputable abbrev dE (P:aB) (x:String) (t:Nat) (v:aa):DictEntry:=DictEntry.mk (aO P (aF x)) (Value.str (aF x) t) v
noncomputable abbrev HO:=aB->av
noncomputable abbrev vS (s:String) (t:Nat):Value:=Value.str (aF s) t
noncomputable abbrev sO (s:String):Str:=aF s
noncomputable def bL (P:aB):Nat->List String->List l5
 |z,[]=>[]
 |t,s::r=>dE P s t (gX s)::bL P (t+1) r
noncomputable def h0:HO:=λP=>aZ (aw "tuple") none (cZ #[]) #[]
noncomputable def h1:HO:=λP=>aZ aY none (gY #[]) #[]
noncomputable def h2 (a:String) (b:Nat) (c:String) (d:Nat) (e:Nat) (f:Nat) (g:Nat):HO:=λP=>aZ (aw "code") none (gY #[vS a b,vS c (b+1),vS "/claim/cut.py" (b+2),am d 0,am e 0,am 0 0,am 0 0,am 3 0,ae f,fX l8,am 181 0,ae (f+1),aY,ae (f+2),ae (f+3),ae (f+4),am g 0,am d 0,vS "/claim/cut.py" (g+1)]) #[]
noncomputable def h3 (a:String) (b:Nat):HO:=λP=>aZ aY none (sD (sF (sO a) (sO a) (sA (dH b)) (sG (sB (dH b))) (sS (dH b)) 0 [] aY aY aY aY none aY aY 0)) #[]
noncomputable def h4 (a:String) (b:String) (c:Nat) (d:Nat):HO:=λP=>aZ aY none (sD (sF (sO a) (sO b) (sA (nQ c d)) (sG (sB (nQ c d))) (sS (nQ c d)) 0 [] aY aY aY aY none aY aY 0)) #[]
noncomputable def h5 (a:String) (b:Nat) (c:String) (d:Nat) (e:Nat):HO:=λP=>aZ (aw "function") none (sD (sF (sO a) (sO a) (sA (dH b)) (sG (sB (dH b))) (sS (dH b)) 3 [] aY aY aY (vS c d) none (ae e) aY 0)) #[]
noncomputable def h6 (a:String) (b:String) (c:Nat) (d:Nat) (e:String) (f:Nat) (g:Nat):HO:=λP=>aZ (aw "function") none (sD (sF (sO a) (sO b) (sA (nQ c d)) (sG (sB (nQ c d))) (sS (nQ c d)) 3 [] aY aY aY (vS e f) none (ae g) aY 0)) #[]
noncomputable def h7 (a:String) (b:Nat) (c:String):HO:=λP=>aZ (aw "tuple") none (cZ #[vS a b,vS c (b+1)]) #[]
noncomputable def h8 (a:String) (b:Nat) (c:Nat) (d:Nat) (e:Nat):HO:=λP=>aZ (aw "code") none (gY #[vS a b,vS a (b+1),vS "/claim/cut.py" (b+2),am c 0,am 0 0,am 0 0,am 0 0,am 0 0,ae d,fX kC,am e 0,ae (d+1),aY,aY,aY,aY,am (b+3) 0,am c 0,vS "/claim/cut.py" (b+4)]) #[]
noncomputable def h9 (a:Nat) (b:Nat) (c:String) (d:Nat):HO:=λP=>aZ (aw "frame") none Data.plain #[some (ae a),some (ae 3),some (ae b),none,some (vS c d),none,some (ae 0)]
noncomputable def cT:HO:=λP=>aZ (aw "builtin_function_or_method") none (gY #[gX "type.__prepare__",aw "type"]) #[]
noncomputable def dq (a:Nat):HO:=λP=>aZ (aw "super") none (gY #[ae a,ae a,ae a]) #[]
noncomputable def du (a:Nat):HO:=λP=>aZ (aw "builtin_function_or_method") none (gY #[gX "object.__init_subclass__",ae a]) #[]
noncomputable def eV (a:String) (b:Nat):HO:=λP=>aZ (aw "tuple") none (cZ #[vS a b]) #[]
noncomputable def gB (a:String) (b:Nat) (c:String) (d:String):HO:=λP=>aZ (aw "tuple") none (cZ #[vS a b,vS c (b+1),vS d (b+2)]) #[]
noncomputable def hU (a:Nat) (b:Nat):HO:=λP=>aZ (aw "getset_descriptor") none (gY #[vS "__weakref__" a,ae b,gX "ExceptionGroup.__weakref__",aY]) #[]
noncomputable def ic (a:String) (b:Nat) (c:Nat) (d:Nat):HO:=λP=>aZ (aw "type") none (Data.cls (Aj (sO a) [aw "object"] [ae b,aw "object"] c (sO a) l8 [] [] kC none kC)) #[none,none,some (vS a d),some (vS a (d+8)),some (gX "object.__new__"),some (fX l8)]
noncomputable def ie (a:Nat) (b:Nat):HO:=λP=>aZ (aw "getset_descriptor") none (gY #[vS "__dict__" a,ae b,gX "function.__dict__",gX "function.__dict__#set"]) #[]
noncomputable def iE (a:Nat) (b:Nat):HO:=λP=>aZ aY none (gY #[am a 0,am 4 0,ae b]) #[]
noncomputable def kJ (a:Nat) (b:String) (c:Nat) (d:Nat) (e:Nat) (f:Nat) (g:Nat) (h:Nat):HO:=λP=>aZ (aw "dict") none (fG #[dE P "__module__" a (vS "gluepage.nodes" 553),dE P "__qualname__" (a+2) (vS b (a+1)),dE P "__firstlineno__" (a+4) (am c (a+3)),dE P "kind" (a+5) (am d e),dE P "__init__" f (ae g),dE P "__static_attributes__" h (ae (g+1))] 6) #[]
noncomputable def js (a:Nat) (b:Nat) (c:Nat) (d:Nat) (e:Nat) (f:Nat) (g:Nat):HO:=λP=>aZ (aw "dict") none (fG #[dE P "__module__" a (vS "gluepage.nodes" 553),dE P "__firstlineno__" (a+4) (am b (a+3)),dE P "kind" (a+5) (am c d),dE P "__init__" e (ae f),dE P "__static_attributes__" g (ae (f+1)),dE P "__dict__" (g+2) (ae (f+4)),dE P "__weakref__" (g+4) (ae (f+5)),dE P "__doc__" (g+5) aY] 4) #[]
noncomputable def nR (a:Nat):HO:=λP=>aZ (aw "tuple_iterator") none (gY #[aY,am a 0]) #[]
noncomputable def nS (a:Nat):HO:=λP=>aZ (aw "StopIteration") none (gY #[ae a,aY,aY,aY,fX kC,aY]) #[]
noncomputable def pf (a:String) (b:Nat) (c:String) (d:Nat) (e:Nat) (f:Nat):HO:=λP=>aZ (aw "code") none (gY #[vS a b,vS c (b+1),vS "/claim/cut.py" (b+2),am d 0,am e 0,am 0 0,am 0 0,am 3 0,ae f,fX l8,am 181 0,ae (f+1),aY,aY,aY,ae (f+2),am (b+3) 0,am d 0,vS "/claim/cut.py" (b+4)]) #[]
noncomputable def qC (a:String) (b:String) (c:Nat) (d:Nat) (e:Nat) (f:String) (g:Nat) (h:Nat):HO:=λP=>aZ (aw "function") none (sD (sF (sO a) (sO b) (sA (nQ c d)) (sG (sB (nQ c d))) (sS (nQ c d)) 3 [] (ae e) aY aY (vS f g) none (ae h) aY 0)) #[]
noncomputable def sV (a:String) (b:Nat) (c:String) (d:String) (e:String) (f:String):HO:=λP=>aZ (aw "tuple") none (cZ #[vS a b,vS c (b+1),vS d (b+2),vS e (b+3),vS f (b+4)]) #[]
noncomputable def vq (a:String) (b:Nat) (c:String) (d:String) (e:String):HO:=λP=>aZ (aw "tuple") none (cZ #[vS a b,vS c (b+1),vS d (b+2),vS e (b+3)]) #[]
noncomputable def vt (a:String) (b:Nat) (c:Nat) (d:String) (e:Nat) (f:Nat):HO:=λP=>aZ (aw "function") none (sD (sF (sO a) (sO a) (sA (dH b)) (sG (sB (dH b))) (sS (dH b)) 3 [] (ae c) aY aY (vS d e) none (ae f) aY 0)) #[]
noncomputable def xK:HO:=λP=>aZ (aw "tuple") none (cZ #[ae 39]) #[]
noncomputable def xL (a:Nat) (b:String) (c:Nat) (d:Nat):HO:=λP=>aZ (aw "dict") none (fG #[dE P "__module__" a (vS "gluepage.errors" 194),dE P "__qualname__" (a+2) (vS b (a+1)),dE P "__firstlineno__" (a+4) (am c (a+3)),dE P "__static_attributes__" (a+5) (ae d)] 4) #[]
noncomputable def xM (a:Nat) (b:Nat) (c:Nat):HO:=λP=>aZ (aw "dict") none (fG #[dE P "__module__" a (vS "gluepage.errors" 194),dE P "__firstlineno__" (a+4) (am b (a+3)),dE P "__static_attributes__" (a+5) (ae c),dE P "__doc__" (a+6) aY] 2) #[]
noncomputable def xN (a:String) (b:Nat) (c:Nat) (d:Nat) (e:Nat):HO:=λP=>aZ (aw "type") none (Data.cls (Aj (sO a) [ae 39] [ae b,ae 39,aw "ValueError",aw "Exception",aw "BaseException",aw "object"] c (sO a) l8 [] [] kC none kC)) #[some (ae d),none,some (vS a e),some (vS a (e+8)),some (gX "ValueError.__new__"),some (fX l8)]
noncomputable def xO (a:Nat):HO:=λP=>aZ (aw "tuple") none (cZ #[am 0 a,am 1 (a+1),am 2 (a+2),am 3 (a+3)]) #[]
noncomputable def xP (a:String) (b:Nat) (c:String) (d:String) (e:String) (f:String) (g:String) (h:String):HO:=λP=>aZ (aw "tuple") none (cZ #[vS a b,vS c (b+1),vS d (b+2),vS e (b+3),vS f (b+4),vS g (b+5),vS h (b+6)]) #[]
noncomputable def xQ (a:String) (b:Nat) (c:String) (d:String) (e:String) (f:String) (g:String):HO:=λP=>aZ (aw "tuple") none (cZ #[vS a b,vS c (b+1),vS d (b+2),vS e (b+3),vS f (b+4),vS g (b+5)]) #[]
noncomputable def xR (a:Nat) (b:String) (c:Nat) (d:Nat) (e:Nat) (f:Nat) (g:Nat):HO:=λP=>aZ (aw "dict") none (fG #[dE P "__module__" a (vS "gluepage.nodes" 553),dE P "__qualname__" (a+2) (vS b (a+1)),dE P "__firstlineno__" (a+4) (am c (a+3)),dE P "kind" (a+5) (am 13 576),dE P "sort" (a+6) (am d (d+613)),dE P "__init__" e (ae f),dE P "__static_attributes__" g (ae (f+1))] 7) #[]
noncomputable def sW (a:Nat) (b:Nat) (c:Nat) (d:Nat) (e:Nat) (f:Nat):HO:=λP=>aZ (aw "dict") none (fG #[dE P "__module__" a (vS "gluepage.nodes" 553),dE P "__firstlineno__" (a+4) (am b (a+3)),dE P "kind" (a+5) (am 13 576),dE P "sort" (a+6) (am c (c+613)),dE P "__init__" d (ae e),dE P "__static_attributes__" f (ae (e+1)),dE P "__dict__" (f+2) (ae (e+4)),dE P "__weakref__" (f+4) (ae (e+5)),dE P "__doc__" (f+5) aY] 4) #[]
noncomputable def xS (a:Nat):HO:=λP=>aZ (aw "tuple") none (cZ #[am 0 a]) #[]
noncomputable def AP (a:Nat) (b:Nat) (c:Nat) (d:Nat) (e:Nat) (f:Nat) (g:Nat) (h:Nat):HO:=λP=>aZ (aw "tuple") none (cZ #[am a b,am c (b+1),am d (b+2),am e (b+3),am f (b+4),am g (b+5),am h (b+6)]) #[]
noncomputable def AQ (a:String) (b:Nat) (c:String) (d:String) (e:String) (f:String) (g:String) (h:String) (i:String) (j:String):HO:=λP=>aZ (aw "tuple") none (cZ #[vS a b,vS c (b+1),vS d (b+2),vS e (b+3),vS f (b+4),vS g (b+5),vS h (b+6),vS i (b+7),vS j (b+8)]) #[]
noncomputable def Nc (a:Nat) (b:Nat) (c:Nat) (d:Nat) (e:Nat) (f:Nat) (g:Nat) (h:Nat) (i:Nat) (j:Nat):HO:=λP=>aZ aY none (gY #[am a 0,am b 0,ae c,am d 0,am b 0,ae (c+7),am (a+8) 0,am b 0,ae e,am (d+6) 0,am b 0,ae f,am g 0,am b 0,ae h,am i 0,am b 0,ae j]) #[]
noncomputable def Fj (a:Nat) (b:String) (c:Nat) (d:String) (e:Nat) (f:Nat) (g:Nat) (h:Nat):HO:=λP=>aZ (aw "dict") none (fG #[dE P "__module__" a (vS b c),dE P "__qualname__" (a+2) (vS d (a+1)),dE P "__firstlineno__" (a+4) (am e (a+3)),dE P "__init__" f (ae g),dE P "__static_attributes__" h (ae (g+1))] 5) #[]
noncomputable def Fk (a:Nat) (b:Nat) (c:Nat) (d:Nat):HO:=λP=>aZ (aw "tuple") none (cZ #[am a b,am c (b+1),am d (b+2)]) #[]
noncomputable def Fl (a:String) (b:Nat) (c:String) (d:String) (e:String) (f:String) (g:String) (h:String) (i:String):HO:=λP=>aZ (aw "tuple") none (cZ #[vS a b,vS c (b+1),vS d (b+2),vS e (b+3),vS f (b+4),vS g (b+5),vS h (b+6),vS i (b+7)]) #[]
noncomputable def mq (P:aB):List DictEntry:=[dE P "__doc__" 166 aY,dE P "__package__" 167 aY,dE P "__loader__" 168 (gX "__main__.__loader__#opaque"),dE P "__spec__" 169 aY,dE P "__annotations__" 170 (ae 6),dE P "__builtins__" 171 (ae 4),dE P "__file__" 173 (vS "/claim/cut.py" 172),dE P "__cached__" 174 aY,dE P "_wall" 193 (ae 21),dE P "PageError" 223 (ae 39),dE P "BadArgument" 239 (ae 52),dE P "Overflow" 255 (ae 64),dE P "BadFont" 271 (ae 76),dE P "TooDeep" 287 (ae 88),dE P "UNITY" 291 (am 65536 290),dE P "MAX_DIMEN" 297 (am 1073741823 296),dE P "MAX_NUMBER" 303 (am 2147483647 302),dE P "NORMAL" 308 (am 0 304),dE P "FIL" 309 (am 1 305),dE P "FILL" 310 (am 2 306),dE P "FILLL" 311 (am 3 307),dE P "is_whole" 320 (ae 101),dE P "check_whole" 327 (ae 108),dE P "check_number" 334 (ae 115),dE P "check_dimen" 341 (ae 122),dE P "rounded" 349 (ae 129),dE P "reading" 357 (ae 136),dE P "decimal_text" 370 (ae 143),dE P "order_text" 377 (ae 150),dE P "part_text" 386 (ae 157),dE P "Glue" 484 (ae 225),dE P "Totals" 552 (ae 281),dE P "CHAR" 563 (am 0 555),dE P "LIGATURE" 564 (am 1 556),dE P "HBOX" 565 (am 2 557),dE P "VBOX" 566 (am 3 558),dE P "RULE" 567 (am 4 559),dE P "KERN" 568 (am 5 560),dE P "GLUE" 569 (am 6 561),dE P "PENALTY" 570 (am 7 562),dE P "DISC" 578 (am 8 571),dE P "MARK" 579 (am 9 572),dE P "INSERT" 580 (am 10 573),dE P "ADJUST" 581 (am 11 574),dE P "MATH" 582 (am 12 575),dE P "SPECIAL" 583 (am 13 576),dE P "UNSET" 584 (am 14 577),dE P "NATURAL" 588 (am 0 585),dE P "STRETCHED" 589 (am 1 586),dE P "SHRUNK" 590 (am 2 587),dE P "FONT_KERN" 595 (am 0 591),dE P "EXPLICIT" 596 (am 1 592),dE P "ACCENT_KERN" 597 (am 2 593),dE P "MU_KERN" 598 (am 3 594),dE P "PLAIN" 606 (am 0 599),dE P "ALEADERS" 607 (am 1 600),dE P "CLEADERS" 608 (am 2 601),dE P "XLEADERS" 609 (am 3 602),dE P "MU_SKIP" 610 (am 4 603),dE P "NONSCRIPT" 611 (am 5 604),dE P "NAMED" 612 (am 100 605),dE P "FOR_DEVICE" 617 (am 0 613),dE P "WRITING" 618 (am 1 614),dE P "OPENING" 619 (am 2 615),dE P "CLOSING" 620 (am 3 616),dE P "DEEPEST" 622 (am 60 621),dE P "check_code" 629 (ae 316),dE P "check_short" 637 (ae 323),dE P "Char" 669 (ae 340),dE P "Ligature" 701 (ae 360),dE P "Box" 742 (ae 381),dE P "Rule" 777 (ae 402),dE P "Kern" 809 (ae 423),dE P "Skip" 843 (ae 445),dE P "Penalty" 873 (ae 466),dE P "Disc" 907 (ae 487),dE P "Mark" 937 (ae 508),dE P "Insert" 977 (ae 529),dE P "Adjust" 1007 (ae 550),dE P "MathEdge" 1039 (ae 571),dE P "Special" 1071 (ae 592),dE P "Write" 1104 (ae 613),dE P "OpenOut" 1137 (ae 634),dE P "CloseOut" 1168 (ae 655),dE P "Unset" 1210 (ae 677),dE P "check_depth" 1217 (ae 688),dE P "copied_box" 1226 (ae 695),dE P "copied_special" 1233 (ae 702),dE P "copied_rest" 1243 (ae 709),dE P "copy_node" 1253 (ae 717),dE P "copy_list" 1260 (ae 723),dE P "described_special" 1266 (ae 728),dE P "described_rest" 1277 (ae 735),dE P "described" 1284 (ae 741),dE P "described_list" 1291 (ae 747),dE P "EDGE" 1295 (am 256 1294),dE P "MOST_FONTS" 1297 (am 255 1296),dE P "MOST_PARAMS" 1299 (am 64 1298),dE P "MOST_SIZE" 1305 (am 134217727 1304),dE P "PLAIN_SORT" 1310 (am 0 1306),dE P "PROGRAM_SORT" 1311 (am 1 1307),dE P "LARGER_SORT" 1312 (am 2 1308),dE P "PIECES_SORT" 1313 (am 3 1309),dE P "STOP_SKIP" 1317 (am 128 1314),dE P "KERN_OP" 1318 (am 128 1315),dE P "LEAD" 1319 (am 255 1316),dE P "NO_CHARACTER" 1326 (ae 756),dE P "LETTERS" 1328 (vS "abcdefghjklmnopqrstuvwxyz" 1327),dE P "SMALL_PARAMS" 1336 (ae 757),dE P "is_size" 1343 (ae 764),dE P "check_sizes" 1351 (ae 771),dE P "check_pieces" 1361 (ae 778),dE P "check_chars" 1373 (ae 785),dE P "check_larger" 1383 (ae 792),dE P "check_program" 1401 (ae 799),dE P "left_start" 1412 (ae 806),dE P "Font" 1543 (ae 896),dE P "font_name" 1552 (ae 907),dE P "font_of_rows" 1566 (ae 917),dE P "_law_spans" 1575 (ae 924),dE P "_law_heap" 1584 (ae 931),dE P "_law_take" 1593 (ae 938),dE P "_law_tree" 1599 (ae 943),dE P "_law_size" 1606 (ae 950),dE P "_law_leader" 1614 (ae 957),dE P "_law_held" 1620 (ae 962),dE P "_law_node" 1631 (ae 969),dE P "_law_turned" 1646 (ae 976),dE P "_law_spoil" 1655 (ae 983),dE P "_law_deep" 1668 (ae 990),dE P "law" 1674 (ae 995)]
noncomputable def sX (P:aB):List Value:=[am 0 0,ae 20,am 5 0,am 0 0,ae 27,am 9 0,am 0 0,ae 48,am 11 0,am 0 0,ae 60,am 13 0,am 0 0,ae 72,am 15 0,am 0 0,ae 84,am 22 0,am 0 0,ae 100,am 24 0,am 0 0,ae 107,am 28 0,am 0 0,ae 114,am 32 0,am 0 0,ae 121,am 36 0,am 0 0,ae 128,am 42 0,am 0 0,ae 135,am 44 0,am 0 0,ae 142,am 55 0,am 0 0,ae 149,am 57 0,am 0 0,ae 156,am 59 0,am 0 0,ae 163,am 95 0,am 0 0,ae 235,am 128 0,am 0 0,ae 315,am 132 0,am 0 0,ae 322,am 137 0,am 0 0,ae 329,am 143 0,am 0 0,ae 350,am 152 0,am 0 0,ae 370,am 166 0,am 0 0,ae 391,am 176 0,am 0 0,ae 412,am 184 0,am 0 0,ae 433,am 197 0,am 0 0,ae 455,am 202 0,am 0 0,ae 476,am 209 0,am 0 0,ae 497,am 214 0,am 0 0,ae 518,am 226 0,am 0 0,ae 539,am 231 0,am 0 0,ae 560,am 237 0,am 0 0,ae 581,am 248 0,am 0 0,ae 602,am 255 0,am 0 0,ae 623,am 264 0,am 0 0,ae 644,am 270 0,am 0 0,ae 665,am 283 0,am 0 0,ae 687,am 286 0,am 0 0,ae 694,am 293 0,am 0 0,ae 701,am 299 0,am 0 0,ae 708,am 313 0,am 0 0,ae 716,am 335 0,am 0 0,ae 722,am 337 0,am 0 0,ae 727,am 343 0,am 0 0,ae 734,am 358 0,am 0 0,ae 740,am 381 0,am 0 0,ae 746,am 393 0,am 0 0,ae 763,am 395 0,am 0 0,ae 770,am 399 0,am 0 0,ae 777,am 405 0,am 0 0,ae 784,am 417 0,am 0 0,ae 791,am 425 0,am 0 0,ae 798,am 444 0,am 0 0,ae 805,am 449 0,am 0 0,ae 812,am 506 0,am 0 0,ae 906,am 513 0,am 0 0,ae 916,am 523 0,am 0 0,ae 923,am 526 0,am 0 0,ae 930,am 531 0,am 0 0,ae 937,am 538 0,am 0 0,ae 942,am 543 0,am 0 0,ae 949,am 545 0,am 0 0,ae 956,am 549 0,am 0 0,ae 961,am 564 0,am 0 0,ae 968,am 587 0,am 0 0,ae 975,am 603 0,am 0 0,ae 982,am 617 0,am 0 0,ae 989,am 632 0,am 0 0,ae 994]
noncomputable def KK (P:aB):Frag:=(nat_lit 3,aZ (aw "dict") none (fG ((dE P "__name__" 165 (vS "law_sq0062_01" 1567)::mq P).toArray) 132) #[])::(nat_lit 21,h5 "_wall" 0 "__main__" 164 20 P)::(nat_lit 36,qC "__init__" "PageError.__init__" 2 0 29 "gluepage.errors" 194 35 P)::(nat_lit 101,h5 "is_whole" 12 "gluepage.scaled" 288 100 P)::(nat_lit 108,h5 "check_whole" 13 "gluepage.scaled" 288 107 P)::(nat_lit 115,h5 "check_number" 14 "gluepage.scaled" 288 114 P)::(nat_lit 122,h5 "check_dimen" 15 "gluepage.scaled" 288 121 P)::(nat_lit 129,h5 "rounded" 16 "gluepage.scaled" 288 128 P)::(nat_lit 136,h5 "reading" 17 "gluepage.scaled" 288 135 P)::(nat_lit 143,h5 "decimal_text" 18 "gluepage.scaled" 288 142 P)::(nat_lit 150,h5 "order_text" 19 "gluepage.scaled" 288 149 P)::(nat_lit 157,h5 "part_text" 20 "gluepage.scaled" 288 156 P)::(nat_lit 172,qC "__init__" "Glue.__init__" 21 0 165 "gluepage.scaled" 288 171 P)::(nat_lit 179,h6 "parts" "Glue.parts" 21 1 "gluepage.scaled" 288 178 P)::(nat_lit 186,h6 "same" "Glue.same" 21 2 "gluepage.scaled" 288 185 P)::(nat_lit 193,h6 "added" "Glue.added" 21 3 "gluepage.scaled" 288 192 P)::(nat_lit 200,h6 "times" "Glue.times" 21 4 "gluepage.scaled" 288 199 P)::(nat_lit 207,h6 "over" "Glue.over" 21 5 "gluepage.scaled" 288 206 P)::(nat_lit 214,h6 "negated" "Glue.negated" 21 6 "gluepage.scaled" 288 213 P)::(nat_lit 222,qC "text" "Glue.text" 21 7 215 "gluepage.scaled" 288 221 P)::(nat_lit 243,h6 "__init__" "Totals.__init__" 22 0 "gluepage.scaled" 288 242 P)::(nat_lit 250,h6 "add" "Totals.add" 22 1 "gluepage.scaled" 288 249 P)::(nat_lit 257,h6 "widen" "Totals.widen" 22 2 "gluepage.scaled" 288 256 P)::(nat_lit 264,h6 "stretch_top" "Totals.stretch_top" 22 3 "gluepage.scaled" 288 263 P)::(nat_lit 271,h6 "shrink_top" "Totals.shrink_top" 22 4 "gluepage.scaled" 288 270 P)::(nat_lit 278,h6 "copy" "Totals.copy" 22 5 "gluepage.scaled" 288 277 P)::(nat_lit 316,h5 "check_code" 31 "gluepage.nodes" 553 315 P)::(nat_lit 323,h5 "check_short" 32 "gluepage.nodes" 553 322 P)::(nat_lit 337,h6 "__init__" "Char.__init__" 33 1 "gluepage.nodes" 553 336 P)::(nat_lit 357,qC "__init__" "Ligature.__init__" 34 1 352 "gluepage.nodes" 553 356 P)::(nat_lit 378,h6 "__init__" "Box.__init__" 35 0 "gluepage.nodes" 553 377 P)::(nat_lit 399,h6 "__init__" "Rule.__init__" 36 1 "gluepage.nodes" 553 398 P)::(nat_lit 420,h6 "__init__" "Kern.__init__" 37 1 "gluepage.nodes" 553 419 P)::(nat_lit 442,qC "__init__" "Skip.__init__" 38 1 435 "gluepage.nodes" 553 441 P)::(nat_lit 463,h6 "__init__" "Penalty.__init__" 39 1 "gluepage.nodes" 553 462 P)::(nat_lit 484,h6 "__init__" "Disc.__init__" 40 1 "gluepage.nodes" 553 483 P)::(nat_lit 505,h6 "__init__" "Mark.__init__" 41 1 "gluepage.nodes" 553 504 P)::(nat_lit 526,h6 "__init__" "Insert.__init__" 42 1 "gluepage.nodes" 553 525 P)::(nat_lit 547,h6 "__init__" "Adjust.__init__" 43 1 "gluepage.nodes" 553 546 P)::(nat_lit 568,h6 "__init__" "MathEdge.__init__" 44 1 "gluepage.nodes" 553 567 P)::(nat_lit 589,h6 "__init__" "Special.__init__" 45 2 "gluepage.nodes" 553 588 P)::(nat_lit 610,h6 "__init__" "Write.__init__" 46 2 "gluepage.nodes" 553 609 P)::(nat_lit 631,h6 "__init__" "OpenOut.__init__" 47 2 "gluepage.nodes" 553 630 P)::(nat_lit 652,h6 "__init__" "CloseOut.__init__" 48 2 "gluepage.nodes" 553 651 P)::(nat_lit 674,qC "__init__" "Unset.__init__" 49 1 667 "gluepage.nodes" 553 673 P)::(nat_lit 688,h5 "check_depth" 50 "gluepage.nodes" 553 687 P)::(nat_lit 695,h5 "copied_box" 51 "gluepage.nodes" 553 694 P)::(nat_lit 702,h5 "copied_special" 52 "gluepage.nodes" 553 701 P)::(nat_lit 709,h5 "copied_rest" 53 "gluepage.nodes" 553 708 P)::(nat_lit 717,vt "copy_node" 54 710 "gluepage.nodes" 553 716 P)::(nat_lit 723,vt "copy_list" 55 718 "gluepage.nodes" 553 722 P)::(nat_lit 728,h5 "described_special" 56 "gluepage.nodes" 553 727 P)::(nat_lit 735,h5 "described_rest" 57 "gluepage.nodes" 553 734 P)::(nat_lit 741,vt "described" 58 736 "gluepage.nodes" 553 740 P)::(nat_lit 747,vt "described_list" 59 742 "gluepage.nodes" 553 746 P)::(nat_lit 764,h5 "is_size" 70 "gluepage.fonts" 1292 763 P)::(nat_lit 771,h5 "check_sizes" 71 "gluepage.fonts" 1292 770 P)::(nat_lit 778,h5 "check_pieces" 72 "gluepage.fonts" 1292 777 P)::(nat_lit 785,h5 "check_chars" 73 "gluepage.fonts" 1292 784 P)::(nat_lit 792,h5 "check_larger" 74 "gluepage.fonts" 1292 791 P)::(nat_lit 799,h5 "check_program" 75 "gluepage.fonts" 1292 798 P)::(nat_lit 806,h5 "left_start" 76 "gluepage.fonts" 1292 805 P)::(nat_lit 823,qC "__init__" "Font.__init__" 77 0 816 "gluepage.fonts" 1292 822 P)::(nat_lit 830,h6 "has" "Font.has" 77 1 "gluepage.fonts" 1292 829 P)::(nat_lit 837,h6 "width" "Font.width" 77 2 "gluepage.fonts" 1292 836 P)::(nat_lit 844,h6 "height" "Font.height" 77 3 "gluepage.fonts" 1292 843 P)::(nat_lit 851,h6 "depth" "Font.depth" 77 4 "gluepage.fonts" 1292 850 P)::(nat_lit 858,h6 "italic" "Font.italic" 77 5 "gluepage.fonts" 1292 857 P)::(nat_lit 865,h6 "starts" "Font.starts" 77 6 "gluepage.fonts" 1292 864 P)::(nat_lit 872,h6 "larger" "Font.larger" 77 7 "gluepage.fonts" 1292 871 P)::(nat_lit 879,h6 "pieces" "Font.pieces" 77 8 "gluepage.fonts" 1292 878 P)::(nat_lit 886,h6 "param" "Font.param" 77 9 "gluepage.fonts" 1292 885 P)::(nat_lit 893,h6 "set_param" "Font.set_param" 77 10 "gluepage.fonts" 1292 892 P)::(nat_lit 907,h5 "font_name" 78 "gluepage.fonts" 1292 906 P)::(nat_lit 917,vt "font_of_rows" 79 910 "gluepage.fonts" 1292 916 P)::(nat_lit 924,h5 "_law_spans" 81 "law_sq0062_01" 1567 923 P)::(nat_lit 931,h5 "_law_heap" 82 "law_sq0062_01" 1567 930 P)::(nat_lit 938,h5 "_law_take" 83 "law_sq0062_01" 1567 937 P)::(nat_lit 943,h5 "_law_tree" 84 "law_sq0062_01" 1567 942 P)::(nat_lit 950,h5 "_law_size" 85 "law_sq0062_01" 1567 949 P)::(nat_lit 957,h5 "_law_leader" 86 "law_sq0062_01" 1567 956 P)::(nat_lit 962,h5 "_law_held" 87 "law_sq0062_01" 1567 961 P)::(nat_lit 969,h5 "_law_node" 88 "law_sq0062_01" 1567 968 P)::(nat_lit 976,h5 "_law_turned" 89 "law_sq0062_01" 1567 975 P)::(nat_lit 983,h5 "_law_spoil" 90 "law_sq0062_01" 1567 982 P)::(nat_lit 990,h5 "_law_deep" 91 "law_sq0062_01" 1567 989 P)::(nat_lit 995,h5 "law" 92 "law_sq0062_01" 1567 994 P)::(nat_lit 39,aZ (aw "type") none (Data.cls (Aj (sO "PageError") [aw "ValueError"] [ae 39,aw "ValueError",aw "Exception",aw "BaseException",aw "object"] 38 (sO "PageError") l8 [] [ae 52,ae 64,ae 76,ae 88] kC none kC)) #[some (ae 22),none,some (vS "PageError" 196),some (vS "PageError" 204),some (gX "ValueError.__new__"),some (fX l8)])::(nat_lit 52,xN "BadArgument" 52 51 43 224 P)::(nat_lit 64,xN "Overflow" 64 63 55 240 P)::(nat_lit 76,xN "BadFont" 76 75 67 256 P)::(nat_lit 88,xN "TooDeep" 88 87 79 272 P)::(nat_lit 225,ic "Glue" 225 224 387 P)::(nat_lit 281,ic "Totals" 281 280 485 P)::(nat_lit 340,ic "Char" 340 339 638 P)::(nat_lit 360,ic "Ligature" 360 359 670 P)::(nat_lit 381,ic "Box" 381 380 702 P)::(nat_lit 402,ic "Rule" 402 401 743 P)::(nat_lit 423,ic "Kern" 423 422 778 P)::(nat_lit 445,ic "Skip" 445 444 810 P)::(nat_lit 466,ic "Penalty" 466 465 844 P)::(nat_lit 487,ic "Disc" 487 486 874 P)::(nat_lit 508,ic "Mark" 508 507 908 P)::(nat_lit 529,ic "Insert" 529 528 938 P)::(nat_lit 550,ic "Adjust" 550 549 978 P)::(nat_lit 571,ic "MathEdge" 571 570 1008 P)::(nat_lit 592,ic "Special" 592 591 1040 P)::(nat_lit 613,ic "Write" 613 612 1072 P)::(nat_lit 634,ic "OpenOut" 634 633 1105 P)::(nat_lit 655,ic "CloseOut" 655 654 1138 P)::(nat_lit 677,ic "Unset" 677 676 1169 P)::(nat_lit 896,ic "Font" 896 895 1413 P)::(nat_lit 38,aZ (aw "dict") none (fG #[dE P "__module__" 203 (vS "gluepage.errors" 194),dE P "__firstlineno__" 207 (am 5 206),dE P "__init__" 216 (ae 36),dE P "__static_attributes__" 218 (ae 37),dE P "__weakref__" 220 (ae 40),dE P "__doc__" 221 aY] 3) #[])::(nat_lit 51,xM 231 9 50 P)::(nat_lit 63,xM 247 11 62 P)::(nat_lit 75,xM 263 13 74 P)::(nat_lit 87,xM 279 15 86 P)::(nat_lit 224,aZ (aw "dict") none (fG #[dE P "__module__" 394 (vS "gluepage.scaled" 288),dE P "__firstlineno__" 398 (am 59 397),dE P "__init__" 415 (ae 172),dE P "parts" 422 (ae 179),dE P "same" 430 (ae 186),dE P "added" 438 (ae 193),dE P "times" 446 (ae 200),dE P "over" 454 (ae 207),dE P "negated" 461 (ae 214),dE P "text" 471 (ae 222),dE P "__static_attributes__" 477 (ae 223),dE P "__dict__" 479 (ae 226),dE P "__weakref__" 481 (ae 227),dE P "__doc__" 482 aY] 4) #[])::(nat_lit 280,aZ (aw "dict") none (fG #[dE P "__module__" 492 (vS "gluepage.scaled" 288),dE P "__firstlineno__" 496 (am 95 495),dE P "__init__" 503 (ae 243),dE P "add" 511 (ae 250),dE P "widen" 519 (ae 257),dE P "stretch_top" 526 (ae 264),dE P "shrink_top" 533 (ae 271),dE P "copy" 541 (ae 278),dE P "__static_attributes__" 545 (ae 279),dE P "__dict__" 547 (ae 282),dE P "__weakref__" 549 (ae 283),dE P "__doc__" 550 aY] 4) #[])::(nat_lit 339,js 645 137 0 555 659 337 662 P)::(nat_lit 359,js 677 143 1 556 688 357 694 P)::(nat_lit 380,aZ (aw "dict") none (fG #[dE P "__module__" 709 (vS "gluepage.nodes" 553),dE P "__firstlineno__" 713 (am 152 712),dE P "__init__" 725 (ae 378),dE P "__static_attributes__" 735 (ae 379),dE P "__dict__" 737 (ae 382),dE P "__weakref__" 739 (ae 383),dE P "__doc__" 740 aY] 4) #[])::(nat_lit 401,js 750 166 4 559 766 399 770 P)::(nat_lit 422,js 785 176 5 560 799 420 802 P)::(nat_lit 444,js 817 184 6 561 832 442 836 P)::(nat_lit 465,js 851 197 7 562 864 463 866 P)::(nat_lit 486,js 881 202 8 571 896 484 900 P)::(nat_lit 507,js 915 209 9 572 928 505 930 P)::(nat_lit 528,js 945 214 10 573 963 526 970 P)::(nat_lit 549,js 985 226 11 574 998 547 1000 P)::(nat_lit 570,js 1015 231 12 575 1029 568 1032 P)::(nat_lit 591,sW 1047 237 0 1062 589 1064 P)::(nat_lit 612,sW 1079 248 1 1094 610 1097 P)::(nat_lit 633,sW 1112 255 2 1127 631 1130 P)::(nat_lit 654,sW 1145 264 3 1159 652 1161 P)::(nat_lit 676,js 1176 270 14 577 1195 674 1203 P)::(nat_lit 895,aZ (aw "dict") none (fG #[dE P "__module__" 1420 (vS "gluepage.fonts" 1292),dE P "__firstlineno__" 1424 (am 449 1423),dE P "__init__" 1439 (ae 823),dE P "has" 1447 (ae 830),dE P "width" 1455 (ae 837),dE P "height" 1463 (ae 844),dE P "depth" 1471 (ae 851),dE P "italic" 1479 (ae 858),dE P "starts" 1487 (ae 865),dE P "larger" 1496 (ae 872),dE P "pieces" 1505 (ae 879),dE P "param" 1513 (ae 886),dE P "set_param" 1522 (ae 893),dE P "__static_attributes__" 1536 (ae 894),dE P "__dict__" 1538 (ae 897),dE P "__weakref__" 1540 (ae 898),dE P "__doc__" 1541 aY] 4) #[])::(nat_lit 20,h2 "_wall" 187 "_wall" 1 1 15 191 P)::(nat_lit 35,h2 "__init__" 209 "PageError.__init__" 7 2 30 214 P)::(nat_lit 100,h2 "is_whole" 312 "is_whole" 22 3 95 318 P)::(nat_lit 107,h2 "check_whole" 321 "check_whole" 24 1 102 325 P)::(nat_lit 114,h2 "check_number" 328 "check_number" 28 1 109 332 P)::(nat_lit 121,h2 "check_dimen" 335 "check_dimen" 32 1 116 339 P)::(nat_lit 128,h2 "rounded" 342 "rounded" 36 2 123 347 P)::(nat_lit 135,h2 "reading" 350 "reading" 42 2 130 355 P)::(nat_lit 142,h2 "decimal_text" 358 "decimal_text" 44 1 137 368 P)::(nat_lit 149,h2 "order_text" 371 "order_text" 55 1 144 375 P)::(nat_lit 156,h2 "part_text" 378 "part_text" 57 3 151 384 P)::(nat_lit 171,h2 "__init__" 404 "Glue.__init__" 61 6 166 413 P)::(nat_lit 178,h2 "parts" 416 "Glue.parts" 70 1 173 420 P)::(nat_lit 185,h2 "same" 423 "Glue.same" 73 2 180 428 P)::(nat_lit 192,h2 "added" 431 "Glue.added" 76 2 187 436 P)::(nat_lit 199,h2 "times" 439 "Glue.times" 79 2 194 444 P)::(nat_lit 206,h2 "over" 447 "Glue.over" 82 2 201 452 P)::(nat_lit 213,h2 "negated" 455 "Glue.negated" 85 1 208 459 P)::(nat_lit 221,h2 "text" 463 "Glue.text" 88 2 216 469 P)::(nat_lit 242,h2 "__init__" 497 "Totals.__init__" 97 1 237 501 P)::(nat_lit 249,h2 "add" 504 "Totals.add" 102 2 244 509 P)::(nat_lit 256,h2 "widen" 512 "Totals.widen" 105 2 251 517 P)::(nat_lit 263,h2 "stretch_top" 520 "Totals.stretch_top" 108 1 258 524 P)::(nat_lit 270,h2 "shrink_top" 527 "Totals.shrink_top" 111 1 265 531 P)::(nat_lit 277,h2 "copy" 534 "Totals.copy" 114 1 272 539 P)::(nat_lit 315,h2 "check_code" 623 "check_code" 128 1 310 627 P)::(nat_lit 322,h2 "check_short" 630 "check_short" 132 1 317 635 P)::(nat_lit 336,h2 "__init__" 651 "Char.__init__" 140 3 331 657 P)::(nat_lit 356,pf "__init__" 683 "Ligature.__init__" 146 6 353 P)::(nat_lit 377,h2 "__init__" 714 "Box.__init__" 154 6 372 723 P)::(nat_lit 398,h2 "__init__" 756 "Rule.__init__" 169 4 393 764 P)::(nat_lit 419,h2 "__init__" 791 "Kern.__init__" 179 3 414 797 P)::(nat_lit 441,h2 "__init__" 823 "Skip.__init__" 187 4 436 830 P)::(nat_lit 462,h2 "__init__" 857 "Penalty.__init__" 200 2 457 862 P)::(nat_lit 483,h2 "__init__" 887 "Disc.__init__" 205 4 478 894 P)::(nat_lit 504,h2 "__init__" 921 "Mark.__init__" 212 2 499 926 P)::(nat_lit 525,h2 "__init__" 951 "Insert.__init__" 217 7 520 961 P)::(nat_lit 546,h2 "__init__" 991 "Adjust.__init__" 229 2 541 996 P)::(nat_lit 567,h2 "__init__" 1021 "MathEdge.__init__" 234 3 562 1027 P)::(nat_lit 588,h2 "__init__" 1054 "Special.__init__" 241 2 583 1060 P)::(nat_lit 609,h2 "__init__" 1086 "Write.__init__" 252 3 604 1092 P)::(nat_lit 630,h2 "__init__" 1119 "OpenOut.__init__" 259 3 625 1125 P)::(nat_lit 651,h2 "__init__" 1152 "CloseOut.__init__" 268 2 646 1157 P)::(nat_lit 673,h2 "__init__" 1182 "Unset.__init__" 273 8 668 1193 P)::(nat_lit 687,h2 "check_depth" 1211 "check_depth" 283 1 682 1215 P)::(nat_lit 694,h2 "copied_box" 1218 "copied_box" 286 2 689 1224 P)::(nat_lit 701,h2 "copied_special" 1227 "copied_special" 293 1 696 1231 P)::(nat_lit 708,h2 "copied_rest" 1234 "copied_rest" 299 2 703 1241 P)::(nat_lit 716,h2 "copy_node" 1245 "copy_node" 313 2 711 1251 P)::(nat_lit 722,pf "copy_list" 1255 "copy_list" 335 2 719 P)::(nat_lit 727,pf "described_special" 1261 "described_special" 337 1 724 P)::(nat_lit 734,h2 "described_rest" 1267 "described_rest" 343 2 729 1275 P)::(nat_lit 740,pf "described" 1279 "described" 358 2 737 P)::(nat_lit 746,pf "described_list" 1286 "described_list" 381 2 743 P)::(nat_lit 763,h2 "is_size" 1337 "is_size" 393 1 758 1341 P)::(nat_lit 770,h2 "check_sizes" 1344 "check_sizes" 395 1 765 1349 P)::(nat_lit 777,h2 "check_pieces" 1352 "check_pieces" 399 2 772 1359 P)::(nat_lit 784,h2 "check_chars" 1362 "check_chars" 405 2 779 1371 P)::(nat_lit 791,h2 "check_larger" 1374 "check_larger" 417 1 786 1381 P)::(nat_lit 798,h2 "check_program" 1384 "check_program" 425 4 793 1399 P)::(nat_lit 805,h2 "left_start" 1402 "left_start" 444 1 800 1410 P)::(nat_lit 822,h2 "__init__" 1425 "Font.__init__" 451 9 817 1437 P)::(nat_lit 829,h2 "has" 1440 "Font.has" 475 2 824 1445 P)::(nat_lit 836,h2 "width" 1448 "Font.width" 478 2 831 1453 P)::(nat_lit 843,h2 "height" 1456 "Font.height" 481 2 838 1461 P)::(nat_lit 850,h2 "depth" 1464 "Font.depth" 484 2 845 1469 P)::(nat_lit 857,h2 "italic" 1472 "Font.italic" 487 2 852 1477 P)::(nat_lit 864,h2 "starts" 1480 "Font.starts" 490 2 859 1485 P)::(nat_lit 871,h2 "larger" 1488 "Font.larger" 493 2 866 1494 P)::(nat_lit 878,h2 "pieces" 1497 "Font.pieces" 497 2 873 1503 P)::(nat_lit 885,h2 "param" 1506 "Font.param" 501 2 880 1511 P)::(nat_lit 892,h2 "set_param" 1514 "Font.set_param" 504 3 887 1520 P)::(nat_lit 906,h2 "font_name" 1544 "font_name" 506 1 901 1550 P)::(nat_lit 916,h2 "font_of_rows" 1553 "font_of_rows" 513 6 911 1564 P)::(nat_lit 923,h2 "_law_spans" 1569 "_law_spans" 523 0 918 1573 P)::(nat_lit 930,h2 "_law_heap" 1576 "_law_heap" 526 1 925 1582 P)::(nat_lit 937,h2 "_law_take" 1585 "_law_take" 531 2 932 1591 P)::(nat_lit 942,pf "_law_tree" 1594 "_law_tree" 538 2 939 P)::(nat_lit 949,h2 "_law_size" 1600 "_law_size" 543 1 944 1604 P)::(nat_lit 956,h2 "_law_leader" 1607 "_law_leader" 545 1 951 1612 P)::(nat_lit 961,pf "_law_held" 1615 "_law_held" 549 2 958 P)::(nat_lit 968,h2 "_law_node" 1621 "_law_node" 564 2 963 1629 P)::(nat_lit 975,h2 "_law_turned" 1632 "_law_turned" 587 2 970 1644 P)::(nat_lit 982,h2 "_law_spoil" 1647 "_law_spoil" 603 1 977 1653 P)::(nat_lit 989,h2 "_law_deep" 1656 "_law_deep" 617 1 984 1666 P)::(nat_lit 994,pf "law" 1669 "law" 632 1 991 P)::(nat_lit 29,eV "" 208 P)::(nat_lit 165,aZ (aw "tuple") none (cZ #[am 0 399,am 0 400,am 0 401,am 0 402,am 0 403]) #[])::(nat_lit 215,eV "pt" 462 P)::(nat_lit 352,aZ (aw "tuple") none (cZ #[fX kC,fX kC]) #[])::(nat_lit 435,aZ (aw "tuple") none (cZ #[aY]) #[])::(nat_lit 667,aZ (aw "tuple") none (cZ #[fX kC]) #[])::(nat_lit 710,xS 1244 P)::(nat_lit 718,xS 1254 P)::(nat_lit 736,xS 1278 P)::(nat_lit 742,xS 1285 P)::(nat_lit 756,aZ (aw "tuple") none (cZ #[am 0 1320,am 0 1321,am 0 1322,am 0 1323,am 0 1324,am 0 1325]) #[])::(nat_lit 757,AP 0 1329 196608 98304 65536 262144 655360 65536 P)::(nat_lit 814,h0 P)::(nat_lit 815,h0 P)::(nat_lit 816,aZ (aw "tuple") none (cZ #[ae 814,ae 815,am 256 1294]) #[])::(nat_lit 908,h0 P)::(nat_lit 909,h0 P)::(nat_lit 910,aZ (aw "tuple") none (cZ #[ae 757,ae 908,ae 909,am 256 1294]) #[])::[]
noncomputable def gK (n:Nat) (P:aB):Obj:=List.rec (h1 P) (λe z i=>cond (ej e.1 n) e.2 i) (KK P)
noncomputable def mv:List (Nat×av)->List av->List av
 |[],l=>l
 |e::r,l=>mv r (l.set e.1 e.2)
noncomputable def sY (P:aB):List Obj:=[aZ (aw "dict") none (fG (([dE P "__name__" 1 (vS "builtins" 160),dE P "__doc__" 2 (gX "builtins.__doc__:str#opaque"),dE P "__package__" 3 (gX "builtins.__package__:str#opaque"),dE P "__loader__" 4 (gX "builtins.__loader__:shared#opaque"),dE P "__spec__" 5 (gX "builtins.__spec__#opaque")]++(bL P 6 ["__build_class__","__import__","abs","all","any","ascii","bin","breakpoint","callable","chr","compile","delattr","dir","divmod","eval","exec","format","getattr","globals","hasattr","hash","hex","id","input","isinstance","issubclass","iter","aiter","len","locals","max","min","next","anext","oct","ord","pow","print","repr","round","setattr","sorted","sum","vars"]++([dE P "None" 50 aY,dE P "Ellipsis" 51 Value.ellipsis,dE P "NotImplemented" 52 Value.notImplemented,dE P "False" 53 (fX kC),dE P "True" 54 (fX l8),dE P "bool" 55 (aw "bool"),dE P "memoryview" 56 (aw "memoryview"),dE P "bytearray" 57 (aw "bytearray"),dE P "bytes" 58 (aw "bytes"),dE P "classmethod" 59 (aw "classmethod"),dE P "complex" 60 (aw "complex"),dE P "dict" 61 (aw "dict"),dE P "enumerate" 62 (aw "enumerate"),dE P "filter" 63 (aw "filter"),dE P "float" 64 (aw "float"),dE P "frozenset" 65 (aw "frozenset"),dE P "property" 66 (aw "property"),dE P "int" 67 (aw "int"),dE P "list" 68 (aw "list"),dE P "map" 69 (aw "map"),dE P "object" 70 (aw "object"),dE P "range" 71 (aw "range"),dE P "reversed" 72 (aw "reversed"),dE P "set" 73 (aw "set"),dE P "slice" 74 (aw "slice"),dE P "staticmethod" 75 (aw "staticmethod"),dE P "str" 76 (aw "str"),dE P "super" 77 (aw "super"),dE P "tuple" 78 (aw "tuple"),dE P "type" 79 (aw "type"),dE P "zip" 80 (aw "zip"),dE P "__debug__" 81 (fX l8),dE P "BaseException" 82 (aw "BaseException"),dE P "BaseExceptionGroup" 83 (aw "BaseExceptionGroup"),dE P "Exception" 84 (aw "Exception"),dE P "GeneratorExit" 85 (aw "GeneratorExit"),dE P "KeyboardInterrupt" 86 (aw "KeyboardInterrupt"),dE P "SystemExit" 87 (aw "SystemExit"),dE P "ArithmeticError" 88 (aw "ArithmeticError"),dE P "AssertionError" 89 (aw "AssertionError"),dE P "AttributeError" 90 (aw "AttributeError"),dE P "BufferError" 91 (aw "BufferError"),dE P "EOFError" 92 (aw "EOFError"),dE P "ImportError" 93 (aw "ImportError"),dE P "LookupError" 94 (aw "LookupError"),dE P "MemoryError" 95 (aw "MemoryError"),dE P "NameError" 96 (aw "NameError"),dE P "OSError" 97 (aw "OSError"),dE P "ReferenceError" 98 (aw "ReferenceError"),dE P "RuntimeError" 99 (aw "RuntimeError"),dE P "StopAsyncIteration" 100 (aw "StopAsyncIteration"),dE P "StopIteration" 101 (aw "StopIteration"),dE P "SyntaxError" 102 (aw "SyntaxError"),dE P "SystemError" 103 (aw "SystemError"),dE P "TypeError" 104 (aw "TypeError"),dE P "ValueError" 105 (aw "ValueError"),dE P "Warning" 106 (aw "Warning"),dE P "FloatingPointError" 107 (aw "FloatingPointError"),dE P "OverflowError" 108 (aw "OverflowError"),dE P "ZeroDivisionError" 109 (aw "ZeroDivisionError"),dE P "BytesWarning" 110 (aw "BytesWarning"),dE P "DeprecationWarning" 111 (aw "DeprecationWarning"),dE P "EncodingWarning" 112 (aw "EncodingWarning"),dE P "FutureWarning" 113 (aw "FutureWarning"),dE P "ImportWarning" 114 (aw "ImportWarning"),dE P "PendingDeprecationWarning" 115 (aw "PendingDeprecationWarning"),dE P "ResourceWarning" 116 (aw "ResourceWarning"),dE P "RuntimeWarning" 117 (aw "RuntimeWarning"),dE P "SyntaxWarning" 118 (aw "SyntaxWarning"),dE P "UnicodeWarning" 119 (aw "UnicodeWarning"),dE P "UserWarning" 120 (aw "UserWarning"),dE P "BlockingIOError" 121 (aw "BlockingIOError"),dE P "ChildProcessError" 122 (aw "ChildProcessError"),dE P "ConnectionError" 123 (aw "ConnectionError"),dE P "FileExistsError" 124 (aw "FileExistsError"),dE P "FileNotFoundError" 125 (aw "FileNotFoundError"),dE P "InterruptedError" 126 (aw "InterruptedError"),dE P "IsADirectoryError" 127 (aw "IsADirectoryError"),dE P "NotADirectoryError" 128 (aw "NotADirectoryError"),dE P "PermissionError" 129 (aw "PermissionError"),dE P "ProcessLookupError" 130 (aw "ProcessLookupError"),dE P "TimeoutError" 131 (aw "TimeoutError"),dE P "IndentationError" 132 (aw "IndentationError"),dE P "_IncompleteInputError" 133 (aw "_IncompleteInputError"),dE P "IndexError" 134 (aw "IndexError"),dE P "KeyError" 135 (aw "KeyError"),dE P "ModuleNotFoundError" 136 (aw "ModuleNotFoundError"),dE P "NotImplementedError" 137 (aw "NotImplementedError"),dE P "PythonFinalizationError" 138 (aw "PythonFinalizationError"),dE P "RecursionError" 139 (aw "RecursionError"),dE P "UnboundLocalError" 140 (aw "UnboundLocalError"),dE P "UnicodeError" 141 (aw "UnicodeError"),dE P "BrokenPipeError" 142 (aw "BrokenPipeError"),dE P "ConnectionAbortedError" 143 (aw "ConnectionAbortedError"),dE P "ConnectionRefusedError" 144 (aw "ConnectionRefusedError"),dE P "ConnectionResetError" 145 (aw "ConnectionResetError"),dE P "TabError" 146 (aw "TabError"),dE P "UnicodeDecodeError" 147 (aw "UnicodeDecodeError"),dE P "UnicodeEncodeError" 148 (aw "UnicodeEncodeError"),dE P "UnicodeTranslateError" 149 (aw "UnicodeTranslateError"),dE P "ExceptionGroup" 150 (aw "ExceptionGroup"),dE P "EnvironmentError" 151 (aw "OSError"),dE P "IOError" 152 (aw "OSError"),dE P "open" 153 (gX "open"),dE P "quit" 154 (gX "builtins.quit#opaque"),dE P "exit" 155 (gX "builtins.exit#opaque"),dE P "copyright" 156 (gX "builtins.copyright#opaque"),dE P "credits" 157 (gX "builtins.credits#opaque"),dE P "license" 158 (gX "builtins.license#opaque"),dE P "help" 159 (gX "builtins.help#opaque")]))).toArray) 159) #[],aZ (aw "dict") none (fG #[dE P "builtins" 162 (ae 4),dE P "__main__" 163 (ae 5)] 2) #[],aZ aY none (fG #[]) #[],aZ (aw "dict") none (fG ((dE P "__name__" 165 (vS "__main__" 164)::(mq P).take 8).toArray) 9) #[],aZ (aw "module") (some 0) Data.plain #[],aZ (aw "module") (some 3) Data.plain #[],aZ (aw "dict") none (fG #[]) #[],h0 P,h1 P,h8 "<module>" 176 1 7 175 P,h9 9 3 "__main__" 164 P,h0 P,h1 P,h8 "<module>" 182 1 11 181 P,h9 13 3 "__main__" 164 P]
noncomputable def pg (P:aB):List Obj:=mv [(3,aZ (aw "dict") none (fG ((dE P "__name__" 165 (vS "gluepage.scaled" 288)::(mq P).take 17).toArray) 18) #[]),(12,aZ aY none (gY ((am 1 0::(sX P).take 17).toArray)) #[])] (sY P)++[h0 P,h1 P,eV "k" 190 P,h0 P,h3 "_wall" 0 P,gK 20 P,gK 21 P,aZ (aw "tuple") none (cZ #[aw "ValueError"]) #[],cT P,Fj 203 "gluepage.errors" 194 "PageError" 5 216 36 218 P,h0 P,iE 7 35 P,h8 "PageError" 198 5 25 181 P,h9 27 24 "gluepage.errors" 194 P,gK 29 P,h0 P,h1 P,h7 "self" 212 "reason" P,h0 P,h4 "__init__" "PageError.__init__" 2 0 P,gK 35 P,gK 36 P,eV "reason" 217 P,gK 38 P,gK 39 P,hU 219 39 P,dq 39 P,du 39 P,xK P,cT P,xL 231 "BadArgument" 9 50 P,h0 P,h1 P,h8 "BadArgument" 226 9 46 181 P,h9 48 45 "gluepage.errors" 194 P,h0 P,gK 51 P,gK 52 P,dq 52 P,du 52 P,xK P,cT P,xL 247 "Overflow" 11 62 P,h0 P,h1 P,h8 "Overflow" 242 11 58 181 P,h9 60 57 "gluepage.errors" 194 P,h0 P,gK 63 P,gK 64 P,dq 64 P,du 64 P,xK P,cT P,xL 263 "BadFont" 13 74 P,h0 P,h1 P,h8 "BadFont" 258 13 70 181 P,h9 72 69 "gluepage.errors" 194 P,h0 P,gK 75 P,gK 76 P,dq 76 P,du 76 P,xK P,cT P,xL 279 "TooDeep" 15 86 P,h0 P,h1 P,h8 "TooDeep" 274 15 82 181 P,h9 84 81 "gluepage.errors" 194 P,h0 P,gK 87 P,gK 88 P,dq 88 P,du 88 P]
noncomputable def ph (P:aB):List Obj:=mv [(3,aZ (aw "dict") none (fG ((dE P "__name__" 165 (vS "gluepage.scaled" 288)::(mq P).take 21).toArray) 22) #[])] (pg P)++[xO 304 P,nR 4 P,h0 P,nS 93 P]
noncomputable def pi (P:aB):List Obj:=mv [(3,aZ (aw "dict") none (fG ((dE P "__name__" 165 (vS "gluepage.nodes" 553)::(mq P).take 32).toArray) 33) #[]),(12,aZ aY none (gY ((am 1 0::(sX P).take 50).toArray)) #[])] (ph P)++[h0 P,h1 P,gB "value" 315 "low" "high" P,h0 P,h3 "is_whole" 12 P,gK 100 P,gK 101 P,h0 P,h1 P,eV "value" 324 P,h0 P,h3 "check_whole" 13 P,gK 107 P,gK 108 P,h0 P,h1 P,eV "value" 331 P,h0 P,h3 "check_number" 14 P,gK 114 P,gK 115 P,h0 P,h1 P,eV "value" 338 P,h0 P,h3 "check_dimen" 15 P,gK 121 P,gK 122 P,h0 P,h1 P,h7 "number" 345 "by" P,h0 P,h3 "rounded" 16 P,gK 128 P,gK 129 P,h0 P,h1 P,h7 "whole" 353 "scale" P,h0 P,h3 "reading" 17 P,gK 135 P,gK 136 P,h0 P,h1 P,xP "value" 361 "sign" "points" "part" "scale" "near" "places" P,h0 P,h3 "decimal_text" 18 P,gK 142 P,gK 143 P,h0 P,h1 P,eV "order" 374 P,h0 P,h3 "order_text" 19 P,gK 149 P,gK 150 P,h0 P,h1 P,gB "value" 381 "order" "unit" P,h0 P,h3 "part_text" 20 P,gK 156 P,gK 157 P,h0 P,cT P,aZ (aw "dict") none (fG #[dE P "__module__" 394 (vS "gluepage.scaled" 288),dE P "__qualname__" 396 (vS "Glue" 395),dE P "__firstlineno__" 398 (am 59 397),dE P "__init__" 415 (ae 172),dE P "parts" 422 (ae 179),dE P "same" 430 (ae 186),dE P "added" 438 (ae 193),dE P "times" 446 (ae 200),dE P "over" 454 (ae 207),dE P "negated" 461 (ae 214),dE P "text" 471 (ae 222),dE P "__static_attributes__" 477 (ae 223)] 12) #[],h0 P,aZ aY none (gY #[am 61 0,am 4 0,ae 171,am 70 0,am 4 0,ae 178,am 73 0,am 4 0,ae 185,am 76 0,am 4 0,ae 192,am 79 0,am 4 0,ae 199,am 82 0,am 4 0,ae 206,am 85 0,am 4 0,ae 213,am 88 0,am 4 0,ae 221]) #[],h8 "Glue" 389 59 161 181 P,h9 163 160 "gluepage.scaled" 288 P,gK 165 P,h0 P,h1 P,xQ "self" 407 "width" "stretch" "stretch_order" "shrink" "shrink_order" P,h0 P,h4 "__init__" "Glue.__init__" 21 0 P,gK 171 P,gK 172 P,h0 P,h1 P,eV "self" 419 P,h0 P,h4 "parts" "Glue.parts" 21 1 P,gK 178 P,gK 179 P,h0 P,h1 P,h7 "self" 426 "other" P,h0 P,h4 "same" "Glue.same" 21 2 P,gK 185 P,gK 186 P,h0 P,h1 P,h7 "self" 434 "other" P,h0 P,h4 "added" "Glue.added" 21 3 P,gK 192 P,gK 193 P,h0 P,h1 P,h7 "self" 442 "count" P,h0 P,h4 "times" "Glue.times" 21 4 P,gK 199 P,gK 200 P,h0 P,h1 P,h7 "self" 450 "by" P,h0 P,h4 "over" "Glue.over" 21 5 P,gK 206 P,gK 207 P,h0 P,h1 P,eV "self" 458 P,h0 P,h4 "negated" "Glue.negated" 21 6 P,gK 213 P,gK 214 P,gK 215 P,h0 P,h1 P,gB "self" 466 "unit" "found" P,h0 P,h4 "text" "Glue.text" 21 7 P,gK 221 P,gK 222 P,sV "shrink" 472 "shrink_order" "stretch" "stretch_order" "width" P,gK 224 P,gK 225 P,ie 478 225 P,hU 480 225 P,dq 225 P,du 225 P,h0 P,cT P,aZ (aw "dict") none (fG #[dE P "__module__" 492 (vS "gluepage.scaled" 288),dE P "__qualname__" 494 (vS "Totals" 493),dE P "__firstlineno__" 496 (am 95 495),dE P "__init__" 503 (ae 243),dE P "add" 511 (ae 250),dE P "widen" 519 (ae 257),dE P "stretch_top" 526 (ae 264),dE P "shrink_top" 533 (ae 271),dE P "copy" 541 (ae 278),dE P "__static_attributes__" 545 (ae 279)] 10) #[],h0 P,Nc 97 4 242 102 256 263 111 270 114 277 P,h8 "Totals" 487 95 233 181 P,h9 235 232 "gluepage.scaled" 288 P,h0 P,h1 P,eV "self" 500 P,h0 P,h4 "__init__" "Totals.__init__" 22 0 P,gK 242 P,gK 243 P,h0 P,h1 P,h7 "self" 507 "glue" P,h0 P,h4 "add" "Totals.add" 22 1 P,gK 249 P,gK 250 P,h0 P,h1 P,h7 "self" 515 "width" P,h0 P,h4 "widen" "Totals.widen" 22 2 P,gK 256 P,gK 257 P,h0 P,h1 P,eV "self" 523 P,h0 P,h4 "stretch_top" "Totals.stretch_top" 22 3 P,gK 263 P,gK 264 P,h0 P,h1 P,eV "self" 530 P,h0 P,h4 "shrink_top" "Totals.shrink_top" 22 4 P,gK 270 P,gK 271 P,h0 P,h1 P,h7 "self" 537 "other" P,h0 P,h4 "copy" "Totals.copy" 22 5 P,gK 277 P,gK 278 P,gB "natural" 542 "shrink" "stretch" P,gK 280 P,gK 281 P,ie 546 281 P,hU 548 281 P,dq 281 P,du 281 P]
noncomputable def pj (P:aB):List Obj:=mv [(3,aZ (aw "dict") none (fG ((dE P "__name__" 165 (vS "gluepage.nodes" 553)::(mq P).take 65).toArray) 66) #[])] (pi P)++[aZ (aw "tuple") none (cZ #[am 0 555,am 1 556,am 2 557,am 3 558,am 4 559,am 5 560,am 6 561,am 7 562]) #[],nR 8 P,h0 P,nS 288 P,AP 8 571 9 10 11 12 13 14 P,nR 7 P,h0 P,nS 292 P,Fk 0 585 1 2 P,nR 3 P,h0 P,nS 296 P,xO 591 P,nR 4 P,h0 P,nS 300 P,AP 0 599 1 2 3 4 5 100 P,nR 7 P,h0 P,nS 304 P,xO 613 P,nR 4 P,h0 P,nS 308 P]
noncomputable def vx (P:aB):List Obj:=mv [(3,aZ (aw "dict") none (fG ((dE P "__name__" 165 (vS "gluepage.nodes" 553)::(mq P).take 77).toArray) 78) #[]),(12,aZ aY none (gY ((am 1 0::(sX P).take 83).toArray)) #[])] (pj P)++[h0 P,h1 P,eV "code" 626 P,h0 P,h3 "check_code" 31 P,gK 315 P,gK 316 P,h0 P,h1 P,h7 "items" 633 "node" P,h0 P,h3 "check_short" 32 P,gK 322 P,gK 323 P,h0 P,cT P,kJ 645 "Char" 137 0 555 659 337 662 P,h0 P,iE 140 336 P,h8 "Char" 640 137 327 181 P,h9 329 326 "gluepage.nodes" 553 P,h0 P,h1 P,gB "self" 654 "font" "code" P,h0 P,h4 "__init__" "Char.__init__" 33 1 P,gK 336 P,gK 337 P,h7 "code" 660 "font" P,gK 339 P,gK 340 P,ie 663 340 P,hU 665 340 P,dq 340 P,du 340 P,h0 P,cT P,kJ 677 "Ligature" 143 1 556 688 357 694 P,h0 P,iE 146 356 P,h8 "Ligature" 672 143 348 181 P,h9 350 347 "gluepage.nodes" 553 P,gK 352 P,h0 P,h1 P,h4 "__init__" "Ligature.__init__" 34 1 P,gK 356 P,gK 357 P,sV "code" 689 "font" "left" "parts" "right" P,gK 359 P,gK 360 P,ie 695 360 P,hU 697 360 P,dq 360 P,du 360 P,h0 P,cT P,Fj 709 "gluepage.nodes" 553 "Box" 152 725 378 735 P,h0 P,iE 154 377 P,h8 "Box" 704 152 368 181 P,h9 370 367 "gluepage.nodes" 553 P,h0 P,h1 P,xQ "self" 717 "kind" "width" "height" "depth" "items" P,h0 P,h4 "__init__" "Box.__init__" 35 0 P,gK 377 P,gK 378 P,AQ "depth" 726 "height" "items" "kind" "order" "ratio" "shift" "sign" "width" P,gK 380 P,gK 381 P,ie 736 381 P,hU 738 381 P,dq 381 P,du 381 P,h0 P,cT P,kJ 750 "Rule" 166 4 559 766 399 770 P,h0 P,iE 169 398 P,h8 "Rule" 745 166 389 181 P,h9 391 388 "gluepage.nodes" 553 P,h0 P,h1 P,sV "self" 759 "width" "height" "depth" "size" P,h0 P,h4 "__init__" "Rule.__init__" 36 1 P,gK 398 P,gK 399 P,gB "depth" 767 "height" "width" P,gK 401 P,gK 402 P,ie 771 402 P,hU 773 402 P,dq 402 P,du 402 P,h0 P,cT P,kJ 785 "Kern" 176 5 560 799 420 802 P,h0 P,iE 179 419 P,h8 "Kern" 780 176 410 181 P,h9 412 409 "gluepage.nodes" 553 P,h0 P,h1 P,gB "self" 794 "width" "sort" P,h0 P,h4 "__init__" "Kern.__init__" 37 1 P,gK 419 P,gK 420 P,h7 "sort" 800 "width" P,gK 422 P,gK 423 P,ie 803 423 P,hU 805 423 P,dq 423 P,du 423 P,h0 P,cT P,kJ 817 "Skip" 184 6 561 832 442 836 P,h0 P,iE 187 441 P,h8 "Skip" 812 184 431 181 P,h9 433 430 "gluepage.nodes" 553 P,gK 435 P,h0 P,h1 P,vq "self" 826 "glue" "sort" "leader" P,h0 P,h4 "__init__" "Skip.__init__" 38 1 P,gK 441 P,gK 442 P,gB "glue" 833 "leader" "sort" P,gK 444 P,gK 445 P,ie 837 445 P,hU 839 445 P,dq 445 P,du 445 P,h0 P,cT P,kJ 851 "Penalty" 197 7 562 864 463 866 P,h0 P,iE 200 462 P,h8 "Penalty" 846 197 453 181 P,h9 455 452 "gluepage.nodes" 553 P,h0 P,h1 P,h7 "self" 860 "value" P,h0 P,h4 "__init__" "Penalty.__init__" 39 1 P,gK 462 P,gK 463 P,eV "value" 865 P,gK 465 P,gK 466 P,ie 867 466 P,hU 869 466 P,dq 466 P,du 466 P,h0 P,cT P,kJ 881 "Disc" 202 8 571 896 484 900 P,h0 P,iE 205 483 P,h8 "Disc" 876 202 474 181 P,h9 476 473 "gluepage.nodes" 553 P,h0 P,h1 P,vq "self" 890 "pre" "post" "middle" P,h0 P,h4 "__init__" "Disc.__init__" 40 1 P,gK 483 P,gK 484 P,gB "middle" 897 "post" "pre" P,gK 486 P,gK 487 P,ie 901 487 P,hU 903 487 P,dq 487 P,du 487 P,h0 P,cT P,kJ 915 "Mark" 209 9 572 928 505 930 P,h0 P,iE 212 504 P,h8 "Mark" 910 209 495 181 P,h9 497 494 "gluepage.nodes" 553 P,h0 P,h1 P,h7 "self" 924 "tokens" P,h0 P,h4 "__init__" "Mark.__init__" 41 1 P,gK 504 P,gK 505 P,eV "tokens" 929 P,gK 507 P,gK 508 P,ie 931 508 P,hU 933 508 P,dq 508 P,du 508 P]
noncomputable def vy (P:aB):List Obj:=mv [(3,aZ (aw "dict") none (fG ((dE P "__name__" 165 (vS "gluepage.nodes" 553)::(mq P).take 89).toArray) 90) #[]),(12,aZ aY none (gY ((am 1 0::(sX P).take 119).toArray)) #[])] (vx P)++[h0 P,cT P,kJ 945 "Insert" 214 10 573 963 526 970 P,h0 P,iE 217 525 P,h8 "Insert" 940 214 516 181 P,h9 518 515 "gluepage.nodes" 553 P,h0 P,h1 P,xP "self" 954 "number" "size" "depth" "top" "cost" "items" P,h0 P,h4 "__init__" "Insert.__init__" 42 1 P,gK 525 P,gK 526 P,xQ "cost" 964 "depth" "items" "number" "size" "top" P,gK 528 P,gK 529 P,ie 971 529 P,hU 973 529 P,dq 529 P,du 529 P,h0 P,cT P,kJ 985 "Adjust" 226 11 574 998 547 1000 P,h0 P,iE 229 546 P,h8 "Adjust" 980 226 537 181 P,h9 539 536 "gluepage.nodes" 553 P,h0 P,h1 P,h7 "self" 994 "items" P,h0 P,h4 "__init__" "Adjust.__init__" 43 1 P,gK 546 P,gK 547 P,eV "items" 999 P,gK 549 P,gK 550 P,ie 1001 550 P,hU 1003 550 P,dq 550 P,du 550 P,h0 P,cT P,kJ 1015 "MathEdge" 231 12 575 1029 568 1032 P,h0 P,iE 234 567 P,h8 "MathEdge" 1010 231 558 181 P,h9 560 557 "gluepage.nodes" 553 P,h0 P,h1 P,gB "self" 1024 "is_on" "width" P,h0 P,h4 "__init__" "MathEdge.__init__" 44 1 P,gK 567 P,gK 568 P,h7 "is_on" 1030 "width" P,gK 570 P,gK 571 P,ie 1033 571 P,hU 1035 571 P,dq 571 P,du 571 P,h0 P,cT P,xR 1047 "Special" 237 0 1062 589 1064 P,h0 P,iE 241 588 P,h8 "Special" 1042 237 579 181 P,h9 581 578 "gluepage.nodes" 553 P,h0 P,h1 P,gB "self" 1057 "octets" "octet" P,h0 P,h4 "__init__" "Special.__init__" 45 2 P,gK 588 P,gK 589 P,eV "octets" 1063 P,gK 591 P,gK 592 P,ie 1065 592 P,hU 1067 592 P,dq 592 P,du 592 P,h0 P,cT P,xR 1079 "Write" 248 1 1094 610 1097 P,h0 P,iE 252 609 P,h8 "Write" 1074 248 600 181 P,h9 602 599 "gluepage.nodes" 553 P,h0 P,h1 P,gB "self" 1089 "stream" "tokens" P,h0 P,h4 "__init__" "Write.__init__" 46 2 P,gK 609 P,gK 610 P,h7 "stream" 1095 "tokens" P,gK 612 P,gK 613 P,ie 1098 613 P,hU 1100 613 P,dq 613 P,du 613 P,h0 P,cT P,xR 1112 "OpenOut" 255 2 1127 631 1130 P,h0 P,iE 259 630 P,h8 "OpenOut" 1107 255 621 181 P,h9 623 620 "gluepage.nodes" 553 P,h0 P,h1 P,gB "self" 1122 "stream" "name" P,h0 P,h4 "__init__" "OpenOut.__init__" 47 2 P,gK 630 P,gK 631 P,h7 "name" 1128 "stream" P,gK 633 P,gK 634 P,ie 1131 634 P,hU 1133 634 P,dq 634 P,du 634 P,h0 P,cT P,xR 1145 "CloseOut" 264 3 1159 652 1161 P,h0 P,iE 268 651 P,h8 "CloseOut" 1140 264 642 181 P,h9 644 641 "gluepage.nodes" 553 P,h0 P,h1 P,h7 "self" 1155 "stream" P,h0 P,h4 "__init__" "CloseOut.__init__" 48 2 P,gK 651 P,gK 652 P,eV "stream" 1160 P,gK 654 P,gK 655 P,ie 1162 655 P,hU 1164 655 P,dq 655 P,du 655 P,h0 P,cT P,kJ 1176 "Unset" 270 14 577 1195 674 1203 P,h0 P,iE 273 673 P,h8 "Unset" 1171 270 663 181 P,h9 665 662 "gluepage.nodes" 553 P,gK 667 P,h0 P,h1 P,Fl "self" 1185 "width" "height" "depth" "items" "spans" "totals" "is_vertical" P,h0 P,h4 "__init__" "Unset.__init__" 49 1 P,gK 673 P,gK 674 P,xP "depth" 1196 "height" "is_vertical" "items" "spans" "totals" "width" P,gK 676 P,gK 677 P,ie 1204 677 P,hU 1206 677 P,dq 677 P,du 677 P,h0 P,h1 P,eV "depth" 1214 P,h0 P,h3 "check_depth" 50 P,gK 687 P,gK 688 P,h0 P,h1 P,gB "box" 1221 "depth" "other" P,h0 P,h3 "copied_box" 51 P,gK 694 P,gK 695 P,h0 P,h1 P,eV "node" 1230 P,h0 P,h3 "copied_special" 52 P,gK 701 P,gK 702 P,h0 P,h1 P,vq "node" 1237 "depth" "kind" "items" P,h0 P,h3 "copied_rest" 53 P,gK 708 P,gK 709 P]
noncomputable def pk (P:aB):List Obj:=mv [(3,aZ (aw "dict") none (fG ((dE P "__name__" 165 (vS "gluepage.fonts" 1292)::(mq P).take 99).toArray) 100) #[]),(12,aZ aY none (gY ((am 1 0::(sX P).take 137).toArray)) #[])] (vy P)++[gK 710 P,h0 P,h1 P,gB "node" 1248 "depth" "kind" P,h0 P,h3 "copy_node" 54 P,gK 716 P,gK 717 P,gK 718 P,h0 P,h1 P,h3 "copy_list" 55 P,gK 722 P,gK 723 P,h0 P,h1 P,h3 "described_special" 56 P,gK 727 P,gK 728 P,h0 P,h1 P,sV "node" 1270 "depth" "kind" "sums" "sizes" P,h0 P,h3 "described_rest" 57 P,gK 734 P,gK 735 P,gK 736 P,h0 P,h1 P,h3 "described" 58 P,gK 740 P,gK 741 P,gK 742 P,h0 P,h1 P,h3 "described_list" 59 P,gK 746 P,gK 747 P]
noncomputable def pn (P:aB):List Obj:=mv [(3,aZ (aw "dict") none (fG ((dE P "__name__" 165 (vS "gluepage.fonts" 1292)::(mq P).take 106).toArray) 107) #[])] (pk P)++[xO 1306 P,nR 4 P,h0 P,nS 750 P,Fk 128 1314 128 255 P,nR 3 P,h0 P,nS 754 P]
noncomputable def kK (P:aB):List Obj:=mv [(3,gK 3 P),(12,aZ aY none (gY ((am 1 0::sX P).toArray)) #[])] (pn P)++[gK 756 P,gK 757 P,h0 P,h1 P,eV "value" 1340 P,h0 P,h3 "is_size" 70 P,gK 763 P,gK 764 P,h0 P,h1 P,h7 "sizes" 1347 "size" P,h0 P,h3 "check_sizes" 71 P,gK 770 P,gK 771 P,h0 P,h1 P,vq "pieces" 1355 "chars" "place" "code" P,h0 P,h3 "check_pieces" 72 P,gK 777 P,gK 778 P,h0 P,h1 P,xQ "chars" 1365 "many" "code" "row" "sort" "rest" P,h0 P,h3 "check_chars" 73 P,gK 784 P,gK 785 P,h0 P,h1 P,vq "chars" 1377 "code" "far" "turns" P,h0 P,h3 "check_larger" 74 P,gK 791 P,gK 792 P,h0 P,h1 P,aZ (aw "tuple") none (cZ #[vS "program" 1387,vS "kerns" 1388,vS "chars" 1389,vS "boundary" 1390,vS "many" 1391,vS "place" 1392,vS "row" 1393,vS "octet" 1394,vS "skip" 1395,vS "following" 1396,vS "op" 1397,vS "rest" 1398]) #[],h0 P,h3 "check_program" 75 P,gK 798 P,gK 799 P,h0 P,h1 P,sV "program" 1405 "skip" "following" "op" "rest" P,h0 P,h3 "left_start" 76 P,gK 805 P,gK 806 P,h0 P,cT P,aZ (aw "dict") none (fG #[dE P "__module__" 1420 (vS "gluepage.fonts" 1292),dE P "__qualname__" 1422 (vS "Font" 1421),dE P "__firstlineno__" 1424 (am 449 1423),dE P "__init__" 1439 (ae 823),dE P "has" 1447 (ae 830),dE P "width" 1455 (ae 837),dE P "height" 1463 (ae 844),dE P "depth" 1471 (ae 851),dE P "italic" 1479 (ae 858),dE P "starts" 1487 (ae 865),dE P "larger" 1496 (ae 872),dE P "pieces" 1505 (ae 879),dE P "param" 1513 (ae 886),dE P "set_param" 1522 (ae 893),dE P "__static_attributes__" 1536 (ae 894)] 15) #[],h0 P,aZ aY none (gY #[am 451 0,am 4 0,ae 822,am 475 0,am 4 0,ae 829,am 478 0,am 4 0,ae 836,am 481 0,am 4 0,ae 843,am 484 0,am 4 0,ae 850,am 487 0,am 4 0,ae 857,am 490 0,am 4 0,ae 864,am 493 0,am 4 0,ae 871,am 497 0,am 4 0,ae 878,am 501 0,am 4 0,ae 885,am 504 0,am 4 0,ae 892]) #[],h8 "Font" 1415 449 810 181 P,h9 812 809 "gluepage.fonts" 1292 P,gK 814 P,gK 815 P,gK 816 P,h0 P,h1 P,AQ "self" 1428 "number" "name" "size" "params" "chars" "program" "kerns" "boundary" P,h0 P,h4 "__init__" "Font.__init__" 77 0 P,gK 822 P,gK 823 P,h0 P,h1 P,h7 "self" 1443 "code" P,h0 P,h4 "has" "Font.has" 77 1 P,gK 829 P,gK 830 P,h0 P,h1 P,h7 "self" 1451 "code" P,h0 P,h4 "width" "Font.width" 77 2 P,gK 836 P,gK 837 P,h0 P,h1 P,h7 "self" 1459 "code" P,h0 P,h4 "height" "Font.height" 77 3 P,gK 843 P,gK 844 P,h0 P,h1 P,h7 "self" 1467 "code" P,h0 P,h4 "depth" "Font.depth" 77 4 P,gK 850 P,gK 851 P,h0 P,h1 P,h7 "self" 1475 "code" P,h0 P,h4 "italic" "Font.italic" 77 5 P,gK 857 P,gK 858 P,h0 P,h1 P,h7 "self" 1483 "code" P,h0 P,h4 "starts" "Font.starts" 77 6 P,gK 864 P,gK 865 P,h0 P,h1 P,gB "self" 1491 "code" "row" P,h0 P,h4 "larger" "Font.larger" 77 7 P,gK 871 P,gK 872 P,h0 P,h1 P,gB "self" 1500 "code" "row" P,h0 P,h4 "pieces" "Font.pieces" 77 8 P,gK 878 P,gK 879 P,h0 P,h1 P,h7 "self" 1509 "number" P,h0 P,h4 "param" "Font.param" 77 9 P,gK 885 P,gK 886 P,h0 P,h1 P,gB "self" 1517 "number" "value" P,h0 P,h4 "set_param" "Font.set_param" 77 10 P,gK 892 P,gK 893 P,aZ (aw "tuple") none (cZ #[vS "boundary" 1523,vS "chars" 1524,vS "check" 1525,vS "design" 1526,vS "edge_start" 1527,vS "hyphen_char" 1528,vS "kerns" 1529,vS "name" 1530,vS "number" 1531,vS "params" 1532,vS "program" 1533,vS "size" 1534,vS "skew_char" 1535]) #[],gK 895 P,gK 896 P,ie 1537 896 P,hU 1539 896 P,dq 896 P,du 896 P,h0 P,h1 P,gB "number" 1547 "left" "found" P,h0 P,h3 "font_name" 78 P,gK 906 P,gK 907 P,gK 908 P,gK 909 P,gK 910 P,h0 P,h1 P,Fl "number" 1556 "rows" "params" "program" "kerns" "boundary" "chars" "row" P,h0 P,h3 "font_of_rows" 79 P,gK 916 P,gK 917 P,h0 P,h1 P,eV "found" 1572 P,h0 P,h3 "_law_spans" 81 P,gK 923 P,gK 924 P,h0 P,h1 P,gB "script" 1579 "whole_one" "cell" P,h0 P,h3 "_law_heap" 82 P,gK 930 P,gK 931 P,h0 P,h1 P,gB "heap" 1588 "many" "digit" P,h0 P,h3 "_law_take" 83 P,gK 937 P,gK 938 P,h0 P,h1 P,h3 "_law_tree" 84 P,gK 942 P,gK 943 P,h0 P,h1 P,eV "value" 1603 P,h0 P,h3 "_law_size" 85 P,gK 949 P,gK 950 P,h0 P,h1 P,h7 "n" 1610 "made" P,h0 P,h3 "_law_leader" 86 P,gK 956 P,gK 957 P,h0 P,h1 P,h3 "_law_held" 87 P,gK 961 P,gK 962 P,h0 P,h1 P,sV "tree" 1624 "fonts" "kind" "n" "inner" P,h0 P,h3 "_law_node" 88 P,gK 968 P,gK 969 P,h0 P,h1 P,AQ "heap" 1635 "trees" "way" "at" "kind" "numbers" "inner" "k" "other" P,h0 P,h3 "_law_turned" 89 P,gK 975 P,gK 976 P,h0 P,h1 P,gB "nodes" 1650 "node" "part" P,h0 P,h3 "_law_spoil" 90 P,gK 982 P,gK 983 P,h0 P,h1 P,xP "heap" 1659 "below" "many" "nest" "lap" "far" "told" P,h0 P,h3 "_law_deep" 91 P,gK 989 P,gK 990 P,h0 P,h1 P,h3 "law" 92 P,gK 994 P,gK 995 P]
noncomputable def Fm:List av->List av
 |[]=>[]
 |[a]=>[a]
 |a::z::r=>a::Fm r
noncomputable def Fo:List av->List av
 |[]=>[]
 |[z]=>[]
 |z::b::r=>b::Fo r
noncomputable def AR:Nat->List av->BT
 |0,z=>.nil
 |_+1,[]=>.nil
 |n+1,o::r=>.node o (AR n (Fm r)) (AR n (Fo r))
noncomputable def tr (l:List av):BT:=AR 11 l
noncomputable def EV:Env:={scope:=PW.main.scope,locals:=mainNs,globals:=mainNs,cells:=[],code:=.ref 13,frame:=some 14}
noncomputable def BE:List Stmt:=behindTheImports PW
noncomputable def CE:Code:=.body BE EV
noncomputable def q0:Pos:=⟨0,0,0,0⟩
noncomputable def BF:List Frame:=[topFrame q0]
noncomputable def st (i j:Nat):List Stmt:=(PW.main.body.drop i).take (j -i)
noncomputable abbrev sh (l:List av) (n k:Nat) (os:ei):SharedT:=⟨tr l,n,{},#[],{},k,os⟩
noncomputable abbrev F1:=@PySem.W.Fast.tw10110043849684766642
noncomputable abbrev TB:=PySem.W.Fast.tw14364793385576792824
theorem p0 (w:ah):(λos:ei=>F1 TB PW (w) 11 (some (.ref 6)) 1 1171 (sh (sY (w).params) 15 187 os) (piecesOf (st 0 11) EV CE ⟨0,0,0,0⟩ BF))=λos=>some (fP,sh (pg (w).params) 91 304 os,CE,⟨20,0,20,10⟩):=by kernel_rfl
theorem Nf (w:ah):(λos:ei=>F1 TB PW (w.withFollow "special-get-raises" false) 11 (some (.ref 6)) 1 102 (sh (pg (w.withFollow "special-get-raises" false).params) 91 304 os) (piecesOf (st 11 12) EV CE ⟨20,0,20,10⟩ BF))=λos=>some (fP,sh (ph (w.withFollow "special-get-raises" false).params) 95 312 os,CE,⟨21,19,21,24⟩):=by kernel_rfl
theorem Ng (w:ah):(λos:ei=>F1 TB PW (w.withFollow "special-get-raises" true) 11 (some (.ref 6)) 1 102 (sh (pg (w.withFollow "special-get-raises" true).params) 91 304 os) (piecesOf (st 11 12) EV CE ⟨20,0,20,10⟩ BF))=λos=>some (fP,sh (ph (w.withFollow "special-get-raises" true).params) 95 312 os,CE,⟨21,19,21,24⟩):=by kernel_rfl
theorem p1 (w:ah):(λos:ei=>F1 TB PW (w) 11 (some (.ref 6)) 1 102 (sh (pg (w).params) 91 304 os) (piecesOf (st 11 12) EV CE ⟨20,0,20,10⟩ BF))=λos=>some (fP,sh (ph (w).params) 95 312 os,CE,⟨21,19,21,24⟩):=byRow2 "special-get-raises" (P:=λw=>(λos:ei=>F1 TB PW (w) 11 (some (.ref 6)) 1 102 (sh (pg (w).params) 91 304 os) (piecesOf (st 11 12) EV CE ⟨20,0,20,10⟩ BF))=λos=>some (fP,sh (ph (w).params) 95 312 os,CE,⟨21,19,21,24⟩)) Nf Ng w
theorem p2 (w:ah):(λos:ei=>F1 TB PW (w) 11 (some (.ref 6)) 1 1125 (sh (ph (w).params) 95 312 os) (piecesOf (st 12 24) EV CE ⟨21,19,21,24⟩ BF))=λos=>some (fP,sh (pi (w).params) 286 555 os,CE,⟨120,0,120,8⟩):=by kernel_rfl
theorem Nh (w:ah):(λos:ei=>F1 TB PW (w.withFollow "special-get-raises" false) 11 (some (.ref 6)) 1 769 (sh (pi (w.withFollow "special-get-raises" false).params) 286 555 os) (piecesOf (st 24 30) EV CE ⟨120,0,120,8⟩ BF))=λos=>some (fP,sh (pj (w.withFollow "special-get-raises" false).params) 310 621 os,CE,⟨126,30,126,37⟩):=by kernel_rfl
theorem Ni (w:ah):(λos:ei=>F1 TB PW (w.withFollow "special-get-raises" true) 11 (some (.ref 6)) 1 769 (sh (pi (w.withFollow "special-get-raises" true).params) 286 555 os) (piecesOf (st 24 30) EV CE ⟨120,0,120,8⟩ BF))=λos=>some (fP,sh (pj (w.withFollow "special-get-raises" true).params) 310 621 os,CE,⟨126,30,126,37⟩):=by kernel_rfl
theorem p3 (w:ah):(λos:ei=>F1 TB PW (w) 11 (some (.ref 6)) 1 769 (sh (pi (w).params) 286 555 os) (piecesOf (st 24 30) EV CE ⟨120,0,120,8⟩ BF))=λos=>some (fP,sh (pj (w).params) 310 621 os,CE,⟨126,30,126,37⟩):=byRow2 "special-get-raises" (P:=λw=>(λos:ei=>F1 TB PW (w) 11 (some (.ref 6)) 1 769 (sh (pi (w).params) 286 555 os) (piecesOf (st 24 30) EV CE ⟨120,0,120,8⟩ BF))=λos=>some (fP,sh (pj (w).params) 310 621 os,CE,⟨126,30,126,37⟩)) Nh Ni w
theorem p4 (w:ah):(λos:ei=>F1 TB PW (w) 11 (some (.ref 6)) 1 2202 (sh (pj (w).params) 310 621 os) (piecesOf (st 30 42) EV CE ⟨126,30,126,37⟩ BF))=λos=>some (fP,sh (vx (w).params) 513 938 os,CE,⟨209,0,213,35⟩):=by kernel_rfl
theorem p5 (w:ah):(λos:ei=>F1 TB PW (w) 11 (some (.ref 6)) 1 2084 (sh (vx (w).params) 513 938 os) (piecesOf (st 42 54) EV CE ⟨209,0,213,35⟩ BF))=λos=>some (fP,sh (vy (w).params) 710 1244 os,CE,⟨299,0,312,32⟩):=by kernel_rfl
theorem p6 (w:ah):(λos:ei=>F1 TB PW (w) 11 (some (.ref 6)) 1 234 (sh (vy (w).params) 710 1244 os) (piecesOf (st 54 65) EV CE ⟨299,0,312,32⟩ BF))=λos=>some (fP,sh (pk (w).params) 748 1306 os,CE,⟨387,0,387,9⟩):=by kernel_rfl
theorem Nj (w:ah):(λos:ei=>F1 TB PW (w.withFollow "special-get-raises" false) 11 (some (.ref 6)) 1 185 (sh (pk (w.withFollow "special-get-raises" false).params) 748 1306 os) (piecesOf (st 65 67) EV CE ⟨387,0,387,9⟩ BF))=λos=>some (fP,sh (pn (w.withFollow "special-get-raises" false).params) 756 1320 os,CE,⟨389,20,389,24⟩):=by kernel_rfl
theorem Nk (w:ah):(λos:ei=>F1 TB PW (w.withFollow "special-get-raises" true) 11 (some (.ref 6)) 1 185 (sh (pk (w.withFollow "special-get-raises" true).params) 748 1306 os) (piecesOf (st 65 67) EV CE ⟨387,0,387,9⟩ BF))=λos=>some (fP,sh (pn (w.withFollow "special-get-raises" true).params) 756 1320 os,CE,⟨389,20,389,24⟩):=by kernel_rfl
theorem p7 (w:ah):(λos:ei=>F1 TB PW (w) 11 (some (.ref 6)) 1 185 (sh (pk (w).params) 748 1306 os) (piecesOf (st 65 67) EV CE ⟨387,0,387,9⟩ BF))=λos=>some (fP,sh (pn (w).params) 756 1320 os,CE,⟨389,20,389,24⟩):=byRow2 "special-get-raises" (P:=λw=>(λos:ei=>F1 TB PW (w) 11 (some (.ref 6)) 1 185 (sh (pk (w).params) 748 1306 os) (piecesOf (st 65 67) EV CE ⟨387,0,387,9⟩ BF))=λos=>some (fP,sh (pn (w).params) 756 1320 os,CE,⟨389,20,389,24⟩)) Nj Nk w
theorem p8 (w:ah):(λos:ei=>F1 TB PW (w) 11 (some (.ref 6)) 1 1295 (sh (pn (w).params) 756 1320 os) (piecesOf (st 67 93) EV CE ⟨389,20,389,24⟩ BF))=λos=>some (fP,sh (kK (w).params) 996 1675 os,CE,⟨632,0,648,112⟩):=by kernel_rfl
end
end
section
noncomputable section
theorem nT:@segRunT=F1:=PySem.W.Fast.te10110043849684766642
theorem nU:treeTable=TB:=PySem.W.Fast.te14364793385576792824
noncomputable abbrev AN:Option Value:=some (.ref 6)
theorem g0 (w:ah) (os:ei):segRun treeTable PW w 11 AN 1 1171 (sh (sY w.params) 15 187 os).abs (piecesOf (st 0 11) EV CE ⟨0,0,0,0⟩ BF)=some (fP,(sh (pg w.params) 91 304 os).abs,CE,⟨20,0,20,10⟩):=nG (by rw [nT,nU];exact congrFun (p0 w) os)
theorem g1 (w:ah) (os:ei):segRun treeTable PW w 11 AN 1 102 (sh (pg w.params) 91 304 os).abs (piecesOf (st 11 12) EV CE ⟨20,0,20,10⟩ BF)=some (fP,(sh (ph w.params) 95 312 os).abs,CE,⟨21,19,21,24⟩):=nG (by rw [nT,nU];exact congrFun (p1 w) os)
theorem g2 (w:ah) (os:ei):segRun treeTable PW w 11 AN 1 1125 (sh (ph w.params) 95 312 os).abs (piecesOf (st 12 24) EV CE ⟨21,19,21,24⟩ BF)=some (fP,(sh (pi w.params) 286 555 os).abs,CE,⟨120,0,120,8⟩):=nG (by rw [nT,nU];exact congrFun (p2 w) os)
theorem g3 (w:ah) (os:ei):segRun treeTable PW w 11 AN 1 769 (sh (pi w.params) 286 555 os).abs (piecesOf (st 24 30) EV CE ⟨120,0,120,8⟩ BF)=some (fP,(sh (pj w.params) 310 621 os).abs,CE,⟨126,30,126,37⟩):=nG (by rw [nT,nU];exact congrFun (p3 w) os)
theorem g4 (w:ah) (os:ei):segRun treeTable PW w 11 AN 1 2202 (sh (pj w.params) 310 621 os).abs (piecesOf (st 30 42) EV CE ⟨126,30,126,37⟩ BF)=some (fP,(sh (vx w.params) 513 938 os).abs,CE,⟨209,0,213,35⟩):=nG (by rw [nT,nU];exact congrFun (p4 w) os)
theorem g5 (w:ah) (os:ei):segRun treeTable PW w 11 AN 1 2084 (sh (vx w.params) 513 938 os).abs (piecesOf (st 42 54) EV CE ⟨209,0,213,35⟩ BF)=some (fP,(sh (vy w.params) 710 1244 os).abs,CE,⟨299,0,312,32⟩):=nG (by rw [nT,nU];exact congrFun (p5 w) os)
theorem g6 (w:ah) (os:ei):segRun treeTable PW w 11 AN 1 234 (sh (vy w.params) 710 1244 os).abs (piecesOf (st 54 65) EV CE ⟨299,0,312,32⟩ BF)=some (fP,(sh (pk w.params) 748 1306 os).abs,CE,⟨387,0,387,9⟩):=nG (by rw [nT,nU];exact congrFun (p6 w) os)
theorem g7 (w:ah) (os:ei):segRun treeTable PW w 11 AN 1 185 (sh (pk w.params) 748 1306 os).abs (piecesOf (st 65 67) EV CE ⟨387,0,387,9⟩ BF)=some (fP,(sh (pn w.params) 756 1320 os).abs,CE,⟨389,20,389,24⟩):=nG (by rw [nT,nU];exact congrFun (p7 w) os)
theorem g8 (w:ah) (os:ei):segRun treeTable PW w 11 AN 1 1295 (sh (pn w.params) 756 1320 os).abs (piecesOf (st 67 93) EV CE ⟨389,20,389,24⟩ BF)=some (fP,(sh (kK w.params) 996 1675 os).abs,CE,⟨632,0,648,112⟩):=nG (by rw [nT,nU];exact congrFun (p8 w) os)
theorem Nl (w:ah):(λos:ei=>topGo treeTable PW w 11 AN 12 ⟨boot_heap w.params,#[],boot_drawn,boot_toks,os⟩ (topStub PW))=λos=>some ((sh (sY w.params) 15 187 os).abs,⟨denote treeTable CE,CE,q0,BF⟩):=by kernel_rfl
theorem Nm (w:ah):(λos:ei=>segRun treeTable PW w 11 AN 1 1 (sh (sY w.params) 15 187 os).abs (blockOf BE EV CE q0 BF))=λos=>some (fP,(sh (sY w.params) 15 187 os).abs,CE,q0):=by kernel_rfl
theorem xT (w:ah):(λos:ei=>topRun treeTable PW w 11 AN 2 (sh (kK w.params) 996 1675 os).abs ⟨doneF .next,CE,⟨632,0,648,112⟩,BF⟩)=λos=>some (sh (kK w.params) 996 1675 os).abs:=by kernel_rfl
theorem No:BE=(st 0 11++(st 11 12++(st 12 24++(st 24 30++(st 30 42++(st 42 54++(st 54 65++(st 65 67++(st 67 93++[]))))))))):=by kernel_rfl
noncomputable def MM:Nat:=(12+(1+(1171+(102+(1125+(769+(2202+(2084+(234+(185+(1295+2)))))))))))
theorem Np (w:ah) (os:ei):topRun treeTable PW w 11 AN MM ⟨boot_heap w.params,#[],boot_drawn,boot_toks,os⟩ (topStub PW)=some (sh (kK w.params) 996 1675 os).abs:=by
 refine go_top (congrFun (Nl w) os) (piece_block (congrFun (Nm w) os) ?_)
 rw [No]
 exact (nH (g0 w os) (nH (g1 w os) (nH (g2 w os) (nH (g3 w os) (nH (g4 w os) (nH (g5 w os) (nH (g6 w os) (nH (g7 w os) (nH (g8 w os) (piece_nil (congrFun (xT w) os)))))))))))
end
end
section
noncomputable section
noncomputable abbrev RR:OpenRow:=rw_sq0062_01.row
noncomputable def VQ:Program:={PW with main:={PW.main with body:=[dH 92]}}
noncomputable def LS:List Str:=[aF "_wall",aF "PageError",aF "BadArgument",aF "Overflow",aF "BadFont",aF "TooDeep",aF "UNITY",aF "MAX_DIMEN",aF "MAX_NUMBER",aF "NORMAL",aF "FIL",aF "FILL",aF "FILLL",aF "is_whole",aF "check_whole",aF "check_number",aF "check_dimen",aF "rounded",aF "reading",aF "decimal_text",aF "order_text",aF "part_text",aF "Glue",aF "Totals",aF "CHAR",aF "LIGATURE",aF "HBOX",aF "VBOX",aF "RULE",aF "KERN",aF "GLUE",aF "PENALTY",aF "DISC",aF "MARK",aF "INSERT",aF "ADJUST",aF "MATH",aF "SPECIAL",aF "UNSET",aF "NATURAL",aF "STRETCHED",aF "SHRUNK",aF "FONT_KERN",aF "EXPLICIT",aF "ACCENT_KERN",aF "MU_KERN",aF "PLAIN",aF "ALEADERS",aF "CLEADERS",aF "XLEADERS",aF "MU_SKIP",aF "NONSCRIPT",aF "NAMED",aF "FOR_DEVICE",aF "WRITING",aF "OPENING",aF "CLOSING",aF "DEEPEST",aF "check_code",aF "check_short",aF "Char",aF "Ligature",aF "Box",aF "Rule",aF "Kern",aF "Skip",aF "Penalty",aF "Disc",aF "Mark",aF "Insert",aF "Adjust",aF "MathEdge",aF "Special",aF "Write",aF "OpenOut",aF "CloseOut",aF "Unset",aF "check_depth",aF "copied_box",aF "copied_special",aF "copied_rest",aF "copy_node",aF "copy_list",aF "described_special",aF "described_rest",aF "described",aF "described_list",aF "EDGE",aF "MOST_FONTS",aF "MOST_PARAMS",aF "MOST_SIZE",aF "PLAIN_SORT",aF "PROGRAM_SORT",aF "LARGER_SORT",aF "PIECES_SORT",aF "STOP_SKIP",aF "KERN_OP",aF "LEAD",aF "NO_CHARACTER",aF "LETTERS",aF "SMALL_PARAMS",aF "is_size",aF "check_sizes",aF "check_pieces",aF "check_chars",aF "check_larger",aF "check_program",aF "left_start",aF "Font",aF "font_name",aF "font_of_rows",aF "_law_spans",aF "_law_heap",aF "_law_take",aF "_law_tree",aF "_law_size",aF "_law_leader",aF "_law_held",aF "_law_node",aF "_law_turned",aF "_law_spoil",aF "_law_deep"]
noncomputable def HE (P:aB):Heap:=absHeap (tr (kK P)) 996 {}
def YP (w:ah) (h:bA):Prop:=∀b o,(HE w.params).get? b=some o->h.get? b=some o
theorem Nq:opening PW=plainProg PW.main.scope.names:=by kernel_rfl
theorem Nr (s:ak):fenceModules? PW s=some s:=by kernel_rfl
theorem Nt (w:ah):((boot_heap w.params).isNs mainGlobals&&(#[]:Array GenState).size==0,(boot_heap w.params).objs.size,(boot_heap w.params).nsMap mainGlobals "__annotations__")=(true,11,AN):=by kernel_rfl
theorem Nu (w:ah):(λos:ei=>(staticsOk (importedModules PW.main.body) (boot_heap w.params) (HE w.params)&&namesBound PW (HE w.params)&&gensDone ⟨HE w.params,#[],{},1675,os⟩&&laidKept (boot_heap w.params) (HE w.params)))=λos=>true:=by kernel_rfl
theorem Nv (w:ah):(λos:ei=>openSeen VQ LS (importedModules PW.main.body) (λs=>xlAt VQ [] s&&recOk [] s) true ⟨HE w.params,#[],{},1675,os⟩)=λos=>openGood VQ LS:=by kernel_rfl
end
end
section
noncomputable section
theorem Nw (w:ah) (os:ei):(sh (kK w.params) 996 1675 os).abs=⟨HE w.params,#[],{},1675,os⟩:=by kernel_rfl
theorem Ny (w:ah) (os:ei):topRun treeTable PW w 11 AN MM ⟨boot_heap w.params,#[],boot_drawn,boot_toks,os⟩ (topStub PW)=some ⟨HE w.params,#[],{},1675,os⟩:=(Np w os).trans (bW some (Nw w os))
theorem Nz:LeftO PW VQ LS (λs=>xlAt VQ [] s&&recOk [] s) (λs=>s.heap) (λw=>HE w.params) 20000:=
 LeftO.of_pieces (H₀:=boot_heap) (H₁:=HE) (gs₀:=#[]) (gs₁:=#[]) (d₀:=boot_drawn) (d₁:={}) (k₀:=boot_toks) (k₁:=1675) (m₀:=11) (ann:=AN) (M:=MM)
  (boot_open Nq (by decide+kernel) Nr) Nt Ny (by decide+kernel)
  (λw=>funext λos=>by
   have a:=congrFun (Nu w) os
   have b:=congrFun (Nv w) os
   exact Prod.ext a (Prod.ext b rfl))
theorem lD:(chainsOk VQ&&opensWell RR.prog&&(frees RR.toRowW&&RR.within.isEmpty))=true:=by decide+kernel
end
end
section
noncomputable section
noncomputable def DL:DefRec:=⟨aF "law",sA (dH 92),sB (dH 92),sS (dH 92),⟨632,0,648,112⟩⟩
theorem NA:defOf VQ RR.name=some (DL,[]):=by kernel_rfl
theorem NC:RR.prog.theDef RR.name=some (DL.params,DL.body,DL.scope):=by kernel_rfl
theorem NE:kwWritten? DL.params.kwonlyargs DL.params.kw_defaults=some []:=by kernel_rfl
theorem NF (ws:RR.wellSaid=true) (tb:RR.prog.tablesWhole=true) (hw:RR.toRowW.promised)
  (hc:WalkO VQ LS (XL VQ []) YP RR.toRowW DL [] λf vs=>PySem.call f vs):RR.Holds:=
 holds_open (r:=RR) (q:=VQ) (loose:=LS) (Xt:=λs=>xlAt VQ [] s&&recOk [] s) (XP:=XL VQ []) (Yf:=λs=>s.heap) (Ya:=λw=>HE w.params) (YP:=YP) (d:=DL) (kwd:=[]) (N:=20000)
  Nz (λw s e b o h=>by rw [e];exact h) (λw h h' y k b o e=>k b o (y b o e))
  (λs e=>xl_of s (u7.mp e).1) XL.keeps NA NC NE (λs e=>recFacts_of (u7.mp e).2) rfl ws lD ⟨rfl,rfl,rfl,rfl,rfl,tb⟩ hw hc
theorem NG:rw_sq0062_01.row.toRowW.promised:=by w_witness2
end
end
section
noncomputable section
theorem NH (P:aB):(KK P).map (λp=>(sH p.1 996,((tr (kK P)).get p.1).bind alive))=(KK P).map (λp=>(true,some p.2)):=by kernel_rfl
theorem NI {w:ah} {h:bA} (y:YP w h):(KK w.params).In h:=by
 intro a o e
 refine y a o ?_
 have key:∀l:eE,l.map (λp=>(sH p.1 996,((tr (kK w.params)).get p.1).bind alive))=l.map (λp=>(true,some p.2))-> ∀a o,l.lookup a=some o->a<996/\((tr (kK w.params)).get a).bind alive=some o:=by
  intro l
  induction l with
  |nil=>intro _ a o e;cases e
  |cons p r ih=>
   intro h a o e
   obtain ⟨b,x⟩:=p
   simp only [List.map_cons,List.cons.injEq,Prod.mk.injEq] at h
   simp only [nJ] at e
   split at e
   ·rename_i q;cases e;rw [ik.mp q];exact ⟨dB h.1.1,h.1.2⟩
   ·exact ih h.2 a o e
 obtain ⟨h1,h2⟩:=key _ (NH w.params) a o e
 cases hg:(tr (kK w.params)).get a with
 |none=>rw [hg] at h2;cases h2
 |some o'=>
  rw [hg] at h2
  show(absHeap (tr (kK w.params)) 996 {}).get? a=some o
  rw [abs_get h1 hg]
  exact h2
end
end
section
section
variable {prog:cP} {w:ah} {A:bZ} {E:aa->ak->Prop} {s:ak} {K:eE} {h₀:bA} {L a:ac} {m mg mb:ai->Option aa} {cn:ai} {cs:bD} {bX:aa} {cl:List (ai×ac)} {p:cP} {loose:List ai}
variable {x y z:ai} {k c d:Int} {t u u':af} {p1 p2 p3 p4 p5 p6 p7 p8:aW} {ck:Nat} {body l:List bP} {Q:eK->ak->Prop}
end
end
section
noncomputable abbrev Led:=List (ac×av)
def pp (w:ah) (f:ac) (c:Nat) (Pre:Led->List aa->Prop) (cM:aa->Prop):Prop:=
 ∀(p:cP) (loose:List ai) (bH:gp->Option aa) (mg mb:ai->Option aa) (dp un:Nat) (gd:Option (List gN)) (cn:ai) (cs:bD) (a:ac) (bX:aa) (cl:List (ai×ac)) (outer:List cu) (A₀:bZ) (base h₀:bA) (L:ac)
  (m:ai->Option aa) (news:Led) (s:ak) (vs:List aa) (Q E:aa->ak->Prop),
  (B:fx A₀ base outer h₀)->(F:Fr h₀ L s.heap m)->(X:(KK w.params).In h₀)->(N:aU h₀ L s.heap news)->(T:Top p loose bH mg mb h₀)->(hk:cs.kind= .function)->(hd:dp+c<recursionLimit)->(hu:un+8*c<cLine)->(hp:Pre news vs)->
  (gb:∀r h' bQ,Fr h₀ L h' m->aU h₀ L h' news->cM r->Q r {s with heap:=h',toks:=bQ})->
  aC (aG rw_sq0062_01.row.prog w) (gy dp un gd cn cs L a bX cl outer) (call (.ref f) vs) Q E s
def Sp (w:ah) (f:ac) (c:Nat) (Pre:Led->List aa->Prop) (cM:Led->Led->aa->Prop):Prop:=
 ∀(p:cP) (loose:List ai) (bH:gp->Option aa) (mg mb:ai->Option aa) (dp un:Nat) (gd:Option (List gN)) (cn:ai) (cs:bD) (a:ac) (bX:aa) (cl:List (ai×ac)) (outer:List cu) (A₀:bZ) (base h₀:bA) (L:ac)
  (m:ai->Option aa) (news:Led) (s:ak) (vs:List aa) (Q E:aa->ak->Prop),
  (B:fx A₀ base outer h₀)->(F:Fr h₀ L s.heap m)->(X:(KK w.params).In h₀)->(N:aU h₀ L s.heap news)->(T:Top p loose bH mg mb h₀)->(hk:cs.kind= .function)->(hd:dp+c<recursionLimit)->(hu:un+8*c<cLine)->(hp:Pre news vs)->
  (gb:∀r tl h' bQ,Fr h₀ L h' m->aU h₀ L h' (news++tl)->(∀q∈news,∀p∈tl,q.1≠p.1)->cM news tl r->Q r {s with heap:=h',toks:=bQ})->
  aC (aG rw_sq0062_01.row.prog w) (gy dp un gd cn cs L a bX cl outer) (call (.ref f) vs) Q E s
section
variable {w:ah} {f:ac} {c:Nat} {p:cP} {loose:List ai} {bH:gp->Option aa} {mg mb:ai->Option aa} {dp un:Nat} {gd:Option (List gN)} {cn:ai} {cs:bD} {a:ac} {bX:aa} {cl:List (ai×ac)} {outer:List cu} {A₀:bZ} {base h₀:bA} {L:ac}
 {m:ai->Option aa} {news:Led} {s:ak} {vs:List aa} {Q E:aa->ak->Prop}
theorem Sp.use {Pre:Led->List aa->Prop} {cM:Led->Led->aa->Prop} (C:Sp w f c Pre cM) (B:fx A₀ base outer h₀) (F:Fr h₀ L s.heap m) (X:(KK w.params).In h₀) (N:aU h₀ L s.heap news) (T:Top p loose bH mg mb h₀) (hk:cs.kind= .function)
 (hd:dp+c<recursionLimit) (hu:un+8*c<cLine) (hp:Pre news vs) (ret:∀r tl h' bQ,Fr h₀ L h' m->aU h₀ L h' (news++tl)->(∀q∈news,∀p∈tl,q.1≠p.1)->cM news tl r->Q r {s with heap:=h',toks:=bQ}):
 aC (aG rw_sq0062_01.row.prog w) (gy dp un gd cn cs L a bX cl outer) (call (.ref f) vs) Q E s:=C _ _ _ _ _ _ _ _ _ _ _ _ _ _ _ _ _ _ _ _ _ _ _ _ B F X N T hk hd hu hp ret
end
section
variable {prog:cP} {w:ah} {A₀ A:bZ} {s:ak} {base h₀:bA} {outer:List cu} {L:ac} {m:ai->Option aa} {env:cu} {news:Led} {R:kB->ak->Prop} {name qual:ai} {params:Arguments} {body bd:List bP} {scope:bD} {dV kV doc pm jc ct oc:aa} {an od:Option ac}
 {jd:Array (Option aa)} {f:ac} {args:Args} {binds:List (ai×aa)} {mg mb:ai->Option aa} {p:cP} {loose:List ai} {bH:gp->Option aa} {K:eE}
theorem enter (B:fx A₀ base outer h₀) (F:Fr h₀ L s.heap m) (sZ:K.In h₀) (N:aU h₀ L s.heap news) (T:Top p loose bH mg mb h₀) (hA:A.frames=some (env::outer)) (hf:env.frame=some L) (AS:env.scope.kind= .function)
  (ho:K.lookup f=some ⟨oc,od,.func (fnOf name qual params body scope dV kV doc pm an jc ct),jd⟩) (vA:codeIn K jc qual=true) (AT:A.depth<recursionLimit)
  (AU:BindsTo s (fnOf name qual params body scope dV kV doc pm an jc ct) args binds.reverse) (AV:∀y∈binds.reverse,scope.names.lookup y.1=some .local)
  (hb:body=bd)
  (h:∀g L' aS tk,Fr h₀ L g m->Fr g L' aS (λy=>binds.lookup y)->aU g L' aS news->fx A base (env::outer) g->K.In g->Top p loose bH mg mb g->
   aC (aG prog w) (A.deeper (gz qual scope L' f jc)) (d8 bd (gz qual scope L' f jc))
    (λfl s'=>LeaveK h₀ L m g R (match fl with| .ret v=>v|_=>.none) s')
    (λe s'=>aC (aG prog w) (A.deeper (gz qual scope L' f jc)) (qm (gz qual scope L' f jc) e) (λz jt=>R (.error e) jt) (λe' jt=>R (.error e') jt) s')
    {s with heap:=aS,toks:=tk})
  (AW:scope.isCoroutine=false) (AX:scope.isGenerator=false) (hk:scope.kind= .function)
  (nV:∀x∈scope.names,x.2≠ .cell):codeAny (aG prog w) A (.call (.ref f) args) R s:=
 code_def B F sZ N T hA hf AS ho vA AT AU AV (λg L' aS FG F' N' B' X' T'=>by
  rw [List.reverse_reverse] at F'
  subst hb
  exact h g L' aS _ FG F' N' B' X' T') AW AX hk nV
end
end
section
structure Gl where
 w:Int
 st:Int
 so:Int
 sh:Int
 s8:Int
inductive Nd where
 |char (k c:Int)
 |gP (k c a b:Int) (l r:Bool)
 |rule (w h d:Option Int)
 |fy (w k:Int)
 |skip (g:Gl) (k:Int)
 |lead (g:Gl) (k:Int) (l:Nd)
 |dk (v:Int)
 |dX (la lb lc:List Nd)
 |mark (a b:Int)
 |ins (k sz d:Int) (g:Gl) (c:Int) (l:List Nd)
 |eR (l:List Nd)
 |math (b:Bool) (w:Int)
 |spec (a b:UInt8)
 |unset (w h d sp n st:Int) (v:Bool) (l:List Nd)
 |box (k w h d sh sg od r r2:Int) (l:List Nd)
section
structure E_ where
 a:Nat->Nat
 u:Nat
 ml:List ac
 cQ:List ac
 cU:Array aa
 dJ:Nat
 m2:List ac
 qD:List ac
 qE:Array aa
 mw:Nat
 m3:List ac
 qF:List ac
 qG:Array aa
 mx:Nat
 wv:aa
 hv:aa
 dv:aa
 es:List l5
end
noncomputable def eA (l:List Nat) (u:Nat) (ml cQ:List ac) (cU:Array aa) (dJ:Nat):E_:=⟨λi=>l.getD i 0,u,ml,cQ,cU,dJ,[],[],#[],0,[],[],#[],0,.none,.none,.none,[]⟩
def FN (P:aB) (led:Led) (x:ac) (k:Int):Prop:=∃e:E_,(x,cV 896 (e.a 0))∈led/\(e.a 0,cY e.es (e.a 1))∈led/\getL (sO "number") e.es=some (some (.int k (e.a 2)))
def GL (P:aB) (led:Led) (x:ac) (g:Gl):Prop:=∃e:E_,(x,cV 225 (e.a 0))∈led/\(e.a 0,cY [⟨aO P (sO "width"),.str (sO "width") (e.a 1),.int g.w (e.a 6)⟩,⟨aO P (sO "stretch"),.str (sO "stretch") (e.a 2),.int g.st (e.a 7)⟩,⟨aO P (sO "stretch_order"),.str (sO "stretch_order") (e.a 3),.int g.so (e.a 8)⟩,⟨aO P (sO "shrink"),.str (sO "shrink") (e.a 4),.int g.sh (e.a 9)⟩,⟨aO P (sO "shrink_order"),.str (sO "shrink_order") (e.a 5),.int g.s8 (e.a 10)⟩] 5)∈led
def TT (P:aB) (led:Led) (qt dt:ac) (n st:Int):Prop:=∃e:E_,(qt,cV 281 dt)∈led/\(dt,cY [⟨aO P (sO "natural"),.str (sO "natural") (e.a 0),.int n e.u⟩,⟨aO P (sO "stretch"),.str (sO "stretch") (e.a 1),.ref (e.a 5)⟩,⟨aO P (sO "shrink"),.str (sO "shrink") (e.a 2),.ref (e.a 6)⟩] 3)∈led/\(e.a 5,(⟨.type "list",none,.seq #[.int 0 (e.a 7),.int st (e.a 8),.int 0 (e.a 9),.int 0 (e.a 10)] (e.a 3),#[]⟩:av))∈led/\(e.a 6,(⟨.type "list",none,.seq #[.int 0 (e.a 11),.int 0 (e.a 12),.int 0 (e.a 13),.int 0 (e.a 14)] (e.a 4),#[]⟩:av))∈led
def OI (v:aa):Option Int->Prop
 |none=>v= .none
 |some i=>∃t,v= .int i t
mutual
noncomputable def ND (P:aB) (led:Led):Nd->aa->List ac->Prop
 | .char k c,vz,mu=>∃e:E_,vz= .ref (e.a 0)/\(e.a 0,cV 340 (e.a 1))∈led/\(e.a 1,cY [⟨aO P (sO "font"),.str (sO "font") (e.a 2),.ref (e.a 7)⟩,⟨aO P (sO "code"),.str (sO "code") (e.a 3),.int c (e.a 12)⟩] 2)∈led/\FN P led (e.a 7) k/\mu=[]
 | .gP k c a b l r,vz,mu=>∃e:E_,vz= .ref (e.a 0)/\(e.a 0,cV 360 (e.a 1))∈led/\(e.a 1,cY [⟨aO P (sO "font"),.str (sO "font") (e.a 2),.ref (e.a 7)⟩,⟨aO P (sO "code"),.str (sO "code") (e.a 3),.int c (e.a 12)⟩,⟨aO P (sO "parts"),.str (sO "parts") (e.a 4),.ref (e.a 11)⟩,⟨aO P (sO "left"),.str (sO "left") (e.a 5),.bool l⟩,⟨aO P (sO "right"),.str (sO "right") (e.a 6),.bool r⟩] 5)∈led/\FN P led (e.a 7) k/\(e.a 11,(⟨.type "tuple",none,.seq #[.int a (e.a 13),.int b (e.a 14)] (e.a 15),#[]⟩:av))∈led/\mu=[]
 | .rule w h d,vz,mu=>∃e:E_,vz= .ref (e.a 0)/\(e.a 0,cV 402 (e.a 1))∈led/\(e.a 1,cY [⟨aO P (sO "width"),.str (sO "width") (e.a 2),e.wv⟩,⟨aO P (sO "height"),.str (sO "height") (e.a 3),e.hv⟩,⟨aO P (sO "depth"),.str (sO "depth") (e.a 4),e.dv⟩] 3)∈led/\OI e.wv w/\OI e.hv h/\OI e.dv d/\mu=[]
 | .fy w k,vz,mu=>∃e:E_,vz= .ref (e.a 0)/\(e.a 0,cV 423 (e.a 1))∈led/\(e.a 1,cY [⟨aO P (sO "width"),.str (sO "width") (e.a 2),.int w (e.a 10)⟩,⟨aO P (sO "sort"),.str (sO "sort") (e.a 3),.int k (e.a 12)⟩] 2)∈led/\mu=[]
 | .skip g k,vz,mu=>∃e:E_,vz= .ref (e.a 0)/\(e.a 0,cV 445 (e.a 1))∈led/\(e.a 1,cY [⟨aO P (sO "glue"),.str (sO "glue") (e.a 2),.ref (e.a 13)⟩,⟨aO P (sO "sort"),.str (sO "sort") (e.a 3),.int k (e.a 12)⟩,⟨aO P (sO "leader"),.str (sO "leader") (e.a 4),.none⟩] 3)∈led/\GL P led (e.a 13) g/\mu=[]
 | .lead g k l,vz,mu=>∃e:E_,vz= .ref (e.a 0)/\(e.a 0,cV 445 (e.a 1))∈led/\(e.a 1,cY [⟨aO P (sO "glue"),.str (sO "glue") (e.a 2),.ref (e.a 13)⟩,⟨aO P (sO "sort"),.str (sO "sort") (e.a 3),.int k (e.a 12)⟩,⟨aO P (sO "leader"),.str (sO "leader") (e.a 4),.ref (e.a 5)⟩] 3)∈led/\GL P led (e.a 13) g/\ND P led l (.ref (e.a 5)) e.ml/\mu=e.ml
 | .dk v,vz,mu=>∃e:E_,vz= .ref (e.a 0)/\(e.a 0,cV 466 (e.a 1))∈led/\(e.a 1,cY [⟨aO P (sO "value"),.str (sO "value") (e.a 2),.int v (e.a 12)⟩] 1)∈led/\mu=[]
 | .dX la lb lc,vz,mu=>∃e:E_,vz= .ref (e.a 0)/\(e.a 0,cV 487 (e.a 1))∈led/\(e.a 1,cY [⟨aO P (sO "pre"),.str (sO "pre") (e.a 2),.ref (e.a 5)⟩,⟨aO P (sO "post"),.str (sO "post") (e.a 3),.ref (e.a 6)⟩,⟨aO P (sO "middle"),.str (sO "middle") (e.a 4),.ref (e.a 7)⟩] 3)∈led/\(e.a 5,(⟨.type "list",none,.seq e.cU e.dJ,#[]⟩:av))∈led/\aP P led la e.cU.toList e.cQ/\e.ml=(e.a 5)::e.cQ/\(e.a 6,(⟨.type "list",none,.seq e.qE e.mw,#[]⟩:av))∈led/\aP P led lb e.qE.toList e.qD/\e.m2=(e.a 6)::e.qD/\(e.a 7,(⟨.type "list",none,.seq e.qG e.mx,#[]⟩:av))∈led/\aP P led lc e.qG.toList e.qF/\e.m3=(e.a 7)::e.qF/\mu=e.ml++(e.m2++e.m3)
 | .mark a b,vz,mu=>∃e:E_,vz= .ref (e.a 0)/\(e.a 0,cV 508 (e.a 1))∈led/\(e.a 1,cY [⟨aO P (sO "tokens"),.str (sO "tokens") (e.a 2),.ref (e.a 11)⟩] 1)∈led/\(e.a 11,(⟨.type "tuple",none,.seq #[.ref (e.a 5),.ref (e.a 6)] (e.a 15),#[]⟩:av))∈led/\(e.a 5,(⟨.type "tuple",none,.seq #[.int 11 (e.a 13),.int a (e.a 14)] (e.a 3),#[]⟩:av))∈led/\(e.a 6,(⟨.type "tuple",none,.seq #[.int 0 (e.a 7),.int b (e.a 8)] (e.a 4),#[]⟩:av))∈led/\mu=[]
 | .ins k sz d g c l,vz,mu=>∃e:E_,vz= .ref (e.a 0)/\(e.a 0,cV 529 (e.a 1))∈led/\(e.a 1,cY [⟨aO P (sO "number"),.str (sO "number") (e.a 2),.int k (e.a 8)⟩,⟨aO P (sO "size"),.str (sO "size") (e.a 3),.int sz (e.a 9)⟩,⟨aO P (sO "depth"),.str (sO "depth") (e.a 4),.int d (e.a 10)⟩,⟨aO P (sO "top"),.str (sO "top") (e.a 5),.ref (e.a 13)⟩,⟨aO P (sO "cost"),.str (sO "cost") (e.a 6),.int c (e.a 12)⟩,⟨aO P (sO "items"),.str (sO "items") (e.a 7),.ref (e.a 11)⟩] 6)∈led/\GL P led (e.a 13) g/\(e.a 11,(⟨.type "list",none,.seq e.cU e.dJ,#[]⟩:av))∈led/\aP P led l e.cU.toList e.cQ/\e.ml=(e.a 11)::e.cQ/\mu=e.ml
 | .eR l,vz,mu=>∃e:E_,vz= .ref (e.a 0)/\(e.a 0,cV 550 (e.a 1))∈led/\(e.a 1,cY [⟨aO P (sO "items"),.str (sO "items") (e.a 2),.ref (e.a 11)⟩] 1)∈led/\(e.a 11,(⟨.type "list",none,.seq e.cU e.dJ,#[]⟩:av))∈led/\aP P led l e.cU.toList e.cQ/\e.ml=(e.a 11)::e.cQ/\mu=e.ml
 | .math b w,vz,mu=>∃e:E_,vz= .ref (e.a 0)/\(e.a 0,cV 571 (e.a 1))∈led/\(e.a 1,cY [⟨aO P (sO "is_on"),.str (sO "is_on") (e.a 2),.bool b⟩,⟨aO P (sO "width"),.str (sO "width") (e.a 3),.int w (e.a 12)⟩] 2)∈led/\mu=[]
 | .spec a b,vz,mu=>∃e:E_,vz= .ref (e.a 0)/\(e.a 0,cV 592 (e.a 1))∈led/\(e.a 1,cY [⟨aO P (sO "octets"),.str (sO "octets") (e.a 2),.bytes #[a,b] (e.a 12)⟩] 1)∈led/\mu=[]
 | .unset w h d sp n st v l,vz,mu=>∃e:E_,vz= .ref (e.a 0)/\(e.a 0,cV 677 (e.a 1))∈led/\(e.a 1,cY [⟨aO P (sO "width"),.str (sO "width") (e.a 2),.int w (e.a 9)⟩,⟨aO P (sO "height"),.str (sO "height") (e.a 3),.int h (e.a 10)⟩,⟨aO P (sO "depth"),.str (sO "depth") (e.a 4),.int d (e.a 12)⟩,⟨aO P (sO "items"),.str (sO "items") (e.a 5),.ref (e.a 11)⟩,⟨aO P (sO "spans"),.str (sO "spans") (e.a 6),.int sp (e.a 13)⟩,⟨aO P (sO "totals"),.str (sO "totals") (e.a 7),.ref (e.a 14)⟩,⟨aO P (sO "is_vertical"),.str (sO "is_vertical") (e.a 8),.bool v⟩] 7)∈led/\(e.a 11,(⟨.type "list",none,.seq e.cU e.dJ,#[]⟩:av))∈led/\aP P led l e.cU.toList e.cQ/\e.ml=(e.a 11)::e.cQ/\TT P led (e.a 14) (e.a 15) n st/\mu=(e.a 15)::e.ml
 | .box k w h d sh sg od r r2 l,vz,mu=>∃e:E_,vz= .ref (e.a 0)/\(e.a 0,cV 381 (e.a 1))∈led/\(e.a 1,cY [⟨aO P (sO "kind"),.str (sO "kind") (e.a 2),.int k (e.a 16)⟩,⟨aO P (sO "width"),.str (sO "width") (e.a 3),.int w (e.a 17)⟩,⟨aO P (sO "height"),.str (sO "height") (e.a 4),.int h (e.a 18)⟩,⟨aO P (sO "depth"),.str (sO "depth") (e.a 5),.int d (e.a 19)⟩,⟨aO P (sO "items"),.str (sO "items") (e.a 6),.ref (e.a 11)⟩,⟨aO P (sO "shift"),.str (sO "shift") (e.a 7),.int sh e.u⟩,⟨aO P (sO "sign"),.str (sO "sign") (e.a 8),.int sg (e.a 20)⟩,⟨aO P (sO "order"),.str (sO "order") (e.a 9),.int od (e.a 21)⟩,⟨aO P (sO "ratio"),.str (sO "ratio") (e.a 10),.ref (e.a 12)⟩] 9)∈led/\(e.a 11,(⟨.type "list",none,.seq e.cU e.dJ,#[]⟩:av))∈led/\aP P led l e.cU.toList e.cQ/\e.ml=(e.a 11)::e.cQ/\(e.a 12,(⟨.type "tuple",none,.seq #[.int r (e.a 13),.int r2 (e.a 14)] (e.a 15),#[]⟩:av))∈led/\mu=(e.a 1)::e.ml
noncomputable def aP (P:aB) (led:Led):List Nd->List aa->List ac->Prop
 |[],vs,mu=>vs=[]/\mu=[]
 |d::r,vs,mu=>∃(v:aa) (vr:List aa) (m1 m2:List ac),vs=v::vr/\mu=m1++m2/\ND P led d v m1/\aP P led r vr m2
end
mutual
noncomputable def CP:Nd->Prop
 | .char k c=>0<=c/\c<=255
 | .gP k c a b l r=>0<=c/\c<=255/\0<=a/\a<=255/\0<=b/\b<=255
 | .rule w h d=>(∀i∈w,-1073741823<=i/\i<=1073741823)/\(∀i∈h,-1073741823<=i/\i<=1073741823)/\(∀i∈d,-1073741823<=i/\i<=1073741823)
 | .fy w k=>-1073741823<=w/\w<=1073741823/\0<=k/\k<=3
 | .skip g k=>((0<=k/\k<=5)\/(100<=k/\k<=199))/\ ¬(1<=k/\k<=3)
 | .lead g k l=>1<=k/\k<=3/\((∃w h d,l= .rule w h d)\/(∃k w h d sh sg od r r2 i,l= .box k w h d sh sg od r r2 i))/\CP l
 | .dk v=>-2147483647<=v/\v<=2147483647
 | .dX la lb lc=>(∃k c,la=[.char k c]/\0<=c/\c<=255)/\(∃w s,lb=[.fy w s]/\ -1073741823<=w/\w<=1073741823/\0<=s/\s<=3)/\(∃k c w s,lc=[.char k c,.fy w s]/\(0<=c/\c<=255)/\(-1073741823<=w/\w<=1073741823)/\0<=s/\s<=3)
 | .mark a b=>True
 | .ins k sz d g c l=>0<=k/\k<=254/\ -1073741823<=sz/\sz<=1073741823/\ -1073741823<=d/\d<=1073741823/\ -2147483647<=c/\c<=2147483647/\l.length<=100/\gD l
 | .eR l=>l.length<=100/\gD l
 | .math b w=>-1073741823<=w/\w<=1073741823
 | .spec a b=>True
 | .unset w h d sp n st v l=>-1073741823<=w/\w<=1073741823/\ -1073741823<=h/\h<=1073741823/\ -1073741823<=d/\d<=1073741823/\1<=sp/\sp<=2147483647/\l.length<=100/\gD l
 | .box k w h d sh sg od r r2 l=>2<=k/\k<=3/\ -1073741823<=w/\w<=1073741823/\ -1073741823<=h/\h<=1073741823/\ -1073741823<=d/\d<=1073741823/\l.length<=100/\gD l
noncomputable def gD:List Nd->Prop
 |[]=>True
 |d::r=>CP d/\gD r
end
mutual
noncomputable def ht:Nd->Nat
 | .char k c=>0
 | .gP k c a b l r=>0
 | .rule w h d=>0
 | .fy w k=>0
 | .skip g k=>0
 | .lead g k l=>ht l+1
 | .dk v=>0
 | .dX la lb lc=>max (bR la) (max (bR lb) (bR lc))
 | .mark a b=>0
 | .ins k sz d g c l=>bR l
 | .eR l=>bR l
 | .math b w=>0
 | .spec a b=>0
 | .unset w h d sp n st v l=>bR l
 | .box k w h d sh sg od r r2 l=>bR l
noncomputable def bR:List Nd->Nat
 |[]=>0
 |d::r=>max (ht d+1) (bR r)
end
end
section
noncomputable def fk (o:av):Nat:=match o.data with
 | .dict es z=>(match getL (sO "number") es.toList with
  |some (some z)=>0
  |_=>(match es.toList with
   |e::z=>if e.key.isStr (sO "kind") then 1 else if e.key.isStr (sO "natural") then 2 else 0
   |[]=>0))
 | .seq vs z=>(match o.cls with
  | .type "list"=>(match vs.toList with
   |[.int z y,.int q j,.int u g,.int c r]=>0
   |_=>3)
  |_=>0)
 |_=>0
theorem qH {m sm:List ac} {q:ac} (e:m=q::sm):q∈m:=e▸ .head _
theorem qI {m sm:List ac} {q a:ac} (e:m=q::sm) (h:a∈sm):a∈m:=e▸ .tail _ h
theorem Fp {mu m1 m2 m3:List ac} {a:ac} (e:mu=m1++(m2++m3)) (h:a∈m1):a∈mu:=e▸aq _ h
theorem Fq {mu m1 m2 m3:List ac} {a:ac} (e:mu=m1++(m2++m3)) (h:a∈m2):a∈mu:=e▸ay _ (aq _ h)
theorem Fs {mu m1 m2 m3:List ac} {a:ac} (e:mu=m1++(m2++m3)) (h:a∈m3):a∈mu:=e▸ay _ (ay _ h)
section
variable {P:aB} {led led':Led} {M:List ac}
theorem FN.keep (sub:∀p∈led,(fk p.2=0\/p.1∈M)->p∈led') {v:ac} {k:Int} (h:FN P led v k):FN P led' v k:=
 sM h λe f=>⟨e,sub _ f.1 (.inl rfl),sub _ f.2.1 (.inl (by
  show(match getL (sO "number") e.es with|some (some z)=>0|_=>_)=0
  rw [f.2.2])),f.2.2⟩
theorem GL.keep (sub:∀p∈led,(fk p.2=0\/p.1∈M)->p∈led') {v:ac} {g:Gl} (h:GL P led v g):GL P led' v g:=
 sM h λe f=>⟨e,sub _ f.1 (.inl rfl),sub _ f.2 (.inl rfl)⟩
theorem TT.keep (sub:∀p∈led,(fk p.2=0\/p.1∈M)->p∈led') {qt dt:ac} {n st:Int} (hd:dt∈M) (h:TT P led qt dt n st):TT P led' qt dt n st:=
 sM h λe f=>⟨e,sub _ f.1 (.inl rfl),sub _ f.2.1 (.inr hd),sub _ f.2.2.1 (.inl rfl),sub _ f.2.2.2 (.inl rfl)⟩
mutual
theorem ND.keep (sub:∀p∈led,(fk p.2=0\/p.1∈M)->p∈led'):∀(d:Nd) (v:aa) (mu:List ac),(∀a∈mu,a∈M)->ND P led d v mu->ND P led' d v mu
 | .char z y,q,j,hm,h=>h.elim λe f=>⟨e,f.1,sub _ (f.2.1) (.inl rfl),sub _ (f.2.2.1) (.inl rfl),FN.keep sub (f.2.2.2.1),f.2.2.2.2⟩
 | .gP z y q j u g,c,r,hm,h=>h.elim λe f=>⟨e,f.1,sub _ (f.2.1) (.inl rfl),sub _ (f.2.2.1) (.inl rfl),FN.keep sub (f.2.2.2.1),sub _ (f.2.2.2.2.1) (.inl rfl),f.2.2.2.2.2⟩
 | .rule z y q,j,u,hm,h=>h.elim λe f=>⟨e,f.1,sub _ (f.2.1) (.inl rfl),sub _ (f.2.2.1) (.inl rfl),f.2.2.2.1,f.2.2.2.2.1,f.2.2.2.2.2.1,f.2.2.2.2.2.2⟩
 | .fy z y,q,j,hm,h=>h.elim λe f=>⟨e,f.1,sub _ (f.2.1) (.inl rfl),sub _ (f.2.2.1) (.inl rfl),f.2.2.2⟩
 | .skip z y,q,j,hm,h=>h.elim λe f=>⟨e,f.1,sub _ (f.2.1) (.inl rfl),sub _ (f.2.2.1) (.inl rfl),GL.keep sub (f.2.2.2.1),f.2.2.2.2⟩
 | .lead z y q,j,u,hm,h=>h.elim λe f=>⟨e,f.1,sub _ (f.2.1) (.inl rfl),sub _ (f.2.2.1) (.inl rfl),GL.keep sub (f.2.2.2.1),ND.keep sub _ _ _ (λa ha=>hm a (f.2.2.2.2.2▸ha)) (f.2.2.2.2.1),f.2.2.2.2.2⟩
 | .dk z,y,q,hm,h=>h.elim λe f=>⟨e,f.1,sub _ (f.2.1) (.inl rfl),sub _ (f.2.2.1) (.inl rfl),f.2.2.2⟩
 | .dX z y q,j,u,hm,h=>h.elim λe f=>⟨e,f.1,sub _ (f.2.1) (.inl rfl),sub _ (f.2.2.1) (.inl rfl),sub _ (f.2.2.2.1) (.inr (hm _ (Fp (f.2.2.2.2.2.2.2.2.2.2.2.2) (qH (f.2.2.2.2.2.1))))),aP.keep sub _ _ _ (λa ha=>hm a (Fp (f.2.2.2.2.2.2.2.2.2.2.2.2) (qI (f.2.2.2.2.2.1) ha))) (f.2.2.2.2.1),f.2.2.2.2.2.1,sub _ (f.2.2.2.2.2.2.1) (.inr (hm _ (Fq (f.2.2.2.2.2.2.2.2.2.2.2.2) (qH (f.2.2.2.2.2.2.2.2.1))))),aP.keep sub _ _ _ (λa ha=>hm a (Fq (f.2.2.2.2.2.2.2.2.2.2.2.2) (qI (f.2.2.2.2.2.2.2.2.1) ha))) (f.2.2.2.2.2.2.2.1),f.2.2.2.2.2.2.2.2.1,sub _ (f.2.2.2.2.2.2.2.2.2.1) (.inr (hm _ (Fs (f.2.2.2.2.2.2.2.2.2.2.2.2) (qH (f.2.2.2.2.2.2.2.2.2.2.2.1))))),aP.keep sub _ _ _ (λa ha=>hm a (Fs (f.2.2.2.2.2.2.2.2.2.2.2.2) (qI (f.2.2.2.2.2.2.2.2.2.2.2.1) ha))) (f.2.2.2.2.2.2.2.2.2.2.1),f.2.2.2.2.2.2.2.2.2.2.2.1,f.2.2.2.2.2.2.2.2.2.2.2.2⟩
 | .mark z y,q,j,hm,h=>h.elim λe f=>⟨e,f.1,sub _ (f.2.1) (.inl rfl),sub _ (f.2.2.1) (.inl rfl),sub _ (f.2.2.2.1) (.inl rfl),sub _ (f.2.2.2.2.1) (.inl rfl),sub _ (f.2.2.2.2.2.1) (.inl rfl),f.2.2.2.2.2.2⟩
 | .ins z y q j u g,c,r,hm,h=>h.elim λe f=>⟨e,f.1,sub _ (f.2.1) (.inl rfl),sub _ (f.2.2.1) (.inl rfl),GL.keep sub (f.2.2.2.1),sub _ (f.2.2.2.2.1) (.inr (hm _ (f.2.2.2.2.2.2.2▸qH (f.2.2.2.2.2.2.1)))),aP.keep sub _ _ _ (λa ha=>hm a (f.2.2.2.2.2.2.2▸qI (f.2.2.2.2.2.2.1) ha)) (f.2.2.2.2.2.1),f.2.2.2.2.2.2.1,f.2.2.2.2.2.2.2⟩
 | .eR z,y,q,hm,h=>h.elim λe f=>⟨e,f.1,sub _ (f.2.1) (.inl rfl),sub _ (f.2.2.1) (.inl rfl),sub _ (f.2.2.2.1) (.inr (hm _ (f.2.2.2.2.2.2▸qH (f.2.2.2.2.2.1)))),aP.keep sub _ _ _ (λa ha=>hm a (f.2.2.2.2.2.2▸qI (f.2.2.2.2.2.1) ha)) (f.2.2.2.2.1),f.2.2.2.2.2.1,f.2.2.2.2.2.2⟩
 | .math z y,q,j,hm,h=>h.elim λe f=>⟨e,f.1,sub _ (f.2.1) (.inl rfl),sub _ (f.2.2.1) (.inl rfl),f.2.2.2⟩
 | .spec z y,q,j,hm,h=>h.elim λe f=>⟨e,f.1,sub _ (f.2.1) (.inl rfl),sub _ (f.2.2.1) (.inl rfl),f.2.2.2⟩
 | .unset z y q j u g c r,w,b,hm,h=>h.elim λe f=>⟨e,f.1,sub _ (f.2.1) (.inl rfl),sub _ (f.2.2.1) (.inl rfl),sub _ (f.2.2.2.1) (.inr (hm _ (f.2.2.2.2.2.2.2▸ .tail _ (qH (f.2.2.2.2.2.1))))),aP.keep sub _ _ _ (λa ha=>hm a (f.2.2.2.2.2.2.2▸ .tail _ (qI (f.2.2.2.2.2.1) ha))) (f.2.2.2.2.1),f.2.2.2.2.2.1,TT.keep sub (hm _ (f.2.2.2.2.2.2.2▸ .head _)) (f.2.2.2.2.2.2.1),f.2.2.2.2.2.2.2⟩
 | .box z y q j u g c r w b,i,k,hm,h=>h.elim λe f=>⟨e,f.1,sub _ (f.2.1) (.inl rfl),sub _ (f.2.2.1) (.inr (hm _ (f.2.2.2.2.2.2.2▸ .head _))),sub _ (f.2.2.2.1) (.inr (hm _ (f.2.2.2.2.2.2.2▸ .tail _ (qH (f.2.2.2.2.2.1))))),aP.keep sub _ _ _ (λa ha=>hm a (f.2.2.2.2.2.2.2▸ .tail _ (qI (f.2.2.2.2.2.1) ha))) (f.2.2.2.2.1),f.2.2.2.2.2.1,sub _ (f.2.2.2.2.2.2.1) (.inl rfl),f.2.2.2.2.2.2.2⟩
theorem aP.keep (sub:∀p∈led,(fk p.2=0\/p.1∈M)->p∈led'):∀(ds:List Nd) (vs:List aa) (mu:List ac),(∀a∈mu,a∈M)->aP P led ds vs mu->aP P led' ds vs mu
 |[],z,y,q,h=>h
 |z::y,q,j,hm,h=>by
  obtain ⟨v,vr,m1,m2,e1,e2,h1,h2⟩:=h
  exact ⟨v,vr,m1,m2,e1,e2,ND.keep sub _ _ _ (λa ha=>hm a (e2▸aq _ ha)) h1,aP.keep sub _ _ _ (λa ha=>hm a (e2▸ay _ ha)) h2⟩
end
end
section
variable {P:aB} {led led':Led}
theorem GL.i {x:ac} {g:Gl} {dg s0 s1 s2 s3 s4 a0 a1 a2 a3 a4:Nat} (h1:(x,cV 225 dg)∈led) (h2:(dg,cY [⟨aO P (sO "width"),.str (sO "width") s0,.int g.w a0⟩,⟨aO P (sO "stretch"),.str (sO "stretch") s1,.int g.st a1⟩,⟨aO P (sO "stretch_order"),.str (sO "stretch_order") s2,.int g.so a2⟩,⟨aO P (sO "shrink"),.str (sO "shrink") s3,.int g.sh a3⟩,⟨aO P (sO "shrink_order"),.str (sO "shrink_order") s4,.int g.s8 a4⟩] 5)∈led):GL P led x g:=⟨eA [dg,s0,s1,s2,s3,s4,a0,a1,a2,a3,a4] 0 [] [] #[] 0,h1,h2⟩
theorem TT.i {qt dt:ac} {n st:Int} {Ft Fu Fv Fw q1 q2 b0 b1 b2 b3 c0 c1 c2 c3 z1 z2:Nat} (h1:(qt,cV 281 dt)∈led) (h2:(dt,cY [⟨aO P (sO "natural"),.str (sO "natural") Ft,.int n Fw⟩,⟨aO P (sO "stretch"),.str (sO "stretch") Fu,.ref q1⟩,⟨aO P (sO "shrink"),.str (sO "shrink") Fv,.ref q2⟩] 3)∈led) (h3:(q1,(⟨.type "list",none,.seq #[.int 0 b0,.int st b1,.int 0 b2,.int 0 b3] z1,#[]⟩:av))∈led) (h4:(q2,(⟨.type "list",none,.seq #[.int 0 c0,.int 0 c1,.int 0 c2,.int 0 c3] z2,#[]⟩:av))∈led):TT P led qt dt n st:=⟨eA [Ft,Fu,Fv,z1,z2,q1,q2,b0,b1,b2,b3,c0,c1,c2,c3] Fw [] [] #[] 0,h1,h2,h3,h4⟩
theorem FN.mono (sub:∀p∈led,p∈led') {v:ac} {k:Int} (h:FN P led v k):FN P led' v k:=FN.keep (M:=[]) (λp hp z=>sub p hp) h
theorem GL.mono (sub:∀p∈led,p∈led') {v:ac} {g:Gl} (h:GL P led v g):GL P led' v g:=GL.keep (M:=[]) (λp hp z=>sub p hp) h
theorem ND.mono (sub:∀p∈led,p∈led') (d:Nd) (v:aa) (mu:List ac) (h:ND P led d v mu):ND P led' d v mu:=ND.keep (M:=mu) (λp hp z=>sub p hp) d v mu (λz h=>h) h
theorem aP.mono (sub:∀p∈led,p∈led') (d:List Nd) (v:List aa) (mu:List ac) (h:aP P led d v mu):aP P led' d v mu:=aP.keep (M:=mu) (λp hp z=>sub p hp) d v mu (λz h=>h) h
theorem te {k c:Int} {x dx:ac} {t0 t1:af} {fa:ac} {t9:af} (h1:(x,cV 340 dx)∈led) (h2:(dx,cY [⟨aO P (sO "font"),.str (sO "font") t0,.ref fa⟩,⟨aO P (sO "code"),.str (sO "code") t1,.int c t9⟩] 2)∈led) (h3:FN P led fa k):ND P led (.char k c) (.ref x) ([]):=by
 exact ⟨(eA [x,dx,t0,t1,0,0,0,fa,0,0,0,0,t9] 0 [] [] #[] 0),rfl,h1,h2,h3,rfl⟩
theorem Fx {k c a b:Int} {l r:Bool} {x dx:ac} {t0 t1 t2 t3 t4:af} {fa:ac} {t9:af} {q:ac} {ta tb:af} {z:Nat} (h1:(x,cV 360 dx)∈led) (h2:(dx,cY [⟨aO P (sO "font"),.str (sO "font") t0,.ref fa⟩,⟨aO P (sO "code"),.str (sO "code") t1,.int c t9⟩,⟨aO P (sO "parts"),.str (sO "parts") t2,.ref q⟩,⟨aO P (sO "left"),.str (sO "left") t3,.bool l⟩,⟨aO P (sO "right"),.str (sO "right") t4,.bool r⟩] 5)∈led) (h3:FN P led fa k) (h4:(q,(⟨.type "tuple",none,.seq #[.int a ta,.int b tb] z,#[]⟩:av))∈led):ND P led (.gP k c a b l r) (.ref x) ([]):=by
 exact ⟨(eA [x,dx,t0,t1,t2,t3,t4,fa,0,0,0,q,t9,ta,tb,z] 0 [] [] #[] 0),rfl,h1,h2,h3,h4,rfl⟩
theorem nd_rule {w h d:Option Int} {x dx:ac} {t0 t1 t2:af} {wv hv dv:aa} (h1:(x,cV 402 dx)∈led) (h2:(dx,cY [⟨aO P (sO "width"),.str (sO "width") t0,wv⟩,⟨aO P (sO "height"),.str (sO "height") t1,hv⟩,⟨aO P (sO "depth"),.str (sO "depth") t2,dv⟩] 3)∈led) (h3:OI wv w) (h4:OI hv h) (h5:OI dv d):ND P led (.rule w h d) (.ref x) ([]):=by
 exact ⟨⟨λi=>[x,dx,t0,t1,t2].getD i 0,0,[],[],#[],0,[],[],#[],0,[],[],#[],0,wv,hv,dv,[]⟩,rfl,h1,h2,h3,h4,h5,rfl⟩
theorem qJ {w k:Int} {x dx:ac} {t0 t1:af} {t8 t9:af} (h1:(x,cV 423 dx)∈led) (h2:(dx,cY [⟨aO P (sO "width"),.str (sO "width") t0,.int w t8⟩,⟨aO P (sO "sort"),.str (sO "sort") t1,.int k t9⟩] 2)∈led):ND P led (.fy w k) (.ref x) ([]):=by
 exact ⟨(eA [x,dx,t0,t1,0,0,0,0,0,0,t8,0,t9] 0 [] [] #[] 0),rfl,h1,h2,rfl⟩
theorem pq {g:Gl} {k:Int} {x dx:ac} {t0 t1 t2:af} {ga:ac} {t9:af} (h1:(x,cV 445 dx)∈led) (h2:(dx,cY [⟨aO P (sO "glue"),.str (sO "glue") t0,.ref ga⟩,⟨aO P (sO "sort"),.str (sO "sort") t1,.int k t9⟩,⟨aO P (sO "leader"),.str (sO "leader") t2,.none⟩] 3)∈led) (h3:GL P led ga g):ND P led (.skip g k) (.ref x) ([]):=by
 exact ⟨(eA [x,dx,t0,t1,t2,0,0,0,0,0,0,0,t9,ga] 0 [] [] #[] 0),rfl,h1,h2,h3,rfl⟩
theorem xU {g:Gl} {k:Int} {l:Nd} {x dx:ac} {t0 t1 t2:af} {ga:ac} {t9:af} {la:ac} {ml:List ac} (h1:(x,cV 445 dx)∈led) (h2:(dx,cY [⟨aO P (sO "glue"),.str (sO "glue") t0,.ref ga⟩,⟨aO P (sO "sort"),.str (sO "sort") t1,.int k t9⟩,⟨aO P (sO "leader"),.str (sO "leader") t2,.ref la⟩] 3)∈led) (h3:GL P led ga g) (h4:ND P led l (.ref la) ml):ND P led (.lead g k l) (.ref x) (ml):=by
 exact ⟨(eA [x,dx,t0,t1,t2,la,0,0,0,0,0,0,t9,ga] 0 ml [] #[] 0),rfl,h1,h2,h3,h4,rfl⟩
theorem AY {v:Int} {x dx:ac} {t0:af} {t9:af} (h1:(x,cV 466 dx)∈led) (h2:(dx,cY [⟨aO P (sO "value"),.str (sO "value") t0,.int v t9⟩] 1)∈led):ND P led (.dk v) (.ref x) ([]):=by
 exact ⟨(eA [x,dx,t0,0,0,0,0,0,0,0,0,0,t9] 0 [] [] #[] 0),rfl,h1,h2,rfl⟩
theorem NJ {la lb lc:List Nd} {x dx:ac} {t0 t1 t2:af} {q1 q2 q3:ac} {m1 m2 m3:List ac} {AZ:Array aa} {Fy:Nat} {A0:List ac} {qE:Array aa} {mw:Nat} {qD:List ac} {qG:Array aa} {mx:Nat} {qF:List ac} (h1:(x,cV 487 dx)∈led) (h2:(dx,cY [⟨aO P (sO "pre"),.str (sO "pre") t0,.ref q1⟩,⟨aO P (sO "post"),.str (sO "post") t1,.ref q2⟩,⟨aO P (sO "middle"),.str (sO "middle") t2,.ref q3⟩] 3)∈led) (h3:(q1,(⟨.type "list",none,.seq AZ Fy,#[]⟩:av))∈led) (h4:aP P led la AZ.toList A0) (h5:m1=q1::A0) (h6:(q2,(⟨.type "list",none,.seq qE mw,#[]⟩:av))∈led) (h7:aP P led lb qE.toList qD) (h8:m2=q2::qD) (h9:(q3,(⟨.type "list",none,.seq qG mx,#[]⟩:av))∈led) (cT:aP P led lc qG.toList qF) (dq:m3=q3::qF):ND P led (.dX la lb lc) (.ref x) (m1++(m2++m3)):=by
 exact ⟨⟨λi=>[x,dx,t0,t1,t2,q1,q2,q3].getD i 0,0,m1,A0,AZ,Fy,m2,qD,qE,mw,m3,qF,qG,mx,.none,.none,.none,[]⟩,rfl,h1,h2,h3,h4,h5,h6,h7,h8,h9,cT,dq,rfl⟩
theorem Fz {a b:Int} {x dx:ac} {t0:af} {q q1 q2:ac} {ta tb tc td:af} {z z1 z2:Nat} (h1:(x,cV 508 dx)∈led) (h2:(dx,cY [⟨aO P (sO "tokens"),.str (sO "tokens") t0,.ref q⟩] 1)∈led) (h3:(q,(⟨.type "tuple",none,.seq #[.ref q1,.ref q2] z,#[]⟩:av))∈led) (h4:(q1,(⟨.type "tuple",none,.seq #[.int 11 ta,.int a tb] z1,#[]⟩:av))∈led) (h5:(q2,(⟨.type "tuple",none,.seq #[.int 0 tc,.int b td] z2,#[]⟩:av))∈led):ND P led (.mark a b) (.ref x) ([]):=by
 exact ⟨(eA [x,dx,t0,z1,z2,q1,q2,tc,td,0,0,q,0,ta,tb,z] 0 [] [] #[] 0),rfl,h1,h2,h3,h4,h5,rfl⟩
theorem NK {k sz d:Int} {g:Gl} {c:Int} {l:List Nd} {x dx:ac} {t0 t1 t2 t3 t4 t5:af} {t6 t7 t8 t9:af} {ga:ac} {q:ac} {ml:List ac} {cU:Array aa} {dJ:Nat} {cQ:List ac} (h1:(x,cV 529 dx)∈led) (h2:(dx,cY [⟨aO P (sO "number"),.str (sO "number") t0,.int k t6⟩,⟨aO P (sO "size"),.str (sO "size") t1,.int sz t7⟩,⟨aO P (sO "depth"),.str (sO "depth") t2,.int d t8⟩,⟨aO P (sO "top"),.str (sO "top") t3,.ref ga⟩,⟨aO P (sO "cost"),.str (sO "cost") t4,.int c t9⟩,⟨aO P (sO "items"),.str (sO "items") t5,.ref q⟩] 6)∈led) (h3:GL P led ga g) (h4:(q,(⟨.type "list",none,.seq cU dJ,#[]⟩:av))∈led) (h5:aP P led l cU.toList cQ) (h6:ml=q::cQ):ND P led (.ins k sz d g c l) (.ref x) (ml):=by
 exact ⟨(eA [x,dx,t0,t1,t2,t3,t4,t5,t6,t7,t8,q,t9,ga] 0 ml cQ cU dJ),rfl,h1,h2,h3,h4,h5,h6,rfl⟩
theorem NL {l:List Nd} {x dx:ac} {t0:af} {q:ac} {ml:List ac} {cU:Array aa} {dJ:Nat} {cQ:List ac} (h1:(x,cV 550 dx)∈led) (h2:(dx,cY [⟨aO P (sO "items"),.str (sO "items") t0,.ref q⟩] 1)∈led) (h3:(q,(⟨.type "list",none,.seq cU dJ,#[]⟩:av))∈led) (h4:aP P led l cU.toList cQ) (h5:ml=q::cQ):ND P led (.eR l) (.ref x) (ml):=by
 exact ⟨(eA [x,dx,t0,0,0,0,0,0,0,0,0,q] 0 ml cQ cU dJ),rfl,h1,h2,h3,h4,h5,rfl⟩
theorem FA {b:Bool} {w:Int} {x dx:ac} {t0 t1:af} {t9:af} (h1:(x,cV 571 dx)∈led) (h2:(dx,cY [⟨aO P (sO "is_on"),.str (sO "is_on") t0,.bool b⟩,⟨aO P (sO "width"),.str (sO "width") t1,.int w t9⟩] 2)∈led):ND P led (.math b w) (.ref x) ([]):=by
 exact ⟨(eA [x,dx,t0,t1,0,0,0,0,0,0,0,0,t9] 0 [] [] #[] 0),rfl,h1,h2,rfl⟩
theorem FC {a b:UInt8} {x dx:ac} {t0:af} {t9:af} (h1:(x,cV 592 dx)∈led) (h2:(dx,cY [⟨aO P (sO "octets"),.str (sO "octets") t0,.bytes #[a,b] t9⟩] 1)∈led):ND P led (.spec a b) (.ref x) ([]):=by
 exact ⟨(eA [x,dx,t0,0,0,0,0,0,0,0,0,0,t9] 0 [] [] #[] 0),rfl,h1,h2,rfl⟩
theorem NM {w h d sp n st:Int} {v:Bool} {l:List Nd} {x dx:ac} {t0 t1 t2 t3 t4 t5 t6:af} {xV xW xX xY:af} {q qt dt:ac} {ml:List ac} {cU:Array aa} {dJ:Nat} {cQ:List ac} (h1:(x,cV 677 dx)∈led) (h2:(dx,cY [⟨aO P (sO "width"),.str (sO "width") t0,.int w xV⟩,⟨aO P (sO "height"),.str (sO "height") t1,.int h xW⟩,⟨aO P (sO "depth"),.str (sO "depth") t2,.int d xX⟩,⟨aO P (sO "items"),.str (sO "items") t3,.ref q⟩,⟨aO P (sO "spans"),.str (sO "spans") t4,.int sp xY⟩,⟨aO P (sO "totals"),.str (sO "totals") t5,.ref qt⟩,⟨aO P (sO "is_vertical"),.str (sO "is_vertical") t6,.bool v⟩] 7)∈led) (h3:(q,(⟨.type "list",none,.seq cU dJ,#[]⟩:av))∈led) (h4:aP P led l cU.toList cQ) (h5:ml=q::cQ) (h6:TT P led qt dt n st):ND P led (.unset w h d sp n st v l) (.ref x) (dt::ml):=by
 exact ⟨(eA [x,dx,t0,t1,t2,t3,t4,t5,t6,xV,xW,q,xX,xY,qt,dt] 0 ml cQ cU dJ),rfl,h1,h2,h3,h4,h5,h6,rfl⟩
theorem A1 {k w h d sh sg od r r2:Int} {l:List Nd} {x dx:ac} {t0 t1 t2 t3 t4 t5 t6 t7 t8:af} {u0 u1 u2 u3 u4 u5 u6:af} {q qr:ac} {ta tb:af} {z:Nat} {ml:List ac} {cU:Array aa} {dJ:Nat} {cQ:List ac} (h1:(x,cV 381 dx)∈led) (h2:(dx,cY [⟨aO P (sO "kind"),.str (sO "kind") t0,.int k u0⟩,⟨aO P (sO "width"),.str (sO "width") t1,.int w u1⟩,⟨aO P (sO "height"),.str (sO "height") t2,.int h u2⟩,⟨aO P (sO "depth"),.str (sO "depth") t3,.int d u3⟩,⟨aO P (sO "items"),.str (sO "items") t4,.ref q⟩,⟨aO P (sO "shift"),.str (sO "shift") t5,.int sh u4⟩,⟨aO P (sO "sign"),.str (sO "sign") t6,.int sg u5⟩,⟨aO P (sO "order"),.str (sO "order") t7,.int od u6⟩,⟨aO P (sO "ratio"),.str (sO "ratio") t8,.ref qr⟩] 9)∈led) (h3:(q,(⟨.type "list",none,.seq cU dJ,#[]⟩:av))∈led) (h4:aP P led l cU.toList cQ) (h5:ml=q::cQ) (h6:(qr,(⟨.type "tuple",none,.seq #[.int r ta,.int r2 tb] z,#[]⟩:av))∈led):ND P led (.box k w h d sh sg od r r2 l) (.ref x) (dx::ml):=by
 exact ⟨(eA [x,dx,t0,t1,t2,t3,t4,t5,t6,t7,t8,q,qr,ta,tb,z,u0,u1,u2,u3,u5,u6] u4 ml cQ cU dJ),rfl,h1,h2,h3,h4,h5,h6,rfl⟩
end
def cO (P:aB) (led:Led) (ds:List Nd) (q:ac) (mu:List ac):Prop:=∃(vs:Array aa) (n:Nat) (ms:List ac),(q,(⟨.type "list",none,.seq vs n,#[]⟩:av))∈led/\aP P led ds vs.toList ms/\mu=q::ms
def A2 (w:ah) (led:Led) (d:Nd) (depth:Nat) (news:Led) (vs:List aa):Prop:=(∀p∈led,p∈news)/\ ∃v t mu,vs=[v,.int depth t]/\ND w.params led d v mu
def bV (w:ah) (led:Led) (d:Nd) (news tl:Led) (r:aa):Prop:=∃mu,ND w.params (led++tl) d r mu/\(∀a∈mu,a∈tl.map (·.1))/\mu.Nodup
def gc (w:ah) (d:Nd):Prop:=∀(led:Led) (depth:Nat),depth+ht d<=60->Sp w 717 (24+8*ht d) (A2 w led d depth) (bV w led d)
theorem NO {w:ah} {led:Led} {d:Nd} {news tl:Led} {r:aa} (h:ND w.params (led++tl) d r []):bV w led d news tl r:=by
 refine ⟨[],h, ?_,sJ⟩
 intro a ha
 cases ha
def A3 (w:ah) (led:Led) (ds:List Nd) (depth:Nat) (news:Led) (vs:List aa):Prop:=(∀p∈led,p∈news)/\ ∃q t mu,vs=[.ref q,.int depth t]/\cO w.params led ds q mu
def vB (w:ah) (led:Led) (ds:List Nd) (news tl:Led) (r:aa):Prop:=∃q mu,r= .ref q/\cO w.params (led++tl) ds q mu/\(∀a∈mu,a∈tl.map (·.1))/\mu.Nodup
def nW (w:ah) (ds:List Nd):Prop:=∀(led:Led) (depth:Nat),depth+bR ds<=61->Sp w 723 (18+8*bR ds) (A3 w led ds depth) (vB w led ds)
theorem aP.len {P:aB} {led:Led}:∀{ds:List Nd} {vs:List aa} {mu:List ac},aP P led ds vs mu->vs.length=ds.length
 |[],z,y,h=>by unfold aP at h;rw [h.1];rfl
 |z::y,q,j,h=>by
  unfold aP at h
  obtain ⟨v,vr,m1,m2,rfl,rfl,h1,h2⟩:=h
  simp [h2.len]
theorem aP.at {P:aB} {led:Led}:∀{ds:List Nd} {vs:List aa} {mu:List ac},aP P led ds vs mu-> ∀(i:Nat) (v:aa),vs[i]? =some v-> ∃d m,ds[i]? =some d/\ND P led d v m
 |[],z,y,h,i,v,e=>by unfold aP at h;rw [h.1] at e;simp at e
 |d::r,z,y,h,i,v,e=>by
  unfold aP at h
  obtain ⟨v',vr,m1,m2,rfl,rfl,h1,h2⟩:=h
  cases i with
  |zero=>simp at e;subst e;exact ⟨d,m1,rfl,h1⟩
  |succ i=>simpa using aP.at h2 i v (by simpa using e)
theorem aP.snoc {P:aB} {led:Led}:∀{ds:List Nd} {vs:List aa} {mu m:List ac} {d:Nd} {v:aa},aP P led ds vs mu->ND P led d v m->aP P led (ds++[d]) (vs++[v]) (mu++m)
 |[],z,y,m,d,v,h,h'=>by
  unfold aP at h
  obtain ⟨rfl,rfl⟩:=h
  show aP P led [d] [v] m
  unfold aP
  refine ⟨v,[],m,[],rfl,by simp,h', ?_⟩
  unfold aP
  exact ⟨rfl,rfl⟩
 |d0::r,z,y,m,d,v,h,h'=>by
  unfold aP at h
  obtain ⟨v',vr,m1,m2,rfl,rfl,h1,h2⟩:=h
  show aP P led (d0::(r++[d])) (v'::(vr++[v])) _
  unfold aP
  exact ⟨v',vr++[v],m1,m2++m,rfl,by simp,h1,aP.snoc h2 h'⟩
theorem xZ:∀{ds:List Nd} {d:Nd},d∈ds->ht d+1<=bR ds
 |x::r,d,h=>by
  rcases bj.mp h with rfl|h
  ·exact jJ _ _
  ·exact aI (xZ h) (ix _ _)
theorem FD:∀{ds:List Nd} {d:Nd},gD ds->d∈ds->CP d
 |x::r,d,hc,h=>by
  rcases bj.mp h with rfl|h
  ·exact hc.1
  ·exact FD hc.2 h
end
section
section
variable {P:aB} {led led' news tl fr:Led} {h₀ h:bA} {L:ac}
theorem cO.mono (sub:∀p∈led,p∈led') {ds:List Nd} {q:ac} {mu:List ac} (h:cO P led ds q mu):cO P led' ds q mu:=by
 unfold cO at*
 obtain ⟨vs,n,ms,h1,h2,h3⟩:=h
 exact ⟨vs,n,ms,sub _ h1,aP.mono sub _ _ _ h2,h3⟩
theorem A4 {k w h d sh sg od r r2:Int} {l:List Nd} {x dx:ac} {t0 t1 t2 t3 t4 t5 t6 t7 t8:af} {u0 u1 u2 u3 u4 u5 u6:af} {q qr:ac} {ta tb:af} {z:Nat} {ml:List ac} (h1:(x,cV 381 dx)∈led) (h2:(dx,cY [⟨aO P (sO "kind"),.str (sO "kind") t0,.int k u0⟩,⟨aO P (sO "width"),.str (sO "width") t1,.int w u1⟩,⟨aO P (sO "height"),.str (sO "height") t2,.int h u2⟩,⟨aO P (sO "depth"),.str (sO "depth") t3,.int d u3⟩,⟨aO P (sO "items"),.str (sO "items") t4,.ref q⟩,⟨aO P (sO "shift"),.str (sO "shift") t5,.int sh u4⟩,⟨aO P (sO "sign"),.str (sO "sign") t6,.int sg u5⟩,⟨aO P (sO "order"),.str (sO "order") t7,.int od u6⟩,⟨aO P (sO "ratio"),.str (sO "ratio") t8,.ref qr⟩] 9)∈led) (h3:cO P led l q ml) (h4:(qr,(⟨.type "tuple",none,.seq #[.int r ta,.int r2 tb] z,#[]⟩:av))∈led):ND P led (.box k w h d sh sg od r r2 l) (.ref x) (dx::ml):=by
 unfold cO at h3
 obtain ⟨v3,n3,s3,a3,b3,c3⟩:=h3
 exact A1 h1 h2 a3 b3 c3 h4
theorem FE {l:List Nd} {x dx:ac} {t0:af} {q:ac} {ml:List ac} (h1:(x,cV 550 dx)∈led) (h2:(dx,cY [⟨aO P (sO "items"),.str (sO "items") t0,.ref q⟩] 1)∈led) (h3:cO P led l q ml):ND P led (.eR l) (.ref x) (ml):=by
 unfold cO at h3
 obtain ⟨v3,n3,s3,a3,b3,c3⟩:=h3
 exact NL h1 h2 a3 b3 c3
theorem FF {k sz d:Int} {g:Gl} {c:Int} {l:List Nd} {x dx:ac} {t0 t1 t2 t3 t4 t5:af} {t6 t7 t8 t9:af} {ga:ac} {q:ac} {ml:List ac} (h1:(x,cV 529 dx)∈led) (h2:(dx,cY [⟨aO P (sO "number"),.str (sO "number") t0,.int k t6⟩,⟨aO P (sO "size"),.str (sO "size") t1,.int sz t7⟩,⟨aO P (sO "depth"),.str (sO "depth") t2,.int d t8⟩,⟨aO P (sO "top"),.str (sO "top") t3,.ref ga⟩,⟨aO P (sO "cost"),.str (sO "cost") t4,.int c t9⟩,⟨aO P (sO "items"),.str (sO "items") t5,.ref q⟩] 6)∈led) (h3:GL P led ga g) (h4:cO P led l q ml):ND P led (.ins k sz d g c l) (.ref x) (ml):=by
 unfold cO at h4
 obtain ⟨v4,n4,s4,a4,b4,c4⟩:=h4
 exact NK h1 h2 h3 a4 b4 c4
theorem FH {w h d sp n st:Int} {v:Bool} {l:List Nd} {x dx:ac} {t0 t1 t2 t3 t4 t5 t6:af} {xV xW xX xY:af} {q qt dt:ac} {ml:List ac} (h1:(x,cV 677 dx)∈led) (h2:(dx,cY [⟨aO P (sO "width"),.str (sO "width") t0,.int w xV⟩,⟨aO P (sO "height"),.str (sO "height") t1,.int h xW⟩,⟨aO P (sO "depth"),.str (sO "depth") t2,.int d xX⟩,⟨aO P (sO "items"),.str (sO "items") t3,.ref q⟩,⟨aO P (sO "spans"),.str (sO "spans") t4,.int sp xY⟩,⟨aO P (sO "totals"),.str (sO "totals") t5,.ref qt⟩,⟨aO P (sO "is_vertical"),.str (sO "is_vertical") t6,.bool v⟩] 7)∈led) (h3:cO P led l q ml) (h4:TT P led qt dt n st):ND P led (.unset w h d sp n st v l) (.ref x) (dt::ml):=by
 unfold cO at h3
 obtain ⟨v3,n3,s3,a3,b3,c3⟩:=h3
 exact NM h1 h2 a3 b3 c3 h4
theorem FI {la lb lc:List Nd} {x dx:ac} {t0 t1 t2:af} {q1 q2 q3:ac} {m1 m2 m3:List ac} (h1:(x,cV 487 dx)∈led) (h2:(dx,cY [⟨aO P (sO "pre"),.str (sO "pre") t0,.ref q1⟩,⟨aO P (sO "post"),.str (sO "post") t1,.ref q2⟩,⟨aO P (sO "middle"),.str (sO "middle") t2,.ref q3⟩] 3)∈led) (h3:cO P led la q1 m1) (h4:cO P led lb q2 m2) (h5:cO P led lc q3 m3):ND P led (.dX la lb lc) (.ref x) (m1++(m2++m3)):=by
 unfold cO at h3
 obtain ⟨v3,n3,s3,a3,b3,c3⟩:=h3
 unfold cO at h4
 obtain ⟨v4,n4,s4,a4,b4,c4⟩:=h4
 unfold cO at h5
 obtain ⟨v5,n5,s5,a5,b5,c5⟩:=h5
 exact NJ h1 h2 a3 b3 c3 a4 b4 c4 a5 b5 c5
end
end
section
theorem FJ {v d n:Nat} (h:d<=n):v+d -n=v -(n -d):=(bW (v+d - ·) (vb h).symm).trans (Nat.add_sub_add_right v d (n -d))
theorem NP {v d n:Nat} (h:d<=n) (hl:n<=v+d):v=n -d+(v+d -n):=by rw [FJ h,Nat.add_sub_of_le (Ak.mpr hl)]
theorem FK {v d n:Nat} (hh:v<=n) (hl:n<=v+d):v+(d -(v+d -n))=n:=by
 rw [<-Nat.add_sub_assoc (Ak.mpr (Nat.add_comm v d▸jq hh d)),Nat.sub_sub_self hl]
theorem FL {n:ai}:∀{ns:List ai} {vs:List aa},n∉ns->(ns.zip vs).lookup n=none
 |[],z,y=>rfl
 |z::y,[],j=>rfl
 |a::ns,v::vs,h=>by
  have h1:(n==a)=false:=ia λe=>h (by rw [e];exact .head _)
  show((a,v)::ns.zip vs).lookup n=none
  rw [kE,h1]
  exact FL λq=>h (.tail _ q)
theorem x5 {n:ai}:∀{l r:List (ai×aa)},l.lookup n=none->(l++r).lookup n=r.lookup n
 |[],z,y=>rfl
 |(a,v)::l,r,h=>by
  rw [kE] at h
  rw [Ar,kE]
  cases q:n==a with
  |true=>rw [q] at h;cases h
  |false=>rw [q] at h;exact x5 h
theorem FM:∀{ns:List ai} {vs:List aa} {pre:List (ai×aa)},ns.Nodup->vs.length=ns.length->(∀n∈ns,pre.lookup n=none)->
  ns.filterMap (λn=>((pre++ns.zip vs).lookup n).map (n,·))=ns.zip vs
 |[],z,y,q,j,u=>rfl
 |z::y,[],q,j,h,u=>nomatch h
 |a::ns,v::vs,pre,hn,hl,hp=>by
  have h1:(pre++(a::ns).zip (v::vs)).lookup a=some v:=by
   rw [x5 (hp a (.head _))]
   show((a,v)::ns.zip vs).lookup a=some v
   rw [kE];simp
  rw [List.filterMap_cons,h1]
  show(a,v)::_=(a,v)::ns.zip vs
  have:=FM (ns:=ns) (vs:=vs) (pre:=pre++[(a,v)]) (fY.mp hn).2 (qB hl) (λn hm=>by
   rw [x5 (hp n (.tail _ hm)),kE]
   have:(n==a)=false:=ia λe=>(fY.mp hn).1 (by rw [<-e];exact hm)
   rw [this];rfl)
  rw [mf] at this
  exact bW _ this
noncomputable def ju (S:List (ai×aa)) (x:ai×aa):List (ai×aa):=if(S.lookup x.1).isNone then S++[(x.1,x.2)] else S
theorem A5:∀(l S:List (ai×aa)),(forIn (m:=Sem) l S λx r=>if(r.lookup x.1).isNone=true then pure (xE (r++[(x.1,x.2)])) else pure (xE r))=(pure (l.foldl ju S):Sem (List (ai×aa)))
 |[],z=>rfl
 |x::l,S=>by
  rw [List.forIn_cons,List.foldl_cons]
  unfold ju
  split
  ·exact A5 l _
  ·exact A5 l _
theorem FO:∀{ns:List ai} {ds:List aa} {S:List (ai×aa)},ns.Nodup->(∀n∈ns,S.lookup n=none)->(ns.zip ds).foldl ju S=S++ns.zip ds
 |[],z,S,y,q=>(iy S).symm
 |z::y,[],S,q,j=>(iy S).symm
 |a::ns,d::ds,S,hn,hs=>by
  show(ns.zip ds).foldl ju (ju S (a,d))=S++(a,d)::ns.zip ds
  have:ju S (a,d)=S++[(a,d)]:=by
   unfold ju
   rw [show S.lookup (a,d).1=none from hs a (.head _)];rfl
  rw [this,FO (fY.mp hn).2 (λn hm=>by
   rw [x5 (hs n (.tail _ hm)),kE]
   have:(n==a)=false:=ia λe=>(fY.mp hn).1 (by rw [<-e];exact hm)
   rw [this];rfl),mf]
  rfl
theorem FP:∀{l S:List (ai×aa)},(∀x∈l,(S.lookup x.1).isSome=true)->l.foldl ju S=S
 |[],z,j=>rfl
 |x::l,S,h=>by
  show l.foldl ju (ju S x)=S
  have:ju S x=S:=by
   unfold ju
   have:=h x (.head _)
   cases q:S.lookup x.1 with
   |none=>rw [q] at this;cases this
   |some z=>rfl
  rw [this]
  exact FP λy hy=>h y (.tail _ hy)
theorem A6 {n:ai}:∀{ns:List ai} {vs:List aa},vs.length=ns.length->n∈ns->((ns.zip vs).lookup n).isSome=true
 |[],z,y,h=>nomatch h
 |z::y,[],h,j=>nomatch h
 |a::ns,v::vs,hl,hm=>by
  show(((a,v)::ns.zip vs).lookup n).isSome=true
  rw [kE]
  cases q:n==a with
  |true=>rfl
  |false=>
   refine A6 (qB hl) ?_
   rcases bj.mp hm with rfl|h
   ·simp at q
   ·exact h
theorem A7 {α β:Type} {K:eE} {S:Setting} {f:α->Sem β} {a:α}:∀{t:Sem α},peek K S t=some a->peek K S (t>>=f)=peek K S (f a):=by
 intro t
 induction t with
 |pure b=>intro e;cases e;rfl
 |rule z k ih=>intro e;exact ih () e
 |point z k ih=>intro e;exact ih () e
 |ask k ih=>intro e;exact ih _ e
 |load b z k ih=>
  intro e
  simp only [peek] at e
  show peek K S (Sem.load b _ λx=>(k x).bind f)=_
  simp only [peek]
  cases q:K.lookup b with
  |none=>rw [q] at e;cases e
  |some o=>rw [q] at e;exact ih o e
 |_=>intro e;cases e
theorem FQ {α:Type} {K:eE} {S:Setting} {c:Prop} [Decidable c] {a b:Sem α} (h:¬c):peek K S (if c then a else b)=peek K S b:=by rw [d7 h]
theorem FR {ns:List ai} {vs:List aa} (h:vs.length<=ns.length):ns.zip vs=(ns.take vs.length).zip vs:=by rw [List.zip_eq_zip_take_min,Nat.min_eq_right h,List.take_length]
theorem FS {ns:List ai} {vs:List aa} (h:vs.length<=ns.length):vs.length=(ns.take vs.length).length:=by rw [As,Nat.min_eq_left h]
theorem NQ {ns:List ai} {vs ds:List aa} (jL:ds.length<=ns.length) (nX:ns.length<=vs.length+ds.length) (my:vs.length<=ns.length):(ns.take (ns.length -ds.length)).filter (λn=>((ns.zip vs).lookup n).isNone)=[]:=by
 refine List.filter_eq_nil_iff.mpr λn hm=> ?_
 have hz:((ns.zip vs).lookup n).isSome=true:=by
  rw [FR my]
  refine A6 (FS my) ?_
  have:ns.take (ns.length -ds.length)=(ns.take vs.length).take (ns.length -ds.length):=by rw [List.take_take,Nat.min_eq_left (Ak.mpr nX)]
  rw [this] at hm
  exact vd hm
 cases q:(ns.zip vs).lookup n with
 |none=>rw [q] at hz;cases hz
 |some z=>exact oY
theorem NR {ns:List ai} {vs ds:List aa} (bn:ns.Nodup) (jL:ds.length<=ns.length) (nX:ns.length<=vs.length+ds.length) (my:vs.length<=ns.length):List.foldl ju (ns.zip vs) ((ns.drop (ns.length -ds.length)).zip ds)=ns.zip (vs++ds.drop (vs.length+ds.length -ns.length)):=by
 have s1:ns.drop (ns.length -ds.length)=(ns.drop (ns.length -ds.length)).take (vs.length+ds.length -ns.length)++ns.drop vs.length:=by
  have:ns.drop vs.length=(ns.drop (ns.length -ds.length)).drop (vs.length+ds.length -ns.length):=by rw [List.drop_drop,<-NP jL nX]
  rw [this,sK]
 have s2:ds=ds.take (vs.length+ds.length -ns.length)++ds.drop (vs.length+ds.length -ns.length):=(sK _ _).symm
 have hv:=FR my
 have FT:=FS my
 have e4:(ns.drop (ns.length -ds.length)).zip ds=((ns.drop (ns.length -ds.length)).take (vs.length+ds.length -ns.length)).zip (ds.take (vs.length+ds.length -ns.length))++(ns.drop vs.length).zip (ds.drop (vs.length+ds.length -ns.length)):=by
  conv=>lhs;rw [s1];arg 2;rw [s2]
  exact List.zip_append (by rw [As,As,mh,Nat.sub_sub_self jL])
 have gE:(ns.take vs.length++ns.drop vs.length).Nodup:=by rw [sK];exact bn
 have f1:List.foldl ju (ns.zip vs) (((ns.drop (ns.length -ds.length)).take (vs.length+ds.length -ns.length)).zip (ds.take (vs.length+ds.length -ns.length)))=ns.zip vs:=FP λx hx=>by
  rw [hv]
  refine A6 FT ?_
  have:=(Au (a:=x.1) (b:=x.2) hx).1
  have e5:(ns.drop (ns.length -ds.length)).take (vs.length+ds.length -ns.length)=(ns.take vs.length).drop (ns.length -ds.length):=by
   rw [List.drop_take,FJ jL]
  rw [e5] at this
  exact xy this
 rw [e4,List.foldl_append,f1,FO]
 ·rw [hv]
  conv=>rhs;arg 1;rw [<-sK vs.length ns]
  rw [List.zip_append FT.symm]
 ·exact (ve.mp gE).2.1
 ·intro n hm
  rw [hv]
  exact FL λq=>(ve.mp gE).2.2 n q n hm rfl
theorem NS (fd:i9) (vs ds:List aa) (ns:List ai) (hn:fd.params.args.map (·.arg)=ns) (h1:fd.params.posonlyargs=[]) (h2:fd.params.kwonlyargs=[]) (h3:fd.params.vararg.isNone=true) (h4:fd.params.kwarg.isNone=true) (bn:ns.Nodup)
  (jL:ds.length<=ns.length) (nX:ns.length<=vs.length+ds.length) (my:vs.length<=ns.length) (K:eE) (S:Setting) (o:Option (Array aa)) (ho:peek K S (seqItems? fd.defaults)=some o) (NT:(o.getD #[]).toList=ds):
  peek K S (bindArgs fd ⟨vs,[]⟩)=some (ns.zip (vs++ds.drop (vs.length+ds.length -ns.length))):=by
 obtain ⟨nm,qn,⟨po,ar,va,ko,kd,kw,df⟩,fb,sc,gl,cl,X3,X4,dc,pm,an,cd,ct,bi⟩:=fd
 dsimp only at hn h1 h2 h3 h4 ho
 subst hn h1 h2 NT
 cases va with
 |some z=>cases h3
 |none=>
 cases kw with
 |some z=>cases h4
 |none=>
 unfold bindArgs
 refine (A7 (a:=((ar.map (·.arg)).zip vs,[])) rfl).trans ?_
 refine (A7 ho).trans ?_
 refine (FQ (c:=(decide (vs.length>(ar.map (·.arg)).length)&&true)=true) λh=> ?_).trans ?_
 ·rw [decide_eq_false (vc.mpr my)] at h;cases h
 have e0:(o.getD #[]).toList.drop ((o.getD #[]).toList.length -(ar.map (·.arg)).length)=(o.getD #[]).toList:=by rw [Nat.sub_eq_zero_of_le jL];rfl
 have e2:=NQ (vs:=vs) jL nX my
 have ek:=NR bn jL nX my
 rw [<-e0] at e2 ek
 refine (FQ (c:=(!(((ar.map (·.arg)).take ((ar.map (·.arg)).length -((o.getD #[]).toList.drop ((o.getD #[]).toList.length -(ar.map (·.arg)).length)).length)).filter (λn=>(((ar.map (·.arg)).zip vs).lookup n).isNone)).isEmpty)=true) λh=> ?_).trans ?_
 ·rw [e2] at h;cases h
 refine (A7 (bW (peek K S) (A5 _ _))).trans ?_
 refine Eq.trans (b:=some (((ar.map λx:Arg=>x.arg)++[]).filterMap λn=>((List.foldl ju ((ar.map λx:Arg=>x.arg).zip vs) (((ar.map λx:Arg=>x.arg).drop ((ar.map λx:Arg=>x.arg).length -((o.getD #[]).toList.drop ((o.getD #[]).toList.length -(ar.map λx:Arg=>x.arg).length)).length)).zip ((o.getD #[]).toList.drop ((o.getD #[]).toList.length -(ar.map λx:Arg=>x.arg).length)))).lookup n).map (n,·))) rfl ?_
 rw [ek,e0,iy]
 exact bW some (FM (ns:=ar.map λx:Arg=>x.arg) (pre:=[]) bn (by rw [ib,mh];exact FK my nX) λy y=>rfl)
end
section
section
inductive SV where
 |own (i:Nat) (a:ac)
 |lit (v:aa)
 |opt (o:Option Int) (t:af)
 |ag (v:aa)
 |kn (q:ac) (us:List aa) (n:Nat)
inductive SO where
 |inst (C:ac) (i:Nat) (d:ac)
 |dict (es:List (ai×af×SV)) (n:Nat)
 |part (es:List l5) (n:Nat) (fs:List (ai×SV))
 |tup (vs:List SV) (n:Nat)
 |lst (vs:List SV) (n:Nat)
 |raw (o:av)
structure LE where
 a:ac
 o:SO
 f:Bool
structure St where
 loc:List (ai×SV)
 led:List LE
 oth:Led
 tk:af
structure Ev where
 ev:bD->Nat->az->St->(SV->St->Prop)->Prop
 ip:bD->Nat->az->St->(Bool->St->Prop)->Prop
 fh:bD->Nat->List bP->St->(Option SV->St->Prop)->Prop
 call:Nat->aa->List SV->St->(SV->St->Prop)->Prop
end
def oK {α:Type} (o:Option α) (k:α->Prop):Prop:=match o with
 |some a=>k a
 |none=>False
theorem gQ {α:Type} {o:Option α} {k:α->Prop} (h:oK o k):∃a,o=some a/\k a:=match o,h with
 |some a,h=>⟨a,rfl,h⟩
def bK (b:Bool) (p:Prop):Prop:=match b with
 |true=>p
 |false=>False
theorem qK {b:Bool} {p:Prop} (h:bK b p):b=true/\p:=match b,h with
 |true,h=>⟨rfl,h⟩
noncomputable def oB {α β:Type} (o:Option α) (k:α->Option β):Option β:=match o with
 |some a=>k a
 |none=>none
theorem qM {α β:Type} {o:Option α} {k:α->Option β} {b:β} (h:oB o k=some b):∃a,o=some a/\k a=some b:=match o,h with
 |some a,h=>⟨a,rfl,h⟩
noncomputable def bB {β:Type} (c:Bool) (k:Option β):Option β:=match c with
 |true=>k
 |false=>none
theorem vC {β:Type} {c:Bool} {k:Option β} {b:β} (h:bB c k=some b):c=true/\k=some b:=match c,h with
 |true,h=>⟨rfl,h⟩
noncomputable def oE {α β:Type} (o:Option α) (k:α->β) (z:β):β:=match o with
 |some a=>k a
 |none=>z
theorem A8 {α β:Type} {o:Option α} {k:α->β} {z b:β} (h:oE o k z=b):(∃a,o=some a/\k a=b)\/(o=none/\z=b):=match o,h with
 |some a,h=>.inl ⟨a,rfl,h⟩
 |none,h=>.inr ⟨rfl,h⟩
theorem vD {α:Type} {o:Option α} {k:α->Prop} {z:Prop} (h:oE o k z):(∃a,o=some a/\k a)\/(o=none/\z):=match o,h with
 |some a,h=>.inl ⟨a,rfl,h⟩
 |none,h=>.inr ⟨rfl,h⟩
theorem aJ {α:Type} {o:Option α} {k:α->Prop} {q:Prop} (h:oK o k) (f:∀a,o=some a->k a->q):q:=(gQ h).elim λa h=>f a h.1 h.2
theorem bv {b:Bool} {p q:Prop} (h:bK b p) (f:b=true->p->q):q:=f (qK h).1 (qK h).2
theorem cz {α β:Type} {o:Option α} {k:α->Option β} {b:β} {q:Prop} (h:oB o k=some b) (f:∀a,o=some a->k a=some b->q):q:=(qM h).elim λa h=>f a h.1 h.2
theorem gq {β:Type} {c:Bool} {k:Option β} {b:β} {q:Prop} (h:bB c k=some b) (f:c=true->k=some b->q):q:=f (vC h).1 (vC h).2
theorem eg {α:Type} {o:Option α} {k:α->Prop} {z q:Prop} (h:oE o k z) (f:∀a,o=some a->k a->q) (g:o=none->z->q):q:=(vD h).elim (λh=>h.elim λa h=>f a h.1 h.2) λh=>g h.1 h.2
theorem mA {α β:Type} {o:Option α} {k:α->β} {z b:β} {q:Prop} (h:oE o k z=b) (f:∀a,o=some a->k a=b->q) (g:o=none->z=b->q):q:=(A8 h).elim (λh=>h.elim λa h=>f a h.1 h.2) λh=>g h.1 h.2
theorem cR {a b:Bool} {q:Prop} (h:(a&&b)=true) (f:a=true->b=true->q):q:=f ((nA _ _).mp h).1 ((nA _ _).mp h).2
noncomputable abbrev li (n:Int) (t:af):SV:=.lit (.int n t)
noncomputable def NU (o:Option Int) (t:af):Value:=match o with
 |none=>.none
 |some n=>.int n t
noncomputable def SV.val:SV->aa
 | .own z a=>.ref a
 | .lit v=>v
 | .opt o t=>NU o t
 | .ag v=>v
 | .kn q z y=>.ref q
noncomputable def SV.handed:SV->Bool
 | .own z y=>true
 | .lit v=>handedIn v
 | .opt z y=>true
 | .ag z=>false
 | .kn z y q=>true
theorem SV.FU:∀{v:SV},v.handed=true->handedIn v.val=true
 | .own z y,q=>rfl
 | .lit z,h=>h
 | .opt none z,y=>rfl
 | .opt (some z) y,q=>rfl
 | .kn z y q,j=>rfl
 | .ag z,h=>nomatch h
noncomputable def A9:List SV->Nat->aa
 |[],z=>.none
 |v::z,0=>v.val
 |_::r,n+1=>A9 r n
theorem FV:∀{l:List SV} {n:Nat} {v:SV},l[n]? =some v->A9 l n=v.val
 |[],z,y,h=>by cases h
 |z::y,0,q,h=>by cases h;rfl
 |_::r,n+1,_,h=>FV (l:=r) h
noncomputable def mB:List (Int×af)->Nat->Int×af
 |[],z=>(0,0)
 |v::z,0=>v
 |_::r,n+1=>mB r n
noncomputable def ents (P:aB):List (ai×af×SV)->List l5
 |[]=>[]
 |e::r=>⟨aO P e.1,.str e.1 e.2.1,e.2.2.val⟩::ents P r
noncomputable def vals:List SV->List aa
 |[]=>[]
 |v::r=>v.val::vals r
noncomputable def SO.obj (P:aB):SO->av
 | .inst C z d=>cV C d
 | .dict es n=>cY (ents P es) n
 | .part es n z=>cY es n
 | .tup vs n=>⟨.type "tuple",none,.seq (vals vs).toArray n,#[]⟩
 | .lst vs n=>⟨.type "list",none,.seq (vals vs).toArray n,#[]⟩
 | .raw o=>o
noncomputable def bo (P:aB):List LE->Led
 |[]=>[]
 |e::r=>(e.a,e.o.obj P)::bo P r
noncomputable def FW:(v:aa)->Option (PSigma λp:Int×af=>v= .int p.1 p.2)
 | .int n t=>some ⟨(n,t),rfl⟩
 |_=>none
noncomputable def d6 (v:aa):Option Int:=(FW v).map (·.1.1)
theorem iq {α β:Type} {o:Option α} {f:α->β} {b:β} {q:Prop} (h:o.map f=some b) (g:∀d,f d=b->q):q:=(iz.mp h).elim λd h=>g d h.2
theorem eS {v:aa} {n:Int} (h:d6 v=some n):∃t,v= .int n t:=iq h λd f=>⟨d.1.2,f▸d.2⟩
noncomputable def NV:(v:aa)->Option (PSigma λb:Bool=>v= .bool b)
 | .bool b=>some ⟨b,rfl⟩
 |_=>none
noncomputable def qN (v:aa):Option Bool:=(NV v).map (·.1)
theorem tf {v:aa} {b:Bool} (h:qN v=some b):v= .bool b:=iq h λd f=>f▸d.2
noncomputable def x6:Int->Option Nat
 | .ofNat n=>some n
 | .negSucc z=>none
theorem Ba {i:Int} {n:Nat} (h:x6 i=some n):i=dW n:=by
 cases i<;>cases h
 rfl
noncomputable def FX:(v:aa)->Option (PLift (v= .none))
 | .none=>some ⟨rfl⟩
 |_=>none
noncomputable def x7 (v:aa):Bool:=(FX v).isSome
theorem Bb {v:aa} (h:x7 v=true):v= .none:=(AE.mp h).elim λd z=>d.1
noncomputable def NW:(v:aa)->Option (PSigma λb:String=>v= .type b)
 | .type T=>some ⟨T,rfl⟩
 |_=>none
noncomputable def kg (v:aa):Option String:=(NW v).map (·.1)
theorem kL {v:aa} {T:String} (h:kg v=some T):v= .type T:=iq h λd f=>f▸d.2
noncomputable def NX:(v:aa)->Option (PSigma λb:String=>v= .builtin b)
 | .builtin T=>some ⟨T,rfl⟩
 |_=>none
noncomputable def ya (v:aa):Option String:=(NX v).map (·.1)
theorem Bc {v:aa} {T:String} (h:ya v=some T):v= .builtin T:=iq h λd f=>f▸d.2
noncomputable def NY:(v:aa)->Option (PSigma λb:ac=>v= .ref b)
 | .ref a=>some ⟨a,rfl⟩
 |_=>none
noncomputable def pv (v:aa):Option Addr:=(NY v).map (·.1)
theorem qP {v:aa} {a:ac} (h:pv v=some a):v= .ref a:=iq h λd f=>f▸d.2
noncomputable def NZ:(v:SV)->Option (PSigma λd:Nat×ac=>v= .own d.1 d.2)
 | .own i a=>some ⟨(i,a),rfl⟩
 |_=>none
noncomputable def fi (v:SV):Option Nat:=(NZ v).map (·.1.1)
noncomputable def Oa:(o:SO)->Option (PSigma λd:ac×Nat×ac=>o= .inst d.1 d.2.1 d.2.2)
 | .inst C i a=>some ⟨(C,i,a),rfl⟩
 |_=>none
noncomputable def tg (o:SO):Option (ac×Nat):=(Oa o).map λd=>(d.1.1,d.1.2.1)
noncomputable def Ob:(o:SO)->Option (PSigma λd:List (ai×af×SV)×Nat=>o= .dict d.1 d.2)
 | .dict es n=>some ⟨(es,n),rfl⟩
 |_=>none
noncomputable def vE (o:SO):Option (List (ai×af×SV)×Nat):=(Ob o).map (·.1)
noncomputable def Oc:(o:SO)->Option (PSigma λd:List l5×Nat×List (ai×SV)=>o= .part d.1 d.2.1 d.2.2)
 | .part es n fs=>some ⟨(es,n,fs),rfl⟩
 |_=>none
noncomputable def FY (o:SO):Option (List (ai×SV)):=(Oc o).map (·.1.2.2)
noncomputable def Od:(o:SO)->Option (PSigma λd:List SV×Nat=>o= .tup d.1 d.2)
 | .tup vs n=>some ⟨(vs,n),rfl⟩
 |_=>none
noncomputable def je (o:SO):Option (List SV):=(Od o).map (·.1.1)
noncomputable def Oe:(o:SO)->Option (PSigma λd:List SV×Nat=>o= .lst d.1 d.2)
 | .lst vs n=>some ⟨(vs,n),rfl⟩
 |_=>none
noncomputable def jM (o:SO):Option (List SV×Nat):=(Oe o).map (·.1)
noncomputable def jN (x:ai):List (ai×af×SV)->Option SV
 |[]=>none
 |e::r=>match e.1==x with
  |true=>some e.2.2
  |false=>jN x r
noncomputable def nY (x:ai) (t:af) (v:SV):List (ai×af×SV)->List (ai×af×SV)
 |[]=>[(x,t,v)]
 |e::r=>match e.1==x with
  |true=>(e.1,e.2.1,v)::r
  |false=>e::nY x t v r
noncomputable def findF (x:ai):List (ai×SV)->Option SV
 |[]=>none
 |e::r=>match x==e.1 with
  |true=>some e.2
  |false=>findF x r
noncomputable def yb (K:eE) (C:ac) (x:ai):Bool:=plainGet K C x&&(hasDictIn K C&&(findIn K (.ref C) x).any (noGet K))
noncomputable def FZ (K:eE) (C:ac) (x:ai):Option Value:=bB (plainGet K C x&&hasDictIn K C) (oB (findIn K (.ref C) x) λo=>oB o λa=>bB (specialIn K a "__get__"==some none&&(handedIn a&& !copiedNames.contains x)) (some a))
noncomputable def Bd (K:eE) (x:ai) (v:SV) (led:List LE):Option SV:=oB (fi v) λi=>oB led[i]? λe=>oB (tg e.o) λCj=>oB led[Cj.2]? λd=>
 oE (vE d.o) (λes=>oE (jN x es.1) (λr=>bB (yb K Cj.1 x&&r.handed) (some r)) ((FZ K Cj.1 x).map SV.lit))
  (oB (FY d.o) λfs=>oB (findF x fs) λr=>bB (yb K Cj.1 x&&r.handed) (some r))
noncomputable def F4 (K:eE) (x:ai) (v:SV) (led:List LE):Option Addr:=oB (fi v) λi=>oB led[i]? λe=>oB (tg e.o) λCj=>oB led[Cj.2]? λd=>oB (vE d.o) λes=>
 oE (jN x es.1) (λz=>none) (bB (plainGet K Cj.1 x) (oB (findIn K (.ref Cj.1) x) λo=>oB o λg=>oB (pv g) λf=>bB (isFn K (.ref f)) (some f)))
noncomputable def Of (K:eE) (C:ac) (x:ai):Bool:=findIn K (.ref C) "__setattr__"==some (some (.builtin "object.__setattr__"))&&(plainOver K C&&(takerIn K C x==some none&&hasDictIn K C))
noncomputable def setAt (led:List LE) (i:Nat) (o:SO):List LE:=match led,i with
 |[],z=>[]
 |e::r,0=>⟨e.a,o,e.f⟩::r
 |e::r,i+1=>e::setAt r i o
noncomputable def Be (K:eE) (x:ai) (v:SV) (o:SV) (st:St):Option St:=oB (fi o) λi=>oB st.led[i]? λe=>oB (tg e.o) λCj=>oB st.led[Cj.2]? λd=>oB (vE d.o) λes=>
 bB (d.f&&(Of K Cj.1 x&&gH es.1.length 100)) (some {st with led:=setAt st.led Cj.2 (.dict (nY x (st.tk+1) v es.1) (oE (jN x es.1) (λz=>es.2) (es.2+1))),tk:=st.tk+2})
noncomputable def Ga (n:Nat) (v:SV) (o:SV) (st:St):Option St:=oB (fi o) λi=>oB st.led[i]? λe=>oB (jM e.o) λl=>bB (e.f&&(sH n l.1.length&&gH n 1000)) (some {st with led:=setAt st.led i (.lst (l.1.set n v) l.2)})
noncomputable def hW (led:List LE) (v:SV):Option (List SV):=oB (fi v) λi=>oB led[i]? λe=>je e.o
noncomputable def jO (led:List LE) (v:SV):Option (List SV):=oB (fi v) λi=>oB led[i]? λe=>(jM e.o).map (·.1)
noncomputable def Bf (led:List LE) (v:SV) (n:Nat):Option SV:=oE (hW led v) (λvs=>vs[n]?) (oB (jO led v) λvs=>vs[n]?)
noncomputable def eW (ns:List (Int×af)) (m:Int):Int:=(mB ns m.toNat).1
noncomputable def qQ (ns:List (Int×af)) (m:Int):Tok:=(mB ns m.toNat).2
noncomputable def yc (vs:List SV) (m:Int):Value:=A9 vs m.toNat
noncomputable def qR (led:List LE) (v:SV):Option (List SV):=oE (hW led v) some (jO led v)
noncomputable def nZ (v:aa):Option (Int×af):=(FW v).map (·.1)
noncomputable def Bg:List SV->Option (List (Int×af))
 |[]=>some []
 |v::r=>oB (nZ v.val) λn=>(Bg r).map (n:: ·)
noncomputable def intsOf:List SV->Option (List Int)
 |[]=>some []
 |v::r=>oB (d6 v.val) λn=>(intsOf r).map (n:: ·)
noncomputable def yd (op:lv) (m n:Int):Option Bool:=match op with
 | .Eq=>some (m==n)
 | .NotEq=>some (m !=n)
 | .Lt=>some (decide (m<n))
 | .LtE=>some (decide (m<=n))
 | .Gt=>some (decide (m>n))
 | .GtE=>some (decide (m>=n))
 |_=>none
noncomputable def Gb (op:lv) (a c:SV) (st:St):Option Bool:=match op with
 | .Is=>bB (x7 c.val) (some (a.val== .none))
 | .IsNot=>bB (x7 c.val) (some (!(a.val== .none)))
 | .In=>oB (d6 a.val) λn=>oB (hW st.led c) λvs=>(intsOf vs).map λns=>ns.any (· ==n)
 | .Eq=>oE (qN a.val) (λp=>(qN c.val).map λq=>p==q) (oB (d6 a.val) λm=>oB (d6 c.val) λn=>yd .Eq m n)
 |op=>oB (d6 a.val) λm=>oB (d6 c.val) λn=>yd op m n
noncomputable def binI (op:qo) (m n:Int):Option Int:=match op with
 | .Add=>some (m+n)
 | .Sub=>some (m -n)
 |_=>none
noncomputable def Gc (v:aa):Option Bool:=oE (qN v) some (oE (d6 v) (λn=>some (n !=0)) (bB (x7 v) (some false)))
noncomputable abbrev Hint:=List ((Nat×Nat)×Option Bool)
noncomputable def ti (H:Hint) (p:aW):Option (Option Bool):=match H with
 |[]=>none
 |e::r=>match ej e.1.1 p.line&&ej e.1.2 p.col with
  |true=>some e.2
  |false=>ti r p
def vF (h:Option (Option Bool)) (b:Bool) (k:Bool->Prop):Prop:=match h with
 |none=>k b
 |some none=>(b=true->k true)/\(b=false->k false)
 |some (some c)=>b=c/\k c
theorem qS {h:Option (Option Bool)} {b:Bool} {k:Bool->Prop} (x:vF h b k):k b:=match h,b,x with
 |none,z,x=>x
 |some none,true,x=>x.1 rfl
 |some none,false,x=>x.2 rfl
 |some (some _),_,⟨rfl,y⟩=>y
noncomputable def Og:(e:az)->Option (PSigma λd:(Option az×Option az)×aW=>e= .Slice d.1.1 d.1.2 none d.2)
 | .Slice lo hi none p=>some ⟨((lo,hi),p),rfl⟩
 |_=>none
noncomputable def Gd (e:az):Option (Option az×Option az):=(Og e).map (·.1.1)
theorem Oh {e:az} {lh:Option az×Option az} (h:Gd e=some lh):∃p,e= .Slice lh.1 lh.2 none p:=iq h λd f=>⟨d.1.2,f▸d.2⟩
noncomputable def Ge:(e:az)->Option (PSigma λd:ai×aW=>e= .Name d.1 d.2)
 | .Name x p=>some ⟨(x,p),rfl⟩
 |_=>none
noncomputable def Oi:(e:az)->Option (PSigma λd:az×ai×aW=>e= .Attribute d.1 d.2.1 d.2.2)
 | .Attribute o x p=>some ⟨(o,x,p),rfl⟩
 |_=>none
noncomputable def Gf:(e:az)->Option (PSigma λd:List az×Nat×aW=>e= .Tuple d.1 d.2.1 d.2.2)
 | .Tuple vs k p=>some ⟨(vs,k,p),rfl⟩
 |_=>none
noncomputable def vG {α:Type}:(l:List α)->Option (PSigma λa=>l=[a])
 |[]=>none
 |a::l=>match l with
  |[]=>some ⟨a,rfl⟩
  |z::y=>none
noncomputable def Gg {α:Type}:(l:List α)->Option (PSigma λd:α×α=>l=[d.1,d.2])
 |[]=>none
 |a::l=>match vG l with
  |none=>none
  |some b=>some ⟨(a,b.1),bW (a:: ·) b.2⟩
noncomputable def Oj:(g:xm)->Option (PSigma λd:(ai×aW)×az=>g=⟨.Name d.1.1 d.1.2,d.2,[],0⟩)
 |⟨.Name x px,it,[],0⟩=>some ⟨((x,px),it),rfl⟩
 |_=>none
noncomputable def kM (n:Nat) (e:az):Bool:=ej e.ctorIdx n
noncomputable def isStar (e:az):Bool:=kM 22 e
noncomputable def qT (e:az):Bool:=kM 8 e||(kM 9 e||kM 10 e)
noncomputable def isAt (e:az):Bool:=kM 23 e||kM 20 e
noncomputable def Bh (e:az):Bool:=kM 23 e||(kM 20 e||kM 21 e)
noncomputable def qU (e:az):Bool:= !kM 26 e
noncomputable def Gh (e:az):Bool:=kM 25 e
noncomputable def lE (e:az):Bool:=kM 7 e
noncomputable def noStar:List az->Bool
 |[]=>true
 |e::r=> !isStar e&&noStar r
noncomputable def Bi (cs:bD) (l:Nat):List az->Option (List ai)
 |[]=>some []
 |e::r=>oB (Ge e) λd=>bB (decide (cs.names.lookup d.1.1=some .local)&&ej d.1.2.line l) ((Bi cs l r).map (d.1.1:: ·))
noncomputable def Gi (e:az):Option (List az):=(Gf e).map (·.1.1)
theorem Ol {e:az} {vs:List az} (h:Gi e=some vs):∃k p,e= .Tuple vs k p:=iq h λd f=>⟨d.1.2.1,d.1.2.2,f▸d.2⟩
noncomputable def Gj (cs:bD) (ts:List az) (e:az):Option (List ai):=oB (Gi e) λvs=>bB (noStar vs&&((ej ts.length 2||ej ts.length 3)&&(ej vs.length ts.length&&(!vs.all (foldedForSure 8)&& !vs.all (constantsAlone 8)))))
 (oB (Bi cs (((ts.head?).map (·.pos.line)).getD 0) ts) λns=>bB (decide (ns.eraseDups.length=ns.length)) (some ns))
noncomputable abbrev XS:=Ev->bD->Nat->az->St->(SV->St->Prop)->Prop
noncomputable def qV (X:List ((Nat×Nat)×XS)) (p:aW):Option XS:=match X with
 |[]=>none
 |e::r=>match ej e.1.1 p.line&&ej e.1.2 p.col with
  |true=>some e.2
  |false=>qV r p
noncomputable abbrev SS:=Ev->bD->Nat->bP->St->(St->Prop)->Prop
structure Cfg where
 xs:List ((Nat×Nat)×XS)
 rd:aW->Bool->St->SV->(bM->Prop)->Prop
 iv:aW->St->Int->Nat
 ss:List ((Nat×Nat)×SS)
noncomputable def Cfg.none:Cfg:=⟨[],λz z z z z=>False,λz z z=>0,[]⟩
noncomputable def ye (X:List ((Nat×Nat)×SS)) (p:aW):Option SS:=match X with
 |[]=>.none
 |e::r=>match ej e.1.1 p.line&&ej e.1.2 p.col with
  |true=>some e.2
  |false=>ye r p
noncomputable def Om:bP->Option aW
 | .Assign z y p=>some p
 | .For z y q j p=>some p
 | .Expr z p=>some p
 | .If z y q p=>some p
 | .While z y q p=>some p
 |_=>.none
noncomputable def vH (X:List ((Nat×Nat)×SS)) (s:bP):Option SS:=bB (!X.isEmpty) (oB (Om s) (ye X))
noncomputable abbrev Spec:=List SV->St->(SV->St->Prop)->Prop
noncomputable def n6 (tab:List (Nat×Spec)) (n:Nat):Option Spec:=match tab with
 |[]=>none
 |e::r=>match ej e.1 n with
  |true=>some e.2
  |false=>n6 r n
noncomputable def On:(v:FuncBody)->Option (PSigma λd:List bP=>v= .stmts d)
 | .stmts l=>some ⟨l,rfl⟩
 |_=>none
noncomputable def Gk (v:FuncBody):Option (List bP):=(On v).map (·.1)
theorem Oo {v:FuncBody} {l:List bP} (h:Gk v=some l):v= .stmts l:=iq h λd f=>f▸d.2
noncomputable def Op:(o:Data)->Option (PSigma λd:Array aa×Nat=>o= .seq d.1 d.2)
 | .seq a n=>some ⟨(a,n),rfl⟩
 |_=>none
noncomputable def Bj (d:Data):Option (List aa):=(Op d).map (·.1.1.toList)
theorem Gm {d:Data} {l:List aa} (h:Bj d=some l):∃n,d= .seq l.toArray n:=iq h λd f=>⟨d.1.2,f▸d.2⟩
noncomputable def Bk (K:eE) (v:aa):Option (List aa):=oE (FX v) (λz=>some []) (oB (pv v) λT=>oB (K.lookup T) λo=>Bj o.data)
noncomputable def qW (K:eE) (fd:i9) (vs:List SV):Option (List bP×List (ai×SV)):=oB (Gk fd.body) λbody=>
 bB (
   ej fd.globals mainGlobals&&(ej fd.builtins builtinsNs&&(fd.closure.isEmpty&&(codeIn K fd.code fd.qualname&&(!fd.scope.isCoroutine&&(!fd.scope.isGenerator&&(decide (fd.scope.kind= .function)&&
   (fd.scope.names.all (λy=>decide (y.2≠ .free))&&(fd.params.posonlyargs.isEmpty&&(fd.params.kwonlyargs.isEmpty&&(fd.params.vararg.isNone&&(fd.params.kwarg.isNone&&
   (decide (fd.params.args.map (·.arg)).Nodup&&(decide ((cellsFrom 0 fd.scope.names []).map (·.1)).Nodup&&(fd.params.args.map (·.arg)).all λy=>fd.scope.names.lookup y==some .local||fd.scope.names.lookup y==some .cell))))))))))))))
  (oB (Bk K fd.defaults) λds=>bB (gH ds.length fd.params.args.length&&(gH fd.params.args.length (vs.length+ds.length)&&gH vs.length fd.params.args.length))
   (some (body,(fd.params.args.map (·.arg)).zip (vs++(ds.drop (vs.length+ds.length -fd.params.args.length)).map SV.lit))))
noncomputable def pw (cs:bD) (x:ai) (sc:bD):Bool:=decide (sc.kind= .function)&&(decide (sc.names.lookup x=some .local)&&sc.names.all λy=>decide (y.2≠ .cell)&&((!decide (y.2= .free)||(cs.names.lookup y.1==some .cell||cs.names.lookup y.1==some .free))&&(!decide (y.2= .local)||(decide (sc.names.lookup y.1=some .local)&&(decide (y.1=x)||decide (y.1=".0"))))))
noncomputable def Ev.bot:Ev:=⟨λz z z z z=>False,λz z z z z=>False,λz z z z z=>False,λz z z z z=>False⟩
noncomputable def St.tick (st:St) (n:Nat):St:={st with tk:=st.tk+n}
noncomputable def Bl (st:St) (o:SO) (a:ac):St:={st with led:=st.led++[⟨a,o,true⟩]}
noncomputable def mC (T:Nat->St->(St->Prop)->Prop) (kp:St->Prop->Prop):Nat->Nat->St->(St->Prop)->Prop
 |0,z,st,k=>∀tk,k {st with tk:=tk}
 |n+1,i,st,k=>∀tk,T i {st with tk:=tk} λst=>kp st (mC T kp n (i+1) st k)
def gf (st:St) (o:SO) (k:SV->St->Prop):Prop:=∀a,k (.own st.led.length a) (Bl st o a)
section
variable (K:eE) (tab:List (Nat×Spec)) (G:Cfg) (r:Ev) (cs:bD) (b:Nat) (H:Hint)
noncomputable def lF:List az->St->(List SV->St->Prop)->Prop
 |[],st,k=>k [] st
 |e::es,st,k=>r.ev cs b e st λv st=>lF es st λvs st=>k (v::vs) st
noncomputable def Bm (x:ai) (st:St):Option SV:=bB (!decide (x="__debug__")&& !decide (x=".0")) (oB (cs.names.lookup x) λkd=>match kd with
 | .local=>findF x st.loc
 | .cell=>findF x st.loc
 | .free=>bB (!decide (x="__classdict__")) (findF x st.loc)
 | .globalImplicit=>oB (nsIn K mainGlobals x) λo=>oE o (λv=>some (.lit v)) (bB (!decide (x="__name__")) ((bootBuiltins x).map SV.lit))
 | .globalExplicit=>none)
noncomputable def vI (want:Bool):List az->St->(Bool->St->Prop)->Prop
 |[],st,k=>k want st
 |e::es,st,k=>r.ip cs b e st λc st=>match want,c with
  |true,true=>vI want es st k
  |true,false=>k false st
  |false,false=>vI want es st k
  |false,true=>k true st
def Gn (c:Const) (st:St) (k:SV->St->Prop):Prop:=match c with
 | .int i=>k (.lit (.int i st.tk)) (st.tick 1)
 | .none=>k (.lit .none) st
 | .bool c=>k (.lit (.bool c)) st
 | .str x=>k (.lit (.str x st.tk)) (st.tick 1)
 |_=>False
def yf (op:qo) (x y:SV) (st:St) (k:SV->St->Prop):Prop:=match decide (op= .Mod) with
 |true=>oK (d6 x.val) λm=>oK (d6 y.val) λn=>n≠0/\k (.lit (.int (m.fmod n) st.tk)) (st.tick 1)
 |false=>oE (oB (d6 x.val) λm=>oB (d6 y.val) λn=>binI op m n) (λn=>k (.lit (.int n st.tk)) (st.tick 1))
  (bK (decide (op= .Add)) (oE (hW st.led x) (λvs=>oK (hW st.led y) λus=>bK (!vs.isEmpty&&(!us.isEmpty&&gH (vs.length+us.length) 100)) (gf st (.tup (vs++us) 0) k))
   (oK (jO st.led x) λvs=>oK (jO st.led y) λus=>vs.length+us.length<=1000/\gf st (.lst (vs++us) 0) k)))
def Bn (T:String) (v:SV) (st:St) (k:SV->St->Prop):Prop:=match decide (T="tuple") with
 |true=>oE (hW st.led v) (λz=>k v st) (oK (jO st.led v) λus=>bK (gH us.length 100) (gf st (.tup us 0) k))
 |false=>bK (decide (T="list")) (oE (jO st.led v) (λus=>bK (gH us.length 100) (∀c,gf st (.lst us c) k)) (oK (hW st.led v) λus=>us.length<=1000/\ ∀c,gf st (.lst us c) k))
noncomputable def pz (m n:Int):Int:=if n>m then n else m
noncomputable def Bo (m n:Int) (t u:af):Tok:=if n>m then u else t
def Bp (T:String) (vs:List SV) (st:St) (k:SV->St->Prop):Prop:=match decide (T="len") with
 |true=>(match vs with
  |[v]=>oK (qR st.led v) λus=>us.length<=1000/\k (.lit (.int us.length (st.tk+1))) (st.tick 2)
  |_=>False)
 |false=>bK (decide (T="max")) (match vs with
  |[x,y]=>oK (nZ x.val) λm=>oK (nZ y.val) λn=>∀tk,k (.lit (.int (pz m.1 n.1) (Bo m.1 n.1 m.2 n.2))) {st with tk:=tk}
  |_=>False)
def Go (f:az) (args:List az) (pos:aW) (st:St) (k:SV->St->Prop):Prop:=match f with
 | .Name z y=>r.ev cs b f st λfv st=>match keepIn K fv.val with
  |true=>lF r cs b args st λvs st=>r.call b fv.val vs st k
  |false=>oE (kg fv.val) (λT=>bK (!args.isEmpty) (lF r cs b args st λvs st=>r.call b (.type T) vs st k)) (oK (ya fv.val) λT=>bK (!args.isEmpty) (lF r cs b args st λvs st=>r.call b (.builtin T) vs st k))
 | .Attribute o x ap=>bK (isAt o&&(sH args.length 30&&ej ap.endLine pos.line)) (r.ev cs b o st λov st=>oK (F4 K x ov st.led) λf=>bK (keepIn K (.ref f)) (lF r cs b args st λvs st=>r.call b (.ref f) (ov::vs) st k))
 |_=>False
def yg (p:aW) (op:lv) (x y:SV) (st:St) (k:Bool->Prop):Prop:=oE (Gb op x y st) k (match op with
 | .Eq=>G.rd p true st x λd=>G.rd p false st y λe=>k (ec d e)
 | .NotEq=>G.rd p true st x λd=>G.rd p false st y λe=>k (!ec d e)
 |_=>False)
def yh (l:az) (ops:List lv) (rs:List az) (pos:aW) (st:St) (k:Bool->St->Prop):Prop:=match ops with
 |[]=>False
 |op::ops=>match rs with
  |[]=>False
  |e2::rs=>match ops with
   |[]=>bK (rs.isEmpty&& !behindInMarks op e2) (r.ev cs b l st λx st=>r.ev cs b e2 st λy st=>yg G pos op x y st λc=>vF (ti H pos) c λc=>k c st)
   |yi::ops=>oK (vG rs) λe3=>bK (ops.isEmpty&& !behindInMarks yi e3.1) (r.ev cs b l st λx st=>r.ev cs b e2 st λy st=>yg G pos op x y st λc=>vF (ti H pos) c λc=>match c with
    |true=>r.ev cs b e3.1 st λz st=>yg G e3.1.pos yi y z st λd=>vF (ti H e3.1.pos) d λd=>k d st
    |false=>k false st)
def Gp (op:UnaryOp) (v:SV) (st:St) (k:SV->St->Prop):Prop:=match op with
 | .USub=>oK (d6 v.val) λn=>k (.lit (.int (-n) st.tk)) (st.tick 1)
 | .Not=>oK (qN v.val) λc=>k (.lit (.bool (!c))) st
 |_=>False
def Bq (p:aW) (m:Int) (ov:SV) (st:St) (k:SV->St->Prop):Prop:=match ti H p with
 |none=>oK (x6 m) λn=>bK (gH n 1000) (oK (Bf st.led ov n) λx=>k x st)
 |some none=>oK (qR st.led ov) λvs=>bK (gH vs.length 100) ((0<=m/\m<dW vs.length)/\
  oE (Bg vs) (λns=>k (.lit (.int (eW ns m) (qQ ns m))) st) (k (.lit (yc vs m)) st))
 |some (some true)=>oK (qR st.led ov) λvs=>(0<=m/\m<dW vs.length/\vs.length<=1000)/\(∃t,(vals vs)[m.toNat]? =some (.int (G.iv p st m:Nat) t))/\ ∀t,k (.lit (.int (G.iv p st m:Nat) t)) st
 |some (some false)=>oK (qR st.led ov) λvs=>(0<=m/\m<dW vs.length/\vs.length<=1000)/\ ∀v,(vals vs)[m.toNat]? =some v->k (.ag v) st
def Br (e:Option az) (st:St) (k:Option Int->St->Prop):Prop:=match e with
 |none=>k none st
 |some e=>r.ev cs b e st λv st=>oK (d6 v.val) λn=>k (some n) st
def Gq (lo hi:Option Int) (vs:List SV) (st:St) (k:SV->St->Prop):Prop:=match lo,hi with
 |none,some m=>0<=m/\gf st (.lst (vs.take m.toNat) 0) k
 |some m,none=>0<=m/\gf st (.lst (vs.drop m.toNat) 0) k
 |some m,some n=>(0<=m/\m<=n/\n<=vs.length)/\gf st (.lst ((vs.drop m.toNat).take (n.toNat -m.toNat)) 0) k
 |z,y=>False
def Gr (lo hi:Option Int) (vs:List SV) (st:St) (k:SV->St->Prop):Prop:=match lo,hi with
 |none,some m=>(0<=m/\m<vs.length)/\gf st (.tup (vs.take m.toNat) 0) k
 |some m,none=>(1<=m/\m<=vs.length)/\gf st (.tup (vs.drop m.toNat) 0) k
 |some m,some n=>(1<=m/\m<=n/\n<=vs.length)/\gf st (.tup ((vs.drop m.toNat).take (n.toNat -m.toNat)) 0) k
 |z,y=>False
def Gs (lo hi:Option Int) (ov:SV) (st:St) (k:SV->St->Prop):Prop:=oE (jO st.led ov)
 (λvs=>vs.length<=1000/\Gq lo hi vs st k)
 (oK (hW st.led ov) λvs=>vs.length<=1000/\Gr lo hi vs st k)
noncomputable def Bs (sc:bD) (x:ai) (elt:az):List SV->List SV->St->(SV->St->Prop)->Prop
 |[],acc,st,k=>∀tk,gf {st with tk:=tk} (.lst acc acc.length) k
 |v::vs,acc,st,k=>∀tk,r.ev sc b elt {st with loc:=(x,v)::st.loc,tk:=tk} λy ao=>Bs sc x elt vs (acc++[y]) {ao with loc:=st.loc} k
def Gu (elt:az) (gs:List xm) (sc:bD) (st:St) (k:SV->St->Prop):Prop:=oK (vG gs) λg=>oK (Oj g.1) λd=>bK (pw cs d.1.1.1 sc&& !lE d.1.2) (r.ev cs b d.1.2 st λsv st=>oK (hW st.led sv) λvs=>bK (gH vs.length 100) (Bs r b sc d.1.1.1 elt vs [] st k))
def fR (e:az) (st:St) (k:SV->St->Prop):Prop:=match e with
 | .Constant c z q=>Gn c st k
 | .Name x z=>oK (Bm K cs x st) λv=>k v st
 | .Attribute o x z=>bK (isAt o) (r.ev cs b o st λov st=>oK (Bd K x ov st.led) λv=>k v (st.tick 1))
 | .Call f args Bt pos=>bK (Bt.isEmpty&&noStar args) (Go K r cs b f args pos st k)
 | .Compare l ops rs pos=>yh G r cs b H l ops rs pos st λc st=>k (.lit (.bool c)) st
 | .BinOp l op e2 z=>r.ev cs b l st λx st=>r.ev cs b e2 st λy st=>yf op x y st k
 | .UnaryOp op x z=>r.ev cs b x st λv st=>Gp op v st k
 | .Subscript o i p=>oE (Gd i) (λlh=>r.ev cs b o st λov st=>Br r cs b lh.1 st λlo st=>Br r cs b lh.2 st λhi st=>Gs lo hi ov st k)<|bK (qU i) (r.ev cs b o st λov st=>r.ev cs b i st λiv st=>oK (d6 iv.val) λm=>Bq G H p m ov st k)
 | .IfExp t x y z=>r.ip cs b t st λc st=>match c with
  |true=>r.ev cs b x st k
  |false=>r.ev cs b y st k
 | .Tuple es z q=>bK (noStar es) (lF r cs b es st λvs st=>bK (gH vs.length 100) (gf st (.tup vs 0) k))
 | .List es z=>bK (noStar es) (lF r cs b es st λvs st=>bK (gH vs.length 100) (gf st (.lst vs 0) k))
 | .ListComp elt gs sc z=>Gu r cs b elt gs sc st k
 |_=>False
def yj (e:az) (pos:aW) (st:St) (k:Bool->St->Prop):Prop:=r.ev cs b e st λv st=>oK (Gc v.val) λc=>vF (ti H pos) c λc=>k c st
def Gv (e:az) (st:St) (k:Bool->St->Prop):Prop:=match e with
 | .BoolOp op es z=>(match op with
  | .And=>vI r cs b true es st k
  | .Or=>vI r cs b false es st k)
 | .UnaryOp op x z=>bK (decide (op= .Not)) (r.ip cs b x st λc st=>k (!c) st)
 | .Compare l ops rs pos=>yh G r cs b H l ops rs pos st k
 | .Name x p=>yj r cs b H (.Name x p) p st k
 | .Attribute o x p=>yj r cs b H (.Attribute o x p) p st k
 | .Call f as ks p=>yj r cs b H (.Call f as ks p) p st k
 |_=>False
noncomputable def yk (x:ai) (v:SV) (st:St):Option St:=bB (decide (cs.names.lookup x=some .local)) (some {st with loc:=(x,v)::st.loc,tk:=st.tk+1})
def qX (x:ai) (body:List bP) (v:SV) (st:St) (κ:St->Prop):Prop:=oK (yk cs x v st) λst=>r.fh cs b body st λf st=>match f with
 |none=>κ st
 |some z=>False
def Bu (t:az) (v:SV) (st:St) (k:St->Prop):Prop:=match t with
 | .Name x z=>oK (yk cs x v st) k
 | .Attribute o x z=>r.ev cs b o st λov st=>oK (Be K x v ov st) k
 | .Subscript o i z=>r.ev cs b o st λov st=>r.ev cs b i st λiv st=>oK (oB (d6 iv.val) x6) λn=>oK (Ga n v ov st) k
 |_=>False
noncomputable def yl:List az->List SV->St->(St->Prop)->Prop
 |[],[],st,k=>k st
 |t::ts,v::vs,st,k=>Bu K r cs b t v st λst=>yl ts vs st k
 |z,y,q,j=>False
noncomputable def Bv:List ai->List SV->St->(St->Prop)->Prop
 |[],[],st,k=>k st
 |x::xs,v::vs,st,k=>oK (yk cs x v st) λst=>Bv xs vs st k
 |z,y,q,j=>False
def Bw (x:ai) (body:List bP) (vs:List SV) (st:St) (k:St->Prop):Prop:=mC (λi st κ=>oK vs[i]? λv=>qX r cs b x body v st κ) (λz p=>p) vs.length 0 st k
def Gw (s:bP) (st:St) (nx:St->Prop) (k:Option SV->St->Prop):Prop:=match s with
 | .Return v z=>(match v with
  |some e=>r.ev cs b e st λv st=>k (some v) st
  |none=>k (some (.lit .none)) st)
 | .If t x y z=>r.ip cs b t st λc st=>match c with
  |true=>r.fh cs b x st λf st=>oE f (λv=>k (some v) st) (nx st)
  |false=>r.fh cs b y st λf st=>oE f (λv=>k (some v) st) (nx st)
 | .Assign ts e z=>bK (!qT e) (oK (vG ts) λt=>oE (Gf t.1) (λd=>oE (Gj cs d.1.1 e) (λns=>r.ev cs b e st λov st=>oK (hW st.led ov) λvs=>bK (ej ns.length vs.length) (Bv cs ns.reverse vs.reverse st nx))<|bK (!(Gh e&&(ej d.1.1.length 2||ej d.1.1.length 3))&&noStar d.1.1) (r.ev cs b e st λov st=>oK (hW st.led ov) λvs=>bK (ej d.1.1.length vs.length) (yl K r cs b d.1.1 vs st nx)))
  (bK (Bh t.1) (r.ev cs b e st λv st=>Bu K r cs b t.1 v st nx)))
 | .AugAssign t op e z=>bK (decide (op= .Add)) (oK (Oi t) λd=>r.ev cs b d.1.1 st λov st=>oK (Bd K d.1.2.1 ov st.led) λold=>r.ev cs b e (st.tick 1) λv st=>oK (d6 old.val) λm=>oK (d6 v.val) λn=>oK (Be K d.1.2.1 (.lit (.int (m+n) st.tk)) ov (st.tick 1)) nx)
 | .For t it body Gx z=>oK (Ge t) λd=>bK (Gx.isEmpty&& !lE it) (r.ev cs b it st λsv st=>oK (hW st.led sv) λvs=>Bw r cs b d.1.1 body vs st nx)
 | .Expr e z=>bK (!qT e) (r.ev cs b e st λq st=>nx st)
 |_=>False
def Gy (l:List bP) (st:St) (k:Option SV->St->Prop):Prop:=match l with
 |[]=>k none st
 |s::rest=>oE (vH G.ss s) (λx=>x r cs b s st λst=>r.fh cs b rest st k) (Gw K r cs b s st (λst=>r.fh cs b rest st k) k)
def Bx (fd:i9) (vs:List SV) (st:St) (k:Option SV->St->Prop):Prop:=oK (qW K fd vs) λbl=>match fd.scope.names.all (λy=>decide (y.2≠ .cell)) with
 |true=>r.fh fd.scope b bl.1 {st with loc:=bl.2,tk:=st.tk+bl.2.length} λf ao=>k f {ao with loc:=st.loc}
 |false=>∀tk,r.fh fd.scope b bl.1 {st with loc:=bl.2,tk:=tk} λf ao=>k f {ao with loc:=st.loc}
noncomputable def Oq:(d:Data)->Option (PSigma λf:i9=>d= .func f)
 | .func fd=>some ⟨fd,rfl⟩
 |_=>none
noncomputable def Gz (d:Data):Option FuncData:=(Oq d).map (·.1)
theorem Os {d:Data} {fd:i9} (h:Gz d=some fd):d= .func fd:=iq h λd f=>f▸d.2
noncomputable def fnAt (K:eE) (n:ac):Option FuncData:=oB (K.lookup n) λo=>Gz o.data
def GA (n:ac) (vs:List SV) (st:St) (k:SV->St->Prop):Prop:=bK (makesIn K n) (oK (findIn K (.ref n) "__init__") λo=>oK o λg=>oK (pv g) λfI=>bK (isFn K (.ref fI)) (oK (fnAt K fI) λfd=>
 ∀x d,Bx K r b fd (.own (st.led.length+1) x::vs) {st with led:=st.led++[⟨d,.dict [] 0,true⟩,⟨x,.inst n st.led.length d,true⟩]} λf ao=>oE f (λz=>False) (k (.own (st.led.length+1) x) ao)))
def Ot (n:ac) (vs:List SV) (st:St) (k:SV->St->Prop):Prop:=oE (n6 tab n) (λσ=>σ vs st k) (match b with
 |0=>False
 |b+1=>oE (fnAt K n) (λfd=>Bx K r b fd vs st λf st=>k (oE f id (.lit .none)) st) (match b with
  |0=>False
  |b+1=>GA K r b n vs st k))
def jP (f:aa) (vs:List SV) (st:St) (k:SV->St->Prop):Prop:=match f with
 | .builtin T=>Bp T vs st k
 | .ref n=>Ot K tab r b n vs st k
 | .type T=>(match vs with
  |[v]=>Bn T v st k
  |_=>False)
 |_=>False
noncomputable def Ev.step:Ev:=⟨λcs b e st k=>oE (qV G.xs e.pos) (λx=>x r cs b e st k) (fR K G r cs b H e st k),λcs b e st k=>Gv G r cs b H e st k,λcs b l st k=>Gy K G r cs b l st k,λb f vs st k=>jP K tab r b f vs st k⟩
end
noncomputable def Ev.jf (K:eE) (tab:List (Nat×Spec)) (G:Cfg) (H:Hint) (n:Nat):Ev:=Nat.rec Ev.bot (λz r=>Ev.step K tab G r H) n
noncomputable abbrev Ev.run (K:eE) (tab:List (Nat×Spec)) (H:Hint) (n:Nat):Ev:=Ev.jf K tab Cfg.none H n
end
section
noncomputable abbrev PG:Program:=rw_sq0062_01.row.prog
def Ext (l l':List LE):Prop:=∀(i:Nat) (e:LE),l[i]? =some e-> ∃e':LE,l'[i]? =some e'/\e'.a=e.a/\ ∀vs,je e.o=some vs->e'.o=e.o
theorem Ext.refl (l:List LE):Ext l l:=λz e h=>⟨e,h,rfl,λz z=>rfl⟩
theorem Ext.trans {a b c:List LE} (x:Ext a b) (y:Ext b c):Ext a c:=λi e h=>by
 obtain ⟨e1,h1,q1,t1⟩:=x i e h
 obtain ⟨e2,h2,q2,t2⟩:=y i e1 h1
 exact ⟨e2,h2,q2.trans q1,λvs ht=>(t2 vs (by rw [t1 vs ht];exact ht)).trans (t1 vs ht)⟩
theorem ym {l r:List LE} {i:Nat} {e:LE} (h:l[i]? =some e):(l++r)[i]? =some e:=by
 rw [Av (iN.mp h).1];exact h
theorem kh (l:List LE) (e:LE):(l++[e])[l.length]? =some e:=by
 rw [E9 (cS _),Nat.sub_self];rfl
theorem Ext.app (l r:List LE):Ext l (l++r):=λi e h=>⟨e,ym h,rfl,λz z=>rfl⟩
def aX (l:List LE):SV->Prop
 | .own i a=>∃e:LE,l[i]? =some e/\e.a=a
 |_=>True
theorem aX.ext {l l':List LE} (x:Ext l l'):∀{v:SV},aX l v->aX l' v
 | .own z y,⟨e,h,q⟩=>let⟨e',h',q',_⟩:=x _ e h;⟨e',h',q'.trans q⟩
 | .lit z,y=>trivial
 | .opt z y,j=>trivial
 | .ag z,y=>trivial
 | .kn z y j,u=>trivial
def gr (l:List LE):SO->Prop
 | .inst z i d=>∃e:LE,l[i]? =some e/\e.a=d
 | .dict es z=>∀x∈es,aX l x.2.2
 | .part es z fs=>∀x∈fs,aX l x.2/\getL x.1 es=some (some x.2.val)
 | .tup vs z=>∀v∈vs,aX l v
 | .lst vs z=>∀v∈vs,aX l v
 | .raw o=>o.isFreed=false
theorem gr.ext {l l':List LE} (x:Ext l l'):∀{o:SO},gr l o->gr l' o
 | .inst z j u,⟨e,h,q⟩=>let⟨e',h',q',_⟩:=x _ e h;⟨e',h',q'.trans q⟩
 | .dict z j,h=>λy hy=>(h y hy).ext x
 | .part z j u,h=>λy hy=>⟨(h y hy).1.ext x,(h y hy).2⟩
 | .tup z j,h=>λy hy=>(h y hy).ext x
 | .lst z j,h=>λy hy=>(h y hy).ext x
 | .raw z,h=>h
structure Cx where
 p:cP
 loose:List ai
 bH:gp->Option aa
 mg:ai->Option aa
 mb:ai->Option aa
 A:bZ
 cn:ai
 cs:bD
 L:ac
 a:ac
 bX:aa
 cl:List (ai×ac)
 outer:List cu
 A₀:bZ
 base:bA
 h₀:bA
 eY:Led
 news:Led
 en:ak
 fm:List (ai×SV)->ai->Option aa
 jv:List (ai×SV)->Prop
 ee:cu
 es:bD
noncomputable def Cx.env (c:Cx):Env:=envX c.cn c.cs c.L c.a c.bX c.cl
noncomputable def yn (m:ai->Option aa) (l:List (ai×SV)):ai->Option Value:=λy=>match findF y l with
 |some v=>some v.val
 |none=>m y
structure mD (w:ah) (led:List LE) (oth news eY:Led):Prop where
 ap:∀(i:Nat) (e:LE),led[i]? =some e->e.f=true->(∀p∈oth++news,p.1≠e.a)/\ ∀(j:Nat) (e':LE),led[j]? =some e'->e'.a=e.a->j=i
 hd:∀(i:Nat) (e:LE),led[i]? =some e->e.f=true-> ∀p∈eY,p.1≠e.a
 vw:∀(i:Nat) (e:LE),led[i]? =some e->e.f=false->(e.a,e.o.obj w.params)∈oth++news
 oo:∀p∈oth,∀q∈eY++news,q.1≠p.1
 ir:∀(i:Nat) (e:LE),led[i]? =some e->gr led e.o
structure fS (w:ah) (c:Cx) (st:St):Prop extends mD w st.led st.oth c.news c.eY where
 lc:c.jv st.loc
 fz:∀x∈st.loc,aX st.led x.2
noncomputable def all (w:ah) (c:Cx) (st:St):Led:=bo w.params st.led++(st.oth++(c.eY++c.news))
structure Rep (w:ah) (c:Cx) (st:St) (s:ak):Prop extends fS w c st where
 same:s={c.en with heap:=s.heap,toks:=s.toks}
 tk:s.toks=st.tk
 fr:Fr c.h₀ c.L s.heap (c.fm st.loc)
 nw:aU c.h₀ c.L s.heap (all w c st)
structure Cx.Ok (w:ah) (NN:Led) (D b:Nat) (c:Cx):Prop where
 hn:c.news=NN
 B:fx c.A₀ c.base c.outer c.h₀
 X:(KK w.params).In c.h₀
 T:Top c.p c.loose c.bH c.mg c.mb c.h₀
 hh:c.A.handled=none
 hA:c.A.frames=some (c.env::c.outer)
 hk:c.cs.kind= .function
 hd:c.A.depth+(b+D)<recursionLimit
 hu:c.A.units+(8*b+8*D)<cLine
 kd:c.ee.scope.kind= .function
 hg:c.ee.globals=mainGlobals/\c.ee.builtins=builtinsNs
 ko:∀x k,c.es.names.lookup x=some k->c.ee.kindOf x=some k\/(k= .free/\c.ee.kindOf x=some .cell)
 lo:∀{x:ai} {v:SV} {st:St} {s:ak},Rep w c st s->x≠".0"->c.es.names.lookup x=some .local->findF x st.loc=some v-> ∃m,s.heap.Ns c.ee.locals m/\m x=some v.val
 ce:∀x,c.es.names.lookup x=some .cell\/c.es.names.lookup x=some .free-> ∃a o,c.ee.cells.lookup x=some a/\(a,o)∈c.eY/\ ∀l v,c.jv l->findF x l=some v->o.data= .cell (some v.val)
structure Cx.Fn (c:Cx):Prop where
 ee:c.ee=c.env
 es:c.es=c.cs
 fm:∀x v l,c.cs.names.lookup x=some .local->c.fm ((x,v)::l)=λy=>if y=x then some v.val else c.fm l y
 jv:∀x v l,c.cs.names.lookup x=some .local->c.jv l->c.jv ((x,v)::l)
theorem gF {P:aB}:∀{l:List LE} {i:Nat} {e:LE},l[i]? =some e->(e.a,e.o.obj P)∈bo P l
 |[],i,e,h=>by cases h
 |x::l,0,e,h=>by cases h;exact .head _
 |x::l,i+1,e,h=>.tail _ (gF (l:=l) (i:=i) h)
theorem ki {P:aB}:∀{l:List LE} {q:ac×av},q∈bo P l-> ∃(i:Nat) (e:LE),l[i]? =some e/\q=(e.a,e.o.obj P)
 |[],z,h=>nomatch h
 |x::l,q,h=>by
  rcases bj.mp h with rfl|h
  ·exact ⟨0,x,rfl,rfl⟩
  ·obtain ⟨i,e,a,b⟩:=ki h
   exact ⟨i+1,e,a,b⟩
theorem yo {P:aB}:∀(l r:List LE),bo P (l++r)=bo P l++bo P r
 |[],z=>rfl
 |z::l,r=>bW _ (yo l r)
theorem lG {l:List LE} {x e:LE} {i:Nat} (h:(l++[x])[i]? =some e):l[i]? =some e\/(i=l.length/\e=x):=by
 rcases Nat.lt_trichotomy i l.length with q|q|q
 ·exact .inl (by rw [Av q] at h;exact h)
 ·subst q;rw [kh] at h;cases h;exact .inr ⟨rfl,rfl⟩
 ·rw [List.getElem?_eq_none (by rw [ib];exact q)] at h;cases h
theorem vJ {P:aB} {l:List LE} {x:LE} {r:Led} {q:ac×av} (h:q∈bo P (l++[x])++r):q=(x.a,x.o.obj P)\/q∈bo P l++r:=by
 rw [yo,mf] at h
 rcases aM.mp h with h|h
 ·exact .inr (aq _ h)
 ·rcases aM.mp h with h|h
  ·exact .inl (bN.mp h)
  ·exact .inr (ay _ h)
theorem fJ {w:ah} {c:Cx} {st:St} {i:Nat} {e:LE} (h:st.led[i]? =some e):(e.a,e.o.obj w.params)∈all w c st:=aq _ (gF h)
theorem iP {w:ah} {c:Cx} {st:St} {p:ac×av} (h:p∈st.oth):p∈all w c st:=ay _ (aq _ h)
theorem mE {w:ah} {c:Cx} {st:St} {p:ac×av} (h:p∈c.eY):p∈all w c st:=ay _ (ay _ (aq _ h))
theorem jw {w:ah} {c:Cx} {st:St} {p:ac×av} (h:p∈c.news):p∈all w c st:=ay _ (ay _ (ay _ h))
theorem kO {w:ah} {c:Cx} {st:St} {p:ac×av} (h:p∈st.oth++c.news):p∈all w c st:=(aM.mp h).elim iP jw
theorem fS.alloc {w:ah} {c:Cx} {st:St} (R:fS w c st) {a:ac} {o:SO} (t:af) (ne:∀p∈all w c st,p.1≠a) (ok:gr (st.led++[⟨a,o,true⟩]) o):fS w c {st with led:=st.led++[⟨a,o,true⟩],tk:=t}:=by
 have hx:=Ext.app st.led [⟨a,o,true⟩]
 refine ⟨⟨λi e h hf=> ?_,λi e h hf p hp=> ?_,λi e h hf=> ?_,R.oo,λi e h=> ?_⟩,R.lc,λx h=>(R.fz x h).ext hx⟩
 ·rcases lG h with h|⟨rfl,rfl⟩
  ·refine ⟨(R.ap i e h hf).1,λj e' h' q=> ?_⟩
   rcases lG h' with h'|⟨rfl,rfl⟩
   ·exact (R.ap i e h hf).2 j e' h' q
   ·exact absurd q.symm (ne _ (fJ h))
  ·refine ⟨λp hp=>ne p (kO hp),λj e' h' q=> ?_⟩
   rcases lG h' with h'|⟨rfl,rfl⟩
   ·exact absurd q (ne _ (fJ h'))
   ·rfl
 ·rcases lG h with h|⟨rfl,rfl⟩
  ·exact R.hd i e h hf p hp
  ·exact ne p (mE hp)
 ·rcases lG h with h|⟨rfl,rfl⟩
  ·exact R.vw i e h hf
  ·cases hf
 ·rcases lG h with h|⟨rfl,rfl⟩
  ·exact (R.ir i e h).ext hx
  ·exact ok
theorem Rep.alloc {w:ah} {c:Cx} {st:St} {s:ak} (R:Rep w c st s) {a:ac} {o:SO} {h':bA} (F:Fr c.h₀ c.L h' (c.fm st.loc))
  (N:aU c.h₀ c.L h' ((a,o.obj w.params)::all w c st)) (ne:∀p∈all w c st,p.1≠a) (ok:gr (st.led++[⟨a,o,true⟩]) o):Rep w c (Bl st o a) {s with heap:=h'}:=
 ⟨R.tofS.alloc st.tk ne ok,by show _=_;rw [R.same],R.tk,F,λq hq=>(vJ hq).elim (λe=>e▸N _ (.head _)) λh=>N q (.tail _ h)⟩
theorem get_set:∀{l:List LE} {i j:Nat} {o:SO} {e:LE},(setAt l i o)[j]? =some e-> ∃iQ,l[j]? =some iQ/\e.a=iQ.a/\e.f=iQ.f/\(j=i/\e.o=o\/j≠i/\e.o=iQ.o)
 |[],y,u,g,r,h=>by cases h
 |x::l,0,0,o,e,h=>by cases h;exact ⟨x,rfl,rfl,rfl,.inl ⟨rfl,rfl⟩⟩
 |x::l,0,j+1,o,e,h=>⟨e,h,rfl,rfl,.inr ⟨Al _,rfl⟩⟩
 |x::l,i+1,0,o,e,h=>by cases h;exact ⟨x,rfl,rfl,rfl,.inr ⟨Nat.zero_ne_add_one _,rfl⟩⟩
 |x::l,i+1,j+1,o,e,h=>by
  obtain ⟨iQ,a,b,c,d⟩:=get_set (l:=l) (i:=i) (j:=j) (o:=o) (e:=e) h
  exact ⟨iQ,a,b,c,d.imp (λ⟨p,q⟩=>⟨bW _ p,q⟩) λ⟨p,q⟩=>⟨λz=>p (qB z),q⟩⟩
theorem yp:∀{l:List LE} {i j:Nat} {o:SO} {e:LE},l[j]? =some e-> ∃e',(setAt l i o)[j]? =some e'/\e'.a=e.a/\e'.f=e.f/\(j≠i->e'.o=e.o)
 |[],y,u,g,r,h=>by cases h
 |x::l,0,0,o,e,h=>by cases h;exact ⟨_,rfl,rfl,rfl,λz=>absurd rfl z⟩
 |x::l,0,j+1,o,e,h=>⟨e,h,rfl,rfl,λp=>rfl⟩
 |x::l,i+1,0,o,e,h=>by cases h;exact ⟨_,rfl,rfl,rfl,λp=>rfl⟩
 |x::l,i+1,j+1,o,e,h=>by
  obtain ⟨e',a,b,c,d⟩:=yp (l:=l) (i:=i) (j:=j) (o:=o) h
  exact ⟨e',a,b,c,λz=>d λq=>z (bW _ q)⟩
theorem GB {P:aB} {r:Led}:∀{l:List LE} {i:Nat} {e:LE} {o:SO},l[i]? =some e->(∀(j:Nat) (e':LE),l[j]? =some e'->e'.a=e.a->j=i)->(∀p∈r,p.1≠e.a)->Upd e.a (e.o.obj P) (o.obj P) (bo P l++r) (bo P (setAt l i o)++r)
 |[],z,y,g,h,c,w=>by cases h
 |x::l,0,e,o,h,u,v=>by
  cases h
  refine Upd.head λp hp q=> ?_
  rcases aM.mp hp with hp|hp
  ·obtain ⟨j,e',a,rfl⟩:=ki hp
   exact nomatch u (j+1) e' a q
  ·exact v p hp q
 |x::l,i+1,e,o,h,u,v=>Upd.tail (λq=>nomatch u 0 x rfl q) (GB (l:=l) (i:=i) h (λj e' a b=>qB (u (j+1) e' a b)) v)
theorem Rep.set {w:ah} {c:Cx} {st:St} {s:ak} (R:Rep w c st s) {i:Nat} {e:LE} {o:SO} (he:st.led[i]? =some e) (kP:e.f=true) (ht:je e.o=none) (vK:je o=none) (ok:gr st.led o):
  Upd e.a (e.o.obj w.params) (o.obj w.params) (all w c st) (all w c {st with led:=setAt st.led i o})/\Ext st.led (setAt st.led i o)/\
  ∀h' t u,t=u->Fr c.h₀ c.L h' (c.fm st.loc)->aU c.h₀ c.L h' (all w c {st with led:=setAt st.led i o})->Rep w c {st with led:=setAt st.led i o,tk:=u} {s with heap:=h',toks:=t}:=by
 have hx:Ext st.led (setAt st.led i o):=λj vL h=>by
  obtain ⟨e',a,b,z,d⟩:=yp (i:=i) (o:=o) h
  refine ⟨e',a,b,λvs hv=>d λq=> ?_⟩
  subst q
  rw [he] at h;cases h
  rw [ht] at hv;cases hv
 have ap:=R.ap i e he kP
 refine ⟨GB he ap.2 λp hp=> ?_,hx,λh' t u tu F N=>⟨⟨⟨λj vL h hf=> ?_,λj vL h hf p hp=> ?_,λj vL h hf=> ?_,R.oo,λj vL h=> ?_⟩,R.lc,λx h=>(R.fz x h).ext hx⟩,by show _=_;rw [R.same],tu,F,N⟩⟩
 ·rcases aM.mp hp with hp|hp
  ·exact ap.1 p (aq _ hp)
  ·rcases aM.mp hp with hp|hp
   ·exact R.hd i e he kP p hp
   ·exact ap.1 p (ay _ hp)
 ·obtain ⟨iQ,a,b,d,z⟩:=get_set h
  rw [b]
  refine ⟨(R.ap j iQ a (d▸hf)).1,λj' e' h' q=> ?_⟩
  obtain ⟨Ou,a',b',z⟩:=get_set h'
  exact (R.ap j iQ a (d▸hf)).2 j' Ou a' (b'▸q)
 ·obtain ⟨iQ,a,b,d,q⟩:=get_set h
  rw [b]
  exact R.hd j iQ a (d▸hf) p hp
 ·obtain ⟨iQ,a,b,d,q⟩:=get_set h
  rcases q with⟨rfl,z⟩|⟨z,q⟩
  ·rw [he] at a;cases a
   exact nomatch hf.symm.trans (d.trans kP)
  ·rw [b,q];exact R.vw j iQ a (d▸hf)
 ·obtain ⟨iQ,a,z,z,d⟩:=get_set h
  rcases d with⟨z,d⟩|⟨z,d⟩
  ·rw [d];exact ok.ext hx
  ·rw [d];exact (R.ir j iQ a).ext hx
theorem Rep.at {w:ah} {c:Cx} {st:St} {s:ak} (R:Rep w c st s) {i:Nat} {e:LE} (h:st.led[i]? =some e):s.heap.get? e.a=some (e.o.obj w.params):=(R.nw _ (fJ h)).1
theorem Rep.toks {w:ah} {c:Cx} {st:St} {s:ak} (R:Rep w c st s) (n:Nat):Rep w c (st.tick n) {s with toks:=s.toks+n}:=
 ⟨⟨R.tomD,R.lc,R.fz⟩,by show _=_;rw [R.same],by show s.toks+n=st.tk+n;rw [R.tk],R.fr,R.nw⟩
structure Nx (w:ah) (c:Cx) (st ao:St) (s':ak):Prop where
 rep:Rep w c ao s'
 ext:Ext st.led ao.led
 loc:ao.loc=st.loc
theorem Nx.trans {w:ah} {c:Cx} {a b d:St} {s s':ak} (x:Nx w c a b s) (y:Nx w c b d s'):Nx w c a d s':=⟨y.rep,x.ext.trans y.ext,y.loc.trans x.loc⟩
theorem Nx.refl {w:ah} {c:Cx} {st:St} {s:ak} (R:Rep w c st s):Nx w c st st s:=⟨R,Ext.refl _,rfl⟩
theorem GC {o:SO} {C:ac} {j:Nat} (h:tg o=some (C,j)):∃d,o= .inst C j d:=iq h λd f=>⟨d.1.2.2,by have:=d.2;rw [show d.1.1=C from bW Prod.fst f,show d.1.2.1=j from bW Prod.snd f] at this;exact this⟩
theorem Rep.inst {w:ah} {c:Cx} {st:St} {s:ak} (R:Rep w c st s) {i:Nat} {e d:LE} {C:ac} {j:Nat} (h1:st.led[i]? =some e) (ho:tg e.o=some (C,j)) (h2:st.led[j]? =some d):InstAt s.heap e.a (cV C d.a) C (some (d.o.obj w.params)):=by
 refine (GC ho).elim λdd eo=> ?_
 have ok:=R.ir i _ h1
 have at':=R.at h1
 rw [eo] at ok at'
 refine ok.elim λe' z=> ?_
 have b:=z.2
 rw [<-jK (h2.symm.trans z.1)] at b
 subst b
 exact ⟨at',rfl,rfl,R.at h2⟩
theorem yq {o:SO} {es:List (ai×af×SV)×Nat} (h:vE o=some es):o= .dict es.1 es.2:=iq h λd f=>f▸d.2
theorem Ov {o:SO} {fs:List (ai×SV)} (h:FY o=some fs):∃es n,o= .part es n fs:=iq h λd f=>⟨d.1.1,d.1.2.1,f▸d.2⟩
theorem tj {o:SO} {vs:List SV} (h:je o=some vs):∃n,o= .tup vs n:=iq h λd f=>⟨d.1.2,f▸d.2⟩
theorem kQ {o:SO} {l:List SV×Nat} (h:jM o=some l):o= .lst l.1 l.2:=iq h λd f=>f▸d.2
theorem gn {l:List LE} {v:SV} {i:Nat} {e:LE} (h:fi v=some i) (he:l[i]? =some e) (ok:aX l v):v= .own i e.a:=iq h λd f=>(show aX l (.own d.1.1 d.1.2) from d.2▸ok).elim λe' z=>d.2.trans (by rw [<-z.2,<-jK (he.symm.trans (show l[i]? =some e' from f▸z.1)),f])
theorem vM {P:aB} {x:ai}:∀{es:List (ai×af×SV)},getL x (ents P es)=some ((jN x es).map SV.val):=by
 intro es
 have nr:∀es,(ents P es).any (·.refKey)=false:=λes=>by
  induction es with
  |nil=>rfl
  |cons e r ih=>show(false||_)=false;rw [Bool.false_or];exact ih
 unfold getL
 rw [nr]
 induction es with
 |nil=>rfl
 |cons e r ih=>
  show(match(List.find? _ (_::ents P r)) with|some e=>some (some e.val)|none=>_)=_
  rw [List.find?_cons]
  show(match(match(e.1==x) with|true=>some _|false=>List.find? _ (ents P r)) with|some e=>some (some e.val)|none=>_)=some (Option.map SV.val (match e.1==x with|true=>some e.2.2|false=>jN x r))
  cases e.1==x with
  |true=>rfl
  |false=>exact ih
theorem GD {P:aB} {x:ai} {t:af} {v:SV}:∀{es:List (ai×af×SV)},putL x (aO P x) (.str x t) v.val (ents P es)=ents P (nY x t v es)
 |[]=>rfl
 |e::r=>by
  show(if(e.1==x)=true then _ else _)=ents P (match e.1==x with|true=>(e.1,e.2.1,v)::r|false=>e::nY x t v r)
  cases e.1==x with
  |true=>rfl
  |false=>exact bW (List.cons _) (GD (es:=r))
theorem Ow {P:aB} {x:ai} {n:Nat}:∀{es:List (ai×af×SV)},putN x (ents P es) n=oE (jN x es) (λz=>n) (n+1):=by
 intro es
 unfold putN
 have:(ents P es).any (·.key.isStr x)=(jN x es).isSome:=by
  induction es with
  |nil=>rfl
  |cons e r ih=>
   show((e.1==x)||(ents P r).any (·.key.isStr x))=(match e.1==x with|true=>some e.2.2|false=>jN x r).isSome
   cases e.1==x with
   |true=>rfl
   |false=>exact ih
 rw [this]
 cases jN x es<;>rfl
theorem GE {P:aB}:∀{es:List (ai×af×SV)},(ents P es).length=es.length
 |[]=>rfl
 |z::y=>bW (· +1) GE
theorem GF {x:ai} {t:af} {v:SV}:∀{es:List (ai×af×SV)},(nY x t v es).length<=es.length+1
 |[]=>cS _
 |e::r=>by
  show aN (match e.1==x with|true=>(e.1,e.2.1,v)::r|false=>e::nY x t v r)<=_
  cases e.1==x with
  |true=>exact sI _
  |false=>exact dS GF
theorem GG {l:List LE} {x:ai} {t:af} {v:SV} (hv:aX l v):∀{es:List (ai×af×SV)},(∀y∈es,aX l y.2.2)-> ∀y∈nY x t v es,aX l y.2.2
 |[],j,y,hy=>by rw [bN.mp hy];exact hv
 |e::r,h,y,hy=>by
  have hy:y∈(match e.1==x with|true=>(e.1,e.2.1,v)::r|false=>e::nY x t v r):=hy
  cases q:e.1==x with
  |true=>
   rw [q] at hy
   rcases bj.mp hy with rfl|hy
   ·exact hv
   ·exact h y (.tail _ hy)
  |false=>
   rw [q] at hy
   rcases bj.mp hy with rfl|hy
   ·exact h _ (.head _)
   ·exact GG hv (λz hz=>h z (.tail _ hz)) y hy
theorem GH {x:ai} {v:SV}:∀{es:List (ai×af×SV)},jN x es=some v-> ∃y∈es,y.2.2=v
 |[],h=>by cases h
 |e::r,h=>by
  have h:(match e.1==x with|true=>some e.2.2|false=>jN x r)=some v:=h
  cases q:e.1==x with
  |true=>rw [q] at h;cases h;exact ⟨e,.head _,rfl⟩
  |false=>rw [q] at h;obtain ⟨y,a,b⟩:=GH h;exact ⟨y,.tail _ a,b⟩
theorem By {x:ai} {v:SV}:∀{es:List (ai×SV)},findF x es=some v-> ∃y∈es,y.2=v/\y.1=x
 |[],h=>by cases h
 |e::r,h=>by
  have h:(match x==e.1 with|true=>some e.2|false=>findF x r)=some v:=h
  cases q:x==e.1 with
  |true=>rw [q] at h;cases h;exact ⟨e,.head _,rfl,(ik.mp q).symm⟩
  |false=>rw [q] at h;obtain ⟨y,a,b⟩:=By h;exact ⟨y,.tail _ a,b⟩
theorem fS.Bz {w:ah} {c:Cx} {st:St} (R:fS w c st) {x:ai} {v:SV} (h:findF x st.loc=some v):aX st.led v:=(By h).elim λy h=>h.2.1▸R.fz y h.1
theorem fS.Ox {w:ah} {c:Cx} {st:St} (R:fS w c st) {K:eE} {cs:bD} {x:ai} {v:SV} (h:Bm K cs x st=some v):aX st.led v:=by
 refine gq h λy h=> ?_
 refine cz h λkd y h=> ?_
 cases kd with
 |«local»=>exact R.Bz h
 |cell=>exact R.Bz h
 |free=>exact R.Bz (vC h).2
 |globalImplicit=>
  refine cz h λo y h=> ?_
  refine mA h (λu y h=> ?_) λy h=> ?_
  ·cases h;trivial
  ·refine gq h λy h=> ?_
   obtain ⟨u,z,rfl⟩:=iz.mp h
   trivial
 |globalExplicit=>cases h
theorem Oy {w:ah} {NN:Led} {D b:Nat} {c:Cx} {x:ai} {pos:aW} {v:SV} {st:St} {s:ak} {Q E:aa->ak->Prop} (O:c.Ok w NN D b) (R:Rep w c st s) (h:Bm (KK w.params) c.es x st=some v) (k:Q v.val s):aC (aG PG w) c.A (eD (.Name x pos) c.ee) Q E s:=by
 refine gq h λhd h=> ?_
 obtain ⟨hd,h0⟩:=(nA _ _).mp hd
 have hd:(x==("__debug__":ai))=false:=ia (by simpa using hd)
 refine cz h λkd hx h=> ?_
 have ko:=O.ko x kd hx
 have GI:(kd= .cell\/kd= .free)->findF x st.loc=some v->(x==("__classdict__":ai))=false\/kd= .cell->aC (aG PG w) c.A (eD (.Name x pos) c.ee) Q E s:=λe h cd=>by
  obtain ⟨a,o,c1,c2,c3⟩:=O.ce x (e.elim (λe=>.inl (hx.trans (bW some e))) λe=>.inr (hx.trans (bW some e)))
  have hc:s.heap.IsCell a (some v.val):=⟨o,(R.nw _ (mE c2)).1,c3 _ _ R.lc h⟩
  by_cases q:c.ee.kindOf x=some .cell
  ·exact wpAny_Name (wpAny_loadName_cell O.kd q c1 hc k) hd
  ·have q2:kd= .free:=e.resolve_left λe=>ko.elim (λz=>q (e▸z)) λz=>nomatch e.symm.trans z.1
   exact wpAny_Name (wpAny_loadName_free O.kd (ko.elim (λz=>q2▸z) λz=>absurd z.2 q) c1 hc k (cd.resolve_right λe=>nomatch e.symm.trans q2)) hd
 cases kd with
 |«local»=>
  obtain ⟨m,n1,n2⟩:=O.lo R (by simpa using h0) hx h
  exact wpAny_Name (wpAny_loadName_local O.kd (ko.resolve_right λz=>nomatch z.1) n1 n2 k) hd
 |cell=>exact GI (.inl rfl) h (.inr rfl)
 |free=>
  refine gq h λh1 h=> ?_
  exact GI (.inr rfl) h (.inl (ia (by simpa using h1)))
 |globalImplicit=>
  have hx:=ko.resolve_right λz=>nomatch z.1
  have G:=O.T.keeps R.fr.keep
  have TR:=topRead_of O.T
  refine cz h λo h1 h=> ?_
  rcases A8 h with⟨u,rfl,h⟩|⟨rfl,h⟩
  ·cases h
   exact Fc O.kd hx (PySem.Calls.loadGlobal_global (env:=c.ee) (show s.heap.Ns c.ee.globals c.mg from O.hg.1▸G.g) (mg_of O.X TR.g h1) k) hd
  ·refine gq h λh2 h=> ?_
   obtain ⟨u,h3,rfl⟩:=iz.mp h
   exact Fc O.kd hx (PySem.Calls.loadGlobal_builtin (env:=c.ee) (show s.heap.Ns c.ee.globals c.mg from O.hg.1▸G.g) (mg_none_of O.X TR.g h1) (show s.heap.Ns c.ee.builtins c.mb from O.hg.2▸G.b) ((TR.builtins x (by simpa using h2)).trans h3) k) hd
 |globalExplicit=>cases h
theorem Rep.view {w:ah} {c:Cx} {st:St} {s:ak} (R:Rep w c st s) {a:ac} {o:SO} (hm:(a,o.obj w.params)∈st.oth++c.news) (ok:gr (st.led++[⟨a,o,false⟩]) o):Rep w c {st with led:=st.led++[⟨a,o,false⟩]} s:=by
 have hx:=Ext.app st.led [⟨a,o,false⟩]
 refine ⟨⟨⟨λi e h hf=> ?_,λi e h hf p hp=> ?_,λi e h hf=> ?_,R.oo,λi e h=> ?_⟩,R.lc,λx h=>(R.fz x h).ext hx⟩,R.same,R.tk,R.fr,λq hq=>(vJ hq).elim (λe=>e▸R.nw _ (kO hm)) λh=>R.nw q h⟩
 ·rcases lG h with h|⟨rfl,rfl⟩
  ·refine ⟨(R.ap i e h hf).1,λj e' h' q=> ?_⟩
   rcases lG h' with h'|⟨rfl,rfl⟩
   ·exact (R.ap i e h hf).2 j e' h' q
   ·exact absurd q ((R.ap i e h hf).1 _ hm)
  ·cases hf
 ·rcases lG h with h|⟨rfl,rfl⟩
  ·exact R.hd i e h hf p hp
  ·cases hf
 ·rcases lG h with h|⟨rfl,rfl⟩
  ·exact R.vw i e h hf
  ·exact hm
 ·rcases lG h with h|⟨rfl,rfl⟩
  ·exact (R.ir i e h).ext hx
  ·exact ok
end
section
def RH (led:Led) (h:bA):Prop:=∀p∈led,p.2.cls= .type "tuple"->h.get? p.1=some p.2
def RD (led:Led) (v:aa) (d:bM):Prop:=∀h:bA,RH led h-> ∃as,Reads h v d as
def dz (led:Led) (vs:List aa) (ds:List bM):Prop:=∀h:bA,RH led h-> ∃as,ReadsAll h vs ds as
section
variable {led led':Led} {h₀ h:bA} {L a:ac} {v:aa} {d:bM} {vs:List aa} {ds:List bM}
theorem RH.of (N:aU h₀ L h led):RH led h:=λp hp z=>(N p hp).1
theorem RD.reads (x:RD led v d) (N:aU h₀ L h led):∃as,Reads h v d as:=x h (RH.of N)
theorem RH.mono (sub:∀p∈led,p.2.cls= .type "tuple"->p∈led') (x:RH led' h):RH led h:=λp hp e=>x p (sub p hp e) e
theorem RD.mono (sub:∀p∈led,p∈led') (x:RD led v d):RD led' v d:=λh y=>x h (y.mono λp hp z=>sub p hp)
theorem RD.keep (sub:∀p∈led,p.2.cls= .type "tuple"->p∈led') (x:RD led v d):RD led' v d:=λh y=>x h (y.mono sub)
theorem dz.mono (sub:∀p∈led,p∈led') (x:dz led vs ds):dz led' vs ds:=λh y=>x h (y.mono λp hp z=>sub p hp)
theorem RD.int {i:Int} {t:af}:RD led (.int i t) (.int i):=λz z=>⟨_,.int _ _⟩
theorem dz.nil:dz led [] []:=λz z=>⟨_,.nil⟩
theorem dz.cons (x:RD led v d) (y:dz led vs ds):dz led (v::vs) (d::ds):=λh z=>by
 obtain ⟨q,x⟩:=x h z
 obtain ⟨q,y⟩:=y h z
 exact ⟨_,.cons x y⟩
theorem Oz {vs:List aa} {ds:List bM} {as bs:List ac} (x:ReadsAll h vs ds as) (y:Reads h v d bs):∃cs,ReadsAll h (vs++[v]) (ds++[d]) cs:=
 ReadsAll.rec (motive_1:=λz z z z=>True) (motive_2:=λvs ds z z=>∃cs,ReadsAll h (vs++[v]) (ds++[d]) cs) trivial (λz=>trivial) (λz z=>trivial) (λz z=>trivial)
  (λz z z z z=>trivial) (λz z z z z=>trivial) (λz z z z z z z=>trivial) ⟨_,.cons y .nil⟩ (λp z z ih=>ih.elim λz r=>⟨_,.cons p r⟩) x
theorem dz.snoc (x:dz led vs ds) (y:RD led v d):dz led (vs++[v]) (ds++[d]):=λh z=>by
 obtain ⟨q,x⟩:=x h z
 obtain ⟨q,y⟩:=y h z
 exact Oz x y
theorem RD.tup {vs:Array aa} {n:Nat} (hm:(a,(⟨.type "tuple",none,.seq vs n,#[]⟩:av))∈led) (x:dz led vs.toList ds):RD led (.ref a) (.tuple ds):=λh z=>by
 obtain ⟨as,x⟩:=x h z
 have hz:=z _ hm rfl
 exact ⟨as,Reads.tuple (o:=(⟨.type "tuple",none,.seq vs n,#[]⟩:av)) hz rfl rfl x⟩
theorem AllLt.mem {D:ac} {l:Led} (x:AllLt D l):∀p∈l,p.1<D:=by
 induction l with
 |nil=>intro p hp;cases hp
 |cons a l ih=>
  intro p hp
  rcases bj.mp hp with rfl|hp
  ·exact x.1
  ·exact ih x.2 p hp
end
noncomputable def yr (g:Gl):PyData:=.tuple [.int g.w,.int g.st,.int g.so,.int g.sh,.int g.s8]
noncomputable def tv:Option Int->bM
 |none=>.tuple []
 |some i=>.tuple [.int i]
mutual
noncomputable def desc:Nd->bM
 | .char k c=>.tuple [.int 0,.int k,.int c]
 | .gP k c a b l r=>.tuple [.int 1,.int k,.int c,.tuple [.int a,.int b],.int (if l then 1 else 0),.int (if r then 1 else 0)]
 | .rule w h d=>.tuple [.int 4,tv w,tv h,tv d]
 | .fy w k=>.tuple [.int 5,.int w,.int k]
 | .skip g k=>.tuple [.int 6,yr g,.int k,.tuple []]
 | .lead g k l=>.tuple [.int 6,yr g,.int k,desc l]
 | .dk v=>.tuple [.int 7,.int v]
 | .dX la lb lc=>.tuple [.int 8,.tuple (bS la),.tuple (bS lb),.tuple (bS lc)]
 | .mark a b=>.tuple [.int 9,.tuple [.tuple [.int 11,.int a],.tuple [.int 0,.int b]]]
 | .ins k sz d g c l=>.tuple [.int 10,.int k,.int sz,.int d,yr g,.int c,.tuple (bS l)]
 | .eR l=>.tuple [.int 11,.tuple (bS l)]
 | .math b w=>.tuple [.int 12,.int (if b then 1 else 0),.int w]
 | .spec a b=>.tuple [.int 13,.int 0,.tuple [.int a.toNat,.int b.toNat]]
 | .unset w h d sp n st v l=>.tuple [.int 14,.int w,.int h,.int d,.int sp,.int (if v then 1 else 0),.int n,.tuple [.int 0,.int st,.int 0,.int 0],.tuple [.int 0,.int 0,.int 0,.int 0],.tuple (bS l)]
 | .box k w h d sh sg od r r2 l=>.tuple [.int k,.int w,.int h,.int d,.int sh,.int sg,.int od,.tuple [.int r,.int r2],.tuple (bS l)]
noncomputable def bS:List Nd->List bM
 |[]=>[]
 |d::r=>desc d::bS r
end
def vN (led:Led) (d:bM) (_news tl:Led) (r:aa):Prop:=RD (led++tl) r d
def Tells (w:ah) (d:Nd):Prop:=∀(led:Led) (depth:Nat),depth+ht d<=60->Sp w 741 (24+8*ht d) (A2 w led d depth) (vN led (desc d))
def lH (w:ah) (ds:List Nd):Prop:=∀(led:Led) (depth:Nat),depth+bR ds<=61->Sp w 747 (18+8*bR ds) (A3 w led ds depth) (vN led (.tuple (bS ds)))
def Stop (p:Prop):Prop:=p
noncomputable def OA:List Nat:=[741,747,179,717,723,950,957,962,969,924,938,943,976,983,990,917,907,896,931,225,281,340,360,402,423,445,466,487,508,529,550,571,592,677,381,278,257,88,688]
theorem BA {p:Prop} (h:Stop p):p:=h
theorem stopped {M:Model} {A:bZ} {n:Nat} {vs:List aa} {Q E:aa->ak->Prop} {s:ak} (hn:OA.contains n=true) (h:Stop (aC M A (call (.ref n) vs) Q E s)):aC M A (call (.ref n) vs) Q E s:=h
end
section
section
variable {prog:cP} {w:ah} {A:bZ} {E:aa->ak->Prop} {s:ak} {h₀:bA} {L:ac} {m:ai->Option aa} {news:Led}
theorem OB {a b:Nat} (n7:a<=b):AH (a:Int) (b:Int) 1=b -a:=by
 exact places_from a b n7
theorem OC (xs:Array aa) (a b:Nat):((List.range (b -a)).filterMap λ(k:Nat)=>xs[(((a:Nat):Int)+(k:Int)*1).toNat]?).toArray=((xs.toList.drop a).take (b -a)).toArray:=by
 have e:(λ(k:Nat)=>xs[(((a:Nat):Int)+(k:Int)*1).toNat]?)=λk=>xs[a+k]?:=by
  funext k
  show xs[a+k*1]? =_
  rw [Nat.mul_one]
 rw [e]
 have:=pick_run xs a (b -a)
 rw [List.filterMap_map] at this
 have e2:((λx=>xs[x]?)∘λx=>a+x)=λk=>xs[a+k]?:=rfl
 rw [e2] at this
 rw [this]
theorem OD {a b n:Nat} (n7:a<=b) (hb:b<=n):nN (some (a:Int)) (some (b:Int)) 1 (n:Int)=(((a:Nat):Int),(b:Int)):=by
 unfold nN
 rw [d7 (by decide),d7 (by decide)]
 show(if(a:Int)<0 then _ else _,if(b:Int)<0 then _ else _)=_
 rw [d7 (sN.mpr (j9 b)),d7 (sN.mpr (j9 a)),AG (fZ.mpr hb),AG (fZ.mpr (aI n7 hb))]
theorem OE {b n:Nat} (hb:b<=n):nN none (some (b:Int)) 1 (n:Int)=(((0:Nat):Int),(b:Int)):=by
 unfold nN
 rw [d7 (by decide),d7 (by decide)]
 show(_,if(b:Int)<0 then _ else _)=_
 rw [d7 (sN.mpr (j9 b)),AG (fZ.mpr hb)]
 rfl
theorem GJ {v:aa} {l:Option Int} {Q:Option Int->ak->Prop} (p:l6 v l) (h:Q l s):aC (aG prog w) A (Builtin.Slice.slicePartIndex v) Q E s:=by
 cases p with
 |none=>exact slicePart_none h
 |int i t=>exact slicePart_int h
theorem OF {sl:ac} {vl vu:aa} {l u:Option Int} {a z n:Nat} {Q:Int×Int×Nat->ak->Prop} (hs:s.heap.IsSliceOf sl vl vu .none) (pl:l6 vl l) (pu:l6 vu u) (ad:nN l u 1 (n:Int)=(((a:Nat):Int),(z:Int))) (n7:a<=z) (h:Q (((a:Nat):Int),1,z -a) s):
  aC (aG prog w) A (Fd (.ref sl) (pure (n:Int))) Q E s:=by
 refine hs.elim λos H=> ?_
 have qY:=H.1
 have jL:=H.2.2
 unfold Fd Builtin.Slice.sliceFields
 refine bC (bC (ny qY jL (x:=vl) rfl (bC (ny qY jL (x:=vu) rfl (bC (ny qY jL (x:=.none) rfl (dR ?_)))))))
 refine bC (slicePart_none ?_)
 show aC _ _ (if((1:Int)==0)=true then _ else _) _ _ s
 rw [d7 (by decide)]
 refine bC (GJ pl (bC (GJ pu (bC (dR ?_)))))
 show aC _ _ (match nN l u 1 (n:Int) with|(lo,hi)=>pure (lo,(1:Int),AH lo hi 1)) _ _ s
 rw [ad]
 show aC _ _ (pure (((a:Nat):Int),(1:Int),AH ((a:Nat):Int) (z:Int) 1)) _ _ s
 rw [OB n7]
 exact dR h
theorem OG {t sl:ac} {items:Array aa} {vl vu:aa} {l u:Option Int} {a z:Nat} {Q:aa->ak->Prop} (ht:IsTup s.heap t items) (hs:s.heap.IsSliceOf sl vl vu .none) (pl:l6 vl l) (pu:l6 vu u) (ad:nN l u 1 (items.size:Int)=(((a:Nat):Int),(z:Int))) (n7:a<=z) (hn:((((a:Nat):Int)==0)&&((z -a)==items.size))=false)
  (h:Q (.ref s.heap.objs.size) {s with heap:=s.heap.push {cls:=.type "tuple",data:=.seq ((items.toList.drop a).take (z -a)).toArray}}) (jx:items.size<=sizeLine):
  aC (aG prog w) A (getItem (.ref t) (.ref sl)) Q E s:=by
 have yt:sizeOk (.seq ((items.toList.drop a).take (z -a)).toArray):=aI (xz _ _) (aI (mh▸Nat.sub_le _ _) jx)
 have OH:s.TypeIs (.ref sl) "slice":=hs.elim λos H=>⟨os,H.1,H.2.1⟩
 unfold getItem
 try with_reducible refine wpAny_holding ?_
 first|refine bC (dR ?_)|skip
 refine bC (wpAny_sequenceKey ht.typeIs (by decide) ?_)
 refine bC (wpAny_callSpecial?_slot (name:=aF "__getitem__") ht.typeIs AD
  (wpAny_call_entry AD ht.typeIs entry_tuple_getitem ?_ (args_tuple_getitem _ _)))
 show aC _ _ (Builtin.Tuple.tupleItemsOf (.ref t)>>=_) _ _ s
 refine bC (tupleItemsOf_ ht ?_)
 refine bC (sx OH ?_)
 rw [if_pos (by decide)]
 refine bC (OF hs pl pu ad n7 ?_)
 have OJ:¬((((a:Nat):Int)==0&&(1:Int)==1&&(z -a)==items.size)=true):=by
  rw [show((1:Int)==1)=true from rfl,Bool.and_true,hn]
  exact oY
 show aC _ _ (if(((a:Nat):Int)==0&&(1:Int)==1&&(z -a)==items.size)=true then _ else _) _ _ s
 rw [d7 OJ,OC items a z]
 first
  |exact bC (m:=sP _) (nz (dR ⟨_,rfl,dR h⟩) yt)
  |exact bC (m:=sP _) (nz (bC (dR (dR ⟨_,rfl,dR h⟩))) yt)
  |exact bC (bC (m:=sP _) (nz (dR (dR ⟨_,rfl,dR h⟩)) yt))
  |exact bC (bC (m:=sP _) (nz (dR ⟨_,rfl,dR h⟩) yt))
theorem OK {value slice:az} {t:ac} {items:Array aa} {vl vu:aa} {l u:Option Int} {a z:Nat} {Q:aa->ak->Prop} (F:Fr h₀ L s.heap m) (N:aU h₀ L s.heap news) (ht:IsTup s.heap t items) (pl:l6 vl l) (pu:l6 vu u) (ad:nN l u 1 (items.size:Int)=(((a:Nat):Int),(z:Int))) (n7:a<=z) (hn:((((a:Nat):Int)==0)&&((z -a)==items.size))=false)
  (h:∀D h',Fr h₀ L h' m->aU h₀ L h' ((D,(⟨.type "tuple",none,.seq ((items.toList.drop a).take (z -a)).toArray 0,#[]⟩:av))::news)->(∀p∈news,p.1<D)->Q (.ref D) {s with heap:=h'})
  (hs:subscripted slice false (.ref t) (.ref s.heap.objs.size)=operate [.ref s.heap.objs.size,.ref t] (getItem (.ref t) (.ref s.heap.objs.size)))
  (hg:∀r,letTemporaryGo value (.ref t) r=pure ()) (jx:items.size<=sizeLine):
  aC (aG prog w) A (vi value slice (.ref t) (.ref s.heap.objs.size)) Q E {s with heap:=s.heap.push {cls:=.type "slice",data:=.fields #[vl,vu,.none]}}:=by
 have vK:IsTup (s.heap.push {cls:=.type "slice",data:=.fields #[vl,vu,.none]}) t items:=ht.keeps λy y e=>gO _ e
 refine subscriptTail_ops (s:={s with heap:=s.heap.push {cls:=.type "slice",data:=.fields #[vl,vu,.none]}}) vK.typeIs AD.lookup
  (OG vK (Heap.IsSliceOf.new ..) pl pu ad n7 hn ?_ jx) hs hg
 have N1:=News.push (F.push {cls:=.type "slice",data:=.fields #[vl,vu,.none]}) (N.grown λy y e=>gO _ e) {cls:=.type "tuple",data:=.seq ((items.toList.drop a).take (z -a)).toArray}
 rw [mo] at N1
 show Q (.ref (s.heap.push _).objs.size) _
 rw [mo]
 exact h _ _ ((F.push _).push _) N1 (λp hp=>nE (fH (N p hp).1))
theorem GK {a:Nat} {b:Bool} (h:1<=a):((((a:Nat):Int)==0)&&b)=false:=by
 cases a with
 |zero=>exact absurd h (by decide)
 |succ n=>rfl
theorem OL {b n:Nat} (h:b<n):((((0:Nat):Int)==0)&&(b==n))=false:=ia (cL h)
end
end
section
section
variable {prog:cP} {w:ah} {A:bZ} {E:aa->ak->Prop} {s:ak} {h₀:bA} {L:ac} {m:ai->Option aa} {news:Led}
end
end
section
theorem vO {n:Nat} (h:gH n 100=true):n<=sizeLine:=aI (dB h) (by rw [l7];decide)
theorem cy {a b:Bool} (h:(a&&b)=true):a=true/\b=true:=(nA _ _).mp h
theorem BB {K:eE} {C:ac} {x:ai} (h:yb K C x=true):plainGet K C x=true/\hasDictIn K C=true/\ ∃a,findIn K (.ref C) x=some a/\noGet K a=true:=by
 refine cR h λh1 h2=> ?_
 refine cR h2 λh2 h3=> ?_
 obtain ⟨a,h4,h5⟩:=(Option.any_eq_true _ _).mp h3
 exact ⟨h1,h2,a,h4,h5⟩
theorem OM {K:eE} {C:ac} {x:ai} {v:aa} (h:FZ K C x=some v):plainGet K C x=true/\hasDictIn K C=true/\findIn K (.ref C) x=some (some v)/\specialIn K v "__get__"=some none/\handedIn v=true/\copiedNames.contains x=false:=by
 refine gq h λh1 h=> ?_
 refine cz h λo h2 h=> ?_
 obtain ⟨a,rfl,h⟩:=qM h
 refine gq h λh3 h=> ?_
 cases h
 refine cR h1 λa1 a2=> ?_
 refine cR h3 λb1 b2=> ?_
 refine cR b2 λb2 b3=> ?_
 exact ⟨a1,a2,h2,ik.mp b1,b2,by simpa using b3⟩
section
variable {w:ah} {NN:Led} {c:Cx} {D b:Nat} {st:St} {s:ak} {E:aa->ak->Prop}
theorem GM {x:ai} {v r:SV} {expr:Bool} {Q:aa->ak->Prop} (O:c.Ok w NN D b) (R:Rep w c st s) (hv:aX st.led v) (h:Bd (KK w.params) x v st.led=some r)
  (k:aX st.led r->Q r.val {s with toks:=s.toks+1}):aC (aG PG w) c.A (getAttr v.val x expr) Q E s:=by
 refine cz h λi h1 h=> ?_
 refine cz h λe h2 h=> ?_
 obtain ⟨⟨C,j⟩,h3,h⟩:=qM h
 refine cz h λd h4 h=> ?_
 have I:=R.inst h2 h3 h4
 have qZ:=R.ir j d h4
 rw [gn h1 h2 hv]
 refine mA h (λes h5 h=> ?_) λu h=> ?_
 ·rw [yq h5] at I qZ
  refine mA h (λr' h6 h=> ?_) λh6 h=> ?_
  ·refine gq h λh7 h=> ?_
   cases h
   refine cR h7 λh7 h8=> ?_
   obtain ⟨q1,q2,at',q3,q4⟩:=BB h7
   obtain ⟨y,y1,y2⟩:=GH h6
   exact get_own R.fr O.X I q1 q2 q3 q4 (by rw [vM,h6];rfl) (SV.FU h8) (k (y2▸qZ y y1))
  ·obtain ⟨cv,q,rfl⟩:=iz.mp h
   obtain ⟨q1,q2,q3,q4,q5,q6⟩:=OM q
   exact get_cls R.fr O.X I q1 q2 q3 q4 q5 q6 (by rw [vM,h6];rfl) (k trivial)
 ·refine cz h λfs h5 h=> ?_
  refine cz h λr' h6 h=> ?_
  refine gq h λh7 h=> ?_
  cases h
  obtain ⟨es,n,e5⟩:=Ov h5
  rw [e5] at I qZ
  refine cR h7 λh7 h8=> ?_
  obtain ⟨q1,q2,at',q3,q4⟩:=BB h7
  obtain ⟨y,y1,y2,y3⟩:=By h6
  have z:=qZ y y1
  rw [y2,y3] at z
  exact get_own R.fr O.X I q1 q2 q3 q4 z.2 (SV.FU h8) (k z.1)
theorem ON {x:ai} {v:SV} {f:ac} {pl:Sem Bool} {Q:aa×List aa->ak->Prop} (O:c.Ok w NN D b) (R:Rep w c st s) (hv:aX st.led v) (h:F4 (KK w.params) x v st.led=some f) (k:Q (.ref f,[v.val]) s):aC (aG PG w) c.A (getMethod v.val x pl) Q E s:=by
 refine cz h λi h1 h=> ?_
 refine cz h λe h2 h=> ?_
 obtain ⟨⟨C,j⟩,h3,h⟩:=qM h
 refine cz h λd h4 h=> ?_
 refine cz h λes h5 h=> ?_
 have I:=R.inst h2 h3 h4
 rw [yq h5] at I
 rw [gn h1 h2 hv] at k⊢
 refine mA h (λz z h=> ?_) λh6 h=> ?_
 ·cases h
 ·refine gq h λh7 h=> ?_
  refine cz h λo h8 h=> ?_
  refine cz h λg e1 h'=> ?_
  subst e1
  refine cz h' λf' h9 h'=> ?_
  refine gq h' λcT h'=> ?_
  cases h'
  cases qP h9
  exact method_inst R.fr O.X I h7 h8 cT (by rw [vM,h6];rfl) k
theorem GN {x:ai} {v o:SV} {ao:St} {Q:Unit->ak->Prop} (O:c.Ok w NN D b) (R:Rep w c st s) (ho:aX st.led o) (hv:aX st.led v) (h:Be (KK w.params) x v o st=some ao)
  (k:∀s',Rep w c ao s'->Ext st.led ao.led->Q () s'):aC (aG PG w) c.A (setAttr o.val x v.val) Q E s:=by
 refine cz h λi h1 h=> ?_
 refine cz h λe h2 h=> ?_
 obtain ⟨⟨C,j⟩,h3,h⟩:=qM h
 refine cz h λd h4 h=> ?_
 refine cz h λes h5 h=> ?_
 refine gq h λq h=> ?_
 cases h
 have I:=R.inst h2 h3 h4
 have qZ:=R.ir j d h4
 have e5:=yq h5
 rw [e5] at I qZ
 rw [gn h1 h2 ho]
 refine cR q λq0 q=> ?_
 refine cR q λq q5=> ?_
 refine cR q λq1 q=> ?_
 refine cR q λq2 q=> ?_
 refine cR q λq3 q4=> ?_
 obtain ⟨U,hx,z⟩:=R.set (o:=.dict (nY x (st.tk+1) v es.1) (oE (jN x es.1) (λy=>es.2) (es.2+1))) h4 q0 (by rw [e5];rfl) rfl (GG hv qZ)
 rw [e5,<-R.tk] at U
 refine set_dict R.fr O.X R.nw I rfl (ik.mp q1) q2 (ik.mp q3) q4 (by rw [vM];rfl) (e:=Prod.ext GD Ow) U (by
  rw [GE]
  exact aI GF (aI (dS (dB q5)) (by decide))) λh' F' N'=> ?_
 rw [R.tk] at N'
 exact k _ (z h' _ _ (by rw [R.tk]) F' N') hx
theorem BC {x:ai} {v:SV} {ao:St} {Q:Unit->ak->Prop} (O:c.Ok w NN D b) (hF:c.Fn) (R:Rep w c st s) (hv:aX st.led v) (h:yk c.es x v st=some ao)
  (k:∀s',Rep w c ao s'->ao.led=st.led->Q () s'):aC (aG PG w) c.A (storeName c.ee x v.val) Q E s:=by
 refine gq h λhx h=> ?_
 cases h
 rw [hF.ee]
 rw [hF.es] at hx
 have hx:=cJ hx
 exact storeX_L R.fr R.nw (λh' F' N'=>k _ ⟨⟨R.tomD,hF.jv _ _ _ hx R.lc,bU.mpr ⟨hv,R.fz⟩⟩,by show _=_;rw [R.same],by show s.toks+1=st.tk+1;rw [R.tk],by
  show Fr c.h₀ c.L h' (c.fm ((x,v)::st.loc))
  rw [hF.fm x v st.loc hx]
  exact F',N'⟩ rfl) O.hk hx
theorem OO {op:lv} {m n:Int} {t u:af} {r:Bool} {A:bZ} {Q:aa->ak->Prop} (h:yd op m n=some r) (k:Q (.bool r) s):aC (aG PG w) A (compareOp op (.int m t) (.int n u)) Q E s:=by
 cases op<;>cases h
 ·exact eq_int k
 ·exact ne_int k
 ·exact lt_int k
 ·exact le_int k
 ·exact gt_int k
 ·exact ge_int k
theorem jy {v:SV} {vs:List SV} (R:Rep w c st s) (hv:aX st.led v) (h:hW st.led v=some vs):∃i e n,v= .own i e.a/\st.led[i]? =some e/\e.o= .tup vs n/\IsTup s.heap e.a (vals vs).toArray/\ ∀u∈vs,aX st.led u:=by
 refine cz h λi h1 h=> ?_
 refine cz h λe h2 h=> ?_
 refine (tj h).elim λn h=> ?_
 have at':=R.at h2
 have ok:=R.ir i e h2
 rw [h] at at' ok
 exact ⟨i,e,n,gn h1 h2 hv,h2,h,⟨_,at',rfl,_,rfl⟩,ok⟩
theorem n8 {v:SV} {vs:List SV} (R:Rep w c st s) (hv:aX st.led v) (h:jO st.led v=some vs):∃a,v.val= .ref a/\s.heap.IsList a (vals vs).toArray/\ ∀u∈vs,aX st.led u:=by
 refine cz h λi h1 h=> ?_
 refine cz h λe h2 h=> ?_
 obtain ⟨l,h3,rfl⟩:=iz.mp h
 have at':=R.at h2
 have ok:=R.ir i e h2
 rw [kQ h3] at at' ok
 exact ⟨e.a,by rw [gn h1 h2 hv];rfl,⟨_,at',rfl,_,rfl⟩,ok⟩
theorem kR:∀(a b:List SV),vals (a++b)=vals a++vals b
 |[],z=>rfl
 |z::a,b=>bW _ (kR a b)
theorem yu:∀(a:List aa),vals (a.map SV.lit)=a
 |[]=>rfl
 |z::a=>bW _ (yu a)
theorem eh:∀(a:List SV),(vals a).length=a.length
 |[]=>rfl
 |z::a=>bW (· +1) (eh a)
theorem tx:∀{a:List SV} {n:Nat} {x:SV},a[n]? =some x->(vals a)[n]? =some x.val
 |[],z,y,h=>by cases h
 |z::y,0,q,h=>by cases h;rfl
 |_::a,n+1,_,h=>tx (a:=a) (n:=n) h
theorem vP:∀{a:List SV} {n:Nat} {v:aa},(vals a)[n]? =some v-> ∃x,a[n]? =some x/\x.val=v
 |[],z,y,h=>by cases h
 |x::z,0,y,h=>by cases h;exact ⟨x,rfl,rfl⟩
 |_::a,n+1,_,h=>vP (a:=a) (n:=n) h
theorem GO:∀{a:List SV} {n:Nat} {x:SV},n<a.length->ki_setL (vals a) n x.val=some (vals (a.set n x))
 |[],z,j,h=>absurd h (Am _)
 |z::j,0,u,g=>rfl
 |y::a,n+1,x,h=>by
  show(match ki_setL (vals a) n x.val with|some q=>some (y.val::q)|none=>none)=_
  rw [GO (a:=a) (Nat.lt_of_succ_lt_succ h)];rfl
theorem GP:∀{vs:List SV} {ns:List Int},intsOf vs=some ns->qA (vals vs) ns
 |[],z,h=>by cases h;exact .nil
 |v::r,ns,h=>by
  refine cz h λn h1 h=> ?_
  obtain ⟨m,h2,rfl⟩:=iz.mp h
  refine (eS h1).elim λt e=> ?_
  show qA (v.val::vals r) _
  rw [e]
  exact .cons n t (GP h2)
theorem OP {op:lv} {x y:SV} {r:Bool} {A:bZ} {Q:aa->ak->Prop} (R:Rep w c st s) (hy:aX st.led y) (h:Gb op x y st=some r) (k:Q (.bool r) s):aC (aG PG w) A (compareOp op x.val y.val) Q E s:=by
 have two:∀{op:lv},(oB (d6 x.val) λm=>oB (d6 y.val) λn=>yd op m n)=some r->aC (aG PG w) A (compareOp op x.val y.val) Q E s:=λh=>by
  refine cz h λm h1 h=> ?_
  refine cz h λn h2 h=> ?_
  refine (eS h1).elim λt e1=> ?_
  refine (eS h2).elim λu e2=> ?_
  rw [e1,e2]
  exact OO h k
 cases op with
 |Is=>
   obtain ⟨h1,h⟩:=vC h
   cases h
   rw [Bb h1]
   exact is_none_gen k
 |IsNot=>
     obtain ⟨h1,h⟩:=vC h
     cases h
     rw [Bb h1]
     exact isnot_none_gen k
 |In=>
   obtain ⟨n,h1,h⟩:=qM h
   refine cz h λvs h2 h=> ?_
   obtain ⟨ns,h3,rfl⟩:=iz.mp h
   refine (eS h1).elim λt e1=> ?_
   obtain ⟨i,e,n,rfl,z,z,ht,z⟩:=jy R hy h2
   rw [e1]
   exact in_tuple_ints ht (GP h3) k
 |Eq=>
   rcases A8 h with⟨p,h1,h⟩|⟨z,h⟩
   ·obtain ⟨q,h2,rfl⟩:=iz.mp h
    rw [tf h1,tf h2]
    exact eq_bool k
   ·exact two h
 |NotIn=>exact two h
 |_=>exact two h
theorem OQ {x:aa} {n:Bool} {A:bZ} {Q:Bool->ak->Prop} (h:Gc x=some n) (k:Q n s):aC (aG PG w) A (truthy x) Q E s:=by
 refine mA h (λp h1 h=> ?_) λz h=> ?_
 ·cases h
  rw [tf h1]
  exact lw k
 ·refine mA h (λm h1 h=> ?_) λz h=> ?_
  ·cases h
   refine (eS h1).elim λt e=> ?_
   rw [e]
   exact truthy_int k
  ·refine gq h λh1 h=> ?_
   cases h
   rw [Bb h1]
   exact truthy_none k
abbrev Kont (w:ah) (c:Cx) (st:St) (k:SV->St->Prop) (Q:aa->ak->Prop):Prop:=∀v ao s',Nx w c st ao s'->aX ao.led v->k v ao->Q v.val s'
theorem added {o:SO} {a:ac} {h':bA} {k:SV->St->Prop} {Q:aa->ak->Prop} (R:Rep w c st s) (F:Fr c.h₀ c.L h' (c.fm st.loc)) (N:aU c.h₀ c.L h' ((a,o.obj w.params)::all w c st)) (l:∀p∈all w c st,p.1≠a) (ok:gr st.led o) (h:gf st o k)
  (q:Kont w c st k Q):Q (.ref a) {s with heap:=h'}:=
 q (.own st.led.length a) _ _ ⟨R.alloc (a:=a) (o:=o) (h':=h') F N l (ok.ext (Ext.app _ _)),Ext.app _ _,rfl⟩ ⟨_,kh _ _,rfl⟩ (h a)
theorem n9 {n:Nat} (h:n<=1000):n<=sizeLine:=aI h (by rw [l7];decide)
theorem OR {x y:SV} {vs us:List SV} {k:SV->St->Prop} {Q:aa->ak->Prop} (R:Rep w c st s) (hx:aX st.led x) (hy:aX st.led y) (h1:jO st.led x=some vs) (h2:jO st.led y=some us) (hl:vs.length+us.length<=1000) (h:gf st (.lst (vs++us) 0) k)
  (q:Kont w c st k Q):aC (aG PG w) c.A (binaryOp .Add x.val y.val) Q E s:=by
 obtain ⟨a,e1,ha,o1⟩:=n8 R hx h1
 obtain ⟨b,e2,hb,o2⟩:=n8 R hy h2
 rw [e1,e2]
 exact kmk_add_lit R.fr R.nw ha hb (zs:=vals (vs++us)) (by rw [kR]) (λD h' F' N' l=>added (o:=.lst (vs++us) 0) R F' N' (λp hp=>cL (l p hp)) (λz hz=>(aM.mp hz).elim (o1 z) (o2 z)) h q) (n9 (by
  show(vals vs).length+(vals us).length<=_
  rw [eh,eh];exact hl))
theorem OS {op:qo} {m n r:Int} (h:binI op m n=some r):(op= .Add/\m+n=r)\/(op= .Sub/\m -n=r):=by
 cases op<;>first|exact .inl ⟨rfl,jK h⟩|exact .inr ⟨rfl,jK h⟩|cases h
theorem GQ {op:qo} {x y:SV} {k:SV->St->Prop} {Q:aa->ak->Prop} (R:Rep w c st s) (hx:aX st.led x) (hy:aX st.led y) (h:yf op x y st k)
  (q:Kont w c st k Q):aC (aG PG w) c.A (binaryOp op x.val y.val) Q E s:=by
 unfold yf at h
 split at h
 ·rename_i e
  rw [cJ e]
  refine aJ h λm h1 h=> ?_
  refine aJ h λn h2 h=> ?_
  refine (eS h1).elim λt e1=> ?_
  refine (eS h2).elim λu e2=> ?_
  rw [e1,e2]
  have:=q (.lit _) _ _ ⟨R.toks 1,Ext.refl _,rfl⟩ trivial h.2
  rw [<-R.tk] at this
  exact PyProof.Rows.mod_int' h.1 this
 ·refine eg h (λn h1 h=> ?_) λ_ h=> ?_
  ·refine cz h1 λa h2 h1=> ?_
   refine cz h1 λb h3 h1=> ?_
   refine (eS h2).elim λt e1=> ?_
   refine (eS h3).elim λu e2=> ?_
   rw [e1,e2]
   have:=q (.lit _) _ _ ⟨R.toks 1,Ext.refl _,rfl⟩ trivial h
   rw [<-R.tk] at this
   rcases OS h1 with⟨rfl,rfl⟩|⟨rfl,rfl⟩
   ·exact add_int this
   ·exact sub_int this
  ·refine bv h λh0 h=> ?_
   rw [cJ h0]
   refine eg h (λvs h1 h=> ?_) λ_ h=> ?_
   ·refine aJ h λus h2 h=> ?_
    refine bv h λh3 h9=> ?_
    have h4:=(cy h3).1
    have h5:=(cy (cy h3).2).1
    have h6:=dB (cy (cy h3).2).2
    obtain ⟨i,e,m,e1,_,_,ht,o1⟩:=jy R hx h1
    obtain ⟨j,f,n,e2,_,_,hu,o2⟩:=jy R hy h2
    rw [e1,e2]
    have ne:∀{vs:List SV},(!vs.isEmpty)=true->(vals vs).toArray.toList≠[]:=λ{vs} h e=>by
     cases vs with
     |nil=>cases h
     |cons=>cases e
    exact kde_addT R.fr R.nw ht hu (ne h4) (ne h5) (by
     show(vals vs).length+(vals us).length<=_
     rw [eh,eh]
     exact aI h6 (by decide)) (zs:=vals (vs++us)) (by rw [kR]) λD h' F' N' l=>added (o:=.tup (vs++us) 0) R F' N' (λp hp=>cL (l p hp)) (λz hz=>(aM.mp hz).elim (o1 z) (o2 z)) h9 q
   ·refine aJ h λvs h1 h=> ?_
    refine aJ h λus h2 h=> ?_
    exact OR R hx hy h1 h2 h.1 h.2 q
theorem OT {T:String} {v:SV} {k:SV->St->Prop} {Q:aa->ak->Prop} (R:Rep w c st s) (hv:aX st.led v) (h:Bn T v st k)
  (q:Kont w c st k Q):aC (aG PG w) c.A (call (.type T) [v.val]) Q E s:=by
 unfold Bn at h
 split at h
 ·rename_i e
  cases cJ e
  refine eg h (λ_ h1 h=> ?_) λ_ h=> ?_
  ·have OU:=hv
   obtain ⟨i,e,m,rfl,_,_,ht,o1⟩:=jy R hv h1
   exact call_tuple_tup ht (q _ _ _ (Nx.refl R) OU h)
  ·refine aJ h λus h1 h=> ?_
   refine bv h λhz h=> ?_
   obtain ⟨a,e,ht,o1⟩:=n8 R hv h1
   rw [e]
   exact kde_tupleOf R.fr R.nw ht (by
    show(vals us).length<=_
    rw [eh]
    exact aI (dB hz) (by decide)) (zs:=vals us) rfl λD h' F' N' l=>added (o:=.tup us 0) R F' N' (λp hp=>cL (l p hp)) o1 h q
 ·refine bv h λe h=> ?_
  cases cJ e
  refine eg h (λus h1 h=> ?_) λ_ h=> ?_
  ·refine bv h λhz h=> ?_
   obtain ⟨a,e,ht,o1⟩:=n8 R hv h1
   rw [e]
   exact list_copyK R.fr R.nw ht (λD cp h' F' N' l=>added (o:=.lst us cp) R F' N' (λp hp=>cL (l p hp)) o1 (h cp) q) (by
    show(vals us).length<=_
    rw [eh]
    exact vO hz)
  ·refine aJ h λus h1 h=> ?_
   obtain ⟨i,e,m,e1,_,_,ht,o1⟩:=jy R hv h1
   rw [e1]
   exact list_copyKT R.fr R.nw ht (λD cp h' F' N' l=>added (o:=.lst us cp) R F' N' (λp hp=>cL (l p hp)) o1 (h.2 cp) q) (n9 (by
    show(vals us).length<=_
    rw [eh]
    exact h.1))
theorem vQ (n:Nat):(0:Int)<=dW n:=j9 n
theorem yv {n:Nat} (h:n<=1000):dW n<2^63:=mj (fZ.mpr h) (by decide)
theorem GR {v x:SV} {n:Nat} {value slice:az} {u:af} {Q:aa->ak->Prop} (R:Rep w c st s) (hv:aX st.led v) (hi:qU slice=true) (hn:gH n 1000=true) (h:Bf st.led v n=some x) (k:aX st.led x->Q x.val s):
  aC (aG PG w) c.A (vi value slice v.val (.int (.ofNat n) u)) Q E s:=by
 have hn:=dB hn
 refine kba_turn (value':=.Name (aF "_") ⟨0,0,0,0⟩) (λy=>rfl) ?_
 have aK:∀a,subscripted slice false (.ref a) (.int (.ofNat n) u)=operate [.ref a,.int (.ofNat n) u] (getItem (.ref a) (.int (.ofNat n) u)):=λa=>by cases slice<;>first|rfl|cases hi
 refine mA h (λvs h1 h=> ?_) λy h=> ?_
 ·obtain ⟨i,e,m,e1,z,z,ht,o1⟩:=jy R hv h1
  rw [e1]
  have hl:=(iN.mp h).1
  refine item_tupleT ht (j:=n) (ed (by decide) (vQ n)) (yv hn) ?_ (tx h) (k (o1 x (et h))) (aK e.a)
  unfold seqIndex?
  rw [eh,d7 (sN.mpr (vQ n))]
  show(if(decide (0<=dW n)&&decide (dW n<(vs.length:Int)))=true then _ else _)=_
  rw [gW (vQ n),show decide (dW n<(vs.length:Int))=true from gW (iA.mpr hl)]
  rfl
 ·refine cz h λvs h1 h=> ?_
  obtain ⟨a,e,ht,o1⟩:=n8 R hv h1
  rw [e]
  exact tail_any ht.typeIs slot_list_getitem.lookup (wpAny_getItem_list ht (vQ n) (yv hn) (by simpa using tx h) (k (o1 x (et h)))) (aK a)
theorem pA {v:aa} {p:Int×af} (h:nZ v=some p):v= .int p.1 p.2:=iq h λd f=>f▸d.2
theorem GS:∀{vs:List SV} {ns:List (Int×af)} {n:Nat} {x:SV},Bg vs=some ns->vs[n]? =some x->x.val= .int (mB ns n).1 (mB ns n).2
 |[],z,y,q,j,h=>by cases h
 |v::r,ns,n,x,e,h=>by
  refine cz e λp e1 e=> ?_
  obtain ⟨ms,e2,rfl⟩:=iz.mp e
  cases n with
  |zero=>cases h;exact pA e1
  |succ n=>exact GS (vs:=r) (ns:=ms) (n:=n) e2 h
theorem OV {led:List LE} {v:SV} {vs:List SV} {n:Nat} {x:SV} (e1:qR led v=some vs) (hx:vs[n]? =some x):Bf led v n=some x:=by
 refine mA e1 (λOW e e1=> ?_) λe e1=> ?_
 ·cases e1
  show oE (hW led v) _ _=_
  rw [e];exact hx
 ·show oE (hW led v) _ (oB (jO led v) _)=_
  rw [e,e1];exact hx
theorem yw {v:SV} {vs:List SV} {m:Int} {value slice:az} {u:af} {Q:aa->ak->Prop} (R:Rep w c st s) (hv:aX st.led v) (hi:qU slice=true) (e1:qR st.led v=some vs) (h1:0<=m) (h2:m<dW vs.length) (h3:vs.length<=1000)
  (k:∀x,vs[m.toNat]? =some x->aX st.led x->Q x.val s):aC (aG PG w) c.A (vi value slice v.val (.int m u)) Q E s:=by
 obtain ⟨n,rfl⟩:=ke h1
 have hn:n<vs.length:=iA.mp h2
 have hx:=qw hn
 exact GR (n:=n) R hv hi (Nat.ble_eq_true_of_le (aI (xq hn) h3)) (OV e1 hx) (k vs[n] hx)
theorem OX {G:Cfg} {H:Hint} {p:aW} {v:SV} {m:Int} {st:St} {s:ak} {k:SV->St->Prop} {value slice:az} {u:af} {Q:aa->ak->Prop} (R:Rep w c st s) (hv:aX st.led v) (hi:qU slice=true) (h:Bq G H p m v st k)
  (q:∀x,aX st.led x->k x st->Q x.val s):aC (aG PG w) c.A (vi value slice v.val (.int m u)) Q E s:=by
 unfold Bq at h
 split at h
 ·refine aJ h λn e1 h=> ?_
  refine bv h λe3 h=> ?_
  refine aJ h λx e4 h=> ?_
  rw [Ba e1]
  exact GR R hv hi e3 e4 λok=>q x ok h
 ·refine aJ h λvs e1 h=> ?_
  obtain ⟨e2,⟨h1,h2⟩,h⟩:=qK h
  refine yw R hv hi e1 h1 h2 (aI (dB e2) (by decide)) λx hx z=> ?_
  refine eg h (λns e h=> ?_) λz h=> ?_
  ·rw [GS e hx];exact q (.lit (.int (mB ns m.toNat).1 (mB ns m.toNat).2)) trivial h
  ·rw [<-FV hx];exact q (.lit _) trivial h
 ·obtain ⟨vs,e1,⟨h1,h2,h3⟩,⟨t,e2⟩,h⟩:=gQ h
  refine yw R hv hi e1 h1 h2 h3 λx hx z=> ?_
  rw [tx hx] at e2
  rw [jK e2]
  exact q (.lit _) trivial (h t)
 ·obtain ⟨vs,e1,⟨h1,h2,h3⟩,h⟩:=gQ h
  exact yw R hv hi e1 h1 h2 h3 λx hx z=>q (.ag _) trivial (h _ (tx hx))
theorem OY {T:String} {vs:List SV} {st:St} {s:ak} {k:SV->St->Prop} {Q:aa->ak->Prop} (hh:c.A.handled=none) (R:Rep w c st s) (hv:∀v∈vs,aX st.led v) (h:Bp T vs st k)
  (q:Kont w c st k Q):aC (aG PG w) c.A (call (.builtin T) (vals vs)) Q E s:=by
 unfold Bp at h
 split at h
 ·rename_i e
  cases cJ e
  split at h
  ·rename_i v
   refine aJ h λus e1 z9=>z9.elim λh1 h2=> ?_
   have:=q (.lit _) _ _ ⟨R.toks 2,Ext.refl _,rfl⟩ trivial h2
   rw [<-R.tk] at this
   have fit:((vals us).toArray.size:Int)<2^63:=by
    show((vals us).length:Int)<_
    rw [eh]
    exact yv h1
   have eq:((vals us).toArray.size:Int)=(us.length:Int):=by
    show((vals us).length:Int)=_
    rw [eh]
   refine mA e1 (λOW e e1=> ?_) λe e1=> ?_
   ·cases e1
    obtain ⟨i,e,m,e1,_,_,ht,o1⟩:=jy R (hv v (.head _)) e
    show aC _ _ (call _ [v.val]) _ _ _
    rw [e1]
    exact PyProof.Rows.len_tuple ht fit (by rw [eq];exact this)
   ·obtain ⟨a,e,ht,o1⟩:=n8 R (hv v (.head _)) e1
    show aC _ _ (call _ [v.val]) _ _ _
    rw [e]
    exact PyProof.Rows.len_list ht fit (by rw [eq];exact this)
  ·exact h.elim
 ·refine bv h λe h=> ?_
  cases cJ e
  split at h
  ·rename_i x y _
   refine aJ h λm e1 h=> ?_
   refine aJ h λn e2 h=> ?_
   show aC _ _ (call _ [x.val,y.val]) _ _ _
   rw [pA e1,pA e2]
   exact max_two_N hh R.fr R.nw λh' tk F' N'=>q (.lit _) {st with tk:=tk} _ ⟨⟨⟨R.tomD,R.lc,R.fz⟩,by show _=_;rw [R.same],rfl,F',N'⟩,Ext.refl _,rfl⟩ trivial (h tk)
  ·exact h.elim
theorem pB:∀(n:Nat) (l:List SV),vals (l.take n)=(vals l).take n
 |0,z=>rfl
 |_+1,[]=>rfl
 |n+1,_::l=>bW _ (pB n l)
theorem pD:∀(n:Nat) (l:List SV),vals (l.drop n)=(vals l).drop n
 |0,z=>rfl
 |_+1,[]=>rfl
 |n+1,_::l=>pD n l
theorem OZ:∀{l u:Option Int} {vs:List SV} {st:St} {k:SV->St->Prop},Gq l u vs st k-> ∃ws,slicePick (vals vs).toArray l u none=(vals ws).toArray/\(∀x∈ws,x∈vs)/\gf st (.lst ws 0) k
 |none,some (.ofNat b),vs,z,y,h=>⟨vs.take b,by rw [pB];exact PySem.slicePick_upto' _ b,λx hx=>vd hx,h.2⟩
 |some (.ofNat a),none,vs,z,y,h=>⟨vs.drop a,by rw [pD];exact PySem.slicePick_from' _ a,λx hx=>xy hx,h.2⟩
 |some (.ofNat a),some (.ofNat b),vs,z,y,h=>⟨(vs.drop a).take (b -a),by
  rw [pB,pD]
  exact PySem.slicePick_run _ a b (by show b<=(vals vs).length;rw [eh];exact fZ.mp h.1.2.2) (fZ.mp h.1.2.1),λx hx=>xy (vd hx),h.2⟩
 |some (.ofNat z),some (.negSucc b),y,q,j,h=>absurd (ed h.1.1 h.1.2.1) (Int.not_le.mpr (Int.negSucc_lt_zero b))
theorem O0:∀{l u:Option Int} {vs:List SV} {st:St} {k:SV->St->Prop},Gr l u vs st k-> ∃a z:Nat,nN l u 1 (vs.length:Int)=(((a:Nat):Int),(z:Int))/\a<=z/\((((a:Nat):Int)==0)&&((z -a)==vs.length))=false/\gf st (.tup ((vs.drop a).take (z -a)) 0) k
 |none,some (.ofNat b),vs,y,q,h=>⟨0,b,OE (xq (iA.mp h.1.2)),da _,OL (iA.mp h.1.2),h.2⟩
 |some (.ofNat a),none,vs,y,q,h=>⟨a,vs.length,adjust_from _ _ (fZ.mp h.1.2),fZ.mp h.1.2,GK (fZ.mp h.1.1),by rw [vf (by rw [mh];exact cS _)];exact h.2⟩
 |some (.ofNat a),some (.ofNat b),vs,y,q,h=>⟨a,b,OD (fZ.mp h.1.2.1) (fZ.mp h.1.2.2),fZ.mp h.1.2.1,GK (fZ.mp h.1.1),h.2⟩
 |some (.ofNat y),some (.negSucc b),q,j,g,h=>absurd (ed (ed (by decide:(0:Int)<=1) h.1.1) h.1.2.1) (Int.not_le.mpr (Int.negSucc_lt_zero b))
theorem O1 {value:az} {lo hi:Option az} {ps:aW} {v:SV} {vl vu:aa} {l u:Option Int} {k:SV->St->Prop} {Q:aa->ak->Prop} (R:Rep w c st s) (hv:aX st.led v) (pl:l6 vl l) (pu:l6 vu u) (h:Gs l u v st k) (q:Kont w c st k Q):
  aC (aG PG w) c.A (vi value (.Slice lo hi none ps) v.val (.ref s.heap.objs.size)) Q E {s with heap:=s.heap.push {cls:=.type "slice",data:=.fields #[vl,vu,.none]}}:=by
 rcases vD h with⟨vs,e,hz,h⟩|⟨y,h⟩
 ·refine (n8 R hv e).elim λa H=> ?_
  refine (OZ h).elim λws W=> ?_
  rw [H.1]
  refine kba_turn (value':=.Name (aF "_") ⟨0,0,0,0⟩) (λj=>rfl) ?_
  refine kmk_slice R.fr R.nw H.2.1 pl pu (λD h' F' N' l=> ?_) rfl (λj=>rfl) (n9 (by show(vals vs).length<=_;rw [eh];exact hz))
  rw [W.1] at N'
  exact added (o:=.lst ws 0) R F' N' (λp hp=>cL (l p hp)) (λz hz=>H.2.2 z (W.2.1 z hz)) W.2.2 q
 ·refine aJ h λvs e z9=>z9.elim λhz h=> ?_
  obtain ⟨i,e',m,e1,y,y,ht,o1⟩:=jy R hv e
  refine (O0 h).elim λa W=>W.elim λz W=> ?_
  have sz:(vals vs).toArray.size=vs.length:=eh vs
  rw [e1]
  refine kba_turn (value':=.Name (aF "_") ⟨0,0,0,0⟩) (λj=>rfl) ?_
  refine OK R.fr R.nw ht pl pu (sz.symm▸W.1) W.2.1 (sz.symm▸W.2.2.1) (λD h' F' N' l=> ?_) rfl (λj=>rfl) (sz.symm▸n9 hz)
  exact added (o:=.tup ((vs.drop a).take (z -a)) 0) R F' (by rw [<-pD,<-pB] at N';exact N') (λp hp=>cL (l p hp)) (λz hz=>o1 z (xy (vd hz))) W.2.2.2 q
theorem O3 {n:Nat} {v o:SV} {u:af} {ao:St} {Q:Unit->ak->Prop} (R:Rep w c st s) (ho:aX st.led o) (hv:aX st.led v) (h:Ga n v o st=some ao)
  (k:∀s',Rep w c ao s'->Ext st.led ao.led->Q () s'):aC (aG PG w) c.A (setItem o.val (.int (.ofNat n) u) v.val) Q E s:=by
 refine cz h λi h1 h=> ?_
 refine cz h λe h2 h=> ?_
 refine cz h λl h3 h=> ?_
 refine gq h λq h=> ?_
 cases h
 refine cR q λq0 q=> ?_
 refine cR q λq1 q2=> ?_
 have e3:=kQ h3
 have ok:=R.ir i e h2
 rw [e3] at ok
 rw [gn h1 h2 ho]
 obtain ⟨U,hx,z⟩:=R.set (o:=.lst (l.1.set n v) l.2) h2 q0 (by rw [e3];rfl) rfl λy hy=>(List.mem_or_eq_of_mem_set hy).elim (λhy=>ok y hy) λe=>e▸hv
 rw [e3] at U
 exact ki_set R.fr R.nw (vQ n) (yv (dB q2)) (GO (x:=v) (dB q1)) U λh' F' N'=>k _ (z h' s.toks st.tk R.tk F' N') hx
theorem fA {e:az} {rest:List az} {env:cu} (h:isStar e=false):starEach (e::rest) env=(false,eD e env)::starEach rest env:=by
 cases e<;>first|rfl|cases h
theorem BD {e:az} {t:Option az} {n:Nat} {env:cu} (h:qT e=false):swapsWith e t n env=pure false:=by
 cases e<;>first|rfl|cases h
theorem vR {e t:az} {n:Nat} {env:cu} (h:qT e=false):swapsWithSole [t] e n env=pure false:=by
 unfold swapsWithSole
 exact BD h
theorem kS {e:az} {x:aa} {env:cu} (h:lE e=false):foldedSetIterable e env x=pure x:=by
 cases e<;>first|rfl|cases h
theorem cW {e:az} {r:List az} (n:noStar (e::r)=true):isStar e=false/\noStar r=true:=by
 refine cR n λa b=> ?_
 exact ⟨by simpa using a,b⟩
theorem iR {env:cu} {pos:aW}:∀{es:List az},noStar es=true->(backTo pos (starEach es env)).any (·.1)=false
 |[],z=>rfl
 |e::es,n=>by
  rw [fA (cW n).1]
  exact iR (cW n).2
theorem GT {env:cu} {pos:aW}:∀{es:List az},noStar es=true->(backTo pos (starEach es env)).all (λx=> !x.1)=true
 |[],z=>rfl
 |e::es,n=>by
  rw [fA (cW n).1]
  exact GT (cW n).2
theorem GU {t:az} {ts:List az} {env:cu} (h:isStar t=false):assignEach (t::ts) env=(false,assign t env)::assignEach ts env:=by cases t<;>first|rfl|cases h
theorem BG {env:cu}:∀{ts:List az},noStar ts=true->(assignEach ts env).length=ts.length/\(assignEach ts env).findIdx? (·.1)=none
 |[],z=>⟨rfl,rfl⟩
 |t::ts,n=>by
  obtain ⟨n1,n2⟩:=cW n
  obtain ⟨a,b⟩:=BG (env:=env) n2
  rw [GU n1]
  refine ⟨bW (· +1) a, ?_⟩
  rw [List.findIdx?_cons,b]
  rfl
theorem O4 {ts:List az} {k:Nat} {tp:aW} {e:az} {env:cu} (h:(Gh e&&(ej ts.length 2||ej ts.length 3))=false):swappedStores [.Tuple ts k tp] e env=pure none:=by
 cases e<;>first|rfl|skip
 obtain ⟨h2,h3⟩:=Bool.or_eq_false_iff.mp h
 unfold swappedStores
 have e1:(ts.length==2||ts.length==3)=false:=by
  rw [ia (Nat.ne_of_beq_eq_false h2),ia (Nat.ne_of_beq_eq_false h3)];rfl
 simp only [e1,Bool.not_false,Bool.true_or,↓reduceIte]
theorem GV {o:az} {x:ai} {pos:aW} {env:cu} (h:isAt o=true):eD (.Attribute o x pos) env=(do
  let v <-eD o env
  standAt pos.atName
  let r <-holding [v] (getAttr v x true)
  letTemporaryGo o v r
  pure r):=by
 cases o<;>first|rfl|cases h
theorem BH {o:az} {x:ai} {ap pos:aW} {args:List az} {env:cu} (h:isAt o=true) (n:noStar args=true) (hl:sH args.length 30=true) (hp:ej ap.endLine pos.line=true):eD (.Call (.Attribute o x ap) args [] pos) env=(do
   let ov <-eD o env
   standAt ap.atName
   let(f,first) <-holding [ov] (getMethod ov x (do return (<-importBound o env).getD true))
   callWith pos f first (backTo pos (starEach args env)) []):=by
 have e0:eD (.Call (.Attribute o x ap) args [] pos) env=(do
   let ov <-eD o env
   standAt ap.atName
   methodCall o x ap pos env ov args.length (backTo pos (starEach args env)) []):=by cases o<;>first|rfl|cases h
 have e1:methodCallForm args.length (backTo pos (starEach args env)) []=true:=by
  unfold methodCallForm
  rw [GT n]
  exact gW (dB hl)
 have e2:(ap.endLine==pos.line)=true:=ik.mpr (kD hp)
 rw [e0]
 unfold methodCall methodCallPos calleeOf
 rw [e1,e2]
 rfl
theorem BI {t e:az} {env:cu} (h:Bh t=true):swappedStores [t] e env=pure none:=by
 cases t<;>first|rfl|cases h
theorem BJ {t:az} {env:cu} (h:Bh t=true):assignEach [t] env=[(false,assign t env)]:=by
 cases t<;>first|rfl|cases h
theorem yx {M:Model} {A:bZ} {E:aa->ak->Prop} {t value:az} {pos:aW} {env:cu} {s:ak} {Q:eK->ak->Prop} (hs:swapsWithSole [t] value pos.line env=pure false) (hw:swappedStores [t] value env=pure none) (ht:assignEach [t] env=[(false,assign t env)])
  (h:aC M A (eD value env) (λv s₁=>aC M A (assign t env v) (λz=>Q .next) E s₁) E s):aC M A (exec (.Assign [t] value pos) env) Q E s:=by
 rw [exec_Assign,hs,hw,ht]
 exact bC (xn (bC (dR (bC (gx h (λv s₁ aS=>bC (dR (bC (gx aS (λz z x=>dR x) λz z x=>x)))) λz z x=>x)))))
end
end
section
open LCg
section
variable {prog:cP} {w:ah} {A:bZ} {E:aa->ak->Prop} {s:ak} {h₀:bA} {L:ac} {m:ai->Option aa} {env:cu}
def vT (ax:ac) (its:Array aa) (news:Led):Prop:=∃o,(ax,o)∈news/\o.cls= .type "tuple"/\ ∃n,o.data= .seq its n
theorem vT.tup {h:bA} {ax:ac} {its:Array aa} {news:Led} (x:vT ax its news) (N:aU h₀ L h news):h.IsTuple ax its:=by
 obtain ⟨o,hm,r⟩:=x
 exact ⟨o,(N _ hm).1,r⟩
def pE (prog:cP) (w:ah) (A:bZ) (h₀:bA) (L:ac) (m:ai->Option aa) (env:cu) (elt:az) (x:ai) (scope:bD) (cl:List (ai×ac)) (Fin:ak->List aa->Led->Prop) (xv:aa) (s₁:ak):Prop:=
 ∃ax its news,xv= .ref ax/\A.handled=none/\Fr h₀ L s₁.heap m/\aU h₀ L s₁.heap news/\vT ax its news/\its.size<=sizeLine/\
  ∀g,CompRest prog w A h₀ L m env elt x scope cl {s₁ with heap:=g} (vT ax its) (λi v=>its[i]? =some v) (Fin {s₁ with heap:=g}) its.size 0 [] news
theorem pE.of {elt:az} {x:ai} {scope:bD} {cl:List (ai×ac)} {Fin:ak->List aa->Led->Prop} {ax:ac} {its:Array aa} {k:Nat} {news:Led} {s₁:ak}
 (hh:A.handled=none) (F:Fr h₀ L s₁.heap m) (N:aU h₀ L s₁.heap news) (hm:(ax,({cls:=.type "tuple",data:=.seq its k}:av))∈news) (jx:its.size<=sizeLine)
 (h:∀g,CompRest prog w A h₀ L m env elt x scope cl {s₁ with heap:=g} (vT ax its) (λi v=>its[i]? =some v) (Fin {s₁ with heap:=g}) its.size 0 [] news):
 pE prog w A h₀ L m env elt x scope cl Fin (.ref ax) s₁:=⟨ax,its,news,rfl,hh,F,N,⟨_,hm,rfl,_,rfl⟩,jx,h⟩
theorem GW {elt iter:az} {x:ai} {px:aW} {scope:bD} {cl:List (ai×ac)} {pos:aW} {Q:aa->ak->Prop} (GX:Fr h₀ L s.heap m)
  (vU:closureFor scope env=pure cl) (nV:∀y∈scope.names,y.2≠ .cell) (oa:scope.kind= .function)
  (vV:∀y∈scope.names,y.2= .local->scope.names.lookup y.1=some .local) (hx:scope.names.lookup x=some .local)
  (h:aC (aG prog w) A (eD iter env) (pE prog w A h₀ L m env elt x scope cl (λgR=>FinE h₀ L m gR Q)) E s)
  (hs:∀x,foldedSetIterable iter env x=pure x:=by intro z;rfl):
  aC (aG prog w) A (eD (.ListComp elt [⟨.Name x px,iter,[],0⟩] scope pos) env) Q E s:=by
 rw [eval_ListComp]
 refine Ag (use:=none) rfl hs vU oa vV (gx h (λxv s₁ aS=> ?_) λj j e=>e)
 obtain ⟨ax,its,news,rfl,hh,F,N,S,jx,R⟩:=aS
 have hl:=S.tup N
 have iF:ax<s₁.heap.objs.size:=by obtain ⟨z,e,z⟩:=hl;exact fH e
 refine xo hl ?_
 have up:∀b o,s₁.heap.get? b=some o->(s₁.heap.push {cls:=.type "tuple_iterator",data:=.fields #[.ref ax,.int 0 0]}).get? b=some o:=λb o e=>gO _ e
 refine block_U (Walks.tuple hh s₁.heap.objs.size ax (cL iF) its) jx (λi h st=>by obtain ⟨o,e,z⟩:=st.1;exact ⟨o,e⟩)
  (λi h h' o nw st e e' k N' S'=>⟨by obtain ⟨o',q,r⟩:=st.1;rw [e] at q;cases q;exact ⟨o,e',r⟩,S'.tup N'⟩) nV oa hx ⟨⟨_,ja _ rfl,rfl,rfl⟩,S.tup (N.grown up)⟩ (λb hb=> ?_)
  (F.keeps up) (N.grown up) (cL F.ns.lt) (sL F) (λp hp=>cL (fH (N p hp).1)) S (R _) ?_
 ·show b<(s₁.heap.push _).objs.size
  rw [mo]
  rcases bj.mp hb with rfl|hb
  ·exact qv _
  ·rw [bN.mp hb];exact nE iF
 ·intro D C h tk m' ys q7 F' N' o1 hn BK O5 ra BL BM BN fin
  refine ⟨m',hn,λyy vW=>fin D yy tk (F'.change vW ra BK) (λp hp=> ?_) o1⟩
  refine ⟨vW.extBut _ _ ?_ (N' p hp).1,(N' p hp).2⟩
  rcases bj.mp hp with rfl|hp
  ·exact jb BM
  ·exact BN p hp
theorem GY {elt:az} {x:ai} {scope:bD} {cl:List (ai×ac)} {S:Led->Prop} {P:Nat->aa->Prop} {Fin:List aa->Led->Prop} {n:Nat} (Inv:Nat->List aa->Led->Prop)
  (step:∀i ys news,i<n->Inv i ys news-> ∀v I oI C oC D m₂ h tk (E':aa->ak->Prop),P i v->NsObj oC m₂->m₂ x=some v->Fr h₀ L h m->aU h₀ L h ((I,oI)::(C,oC)::(D,lst ys)::news)->Off3 I C D news->((@Ne Nat I C)/\(@Ne Nat I D)/\(@Ne Nat C D))->
   aC (aG prog w) A (eD elt (compEnvC scope cl C env)) (CompEnd h₀ L m {s with heap:=h,toks:=tk} I oI C oC D (lst ys) S (λy q7=>Inv (i+1) (ys++[y]) q7)) E' {s with heap:=h,toks:=tk})
  (fin:∀ys news,Inv n ys news->Fin ys news) (news:Led) (h0:Inv 0 [] news):CompRest prog w A h₀ L m env elt x scope cl s S P Fin n 0 [] news:=by
 have all:∀k i ys news,i+k=n->Inv i ys news->CompRest prog w A h₀ L m env elt x scope cl s S P Fin k i ys news:=by
  intro k
  induction k with
  |zero=>
   intro i ys news e hI
   have:i=n:=by omega
   subst this
   exact CompRest.zero (fin _ _ hI)
  |succ k ih=>
   intro i ys news e hI
   refine CompRest.succ ?_
   intro v I oI C oC D m₂ h tk E' hP hC hx F N off ne
   refine gx (step i ys news (by omega) hI v I oI C oC D m₂ h tk E' hP hC hx F N off ne) (λy gR hy=> ?_) λz z e=>e
   obtain ⟨h',bQ,nw,e1,F',N',o',S',r⟩:=hy
   exact ⟨h',bQ,nw,e1,F',N',o',S',ih (i+1) _ _ (by omega) r⟩
 exact all n 0 [] news (by omega) h0
end
end
section
section
variable {prog:cP} {w:ah} {A:bZ} {E:aa->ak->Prop} {s:ak} {env:cu} {h₀:bA} {target:az} {body:List bP} {Q:eK->ak->Prop}
def TurnEnd (h₀:bA) (L I:ac) (own:Led) (J:(ai->Option aa)->Led->Prop) (s₁:ak) (f:eK) (s':ak):Prop:=
 f= .next/\ ∃h' tk m₂ nw,s'={s₁ with heap:=h',toks:=tk}/\Fr h₀ L h' m₂/\aU h₀ L h' (own++nw)/\(∀p∈nw,p.1≠I)/\J m₂ nw
theorem TurnEnd.step {L I:ac} {own:Led} {J:(ai->Option aa)->Led->Prop} {s₁ s':ak} {f:eK} {Qr:aa->ak->Prop} {Qb:ak->Prop} (h:TurnEnd h₀ L I own J s₁ f s'):LoopStepV h₀ L [I] own J s₁ Qr Qb f s':=by
 obtain ⟨rfl,h',tk,m,nw,e,a,b,c,d⟩:=h
 exact LoopStepV.next ⟨rfl,h',tk,m,nw,e,a,b,λp hp q=>c p hp (bN.mp q),d⟩
theorem ty {o:av} {fp:List ac} {n:Nat} {P Md:Nat->aa->bA->Prop} {St:Nat->bA->Prop} {m₀:ai->Option aa} {news:Led} (J:Nat->(ai->Option aa)->Led->Prop)
  (F:Fr h₀ env.locals s.heap m₀) (N:aU h₀ env.locals s.heap news) (h0:J 0 m₀ news)
  (KT:KTurns prog w A target s.heap.objs.size (s.heap.objs.size::fp) [s.heap.objs.size] n P Md St) (hL:∀b∈fp,b≠env.locals) (z:St 0 (s.heap.push o))
  (live:∀i h,St i h-> ∃oI,h.get? s.heap.objs.size=some oI)
  (step:∀i v m₁ nw aS cC own,i<n->P i v aS->(∃oI,(s.heap.objs.size,oI)∈own)->(∀p∈own,p.1∈s.heap.objs.size::fp)->J i m₁ nw->(∀p∈nw,p.1≠s.heap.objs.size)->Fr h₀ env.locals aS m₁->aU h₀ env.locals aS (own++nw)->
   aC (aG prog w) A (assign target env v) (λy fK=>aC (aG prog w) A (d8 body env) (TurnEnd h₀ env.locals s.heap.objs.size own (J (i+1)) {s with heap:=aS,toks:=cC}) E fK) E {s with heap:=aS,toks:=cC})
  (fin:∀h' tk m' nw,Fr h₀ env.locals h' m'->aU h₀ env.locals h' nw->J n m' nw->Q .next {s with heap:=h',toks:=tk}):
  mc prog w A h₀ env target body Q E (.ref s.heap.objs.size) {s with heap:=s.heap.push o}:=
 have hs {b:ac} (p:b∈[s.heap.objs.size]):b=s.heap.objs.size:=bN.mp p
 have hS {p:ac×av} (q:p.1≠s.heap.objs.size):p.1∉[s.heap.objs.size]:=λe=>q (hs e)
 ⟨s.heap.objs.size,_,_,n,P,Md,St,m₀,news,J,rfl,KT,
  λp=>(bj.mp p).elim (λe=>cL F.ns.lt e) λp=>hL _ p rfl,
  λy p=>hs p▸sL F,λp hp=>hS (cL (fH (N p hp).1)),z,F.push _,
  λp hp=>⟨gO _ (N p hp).1,(N p hp).2⟩,h0,
  λi v m₁ nw aS cC own hi hP hJ O6 O7 y BO st rb vX=>
   (live _ _ st).elim λoI eI=>gx (step i v m₁ nw aS cC own hi hP ⟨oI,BO _ (.head _) (sL F) oI eI⟩ O7 hJ (λp hp e=>O6 p hp (e▸ .head _)) rb vX)
    (λy y vY=>gx vY (λy y O8=>O8.step) λy y e=>e) λy y e=>e,
  λh' tk m' nw F' N' y hJ=>fin h' tk m' nw F' N' hJ⟩
theorem yz {own:Led} {I d:ac} (h:∀p∈own,p.1∈[I,d]) (p:ac×av) (hp:p∈own):p.1=I\/p.1=d:=
 (bj.mp (h p hp)).imp_right bN.mp
end
end
section
section
variable {prog:cP} {w:ah} {A:bZ} {E:aa->ak->Prop} {s:ak} {env:cu} {h₀:bA} {target:az} {body:List bP} {Q:eK->ak->Prop}
theorem yA {ax:ac} {vs:Array aa} {n:Nat} {m₀:ai->Option aa} {news:Led} (J:Nat->(ai->Option aa)->Led->Prop)
  (hh:A.handled=none) (F:Fr h₀ env.locals s.heap m₀) (N:aU h₀ env.locals s.heap news) (hm:(ax,(⟨.type "list",none,.seq vs n,#[]⟩:av))∈news) (h0:J 0 m₀ news)
  (step:∀I i v m₁ nw aS cC own,vs[i]? =some v->(∃oI,(I,oI)∈own)->(∀p∈own,p.1=I\/p.1=ax)->J i m₁ nw->(∀p∈nw,p.1≠I)->Fr h₀ env.locals aS m₁->aU h₀ env.locals aS (own++nw)->
   aC (aG prog w) A (assign target env v) (λz fK=>aC (aG prog w) A (d8 body env) (TurnEnd h₀ env.locals I own (J (i+1)) {s with heap:=aS,toks:=cC}) E fK) E {s with heap:=aS,toks:=cC})
  (fin:∀h' tk m' nw,Fr h₀ env.locals h' m'->aU h₀ env.locals h' nw->J vs.size m' nw->Q .next {s with heap:=h',toks:=tk}):
  aC (aG prog w) A (pyIter (.ref ax)) (λit gR=>mc prog w A h₀ env target body Q E it gR) E s:=by
 have lI:=N _ hm
 have hl:s.heap.IsList ax vs:=⟨_,lI.1,rfl,n,rfl⟩
 exact wpAny_pyIter_list hl (ty J F N h0 (vo (Walks.list hh s.heap.objs.size ax (cL (fH lI.1)) vs) λi v s Q E st q=>letGo_listiter st.1 q)
  (λb hb=>bN.mp hb▸lI.2.1) ⟨⟨_,ja _ rfl,rfl,rfl⟩,hl.at λo e=>gO _ e⟩
  (λz z st=>st.1.imp λz e=>e.1) (λi v m₁ nw aS cC own z hP o f j u=>step _ i v m₁ nw aS cC own hP o (yz f) j u) fin)
theorem GZ {ax:ac} {vs:Array aa} {n:Nat} {m₀:ai->Option aa} {news:Led} (J:Nat->(ai->Option aa)->Led->Prop)
  (hh:A.handled=none) (F:Fr h₀ env.locals s.heap m₀) (N:aU h₀ env.locals s.heap news) (hm:(ax,(⟨.type "list",none,.seq vs n,#[]⟩:av))∈news) (h0:J 0 m₀ news)
  (step:∀I i v m₁ nw aS cC own,vs[i]? =some v->(∃oI,(I,oI)∈own)->J i m₁ nw->(∀p∈nw,p.1≠I)->Fr h₀ env.locals aS m₁->aU h₀ env.locals aS (own++nw)->
   aC (aG prog w) A (assign target env v) (λz fK=>aC (aG prog w) A (d8 body env) (TurnEnd h₀ env.locals I own (J (i+1)) {s with heap:=aS,toks:=cC}) E fK) E {s with heap:=aS,toks:=cC})
  (fin:∀h' tk m' nw,Fr h₀ env.locals h' m'->aU h₀ env.locals h' nw->J vs.size m' nw->Q .next {s with heap:=h',toks:=tk}):
  aC (aG prog w) A (pyIter (.ref ax)) (λit gR=>mc prog w A h₀ env target body Q E it gR) E s:=
 yA J hh F N hm h0 (λI i v m₁ nw aS cC own hP o z=>step I i v m₁ nw aS cC own hP o) fin
end
end
section
section
variable {prog:cP} {w:ah} {A:bZ} {E:aa->ak->Prop} {s:ak} {env:cu} {h₀:bA} {target:az} {body:List bP} {Q:eK->ak->Prop}
theorem G0 {ax:ac} {vs:Array aa} {m₀:ai->Option aa} {news:Led} (J:Nat->(ai->Option aa)->Led->Prop)
  (hh:A.handled=none) (F:Fr h₀ env.locals s.heap m₀) (N:aU h₀ env.locals s.heap news) (hl:s.heap.IsTuple ax vs) (BP:ax≠env.locals) (h0:J 0 m₀ news)
  (step:∀I i v m₁ nw aS cC own,vs[i]? =some v->(∃oI,(I,oI)∈own)->(∀p∈own,p.1=I\/p.1=ax)->J i m₁ nw->(∀p∈nw,p.1≠I)->Fr h₀ env.locals aS m₁->aU h₀ env.locals aS (own++nw)->
   aC (aG prog w) A (assign target env v) (λz fK=>aC (aG prog w) A (d8 body env) (TurnEnd h₀ env.locals I own (J (i+1)) {s with heap:=aS,toks:=cC}) E fK) E {s with heap:=aS,toks:=cC})
  (fin:∀h' tk m' nw,Fr h₀ env.locals h' m'->aU h₀ env.locals h' nw->J vs.size m' nw->Q .next {s with heap:=h',toks:=tk}):
  aC (aG prog w) A (pyIter (.ref ax)) (λit gR=>mc prog w A h₀ env target body Q E it gR) E s:=by
 have bI:ax≠s.heap.objs.size:=hl.elim λz e=>cL (fH e.1)
 exact xo hl (ty J F N h0 (vo (Walks.tuple hh s.heap.objs.size ax bI vs) λi v s Q E st q=>letGo_tupleiter st.1 q)
  (λb hb=>bN.mp hb▸BP) ⟨⟨_,ja _ rfl,rfl,rfl⟩,hl.at λo e=>gO _ e⟩
  (λz z st=>st.1.imp λz e=>e.1) (λi v m₁ nw aS cC own z hP o f j u=>step _ i v m₁ nw aS cC own hP o (yz f) j u) fin)
end
end
section
def tA (l:List LE):Option SV->Prop
 |none=>True
 |some v=>aX l v
noncomputable def BQ:Option SV->eK
 |none=>.next
 |some v=>.ret v.val
noncomputable def BR:Option SV->aa
 |none=>.none
 |some v=>v.val
structure is (w:ah) (NN:Led) (D:Nat) (r:Ev):Prop where
 ev:∀{c:Cx} {b:Nat} {e:az} {st:St} {k:SV->St->Prop} {s:ak} {Q E:aa->ak->Prop},c.Ok w NN D b->Rep w c st s->r.ev c.es b e st k->Kont w c st k Q->aC (aG PG w) c.A (eD e c.ee) Q E s
 ip:∀{c:Cx} {b:Nat} {e:az} {st:St} {k:Bool->St->Prop} {s:ak} {Q:Bool->ak->Prop} {E:aa->ak->Prop},c.Ok w NN D b->Rep w c st s->r.ip c.es b e st k->(∀v ao s',Nx w c st ao s'->k v ao->Q v s')->aC (aG PG w) c.A (isTrue e c.ee (eD e c.ee)) Q E s
 fh:∀{c:Cx} {b:Nat} {l:List bP} {st:St} {k:Option SV->St->Prop} {s:ak} {Q:eK->ak->Prop} {E:aa->ak->Prop},c.Ok w NN D b->c.Fn->Rep w c st s->r.fh c.es b l st k->(∀f ao s',Rep w c ao s'->Ext st.led ao.led->tA ao.led f->k f ao->Q (BQ f) s')->aC (aG PG w) c.A (d8 l c.ee) Q E s
 call:∀{c:Cx} {b:Nat} {f:aa} {vs:List SV} {st:St} {k:SV->St->Prop} {s:ak} {Q E:aa->ak->Prop},c.Ok w NN D b->Rep w c st s->(∀v∈vs,aX st.led v)->r.call b f vs st k->Kont w c st k Q->aC (aG PG w) c.A (call f (vals vs)) Q E s
def eG (w:ah) (NN:Led) (D:Nat) (f:Nat) (σ:Spec):Prop:=∀(c:Cx) (vs:List SV) (st:St) (k:SV->St->Prop) (s:ak) (Q E:aa->ak->Prop),c.Ok w NN D 0->Rep w c st s->(∀v∈vs,aX st.led v)->σ vs st k->Kont w c st k Q->aC (aG PG w) c.A (call (.ref f) (vals vs)) Q E s
def mG (w:ah) (NN:Led) (D:Nat) (G:Cfg):Prop:=∀{c:Cx} {b:Nat} {st:St} {s:ak} {v:SV} {p:aW} {f:Bool},c.Ok w NN D b->Rep w c st s->aX st.led v-> ∀{κ:bM->Prop},G.rd p f st v κ-> ∃d,9<=D/\(∃as,Reads s.heap v.val d as)/\iC d=true/\κ d
def fj (w:ah) (NN:Led) (D:Nat) (x:XS):Prop:=∀{r:Ev},is w NN D r-> ∀{c:Cx} {b:Nat} {e:az} {st:St} {k:SV->St->Prop} {s:ak} {Q E:aa->ak->Prop},c.Ok w NN D b->Rep w c st s->x r c.es b e st k->Kont w c st k Q->aC (aG PG w) c.A (eD e c.ee) Q E s
def jz (w:ah) (NN:Led) (D:Nat) (x:SS):Prop:=∀{r:Ev},is w NN D r-> ∀{c:Cx} {b:Nat} {sm:bP} {st:St} {nx:St->Prop} {s:ak} {Q:eK->ak->Prop} {E:aa->ak->Prop},c.Ok w NN D b->c.Fn->Rep w c st s->x r c.es b sm st nx->(∀ao s',Rep w c ao s'->Ext st.led ao.led->nx ao->Q .next s')->aC (aG PG w) c.A (exec sm c.ee) Q E s
structure jh (w:ah) (NN:Led) (D:Nat) (G:Cfg):Prop where
 rd:mG w NN D G
 ss:∀s x,vH G.ss s=some x->jz w NN D x
 xs:∀p x,qV G.xs p=some x->fj w NN D x
theorem Cfg.gI {w:ah} {NN:Led} {D:Nat}:jh w NN D Cfg.none:=⟨λz z z z h=>h.elim,λz z e=>(nomatch e),λz z e=>nomatch e⟩
section
variable {w:ah} {NN:Led} {D:Nat} {r:Ev} (I:is w NN D r)
theorem tC {G:Cfg} {c:Cx} {b:Nat} {p:aW} {op:lv} {x y:SV} {st:St} {s:ak} {k:Bool->Prop} {Q E:aa->ak->Prop} (hG:mG w NN D G) (O:c.Ok w NN D b) (R:Rep w c st s) (hx:aX st.led x) (hy:aX st.led y) (h:yg G p op x y st k) (q:∀d,k d->Q (.bool d) s):
  aC (aG PG w) c.A (compareOp op x.val y.val) Q E s:=by
 refine eg h (λd e h=> ?_) λj h=> ?_
 ·exact OP R hy e (q d h)
 ·have u9:9<=D->c.A.units+64<cLine:=λh9=>gZ (by omega) O.hu
  cases op with
  |Eq=>
   obtain ⟨d,h9,⟨as,r1⟩,s1,h⟩:=hG O R hx h
   obtain ⟨e,z,⟨bs,r2⟩,s2,h⟩:=hG O R hy h
   exact eq_dataH r1 r2 s1 s2 (u9 h9) (q _ h)
  |NotEq=>
   obtain ⟨d,h9,⟨as,r1⟩,s1,h⟩:=hG O R hx h
   obtain ⟨e,z,⟨bs,r2⟩,s2,h⟩:=hG O R hy h
   exact ne_dataH r1 r2 s1 s2 (u9 h9) (q _ h)
  |_=>exact h.elim
theorem Kont.after {c:Cx} {st aD:St} {s1:ak} {k:SV->St->Prop} {Q:aa->ak->Prop} (N:Nx w c st aD s1) (q:Kont w c st k Q):Kont w c aD k Q:=λv aE s2 N2 ok hk=>q v aE s2 (N.trans N2) ok hk
theorem vZ {c:Cx} {st:St} {s:ak} (R:Rep w c st s) (n:Nat):Nx w c st (st.tick n) {s with toks:=s.toks+n}:=⟨R.toks n,Ext.refl _,rfl⟩
include I
theorem pF {c:Cx} {b:Nat} {pos:aW} {E:aa->ak->Prop} (O:c.Ok w NN D b):∀{es:List az} {st:St} {s:ak} {k:List SV->St->Prop} {Q:List aa->ak->Prop},noStar es=true->Rep w c st s->lF r c.es b es st k->
  (∀vs ao s',Nx w c st ao s'->(∀v∈vs,aX ao.led v)->k vs ao->Q (vals vs) s')->aC (aG PG w) c.A (spliced (backTo pos (starEach es c.ee))) Q E s:=by
 intro es
 induction es with
 |nil=>intro st s k Q z R h q;exact nM (q [] st s (Nx.refl R) (λy h=>nomatch h) h)
 |cons e es ih=>
  intro st s k Q n R h q
  refine kG (I.ev O R h λv ao s' N ok hk=> ?_) (fA (cW n).1)
  refine ih (cW n).2 N.rep hk λvs aE s2 N2 cI aV=>q (v::vs) aE s2 (N.trans N2) (λu hu=> ?_) aV
  rcases bj.mp hu with rfl|hu
  ·exact ok.ext N2.ext
  ·exact cI u hu
theorem G1 {c:Cx} {b:Nat} {pos:aW} {f:aa} {fs:List SV} {args:List az} {st:St} {k:SV->St->Prop} {s:ak} {Q E:aa->ak->Prop} (O:c.Ok w NN D b) (R:Rep w c st s) (hf:∀v∈fs,aX st.led v) (hk:keepIn (KK w.params) f=true) (n:noStar args=true)
  (h:lF r c.es b args st λvs st=>r.call b f (fs++vs) st k) (q:Kont w c st k Q):aC (aG PG w) c.A (callWith pos f (vals fs) (backTo pos (starEach args c.ee)) []) Q E s:=by
 cases args with
 |nil=>
  have h:r.call b f (fs++[]) st k:=h
  refine callWith_K0 (O.X.keeps R.fr.keep) hk ?_
  rw [iy] at h⊢
  exact I.call O R hf h q
 |cons e es=>
  refine callWith_K O.X hk (pF I O n R h λvs ao s' N ok hc=>⟨O.X.keeps N.rep.fr.keep, ?_⟩) (fA (cW n).1) (iR (cW n).2)
  rw [<-kR]
  exact I.call O N.rep (λv hv=>(aM.mp hv).elim (λhv=>(hf v hv).ext N.ext) (ok v)) hc (q.after N)
theorem O9 {c:Cx} {b:Nat} {f:az} {args:List az} {pos:aW} {st:St} {k:SV->St->Prop} {s:ak} {Q E:aa->ak->Prop} (O:c.Ok w NN D b) (R:Rep w c st s) (n:noStar args=true) (h:Go (KK w.params) r c.es b f args pos st k)
  (q:Kont w c st k Q):aC (aG PG w) c.A (eD (.Call f args [] pos) c.ee) Q E s:=by
 cases f with
 |Name x p=>
  refine kH (I.ev O R h λv ao s' N ok hk=> ?_)
  cases e:keepIn (KK w.params) v.val with
  |true=>
   rw [e] at hk
   exact G1 I (fs:=[]) O N.rep (λz h=>by cases h) e n hk (q.after N)
  |false=>
   rw [e] at hk
   refine eg hk (λT e1 hk=> ?_) λz hk=> ?_
   ·refine bv hk λe2 hk=> ?_
    rw [kL e1]
    cases args with
    |nil=>cases e2
    |cons e es=>exact nO (pF I O n N.rep hk λvs aE s2 N2 cI hc=>I.call O N2.rep cI hc (q.after (N.trans N2))) (fA (cW n).1) (iR (cW n).2)
   ·refine aJ hk λT e1 hk=> ?_
    refine bv hk λe2 hk=> ?_
    rw [Bc e1]
    cases args with
    |nil=>cases e2
    |cons e es=>exact callWith_builtin1 (pF I O n N.rep hk λvs aE s2 N2 cI hc=>I.call O N2.rep cI hc (q.after (N.trans N2))) (fA (cW n).1) (iR (cW n).2)
 |Attribute o x ap=>
  refine bv h λh1 h=> ?_
  refine cR h1 λh1 h2=> ?_
  refine cR h2 λh2 h3=> ?_
  refine MethodCall_ (I.ev O R h λv ao s' N ok hk=> ?_) (BH h1 n h2 h3)
  refine aJ hk λf e1 hk=> ?_
  refine bv hk λe2 hk=> ?_
  exact ON O N.rep ok e1 (G1 I (fs:=[v]) O N.rep (λu hu=>by rw [bN.mp hu];exact ok) e2 n hk (q.after N))
 |_=>exact h.elim
omit I in
theorem fn {b:Bool} (h:(!b)=true):b=false:=by cases b<;>first|rfl|cases h
theorem Pa {G:Cfg} (hG:mG w NN D G) {H:Hint} {c:Cx} {b:Nat} {l:az} {ops:List lv} {rs:List az} {pos:aW} {st:St} {k:Bool->St->Prop} {s:ak} {Q E:aa->ak->Prop} (O:c.Ok w NN D b) (R:Rep w c st s) (h:yh G r c.es b H l ops rs pos st k)
  (q:∀v ao s',Nx w c st ao s'->k v ao->Q (.bool v) s'):aC (aG PG w) c.A (eD (.Compare l ops rs pos) c.ee) Q E s:=by
 cases ops with|nil=>exact sQ h|cons op ops=> ?_
 cases rs with|nil=>exact sQ h|cons e2 rs=> ?_
 cases ops with
 |nil=>
  refine bv h λh1 h=>cR h1 λh2 h1=> ?_
  rw [pb.mp h2]
  refine wpAny_Compare1 (I.ev O R h λv ao s' N ok hk=>I.ev O N.rep hk λv2 aE s2 N2 cI aV=> ?_) (fn h1)
  exact tC hG O N2.rep (ok.ext N2.ext) cI aV λd hd=>q _ _ _ (N.trans N2) (qS hd)
 |cons yi ops=>
  refine aJ h λe3 z h=>bv h λh1 h=>cR h1 λh2 h1=> ?_
  rw [e3.2,pb.mp h2]
  refine Compare_chain (I.ev O R h λv ao s' N ok hk=>chain_link (I.ev O N.rep hk λv2 aE s2 N2 cI aV=> ?_)) (fn h1)
  refine tC hG O N2.rep (ok.ext N2.ext) cI aV λd hd=>lw ?_
  have aV:=qS hd
  cases d with
  |true=>
   refine chain_last (I.ev O N2.rep aV λv3 gh s3 N3 mH dA=> ?_)
   exact tC hG O N3.rep (cI.ext N3.ext) mH dA λd hd=>q _ _ _ ((N.trans N2).trans N3) (qS hd)
  |false=>exact q false _ _ (N.trans N2) aV
theorem Pb {G:Cfg} (hG:mG w NN D G) {H:Hint} {c:Cx} {b:Nat} {l:az} {ops:List lv} {rs:List az} {pos:aW} {st:St} {k:Bool->St->Prop} {s:ak} {Q:Bool->ak->Prop} {E:aa->ak->Prop} {wh:Sem aa} (O:c.Ok w NN D b) (R:Rep w c st s) (h:yh G r c.es b H l ops rs pos st k)
  (q:∀v ao s',Nx w c st ao s'->k v ao->Q v s'):aC (aG PG w) c.A (isTrue (.Compare l ops rs pos) c.ee wh) Q E s:=by
 cases ops with|nil=>exact sQ h|cons op ops=> ?_
 cases rs with|nil=>exact sQ h|cons e2 rs=> ?_
 cases ops with
 |nil=>
  refine bv h λh1 h=>cR h1 λh2 h1=> ?_
  rw [pb.mp h2]
  refine wpAny_isTrue_Compare1 (I.ev O R h λv ao s' N ok hk=>I.ev O N.rep hk λv2 aE s2 N2 cI aV=> ?_) (fn h1)
  exact tC hG O N2.rep (ok.ext N2.ext) cI aV λd hd=>lw (q _ _ _ (N.trans N2) (qS hd))
 |cons yi ops=>
  refine aJ h λe3 z h=>bv h λh1 h=>cR h1 λh2 h1=> ?_
  rw [e3.2,pb.mp h2]
  refine isTrue_chain (I.ev O R h λv ao s' N ok hk=>test_link (I.ev O N.rep hk λv2 aE s2 N2 cI aV=> ?_)) (fn h1)
  refine tC hG O N2.rep (ok.ext N2.ext) cI aV λd hd=>lw ?_
  have aV:=qS hd
  cases d with
  |true=>
   refine test_last (I.ev O N2.rep aV λv3 gh s3 N3 mH dA=> ?_)
   exact tC hG O N3.rep (cI.ext N3.ext) mH dA λd hd=>lw (q _ _ _ ((N.trans N2).trans N3) (qS hd))
  |false=>exact q false _ _ (N.trans N2) aV
omit I in
theorem Pc {c:Cx} {b:Nat} {co:Const} {i:Nat} {pos:aW} {st:St} {k:SV->St->Prop} {s:ak} {Q E:aa->ak->Prop} (R:Rep w c st s) (h:Gn co st k) (q:Kont w c st k Q):aC (aG PG w) c.A (eD (.Constant co i pos) c.ee) Q E s:=by
 cases co with
 |int i=>
  refine wpAny_Constant_int ?_
  have:=q (.lit _) _ _ (vZ R 1) trivial h
  rw [<-R.tk] at this
  exact this
 |none=>exact wpAny_Constant_none (q (.lit .none) _ _ (Nx.refl R) trivial h)
 |bool d=>exact wpAny_Constant_bool (q (.lit (.bool d)) _ _ (Nx.refl R) trivial h)
 |str x=>
  refine wpAny_Constant_str ?_
  have:=q (.lit _) _ _ (vZ R 1) trivial h
  rw [<-R.tk] at this
  exact this
 |_=>exact h.elim
omit I in
theorem Pd {c:Cx} {op:UnaryOp} {v:SV} {st:St} {k:SV->St->Prop} {s:ak} {Q E:aa->ak->Prop} (R:Rep w c st s) (h:Gp op v st k) (q:Kont w c st k Q):aC (aG PG w) c.A (unaryOp op v.val) Q E s:=by
 cases op with
 |USub=>
  refine aJ h λn e1 h=> ?_
  refine (eS e1).elim λt e1=> ?_
  rw [e1]
  refine neg_int ?_
  have:=q (.lit _) _ _ (vZ R 1) trivial h
  rw [<-R.tk] at this
  exact this
 |Not=>
  refine aJ h λn e1 h=> ?_
  rw [tf e1]
  exact not_of (lw (q (.lit _) _ _ (Nx.refl R) trivial h))
 |_=>exact h.elim
omit I in
theorem Pe {c:Cx} {vs:List SV} {st:St} {k:SV->St->Prop} {s:ak} {Q E:aa->ak->Prop} (R:Rep w c st s) (hv:∀v∈vs,aX st.led v) (hz:gH vs.length 100=true) (h:gf st (.tup vs 0) k) (q:Kont w c st k Q):aC (aG PG w) c.A (newTuple (vals vs)) Q E s:=
 kup_newTuple R.fr R.nw (λz z F' N' l=>added (o:=.tup vs 0) R F' N' (λp hp=>cL (l p hp)) hv h q) (by rw [eh];exact vO hz)
omit I in
theorem Pf {c:Cx} {vs:List SV} {st:St} {k:SV->St->Prop} {s:ak} {Q E:aa->ak->Prop} (R:Rep w c st s) (hv:∀v∈vs,aX st.led v) (hz:gH vs.length 100=true) (h:gf st (.lst vs 0) k) (q:Kont w c st k Q):aC (aG PG w) c.A (newList (vals vs)) Q E s:=
 newList_K R.fr R.nw (λz z F' N' l=>added (o:=.lst vs 0) R F' N' (λp hp=>cL (l p hp)) hv h q) (by rw [eh];exact vO hz)
omit I in
theorem Pg {env:cu} {n:ai} {a:ac} (h:env.cells.lookup n=some a):cellOf env n=pure a:=by
 unfold cellOf
 rw [h]
omit I in
theorem BS {env:cu} {sc:bD} (h:∀y∈sc.names,y.2= .free-> ∃a,env.cells.lookup y.1=some a):∃cl,closureFor sc env=pure cl/\ ∀y∈sc.names,y.2= .free->cl.lookup y.1=env.cells.lookup y.1:=by
 have key:∀(l:List (ai×jI)) (cs:List (ai×ac)),(∀y∈l,y.2= .free-> ∃a,env.cells.lookup y.1=some a)->(∀n a,cs.lookup n=some a->env.cells.lookup n=some a)->
   ∃cl,(forIn (m:=Sem) l cs λx r=>if(x.2==AI)=true then(do let a <-cellOf env x.1;pure (xE ((x.1,a)::r))) else pure (xE r))=pure cl/\
    (∀n a,cl.lookup n=some a->env.cells.lookup n=some a)/\ ∀n,((∃y∈l,y.2= .free/\y.1=n)\/(cs.lookup n).isSome=true)->(cl.lookup n).isSome=true:=by
  intro l
  induction l with
  |nil=>exactλcs g h2=>⟨cs,rfl,h2,λn h=>h.elim (λ⟨j,h,u⟩=>nomatch h) id⟩
  |cons x l ih=>
   intro cs h1 h2
   have hr:=λy hy=>h1 y (.tail _ hy)
   rw [List.forIn_cons]
   by_cases q:x.2= .free
   ·obtain ⟨a,ha⟩:=h1 x (.head _) q
    rw [if_pos (ik.mpr q),Pg ha]
    obtain ⟨cl,c1,c2,c3⟩:=ih ((x.1,a)::cs) hr λn b hb=>by
     rw [kE] at hb
     cases z:n==x.1 with
     |true=>rw [z] at hb;cases hb;rw [ik.mp z];exact ha
     |false=>rw [z] at hb;exact h2 n b hb
    refine ⟨cl,c1,c2,λn hn=>c3 n ?_⟩
    rw [kE]
    cases z:n==x.1 with
    |true=>exact .inr rfl
    |false=>
     refine hn.imp (λ⟨y,hy,e,e2⟩=>⟨y,(bj.mp hy).elim (λe3=> ?_) id,e,e2⟩) id
     rw [<-e2,e3,beq_self_eq_true] at z;cases z
   ·rw [d7 λz=>q (ik.mp z)]
    obtain ⟨cl,c1,c2,c3⟩:=ih cs hr h2
    exact ⟨cl,c1,c2,λn hn=>c3 n (hn.imp (λ⟨y,hy,e,e2⟩=>⟨y,(bj.mp hy).elim (λe3=>absurd (e3▸e) q) id,e,e2⟩) id)⟩
 obtain ⟨cl,c1,c2,c3⟩:=key sc.names [] h λg g h=>nomatch h
 refine ⟨cl,by unfold closureFor;simp only [c1,pure_bind],λy hy e=> ?_⟩
 obtain ⟨a,ha⟩:=AE.mp (c3 y.1 (.inl ⟨y,hy,e,rfl⟩))
 exact ha.trans (c2 _ _ ha).symm
omit I in
theorem G2 {g:ai->jI->jI} {x:ai}:∀{l:List (ai×jI)} {k:jI},l.lookup x=some k->(l.map λp=>(p.1,g p.1 p.2)).lookup x=some (g x k)
 |(n,k')::l,k,h=>by
  rw [kE] at h
  show nJ x ((n,g n k')::l.map _)=_
  rw [kE]
  cases z:x==n with
  |true=>rw [z] at h;cases h;rw [ik.mp z]
  |false=>rw [z] at h;exact G2 h
omit I in
theorem Ph {env:cu} {sc:bD} {cl:List (ai×ac)} {C:ac} (x:ai) (k:jI) (h:sc.names.lookup x=some k):(compEnvC sc cl C env).kindOf x=some k\/(k= .free/\(compEnvC sc cl C env).kindOf x=some .cell):=by
 generalize hg:(λ(n:ai) (k:jI)=>if(k==AI&&env.scope.kind== .function&&env.kindOf n==some .cell)=true then NameKind.cell else k)=g
 have e:(relabel sc env).names=sc.names.map λp=>(p.1,g p.1 p.2):=
  List.map_congr_left λp z=>by
   subst hg
   show(if _ then _ else _)=(p.1,if _ then _ else _)
   split<;>rfl
 have e2:(compEnvC sc cl C env).kindOf x=some (g x k):=by
  show(relabel sc env).names.lookup x=_
  rw [e]
  exact G2 h
 rw [e2]
 subst hg
 by_cases q:(k==AI&&env.scope.kind== .function&&env.kindOf x==some .cell)=true
 ·exact .inr ⟨ik.mp (cy (cy q).1).1,bW some (if_pos q)⟩
 ·exact .inl (bW some (d7 q))
omit I in
theorem re {D:ac}:∀{l:Led},LCg.Off1 D l-> ∀p∈l,p.1≠D
 |[],z,y,h=>nomatch h
 |z::y,x,p,h=>by
  rcases bj.mp h with rfl|h
  ·exact x.1
  ·exact re x.2 p h
structure mI (cs:bD) (x0:ai) (sc:bD):Prop where
 k:sc.kind= .function
 x:sc.names.lookup x0=some .local
 c:∀y∈sc.names,y.2≠ .cell
 f:∀y∈sc.names,y.2= .free->cs.names.lookup y.1=some .cell\/cs.names.lookup y.1=some .free
 l:∀y∈sc.names,y.2= .local->sc.names.lookup y.1=some .local
 o:∀y∈sc.names,y.2= .local->y.1=x0\/y.1=".0"
omit I in
theorem BU {p:Prop} [Decidable p] {b:Bool} (h:(!decide p||b)=true) (hp:p):b=true:=by
 rw [gW hp] at h
 exact h
omit I in
theorem og {cs:bD} {x:ai} {sc:bD} (h:pw cs x sc=true):mI cs x sc:=by
 refine cR h λh1 h2=> ?_
 refine cR h2 λh2 h3=> ?_
 have h3:=nK.mp h3
 exact ⟨cJ h1,cJ h2,λy hy=>cJ (cy (h3 y hy)).1,λy hy e=>((sE _ _).mp (BU (cy (cy (h3 y hy)).2).1 e)).imp ik.mp ik.mp,
  λy hy e=>cJ (cy (BU (cy (cy (h3 y hy)).2).2 e)).1,λy hy e=>((sE _ _).mp (cy (BU (cy (cy (h3 y hy)).2).2 e)).2).imp cJ cJ⟩
omit I in
theorem mD.hide {led:List LE} {oth news eY q:Led} (R:mD w led oth news eY) (h:∀p∈bo w.params led++oth,∀r∈q,r.1≠p.1):mD w led oth news (q++eY):=
 ⟨R.ap,λi e he hf p hp=>(aM.mp hp).elim (λhp=>h _ (aq _ (gF he)) p hp) λhp=>R.hd i e he hf p hp,R.vw,λp hp r hr=>(aM.mp hr).elim (λhr=>(aM.mp hr).elim (λhr=>h p (ay _ hp) r hr) λhr=>R.oo p hp r (aq _ hr)) λhr=>R.oo p hp r (ay _ hr),R.ir⟩
omit I in
theorem mD.tE {led:List LE} {oth news eY q:Led} (R:mD w led oth news (q++eY)):mD w led oth news eY:=
 ⟨R.ap,λi e he hf p hp=>R.hd i e he hf p (ay _ hp),R.vw,λp hp r hr=>R.oo p hp r ((aM.mp hr).elim (λhr=>aq _ (ay _ hr)) λhr=>ay _ hr),R.ir⟩
omit I in
theorem mD.G3 {led:List LE} {oth news eY q:Led} (R:mD w led oth news (q++eY)) (h:∀p∈eY++news,∀r∈q,r.1≠p.1):∀p∈bo w.params led++(oth++(eY++news)),∀r∈q,r.1≠p.1:=λp hp r hr=>by
 have on:∀p∈oth++news,r.1≠p.1:=λp hp=>(aM.mp hp).elim (λhp=>R.oo p hp r (aq _ (aq _ hr))) λhp=>h p (ay _ hp) r hr
 rcases aM.mp hp with hp|hp
 ·obtain ⟨i,e,he,rfl⟩:=ki hp
  cases hf:e.f with
  |true=>exact R.hd i e he hf r (aq _ hr)
  |false=>exact on _ (R.vw i e he hf)
 ·rcases aM.mp hp with hp|hp
  ·exact on p (aq _ hp)
  ·exact h p hp r hr
omit I in
theorem pG {α:Type} {A B q H N:List α} {p:α}:p∈A++(B++((q++H)++N))↔p∈q\/p∈A++(B++(H++N)):=by
 simp only [aM]
 exact ⟨λh=>h.elim (λh=>.inr (.inl h)) λh=>h.elim (λh=>.inr (.inr (.inl h))) λh=>h.elim (λh=>h.imp id λh=>.inr (.inr (.inl h))) λh=>.inr (.inr (.inr (.inr h))),
  λh=>h.elim (λh=>.inr (.inr (.inl (.inl h)))) λh=>h.imp id λh=>h.imp id λh=>h.imp .inr id⟩
noncomputable def Cx.elem (c:Cx) (q:Led) (sc:bD) (cl:List (ai×ac)) (C:ac) (l:List (ai×SV)) (x:ai) (v:SV):Cx:=
 {c with eY:=q++c.eY,fm:=λz=>c.fm l,jv:=λl'=>l'=(x,v)::l,ee:=compEnvC sc cl C c.ee,es:=sc}
omit I in
theorem Cx.Ok.elem {c:Cx} {b:Nat} {q:Led} {sc:bD} {cl:List (ai×ac)} {C:ac} {l:List (ai×SV)} {x:ai} {v:SV} {oC:av} {m₂:ai->Option aa} (O:c.Ok w NN D b) (K:mI c.es x sc) (eb:∀y∈sc.names,y.2= .free->cl.lookup y.1=c.ee.cells.lookup y.1) (hl:c.jv l)
  (hC:LCg.NsObj oC m₂) (hx:m₂ x=some v.val) (hm:(C,oC)∈q):(c.elem q sc cl C l x v).Ok w NN D b:=by
 refine ⟨O.hn,O.B,O.X,O.T,O.hh,O.hA,O.hk,O.hd,O.hu,K.k,O.hg,Ph,λ{y u st s} R h0 hy hf=> ?_,λy hy=> ?_⟩
 ·have e:=(K.o _ (mem_of_lookup hy) rfl).resolve_right h0
  subst e
  have e:findF y ((y,v)::l)=some u:=(show st.loc=_ from R.lc)▸hf
  have e2:(match y==y with|true=>some v|false=>findF y l)=some u:=e
  rw [beq_self_eq_true] at e2
  exact ⟨m₂,hC.ns (R.nw _ (mE (aq _ hm))).1,hx.trans (bW (Option.map SV.val) e2)⟩
 ·have hy:sc.names.lookup y=some .free:=hy.resolve_left λh=>K.c _ (mem_of_lookup h) rfl
  have hm:=mem_of_lookup hy
  obtain ⟨a,o,c1,c2,c3⟩:=O.ce y (K.f _ hm rfl)
  refine ⟨a,o,(eb _ hm rfl).trans c1,ay _ c2,λl' u e hf=>c3 l u hl ?_⟩
  rw [show l'=(x,v)::l from e] at hf
  have hf:(match y==x with|true=>some v|false=>findF y l)=some u:=hf
  have ne:y≠x:=λe=>by
   rw [e,K.x] at hy;cases hy
  rwa [ia ne] at hf
theorem Pi {c:Cx} {b:Nat} {elt:az} {x:ai} {sc:bD} {cl:List (ai×ac)} {st:St} {s:ak} {v:SV} {k:SV->St->Prop} {I' C Da:ac} {oI oC oD:av} {m₂:ai->Option aa} {h':bA} {tk:af} {S:Led->Prop} {G4:aa->Led->Prop} {E:aa->ak->Prop}
  (O:c.Ok w NN D b) (K:mI c.es x sc) (eb:∀y∈sc.names,y.2= .free->cl.lookup y.1=c.ee.cells.lookup y.1) (hs:s={c.en with heap:=s.heap,toks:=s.toks}) (R:fS w c st) (hv:aX st.led v) (hC:LCg.NsObj oC m₂) (hx:m₂ x=some v.val)
  (F':Fr c.h₀ c.L h' (c.fm st.loc)) (N':aU c.h₀ c.L h' ((I',oI)::(C,oC)::(Da,oD)::all w c st)) (off:∀p∈all w c st,p.1≠I'/\p.1≠C/\p.1≠Da) (h:r.ev sc b elt {st with loc:=(x,v)::st.loc,tk:=tk} k)
  (q:∀y ao,fS w c {ao with loc:=st.loc}->Ext st.led ao.led->aX ao.led y->k y ao->S (all w c {ao with loc:=st.loc})/\G4 y.val (all w c {ao with loc:=st.loc})):
  aC (aG PG w) c.A (eD elt (compEnvC sc cl C c.ee)) (LCg.CompEnd c.h₀ c.L (c.fm st.loc) {s with heap:=h',toks:=tk} I' oI C oC Da oD S G4) E {s with heap:=h',toks:=tk}:=by
 have G5:∀{p:ac×av},(p.1≠I'/\p.1≠C/\p.1≠Da)-> ∀r∈[(I',oI),(C,oC),(Da,oD)],r.1≠p.1:=λh r hr=>by
  rcases bj.mp hr with rfl|hr
  ·exact h.1.symm
  ·rcases bj.mp hr with rfl|hr
   ·exact h.2.1.symm
   ·rw [bN.mp hr];exact h.2.2.symm
 refine I.ev (c:=c.elem [(I',oI),(C,oC),(Da,oD)] sc cl C st.loc x v) (st:={st with loc:=(x,v)::st.loc,tk:=tk}) (O.elem K eb R.lc hC hx (.tail _ (.head _))) ⟨⟨R.tomD.hide λp hp=>G5 (off p ?_),rfl,bU.mpr ⟨hv,R.fz⟩⟩,by show _=_;rw [hs];rfl,rfl,F',λp hp=>N' p ?_⟩ h λy ao s' Nn ok hk=> ?_
 ·exact (aM.mp hp).elim (λh=>aq _ h) iP
 ·exact (pG.mp hp).elim (λh=>by
   rcases bj.mp h with rfl|h
   ·exact .head _
   ·rcases bj.mp h with rfl|h
    ·exact .tail _ (.head _)
    ·rw [bN.mp h];exact .tail _ (.tail _ (.head _))) λh=>.tail _ (.tail _ (.tail _ h))
 ·have R2:=Nn.rep
  have R3:fS w c {ao with loc:=st.loc}:=⟨R2.tomD.tE,R.lc,λy hy=>(R.fz y hy).ext Nn.ext⟩
  have of:=R2.tomD.G3 λp hp r hr=>G5 (off p ((aM.mp hp).elim (λh=>mE h) λh=>jw (c:=c) h)) r hr
  obtain ⟨q1,q2⟩:=q y ao R3 Nn.ext ok hk
  exact ⟨s'.heap,s'.toks,all w c {ao with loc:=st.loc},by rw [R2.same,hs];rfl,R2.fr,λp hp=>R2.nw p (pG.mpr (by
   rcases bj.mp hp with rfl|hp
   ·exact .inl (.head _)
   ·rcases bj.mp hp with rfl|hp
    ·exact .inl (.tail _ (.head _))
    ·rcases bj.mp hp with rfl|hp
     ·exact .inl (.tail _ (.tail _ (.head _)))
     ·exact .inr hp)),LCg.Off3.of λp hp=>⟨(of p hp _ (.head _)).symm,(of p hp _ (.tail _ (.head _))).symm,(of p hp _ (.tail _ (.tail _ (.head _)))).symm⟩,q1,q2⟩
theorem G6 {c:Cx} {b:Nat} {elt:az} {x:ai} {sc:bD} {cl:List (ai×ac)} {st:St} {s:ak} {S:Led->Prop} {P:Nat->aa->Prop} {Fin:List aa->Led->Prop} {n:Nat}
  (O:c.Ok w NN D b) (K:mI c.es x sc) (eb:∀y∈sc.names,y.2= .free->cl.lookup y.1=c.ee.cells.lookup y.1) (hs:s={c.en with heap:=s.heap,toks:=s.toks}) (R:fS w c st) (Iv:Nat->List SV->St->Prop) (h0:Iv 0 [] st) (hS:∀i acc aD,Ext st.led aD.led->Iv i acc aD->S (all w c aD))
  (step:∀i acc aD v0 tk,i<n->Ext st.led aD.led->aD.loc=st.loc->Iv i acc aD->P i v0-> ∃v k,v.val=v0/\aX aD.led v/\r.ev sc b elt {aD with loc:=(x,v)::aD.loc,tk:=tk} k/\ ∀y aE,k y aE->Iv (i+1) (acc++[y]) {aE with loc:=aD.loc})
  (fin:∀acc aD,fS w c aD->Ext st.led aD.led->aD.loc=st.loc->(∀v∈acc,aX aD.led v)->Iv n acc aD->Fin (vals acc) (all w c aD)):
  LCg.CompRest PG w c.A c.h₀ c.L (c.fm st.loc) c.ee elt x sc cl s S P Fin n 0 [] (all w c st):=by
 refine GY (λi ys nw=>∃acc aD,ys=vals acc/\nw=all w c aD/\fS w c aD/\Ext st.led aD.led/\aD.loc=st.loc/\(∀v∈acc,aX aD.led v)/\Iv i acc aD) ?_ ?_ _ ⟨[],st,rfl,rfl,R,Ext.refl _,rfl,λz h=>(nomatch h),h0⟩
 ·rintro i ys nw hi ⟨acc,aD,rfl,rfl,R1,x1,l1,ha,hI⟩ v0 I' oI C oC Da m₂ h' tk E' hP hC hx F' N' off ne
  obtain ⟨v,k,rfl,hv,hr,hk⟩:=step i acc aD v0 tk hi x1 l1 hI hP
  rw [<-l1] at F'⊢
  refine Pi I O K eb hs R1 hv hC hx F' N' off.mem hr λy aE R2 x2 ok aV=>⟨hS _ _ _ (x1.trans x2) (hk y aE aV),acc++[y],_,by rw [kR];rfl,rfl,R2,x1.trans x2,rfl,λu hu=> ?_,hk y aE aV⟩
  exact (aM.mp hu).elim (λhu=>(ha u hu).ext x2) λhu=>bN.mp hu▸ok
 ·rintro ys nw ⟨acc,aD,rfl,rfl,R1,x1,l1,ha,hI⟩
  exact fin acc aD R1 x1 l1 ha hI
omit I in
theorem G7 {c:Cx} {st aD:St} {s:ak} {acc:List SV} {k:SV->St->Prop} {Q:aa->ak->Prop} (hs:s={c.en with heap:=s.heap,toks:=s.toks}) (R:fS w c aD) (hl:aD.loc=st.loc) (ha:∀v∈acc,aX aD.led v)
  (h:∀tk,gf {aD with tk:=tk} (.lst acc acc.length) k) (q:∀v ao s',Rep w c ao s'->Ext aD.led ao.led->ao.loc=aD.loc->aX ao.led v->k v ao->Q v.val s'):LCg.FinE c.h₀ c.L (c.fm st.loc) s Q (vals acc) (all w c aD):=by
 intro Da h' tk F' N' o1
 rw [<-hl] at F'
 have e:(Da,(SO.lst acc acc.length).obj w.params)=(Da,io (vals acc)):=by
  show(Da,(⟨.type "list",none,.seq (vals acc).toArray acc.length,#[]⟩:av))=_
  rw [<-eh acc]
 have R':Rep w c {aD with tk:=tk} {s with heap:=h',toks:=tk}:=⟨⟨R.tomD,R.lc,R.fz⟩,by show _=_;rw [hs],rfl,F',λp hp=>N' p (.tail _ hp)⟩
 exact added (o:=.lst acc acc.length) R' F' (by rw [e];exact N') (re o1) ha (h tk) λv ao s' N ok hk=>q v ao s' N.rep N.ext N.loc ok hk
theorem Pj {c:Cx} {b:Nat} {elt:az} {gs:List xm} {sc:bD} {pos:aW} {st:St} {k:SV->St->Prop} {s:ak} {Q E:aa->ak->Prop} (O:c.Ok w NN D b) (R:Rep w c st s) (h:Gu r c.es b elt gs sc st k)
  (q:Kont w c st k Q):aC (aG PG w) c.A (eD (.ListComp elt gs sc pos) c.ee) Q E s:=by
 refine aJ h λg j h=>aJ h λd j h=>bv h λh1 h=> ?_
 rw [g.2,d.2]
 refine cR h1 λh1 h2=> ?_
 have K:=og h1
 obtain ⟨cl,ig,eb⟩:=BS (env:=c.ee) λy hy e=>(O.ce y.1 (K.f y hy e)).elim λa h=>h.elim λj h=>⟨a,h.1⟩
 refine GW R.fr ig K.c K.k K.l K.x (I.ev O R h λv aD s1 N ok hk=> ?_) λj=>kS (fn h2)
 refine aJ hk λvs e1 hk=> ?_
 refine bv hk λe2 hk=> ?_
 obtain ⟨i,e,n,e3,e4,e5,ht,lD⟩:=jy N.rep ok e1
 have R1:=N.rep
 have m1:∀aE:St,Ext aD.led aE.led->(e.a,(SO.tup vs n).obj w.params)∈all w c aE:=λaE x=>by
  obtain ⟨e',f1,f2,f3⟩:=x i e e4
  have z:=fJ (w:=w) (c:=c) (st:=aE) f1
  rwa [f2,f3 vs (by rw [e5];rfl),e5] at z
 show pE _ _ _ _ _ _ _ _ _ _ _ _ v.val s1
 rw [e3,<-N.loc]
 refine pE.of O.hh R1.fr R1.nw (m1 _ (Ext.refl _)) (by show(vals vs).length<=_;rw [eh];exact vO e2) λg=> ?_
 have hs:({s1 with heap:=g}:ak)={c.en with heap:=g,toks:=s1.toks}:=by rw [R1.same]
 refine G6 I O K eb hs R1.tofS (λi acc aE=>Bs r b sc d.1.1.1 elt (vs.drop i) acc aE k) hk (λj j aE x j=>⟨_,m1 aE x,rfl,n,rfl⟩) (λi acc aE v0 tk hi x2 l2 hI hP=> ?_) λacc aE R2 x2 l2 ha hI=>G7 hs R2 l2 ha ?_ λv3 gh s3 R3 x3 l3 mH dA=>q v3 gh s3 ⟨R3,(N.ext.trans x2).trans x3,(l3.trans l2).trans N.loc⟩ mH dA
 ·obtain ⟨v1,g1,g2⟩:=vP (show(vals vs)[i]? =some v0 by simpa using hP)
  have hd:vs.drop i=v1::vs.drop (i+1):=by
   rw [xA (iN.mp g1).1]
   exact bW (· ::_) (iN.mp g1).2
  rw [hd] at hI
  exact ⟨v1,_,g2,(lD v1 (et g1)).ext x2,hI tk,λy gh dA=>dA⟩
 ·rw [show vs.drop (vals vs).toArray.size=[] from by show vs.drop (vals vs).length=[];rw [eh,List.drop_length]] at hI
  exact hI
theorem G8 {c:Cx} {b:Nat} {e:Option az} {st:St} {k:Option Int->St->Prop} {s:ak} {Q E:aa->ak->Prop} (O:c.Ok w NN D b) (R:Rep w c st s) (h:Br r c.es b e st k)
  (q:∀v l ao s',l6 v l->Nx w c st ao s'->k l ao->Q v s'):aC (aG PG w) c.A (evalPart e c.ee) Q E s:=by
 cases e with
 |none=>exact dR (q _ _ _ _ .none (Nx.refl R) h)
 |some e=>
  refine I.ev O R h λv ao s' N ok hk=> ?_
  refine aJ hk λn e1 hk=> ?_
  refine (eS e1).elim λt e1=> ?_
  rw [e1]
  exact q _ _ _ _ (.int _ _) N hk
theorem gi {G:Cfg} (hG:mG w NN D G) {H:Hint} {c:Cx} {b:Nat} {e:az} {st:St} {k:SV->St->Prop} {s:ak} {Q E:aa->ak->Prop} (O:c.Ok w NN D b) (R:Rep w c st s) (h:fR (KK w.params) G r c.es b H e st k)
  (q:Kont w c st k Q):aC (aG PG w) c.A (eD e c.ee) Q E s:=by
 cases e with
 |Constant co i p=>exact Pc (b:=b) R h q
 |Name x p=>
  refine aJ h λv e1 h=> ?_
  exact Oy O R e1 (q _ _ _ (Nx.refl R) (R.Ox e1) h)
 |Attribute o x p=>
  refine bv h λh1 h=> ?_
  refine Attribute_any_ (I.ev O R h λv ao s' N ok hk=> ?_) (GV h1)
  refine aJ hk λu e1 hk=> ?_
  exact GM O N.rep ok e1 λPk=>q _ _ _ (N.trans (vZ N.rep 1)) Pk hk
 |Call f args Bt p=>
  refine bv h λh1 h9=> ?_
  refine cR h1 λh1 h2=> ?_
  cases Bt with
  |nil=>exact O9 I O R h2 h9 q
  |cons=>cases h1
 |Compare l ops rs p=>exact Pa I hG O R h λv ao s' N hk=>q (.lit (.bool v)) ao s' N trivial hk
 |BinOp l op e2 p=>exact uY (I.ev O R h λv ao s' N ok hk=>I.ev O N.rep hk λv2 aE s2 N2 cI aV=>GQ N2.rep (ok.ext N2.ext) cI aV (q.after (N.trans N2)))
 |UnaryOp op x p=>exact UnaryOp_ (I.ev O R h λv ao s' N ok hk=>Pd N.rep hk (q.after N))
 |Subscript o i p=>
  refine eg h (λlh e1 h=> ?_) λz h=> ?_
  ·obtain ⟨ps,e1⟩:=Oh e1
   subst e1
   exact vj (I.ev O R h λv ao s' N ok hk=>wpAny_Slice (G8 I O N.rep hk λvl l aE s2 pl N2 aV=>G8 I O N2.rep aV λvu u gh s3 pu N3 dA=>dR (O1 N3.rep ((ok.ext N2.ext).ext N3.ext) pl pu dA (q.after ((N.trans N2).trans N3)))))
  ·refine bv h λh1 h=> ?_
   refine vj (I.ev O R h λv ao s' N ok hk=>I.ev O N.rep hk λv2 aE s2 N2 cI aV=> ?_)
   refine aJ aV λm e2 aV=> ?_
   refine (eS e2).elim λt e2=> ?_
   rw [e2]
   exact OX N2.rep (ok.ext N2.ext) h1 aV λx mH dA=>q x _ _ (N.trans N2) mH dA
 |IfExp t x y p=>
  refine IfExp_ (I.ip O R h λv ao s' N hk=> ?_)
  cases v with
  |true=>exact I.ev O N.rep hk (q.after N)
  |false=>exact I.ev O N.rep hk (q.after N)
 |Tuple es i p=>
  refine bv h λh1 h=> ?_
  refine Tuple_ (pF I O h1 R h λvs ao s' N ok hk=> ?_)
  refine bv hk λh2 hk=> ?_
  exact Pe N.rep ok h2 hk (q.after N)
 |List es p=>
  refine bv h λh1 h=> ?_
  refine List_ (pF I O h1 R h λvs ao s' N ok hk=> ?_)
  refine bv hk λh2 hk=> ?_
  exact Pf N.rep ok h2 hk (q.after N)
 |ListComp elt gs sc p=>exact Pj I O R h q
 |_=>exact h.elim
theorem G9 {c:Cx} {b:Nat} {pos:aW} {op:BoolOp} {wh:Sem aa} {want:Bool} (Ha:op=if want=true then .And else .Or) (O:c.Ok w NN D b):∀{es:List az} {st:St} {k:Bool->St->Prop} {s:ak} {Q:Bool->ak->Prop} {E:aa->ak->Prop},Rep w c st s->vI r c.es b want es st k->
  (∀v ao s',Nx w c st ao s'->k v ao->Q v s')->aC (aG PG w) c.A (isTrue (.BoolOp op es pos) c.ee wh) Q E s:=by
 intro es
 induction es with
 |nil=>
  intro st k s Q E R h q
  cases want<;>subst Ha
  ·exact isTrue_or_nil (q _ _ _ (Nx.refl R) h)
  ·exact isTrue_and_nil (q _ _ _ (Nx.refl R) h)
 |cons e es ih=>
  intro st k s Q E R h q
  cases want<;>subst Ha
  ·refine isTrue_or (I.ip O R h λv ao s' N hk=> ?_)
   cases v with
   |true=>exact q _ _ _ N hk
   |false=>exact ih N.rep hk λv2 aE s2 N2 aV=>q v2 aE s2 (N.trans N2) aV
  ·refine isTrue_and (I.ip O R h λv ao s' N hk=> ?_)
   cases v with
   |true=>exact ih N.rep hk λv2 aE s2 N2 aV=>q v2 aE s2 (N.trans N2) aV
   |false=>exact q _ _ _ N hk
theorem BV {H:Hint} {c:Cx} {b:Nat} {e:az} {p:aW} {st:St} {k:Bool->St->Prop} {s:ak} {Q:Bool->ak->Prop} {E:aa->ak->Prop} (O:c.Ok w NN D b) (R:Rep w c st s) (h:yj r c.es b H e p st k)
  (q:∀v ao s',Nx w c st ao s'->k v ao->Q v s') (he:isTrue e c.ee (eD e c.ee)=(do let v <-eD e c.ee;standAt e.pos;holding [v] (truthy v))):aC (aG PG w) c.A (isTrue e c.ee (eD e c.ee)) Q E s:=by
 refine isTrue_plain (I.ev O R h λv ao s' N ok hk=> ?_) he
 refine aJ hk λn e1 hk=> ?_
 exact OQ e1 (q _ _ _ N (qS hk))
theorem Pl {G:Cfg} (hG:mG w NN D G) {H:Hint} {c:Cx} {b:Nat} {e:az} {st:St} {k:Bool->St->Prop} {s:ak} {Q:Bool->ak->Prop} {E:aa->ak->Prop} (O:c.Ok w NN D b) (R:Rep w c st s) (h:Gv G r c.es b H e st k)
  (q:∀v ao s',Nx w c st ao s'->k v ao->Q v s'):aC (aG PG w) c.A (isTrue e c.ee (eD e c.ee)) Q E s:=by
 cases e with
 |BoolOp op es p=>
  cases op with
  |And=>exact G9 I (want:=true) rfl O R h q
  |Or=>exact G9 I (want:=false) rfl O R h q
 |UnaryOp op x p=>
  refine bv h λh1 h=> ?_
  cases cJ h1
  exact isTrue_not (I.ip O R h λv ao s' N hk=>q _ _ _ N hk)
 |Compare l ops rs p=>exact Pb I hG O R h q
 |Name x p=>exact BV I O R h q rfl
 |Attribute o x p=>exact BV I O R h q rfl
 |Call f as ks p=>exact BV I O R h q rfl
 |_=>exact h.elim
end
end
section
theorem Hb:∀{vs:List az},noStar vs=true->(vs.any λ| .Starred ..=>true|_=>false)=false
 |[],z=>rfl
 |v::vs,h=>by
  rw [List.any_cons,Hb (cW h).2]
  have:=(cW h).1
  cases v<;>first|rfl|cases this
theorem Hc {env:cu} {l:Nat}:∀{ts:List az} {ns:List ai},Bi env.scope l ts=some ns->
  (ts.filterMap fun
  | .Name id pos=>if env.kindOf id==some .local&&pos.line==l then some id else none
  |_=>none)=ns/\ns.length=ts.length/\ ∀n∈ns,env.scope.names.lookup n=some .local
 |[],z,h=>by cases h;exact ⟨rfl,rfl,λy h=>nomatch h⟩
 |t::ts,ns,h=>by
  refine cz h λd y h=>gq h λh1 h=>cR h1 λh3 h4=> ?_
  refine (iz.mp h).elim λms h=> ?_
  obtain ⟨a,b,c⟩:=Hc (ts:=ts) h.1
  have h3:=cJ h3
  rw [d.2,<-h.2]
  refine ⟨Eq.trans (List.filterMap_cons_some (b:=d.1.1) (if_pos ?_)) (bW _ a),bW (· +1) b,λn hn=>(bj.mp hn).elim (λe=>e▸h3) (c n)⟩
  show(env.scope.names.lookup d.1.1==_&&_)=_
  rw [h3,kD h4]
  exact (nA _ _).mpr ⟨rfl,beq_self_eq_true l⟩
theorem Pm {env:cu} {ts:List az} {k:Nat} {tp:aW} {e:az} {ns:List ai} (hf:env.blockKind= .function) (h:Gj env.scope ts e=some ns):
  swappedStores [.Tuple ts k tp] e env=pure (some ns)/\ ∀n∈ns,env.scope.names.lookup n=some .local:=by
 refine cz h λvs h1 h=> ?_
 refine gq h λh2 h=> ?_
 refine cz h λtH h3 h=> ?_
 refine gq h λh4 h=> ?_
 cases h
 obtain ⟨k2,p2,rfl⟩:=Ol h1
 obtain ⟨a,b,d⟩:=Hc h3
 refine ⟨?_,d⟩
 have g1:=Hb (cy h2).1
 have g2:=(cy (cy h2).2).1
 have g3:=kD (cy (cy (cy h2).2).2).1
 have g4:=(cy (cy (cy (cy h2).2).2).2).1
 have g5:=(cy (cy (cy (cy h2).2).2).2).2
 have e1:¬(!(ts.length==2||ts.length==3)||vs.length !=ts.length||env.blockKind != .function)=true:=by
  rw [g3,hf]
  rcases (sE _ _).mp g2 with q|q<;>rw [kD q]<;>decide
 have e2:¬(ns.length !=ts.length||ns.eraseDups.length !=ns.length)=true:=by
  rw [cJ h4,b]
  simp
 unfold swappedStores
 refine (d7 e1).trans ?_
 refine (d7 λq=>oY (g1.symm.trans q)).trans ?_
 have key:∀{α:Type} {l ns:List ai} {A:α} {f:List ai->α},l=ns-> ¬(ns.length !=ts.length||ns.eraseDups.length !=ns.length)=true->(if(l.length !=ts.length||l.eraseDups.length !=l.length)=true then A else f l)=f ns:=λe h=>by
  subst e
  exact d7 h
 refine Eq.trans (key (α:=Sem (Option (List ai))) (A:=pure none) (f:=λnames=>if vs.all (foldedForSure 8)=true then pure none else if vs.all (constantsAlone 8)=true then(unsupported "assign.tuple-of-constant-expressions:order-of-the-stores">>=λz=>pure (some names)) else pure (some names)) a e2) ?_
 have g4:=fn g4
 have g5:=fn g5
 exact (d7 (by rw [g4];decide)).trans (d7 (by rw [g5];decide))
section
variable {w:ah} {NN:Led} {D:Nat} {r:Ev} (I:is w NN D r)
noncomputable def Cx.hide (c:Cx) (q:Led):Cx:={c with eY:=q++c.eY}
theorem Rep.tE {c:Cx} {q:Led} {st:St} {s:ak} (R:Rep w (c.hide q) st s):Rep w c st s:=
 ⟨⟨R.tomD.tE,R.lc,R.fz⟩,R.same,R.tk,R.fr,λp hp=>R.nw p (pG.mpr (.inr hp))⟩
theorem Cx.Ok.hide {c:Cx} {b:Nat} (O:c.Ok w NN D b) (q:Led):(c.hide q).Ok w NN D b:=
 ⟨O.hn,O.B,O.X,O.T,O.hh,O.hA,O.hk,O.hd,O.hu,O.kd,O.hg,O.ko,λR=>O.lo R.tE,λy hy=>(O.ce y hy).elim λa h=>h.elim λo h=>⟨a,o,h.1,ay _ h.2.1,h.2.2⟩⟩
theorem Cx.Fn.hide {c:Cx} (F:c.Fn) (q:Led):(c.hide q).Fn:=⟨F.ee,F.es,F.fm,F.jv⟩
include I
theorem Hd {c:Cx} {b:Nat} {t:az} {v:SV} {st:St} {k:St->Prop} {s:ak} {Q:Unit->ak->Prop} {E:aa->ak->Prop} (O:c.Ok w NN D b) (hF:c.Fn) (R:Rep w c st s) (hv:aX st.led v) (h:Bu (KK w.params) r c.es b t v st k)
  (q:∀ao s',Rep w c ao s'->Ext st.led ao.led->k ao->Q () s'):aC (aG PG w) c.A (assign t c.ee v.val) Q E s:=by
 cases t with
 |Name x p=>
  refine aJ h λaD e1 h=> ?_
  exact Fb (BC O hF R hv e1 λs2 R2 e2=>q aD s2 R2 (e2▸Ext.refl _) h)
 |Attribute o x p=>
  refine kas_attr (I.ev O R h λv2 aE s2 N2 cI aV=> ?_)
  refine aJ aV λaD e1 aV=> ?_
  exact GN O N2.rep cI (hv.ext N2.ext) e1 λs3 R3 x3=>q _ _ R3 (N2.ext.trans x3) aV
 |Subscript o i p=>
  refine kas_sub (I.ev O R h λv2 aE s2 N2 cI aV=>I.ev O N2.rep aV λv3 gh s3 N3 mH dA=> ?_)
  refine aJ dA λn e1 dA=> ?_
  refine cz e1 λm e2 e1=> ?_
  refine (eS e2).elim λt e2=> ?_
  rw [e2,Ba e1]
  refine aJ dA λaD e1 dA=> ?_
  exact O3 N3.rep (cI.ext N3.ext) ((hv.ext N2.ext).ext N3.ext) e1 λs4 R4 x4=>q _ _ R4 ((N2.ext.trans N3.ext).trans x4) dA
 |_=>exact h.elim
theorem He {c:Cx} {b:Nat} (O:c.Ok w NN D b) (hF:c.Fn):∀{ts:List az} {vs:List SV} {st:St} {k:St->Prop} {s:ak} {Q:Unit->ak->Prop} {E:aa->ak->Prop},noStar ts=true->Rep w c st s->(∀v∈vs,aX st.led v)->yl (KK w.params) r c.es b ts vs st k->
  (∀ao s',Rep w c ao s'->Ext st.led ao.led->k ao->Q () s')->aC (aG PG w) c.A (assignInOrder ((assignEach ts c.ee).map (·.2)) (vals vs)) Q E s:=by
 intro ts
 induction ts with
 |nil=>
  intro vs st k s Q E n R hv h q
  cases vs with
  |nil=>exact assignInOrder_nil (q _ _ R (Ext.refl _) h)
  |cons=>exact h.elim
 |cons t ts ih=>
  intro vs st k s Q E n R hv h q
  obtain ⟨n1,n2⟩:=cW n
  cases vs with
  |nil=>exact h.elim
  |cons v vs=>
   rw [GU n1]
   exact assignInOrder_cons (Hd I O hF R (hv v (.head _)) h λaD s1 R1 x1 h1=>ih n2 R1 (λu hu=>(hv u (.tail _ hu)).ext x1) h1 λaE s2 R2 x2 hk=>q aE s2 R2 (x1.trans x2) hk)
omit I in
theorem Pn {c:Cx} {b:Nat} (O:c.Ok w NN D b) (hF:c.Fn):∀{xs:List ai} {vs:List SV} {st:St} {k:St->Prop} {s:ak} {Q:Unit->ak->Prop} {E:aa->ak->Prop},Rep w c st s->(∀v∈vs,aX st.led v)->Bv c.es xs vs st k->
  (∀ao s',Rep w c ao s'->Ext st.led ao.led->k ao->Q () s')->aC (aG PG w) c.A (assignInOrder (xs.map λn=>bindName c.ee n) (vals vs)) Q E s:=by
 intro xs
 induction xs with
 |nil=>
  intro vs st k s Q E R hv h q
  cases vs with
  |nil=>exact assignInOrder_nil (q _ _ R (Ext.refl _) h)
  |cons=>exact h.elim
 |cons x xs ih=>
  intro vs st k s Q E R hv h q
  cases vs with
  |nil=>exact h.elim
  |cons v vs=>
   refine aJ h λaD e1 h=> ?_
   exact assignInOrder_cons (bindName_ (BC O hF R (hv v (.head _)) e1 λs1 R1 e2=>ih R1 (λu hu=>e2▸hv u (.tail _ hu)) h λaE s2 R2 x2 hk=>q aE s2 R2 (e2▸x2) hk))
omit I in
theorem Hf:∀(l:List SV),(vals l).reverse=vals l.reverse
 |[]=>rfl
 |v::l=>by
  show(v.val::vals l).reverse=_
  rw [Aw,Aw,kR,Hf l];rfl
def Kp (c:Cx) (ax:ac) (j:Option (Nat×SO)) (led:List LE):Prop:=match j with
 |some x=>∃e:LE,led[x.1]? =some e/\e.a=ax/\e.o=x.2
 |none=>∃o,c.h₀.get? ax=some o
structure BW (w:ah) (c:Cx) (l0:List LE) (ax:ac) (j:Option (Nat×SO)) (P:St->Prop) (m:ai->Option aa) (nw:Led) (aD:St):Prop where
 R:fS w c aD
 x:Ext l0 aD.led
 k:Kp c ax j aD.led
 m:m=c.fm aD.loc
 n:nw=all w c aD
 p:P aD
def yB (w:ah) (c:Cx) (q:Led) (led:List LE) (P:St->Prop) (f:eK) (s:ak):Prop:=f= .next/\ ∃st,Rep w (c.hide q) st s/\Ext led st.led/\P st
omit I in
theorem Po {c:Cx} {s:ak} {l0:List LE} {ax I':ac} {j:Option (Nat×SO)} {P P':St->Prop} {target:az} {body:List bP} {v0:aa} {m₁:ai->Option aa} {nw own:Led} {aS:bA} {cC:af} {E:aa->ak->Prop}
  (hl:c.ee.locals=c.L) (hs:s={c.en with heap:=s.heap,toks:=s.toks}) (gS:∃oI,(I',oI)∈own) (how:∀p∈own,p.1=I'\/p.1=ax) (hJ:∃aD,BW w c l0 ax j P m₁ nw aD) (hI:∀p∈nw,p.1≠I') (F:Fr c.h₀ c.ee.locals aS m₁) (N:aU c.h₀ c.ee.locals aS (own++nw))
  (turn:∀q aD,Rep w (c.hide q) {aD with tk:=cC} {s with heap:=aS,toks:=cC}->Ext l0 aD.led->P aD->aC (aG PG w) c.A (assign target c.ee v0) (λy fK=>aC (aG PG w) c.A (d8 body c.ee) (yB w c q aD.led λst=>Kp c ax j st.led/\P' st) E fK) E {s with heap:=aS,toks:=cC}):
  aC (aG PG w) c.A (assign target c.ee v0) (λy fK=>aC (aG PG w) c.A (d8 body c.ee) (TurnEnd c.h₀ c.ee.locals I' own (λm nw=>∃aD,BW w c l0 ax j P' m nw aD) {s with heap:=aS,toks:=cC}) E fK) E {s with heap:=aS,toks:=cC}:=by
 obtain ⟨aD,R1,x1,k1,rfl,rfl,hp⟩:=hJ
 obtain ⟨oI,gS⟩:=gS
 rw [hl] at F N⊢
 have Hg:∀p∈all w c aD,∀r∈[(I',oI)],r.1≠p.1:=λp hp r hr=>bN.mp hr▸(hI p hp).symm
 have RR:Rep w (c.hide [(I',oI)]) {aD with tk:=cC} {s with heap:=aS,toks:=cC}:=
  ⟨⟨R1.tomD.hide λp hp=>Hg p ((aM.mp hp).elim (λh=>aq _ h) iP),R1.lc,R1.fz⟩,by show _=_;rw [hs];rfl,rfl,F,λp hp=>N p ((pG.mp hp).elim (λh=>aq _ (bN.mp h▸gS)) λh=>ay _ h)⟩
 refine gx (turn _ aD RR x1 hp) (λy s2 h2=>gx h2 (λf s3 h3=> ?_) λy y e=>e) λy y e=>e
 obtain ⟨rfl,gh,R3,x3,k3,dA⟩:=h3
 have Pp:=R3.tomD.G3 λp hp=>Hg p ((aM.mp hp).elim (λh=>mE h) λh=>jw (c:=c) h)
 have Pq:=N _ (aq (all w c aD) gS)
 have U:=R3.tE
 refine ⟨rfl,s3.heap,s3.toks,c.fm gh.loc,all w c gh,by rw [R3.same,hs];rfl,R3.fr,λp hp=> ?_,λp hp=>(Pp p hp _ (.head _)).symm,gh,U.tofS,x1.trans x3,k3,rfl,rfl,dA⟩
 rcases aM.mp hp with kl|kl
 ·have h1:=N p (aq _ kl)
  obtain ⟨pa,po⟩:=p
  have rf:∀{o},aS.get? pa=some o->po=o:=λe=>jK (h1.1.symm.trans e)
  rcases how _ kl with q|q
  ·have q:pa=I':=q
   subst q
   have e:=rf Pq.1
   subst e
   exact R3.nw (pa,po) (pG.mpr (.inl (.head _)))
  ·have q:pa=ax:=q
   subst q
   cases j with
   |none=>exact k1.elim λo e=>nomatch h1.2.2.symm.trans e
   |some x=>
    obtain ⟨vL,g1,g2,g3⟩:=k1
    obtain ⟨X7,f1,f2,f3⟩:=k3
    have e:=rf (g2▸(N _ (ay own (fJ (w:=w) (c:=c) g1))).1)
    subst e
    have z:=U.nw _ (fJ f1)
    rwa [f2,f3,<-g3] at z
 ·exact U.nw p kl
def Pr (w:ah) (c:Cx) (l0:List LE) (target:az) (body:List bP) (T:Nat->St->(St->Prop)->Prop) (i:Nat) (v0:aa) (s1:ak):Prop:=
 ∀{q:Led} {aD:St} {κ:St->Prop},Rep w (c.hide q) aD s1->Ext l0 aD.led->T i aD κ->aC (aG PG w) c.A (assign target c.ee v0) (λz fK=>aC (aG PG w) c.A (d8 body c.ee) (yB w c q aD.led κ) (λz z=>False) fK) (λz z=>False) s1
def BX (c:Cx) (l0:List LE) (ax:ac) (j:Option (Nat×SO)) (kp:St->Prop->Prop):Prop:=∀{st:St} {p:Prop},Ext l0 st.led->kp st p->Kp c ax j st.led/\p
def LJ (w:ah) (c:Cx) (l0:List LE) (ax:ac) (j:Option (Nat×SO)) (kp:St->Prop->Prop) (T:Nat->St->(St->Prop)->Prop) (n:Nat) (k:St->Prop) (i:Nat) (m:ai->Option aa) (nw:Led):Prop:=
 ∃aD,BW w c l0 ax j (λst=>∃m,i+m=n/\mC T kp m i st k) m nw aD
omit I in
theorem rg {c:Cx} {s:ak} {l0:List LE} {ax I':ac} {j:Option (Nat×SO)} {kp:St->Prop->Prop} {T:Nat->St->(St->Prop)->Prop} {n i:Nat} {k:St->Prop} {target:az} {body:List bP} {v0:aa} {m₁:ai->Option aa} {nw own:Led} {aS:bA} {cC:af}
  (hl:c.ee.locals=c.L) (hs:s={c.en with heap:=s.heap,toks:=s.toks}) (h0:BX c l0 ax j kp) (hi:i<n) (hT:Pr w c l0 target body T i v0 {s with heap:=aS,toks:=cC}) (gS:∃oI,(I',oI)∈own) (how:∀p∈own,p.1=I'\/p.1=ax) (hJ:LJ w c l0 ax j kp T n k i m₁ nw) (hI:∀p∈nw,p.1≠I') (F:Fr c.h₀ c.ee.locals aS m₁) (N:aU c.h₀ c.ee.locals aS (own++nw)):
  aC (aG PG w) c.A (assign target c.ee v0) (λz fK=>aC (aG PG w) c.A (d8 body c.ee) (TurnEnd c.h₀ c.ee.locals I' own (LJ w c l0 ax j kp T n k (i+1)) {s with heap:=aS,toks:=cC}) (λz z=>False) fK) (λz z=>False) {s with heap:=aS,toks:=cC}:=by
 refine Po hl hs gS how hJ hI F N λq aD R x hp=> ?_
 obtain ⟨m,e,h⟩:=hp
 cases m with
 |zero=>exact absurd (e▸hi) (xr _)
 |succ m=>
  refine gx (hT R x (h cC)) (λz s2 h2=>gx h2 (λf s3 h3=> ?_) λz z e=>e) λz z e=>e
  obtain ⟨rfl,gh,R3,x3,h3⟩:=h3
  obtain ⟨a,b⟩:=h0 (x.trans x3) h3
  exact ⟨rfl,gh,R3,x3,a,m,(Nat.succ_add i m).trans e,b⟩
omit I in
theorem ri {c:Cx} {st:St} {s:ak} {ax:ac} {j:Option (Nat×SO)} {kp:St->Prop->Prop} {T:Nat->St->(St->Prop)->Prop} {n:Nat} {k:St->Prop} {m':ai->Option aa} {nw:Led} {h':bA} {tk:af} {Q:eK->ak->Prop}
  (hl:c.ee.locals=c.L) (hs:s={c.en with heap:=s.heap,toks:=s.toks}) (q:∀ao s',Rep w c ao s'->Ext st.led ao.led->k ao->Q .next s') (F:Fr c.h₀ c.ee.locals h' m') (N:aU c.h₀ c.ee.locals h' nw) (hJ:LJ w c st.led ax j kp T n k n m' nw):Q .next {s with heap:=h',toks:=tk}:=by
 obtain ⟨aD,R1,x1,k1,rfl,rfl,m,e,h⟩:=hJ
 cases m with
 |zero=>
  rw [hl] at F N
  exact q {aD with tk:=tk} _ ⟨⟨R1.tomD,R1.lc,R1.fz⟩,by show _=_;rw [hs],rfl,F,N⟩ x1 (h tk)
 |succ m=>exact absurd e (Nat.ne_of_gt (Nat.lt_add_of_pos_right (Nat.succ_pos m)))
theorem Hh {c:Cx} {b:Nat} {body:List bP} {q:Led} {led:List LE} {st:St} {s:ak} {κ:St->Prop} (O:c.Ok w NN D b) (hF:c.Fn) (R:Rep w (c.hide q) st s) (x:Ext led st.led) (h:r.fh c.es b body st λf st=>match f with
 |none=>κ st
 |some z=>False):aC (aG PG w) c.A (d8 body c.ee) (yB w c q led κ) (λy y=>False) s:=
 I.fh (c:=c.hide q) (O.hide _) (hF.hide _) R h λf gh s3 R3 x3 mH dA=>by
  cases f with
  |some u=>exact dA.elim
  |none=>exact ⟨rfl,gh,R3,x.trans x3,dA⟩
theorem tI {c:Cx} {b:Nat} {x:ai} {px:aW} {body:List bP} {v:SV} {q:Led} {aD:St} {s1:ak} {κ:St->Prop} (O:c.Ok w NN D b) (hF:c.Fn) (R:Rep w (c.hide q) aD s1) (hv:aX aD.led v) (h:qX r c.es b x body v aD κ):
  aC (aG PG w) c.A (assign (.Name x px) c.ee v.val) (λz fK=>aC (aG PG w) c.A (d8 body c.ee) (yB w c q aD.led κ) (λz z=>False) fK) (λz z=>False) s1:=by
 refine aJ h λaE e2 h=> ?_
 exact Fb (BC (c:=c.hide q) (O.hide _) (hF.hide _) R hv e2 λs2 R2 e3=>Hh I O hF R2 (e3▸Ext.refl _) h)
theorem Hi {c:Cx} {b:Nat} {x:ai} {px:aW} {body:List bP} {vs:List SV} {st:St} {k:St->Prop} {s:ak} {j n:Nat} {e:LE} {Q:eK->ak->Prop} (O:c.Ok w NN D b) (hF:c.Fn) (R:Rep w c st s) (he:st.led[j]? =some e) (ho:e.o= .tup vs n)
  (h:Bw r c.es b x body vs st k) (q:∀ao s',Rep w c ao s'->Ext st.led ao.led->k ao->Q .next s'):
  aC (aG PG w) c.A (pyIter (.ref e.a)) (λit gR=>mc PG w c.A c.h₀ c.ee (.Name x px) body Q (λy y=>False) it gR) (λy y=>False) s:=by
 have hl:c.ee.locals=c.L:=by rw [hF.ee];rfl
 have oi:=R.nw _ (fJ he)
 have pH:=R.ir j e he
 rw [ho] at pH oi
 have kp:BX c st.led e.a (some (j,e.o)) λy p=>p:=λ{aD p} x h=>⟨(x j e he).elim λe' z=>⟨e',z.1,z.2.1,z.2.2 vs (by rw [ho];rfl)⟩,h⟩
 refine G0 (LJ w c st.led e.a (some (j,e.o)) (λy p=>p) _ vs.length k) O.hh (by rw [hl];exact R.fr) (by rw [hl];exact R.nw) ⟨_,oi.1,rfl,n,rfl⟩ (by rw [hl];exact oi.2.1) ⟨st,R.tofS,Ext.refl _,⟨e,he,rfl,rfl⟩,rfl,rfl,vs.length,ma _,h⟩ (λI' i' v0 m₁ nw aS cC own hv gS how hJ hI F N=> ?_) λh' tk m' nw F N hJ=> ?_
 ·refine (vP (show(vals vs)[i']? =some v0 by simpa using hv)).elim λv g=> ?_
  rw [<-g.2]
  refine rg hl R.same kp (iN.mp g.1).1 (λ{q' aE κ} R2 x2 h2=> ?_) gS how hJ hI F N
  rw [g.1] at h2
  exact tI I O hF R2 ((pH v (et g.1)).ext x2) h2
 ·have hJ:LJ w c st.led e.a (some (j,e.o)) (λy p=>p) _ vs.length k (vals vs).length m' nw:=hJ
  rw [eh] at hJ
  exact ri hl R.same q F N hJ
theorem Ps {c:Cx} {b:Nat} {x:bP} {st:St} {nx:St->Prop} {k:Option SV->St->Prop} {s:ak} {Q:eK->ak->Prop} {E:aa->ak->Prop} (O:c.Ok w NN D b) (hF:c.Fn) (R:Rep w c st s) (h:Gw (KK w.params) r c.es b x st nx k)
  (q1:∀ao s',Rep w c ao s'->Ext st.led ao.led->nx ao->Q .next s') (q2:∀v ao s',Rep w c ao s'->Ext st.led ao.led->aX ao.led v->k (some v) ao->Q (.ret v.val) s'):aC (aG PG w) c.A (exec x c.ee) Q E s:=by
 have br:∀{bd:List bP} {aD:St} {s1:ak},Nx w c st aD s1->(r.fh c.es b bd aD λf st=>oE f (λv=>k (some v) st) (nx st))->aC (aG PG w) c.A (d8 bd c.ee) Q E s1:=λN hb=>I.fh O hF N.rep hb λf aE s2 R2 x2 cI aV=>by
  cases f with
  |none=>exact q1 aE s2 R2 (N.ext.trans x2) aV
  |some v=>exact q2 v aE s2 R2 (N.ext.trans x2) cI aV
 cases x with
 |Return v p=>
  cases v with
  |some e=>exact Ah (I.ev O R h λv ao s' N ok hk=>q2 v ao s' N.rep N.ext ok hk)
  |none=>exact wpAny_Return_none (q2 (.lit .none) _ _ R (Ext.refl _) trivial h)
 |If t a b p=>
  refine wpAny_If (I.ip O R h λv ao s' N hk=> ?_)
  cases v with
  |true=>exact br N hk
  |false=>exact br N hk
 |Assign ts e p=>
  refine bv h λh1 h=>aJ h λt q h=> ?_
  have h1:=fn h1
  rw [t.2]
  refine eg h (λd q h=> ?_) λq h=> ?_
  ·rw [d.2]
   refine eg h (λns e0 h=> ?_) λq h=> ?_
   ·have Hj:c.ee.scope=c.es:=by rw [hF.ee,hF.es];rfl
    rw [<-Hj] at e0
    have w1:=λkk tt=>(Pm (env:=c.ee) (k:=kk) (tp:=tt) (by unfold Env.blockKind;rw [Hj,hF.es,O.hk];rfl) e0).1
    refine Assign_Tuple_swapped (I.ev O R h λv ao s' N ok hk=> ?_) (vR h1) (w1 _ _)
    refine aJ hk λvs e1 hk=> ?_
    refine bv hk λe2 hk=> ?_
    obtain ⟨i,e,m,e3,y,y,ht,ov⟩:=jy N.rep ok e1
    rw [e3]
    refine unpackItemsN_ N.rep.fr N.rep.nw ht O.hh (by rw [kD e2];exact (eh vs).symm) λh' F' N'=> ?_
    rw [show(vals vs).toArray.toList.reverse=vals vs.reverse from Hf vs]
    exact Pn O hF ⟨N.rep.tofS,by show _=_;rw [N.rep.same],N.rep.tk,F',N'⟩ (λv hv=>ov v (List.mem_reverse.mp hv)) hk λaE s2 R2 x2 aV=>q1 aE s2 R2 (N.ext.trans x2) aV
   refine bv h λh2 h=> ?_
   refine cR h2 λh2 n=> ?_
   refine yx (vR h1) (O4 (fn h2)) rfl (I.ev O R h λv ao s' N ok hk=> ?_)
   refine aJ hk λvs e1 hk=> ?_
   refine bv hk λe2 hk=> ?_
   obtain ⟨i,e,m,e3,y,y,ht,ov⟩:=jy N.rep ok e1
   obtain ⟨l1,l2⟩:=BG (env:=c.ee) n
   rw [e3]
   refine unpackN_ N.rep.fr N.rep.nw ht O.hh (by rw [l1,kD e2,List.size_toArray,eh]) l2 λh' F' N'=> ?_
   exact He I O hF n ⟨N.rep.tofS,by show _=_;rw [N.rep.same],N.rep.tk,F',N'⟩ ov hk λaE s2 R2 x2 aV=>q1 aE s2 R2 (N.ext.trans x2) aV
  ·refine bv h λh2 h=> ?_
   exact yx (vR h1) (BI h2) (BJ h2) (I.ev O R h λv ao s' N ok hk=>Hd I O hF N.rep ok hk λaE s2 R2 x2 aV=>q1 aE s2 R2 (N.ext.trans x2) aV)
 |AugAssign t op e p=>
  refine bv h λh1 h=> ?_
  cases cJ h1
  refine aJ h λd q h=> ?_
  rw [d.2]
  refine wpAny_AugAssign_AttributeAny (I.ev O R h λv ao s' N ok hk=> ?_)
  refine aJ hk λold e1 hk=> ?_
  refine GM O N.rep ok e1 λlD=>I.ev O (N.rep.toks 1) hk λv2 aE s2 N2 cI aV=> ?_
  refine aJ aV λm e2 aV=> ?_
  refine aJ aV λn e3 aV=> ?_
  refine (eS e2).elim λt1 e2=> ?_
  refine (eS e3).elim λt2 e3=> ?_
  rw [e2,e3]
  refine aJ aV λgh e4 aV=> ?_
  refine iadd_int ?_
  have hs:=GN (Q:=λq s'=>Q .next s') (E:=E) O (N2.rep.toks 1) (ok.ext N2.ext) (v:=.lit _) trivial e4 λs3 R3 x3=>q1 gh s3 R3 ((N.ext.trans N2.ext).trans x3) aV
  rw [<-N2.rep.tk] at hs
  exact hs
 |For t it body Gx p=>
  refine aJ h λd q h=>bv h λh1 h=>cR h1 λh2 h1=> ?_
  rw [d.2,pb.mp h2]
  refine gx (E:=λq q=>False) (For_turns (show Fr c.h₀ c.ee.locals s.heap (c.fm st.loc) by rw [hF.ee];exact R.fr) (I.ev O R h λv ao s' N ok hk=> ?_) (λq=>kS (fn h1)) sR) (λq q z=>z) λq q z=>z.elim
  refine aJ hk λvs e1 hk=> ?_
  obtain ⟨i,e,n,e2,e3,e4,y,y⟩:=jy N.rep ok e1
  rw [e2]
  exact Hi I O hF N.rep e3 e4 hk λaE s2 R2 x2 aV=>q1 aE s2 R2 (N.ext.trans x2) aV
 |Expr e p=>
  refine bv h λh1 h=> ?_
  exact wpAny_Expr_any (I.ev O R h λv ao s' N ok hk=>q1 ao s' N.rep N.ext hk) (by unfold interactive;rw [hF.ee,show c.env.scope.kind= .function from O.hk];rfl) (BD (fn h1))
 |_=>exact h.elim
theorem Pt {G:Cfg} (hG:∀s x,vH G.ss s=some x->jz w NN D x) {c:Cx} {b:Nat} {l:List bP} {st:St} {k:Option SV->St->Prop} {s:ak} {Q:eK->ak->Prop} {E:aa->ak->Prop} (O:c.Ok w NN D b) (hF:c.Fn) (R:Rep w c st s) (h:Gy (KK w.params) G r c.es b l st k)
  (q:∀f ao s',Rep w c ao s'->Ext st.led ao.led->tA ao.led f->k f ao->Q (BQ f) s'):aC (aG PG w) c.A (d8 l c.ee) Q E s:=by
 cases l with
 |nil=>exact wpAny_execs_nil (q none _ _ R (Ext.refl _) trivial h)
 |cons x rest=>
  have go:∀aD s1,Rep w c aD s1->Ext st.led aD.led->r.fh c.es b rest aD k->aC (aG PG w) c.A (d8 rest c.ee) Q E s1:=λaD s1 R1 x1 h1=>I.fh O hF R1 h1 λf aE s2 R2 x2 cI aV=>q f aE s2 R2 (x1.trans x2) cI aV
  refine eg h (λy e h=> ?_) λz h=> ?_
  ·exact xp (hG x y e I O hF R h go)
  ·exact xp (Ps I O hF R h go λv aD s1 R1 x1 lD pJ=>q (some v) aD s1 R1 x1 lD pJ)
omit I in
theorem BY {K:eE} {n:ac} {fd:i9} (h:fnAt K n=some fd):∃oc od jd,K.lookup n=some ⟨oc,od,.func fd,jd⟩:=by
 obtain ⟨⟨oc,od,d,jd⟩,e1,h⟩:=qM h
 exact ⟨oc,od,jd,by rw [e1,<-Os h]⟩
omit I in
theorem Pu {K:eE} {v:aa} {ds:List aa} (h:Bk K v=some ds) (S:Setting):∃o,peek K S (seqItems? v)=some o/\(o.getD #[]).toList=ds:=by
 refine mA h (λd y h=> ?_) λy h=> ?_
 ·rw [d.1,<-jK h]
  exact ⟨none,rfl,rfl⟩
 ·refine cz h λT e1 h=>cz h λo e2 h=>(Gm h).elim λn e3=> ?_
  rw [qP e1]
  refine ⟨some ds.toArray, ?_,rfl⟩
  show peek K S (Sem.load T none _)=_
  simp only [peek,e2]
  show peek K S (match o.data with| .seq items z=>_|_=>_)=_
  rw [e3]
  rfl
noncomputable def pick (o:Option SV) (z:Option aa):Option Value:=match o with
 |some v=>some v.val
 |none=>z
omit I in
theorem Hk {n:ai}:∀{l:List ai} {us:List SV},n∉l->findF n (l.zip us)=none
 |[],y,q=>rfl
 |y::q,[],j=>rfl
 |a::l,u::us,h=>by
  show(match n==a with|true=>some u|false=>findF n (l.zip us))=none
  rw [ia λe=>h (by rw [e];exact .head _)]
  exact Hk λz=>h (.tail _ z)
omit I in
theorem yC {kf:ai->Option jI}:∀{ns:List ai} {vs:List SV} {m:ai->Option aa},ns.Nodup->(∀n∈ns,m n=none)-> ∀y,bindL kf (ns.zip (vals vs)) m y=pick (if kf y=some .local then findF y (ns.zip vs) else none) (m y)
 |[],j,m,u,g,y=>(bW (λo=>pick o (m y)) (ite_self (none:Option SV))).symm
 |j::u,[],m,g,c,y=>(bW (λo=>pick o (m y)) (ite_self (none:Option SV))).symm
 |n::ns,v::vs,m,hn,hm,y=>by
  obtain ⟨h1,h2⟩:=fY.mp hn
  have e:findF y ((n,v)::ns.zip vs)=match y==n with|true=>some v|false=>findF y (ns.zip vs):=rfl
  show bindL kf (ns.zip (vals vs)) (if kf n=some .local then _ else m) y=pick (if kf y=some .local then findF y ((n,v)::ns.zip vs) else none) (m y)
  rw [e]
  by_cases q:kf n=some .local
  ·rw [if_pos q,yC h2 λk hk=>(d7 λz:k=n=>h1 (z▸hk)).trans (hm k (.tail _ hk))]
   by_cases z:y=n
   ·subst z
    rw [if_pos q,Hk h1,if_pos rfl,if_pos q,beq_self_eq_true];rfl
   ·rw [d7 z,ia z]
  ·rw [d7 q,yC h2 λk hk=>hm k (.tail _ hk)]
   by_cases z:y=n
   ·subst z
    rw [d7 q,d7 q]
   ·rw [ia z]
omit I in
theorem Hl {kf:ai->Option jI}:∀{l:List (ai×aa)} {m:ai->Option aa},bindC kf l m=bindL (λn=>if kf n=some .local then none else some .local) l m
 |[],z=>rfl
 |(n,v)::l,m=>by
  show bindC kf l (if kf n=some .local then m else _)=bindL _ l (if(if kf n=some .local then none else some NameKind.local)=some .local then _ else m)
  rw [Hl]
  by_cases q:kf n=some .local
  ·rw [if_pos q,if_pos q];rfl
  ·rw [d7 q,d7 q,if_pos rfl]
omit I in
theorem Hm {kf:ai->Option jI} {y:ai}:∀{l:List (ai×aa)} {m:ai->Option aa},(∀x∈l,kf x.1=some .local)->bindL kf l m y=(l.reverse.lookup y).or (m y)
 |[],q,j=>rfl
 |(n,v)::l,m,h=>by
  show bindL kf l (if kf n=some .local then _ else m) y=_
  rw [if_pos (h _ (.head _)),Hm λx hx=>h x (.tail _ hx),Aw,List.lookup_append]
  cases l.reverse.lookup y with
  |some q=>rfl
  |none=>
   show(if y=n then some v else m y)=(match y==n with|true=>some v|false=>none).or (m y)
   by_cases z:y=n
   ·rw [if_pos z,ik.mpr z];rfl
   ·rw [d7 z,ia z];rfl
omit I in
theorem Pv {cm:ai->Option aa} {n:ai} {a:ac} {cs:List (ai×ac)} {cells:Led} (Y:CellsAre cm cs cells) (h:cs.lookup n=some a):∃o,(a,o)∈cells/\o.data= .cell (cm n):=by
 induction Y with
 |nil=>cases h
 | @cons k c o y q d r ih=>
  rw [kE] at h
  cases z:n==k with
  |true=>rw [z] at h;cases h;exact ⟨o,.head _,by rw [ik.mp z];exact d⟩
  |false=>rw [z] at h;exact (ih h).elim λo h=>⟨o,.tail _ h.1,h.2⟩
omit I in
theorem BZ {L:ac}:∀{names:List (ai×jI)} {n:Nat} {acc:List (ai×ac)},L<n->(∀x∈acc,L<x.2)-> ∀x∈cellsFrom n names acc,L<x.2
 |[],z,q,j,h,x,hx=>h x hx
 |(y,k)::r,n,acc,hl,h,x,hx=>by
  unfold cellsFrom at hx
  split at hx
  ·exact BZ (nE hl) (bU.mpr ⟨hl,h⟩) x hx
  ·exact BZ hl h x hx
omit I in
theorem Pw {cm:ai->Option aa} {L:ac} {cs:List (ai×ac)} {cells:Led} (Y:CellsAre cm cs cells) (h:∀x∈cs,L<x.2):∀p∈cells,L<p.1:=by
 induction Y with
 |nil=>exactλq h=>nomatch h
 |cons z y ih=>exact bU.mpr ⟨h _ (.head _),ih λx hx=>h x (.tail _ hx)⟩
structure B1 (K:eE) (fd:i9) (vs Px:List SV) (v6:List aa) (body:List bP):Prop where
 e:fd=fnOf fd.name fd.qualname fd.params body fd.scope fd.defaults fd.kwdefaults fd.doc fd.pyModule fd.annotations fd.code fd.closureTuple
 cd:codeIn K fd.code fd.qualname=true
 co:fd.scope.isCoroutine=false
 ge:fd.scope.isGenerator=false
 k:fd.scope.kind= .function
 fr:∀y∈fd.scope.names,y.2≠ .free
 p1:fd.params.posonlyargs=[]
 p2:fd.params.kwonlyargs=[]
 p3:fd.params.vararg.isNone=true
 p4:fd.params.kwarg.isNone=true
 nd:(fd.params.args.map (·.arg)).Nodup
 nc:((cellsFrom 0 fd.scope.names []).map (·.1)).Nodup
 lo:∀y∈fd.params.args.map (·.arg),fd.scope.names.lookup y=some .local\/fd.scope.names.lookup y=some .cell
 ds:Bk K fd.defaults=some v6
 l1:v6.length<=fd.params.args.length
 l2:fd.params.args.length<=vs.length+v6.length
 l3:vs.length<=fd.params.args.length
 us:Px=vs++(v6.drop (vs.length+v6.length -fd.params.args.length)).map SV.lit
omit I in
theorem Py {fd:i9} {bd:List bP} (h:fd.body= .stmts bd) (b1:fd.globals=mainGlobals) (b2:fd.builtins=builtinsNs) (b3:fd.closure=[]):fd=fnOf fd.name fd.qualname fd.params bd fd.scope fd.defaults fd.kwdefaults fd.doc fd.pyModule fd.annotations fd.code fd.closureTuple:=by
 show fd={fd with body:=.stmts bd,globals:=mainGlobals,closure:=[],builtins:=builtinsNs}
 rw [<-h,<-b1,<-b2,<-b3]
omit I in
theorem Pz {α:Type} {l:List α} {P:α->Prop} [DecidablePred P] (h:(l.all λy=>decide (P y))=true):∀y∈l,P y:=λy hy=>cJ (nK.mp h y hy)
omit I in
theorem PA {K:eE} {fd:i9} {vs:List SV} {bl:List bP×List (ai×SV)} (h:qW K fd vs=some bl):∃us ds,bl.2=(fd.params.args.map (·.arg)).zip us/\B1 K fd vs us ds bl.1:=by
 refine cz h λbody PB h=>gq h λh1 h=>cz h λds jL h=>gq h λh2 h=> ?_
 refine cR h1 λc1 h1=>cR h1 λc2 h1=>cR h1 λc3 h1=>cR h1 λc4 h1=>cR h1 λc5 h1=>cR h1 λc6 h1=>cR h1 λc7 h1=> ?_
 refine cR h1 λc8 h1=>cR h1 λc9 h1=>cR h1 λca h1=>cR h1 λcb h1=>cR h1 λcc h1=>cR h1 λcd h1=>cR h1 λce cf=> ?_
 refine cR h2 λd1 h2=>cR h2 λd2 d3=> ?_
 rw [<-jK h]
 exact ⟨_,ds,rfl,Py (Oo PB) (kD c1) (kD c2) (pb.mp c3),c4,fn c5,fn c6,cJ c7,Pz c8,pb.mp c9,pb.mp ca,cb,cc,cJ cd,cJ ce,
  λy hy=>((sE _ _).mp (nK.mp cf y hy)).imp ik.mp ik.mp,jL,dB d1,dB d2,dB d3,rfl⟩
noncomputable def kT (sc:bD) (l:List (ai×SV)):ai->Option Value:=λy=>pick (if sc.names.lookup y=some .local then findF y l else none) none
omit I in
theorem Hn {sc:bD} {l:List (ai×SV)} {y:ai} {v:SV} (h:sc.names.lookup y=some .local) (e:findF y l=some v):kT sc l y=some v.val:=by
 unfold kT
 rw [if_pos h,e];rfl
omit I in
theorem Ho {sc:bD} {l:List (ai×SV)} {x:ai} {v:SV} (h:sc.names.lookup x=some .local):kT sc ((x,v)::l)=λy=>if y=x then some v.val else kT sc l y:=by
 funext y
 have e:findF y ((x,v)::l)=match y==x with|true=>some v|false=>findF y l:=rfl
 unfold kT
 rw [e]
 by_cases q:y=x
 ·subst q;rw [if_pos h,if_pos rfl,beq_self_eq_true];rfl
 ·rw [d7 q,ia q]
noncomputable def Cx.sub (c:Cx) (A':bZ) (fd:i9) (f L':ac) (g:bA) (cells:Led) (l:List (ai×SV)):Cx:=
 {c with A:=A'.deeper (envOfC fd.qualname fd.scope L' f fd.code),cn:=fd.qualname,cs:=fd.scope,L:=L',a:=f,bX:=fd.code,cl:=cellsFrom (L'+1) fd.scope.names [],outer:=c.env::c.outer,A₀:=A',h₀:=g,eY:=cells++c.eY,fm:=kT fd.scope,jv:=λl'=>(∀y,fd.scope.names.lookup y=some .cell->findF y l'=findF y l),ee:=envOfC fd.qualname fd.scope L' f fd.code,es:=fd.scope}
omit I in
theorem Cx.Fn.sub {c:Cx} {A':bZ} {fd:i9} {f L':ac} {g:bA} {cells:Led} {l:List (ai×SV)}:(c.sub A' fd f L' g cells l).Fn:=⟨rfl,rfl,λx v l' h=>Ho h,λx v l' h ht y hy=>by
 show(match y==x with|true=>some v|false=>findF y l')=_
 rw [ia λe=>by
  have h:fd.scope.names.lookup x=some .local:=h
  rw [e,h] at hy;cases hy]
 exact ht y hy⟩
omit I in
theorem Cx.Ok.sub {c:Cx} {b₀ b:Nat} {A':bZ} {fd:i9} {f L':ac} {g:bA} {cells:Led} {vs us:List SV} {ds:List aa} {body:List bP} (O:c.Ok w NN D b₀) (F:B1 (KK w.params) fd vs us ds body) (hz:us.length=(fd.params.args.map (·.arg)).length) (hA:A'.frames=some (c.env::c.outer)) (hh:A'.handled=none)
  (hd:A'.depth+(1+(b+D))<recursionLimit) (hu:A'.units+(3+(8*b+8*D))<cLine) (B':fx A' c.base (c.env::c.outer) g) (X':(KK w.params).In g) (T':Top c.p c.loose c.bH c.mg c.mb g)
  (Y:CellsAre (bindC (envOfC fd.qualname fd.scope L' f fd.code).kindOf ((fd.params.args.map (·.arg)).zip (vals us)) λq=>none) (cellsFrom (L'+1) fd.scope.names []) cells):(c.sub A' fd f L' g cells ((fd.params.args.map (·.arg)).zip us)).Ok w NN D b:=by
 refine ⟨O.hn,B',X',T',hh,Around.frames_deeper hA,F.k,by show A'.depth+1+_<_;rw [Nat.add_assoc];exact hd,by show A'.units+3+_<_;rw [Nat.add_assoc];exact hu,F.k,⟨rfl,rfl⟩,λx k h=>.inl h,λ{x v st s} R _ hx hf=>⟨_,R.fr.ns,Hn hx hf⟩,λy hy=> ?_⟩
 have hy:fd.scope.names.lookup y=some .cell:=hy.resolve_right λh=>F.fr _ (mem_of_lookup h) rfl
 have hk:¬(envOfC fd.qualname fd.scope L' f fd.code).kindOf y=some .local:=λz=>nomatch hy.symm.trans z
 obtain ⟨a,ha⟩:=AE.mp (cellsFrom_some fd.scope.names (L'+1) [] (.inl hy))
 obtain ⟨o,h1,h2⟩:=Pv Y ha
 refine ⟨a,o,ha,aq _ h1,λl v ht hf=>h2.trans (bW Data.cell ?_)⟩
 rw [ht y hy] at hf
 rw [Hl,yC F.nd λq q=>rfl,if_pos (d7 hk),hf];rfl
omit I in
theorem Hp {α:Type} {o:Option α} {k k':α->Prop} (h:oK o k) (f:∀a,o=some a->k a->k' a):oK o k':=by
 obtain ⟨a,rfl,h⟩:=gQ h
 exact f a rfl h
def rj (w:ah) (A:bZ) (env:cu) (RR:kB->ak->Prop) (e:aa) (s':ak):Prop:=aC (aG PG w) A (qm env e) (λz jt=>RR (.error e) jt) (λe' jt=>RR (.error e') jt) s'
def Ent (w:ah) (NN:Led) (D b:Nat) (c:Cx) (RR:kB->ak->Prop) (body:List bP) (led:List LE) (st:St) (s:ak) (k:Option SV->St->Prop):Prop:=c.Ok w NN D b->c.Fn->Rep w c st s-> ∀Q:eK->ak->Prop,(∀fl ao s',Rep w c ao s'->Ext led ao.led->tA ao.led fl->k fl ao->Q (BQ fl) s')->aC (aG PG w) c.A (d8 body c.ee) Q (rj w c.A c.ee RR) s
omit I in
theorem Hq {c:Cx} {b:Nat} {fd:i9} {vs us:List SV} {ds:List aa} {body:List bP} {st:St} {tk:af} {k:Option SV->St->Prop} {s:ak} {RR:kB->ak->Prop} {A':bZ} {f L':ac} {g aS:bA} {cells:Led} {b₀:Nat} (O:c.Ok w NN D b₀) (R:Rep w c st s) (hv:∀v∈vs,aX st.led v)
  (F:B1 (KK w.params) fd vs us ds body) (O':(c.sub A' fd f L' g cells ((fd.params.args.map (·.arg)).zip us)).Ok w NN D b) (F':Fr g L' aS (kT fd.scope ((fd.params.args.map (·.arg)).zip us))) (N':aU g L' aS (cells++all w c st)) (of:∀p∈all w c st,∀r∈cells,r.1≠p.1)
  (h:Ent w NN D b (c.sub A' fd f L' g cells ((fd.params.args.map (·.arg)).zip us)) RR body st.led {st with loc:=(fd.params.args.map (·.arg)).zip us,tk:=tk} {s with heap:=aS,toks:=tk} λf ao=>k f {ao with loc:=st.loc}) (q:∀f ao s',Nx w c st ao s'->tA ao.led f->k f ao->RR (.ok (.ret (BR f))) s'):
  aC (aG PG w) (A'.deeper (envOfC fd.qualname fd.scope L' f fd.code)) (d8 body (envOfC fd.qualname fd.scope L' f fd.code)) (λfl s'=>LeaveK c.h₀ c.L (c.fm st.loc) g RR (match fl with| .ret v=>v|_=>.none) s') (rj w (A'.deeper (envOfC fd.qualname fd.scope L' f fd.code)) (envOfC fd.qualname fd.scope L' f fd.code) RR) {s with heap:=aS,toks:=tk}:=by
 have PC:∀v∈us,aX st.led v:=λv hm=>by
  rw [F.us] at hm
  rcases aM.mp hm with hm|hm
  ·exact hv v hm
  ·obtain ⟨u,y,e⟩:=ew.mp hm
   rw [<-e];trivial
 refine h O' Cx.Fn.sub
  ⟨⟨R.tomD.hide λp hp=>of p ((aM.mp hp).elim (λh=>aq _ h) iP),λj j=>rfl,λx hx=>PC _ (Au (a:=x.1) (b:=x.2) hx).2⟩,by show _=_;rw [R.same];rfl,rfl,F',λp hp=>N' p (aM.mpr (pG.mp hp))⟩ _ λfl ao s' R2 x2 cI aV=> ?_
 refine ⟨L',_,_,R2.fr,λp hp=>R2.nw p (pG.mpr (.inr hp)),λF3 N3=> ?_⟩
 have z:=q fl {ao with loc:=st.loc} s' ⟨⟨⟨R2.tomD.tE,R.lc,λx hx=>(R.fz x hx).ext x2⟩,R2.same,R2.tk,F3,N3⟩,x2,rfl⟩ cI aV
 cases fl with
 |none=>exact z
 |some v=>exact z
omit I in
theorem Hr {c:Cx} {b:Nat} {fd:i9} {vs:List SV} {st:St} {k:Option SV->St->Prop} {s:ak} {RR:kB->ak->Prop} {A':bZ} {f:ac} {oc:aa} {od:Option ac} {jd:Array (Option aa)} {b₀:Nat} (O:c.Ok w NN D b₀) (R:Rep w c st s) (hv:∀v∈vs,aX st.led v)
  (ho:(KK w.params).lookup f=some ⟨oc,od,.func fd,jd⟩) (hA:A'.frames=some (c.env::c.outer)) (hh:A'.handled=none) (hd:A'.depth+(1+(b+D))<recursionLimit) (hu:A'.units+(3+(8*b+8*D))<cLine)
  (h:oK (qW (KK w.params) fd vs) λbl=>∀L' g cells aS tk,(fd.scope.names.all (λy=>decide (y.2≠ .cell))=true->tk=st.tk+bl.2.length)->Fr c.h₀ c.L g (c.fm st.loc)->Ent w NN D b (c.sub A' fd f L' g cells bl.2) RR bl.1 st.led {st with loc:=bl.2,tk:=tk} {s with heap:=aS,toks:=tk} λf ao=>k f {ao with loc:=st.loc}) (q:∀f ao s',Nx w c st ao s'->tA ao.led f->k f ao->RR (.ok (.ret (BR f))) s'):codeAny (aG PG w) A' (.call (.ref f) ⟨vals vs,[]⟩) RR s:=by
 refine aJ h λbl rk ji=> ?_
 obtain ⟨us,ds,e0,F⟩:=PA rk
 rw [e0] at ji
 have nl:(fd.params.args.map (·.arg)).length=fd.params.args.length:=j0 ..
 have lu:us.length=(fd.params.args.map (·.arg)).length:=by
  rw [F.us,ib,j0,mh,nl]
  exact FK F.l3 F.l2
 have ho:(KK w.params).lookup f=some ⟨oc,od,.func (fnOf fd.name fd.qualname fd.params bl.1 fd.scope fd.defaults fd.kwdefaults fd.doc fd.pyModule fd.annotations fd.code fd.closureTuple),jd⟩:=ho.trans (bW (λz:i9=>some (⟨oc,od,.func z,jd⟩:av)) F.e)
 have hb:BindsTo s (fnOf fd.name fd.qualname fd.params bl.1 fd.scope fd.defaults fd.kwdefaults fd.doc fd.pyModule fd.annotations fd.code fd.closureTuple) ⟨vals vs,[]⟩ ((fd.params.args.map (·.arg)).zip (vals us)):=by
  refine kp_binds (O.X.keeps R.fr.keep) λS=> ?_
  obtain ⟨o,e1,e2⟩:=Pu F.ds S
  have:=NS (fnOf fd.name fd.qualname fd.params bl.1 fd.scope fd.defaults fd.kwdefaults fd.doc fd.pyModule fd.annotations fd.code fd.closureTuple) (vals vs) ds (fd.params.args.map (·.arg)) rfl F.p1 F.p2 F.p3 F.p4 F.nd (by rw [nl];exact F.l1) (by rw [nl,eh];exact F.l2) (by rw [nl,eh];exact F.l3) (KK w.params) S o e1 e2
  rw [this,F.us,kR,yu,eh,nl]
 have e1:∀{L'},bindL (envOfC fd.qualname fd.scope L' f fd.code).kindOf ((fd.params.args.map (·.arg)).zip (vals us)) (λj=>none)=kT fd.scope ((fd.params.args.map (·.arg)).zip us):=λ{L'}=>funext λy=>yC F.nd (λj j=>rfl) y
 have mz:∀{y:ai×aa},y∈(fd.params.args.map (·.arg)).zip (vals us)->y.1∈fd.params.args.map (·.arg):=λ{y} hy=>(Au (a:=y.1) (b:=y.2) hy).1
 have d1:A'.depth<recursionLimit:=gZ (oZ _ _) hd
 by_cases hc:fd.scope.names.all (λy=>decide (y.2≠ .cell))=true
 ·have hc:∀x∈fd.scope.names,x.2≠ .cell:=λx hx=>cJ (nK.mp hc x hx)
  have loc:∀y∈fd.params.args.map (·.arg),fd.scope.names.lookup y=some .local:=λy hy=>(F.lo y hy).resolve_right λh=>hc _ (mem_of_lookup h) rfl
  have cf:∀(l:List (ai×jI)) (n:Nat),(∀x∈l,x.2≠ .cell)->cellsFrom n l []=[]:=λl=>by
   induction l with
   |nil=>exactλj j=>rfl
   |cons x l ih=>
    intro n hx
    unfold cellsFrom
    rw [d7 (by simpa using hx x (.head _))]
    exact ih n λy hy=>hx y (.tail _ hy)
  have ce:∀L',gz fd.qualname fd.scope L' f fd.code=envOfC fd.qualname fd.scope L' f fd.code:=λL'=>by
   show envX _ _ _ _ _ []=envX _ _ _ _ _ (cellsFrom _ _ _)
   rw [cf _ _ hc]
  refine code_def O.B R.fr O.X R.nw O.T hA rfl O.hk ho F.cd d1 hb (λy hy=>loc _ (mz hy)) (λg L' aS FG F' N' B' X' T'=> ?_) F.co F.ge F.k hc
  have e2:(λy=>((fd.params.args.map (·.arg)).zip (vals us)).reverse.lookup y)=kT fd.scope ((fd.params.args.map (·.arg)).zip us):=funext λy=>by
   rw [<-e1 (L':=L'),Hm λx hx=>loc _ (mz hx)]
   cases nJ y _<;>rfl
  rw [e2] at F'
  have tl:((fd.params.args.map (·.arg)).zip (vals us)).length=((fd.params.args.map (·.arg)).zip us).length:=by rw [List.length_zip,List.length_zip,eh]
  have Y:CellsAre (bindC (envOfC fd.qualname fd.scope L' f fd.code).kindOf ((fd.params.args.map (·.arg)).zip (vals us)) λj=>none) (cellsFrom (L'+1) fd.scope.names []) []:=by
   rw [cf _ _ hc]
   exact .nil
  have z:=Hq O R hv F (O.sub F lu hA hh hd hu B' X' T' Y) F' N' (λj j j h=>nomatch h) (ji L' g [] aS _ (λj=>rfl) FG) q
  rw [tl,R.tk,ce]
  exact z
 ·refine code_defC O.B R.fr O.X R.nw O.T hA rfl O.hk ho F.cd d1 hb (nK.mpr λy hy=>(sE _ _).mpr ((F.lo _ (mz hy)).imp ik.mpr ik.mpr)) F.nc (λg L' aS tk cells FG F' N' Y B' X' T' hl=> ?_) F.co F.ge F.k
  rw [e1] at F'
  exact Hq O R hv F (O.sub F lu hA hh hd hu B' X' T' Y) F' N' (λp hp r hr e=>xr _ (nF (hl p hp) (e▸Pw Y (BZ (qv _) λj h=>nomatch h) r hr))) (ji L' g cells aS tk (λe=>absurd e hc) FG) q
theorem Hs {c:Cx} {b:Nat} {fd:i9} {vs:List SV} {st:St} {k:Option SV->St->Prop} {s:ak} {RR:kB->ak->Prop} {A':bZ} {f:ac} {oc:aa} {od:Option ac} {jd:Array (Option aa)} {b₀:Nat} (O:c.Ok w NN D b₀) (R:Rep w c st s) (hv:∀v∈vs,aX st.led v)
 (ho:(KK w.params).lookup f=some ⟨oc,od,.func fd,jd⟩) (hA:A'.frames=some (c.env::c.outer)) (hh:A'.handled=none) (hd:A'.depth+(1+(b+D))<recursionLimit) (hu:A'.units+(3+(8*b+8*D))<cLine)
 (h:Bx (KK w.params) r b fd vs st k) (q:∀f ao s',Nx w c st ao s'->tA ao.led f->k f ao->RR (.ok (.ret (BR f))) s'):codeAny (aG PG w) A' (.call (.ref f) ⟨vals vs,[]⟩) RR s:=Hr O R hv ho hA hh hd hu (Hp h λbl z ji L' g cells aS tk ht z O2 F2 R2 Q q2=>I.fh O2 F2 R2 (k:=λf ao=>k f {ao with loc:=st.loc}) (by
 cases hc:fd.scope.names.all (λy=>decide (y.2≠ .cell)) with
 |true=>rw [hc] at ji;rw [ht hc];exact ji
 |false=>rw [hc] at ji;exact ji tk) q2) q
theorem PD {c:Cx} {b n:Nat} {vs:List SV} {st:St} {k:SV->St->Prop} {s:ak} {Q E:aa->ak->Prop} (O:c.Ok w NN D (b+2)) (R:Rep w c st s) (hv:∀v∈vs,aX st.led v) (h:GA (KK w.params) r b n vs st k)
  (q:Kont w c st k Q):aC (aG PG w) c.A (call (.ref n) (vals vs)) Q E s:=by
 refine bv h λhm h=> ?_
 refine aJ h λo hi h=> ?_
 refine aJ h λg e1 h'=> ?_
 subst e1
 refine aJ h' λfI e1 h'=> ?_
 cases qP e1
 refine bv h' λhf h'=> ?_
 refine aJ h' λfd e2 h'=> ?_
 obtain ⟨oc,od,jd,e2⟩:=BY e2
 have hd:=O.hd
 have hu:=O.hu
 refine call_cls R.fr O.X R.nw hm hi hf λx dx h1 F' N' l1 l2=> ?_
 have R1:=R.alloc (a:=dx) (o:=.dict [] 0) (h':=h1) F' (λp hp=>N' p (.tail _ hp)) (λp hp=>cL (l1 p hp)) (λx hx=>nomatch hx)
 have R2:=R1.alloc (a:=x) (o:=.inst n st.led.length dx) (h':=h1) F' (λp hp=>by
  rcases bj.mp hp with rfl|hp
  ·exact N' _ (.head _)
  ·rcases vJ hp with e|hp
   ·rw [e];exact N' _ (.tail _ (.head _))
   ·exact N' _ (.tail _ (.tail _ hp))) (λp hp=>by
  rcases vJ hp with e|hp
  ·rw [e];exact cL l2
  ·exact cL (nF (l1 p hp) l2)) ⟨_,ym (kh _ _),rfl⟩
 have ex:Ext st.led (st.led++[⟨dx,.dict [] 0,true⟩]++[⟨x,.inst n st.led.length dx,true⟩]):=(Ext.app _ _).trans (Ext.app _ _)
 have zx:(st.led++[⟨dx,.dict [] 0,true⟩]++[⟨x,.inst n st.led.length dx,true⟩])[st.led.length+1]? =some (⟨x,.inst n st.led.length dx,true⟩:LE):=by
  have:=kh (st.led++[⟨dx,.dict [] 0,true⟩]) ⟨x,.inst n st.led.length dx,true⟩
  rw [ib] at this
  exact this
 have h:=h' x dx
 rw [show st.led++[⟨dx,.dict [] 0,true⟩,⟨x,.inst n st.led.length dx,true⟩]=st.led++[⟨dx,.dict [] 0,true⟩]++[⟨x,.inst n st.led.length dx,true⟩] from by rw [mf];rfl] at h
 refine Hs I (vs:=.own (st.led.length+1) x::vs) O R2 (λv hm=> ?_) e2 O.hA O.hh (by show c.A.depth+1+_<_;omega) (by show c.A.units+1+_<_;omega) h λf ao s' N ok hk=> ?_
 ·rcases bj.mp hm with rfl|hm
  ·exact ⟨_,zx,rfl⟩
  ·exact (hv v hm).ext ex
 ·cases f with
  |none=>
   obtain ⟨e',e1,e2,z⟩:=N.ext _ _ zx
   exact ⟨rfl,q (.own _ x) ao s' ⟨N.rep,ex.trans N.ext,N.loc⟩ ⟨e',e1,e2⟩ hk⟩
  |some z=>exact hk.elim
theorem B2 {tab:List (Nat×Spec)} (T:∀n σ,n6 tab n=some σ->eG w NN D n σ) {c:Cx} {b:Nat} {f:aa} {vs:List SV} {st:St} {k:SV->St->Prop} {s:ak} {Q E:aa->ak->Prop} (O:c.Ok w NN D b) (R:Rep w c st s) (hv:∀v∈vs,aX st.led v)
  (h:jP (KK w.params) tab r b f vs st k) (q:Kont w c st k Q):aC (aG PG w) c.A (call f (vals vs)) Q E s:=by
 cases f with
 |builtin T=>exact OY O.hh R hv h q
 |ref n=>
  refine eg h (λσ e1 h=> ?_) λz h=> ?_
  ·exact T n _ e1 c vs st k s Q E ⟨O.hn,O.B,O.X,O.T,O.hh,O.hA,O.hk,gZ (by omega) O.hd,gZ (by omega) O.hu,O.kd,O.hg,O.ko,O.lo,O.ce⟩ R hv h q
  ·cases b with
   |zero=>exact h.elim
   |succ b=>
    have hd:=O.hd
    have hu:=O.hu
    refine eg h (λfd e1 h=> ?_) λz h=> ?_
    ·obtain ⟨oc,od,jd,e1⟩:=BY e1
     exact oX (Hs I O R hv e1 O.hA O.hh (by omega) (by omega) h λf ao s' N ok hk=>by
      cases f with
      |none=>exact q (.lit .none) ao s' N trivial hk
      |some v=>exact q v ao s' N ok hk)
    ·cases b with
     |zero=>exact h.elim
     |succ b=>exact PD I O R hv h q
 |type T=>
  cases vs with
  |nil=>exact h.elim
  |cons v vs=>cases vs with
   |nil=>exact OT R (hv _ (.head _)) h q
   |cons=>exact h.elim
 |_=>exact h.elim
end
theorem tJ {w:ah} {NN:Led} {D:Nat} {tab:List (Nat×Spec)} {G:Cfg} {H:Hint} (hG:jh w NN D G) (T:∀n σ,n6 tab n=some σ->eG w NN D n σ) (n:Nat):is w NN D (Ev.jf (KK w.params) tab G H n):=by
 induction n with
 |zero=>exact ⟨λy y h=>h.elim,λy y h=>h.elim,λy y y h=>h.elim,λy y y h=>h.elim⟩
 |succ n ih=>exact ⟨λO R h q=>(vD h).elim (λ⟨z,e,h⟩=>hG.xs _ _ e ih O R h q) λ⟨z,h⟩=>gi ih hG.rd O R h q,λO R h q=>Pl ih hG.rd O R h q,λO hF R h q=>Pt ih hG.ss O hF R h q,λO R hv h q=>B2 ih T O R hv h q⟩
end
section
theorem cD {p q:Prop} (h:p=q) (x:q):p:=h▸x
theorem PE {A:bZ} {cn:ai} {cs:bD} {L a:ac} {bX:aa} {cl:List (ai×ac)} {outer:List cu} (h1:A.handled=none) (h2:A.frames=some (envX cn cs L a bX cl::outer)):A=gy A.depth A.units A.guards cn cs L a bX cl outer:=by
 obtain ⟨h,d,f,g,u⟩:=A
 dsimp only at h1 h2
 subst h1 h2
 rfl
theorem Cx.Ok.top {w:ah} {NN:Led} {D b:Nat} {c:Cx} (O:c.Ok w NN D b):c.A=gy c.A.depth c.A.units c.A.guards c.cn c.cs c.L c.a c.bX c.cl c.outer:=PE O.hh O.hA
noncomputable def pairs (led:List LE):List SV->List (ac×ac)
 |[]=>[]
 | .own i a::r=>(match led[i]? with|some e=>(e.a,a)|none=>(0,1))::pairs led r
 |z::r=>pairs led r
noncomputable def Ht:SO->List SV
 | .inst z i d=>[.own i d]
 | .dict es z=>es.map (·.2.2)
 | .part z y fs=>fs.map (·.2)
 | .tup vs z=>vs
 | .lst vs z=>vs
 | .raw z=>[]
noncomputable def jj:List LE->List SV
 |[]=>[]
 |e::r=>Ht e.o++jj r
def Hu:SO->Prop
 | .part es z fs=>∀x∈fs,getL x.1 es=some (some x.2.val)
 | .raw o=>o.isFreed=false
 |_=>True
noncomputable def side:List LE->Prop
 |[]=>True
 |e::r=>Hu e.o/\side r
theorem lJ {led:List LE}:∀{l:List SV},(∀p∈pairs led l,p.1=p.2)-> ∀v∈l,aX led v
 |[],z,y,h=>nomatch h
 | .lit z::r,h,v,hv=>by
  rcases bj.mp hv with rfl|hv
  ·trivial
  ·exact lJ (l:=r) h v hv
 | .opt z y::r,h,v,hv=>by
  rcases bj.mp hv with rfl|hv
  ·trivial
  ·exact lJ (l:=r) h v hv
 | .ag z::r,h,v,hv=>by
  rcases bj.mp hv with rfl|hv
  ·trivial
  ·exact lJ (l:=r) h v hv
 | .kn z y j::r,h,v,hv=>by
  rcases bj.mp hv with rfl|hv
  ·trivial
  ·exact lJ (l:=r) h v hv
 | .own i a::r,h,v,hv=>by
  rcases bj.mp hv with rfl|hv
  ·have:=h _ (.head _)
   show∃e:LE,_
   cases q:led[i]? with
   |none=>rw [q] at this;cases this
   |some e=>rw [q] at this;exact ⟨e,rfl,this⟩
  ·exact lJ (l:=r) (λp hp=>h p (.tail _ hp)) v hv
theorem PF {led:List LE} {o:SO} (hv:∀v∈Ht o,aX led v) (hs:Hu o):gr led o:=by
 cases o with
 |inst C i d=>exact hv (.own i d) (.head _)
 |dict es n=>exactλy hy=>hv _ (Ax hy)
 |part es n fs=>exactλy hy=>⟨hv _ (Ax hy),hs y hy⟩
 |tup vs n=>exact hv
 |lst vs n=>exact hv
 |raw o=>exact hs
theorem yD {led:List LE}:∀{l:List LE},(∀v∈jj l,aX led v)->side l-> ∀(i:Nat) (e:LE),l[i]? =some e->gr led e.o
 |[],z,y,i,e,h=>by cases h
 |x::r,hv,hs,0,e,h=>by cases h;exact PF (λv q=>hv v (aq _ q)) hs.1
 |x::r,hv,hs,i+1,e,h=>yD (l:=r) (λv q=>hv v (ay _ q)) hs.2 i e h
theorem tL {l:List (ac×ac)} (h:l.map (·.1)=l.map (·.2)):∀p∈l,p.1=p.2:=by
 induction l with
 |nil=>intro p hp;cases hp
 |cons x r ih=>
  intro p hp
  injection h with h1 h2
  rcases bj.mp hp with rfl|hp
  ·exact h1
  ·exact ih h2 p hp
def Sep (l:List ac) (oth:Led):Prop:=l.Nodup/\ ∀a∈l,∀p∈oth,p.1≠a
def cE (P:aB) (cM:Led->Led->aa->Prop) (news:Led) (led:List LE) (oth:Led) (r:SV):Prop:=cM news (bo P led++oth) r.val
theorem Rep.sep {w:ah} {c:Cx} {st:St} {s:ak} (R:Rep w c st s):Sep ((st.led.filter (·.f)).map (·.a)) st.oth:=by
 refine ⟨?_,λa ha p hp=> ?_⟩
 ·refine List.pairwise_map.mpr (List.pairwise_filter.mpr (List.pairwise_iff_getElem.mpr λi j hi hj B3 h1 h2 q=> ?_))
  have:=(R.ap i _ (qw hi) h1).2 j _ (qw hj) q.symm
  exact Nat.ne_of_gt B3 this
 ·obtain ⟨e,he,rfl⟩:=ew.mp ha
  obtain ⟨he,hf⟩:=j8.mp he
  obtain ⟨i,hi⟩:=pc.mp he
  exact (R.ap i e hi hf).1 p (aq _ hp)
theorem mem_filter {P:aB} {q:ac×av} {l:List LE} (h:q∈bo P (l.filter (·.f))):∃(i:Nat) (e:LE),l[i]? =some e/\e.f=true/\q=(e.a,e.o.obj P):=by
 obtain ⟨i,e,he,rfl⟩:=ki h
 obtain ⟨he,hf⟩:=j8.mp (et he)
 obtain ⟨j,hj⟩:=pc.mp he
 exact ⟨j,e,hj,hf,rfl⟩
noncomputable def Cx.top (p:cP) (loose:List ai) (bH:gp->Option aa) (mg mb:ai->Option aa) (dp un:Nat) (gd:Option (List gN)) (cn:ai) (cs:bD) (a:ac) (bX:aa) (cl:List (ai×ac)) (outer:List cu) (A₀:bZ) (base h₀:bA) (L:ac) (m:ai->Option aa) (news:Led) (s:ak):Cx:=
 {p,loose,bH,mg,mb,A:=gy dp un gd cn cs L a bX cl outer,cn,cs,L,a,bX,cl,outer,A₀,base,h₀,eY:=[],news,en:=s,fm:=λz=>m,jv:=λl=>l=[],ee:=envX cn cs L a bX cl,es:={cs with names:=[]}}
theorem Cx.B4 {w:ah} {D b:Nat} {p:cP} {loose:List ai} {bH:gp->Option aa} {mg mb:ai->Option aa} {dp un:Nat} {gd:Option (List gN)} {cn:ai} {cs:bD} {a:ac} {bX:aa} {cl:List (ai×ac)} {outer:List cu} {A₀:bZ} {base h₀:bA} {L:ac} {m:ai->Option aa} {news:Led} {s:ak}
  (B:fx A₀ base outer h₀) (X:(KK w.params).In h₀) (T:Top p loose bH mg mb h₀) (hk:cs.kind= .function) (hd:dp+(b+D)<recursionLimit) (hu:un+(8*b+8*D)<cLine):(Cx.top p loose bH mg mb dp un gd cn cs a bX cl outer A₀ base h₀ L m news s).Ok w news D b:=
 ⟨rfl,B,X,T,rfl,rfl,hk,hd,hu,hk,⟨rfl,rfl⟩,λz z h=>(nomatch h),λz z h=>(nomatch h),λz h=>(nomatch h)⟩
theorem B6 {n b D cc:Nat} {u:Nat} (hD:b+D<=cc) (h:n+8*cc<u):n+(8*b+8*D)<u:=gZ (jq (Nat.mul_add 8 b D▸ly 8 hD) _) h
inductive Hv (w:ah) (f:Nat) (D b n:Nat) (H:Hint) (K:Led->SV->St->Prop) (news:Led) (vs:List aa):Prop where
 |mk (tab:List (Nat×Spec)) (G:Cfg) (led:List LE) (gj:List SV) (h1:jh w news D G) (h2:(∀n σ,n6 tab n=some σ->eG w news D n σ)) (h3:vs=vals gj) (h4:(∀p∈bo w.params led,p∈news)) (h5:side led) (h6:(∀v∈gj++jj led,aX led v)) (h7:(∀e∈led,e.f=false)) (h8:∀tk,jP (KK w.params) [] (Ev.jf (KK w.params) tab G H n) b (.ref f) gj ⟨[],led,[],tk⟩ (K news)):Hv w f D b n H K news vs
theorem jQ {w:ah} {f cc:Nat} {Pre:Led->List aa->Prop} {cM:Led->Led->aa->Prop} (D b n:Nat) (H:Hint) (hD:b+D<=cc) {K:Led->SV->St->Prop}
  (hK:∀news r (st:St),Sep ((st.led.filter (·.f)).map (·.a)) st.oth->aX st.led r->(∀(i:Nat) (e:LE),st.led[i]? =some e->gr st.led e.o)->K news r st->cM news (bo w.params (st.led.filter (·.f))++st.oth) r.val)
  (h:∀news vs,Pre news vs->Hv w f D b n H K news vs):Sp w f cc Pre cM:=by
 intro p loose bH mg mb dp un gd cn cs a bX cl outer A₀ base h₀ L m news s vs Q E B F X N T hk hd hu hp gb
 obtain ⟨tab,G,led,gj,hG,hT,rfl,aK,v7,rk,rm,ji⟩:=h news vs hp
 refine B2 (tJ hG hT n) (tab:=[]) (λz z e=>nomatch e) (c:=Cx.top p loose bH mg mb dp un gd cn cs a bX cl outer A₀ base h₀ L m news s) (b:=b) (st:=⟨[],led,[],s.toks⟩)
  (Cx.B4 B X T hk (gZ (jq hD _) hd) (B6 hD hu))
  ⟨⟨⟨λi e he hf=> ?_,λz z z z z h=>(nomatch h),λi e he z=>aK _ (gF he),λz h=>(nomatch h),yD (λv hv=>rk v (ay _ hv)) v7⟩,rfl,λz h=>(nomatch h)⟩,rfl,rfl,F,λq hq=>(aM.mp hq).elim (λhq=>N _ (aK _ hq)) λhq=>N _ hq⟩ (λv hv=>rk v (aq _ hv)) (ji _) λv ao s' N' ok hk=> ?_
 ·rw [rm e (et he)] at hf;cases hf
 ·have R:=N'.rep
  have hs:=R.same
  rw [hs]
  refine gb v.val (bo w.params (ao.led.filter (·.f))++ao.oth) s'.heap s'.toks R.fr (λq hq=> ?_) (λq hq p hp=> ?_) (hK _ _ _ R.sep ok (R.ir) hk)
  ·rcases aM.mp hq with hq|hq
   ·exact R.nw _ (jw hq)
   ·rcases aM.mp hq with hq|hq
    ·obtain ⟨i,e,he,hf,rfl⟩:=mem_filter hq
     exact R.nw _ (fJ he)
    ·exact R.nw _ (iP hq)
  ·rcases aM.mp hp with hp|hp
   ·obtain ⟨i,e,he,hf,rfl⟩:=mem_filter hp
    exact (R.ap i e he hf).1 q (ay _ hq)
   ·exact R.oo p hp q hq
theorem Hw {w:ah} {f cc:Nat} {Pre:Led->List aa->Prop} {cM:Led->Led->aa->Prop} (D b n:Nat) (H:Hint) (hD:b+D<=cc) {K:Led->SV->St->Prop}
  (hK:∀news r (st:St),Sep ((st.led.filter (·.f)).map (·.a)) st.oth->aX st.led r->(∀(i:Nat) (e:LE),st.led[i]? =some e->gr st.led e.o)->K news r st->cM news (bo w.params (st.led.filter (·.f))++st.oth) r.val)
  (h:∀news vs,Pre news vs-> ∃(tab:List (Nat×Spec)) (led:List LE) (gj:List SV),(∀n σ,n6 tab n=some σ->eG w news D n σ)/\vs=vals gj/\(∀p∈bo w.params led,p∈news)/\side led/\
   (pairs led (gj++jj led)).map (·.1)=(pairs led (gj++jj led)).map (·.2)/\led.map (·.f)=led.map (λz=>false)/\
   ∀tk,jP (KK w.params) [] (Ev.run (KK w.params) tab H n) b (.ref f) gj ⟨[],led,[],tk⟩ (K news)):Sp w f cc Pre cM:=jQ D b n H hD hK λnews vs hp=>by
 obtain ⟨tab,led,gj,hT,e,aK,v7,PH,rm,ji⟩:=h news vs hp
 exact ⟨tab,Cfg.none,led,gj,Cfg.gI,hT,e,aK,v7,lJ (tL PH),xC.mp rm,ji⟩
noncomputable def pK (f:List aa->Option (Prop×aa)):Spec:=λvs st k=>oK (f (vals vs)) λpr=>pr.1/\ ∀tk,k (.lit pr.2) {st with tk:=tk}
theorem B7 {w:ah} {NN:Led} {D cc f:Nat} {g:List aa->Option (Prop×aa)} (hc:cc<=D) (C:∀vs pr,g vs=some pr->pr.1->pp w f cc (λz us=>us=vs) (λu=>u=pr.2)):eG w NN D f (pK g):=by
 intro c vs st k s Q E O R hv h q
 refine aJ h λpr e h=> ?_
 have hd:=O.hd
 have hu:=O.hu
 rw [O.top]
 refine C _ _ e h.1 c.p c.loose c.bH c.mg c.mb _ _ _ _ _ _ _ _ _ c.A₀ c.base c.h₀ c.L (c.fm st.loc) (all w c st) s _ Q E O.B R.fr O.X R.nw O.T O.hk (by omega) (by omega) rfl λu h' bQ F' N' e=> ?_
 subst e
 exact q (.lit _) {st with tk:=bQ} _ ⟨⟨⟨R.tomD,R.lc,R.fz⟩,by show _=_;rw [R.same],rfl,F',N'⟩,Ext.refl _,rfl⟩ trivial (h.2 bQ)
theorem Rep.more {w:ah} {c:Cx} {st:St} {s:ak} {tl:Led} (R:Rep w c st s) (N:aU c.h₀ c.L s.heap tl) (ne:∀q∈all w c st,∀p∈tl,q.1≠p.1):Rep w c {st with oth:=st.oth++tl} s:=by
 refine ⟨⟨⟨λi e he hf=>⟨λp hp=> ?_,(R.ap i e he hf).2⟩,R.hd,λi e he hf=> ?_,λp hp x hx=> ?_,R.ir⟩,R.lc,R.fz⟩,R.same,R.tk,R.fr,λp hp=> ?_⟩
 ·rcases aM.mp hp with hp|hp
  ·rcases aM.mp hp with hp|hp
   ·exact (R.ap i e he hf).1 p (aq _ hp)
   ·exact (ne _ (fJ he) p hp).symm
  ·exact (R.ap i e he hf).1 p (ay _ hp)
 ·rcases aM.mp (R.vw i e he hf) with h|h
  ·exact aq _ (aq _ h)
  ·exact ay _ h
 ·rcases aM.mp hp with hp|hp
  ·exact R.oo p hp x hx
  ·exact ne x (ay _ (ay _ hx)) p hp
 ·rcases aM.mp hp with hp|hp
  ·exact R.nw p (aq _ hp)
  ·rcases aM.mp hp with hp|hp
   ·rcases aM.mp hp with hp|hp
    ·exact R.nw p (iP hp)
    ·exact N p hp
   ·exact R.nw p (ay _ (ay _ hp))
def cH (oth tl:Led):Prop:=∀x∈oth,∀p∈tl,x.1≠p.1
theorem Hx {w:ah} {NN:Led} {D f:Nat} {σ:Spec} {mk:aa->SV} (hm:∀r,(mk r).val=r) (ho:∀l r,aX l (mk r)) (C:∀vs (st:St) k (al:Led),(∀p∈bo w.params st.led,p∈al)->(∀p∈st.oth,p∈al)->(∀p∈NN,p∈al)->σ vs st k-> ∃cc Pre cM,Sp w f cc Pre cM/\cc<=D/\Pre al (vals vs)/\
  ∀r tl tk,cH al tl->cM al tl r->k (mk r) {st with oth:=st.oth++tl,tk:=tk}):eG w NN D f σ:=by
 intro c vs st k s Q E O R hv h q
 have hn:=O.hn
 subst hn
 obtain ⟨cc,Pre,cM,C2,hc,hp,hr⟩:=C vs st k (all w c st) (λp hp=>aq _ hp) (λp hp=>iP hp) (λp hp=>jw hp) h
 have hd:=O.hd
 have hu:=O.hu
 rw [O.top]
 refine C2 c.p c.loose c.bH c.mg c.mb _ _ _ _ _ _ _ _ _ c.A₀ c.base c.h₀ c.L (c.fm st.loc) (all w c st) s _ Q E O.B R.fr O.X R.nw O.T O.hk (by omega) (by omega) hp λu tl h' bQ F' N' ne PI=> ?_
 have q:=λx y z=>q (mk u) {st with oth:=st.oth++tl,tk:=bQ} x y z
 rw [hm] at q
 have R1:Rep w c {st with tk:=bQ} {s with heap:=h',toks:=bQ}:=⟨⟨R.tomD,R.lc,R.fz⟩,by show _=_;rw [R.same],rfl,F',λp hp=>N' p (aq _ hp)⟩
 exact q _ ⟨R1.more (λp hp=>N' p (ay _ hp)) ne,Ext.refl _,rfl⟩ (ho _ _) (hr u tl bQ ne PI)
theorem rn {w:ah} {NN:Led} {D f:Nat} {σ:Spec} {mk:aa->SV} (hm:∀r,(mk r).val=r) (ho:∀l r,aX l (mk r)) (C:∀vs (st:St) k (al:Led),(∀p∈bo w.params st.led,p∈al)->(∀p∈st.oth,p∈al)->(∀p∈NN,p∈al)->σ vs st k-> ∃cc Pre cM,Sp w f cc Pre cM/\cc<=D/\Pre al (vals vs)/\
 ∀r tl tk,cH st.oth tl->cM al tl r->k (mk r) {st with oth:=st.oth++tl,tk:=tk}):eG w NN D f σ:=Hx hm ho λvs st k al h1 h2 h3 hs=>(C vs st k al h1 h2 h3 hs).imp λcc h=>h.imp λPre h=>h.imp λcM h=>⟨h.1,h.2.1,h.2.2.1,λr tl tk hd hp=>h.2.2.2 r tl tk (λx hx=>hd x (h2 x hx)) hp⟩
noncomputable def tM (vs:List aa):Option (Int×af):=oB (vG vs) λv=>nZ v.1
noncomputable def B8 (vs:List aa):Option (Int×Int×Int):=match vs with
 |[]=>none
 |a::r=>oB (Gg r) λd=>oB (d6 a) λx=>oB (d6 d.1.1) λy=>(d6 d.1.2).map λz=>(x,y,z)
noncomputable def PJ (vs:List aa):Option (Prop×aa):=(tM vs).map λd=>(d.1<=60,.none)
noncomputable def PK (vs:List aa):Option (Prop×aa):=(tM vs).map λd=>(-1073741823<=d.1/\d.1<=1073741823,.int d.1 d.2)
noncomputable def PL (vs:List aa):Option (Prop×aa):=(tM vs).map λd=>(-2147483647<=d.1/\d.1<=2147483647,.int d.1 d.2)
noncomputable def PM (vs:List aa):Option (Prop×aa):=(tM vs).map λd=>(0<=d.1/\d.1<=255,.int d.1 d.2)
noncomputable def PN (vs:List aa):Option (Prop×aa):=(B8 vs).map λd=>(d.2.1<=d.1/\d.1<=d.2.2,.bool true)
noncomputable def PO (vs:List aa):Option (Prop×aa):=(B8 vs).map λd=>(True,.bool (decide (d.2.1<=d.1/\d.1<=d.2.2)))
noncomputable def eH:List (Nat×Spec):=[(688,pK PJ),(122,pK PK),(101,pK PN),(316,pK PM),(115,pK PL)]
noncomputable def mJ:List (Nat×Spec):=(101,pK PO)::eH
abbrev iG (w:ah) (NN:Led) (D:Nat) (tab:List (Nat×Spec)):Prop:=∀n σ,n6 tab n=some σ->eG w NN D n σ
theorem ey {w:ah} {NN:Led} {D n:Nat} {σ:Spec} {tab:List (Nat×Spec)} (h:eG w NN D n σ) (T:iG w NN D tab):iG w NN D ((n,σ)::tab):=λm τ e=>by
 unfold n6 at e
 split at e
 ·rename_i q
  cases e
  exact kD q▸h
 ·exact T m τ e
theorem iS {w:ah} {NN:Led} {D:Nat}:iG w NN D []:=λz z e=>nomatch e
theorem PP {vs:List aa} {d:Int×af} (h:tM vs=some d):vs=[.int d.1 d.2]:=cz h λv z h=>v.2.trans (bW (λx=>[x]) (pA h))
theorem Hy {vs:List aa} {d:Int×Int×Int} (h:B8 vs=some d):∃a b c,vs=[.int d.1 a,.int d.2.1 b,.int d.2.2 c]:=by
 cases vs with
 |nil=>cases h
 |cons v r=>
  refine cz h λe q h=>cz h λx h1 h=>cz h λy h2 h=>(iz.mp h).elim λz h=> ?_
  rw [e.2,<-h.2]
  exact (eS h1).elim λa e1=>(eS h2).elim λb e2=>(eS h.1).elim λc e3=>⟨a,b,c,by rw [e1,e2,e3]⟩
theorem yE {w:ah} {NN:Led} {D f cc:Nat} {p:Int->Prop} {u:Int×af->aa} (hc:cc<=D) (C:∀(d:Int) (t:af),p d->pp w f cc (λz vs=>vs=[.int d t]) (λr=>r=u (d,t))):eG w NN D f (pK λvs=>(tM vs).map λd=>(p d.1,u d)):=
 B7 hc λvs pr e hp=>by
  obtain ⟨d,e1,rfl⟩:=iz.mp e
  rw [PP e1]
  exact C d.1 d.2 hp
theorem dY {led:Led}:∀p∈([]:Led),p∈led:=λz h=>nomatch h
theorem bw {led r:Led} {a:ac×av} (h:a∈led) (hr:∀p∈r,p∈led):∀p∈a::r,p∈led:=bU.mpr ⟨h,hr⟩
theorem ez {w:ah} {NN:Led} {D:Nat} {xs:List ((Nat×Nat)×XS)} {iv:aW->St->Int->Nat} {ss:List ((Nat×Nat)×SS)}:mG w NN D ⟨xs,Cfg.none.rd,iv,ss⟩:=λz z z z h=>h.elim
theorem dZ {w:ah} {NN:Led} {D:Nat} {q:Nat×Nat} {x:XS} {X:List ((Nat×Nat)×XS)} (h:fj w NN D x) (T:∀p y,qV X p=some y->fj w NN D y):∀p y,qV ((q,x)::X) p=some y->fj w NN D y:=λp y e=>by
 unfold qV at e
 split at e
 ·cases e;exact h
 ·exact T p y e
theorem km {w:ah} {NN:Led} {D:Nat}:∀p y,qV [] p=some y->fj w NN D y:=λz z e=>nomatch e
theorem Hz {p:aW} {y:SS}:∀{X:List ((Nat×Nat)×SS)},ye X p=some y-> ∃e∈X,e.2=y
 |a::X,h=>by
  have h:(match ej a.1.1 p.line&&ej a.1.2 p.col with|true=>some a.2|false=>ye X p)=some y:=h
  cases q:ej a.1.1 p.line&&ej a.1.2 p.col with
  |true=>rw [q] at h;exact ⟨a,.head _,jK h⟩
  |false=>rw [q] at h;exact (Hz h).imp λe h=>⟨.tail _ h.1,h.2⟩
theorem pL {w:ah} {NN:Led} {D:Nat}:∀s y,vH [] s=some y->jz w NN D y:=λz z e=>nomatch e
theorem v8 {w:ah} {NN:Led} {D:Nat} {X:List ((Nat×Nat)×SS)} (h:∀e∈X,jz w NN D e.2):∀s y,vH X s=some y->jz w NN D y:=λs y e=>by
 refine gq e λz e=> ?_
 refine cz e λp z e=> ?_
 obtain ⟨a,ha,rfl⟩:=Hz e
 exact h a ha
end
section
noncomputable def yF:List SV->Option (SV×SV)
 |[]=>none
 |a::l=>match l with
  |[]=>none
  |b::l=>match l with
   |[]=>some (a,b)
   |z::y=>none
theorem B9 {l:List SV} {d:SV×SV} (h:yF l=some d):l=[d.1,d.2]:=by
 cases l with
 |nil=>cases h
 |cons a l=>
  cases l with
  |nil=>cases h
  |cons b l=>
   cases l with
   |nil=>cases h;rfl
   |cons=>cases h
noncomputable def PQ:(e:az)->Option (PSigma λd:(ai×aW)×(az×az×aW)=>e= .Call (.Name d.1.1 d.1.2) [d.2.1,d.2.2.1] [] d.2.2.2)
 | .Call (.Name x fp) [a,c] [] p=>some ⟨((x,fp),(a,c,p)),rfl⟩
 |_=>none
section
variable {w:ah} {NN:Led} {D:Nat}
theorem Kont.tick {c:Cx} {st:St} {s:ak} {k:SV->St->Prop} {Q:aa->ak->Prop} {v:SV} (q:Kont w c st k Q) (R:Rep w c st s) (ok:aX st.led v) {tk:af} (h:k v {st with tk:=tk}):Q v.val {s with toks:=tk}:=
 q v {st with tk:=tk} _ ⟨⟨⟨R.tomD,R.lc,R.fz⟩,by show _=_;rw [R.same],rfl,R.fr,R.nw⟩,Ext.refl _,rfl⟩ ok h
noncomputable def lK (w:ah) (F:SV->SV->St->(SV->St->Prop)->Prop):XS:=λr cs b e st k=>oK (PQ e) λd=>bK (noStar [d.1.2.1,d.1.2.2.1]) (fR (KK w.params) Cfg.none r cs b [] (.Name d.1.1.1 d.1.1.2) st λfv st=>bK (decide (ya fv.val=some "isinstance")) (lF r cs b [d.1.2.1,d.1.2.2.1] st λvs st=>oK (yF vs) λx=>F x.1 x.2 st k))
theorem Ca {F:SV->SV->St->(SV->St->Prop)->Prop} (hF:∀{c:Cx} {b:Nat} {st:St} {s:ak} {u v:SV} {k:SV->St->Prop} {Q:aa->ak->Prop} {E:aa->ak->Prop},c.Ok w NN D b->Rep w c st s->aX st.led u->aX st.led v->F u v st k->Kont w c st k Q->aC (aG PG w) c.A (call (.builtin "isinstance") [u.val,v.val]) Q E s):fj w NN D (lK w F):=by
 intro r I c b e st k s Q E O R h q
 refine aJ h λd z h=> ?_
 refine bv h λn h=> ?_
 rw [d.2]
 refine kH (gi I ez O R h λv aD s1 N ok hk=> ?_)
 refine bv hk λh1 hk=> ?_
 rw [Bc (cJ h1)]
 refine callWith_builtin1 (pF I O n N.rep hk λvs aE s2 N2 cI hc=> ?_) (fA (cW n).1) (iR (cW n).2)
 refine aJ hc λx e1 hd=> ?_
 cases B9 e1
 exact hF O N2.rep (cI x.1 (.head _)) (cI x.2 (.tail _ (.head _))) hd (q.after (N.trans N2))
def v9 (w:ah) (u v:SV) (st:St) (k:SV->St->Prop):Prop:=oK (nZ u.val) λz=>oK (kitOne (KK w.params) (.type "int") v.val) λb=>∀tk,k (.lit (.bool b)) {st with tk:=tk}
theorem yG:fj w NN D (lK w (v9 w)):=Ca λ{c b st s u v k Q E} O R _ _ h q=>by
 refine aJ h λd e1 h=> ?_
 refine aJ h λb e2 h=> ?_
 rw [pA e1]
 exact kia_one kitx_int (O.X.keeps R.fr.keep) trivial e2 (nomatch ·) λtk=>q.tick (v:=.lit (.bool b)) R trivial (h tk)
noncomputable def PR:(e:az)->Option (PSigma λd:(az×az×az)×aW=>e= .BoolOp .And [d.1.1,d.1.2.1,d.1.2.2] d.2)
 | .BoolOp .And [x,y,z] p=>some ⟨((x,y,z),p),rfl⟩
 |_=>none
noncomputable def HA (w:ah):XS:=λr cs b e st k=>oE (PR e) (λd=>r.ev cs b d.1.1.1 st λv st=>oK (qN v.val) λt=>bK t (r.ev cs b d.1.1.2.1 st λv st=>oK (qN v.val) λt=>bK t (r.ev cs b d.1.1.2.2 st k))) (lK w (v9 w) r cs b e st k)
theorem PS:fj w NN D (HA w):=by
 intro r I c b e st k s Q E O R h q
 refine eg h (λd z h=> ?_) λz h=>yG I O R h q
 rw [d.2]
 refine BoolOp_and (I.ev O R h λv aD s1 N z h=> ?_)
 refine aJ h λt e1 h=>bv h λe2 h=> ?_
 rw [tf e1]
 refine lw ?_
 rw [e2]
 refine BoolOp_and (I.ev O N.rep h λv aE s2 N2 z h=> ?_)
 refine aJ h λt e1 h=>bv h λe2 h=> ?_
 rw [tf e1]
 refine lw ?_
 rw [e2]
 exact BoolOp_one (I.ev O N2.rep h (q.after (N.trans N2)))
noncomputable def Cb (w:ah):Cfg:=⟨[((23,11),HA w),((23,43),lK w (v9 w)),((25,11),lK w (v9 w)),((25,37),lK w (v9 w))],Cfg.none.rd,Cfg.none.iv,[]⟩
theorem PU:jh w NN D (Cb w):=⟨λ{_ _ _ _ _ _ _}=>ez,v8 (λz h=>nomatch h),dZ PS (dZ yG (dZ yG (dZ yG km)))⟩
theorem HB {vs:List aa} {l:List LE} (v:SV) (hv:v∈vs.map SV.lit++[]):aX l v:=by
 rw [iy] at hv
 obtain ⟨x,z,rfl⟩:=ew.mp hv
 trivial
theorem wa {f cc:Nat} {vs:List aa} {u:aa} (D b:Nat) (hD:b+D<=cc) (H:Hint) (h:∀tk,jP (KK w.params) [] (Ev.jf (KK w.params) [] (Cb w) H 40) b (.ref f) (vs.map .lit) ⟨[],[],[],tk⟩ λr z=>r.val=u):pp w f cc (λz us=>us=vs) λr=>r=u:=by
 intro p loose bH mg mb dp un gd cn cs a bX cl outer A₀ base h₀ L m news s us Q E B F X N T hk hd hu hp gb
 have S:Sp w f cc (λz us=>us=vs) λz z r=>r=u:=jQ D b 40 H hD (K:=λz r z=>r.val=u) (λz z z z z z h=>h) λnews us e=>⟨[],Cb w,[],vs.map .lit,PU,iS,e.trans (yu vs).symm,λz h=>(nomatch h),trivial,HB,λz h=>(nomatch h),h⟩
 ·exact S p loose bH mg mb dp un gd cn cs a bX cl outer A₀ base h₀ L m news s us Q E B F X N T hk hd hu hp λr tl h' bQ F' N' z e=>gb r h' bQ F' (λp hp=>N' p (aq _ hp)) e
end
theorem HC {A B p:Prop} [Decidable p] (h:p) (b:B):@qu (λz=>Prop) A B (decide p):=by rw [gW h];exact b
theorem HD {A B p:Prop} [Decidable p] (h:¬p) (a:A):@qu (λz=>Prop) A B (decide p):=by rw [decide_eq_false h];exact a
theorem PX {A B p:Prop} [Decidable p] (h:p) (a:A):@qu (λz=>Prop) A B (!decide p):=by rw [gW h];exact a
theorem Cc {v lo hi:Int} {b:Prop} (h1:lo<=v) (h2:v<=hi) (h:b) (_ _:af):@qu (λz=>Prop) False (@qu (λz=>Prop) b False (!decide (v<=hi))) (decide (lo<=v)):=HC h1 (PX h2 h)
theorem HF (w:ah) (v lo hi:Int) (t t1 t2:af):pp w 101 4 (λz vs=>vs=[.int v t,.int lo t1,.int hi t2]) (λr=>r= .bool (decide (lo<=v/\v<=hi))):=wa 2 1 (by decide) [] λtk=>fQ (by kernel_rfl:_= ∀(_ _:af),@qu (λz=>Prop) (fX false= .bool (decide (lo<=v/\v<=hi))) (fX (decide (v<=hi))= .bool (decide (lo<=v/\v<=hi))) (decide (lo<=v))) λz z=>by
 by_cases h:lo<=v
 ·exact HC h (bW fX (decide_eq_decide.mpr (and_iff_right h).symm))
 ·exact HD h (bW fX (decide_eq_false λx=>h x.1).symm)
theorem PY (w:ah) (v:Int) (t:af) (h1:-2147483647<=v) (h2:v<=2147483647):pp w 115 6 (λz vs=>vs=[.int v t]) (λr=>r= .int v t):=wa 2 2 (by decide) [] λtk=>fQ (by kernel_rfl) (Cc h1 h2 (rfl:am v t= .int v t))
theorem PZ (w:ah) (v:Int) (t:af) (h1:-1073741823<=v) (h2:v<=1073741823):pp w 122 6 (λz vs=>vs=[.int v t]) (λr=>r= .int v t):=wa 2 2 (by decide) [] λtk=>fQ (by kernel_rfl) (Cc h1 h2 (rfl:am v t= .int v t))
theorem P0 (w:ah) (v:Int) (t:af) (h1:0<=v) (h2:v<=255):pp w 316 6 (λz vs=>vs=[.int v t]) (λr=>r= .int v t):=wa 2 2 (by decide) [] λtk=>fQ (by kernel_rfl) (Cc h1 h2 (rfl:am v t= .int v t))
theorem P1 (w:ah) (v:Int) (t:af) (h1:v<=60):pp w 688 2 (λz vs=>vs=[.int v t]) (λr=>r= .none):=wa 1 1 (by decide) [] λtk=>fQ (by kernel_rfl) (HD (A:=aY=aY) (B:=False) (show¬v>60 from sN.mpr h1) rfl)
end
section
section
variable {prog:cP} {w:ah} {A:bZ} {E:aa->ak->Prop} {s:ak} {K:eE} {h₀:bA} {L a:ac} {m mg mb:ai->Option aa} {cn:ai} {cs:bD} {bX:aa} {cl:List (ai×ac)} {p:cP} {loose:List ai}
 {x y:ai} {k c:Int} {t u:af} {p1 p2 p3 p4:aW} {ck:Nat} {body:List bP} {Q:eK->ak->Prop}
end
end
section
inductive Tr where
 |mk (k:Nat) (ns:List Nat) (inner:List Tr)
noncomputable def spans:List (List Nat):=[[2,12,12,12,12,3,4,12],[2,12],[2,12,12,2,2],[4,4,4],[12,4],[12,12,4,12,4,6],[12,3,2,12],[12],[12,12,12],[12,12],[12,12,12,12,12],[],[2,12],[12,12],[12,12,12,4,12,12,2]]
noncomputable def bz (k:Nat):List Nat:=(spans[k]?).getD []
noncomputable def dm:List Nat->List Nat->Prop
 |[],[]=>True
 |n::r,s::t=>n<s/\dm r t
 |z,y=>False
noncomputable def held (k:Nat):Bool:=k==0||k==10||k==11||k==14
mutual
noncomputable def WF:Tr->Prop
 | .mk k ns inner=>k<15/\dm ns (bz k)/\(held k=false->inner=[])/\inner.length<=50/\dK inner
noncomputable def dK:List Tr->Prop
 |[]=>True
 |t::r=>WF t/\dK r
end
mutual
noncomputable def hg:Tr->Nat
 | .mk z y inner=>cA inner
noncomputable def cA:List Tr->Nat
 |[]=>0
 |t::r=>max (hg t+1) (cA r)
end
noncomputable def sz (n:Nat):Option Int:=if n=0 then none else some ((n:Int) -2)
noncomputable def iT (f:Nat):Int:=([0,4,5,100,108,115][f]?).getD 0
mutual
noncomputable def nd:Tr->Nd
 | .mk 0 [a,b,c,d,e,f,g,h] l=>.box (2+a) b c d e f g h 5 (bO l)
 | .mk 1 [a,b] z=>.char (1+a) (97+b)
 | .mk 2 [a,b,c,d,e] z=>.gP (1+a) (97+b) 97 (97+c) ((d:Int)==1) ((e:Int)==1)
 | .mk 3 [a,b,c] z=>.rule (sz a) (sz b) (sz c)
 | .mk 4 [a,b] z=>.fy ((a:Int) -6) b
 | .mk 5 [a,b,c,d,e,f] z=>.skip ⟨a,(b:Int)+1,c,(d:Int) -12,e⟩ (iT f)
 | .mk 6 [a,b,c,d] z=>.lead ⟨a,0,0,0,0⟩ (1+b) (if c=0 then .rule (some (d:Int)) none (some 2) else .box 2 d 3 1 d 0 0 0 1 [])
 | .mk 7 [a] z=>.dk ((a:Int) -6)
 | .mk 8 [a,b,c] z=>.dX [.char 1 a] [.fy b 1] [.char 2 97,.fy c 0]
 | .mk 9 [a,b] z=>.mark a b
 | .mk 10 [a,b,c,d,e] l=>.ins a b c ⟨d,0,0,0,0⟩ ((e:Int) -5) (bO l)
 | .mk 11 z l=>.eR (bO l)
 | .mk 12 [a,b] z=>.math ((a:Int)==1) b
 | .mk 13 [a,b] z=>.spec (nP a) (nP (b+200))
 | .mk 14 [a,b,c,d,e,f,g] l=>.unset a b c (1+d) e f ((g:Int)==1) (bO l)
 |_=>.eR []
noncomputable def bO:List Tr->List Nd
 |[]=>[]
 |t::r=>nd t::bO r
end
noncomputable def IV:List aa->List Nat->Prop
 |[],[]=>True
 |v::vs,n::ns=>(∃t,v= .int (n:Int) t)/\IV vs ns
 |z,y=>False
structure P2 where
 x:ac
 qn:ac
 qi:ac
 t:af
 vs:Array aa
 n0:Nat
 n1:Nat
 us:Array aa
 n2:Nat
mutual
noncomputable def TR (led:Led):Tr->aa->Prop
 | .mk k ns inner,v=>∃e:P2,match e with|⟨x,qn,qi,t,vs,n0,n1,us,n2⟩=>v= .ref x/\(x,(⟨.type "tuple",none,.seq #[.int (k:Int) t,.ref qn,.ref qi] n0,#[]⟩:av))∈led/\(qn,(⟨.type "tuple",none,.seq vs n1,#[]⟩:av))∈led/\IV vs.toList ns/\(qi,(⟨.type "tuple",none,.seq us n2,#[]⟩:av))∈led/\bF led inner us.toList
noncomputable def bF (led:Led):List Tr->List aa->Prop
 |[],vs=>vs=[]
 |t::r,vs=>∃v vr,vs=v::vr/\TR led t v/\bF led r vr
end
mutual
theorem TR.mono {led led':Led} (sub:∀p∈led,p.2.cls= .type "tuple"->p∈led'):∀(t:Tr) (v:aa),TR led t v->TR led' t v
 | .mk k ns inner,v,h=>by
  obtain ⟨⟨x,qn,qi,t,vs,n0,n1,us,n2⟩,h0,h1,h2,h3,h4,h5⟩:=h
  exact ⟨⟨x,qn,qi,t,vs,n0,n1,us,n2⟩,h0,sub _ h1 rfl,sub _ h2 rfl,h3,sub _ h4 rfl,bF.mono sub _ _ h5⟩
theorem bF.mono {led led':Led} (sub:∀p∈led,p.2.cls= .type "tuple"->p∈led'):∀(t:List Tr) (v:List aa),bF led t v->bF led' t v
 |[],z,h=>h
 |z::y,q,h=>by
  obtain ⟨v,vr,e,h1,h2⟩:=h
  exact ⟨v,vr,e,TR.mono sub _ _ h1,bF.mono sub _ _ h2⟩
end
theorem bF.len {led:Led}:∀{ts:List Tr} {vs:List aa},bF led ts vs->vs.length=ts.length
 |[],z,h=>by rw [show _=[] from h];rfl
 |z::y,q,h=>by
  obtain ⟨v,vr,rfl,h1,h2⟩:=h
  simp [bF.len h2]
theorem bF.at {led:Led}:∀{ts:List Tr} {vs:List aa},bF led ts vs-> ∀(i:Nat) (v:aa),vs[i]? =some v-> ∃t,ts[i]? =some t/\TR led t v
 |[],z,h,i,v,e=>by rw [show _=[] from h] at e;simp at e
 |t::r,z,h,i,v,e=>by
  obtain ⟨v',vr,rfl,h1,h2⟩:=h
  cases i with
  |zero=>simp at e;subst e;exact ⟨t,rfl,h1⟩
  |succ i=>simpa using bF.at h2 i v (by simpa using e)
theorem bF.snoc {led:Led}:∀{ts:List Tr} {vs:List aa} {t:Tr} {v:aa},bF led ts vs->TR led t v->bF led (ts++[t]) (vs++[v])
 |[],z,t,v,h,h'=>by rw [show _=[] from h];exact ⟨v,[],rfl,h',rfl⟩
 |t0::r,z,t,v,h,h'=>by
  obtain ⟨v',vr,rfl,h1,h2⟩:=h
  exact ⟨v',vr++[v],rfl,h1,bF.snoc h2 h'⟩
theorem pM:∀{l:List Tr},(bO l).length=l.length
 |[]=>rfl
 |a::l=>by
  show(bO l).length+1=l.length+1
  rw [pM]
def lL (P:aB) (led:Led) (fq:ac):Prop:=∃(f0 f1:ac) (n:Nat),(fq,(⟨.type "list",none,.seq #[.ref f0,.ref f1] n,#[]⟩:av))∈led/\FN P led f0 1/\FN P led f1 2
def HG (w:ah) (led:Led) (t:Tr) (fq:ac) (news:Led) (vs:List aa):Prop:=(∀p∈led,p∈news)/\ ∃v,vs=[v,.ref fq]/\TR led t v/\lL w.params led fq
def dw (w:ah) (t:Tr):Prop:=∀(led:Led) (fq:ac),Sp w 969 (40+16*hg t) (HG w led t fq) (bV w led (nd t))
end
section
theorem fo {w:ah} {NN:Led} {D:Nat} (hD:8<=D):iG w NN D eH:=
 ey (yE (p:=λd=>d<=60) (cc:=2) (u:=λz=>.none) (aI (by decide) hD) λd t h=>P1 w d t h) (ey (yE (p:=λd=>-1073741823<=d/\d<=1073741823) (cc:=6) (u:=λd=>.int d.1 d.2) (aI (by decide) hD) λd t h=>PZ w d t h.1 h.2) (ey (B7 (cc:=4) (aI (by decide) hD) λvs pr e hp=>by
  obtain ⟨d,e1,rfl⟩:=iz.mp e
  obtain ⟨a,b,c,e1⟩:=Hy e1
  have:=HF w d.1 d.2.1 d.2.2 a b c
  rw [gW hp] at this
  rw [e1]
  exact this) (ey (yE (p:=λd=>0<=d/\d<=255) (cc:=6) (u:=λd=>.int d.1 d.2) (aI (by decide) hD) λd t h=>P0 w d t h.1 h.2) (ey (yE (p:=λd=>-2147483647<=d/\d<=2147483647) (cc:=6) (u:=λd=>.int d.1 d.2) (aI (by decide) hD) λd t h=>PY w d t h.1 h.2) iS))))
theorem pN {w:ah} {NN:Led} {D:Nat} (hD:8<=D):iG w NN D mJ:=
 ey (B7 (cc:=4) (aI (by decide) hD) λvs pr e hp=>by
  obtain ⟨d,e1,rfl⟩:=iz.mp e
  obtain ⟨a,b,c,e1⟩:=Hy e1
  rw [e1]
  exact HF w d.1 d.2.1 d.2.2 a b c) (fo hD)
end
section
noncomputable def oV:Option Int->af->aa
 |none,z=>.none
 |some i,u=>.int i u
noncomputable def rL (x dx:ac) (t0 t1 t2 u0 u1 u2:af) (w h d:Option Int):List LE:=[⟨x,.inst 402 1 dx,false⟩,⟨dx,.dict [(sO "width",t0,.lit (oV w u0)),(sO "height",t1,.lit (oV h u1)),(sO "depth",t2,.lit (oV d u2))] 3,false⟩]
theorem tN:∀{v:aa} {w:Option Int},OI v w-> ∃u,v=oV w u
 |z,none,h=>⟨0,h⟩
 |z,some y,h=>h
theorem Cd:∀{w:Option Int} {u:af},OI (oV w u) w
 |none,z=>rfl
 |some z,y=>⟨_,rfl⟩
noncomputable def tO (vs:List aa):Option (ac×Int):=oB (Gg vs) λd=>oB (pv d.1.1) λq=>(d6 d.1.2).map λe=>(q,e)
theorem wb {vs:List aa} {d:ac×Int} (h:tO vs=some d):∃t,vs=[.ref d.1,.int d.2 t]:=
 cz h λe y h=>cz h λq h1 h=>(iz.mp h).elim λz h=>(eS h.1).elim λt e3=>⟨t,by rw [e.2,<-h.2,qP h1,e3]⟩
structure oj (wo:ah) (led NN:Led) (D:Nat) (q:ac) (e:Int) (ds:List Nd) (n:Nat):Prop where
 e:e=(n:Int)
 c:nW wo ds
 h:n+bR ds<=61
 d:18+8*bR ds<=D
 l:∃mu,cO wo.params led ds q mu
 s:∀p∈led,p∈NN
structure om (wo:ah) (led:Led) (ds:List Nd) (tl:Led) (q:ac) (mu:List ac):Prop where
 l:cO wo.params (led++tl) ds q mu
 m:∀a∈mu,a∈tl.map (·.1)
 n:mu.Nodup
noncomputable def HH (wo:ah) (led NN:Led) (D:Nat):Spec:=λvs st k=>oK (tO (vals vs)) λqe=>∃ds n,oj wo led NN D qe.1 qe.2 ds n/\ ∀q tl tk mu,cH st.oth tl->om wo led ds tl q mu->k (.lit (.ref q)) {st with oth:=st.oth++tl,tk:=tk}
theorem P3 {wo:ah} {led NN:Led} {D:Nat}:eG wo NN D 723 (HH wo led NN D):=rn (mk:=.lit) (λz=>rfl) (λz z=>trivial) λvs st k al h1 h2 h3 h=>by
 obtain ⟨⟨q,e⟩,e1,ds,n,P,h⟩:=gQ h
 obtain ⟨t,e1⟩:=wb e1
 obtain ⟨mu,hl⟩:=P.l
 refine ⟨_,_,_,P.c led n P.h,P.d,⟨λp hp=>h3 p (P.s p hp),q,t,mu,by rw [e1,<-P.e],hl⟩,λr tl tk hd hp=> ?_⟩
 obtain ⟨q',fL,rfl,a,b,c⟩:=hp
 exact h q' tl tk fL hd ⟨a,b,c⟩
noncomputable def ro (wo:ah) (led NN:Led) (D:Nat):List (Nat×Spec):=(723,HH wo led NN D)::eH
theorem tP {wo:ah} {led NN:Led} {D:Nat} (hD:8<=D):iG wo NN D (ro wo led NN D):=ey P3 (fo hD)
section
variable {wo:ah} {led news oth fr:Led} {d:Nd} {v:SV}
theorem eZ {r:aa} (h:ND wo.params (led++(fr++oth)) d r []):bV wo led d news (fr++oth) r:=NO h
theorem wc {r:aa} {mm:List ac} (h:ND wo.params (led++(fr++oth)) d r mm) (qb:∀a∈mm,a∈oth.map (·.1)) (qc:mm.Nodup):bV wo led d news (fr++oth) r:=
 ⟨mm,h,λa ha=>by rw [pd];exact ay _ (qb a ha),qc⟩
theorem Ce {r:aa} {mm:List ac} {dx:ac} (h:ND wo.params (led++(fr++oth)) d r (dx::mm)) (qb:∀a∈mm,a∈oth.map (·.1)) (qc:mm.Nodup) (hd:dx∈fr.map (·.1)) (l:∀p∈oth,p.1≠dx):bV wo led d news (fr++oth) r:=by
 refine ⟨dx::mm,h,λa ha=> ?_,fY.mpr ⟨λhx=> ?_,qc⟩⟩
 ·rw [pd]
  rcases bj.mp ha with rfl|ha
  ·exact aq _ hd
  ·exact ay _ (qb a ha)
 ·obtain ⟨p,hp,e⟩:=ew.mp (qb dx hx)
  exact l p hp e
theorem rp:∀p∈led++oth,p∈led++(fr++oth):=λp hp=>(aM.mp hp).elim (λh=>aq _ h) λh=>ay _ (ay _ h)
theorem iU:∀p∈led,p∈led++(fr++oth):=λp hp=>aq _ hp
theorem mF {a:ac×av} (h:a∈fr):a∈led++(fr++oth):=ay _ (aq _ h)
end
theorem eT {n k:Nat} (h:n+k<=60):(n:Int)<=60:=by omega
theorem fu {n:Nat}:8<=18+n:=by omega
theorem HI {n:Nat}:12<=18+n:=by omega
theorem iW {n k m:Nat} (h:n+k<=60) (h2:m<=k):n+1+m<=61:=by omega
theorem Cf {n m:Nat} (h:n+(m+1)<=60):n+1+m<=60:=by omega
theorem tQ {m k:Nat} (h:m<=k):18+8*m<=18+8*k:=by omega
theorem Cg {m:Nat}:24+8*m<=18+8*(m+1):=by omega
inductive Ch (wo:ah) (d:Nd) (G:Cfg) (H:Hint) (led:Led) (depth:Nat) (news:Led) (v:aa) (t:af):Prop where
 |mk (tab:List (Nat×Spec)) (L:List LE) (sv:SV) (h1:iG wo news (18+8*ht d) tab) (h2:v=sv.val) (h3:(∀p∈bo wo.params L,p∈led)) (h4:side L) (h5:(pairs L (sv::jj L)).map (·.1)=(pairs L (sv::jj L)).map (·.2)) (h6:L.map (·.f)=L.map (λz=>false)) (h7:∀tk,jP (KK wo.params) [] (Ev.jf (KK wo.params) tab G H 99) 6 (.ref 717) [sv,.lit (.int depth t)] ⟨[],L,[],tk⟩ (λr st=>Sep ((st.led.filter (·.f)).map (·.a)) st.oth->cE wo.params (bV wo led d) news (st.led.filter (·.f)) st.oth r)):Ch wo d G H led depth news v t
theorem HJ {wo:ah} {d:Nd} (G:Cfg) (hG:∀NN,jh wo NN (18+8*ht d) G) (H:Hint) (h:∀led depth news v t mu,depth+ht d<=60->(∀p∈led,p∈news)->ND wo.params led d v mu->Ch wo d G H led depth news v t):gc wo d:=by
 intro led depth kU
 refine jQ (18+8*ht d) 6 99 H (by omega) (K:=λnews r st=>Sep ((st.led.filter (·.f)).map (·.a)) st.oth->cE wo.params (bV wo led d) news (st.led.filter (·.f)) st.oth r) (λz z z a z z h=>h a) λnews vs hp=> ?_
 obtain ⟨aK,v,t,mu,rfl,bn⟩:=hp
 obtain ⟨tab,L,sv,h1,rfl,h3,h4,h5,h6,h7⟩:=h led depth news v t mu kU aK bn
 exact ⟨tab,G,L,[sv,.lit (.int depth t)],hG news,h1,rfl,λp hp=>aK p (h3 p hp),h4,lJ (tL (by cases sv<;>exact h5)),xC.mp h6,h7⟩
theorem jA {wo:ah} {d:Nd}:∀(H:Hint) (_:∀led depth news v t mu,depth+ht d<=60->(∀p∈led,p∈news)->ND wo.params led d v mu->Ch wo d Cfg.none H led depth news v t),gc wo d:=HJ Cfg.none λz=>Cfg.gI
end
section
mutual
noncomputable def TP:Nd->Prop
 | .lead z y l=>TP l
 | .dX la lb lc=>la.length<=100/\lb.length<=100/\lc.length<=100/\iH la/\iH lb/\iH lc
 | .ins z y q j u l=>l.length<=100/\iH l
 | .eR l=>l.length<=100/\iH l
 | .unset z y q j u g c l=>l.length<=100/\iH l
 | .box k z y q j u g c r l=>2<=k/\k<=3/\l.length<=100/\iH l
 |_=>True
noncomputable def iH:List Nd->Prop
 |[]=>True
 |d::r=>TP d/\iH r
end
mutual
theorem Ci:∀d:Nd,CP d->TP d
 | .char z y,q=>trivial
 | .gP z y q j u g,c=>trivial
 | .rule z y q,j=>trivial
 | .fy z y,q=>trivial
 | .skip z y,q=>trivial
 | .lead z y l,h=>Ci l h.2.2.2
 | .dk z,y=>trivial
 | .dX la lb lc,h=>by
  obtain ⟨⟨k1,c1,rfl,z⟩,⟨w2,s2,rfl,z⟩,⟨k3,c3,w3,s3,rfl,z⟩⟩:=h
  exact dF (dB rfl) (dF (dB rfl) (dF (dB rfl) (dF (dF trivial trivial) (dF (dF trivial trivial) (dF trivial (dF trivial trivial))))))
 | .mark z y,q=>trivial
 | .ins z y q j u l,h=>dF h.2.2.2.2.2.2.2.2.1 (pO l h.2.2.2.2.2.2.2.2.2)
 | .eR l,h=>dF h.1 (pO l h.2)
 | .math z y,q=>trivial
 | .spec z y,q=>trivial
 | .unset z y q j u g c l,h=>dF h.2.2.2.2.2.2.2.2.1 (pO l h.2.2.2.2.2.2.2.2.2)
 | .box z y q j u g c r p l,h=>dF h.1 (dF h.2.1 (dF h.2.2.2.2.2.2.2.2.1 (pO l h.2.2.2.2.2.2.2.2.2)))
theorem pO:∀ds:List Nd,gD ds->iH ds
 |[],z=>trivial
 |d::r,h=>dF (Ci d h.1) (pO r h.2)
end
end
section
noncomputable def HK:bM->Option (List bM)
 | .tuple ds=>some ds
 |_=>none
theorem P4 {d:bM} {ds:List bM} (h:HK d=some ds):d= .tuple ds:=by
 cases d<;>cases h
 rfl
noncomputable def HL:SV->Option Int
 | .lit v=>d6 v
 |_=>none
theorem P5 {v:SV} {n:Int} (h:HL v=some n):∃t,v.val= .int n t:=by
 cases v<;>try (cases h;done)
 exact eS h
noncomputable def all2 (p:SV->bM->Prop):List SV->List bM->Prop
 |[],[]=>True
 |v::vs,d::ds=>p v d/\all2 p vs ds
 |z,y=>False
structure d4 (L0:Led) (v:aa) (d:bM):Prop where
 h:RD L0 v d
noncomputable def rr (L0:Led) (led:List LE):Nat->SV->bM->Prop
 |0,z,y=>False
 |n+1,v,d=>oE (fi v) (λi=>oK led[i]? λe=>bK e.f (oK (je e.o) λvs=>oK (HK d) λds=>all2 (rr L0 led n) vs ds)) (oE (HL v) (λi=>d= .int i) (d4 L0 v.val d))
section
variable {P:aB} {L0 L1:Led} {led:List LE}
theorem HM {p:SV->bM->Prop} (hp:∀v d,aX led v->p v d->RD L1 v.val d):∀{vs:List SV} {ds:List bM},(∀v∈vs,aX led v)->all2 p vs ds->dz L1 (vals vs) ds
 |[],[],z,y=>dz.nil
 |v::vs,d::ds,hs,h=>dz.cons (hp v d (hs v (.head _)) h.1) (HM hp (λv hv=>hs v (.tail _ hv)) h.2)
 |[],z::y,q,h=>h.elim
 |z::y,[],q,h=>h.elim
theorem Ck (hm:∀(i:Nat) (e:LE),led[i]? =some e->e.f=true->(e.a,e.o.obj P)∈L1) (ho:∀(i:Nat) (e:LE),led[i]? =some e->gr led e.o) (sub:∀p∈L0,p∈L1):∀(n:Nat) (v:SV) (d:bM),aX led v->rr L0 led n v d->RD L1 v.val d
 |0,y,q,j,h=>h.elim
 |n+1,v,d,ok,h=>by
  refine eg h (λi e1 h=> ?_) λu h=> ?_
  ·refine aJ h λe e2 h=> ?_
   refine bv h λe3 h=> ?_
   refine aJ h λvs e4 h=> ?_
   refine aJ h λds e5 h=> ?_
   rw [gn e1 e2 ok,P4 e5]
   have m:=hm i e e2 e3
   have o:=ho i e e2
   refine (tj e4).elim λz e6=> ?_
   rw [e6] at m o
   exact RD.tup m (HM (λv d=>Ck hm ho sub n v d) o h)
  ·refine eg h (λi e1 h=> ?_) λu h=> ?_
   ·obtain ⟨t,e1⟩:=P5 e1
    rw [e1,h]
    exact RD.int
   ·exact RD.mono sub h.h
end
theorem tR {P:aB} {led:List LE} {i:Nat} {e:LE} (he:led[i]? =some e) (hf:e.f=true):(e.a,e.o.obj P)∈bo P (led.filter (·.f)):=by
 obtain ⟨j,hj⟩:=pc.mp (j8.mpr ⟨et he,hf⟩)
 exact gF hj
theorem d4.l {led:Led} {v:aa} {d:bM} {tl:Led} (h:RD led v d):d4 (led++tl) v d:=⟨RD.mono (λz hp=>aq _ hp) h⟩
theorem pP {led:Led} {q:ac} {a b:Int} {ta tb:af} {z:Nat} (h:(q,(⟨.type "tuple",none,.seq #[.int a ta,.int b tb] z,#[]⟩:av))∈led):RD led (.ref q) (.tuple [.int a,.int b]):=RD.tup h (dz.cons RD.int (dz.cons RD.int dz.nil))
theorem tS {b:Bool} (h:b=true):au (if b=true then 1 else 0)= .int 1:=by rw [if_pos h]
theorem tT {b:Bool} (h:b=false):au (if b=true then 1 else 0)= .int 0:=by rw [h];rfl
section
variable {led o1 o2 o3:Led} {v:aa} {d:bM}
theorem d4.m1 (h:d4 (led++o1) v d):d4 (led++(o1++o2++o3)) v d:=⟨RD.mono (λp hp=>(aM.mp hp).elim (λh=>aq _ h) λh=>ay _ (aq _ (aq _ h))) h.h⟩
theorem d4.m2 (h:d4 (led++o2) v d):d4 (led++(o1++o2++o3)) v d:=⟨RD.mono (λp hp=>(aM.mp hp).elim (λh=>aq _ h) λh=>ay _ (aq _ (ay _ h))) h.h⟩
theorem d4.m3 (h:d4 (led++o3) v d):d4 (led++(o1++o2++o3)) v d:=⟨RD.mono (λp hp=>(aM.mp hp).elim (λh=>aq _ h) λh=>ay _ (ay _ h)) h.h⟩
end
theorem Cm {k:Int} (h:2<=k) (h2:k<=3):k=2\/k=3:=(Int.lt_or_eq_of_le h2).elim (λe=>.inl (Int.le_antisymm (Int.le_of_lt_add_one e) h)) .inr
structure mK (wo:ah) (led NN:Led) (D:Nat) (q:ac) (e:Int) (ds:List Nd) (n:Nat):Prop where
 e:e=(n:Int)
 c:lH wo ds
 h:n+bR ds<=61
 d:18+8*bR ds<=D
 l:∃mu,cO wo.params led ds q mu
 s:∀p∈led,p∈NN
noncomputable def HN (wo:ah) (led NN:Led) (D:Nat):Spec:=λvs st k=>oK (tO (vals vs)) λqe=>∃ds n,mK wo led NN D qe.1 qe.2 ds n/\ ∀r tl tk,d4 (led++tl) r (.tuple (bS ds))->k (.ag r) {st with oth:=st.oth++tl,tk:=tk}
theorem P6 {wo:ah} {led NN:Led} {D:Nat}:eG wo NN D 747 (HN wo led NN D):=rn (mk:=.ag) (λz=>rfl) (λz z=>trivial) λvs st k al h1 h2 h3 h=>by
 obtain ⟨⟨q,e⟩,e1,ds,n,P,h⟩:=gQ h
 obtain ⟨t,e1⟩:=wb e1
 obtain ⟨mu,hl⟩:=P.l
 refine ⟨_,_,_,P.c led n P.h,P.d,⟨λp hp=>h3 p (P.s p hp),q,t,mu,by rw [e1,<-P.e],hl⟩,λr tl tk hd hp=>h r tl tk ⟨hp⟩⟩
structure HP (wo:ah) (led NN:Led) (D:Nat) (q:ac) (e:Int) (d:Nd) (n:Nat):Prop where
 e:e=(n:Int)
 c:Tells wo d
 h:n+ht d<=60
 f:24+8*ht d<=D
 l:∃mu,ND wo.params led d (.ref q) mu
 s:∀p∈led,p∈NN
noncomputable def HQ (wo:ah) (led NN:Led) (D:Nat):Spec:=λvs st k=>oK (tO (vals vs)) λqe=>∃d n,HP wo led NN D qe.1 qe.2 d n/\ ∀r tl tk,d4 (led++tl) r (desc d)->k (.ag r) {st with oth:=st.oth++tl,tk:=tk}
theorem P7 {wo:ah} {led NN:Led} {D:Nat}:eG wo NN D 741 (HQ wo led NN D):=rn (mk:=.ag) (λz=>rfl) (λz z=>trivial) λvs st k al h1 h2 h3 h=>by
 obtain ⟨⟨q,e⟩,e1,d,n,P,h⟩:=gQ h
 obtain ⟨t,e1⟩:=wb e1
 obtain ⟨mu,hl⟩:=P.l
 refine ⟨_,_,_,P.c led n P.h,P.f,⟨λp hp=>h3 p (P.s p hp),.ref q,t,mu,by rw [e1,<-P.e],hl⟩,λr tl tk hd hp=>h r tl tk ⟨hp⟩⟩
noncomputable def pQ (wo:ah) (led NN:Led) (D:Nat):List (Nat×Spec):=(747,HN wo led NN D)::(741,HQ wo led NN D)::eH
theorem rx {wo:ah} {led NN:Led} {D:Nat} (hD:8<=D):iG wo NN D (pQ wo led NN D):=ey P6 (ey P7 (fo hD))
inductive HR (wo:ah) (d:Nd) (H:Hint) (led:Led) (depth:Nat) (news:Led) (v:aa) (t:af):Prop where
 |mk (tab:List (Nat×Spec)) (L:List LE) (sv:SV) (h1:iG wo news (18+8*ht d) tab) (h2:v=sv.val) (h3:(∀p∈bo wo.params L,p∈led)) (h4:side L) (h5:(pairs L (sv::jj L)).map (·.1)=(pairs L (sv::jj L)).map (·.2)) (h6:L.map (·.f)=L.map (λz=>false)) (h7:∀tk,jP (KK wo.params) [] (Ev.run (KK wo.params) tab H 99) 6 (.ref 741) [sv,.lit (.int depth t)] ⟨[],L,[],tk⟩ (λr st=>rr (led++st.oth) st.led 9 r (desc d))):HR wo d H led depth news v t
theorem jB {wo:ah} {d:Nd} (H:Hint) (h:∀led depth news v t mu,depth+ht d<=60->(∀p∈led,p∈news)->ND wo.params led d v mu->HR wo d H led depth news v t):Tells wo d:=by
 intro led depth kU
 refine Hw (18+8*ht d) 6 99 H (by omega) (K:=λnews r st=>rr (led++st.oth) st.led 9 r (desc d)) (λz r st z ok ho h=> ?_) λnews vs hp=> ?_
 ·exact Ck (P:=wo.params) (led:=st.led) (λi e he hf=>ay _ (aq _ (tR he hf))) ho (λp hp=>(aM.mp hp).elim (λq=>aq _ q) λq=>ay _ (ay _ q)) 9 r _ ok h
 ·obtain ⟨aK,v,t,mu,rfl,bn⟩:=hp
  obtain ⟨tab,L,sv,h1,rfl,h3,h4,h5,h6,h7⟩:=h led depth news v t mu kU aK bn
  exact ⟨tab,L,[sv,.lit (.int depth t)],h1,rfl,λp hp=>aK p (h3 p hp),h4,by
   cases sv<;>exact h5,h6,h7⟩
end
local macro_rules | `(tactic| lcg_sub) => `(tactic| first | with_reducible exact List.mem_cons_self | with_reducible assumption | (refine List.mem_append_left _ ?_; lcg_sub) | (refine List.mem_append_right _ ?_; lcg_sub) | (refine List.mem_cons_of_mem _ ?_; lcg_sub))
local macro_rules | `(tactic| walk_at "exec For Name Name cons nil") => `(tactic| (k_here; (rename Fr _ _ _ _ => we); (with_unfolding_all refine' For_turns we ?_; k_whole)))
local macro_rules | `(tactic| k_room) => `(tactic| ktr_room)
local macro_rules | `(tactic| walk_at "call ref") => `(tactic| (k_here; k_dflt (refine' stopped ?hn ?_; (case hn => rfl))))
section
def mL (d:Nd):Prop:=(∃k c,d= .char k c)\/ ∃w s,d= .fy w s
theorem P8 {w:ah} {p:cP} {loose:List ai} {bH:gp->Option aa} {mg mb:ai->Option aa} {dp un:Nat} {gd:Option (List gN)} {cn:ai} {cs:bD} {a:ac} {bX:aa} {cl:List (ai×ac)} {outer:List cu} {A₀:bZ} {base h₀:bA} {L:ac} {m:ai->Option aa} {news:Led} {s:ak} {Q E:aa->ak->Prop} {led:Led} {q:ac} {vs:Array aa} {n:Nat} {ds:List Nd} {ms:List ac} (aK:∀p∈led,p∈news) (f1:(q,(⟨.type "list",none,.seq vs n,#[]⟩:av))∈led) (f2:aP w.params led ds vs.toList ms) (P9:∀d∈ds,mL d) (B:fx A₀ base outer h₀) (F:Fr h₀ L s.heap m) (X:(KK w.params).In h₀) (N:aU h₀ L s.heap news) (T:Top p loose bH mg mb h₀) (hk:cs.kind= .function) (hd:dp+8<recursionLimit) (hu:un+64<cLine)
  (gb:∀h' bQ,Fr h₀ L h' m->aU h₀ L h' news->Q (.ref q) {s with heap:=h',toks:=bQ}):
  aC (aG rw_sq0062_01.row.prog w) (gy dp un gd cn cs L a bX cl outer) (call (.ref 323) [.ref q]) Q E s:=by
 have g1:=aK _ f1
 revert X;k_fill;intro X
 refine oX ?_
 k_dflt (refine' enter (K:=KK w.params) (binds:=[(aF "items",.ref q)]) (by k_asm) (by k_asm) (by k_asm) (by k_asm) (by k_asm) rfl rfl (by assumption) rfl (by k_is) (by ktr_room) (vp rfl) (locs rfl) rfl ?_ rfl rfl rfl (by decide);k_whole;intro g5 L5 h5 Cn X8 F5 N5 B5 X5 T5;(try dsimp only);(try k_fold))
 k_steps
 refine GZ (λz m₁ nw=>nw=news/\m₁ (aF "items")=some (.ref q)) (by rfl) (by assumption) (by assumption) g1 ⟨rfl,rfl⟩ ?_ ?_
 ·rintro I i v m₁ nw aS cC own ry hI ⟨rfl,hm⟩ oq rb vX
  have fm:m₁=λy=>if y=aF "items" then some (.ref q) else m₁ y:=funext λy=>by split<;>simp_all
  rw [fm] at rb
  obtain ⟨d,mi,e1,e2⟩:=aP.at f2 i v (by simpa using ry)
  rcases P9 d (et e1) with⟨k,c,rfl⟩|⟨wd,sd,rfl⟩
  all_goals
   obtain ⟨e9,rfl,z1,z2,-⟩:=e2
   have X9:=aK _ z1
   have Yb:=aK _ z2
   k_steps
   exact ⟨rfl,_,_,_,_,rfl,(by assumption),(by assumption),oq,rfl,rfl⟩
 ·rintro h7 Co ou nw rz tU ⟨rfl,hm⟩
  have fm:ou=λy=>if y=aF "items" then some (.ref q) else ou y:=funext λy=>by split<;>simp_all
  rw [fm] at rz
  k_steps
  exact gb _ _ (by assumption) (by assumption)
end
section
open Sem (wp)
theorem Qa:typeLookup (.type "bytes") "__bytes__"=pure (some (.builtin "bytes.__bytes__")):=by rw [typeLookup_type,builtinLookup_eq_fast];kernel_rfl
section
variable {prog:cP} {w:ah} {A:bZ} {E:aa->ak->Prop} {s:ak}
theorem Qc {b:Array UInt8} {t:af} {Q:aa->ak->Prop} (hQ:Q (.bytes b t) s):
  codeAny (aG prog w) A (.call (.builtin "bytes.__new__") ⟨[.type "bytes",.bytes b t],[]⟩) (wants Q E) s:=by
 refine codeAny_of_tree ?_
 show aC _ A.in1 (do checkBuiltinCall "bytes.__new__" ⟨[.type "bytes",.bytes b t],[]⟩;again (.builtin "bytes.__new__" ⟨[.type "bytes",.bytes b t],[]⟩)) _ _ s
 refine bC (qp (a:=()) (show checkBuiltinCall "bytes.__new__" ⟨[.type "bytes",.bytes b t],[]⟩=pure () by kernel_rfl) (dR ⟨plainId_quiet F.bm_plain _,codeAny_builtin F.bm_entry ?_⟩))
 rw [AJ F.bm_plain _]
 unfold Builtin.«bytes.__new__»
 refine bC (qp (a:=true) rfl ?_)
 refine bm_if_false rfl ?_
 refine bC (qp F.bm_sub ?_)
 refine bm_if_false rfl ?_
 refine bC (qp (F.bm_bind _) ?_)
 refine bC (qp (a:=()) rfl ?_)
 refine bC (qp (a:=()) rfl ?_)
 refine bm_if_false rfl ?_
 refine bC (wpAny_specialOf (T:="bytes") (v:=.bytes b t) rfl Qa ?_)
 refine bC (wpAny_rule ?_)
 refine bC (sx (T:="bytes") (v:=.bytes b t) rfl ?_)
 refine bm_if_true (by decide+kernel) ?_
 refine bm_if_true (c:=(aw "bytes"==aw "bytes")) (by decide+kernel) ?_
 exact dR hQ
theorem Qd {b:Array UInt8} {t:af} {Q:aa->ak->Prop} (hQ:Q (.bytes b t) s):aC (aG prog w) A (call (.type "bytes") [.bytes b t]) Q E s:=by
 refine callType_codes (Q₁:=λobj s₁=>s₁.TypeIs obj "bytes"/\Q obj s₁) F.bm_called (F.bm_typeCall _) F.entry_object_init
  (Qc ⟨PySem.W.typeIs_bytes _ _ _,hQ⟩) λobj s₁ aS=> ?_
 exact ⟨aS.1,AK obj _,object_init_meets F.bm_called.init.lookup F.bm_called.made (by decide) prog w A.in1 _ s₁ ⟨aS.1,rfl,aS.2⟩⟩
theorem Qe {h₀:bA} {L q:ac} {m:ai->Option aa} {news:Led} {x y:UInt8} {ta tb:af} {n:Nat} {Q:aa->ak->Prop} (hh:A.handled=none) (F:Fr h₀ L s.heap m) (N:aU h₀ L s.heap news) (ho:(q,(⟨.type "list",none,.seq #[.int (x.toNat:Int) ta,.int (y.toNat:Int) tb] n,#[]⟩:av))∈news)
  (hQ:∀h' t k,Fr h₀ L h' m->aU h₀ L h' news->Q (.bytes #[x,y] t) {s with heap:=h',toks:=k}):aC (aG prog w) A (call (.type "bytes") [.ref q]) Q E s:=by
 refine call_bytes_ints (vs:=[.int (x.toNat:Int) ta,.int (y.toNat:Int) tb]) (ns:=[(x.toNat:Int),(y.toNat:Int)]) ⟨_,(N _ ho).1,rfl,_,rfl⟩ ?_ ?_ (by rw [l7];exact dB rfl) hh λh' t k hk=> ?_
 ·first|exact .cons (.cons .nil)|exact ⟨⟨_,rfl⟩,⟨_,rfl⟩,trivial⟩|(unfold qA;simp)|(constructor;constructor;constructor)
 ·intro i hi
  have hx:=x.toNat_lt
  have hy:=y.toNat_lt
  rcases bj.mp hi with rfl|hi
  ·omega
  ·rw [bN.mp hi];omega
 ·have e:byteArr [(x.toNat:Int),(y.toNat:Int)]= #[x,y]:=by simp [byteArr]
  rw [e]
  exact hQ h' t k (F.keeps hk) λp hp=>⟨hk _ _ (N p hp).1,(N p hp).2⟩
end
end
section
section
variable {w:ah} {NN:Led} {c:Cx} {D:Nat} {st:St} {s:ak}
noncomputable def aE (st:St) (dx x:ac) (C:ac) (o:SO) (f:Bool) (oth:Led) (tk:af):St:={st with led:=st.led++[⟨dx,o,f⟩]++[⟨x,.inst C st.led.length dx,f⟩],oth:=oth,tk:=tk}
theorem Qf {dx x C:ac} {o:SO} {f:Bool} {oth:Led} {tk:af}:Ext st.led (aE st dx x C o f oth tk).led:=(Ext.app _ _).trans (Ext.app _ _)
theorem Qg {dx x C:ac} {o:SO} {f:Bool} {oth:Led} {tk:af}:aX (aE st dx x C o f oth tk).led (.own (st.led.length+1) x):=by
 have:=kh (st.led++[⟨dx,o,f⟩]) ⟨x,.inst C st.led.length dx,f⟩
 rw [ib] at this
 exact ⟨_,this,rfl⟩
theorem Rep.Qh {x dx C:ac} {o:SO} (R:Rep w c st s) (h1:(x,cV C dx)∈st.oth++c.news) (h2:(dx,o.obj w.params)∈st.oth++c.news) (ok:gr st.led o):Rep w c (aE st dx x C o false st.oth st.tk) s:=
 (R.view (o:=o) h2 (ok.ext (Ext.app _ _))).view (o:=.inst C st.led.length dx) h1 ⟨_,ym (kh _ _),rfl⟩
end
theorem yH {p:Prop} [Decidable p] (h:¬p):(true==decide p)=false:=by rw [decide_eq_false h];rfl
theorem yI {p:Prop} [Decidable p] (h:p):(false==decide p)=false:=by rw [gW h];rfl
theorem jR {p:Prop} [Decidable p] (h:p):decide p=true:=gW h
theorem ofT {p:Prop} [Decidable p] (h:decide p=true):p:=cJ h
theorem HS {p:Prop} [Decidable p] (h:decide p=false):¬p:=of_decide_eq_false h
def ow (w:ah) (L:List LE) (al:Led) (q:ac):Prop:=∃led ds mu,(∀p∈led,p∈bo w.params L++al)/\cO w.params led ds q mu/\ ∀d∈ds,mL d
noncomputable def yJ (w:ah) (NN:Led):Spec:=λvs st k=>match vs with
 |[v]=>oK (pv v.val) λq=>ow w st.led (st.oth++NN) q/\ ∀tk,k v {st with tk:=tk}
 |_=>False
theorem HT {w:ah} {NN:Led} {D:Nat} (hD:8<=D):eG w NN D 323 (yJ w NN):=by
 intro c vs st k s Q E O R hv h q
 unfold yJ at h
 split at h
 ·rename_i v
  obtain ⟨a,e,⟨led,ds,mu,h1,⟨vs,n,ms,h2,h3,h4⟩,h5⟩,h6⟩:=gQ h
  have e:=qP e
  have hd:=O.hd
  have hu:=O.hu
  have hn:=O.hn
  subst hn
  rw [O.top]
  show aC _ _ (call _ [v.val]) _ _ _
  rw [e]
  refine P8 (λp hp=>(aM.mp (h1 p hp)).elim (λq=>aq _ q) λq=>ay _ ((aM.mp q).elim (λq=>aq _ q) λq=>ay _ (ay _ q))) h2 h3 h5 O.B R.fr O.X R.nw O.T O.hk (by omega) (by omega) λh' bQ F' N'=> ?_
  rw [<-e]
  exact q v {st with tk:=bQ} _ ⟨⟨⟨R.tomD,R.lc,R.fz⟩,by show _=_;rw [R.same],rfl,F',N'⟩,Ext.refl _,rfl⟩ (hv v (.head _)) (h6 bQ)
 ·exact h.elim
noncomputable def Cp:(v:aa)->Option (PSigma λd:Array UInt8×af=>v= .bytes d.1 d.2)
 | .bytes b t=>some ⟨(b,t),rfl⟩
 |_=>none
noncomputable def Cq (wo:ah) (led NN:Led) (D:Nat):List (Nat×Spec):=(323,yJ wo NN)::ro wo led NN D
theorem HU {wo:ah} {led NN:Led} {D:Nat} (hD:12<=D):iG wo NN D (Cq wo led NN D):=ey (HT (by omega)) (tP (by omega))
structure wg (wo:ah) (led NN:Led) (D:Nat) (d:Nd) (v:aa) (e:Int) (n:Nat):Prop where
 e:e=(n:Int)
 c:gc wo d
 h:n+ht d<=60
 f:24+8*ht d<=D
 l:∃mu,ND wo.params led d v mu
 s:∀p∈led,p∈NN
structure rA (wo:ah) (led:Led) (d:Nd) (tl:Led) (v:aa) (mu:List ac):Prop where
 l:ND wo.params (led++tl) d v mu
 m:∀a∈mu,a∈tl.map (·.1)
 n:mu.Nodup
noncomputable def HV (wo:ah) (led NN:Led) (D:Nat) (a b c:Option Int):Spec:=λvs st k=>oK (tO (vals vs)) λqe=>∃n,wg wo led NN D (.rule a b c) (.ref qe.1) qe.2 n/\
 ∀tl tk mu x dx t0 t1 t2 wv hv dv,cH st.oth tl->rA wo led (.rule a b c) tl (.ref x) mu->k (.own (st.led.length+1) x) (aE st dx x 402 (.dict [(sO "width",t0,.lit wv),(sO "height",t1,.lit hv),(sO "depth",t2,.lit dv)] 3) false (st.oth++tl) tk)
noncomputable def HW (wo:ah) (led NN:Led) (D:Nat) (kj w h d sh sg od r r2:Int) (l:List Nd):Spec:=λvs st k=>oK (tO (vals vs)) λqe=>∃n,wg wo led NN D (.box kj w h d sh sg od r r2 l) (.ref qe.1) qe.2 n/\
 ∀tl tk mu x dx es m u,cH st.oth tl->rA wo led (.box kj w h d sh sg od r r2 l) tl (.ref x) mu->k (.own (st.led.length+1) x) (aE st dx x 381 (.part es m [(sO "kind",.lit (.int kj u))]) false (st.oth++tl) tk)
theorem HX {wo:ah} {led NN:Led} {D:Nat} {d:Nd} {σ:Spec} (hd:∀st vs k,σ vs st k-> ∃(q:ac) (n:Nat) (t:af),vals vs=[.ref q,.int (n:Int) t]/\wg wo led NN D d (.ref q) (n:Int) n/\
   ∀v tl tk mu,cH st.oth tl->rA wo led d tl v mu-> ∃x dx C o,v= .ref x/\(x,cV C dx)∈led++tl/\(dx,o.obj wo.params)∈led++tl/\gr st.led o/\k (.own (st.led.length+1) x) (aE st dx x C o false (st.oth++tl) tk)):eG wo NN D 717 σ:=by
 intro c vs st k s Q E O R hv h q
 obtain ⟨a,n,t,e,P,h⟩:=hd st vs k h
 have hn:=O.hn
 subst hn
 refine rn (mk:=.lit) (λz=>rfl) (λz z=>trivial) (σ:=λus ao k'=>us=vs/\ao=st/\ ∀r tl tk mu,cH st.oth tl->rA wo led d tl r mu->k' (.lit r) {st with oth:=st.oth++tl,tk:=tk}) (λus ao k' al h1 h2 h3 hh=> ?_) c vs st (λv ao=>∃r tl tk mu,v= .lit r/\ao={st with oth:=st.oth++tl,tk:=tk}/\cH st.oth tl/\rA wo led d tl r mu) s Q E O R hv ⟨rfl,rfl,λr tl tk mu h1 h2=>⟨r,tl,tk,mu,rfl,rfl,h1,h2⟩⟩ λv ao s' N' ok hk=> ?_
 ·obtain ⟨rfl,rfl,hh⟩:=hh
  obtain ⟨mu,hl⟩:=P.l
  refine ⟨_,_,_,P.c led n P.h,P.f,⟨λp hp=>h3 p (P.s p hp),_,t,mu,e,hl⟩,λr tl tk hd hp=> ?_⟩
  obtain ⟨fL,a,b,c⟩:=hp
  exact hh r tl tk fL hd ⟨a,b,c⟩
 ·obtain ⟨r,tl,tk,mu,rfl,rfl,h1,h2⟩:=hk
  obtain ⟨x,dx,C,o,rfl,m1,m2,cI,hk⟩:=h r tl tk mu h1 h2
  have sub:∀p∈led++tl,p∈(st.oth++tl)++c.news:=λp hp=>(aM.mp hp).elim (λh=>ay _ (P.s p h)) λh=>aq _ (ay _ h)
  exact q (.own (st.led.length+1) x) (aE st dx x C o false (st.oth++tl) tk) s' ⟨N'.rep.Qh (sub _ m1) (sub _ m2) cI,Qf,rfl⟩ (Qg (st:=st)) hk
theorem Qi {wo:ah} {led NN:Led} {D:Nat} {a b c:Option Int}:eG wo NN D 717 (HV wo led NN D a b c):=HX λst vs k h=>by
 refine aJ h λqe e z9=>z9.elim λn z9=>z9.elim λP h=> ?_
 obtain ⟨t,e⟩:=wb e
 refine ⟨qe.1,n,t,by rw [e,P.e],⟨rfl,P.c,P.h,P.f,P.l,P.s⟩,λv tl tk mu h1 h2=> ?_⟩
 obtain ⟨g9,f⟩:=h2.l
 have e2:v= .ref (g9.a 0):=f.1
 exact ⟨g9.a 0,g9.a 1,402,.dict [(sO "width",g9.a 2,.lit g9.wv),(sO "height",g9.a 3,.lit g9.hv),(sO "depth",g9.a 4,.lit g9.dv)] 3,e2,f.2.1,f.2.2.1,λy hy=>by
  rcases bj.mp hy with rfl|hy
  ·trivial
  ·rcases bj.mp hy with rfl|hy
   ·trivial
   ·rw [bN.mp hy];trivial,h tl tk mu (g9.a 0) (g9.a 1) (g9.a 2) (g9.a 3) (g9.a 4) g9.wv g9.hv g9.dv h1 (e2▸h2)⟩
theorem Qj {wo:ah} {led NN:Led} {D:Nat} {kj w h d sh sg od r r2:Int} {l:List Nd}:eG wo NN D 717 (HW wo led NN D kj w h d sh sg od r r2 l):=HX λst vs k hh=>by
 refine aJ hh λqe e z9=>z9.elim λn z9=>z9.elim λP hh=> ?_
 obtain ⟨t,e⟩:=wb e
 refine ⟨qe.1,n,t,by rw [e,P.e],⟨rfl,P.c,P.h,P.f,P.l,P.s⟩,λv tl tk mu h1 h2=> ?_⟩
 obtain ⟨g9,f⟩:=h2.l
 have e2:v= .ref (g9.a 0):=f.1
 exact ⟨g9.a 0,g9.a 1,381,.part _ 9 [(sO "kind",.lit (.int kj (g9.a 16)))],e2,f.2.1,f.2.2.1,λy hy=>by
  rw [bN.mp hy]
  exact ⟨trivial,rfl⟩,hh tl tk mu (g9.a 0) (g9.a 1) _ 9 (g9.a 16) h1 (e2▸h2)⟩
section
variable {wo:ah} {led news o1 o2 o3 fr:Led} {d:Nd} {r:aa} {m1 m2 m3:List ac}
theorem Qk:∀p∈led++o1,p∈led++(fr++(o1++o2++o3)):=λp hp=>(aM.mp hp).elim (iU p) λh=>ay _ (ay _ (aq _ (aq _ h)))
theorem Ql:∀p∈led++o2,p∈led++(fr++(o1++o2++o3)):=λp hp=>(aM.mp hp).elim (iU p) λh=>ay _ (ay _ (aq _ (ay _ h)))
theorem Qm:∀p∈led++o3,p∈led++(fr++(o1++o2++o3)):=λp hp=>(aM.mp hp).elim (iU p) λh=>ay _ (ay _ (ay _ h))
theorem Qn (h:∀p∈led,p∈news):∀p∈led++o1,p∈o1++o2++o3++news:=λp hp=>(aM.mp hp).elim (λq=>ay _ (h p q)) λh=>aq _ (aq _ (aq _ h))
theorem Qo (h:∀p∈led,p∈news):∀p∈led++o2,p∈o1++o2++o3++news:=λp hp=>(aM.mp hp).elim (λq=>ay _ (h p q)) λh=>aq _ (aq _ (ay _ h))
theorem Qp (h:∀p∈led,p∈news):∀p∈led++o3,p∈o1++o2++o3++news:=λp hp=>(aM.mp hp).elim (λq=>ay _ (h p q)) λh=>aq _ (ay _ h)
theorem Cr {L:List LE} {al:Led} {q:ac} {ds:List Nd} (h:∀p∈led,p∈al) (h2:cO wo.params led ds q m1) (h3:∀d∈ds,mL d):ow wo L al q:=⟨led,ds,m1,λp hp=>ay _ (h p hp),h2,h3⟩
theorem HY {a:ac} {l l2:Led} (h:a∈l.map (·.1)\/a∈l2.map (·.1)):a∈(l++l2).map (·.1):=by
 rw [pd];exact aM.mpr h
theorem HZ {l l2:Led} (h1:∀a∈m1,a∈l.map (·.1)) (h2:∀a∈m2,a∈l2.map (·.1)) (n1:m1.Nodup) (n2:m2.Nodup) (e:cH l l2):(m1++m2).Nodup:=ve.mpr ⟨n1,n2,λa ha b hb q=>by
 obtain ⟨p,hp,e1⟩:=ew.mp (h1 a ha)
 obtain ⟨p2,rB,e2⟩:=ew.mp (h2 b hb)
 exact e p hp p2 rB (e1.trans (q.trans e2.symm))⟩
theorem Qq (h:ND wo.params (led++(fr++(o1++o2++o3))) d r (m1++(m2++m3))) (a1:∀a∈m1,a∈o1.map (·.1)) (a2:∀a∈m2,a∈o2.map (·.1)) (a3:∀a∈m3,a∈o3.map (·.1)) (n1:m1.Nodup) (n2:m2.Nodup) (n3:m3.Nodup) (e1:cH o1 o2) (e2:cH (o1++o2) o3):bV wo led d news (fr++(o1++o2++o3)) r:=by
 have b:∀a∈m2++m3,a∈(o2++o3).map (·.1):=λa ha=>HY ((aM.mp ha).imp (a2 a) (a3 a))
 refine wc h (λa ha=> ?_) (HZ (l:=o1) (l2:=o2++o3) a1 b n1 (HZ a2 a3 n2 n3 λx hx p hp=>e2 x (ay _ hx) p hp) λx hx p hp=>(aM.mp hp).elim (e1 x hx p) (e2 x (aq _ hx) p))
 rw [mf]
 exact HY ((aM.mp ha).imp (a1 a) (b a))
end
theorem H0 {k c:Int}:∀d∈[Nd.char k c],mL d:=λd hd=>by
 rw [bN.mp hd];exact .inl ⟨_,_,rfl⟩
theorem H3 {w s:Int}:∀d∈[Nd.fy w s],mL d:=λd hd=>by
 rw [bN.mp hd];exact .inr ⟨_,_,rfl⟩
theorem H4 {k c w s:Int}:∀d∈[Nd.char k c,.fy w s],mL d:=λd hd=>(bj.mp hd).elim (λh=>.inl ⟨_,_,h⟩) λh=>.inr ⟨_,_,bN.mp h⟩
end
section
noncomputable def aQ:List Nat->(Nat->af)->List SV
 |[],z=>[]
 |n::r,τ=>.lit (.int (n:Int) (τ 0))::aQ r (λi=>τ (i+1))
theorem wi:∀{vs:List aa} {ns:List Nat},IV vs ns-> ∃τ,vs=vals (aQ ns τ)
 |[],[],z=>⟨λq=>0,rfl⟩
 |v::vs,n::ns,h=>by
  obtain ⟨⟨t,e⟩,h⟩:=h
  obtain ⟨τ,e2⟩:=wi h
  exact ⟨λi=>Nat.rec t (λj q=>τ j) i,by rw [e,e2];rfl⟩
 |[],z::y,h=>h.elim
 |z::y,[],h=>h.elim
noncomputable def LB (k:Nat) (ns:List Nat) (τ:Nat->af) (x qn qi fq f0 f1:ac) (t:af) (n0 n1 nf:Nat):List LE:=
 [⟨x,.tup [.lit (.int (k:Int) t),.own 1 qn,.lit (.ref qi)] n0,false⟩,⟨qn,.tup (aQ ns τ) n1,false⟩,⟨fq,.lst [.lit (.ref f0),.lit (.ref f1)] nf,false⟩]
theorem Cs {ns:List Nat} {τ:Nat->af} {L:List LE}:∀v∈aQ ns τ,aX L v:=by
 induction ns generalizing τ with
 |nil=>exactλv h=>nomatch h
 |cons n r ih=>
  intro v h
  rcases bj.mp h with rfl|h
  ·trivial
  ·exact ih v h
theorem kW {wo:ah} {k:Nat} {ns:List Nat} (G:Cfg) (hG:∀NN,jh wo NN 34 G) (tab:Led->List (Nat×Spec)) (hT:∀NN,iG wo NN 34 (tab NN)) (H:Hint) (h:∀led fq news x qn qi t n0 n1 nf τ f0 f1,(∀p∈led,p∈news)->FN wo.params led f0 1->FN wo.params led f1 2->
   ∀tk,jP (KK wo.params) [] (Ev.jf (KK wo.params) (tab news) G H 99) 6 (.ref 969) [.own 0 x,.own 2 fq] ⟨[],LB k ns τ x qn qi fq f0 f1 t n0 n1 nf,[],tk⟩ (λr st=>Sep ((st.led.filter (·.f)).map (·.a)) st.oth->cE wo.params (bV wo led (nd (.mk k ns []))) news (st.led.filter (·.f)) st.oth r)):dw wo (.mk k ns []):=by
 intro led fq
 refine jQ 34 6 99 H (by omega) (K:=λnews r st=>Sep ((st.led.filter (·.f)).map (·.a)) st.oth->cE wo.params (bV wo led (nd (.mk k ns []))) news (st.led.filter (·.f)) st.oth r) (λz z z a z z h=>h a) λnews vs hp=> ?_
 obtain ⟨aK,v,rfl,⟨⟨x,qn,qi,t,vs,n0,n1,us,n2⟩,f⟩,f0,f1,nf,g1,g2,g3⟩:=hp
 obtain ⟨τ,e⟩:=wi f.2.2.2.1
 refine ⟨tab news,G,LB k ns τ x qn qi fq f0 f1 t n0 n1 nf,[.own 0 x,.own 2 fq],hG _,hT _,by rw [f.1];rfl,λp hp=>aK p (bw f.2.1 (bw ?_ (bw g1 dY)) p hp),⟨trivial,trivial,trivial,trivial⟩,lJ (tL ?_),xC.mp rfl,h _ _ _ _ _ _ _ _ _ _ _ _ _ aK g2 g3⟩
 ·show(qn,(⟨.type "tuple",none,.seq (vals (aQ ns τ)).toArray n1,#[]⟩:av))∈led
  rw [<-e]
  exact f.2.2.1
 ·have hz:∀{ns:List Nat} {τ:Nat->af} {L:List LE} {r:List SV},pairs L (aQ ns τ++r)=pairs L r:=λ{ns}=>by
   induction ns with
   |nil=>intros;rfl
   |cons n s ih=>intro τ L r;exact ih
  show(pairs _ (.own 0 x:: .own 2 fq:: .lit _:: .own 1 qn:: .lit _::(aQ ns τ++[.lit _,.lit _]))).map _=(pairs _ (.own 0 x:: .own 2 fq:: .lit _:: .own 1 qn:: .lit _::(aQ ns τ++[.lit _,.lit _]))).map _
  simp only [pairs,hz]
  rfl
section
variable {wo:ah} {led news oth:Led} {d:Nd} {r:aa} {mu fL:List ac} {L:List LE} {v:SV}
theorem tV {k:Int} {x:ac} {fr:Led} (h:FN wo.params led x k):FN wo.params (led++fr) x k:=sM h λe f=>⟨e,aq _ f.1,aq _ f.2.1,f.2.2⟩
theorem H5 (h:ND wo.params (led++(bo wo.params L++oth)) d v.val mu) (p:mu.Perm fL) (s:fL.Sublist (L.map (·.a))) (hs:Sep (L.map (·.a)) oth):cE wo.params (bV wo led d) news L oth v:=by
 refine ⟨mu,h,λa ha=> ?_,(p.nodup_iff).mpr (hs.1.sublist s)⟩
 have e:(bo wo.params L).map (·.1)=L.map (·.a):=by
  clear h s hs
  induction L with
  |nil=>rfl
  |cons x l ih=>show x.a::_=x.a::_;rw [<-ih]
 rw [pd,e]
 exact aq _ (s.subset (p.subset ha))
end
theorem H6 {P:aB} {led:Led} {f0 f1:ac} {n:Nat} (h:n<2) (a:FN P led f0 1) (b:FN P led f1 2):∃fa,yc [.lit (.ref f0),.lit (.ref f1)] (n:Int)= .ref fa/\FN P led fa (1+n):=by
 match n,h with
 |0,z=>exact ⟨f0,rfl,a⟩
 |1,z=>exact ⟨f1,rfl,b⟩
theorem eF {a b:Nat} {lo hi:Int} (h:a<b) (h1:lo<=0) (h2:(b:Int)<=hi+1):lo<=(a:Int)/\(a:Int)<=hi:=⟨ed h1 (j9 a),by omega⟩
theorem fw {a b:Nat} {c lo hi:Int} (h:a<b) (h1:lo<= -c) (h2:(b:Int)<=hi+c+1):lo<=(a:Int) -c/\(a:Int) -c<=hi:=by omega
theorem jS {a b:Nat} {c lo hi:Int} (h:a<b) (h1:lo<=c) (h2:(b:Int)+c<=hi+1):lo<=c+(a:Int)/\c+(a:Int)<=hi:=by omega
theorem inR {a b:Nat} {c lo hi:Int} (h:a<b) (h1:lo<=c) (h2:(b:Int)+c<=hi+1):lo<=(a:Int)+c/\(a:Int)+c<=hi:=by omega
theorem Qs {a:Nat}:((a:Int)+1!=0)=true:=by
 rw [bne_iff_ne];omega
theorem Qt {a b:Nat} (h:a<b):((a:Int) -b !=0)=true:=by
 rw [bne_iff_ne];omega
theorem kY {a:Nat} (h:((a:Int)==0)=true):OI .none (sz a):=by
 have:a=0:=by have:=eq_of_beq h;omega
 subst this
 rfl
theorem kZ {a:Nat} {t:af} (h:((a:Int)==0)=false):OI (.int ((a:Int) -2) t) (sz a):=by
 have:¬a=0:=λq=>by subst q;cases h
 unfold sz
 rw [d7 this]
 exact ⟨t,rfl⟩
theorem H7:∀(l:List (Int×af)) (k:Nat),(mB l k).1=((l.map Prod.fst)[k]?).getD 0
 |[],z=>rfl
 |z::y,0=>rfl
 |_::r,k+1=>H7 r k
theorem rC {n:Nat} {t0 t1 t2 t3 t4 t5:af} (h:n<6):((0<=eW [(0,t0),(4,t1),(5,t2),(100,t3),(108,t4),(115,t5)] n/\eW [(0,t0),(4,t1),(5,t2),(100,t3),(108,t4),(115,t5)] n<=5)\/(100<=eW [(0,t0),(4,t1),(5,t2),(100,t3),(108,t4),(115,t5)] n/\eW [(0,t0),(4,t1),(5,t2),(100,t3),(108,t4),(115,t5)] n<=100+99))/\ ¬(1<=eW [(0,t0),(4,t1),(5,t2),(100,t3),(108,t4),(115,t5)] n/\eW [(0,t0),(4,t1),(5,t2),(100,t3),(108,t4),(115,t5)] n<=3)/\eW [(0,t0),(4,t1),(5,t2),(100,t3),(108,t4),(115,t5)] n=iT n:=by
 have e:eW [(0,t0),(4,t1),(5,t2),(100,t3),(108,t4),(115,t5)] (n:Int)=iT n:=H7 _ n
 have c:∀n<6,((0<=iT n/\iT n<=5)\/(100<=iT n/\iT n<=100+99))/\ ¬(1<=iT n/\iT n<=3):=by decide
 rw [e]
 exact ⟨(c n h).1,(c n h).2,rfl⟩
theorem yK {P:aB} {led:Led} {g:Gl} {k k':Int} {v:aa} {m:List ac} (e:k=k') (h:ND P led (.skip g k) v m):ND P led (.skip g k') v m:=e▸h
noncomputable def tabS (NN:Led) (w:ah):List (Nat×Spec):=(323,yJ w NN)::eH
theorem H8 {w:ah} {NN:Led} {D:Nat} (hD:12<=D):iG w NN D (tabS NN w):=ey (HT (aI (by decide) hD)) (fo (aI (by decide) hD))
theorem H9 {P:aB} {led:Led} {d:Nd} {v:aa} (h:ND P led d v []):aP P led [d] [v] []:=⟨v,[],[],[],rfl,rfl,h,rfl,rfl⟩
theorem Qu {P:aB} {led:Led} {d e:Nd} {v u:aa} (h:ND P led d v []) (k:ND P led e u []):aP P led [d,e] [v,u] []:=⟨v,[u],[],[],rfl,rfl,h,H9 k⟩
theorem Ct {wo:ah} {L:List LE} {led al:Led} {q:ac} {ds:List Nd} {mu:List ac} (h:∀p∈led,p∈al) (h2:cO wo.params (led++(bo wo.params L++[])) ds q mu) (h3:∀d∈ds,mL d):ow wo L al q:=⟨_,ds,mu,λp hp=>(aM.mp hp).elim (λq=>ay _ (h p q)) λq=>aq _ ((aM.mp q).elim id λq=>absurd q Ay),h2,h3⟩
theorem yL {P:aB} {led:Led} {q:ac} {d:Nd} {v:aa} {n:Nat} (h:(q,(⟨.type "list",none,.seq #[v] n,#[]⟩:av))∈led) (k:ND P led d v []):cO P led [d] q [q]:=⟨#[v],n,[],h,H9 k,rfl⟩
theorem Ia {P:aB} {led:Led} {q:ac} {d e:Nd} {v u:aa} {n:Nat} (h:(q,(⟨.type "list",none,.seq #[v,u] n,#[]⟩:av))∈led) (k:ND P led d v []) (l:ND P led e u []):cO P led [d,e] q [q]:=⟨#[v,u],n,[],h,Qu k l,rfl⟩
theorem u8 {n:Nat} (h:n<256):(n:Int)=((nP n).toNat:Int):=by rw [UInt8.toNat_ofNat_of_lt' h]
end
section
def lM (tl:Led) (vs:List aa):Prop:=∀k,k<15-> ∃(q:ac) (us:Array aa) (n:Nat),vs[k]? =some (.ref q)/\(q,(⟨.type "tuple",none,.seq us n,#[]⟩:av))∈tl/\IV us.toList (bz k)
noncomputable def Cu:List SV->List Nat->Bool
 |[],[]=>true
 |v::vs,n::ns=>(match v with
  | .lit u=>(match d6 u with
   |some i=>decide (i=dW n)
   |none=>false)
  |_=>false)&&Cu vs ns
 |z,y=>false
theorem Ib:∀{vs:List SV} {ns:List Nat},Cu vs ns=true->IV (vals vs) ns
 |[],[],z=>trivial
 |v::vs,n::ns,h=>by
  obtain ⟨h1,h2⟩:=(nA _ _).mp h
  refine ⟨?_,Ib h2⟩
  cases v with
  |lit u=>
   cases q:d6 u with
   |none=>simp only [q] at h1;cases h1
   |some i=>
    simp only [q] at h1
    obtain ⟨t,e⟩:=eS q
    exact ⟨t,by show u=_;rw [e,cJ h1];rfl⟩
  |_=>cases h1
 |[],z::y,h=>nomatch h
 |z::y,[],h=>nomatch h
noncomputable def yM (led:List LE):List SV->List Nat->Bool
 |[],[]=>true
 |v::vs,k::ks=>(match fi v with
  |some i=>(match led[i]? with
   |some e=>e.f&&(match je e.o with
    |some us=>Cu us (bz k)
    |none=>false)
   |none=>false)
  |none=>false)&&yM led vs ks
 |z,y=>false
theorem Ic {P:aB} {led:List LE} {L:Led} (hm:∀(i:Nat) (e:LE),led[i]? =some e->e.f=true->(e.a,e.o.obj P)∈L):∀{vs:List SV} {ks:List Nat},(∀v∈vs,aX led v)->yM led vs ks=true-> ∀(i k:Nat),ks[i]? =some k-> ∃(q:ac) (us:Array aa) (n:Nat),(vals vs)[i]? =some (.ref q)/\(q,(⟨.type "tuple",none,.seq us n,#[]⟩:av))∈L/\IV us.toList (bz k)
 |[],[],z,y,i,k,e=>by cases e
 |z::y,[],u,h,g,c,r=>nomatch h
 |[],z::y,u,h,g,c,r=>nomatch h
 |v::vs,k::ks,ok,h,i,k',e=>by
  obtain ⟨h1,h2⟩:=(nA _ _).mp h
  cases i with
  |succ i=>exact Ic hm (λv hv=>ok v (.tail _ hv)) h2 i k' e
  |zero=>
   cases e
   cases q1:fi v with
   |none=>simp only [q1] at h1;cases h1
   |some j=>
    cases q2:led[j]? with
    |none=>simp only [q1,q2] at h1;cases h1
    |some e=>
     simp only [q1,q2] at h1
     obtain ⟨h1,h3⟩:=(nA _ _).mp h1
     cases q3:je e.o with
     |none=>simp only [q3] at h3;cases h3
     |some us=>
      simp only [q3] at h3
      obtain ⟨n,q4⟩:=tj q3
      have m:=hm j e q2 h1
      rw [q4] at m
      refine ⟨e.a,(vals us).toArray,n, ?_,m,Ib h3⟩
      rw [gn q1 q2 (ok v (.head _))];rfl
theorem Ie {led:List LE}:∀{vs:List SV} {ks:List Nat},yM led vs ks=true->vs.length=ks.length
 |[],[],z=>rfl
 |z::y,[],h=>nomatch h
 |[],z::y,h=>nomatch h
 |z::y,q::j,h=>bW (· +1) (Ie ((nA _ _).mp h).2)
def Qv (r:SV) (st:St):Prop:=oK (fi r) λi=>oK st.led[i]? λe=>bK e.f (oK (jM e.o) λl=>bK (yM st.led l.1 [0,1,2,3,4,5,6,7,8,9,10,11,12,13,14]) True)
theorem Qw (w:ah):Sp w 924 8 (λz vs=>vs=[]) (λz tl r=>∃(D:ac) (us:List aa) (n:Nat),r= .ref D/\(D,(⟨.type "list",none,.seq us.toArray n,#[]⟩:av))∈tl/\lM tl us/\us.length<=15):=
 Hw 1 6 99 [] (by decide) (K:=λz r st=>Qv r st) (λnews r st z ok oo h=>by
  obtain ⟨i,e1,h⟩:=gQ h
  obtain ⟨e,e2,h⟩:=gQ h
  obtain ⟨e3,h⟩:=qK h
  obtain ⟨l,e4,h⟩:=gQ h
  have h:=(qK h).1
  have hm:∀(i:Nat) (e:LE),st.led[i]? =some e->e.f=true->(e.a,e.o.obj w.params)∈bo w.params (st.led.filter (·.f))++st.oth:=λi e he hf=>aq _ (tR he hf)
  have m:=hm i e e2 e3
  have o:=oo i e e2
  rw [kQ e4] at m o
  refine ⟨e.a,vals l.1,l.2,by rw [gn e1 e2 ok];rfl,m,λk hk=>Ic hm o h k k ?_, ?_⟩
  rotate_left
  ·have:=Ie h
   rw [<-eh] at this
   exact jr this
  have kk:∀k<15,[0,1,2,3,4,5,6,7,8,9,10,11,12,13,14][k]? =some k:=by decide
  exact kk k hk) λnews vs hp=>⟨[],[],[],iS,hp,dY,trivial,rfl,rfl,λtk=>by
 refine @cD _ (∀(_ _ _ _ _ _ _ _ _ _ _ _ _ _ _ _ _:Nat),15<=1000/\ ∀(_:Nat),True) ?_ ?_
 ·kernel_rfl
 exactλz z z z z z z z z z z z z z z z z=>⟨by decide,λz=>trivial⟩⟩
end
section
section
variable {prog:cP} {w:ah} {A:bZ} {E:aa->ak->Prop} {s:ak} {env:cu} {h₀:bA} {target:az} {body:List bP} {Q:eK->ak->Prop}
end
end
section
section
variable {news tl tW:Led} {D:ac} {o a:ac×av}
end
end
section
mutual
noncomputable def iX:Nd->Nd
 | .lead g k l=>.lead g k (iX l)
 | .dX z y q=>.dX [] [] []
 | .ins k sz d g c l=>.ins k sz d g c (eB l++[.dk 1])
 | .eR l=>.eR (eB l++[.dk 1])
 | .unset w h d sp n st v l=>.unset w h d sp (n+1) st v (eB l++[.dk 1])
 | .box k w h d sh sg od r r2 l=>.box k w h d (sh+1) sg od r r2 (eB l++[.dk 1])
 |d=>d
noncomputable def eB:List Nd->List Nd
 |[]=>[]
 |d::r=>iX d::eB r
end
noncomputable def bT (M:List ac) (news:Led):Led:=news.filter λp=> !M.contains p.1
theorem gG {M:List ac} {news:Led} {p:ac×av} (h:p∈news) (hn:p.1∉M):p∈bT M news:=by
 unfold bT
 rw [j8]
 exact ⟨h,by simpa using hn⟩
theorem iY {M:List ac} {news:Led} {p:ac×av} (h:p∈bT M news):p∈news/\p.1∉M:=by
 unfold bT at h
 rw [j8] at h
 exact ⟨h.1,by simpa using h.2⟩
theorem News.one {h₀ h:bA} {L:ac} {news:Led} (N:aU h₀ L h news) {p r:ac×av} (hp:p∈news) (hr:r∈news) (e:p.1=r.1):p=r:=by
 have h1:=(N p hp).1
 have h2:=(N r hr).1
 rw [e,h2] at h1
 exact Prod.ext e (jK h1).symm
theorem News.pull {h₀ h:bA} {L:ac} {news:Led} (N:aU h₀ L h news) {a:ac} {o:av} (ha:(a,o)∈news):aU h₀ L h ((a,o)::bT [a] news):=λp hp=>N p (by
 rcases bj.mp hp with rfl|hp
 ·exact ha
 ·exact (iY hp).1)
def Kept (M:List ac) (nws led led':Led):Prop:=(∀p∈led,fk p.2=0\/p.1∉M->p∈led')/\(∀r∈led,∃o,(r.1,o)∈led')/\(∀p∈led',(∃o,(p.1,o)∈led)\/ ∀r∈nws,r.1≠p.1)
theorem Kept.refl {M:List ac} {nws led:Led}:Kept M nws led led:=⟨λz h z=>h,λz h=>⟨_,h⟩,λz h=>.inl ⟨_,h⟩⟩
theorem Kept.trans {M1 M2 M:List ac} {n1 n2 led iI wj:Led} (h1:Kept M1 n1 led iI) (h2:Kept M2 n2 iI wj) (s1:∀a∈M1,a∈M) (s2:∀a∈M2,a∈M) (Qx:∀r∈n1,∃o,(r.1,o)∈n2):Kept M n1 led wj:=by
 refine ⟨λp hp hk=> ?_,λr hr=> ?_,λp hp=> ?_⟩
 ·exact h2.1 p (h1.1 p hp (hk.imp id λh k=>h (s1 _ k))) (hk.imp id λh k=>h (s2 _ k))
 ·obtain ⟨o,ho⟩:=h1.2.1 r hr
  exact h2.2.1 (r.1,o) ho
 ·rcases h2.2.2 p hp with⟨o,ho⟩|h
  ·exact h1.2.2 (p.1,o) ho
  ·refine .inr λr hr=> ?_
   obtain ⟨o,ho⟩:=Qx r hr
   exact h (r.1,o) ho
theorem Kept.set {h₀ h:bA} {L:ac} {nws led:Led} (N:aU h₀ L h led) {a:ac} {o o':av} (ha:(a,o)∈led) (hf:fk o≠0):Kept [a] nws led ((a,o')::bT [a] led):=by
 refine ⟨λp hp hk=> ?_,λr hr=> ?_,λp hp=> ?_⟩
 ·refine Az _ (gG hp λe=> ?_)
  rcases hk with hk|hk
  ·have:=News.one N hp ha (bN.mp e)
   subst this
   exact hf hk
  ·exact hk e
 ·by_cases e:r.1=a
  ·exact ⟨o',by rw [e];exact .head _⟩
  ·exact ⟨r.2,Az _ (gG hr (by simpa using e))⟩
 ·rcases bj.mp hp with rfl|hp
  ·exact .inl ⟨o,ha⟩
  ·exact .inl ⟨_,(iY hp).1⟩
theorem Kept.bO {P:aB} {M:List ac} {nws led led':Led} (k:Kept M nws led led') {d:List Nd} {v:List aa} {mu:List ac} (h:aP P led d v mu) (hd:∀a∈mu,a∉M):aP P led' d v mu:=
 aP.keep (M:=mu) (λp hp hk=>k.1 p hp (hk.imp id (hd _))) d v mu (λz h=>h) h
def k6 (w:ah) (ds:List Nd):Prop:=∀(p:cP) (loose:List ai) (bH:gp->Option aa) (mg mb:ai->Option aa) (dp un:Nat) (gd:Option (List gN)) (cn:ai) (cs:bD) (a:ac) (bX:aa) (cl:List (ai×ac)) (outer:List cu) (A₀:bZ) (base h₀:bA) (L:ac) (m:ai->Option aa) (news:Led) (s:ak) (Q E:aa->ak->Prop) (led:Led) (q:ac) (vs:Array aa) (n:Nat) (ms:List ac),(∀p∈led,p∈news)->(q,(⟨.type "list",none,.seq vs n,#[]⟩:av))∈led->aP w.params led ds vs.toList ms->(q::ms).Nodup->(B:fx A₀ base outer h₀)->(F:Fr h₀ L s.heap m)->(X:(KK w.params).In h₀)->(N:aU h₀ L s.heap news)->(T:Top p loose bH mg mb h₀)->(hk:cs.kind= .function)->(hd:dp+(20+10*bR ds)<recursionLimit)->(hu:un+(160+80*bR ds)<cLine)->
 (∀led' v n' tX h' bQ,Fr h₀ L h' m->aU h₀ L h' (led'++bT (q::ms) news)->(q,(⟨.type "list",none,.seq (vs.push v) n',#[]⟩:av))∈led'->aP w.params led' (eB ds++[.dk 1]) (vs.push v).toList tX->(∀a∈tX,a∈ms)->Kept (q::ms) news led led'->Q .none {s with heap:=h',toks:=bQ})->
 aC (aG rw_sq0062_01.row.prog w) (gy dp un gd cn cs L a bX cl outer) (call (.ref 983) [.ref q]) Q E s
end
section
section
variable {w:ah} {c:Cx} {st:St} {s:ak}
theorem Rep.off {i:Nat} {e:LE} (R:fS w c st) (he:st.led[i]? =some e) (kP:e.f=true) {p:ac×av} (hp:p∈bo w.params (st.led.eraseIdx i)++(st.oth++c.news)):p∈bT [e.a] (all w c st):=by
 rcases aM.mp hp with hp|hp
 ·obtain ⟨j,e',h,rfl⟩:=ki hp
  obtain ⟨j',hj,h'⟩:∃j',j'≠i/\st.led[j']? =some e':=by
   rw [List.getElem?_eraseIdx] at h
   split at h
   ·exact ⟨j,cL ‹_›,h⟩
   ·exact ⟨j+1,λq=>‹¬j<i› (by omega),h⟩
  exact gG (fJ h') λq=>hj ((R.ap i e he kP).2 j' e' h' (bN.mp q))
 ·exact gG (kO hp) λq=>(R.ap i e he kP).1 p hp (bN.mp q)
theorem Rep.swap {i:Nat} {e:LE} {o:SO} {h':bA} {tk:af} {tl:Led} (R:Rep w c st s) (he:st.led[i]? =some e) (kP:e.f=true) (ht:je e.o=none) (vK:je o=none) (ok:gr st.led o) (F:Fr c.h₀ c.L h' (c.fm st.loc))
  (N:aU c.h₀ c.L h' ((e.a,o.obj w.params)::(bT [e.a] (all w c st)++tl))) (n1:∀p∈tl,p.1≠e.a) (n2:∀q∈bT [e.a] (all w c st),∀p∈tl,q.1≠p.1):
  Nx w c st {st with led:=setAt st.led i o,oth:=st.oth++tl,tk:=tk} {s with heap:=h',toks:=tk}:=by
 obtain ⟨y,hx,z⟩:=R.set he kP ht vK ok
 have sub:∀p∈all w c {st with led:=setAt st.led i o},p=(e.a,o.obj w.params)\/p∈bT [e.a] (all w c st):=λp hp=>by
  rcases aM.mp hp with hp|hp
  ·obtain ⟨j,e',h,rfl⟩:=ki hp
   obtain ⟨iQ,h0,a,y,q⟩:=get_set h
   rcases q with⟨q,b⟩|⟨q,b⟩
   ·rw [q,he] at h0;cases h0
    exact .inl (by rw [a,b])
   ·rw [a,b]
    exact .inr (gG (fJ h0) λz=>q ((R.ap i e he kP).2 j iQ h0 (bN.mp z)))
  ·refine .inr (gG (ay _ hp) λz=> ?_)
   have z:=bN.mp z
   rcases aM.mp hp with hp|hp
   ·exact (R.ap i e he kP).1 p (aq _ hp) z
   ·rcases aM.mp hp with hp|hp
    ·exact R.hd i e he kP p hp z
    ·exact (R.ap i e he kP).1 p (ay _ hp) z
 have R1:=z h' tk tk rfl F λp hp=>(sub p hp).elim (λq=>q▸N _ (.head _)) λq=>N _ (.tail _ (aq _ q))
 exact ⟨R1.more (λp hp=>N _ (.tail _ (ay _ hp))) λq hq p hp=>(sub q hq).elim (λz=>by rw [z];exact (n1 p hp).symm) λz=>n2 q z p hp,hx,rfl⟩
end
noncomputable def iu (hw hc:Int) (tw tc:af):List SV:=[.lit (.int hw tw),.lit (.int hc tc)]
noncomputable def cell (hw hc:Int) (tw tc:af) (n:Nat):Obj:=⟨.type "list",none,.seq #[.int hw tw,.int hc tc] n,#[]⟩
def wk (w:ah) (f cc:Nat) (led:Led) (Pre:Int->List aa->Prop) (cM:Led->Int->Int->List aa->aa->Prop):Prop:=
 ∀(p:cP) (loose:List ai) (bH:gp->Option aa) (mg mb:ai->Option aa) (dp un:Nat) (gd:Option (List gN)) (cn:ai) (cs:bD) (a:ac) (bX:aa) (cl:List (ai×ac)) (outer:List cu) (A₀:bZ) (base h₀:bA) (L:ac)
  (m:ai->Option aa) (news:Led) (s:ak) (Q E:aa->ak->Prop) (ha:ac) (hw hc:Int) (tw tc:af) (hn:Nat) (vs:List aa),
  (aK:∀p∈led,p∈news)->(hp:Pre hc vs)->(bI:∀p∈news,p.1≠ha)->(B:fx A₀ base outer h₀)->(F:Fr h₀ L s.heap m)->(X:(KK w.params).In h₀)->(N:aU h₀ L s.heap ((ha,cell hw hc tw tc hn)::news))->(T:Top p loose bH mg mb h₀)->(hk:cs.kind= .function)->(hd:dp+cc<recursionLimit)->(hu:un+8*cc<cLine)->
  (gb:∀r ox er tw tc hn tl h' bQ,Fr h₀ L h' m->aU h₀ L h' ((ha,cell ox er tw tc hn)::(news++tl))->(∀p∈tl,p.1≠ha)->(∀q∈news,∀p∈tl,q.1≠p.1)->cM tl hc er vs r->Q r {s with heap:=h',toks:=bQ})->
  aC (aG PG w) (gy dp un gd cn cs L a bX cl outer) (call (.ref f) (.ref ha::vs)) Q E s
noncomputable def Cv:SV->Option (Int×af)
 | .lit v=>nZ v
 |_=>none
theorem Ig {v:SV} {d:Int×af} (h:Cv v=some d):v= .lit (.int d.1 d.2):=by
 cases v with
 |lit u=>exact bW SV.lit (pA h)
 |_=>cases h
noncomputable def yN (o:SO):Option ((Int×af)×(Int×af)):=oB (jM o) λl=>oB (yF l.1) λd=>oB (Cv d.1) λa=>(Cv d.2).map λb=>(a,b)
theorem Ih {o:SO} {d:(Int×af)×(Int×af)} (h:yN o=some d):∃n,o= .lst (iu d.1.1 d.2.1 d.1.2 d.2.2) n:=by
 refine cz h λl e1 h=> ?_
 refine cz h λx e2 h=> ?_
 refine cz h λa e3 h=> ?_
 obtain ⟨b,e4,rfl⟩:=iz.mp h
 refine ⟨l.2, ?_⟩
 rw [kQ e1,B9 e2,Ig e3,Ig e4]
 rfl
def SubL (P:aB) (led:Led) (ls:List LE) (o NN:Led):Prop:=match led with
 |[]=>True
 |x::l=>∀p∈x::l,p∈bo P ls++(o++NN)
theorem Qy {P:aB} {ls:List LE} {o NN:Led}:∀{led:Led},SubL P led ls o NN-> ∀p∈led,p∈bo P ls++(o++NN)
 |[],z,y,h=>nomatch h
 |z::y,h,p,hp=>h p hp
structure rD (β:Type) where
 rv:β->SV
 tl:β->Led
 oF:Led->β->Led
 nx:Int->β->Int
 Q:Int->List aa->β->Prop
structure rD.Ok {β:Type} (S:rD β) (cM:Led->Int->Int->List aa->aa->Prop):Prop where
 k:∀tl a b vs r,cM tl a b vs r-> ∃z,r=(S.rv z).val/\tl=S.tl z/\b=S.nx a z/\S.Q a vs z
 o:∀o z,S.oF o z=o++S.tl z
 s:∀z l,aX l (S.rv z)
noncomputable def wl {β:Type} (P:aB) (NN led:Led) (Pre:Int->List aa->Prop) (S:rD β):Spec:=λvs st k=>match vs with
 |h::rest=>oK (fi h) λi=>oK st.led[i]? λe=>bK e.f (oK (yN e.o) λd=>(SubL P led (st.led.eraseIdx i) st.oth NN/\Pre d.2.1 (vals rest))/\
  ∀(z:β) ox tw tc hn tk,S.Q d.2.1 (vals rest) z->k (S.rv z) {st with led:=setAt st.led i (.lst (iu ox (S.nx d.2.1 z) tw tc) hn),oth:=S.oF st.oth z,tk:=tk})
 |_=>False
theorem yO {β:Type} {w:ah} {NN led:Led} {D f cc:Nat} {Pre:Int->List aa->Prop} {cM:Led->Int->Int->List aa->aa->Prop} {S:rD β} (Yc:cc<=D) (C:wk w f cc led Pre cM) (hS:S.Ok cM):eG w NN D f (wl w.params NN led Pre S):=by
 intro c vs st k s Q2 E O R hv h q
 cases vs with
 |nil=>exact h.elim
 |cons x rest=>
  refine aJ h λi e1 h=> ?_
  refine aJ h λe e2 h=> ?_
  refine bv h λe3 h=> ?_
  obtain ⟨d,e4,⟨h1,h2⟩,hz⟩:=gQ h
  refine (Ih e4).elim λn e5=> ?_
  have hd:=O.hd
  have hu:=O.hu
  have hn:=O.hn
  subst hn
  have m:=fJ (w:=w) (c:=c) e2
  rw [e5] at m
  rw [O.top]
  show aC _ _ (call _ (x.val::vals rest)) _ _ _
  rw [gn e1 e2 (hv x (.head _))]
  refine C c.p c.loose c.bH c.mg c.mb _ _ _ _ _ _ _ _ _ c.A₀ c.base c.h₀ c.L (c.fm st.loc) (bT [e.a] (all w c st)) s _ E e.a _ _ _ _ n _ (λp hp=>Rep.off R.tofS e2 e3 (Qy h1 p hp)) h2 (λp hp q=>(iY hp).2 (bN.mpr q)) O.B R.fr O.X (News.pull R.nw m) O.T O.hk (gZ (by omega) hd) (gZ (by omega) hu) λr ox er tw tc hn tl h' bQ F' N' n1 n2 hp=> ?_
  obtain ⟨z,e6,e7,e8,hq⟩:=hS.k _ _ _ _ _ hp
  subst e7 e8
  have Nn:=Rep.swap (o:=.lst (iu ox (S.nx d.2.1 z) tw tc) hn) (tk:=bQ) R e2 e3 (by rw [e5];rfl) rfl (λv hv=>by
   rcases bj.mp hv with rfl|hv
   ·trivial
   ·rw [bN.mp hv];trivial) F' N' n1 n2
  rw [<-hS.o] at Nn
  rw [e6]
  exact q (S.rv z) _ _ Nn (hS.s z _) (hz z ox tw tc hn bQ hq)
def ii (P:aB) (cM:Led->Int->Int->List aa->aa->Prop) (a b:Int) (vs:List aa) (led:List LE) (oth:Led) (r:SV):Prop:=cM (bo P led++oth) a b vs r.val
def Qz (P:aB) (cM:Led->Int->Int->List aa->aa->Prop) (hc:Int) (vs:List aa) (r:SV) (st:St):Prop:=oK st.led.head? λe=>bK e.f (oK (yN e.o) λd=>Sep ((st.led.filter (·.f)).map (·.a)) st.oth->ii P cM hc d.2.1 vs ((st.led.drop 1).filter (·.f)) st.oth r)
inductive Ii (w:ah) (f:Nat) (led:Led) (cM:Led->Int->Int->List aa->aa->Prop) (D b n:Nat) (H:Hint) (news:Led) (ha:ac) (hw hc:Int) (tw tc:af) (hn:Nat) (vs:List aa):Prop where
 |mk (tab:List (Nat×Spec)) (G:Cfg) (V:List LE) (gj:List SV) (h1:jh w news D G) (h2:∀n σ,n6 tab n=some σ->eG w news D n σ) (h3:vs=vals gj) (h4:∀p∈bo w.params V,p∈led) (h5:∀v∈gj++jj V,aX (⟨ha,.lst (iu hw hc tw tc) hn,true⟩::V) v) (h6:side V) (h7:∀e∈V,e.f=false)
  (h8:∀tk,jP (KK w.params) [] (Ev.jf (KK w.params) tab G H n) b (.ref f) (.own 0 ha::gj) ⟨[],⟨ha,.lst (iu hw hc tw tc) hn,true⟩::V,[],tk⟩ (Qz w.params cM hc vs)):Ii w f led cM D b n H news ha hw hc tw tc hn vs
theorem Cw {w:ah} {f cc:Nat} {led:Led} {Pre:Int->List aa->Prop} {cM:Led->Int->Int->List aa->aa->Prop} (D b n:Nat) (H:Hint) (hD:b+D<=cc)
  (h:∀news ha hw hc tw tc hn vs,(∀p∈led,p∈news)->Pre hc vs->Ii w f led cM D b n H news ha hw hc tw tc hn vs):wk w f cc led Pre cM:=by
 intro p loose bH mg mb dp un gd cn cs a bX cl outer A₀ base h₀ L m news s Q E ha hw hc tw tc hn vs aK hp bI B F X N T hk hd hu gb
 obtain ⟨tab,G,V,gj,hG,hT,rfl,hV,rk,v7,rm,ji⟩:=h news ha hw hc tw tc hn vs aK hp
 have e0:((⟨ha,.lst (iu hw hc tw tc) hn,true⟩:LE)::V)[0]? =some ⟨ha,.lst (iu hw hc tw tc) hn,true⟩:=rfl
 have hV:=λp hp=>aK p (hV p hp)
 refine B2 (tJ hG hT n) (tab:=[]) (λu u e=>nomatch e) (c:=Cx.top p loose bH mg mb dp un gd cn cs a bX cl outer A₀ base h₀ L m news s) (b:=b) (st:=⟨[],⟨ha,.lst (iu hw hc tw tc) hn,true⟩::V,[],s.toks⟩) (vs:=.own 0 ha::gj) (Cx.B4 B X T hk (gZ (jq hD _) hd) (B6 hD hu))
  ⟨⟨⟨λi e he hf=> ?_,λu u u u u h=>(nomatch h),λi e he hf=> ?_,λu h=>(nomatch h),λi e he=> ?_⟩,rfl,λu h=>(nomatch h)⟩,rfl,rfl,F,λq hq=> ?_⟩ (λv hv=>(bj.mp hv).elim (λe=>e▸⟨_,e0,rfl⟩) λhv=>rk v (aq _ hv)) (ji _) λv ao s' N' ok hk=> ?_
 ·cases i with
  |succ i=>rw [rm e (et he)] at hf;cases hf
  |zero=>
   cases he
   refine ⟨bI,λj e' wm q=> ?_⟩
   cases j with
   |zero=>rfl
   |succ j=>exact absurd q (bI _ (hV _ (gF (i:=j) wm)))
 ·cases i with
  |zero=>cases he;cases hf
  |succ i=>exact hV _ (gF (i:=i) he)
 ·cases i with
  |zero=>
   cases he
   intro v hv
   rcases bj.mp hv with rfl|hv
   ·trivial
   ·rw [bN.mp hv];trivial
  |succ i=>exact yD (l:=V) (λv hv=>rk v (ay _ hv)) v7 i e he
 ·rcases aM.mp hq with hq|hq
  ·rcases bj.mp hq with rfl|hq
   ·exact N _ (.head _)
   ·exact N _ (.tail _ (hV _ hq))
  ·exact N _ (.tail _ hq)
 ·have R:=N'.rep
  refine aJ hk λe he hk=> ?_
  refine bv hk λhf hk=> ?_
  refine aJ hk λd tY hk=> ?_
  refine (Ih tY).elim λn' eo=> ?_
  have hk:=hk R.sep
  have he:ao.led[0]? =some e:=by rw [<-he,List.head?_eq_getElem?]
  obtain ⟨e',h1,h2,y⟩:=N'.ext 0 _ e0
  rw [he] at h1
  cases h1
  have tZ:=R.same
  rw [tZ]
  have ap:=R.ap 0 e he hf
  have m0:=R.nw _ (fJ he)
  rw [eo,h2] at m0
  have sub:∀{p:ac×av},p∈bo w.params ((ao.led.drop 1).filter (·.f))-> ∃(i:Nat) (e':LE),ao.led[i+1]? =some e'/\e'.f=true/\p=(e'.a,e'.o.obj w.params):=λhp=>by
   obtain ⟨i,e',a,b,c⟩:=mem_filter hp
   exact ⟨i,e',by rw [List.getElem?_drop,Nat.add_comm] at a;exact a,b,c⟩
  refine gb v.val d.1.1 d.2.1 d.1.2 d.2.2 n' (bo w.params ((ao.led.drop 1).filter (·.f))++ao.oth) s'.heap s'.toks R.fr (λq hq=> ?_) (λq hq=> ?_) (λq hq p hp=> ?_) hk
  ·rcases bj.mp hq with rfl|hq
   ·exact m0
   ·rcases aM.mp hq with hq|hq
    ·exact R.nw _ (jw hq)
    ·rcases aM.mp hq with hq|hq
     ·obtain ⟨i,e',a,b,rfl⟩:=sub hq
      exact R.nw _ (fJ a)
     ·exact R.nw _ (iP hq)
  ·rw [<-show e.a=ha from h2]
   rcases aM.mp hq with hq|hq
   ·obtain ⟨i,e',a,b,rfl⟩:=sub hq
    exactλz=>nomatch ap.2 (i+1) e' a z
   ·exact ap.1 q (aq _ hq)
  ·rcases aM.mp hp with hp|hp
   ·obtain ⟨i,e',a,b,rfl⟩:=sub hp
    exact (R.ap _ _ a b).1 q (ay _ hq)
   ·exact R.oo p hp q (ay _ hq)
end
section
open LCg
section
variable {prog:cP} {w:ah} {A:bZ} {E:aa->ak->Prop} {s:ak} {h₀:bA} {L:ac} {m:ai->Option aa} {env:cu}
theorem QA {elt iter:az} {x y:ai} {px py:aW} {scope:bD} {cl:List (ai×ac)} {pos Ij:aW} {Q:eK->ak->Prop} (GX:Fr h₀ L s.heap m) (QB:env.locals=L)
  (QC:swapsWith (.ListComp elt [⟨.Name x px,iter,[],0⟩] scope pos) (some (.Name y py)) Ij.line env=pure true)
  (vU:closureFor scope env=pure cl) (nV:∀z∈scope.names,z.2≠ .cell) (oa:scope.kind= .function)
  (vV:∀z∈scope.names,z.2= .local->scope.names.lookup z.1=some .local) (hx:scope.names.lookup x=some .local)
  (hy:env.kindOf y=some .local) (hp:(env.scope.kind== .class||(env.scope.kind== .module&&env.locals !=env.globals))=false)
  (h:aC (aG prog w) A (eD iter env) (pE prog w A h₀ L m env elt x scope cl (λgR=>FinA h₀ L m gR y Q)) E s)
  (hs:∀x,foldedSetIterable iter env x=pure x:=by intro j;rfl):
  aC (aG prog w) A (exec (.Assign [.Name y py] (.ListComp elt [⟨.Name x px,iter,[],0⟩] scope pos) Ij) env) Q E s:=by
 subst QB
 rw [exec_Assign_Name_used _ _ _ _ QC]
 refine bC (xn (bC ?_))
 show aC _ A (do let _ <-comprehension (.ListComp elt [⟨.Name x px,iter,[],0⟩] scope pos) scope env _ (newList []) false (eD iter env) (some (assign (.Name y py) env))) _ _ s
 refine bC (gx (Ag (use:=some (assign (.Name y py) env)) (Q:=λu s'=>Q .next s') rfl hs vU oa vV
  (gx h (λxv s₁ aS=> ?_) λu u e=>e)) (λu s' hq=>dR (dR hq)) λu u e=>e)
 obtain ⟨ax,its,news,rfl,hh,F,N,S,jx,R⟩:=aS
 have hl:=S.tup N
 have iF:ax<s₁.heap.objs.size:=by obtain ⟨j,e,j⟩:=hl;exact fH e
 refine xo hl ?_
 have up:∀b o,s₁.heap.get? b=some o->(s₁.heap.push {cls:=.type "tuple_iterator",data:=.fields #[.ref ax,.int 0 0]}).get? b=some o:=λb o e=>gO _ e
 refine block_U (Walks.tuple hh s₁.heap.objs.size ax (cL iF) its) jx (λi h st=>by obtain ⟨o,e,j⟩:=st.1;exact ⟨o,e⟩)
  (λi h h' o nw st e e' k N' S'=>⟨by obtain ⟨o',q,r⟩:=st.1;rw [e] at q;cases q;exact ⟨o,e',r⟩,S'.tup N'⟩) nV oa hx ⟨⟨_,ja _ rfl,rfl,rfl⟩,S.tup (N.grown up)⟩ (λb hb=> ?_)
  (F.keeps up) (N.grown up) (cL F.ns.lt) (sL F) (λp hp=>cL (fH (N p hp).1)) S (R _) ?_
 ·show b<(s₁.heap.push _).objs.size
  rw [mo]
  rcases bj.mp hb with rfl|hb
  ·exact qv _
  ·rw [bN.mp hb];exact nE iF
 ·intro D C h' tk m' ys q7 F' N' o1 hn BK O5 ra BL BM BN fin
  show aC _ A (assign (.Name y py) env (.ref D)) _ _ _
  refine wpAny_assign_Name (wpAny_storeName_local hy F'.ns (λCy QD Cz=> ?_) hp)
  have QE:h₀.get? env.locals=none:=xH F'.above
  have QF:Fr h₀ env.locals Cy (λz=>if z=y then some (.ref D) else m z):=⟨QD,λb o e=>Cz.extBut b o (λq=>by rw [q,QE] at e;cases e) (F'.keep b o e),F'.above⟩
  refine ⟨m',hn.sameBut Cz ra,λyy vW=>fin D yy _ (QF.change vW ra BK) (λp hp=> ?_) o1⟩
  have z:Cy.get? p.1=some p.2:=Cz.extBut _ _ (N' p hp).2.1 (N' p hp).1
  refine ⟨vW.extBut _ _ ?_ z,(N' p hp).2⟩
  rcases bj.mp hp with rfl|hp
  ·exact jb BM
  ·exact BN p hp
end
end
section
theorem fM:∀(us:List aa),vals (us.map SV.ag)=us
 |[]=>rfl
 |z::us=>bW _ (fM us)
theorem jk {l:List LE} {us:List aa}:∀v∈us.map SV.ag,aX l v:=λv hv=>by
 obtain ⟨u,z,rfl⟩:=ew.mp hv
 trivial
structure CompI (ζ:Type) where
 led:ζ->List LE
 oth:ζ->Led
 rs:ζ->List aa
 J:Nat->ζ->Prop
section
variable {ζ:Type} (S:CompI ζ)
def CompI.At (led:List LE) (oth:Led) (rs:List aa) (i:Nat):Prop:=∃z,S.led z=led/\S.oth z=oth/\S.rs z=rs/\S.J i z
def CompI.run {El:Type} (n:Nat) (sv:Nat->El->SV) (P:Nat->El->Prop) (r:Ev) (sc:bD) (b:Nat) (x:ai) (elt:az) (st:St) (ε:List aa->St->Prop):Prop:=
 S.At st.led st.oth [] 0/\(∀i e z tk,i<n->P i e->S.J i z->r.ev sc b elt ⟨(x,sv i e)::st.loc,S.led z,S.oth z,tk⟩ λy ao=>S.At ao.led ao.oth (S.rs z++[y.val]) (i+1))/\
 ∀z tk,S.J n z->ε (S.rs z) ⟨st.loc,S.led z,S.oth z,tk⟩
end
def eN (k:SV->St->Prop) (rs:List aa) (st:St):Prop:=gf st (.lst (rs.map SV.ag) rs.length) k
def eO (k:SV->St->Prop) (rs:List aa) (st:St):Prop:=∀a,cH st.oth [(a,io rs)]->k (.kn a rs rs.length) {st with oth:=st.oth++[(a,io rs)]}
theorem CompI.yP {ζ El:Type} {S:CompI ζ} {w:ah} {NN:Led} {D b n:Nat} {r:Ev} (I:is w NN D r) {c:Cx} {elt:az} {x:ai} {sc:bD} {cl:List (ai×ac)} {st:St} {s:ak} {SL:Led->Prop} {P:Nat->aa->Prop} {sv:Nat->El->SV} {P':Nat->El->Prop} {ε:List aa->St->Prop} {Fin:List aa->Led->Prop}
  (O:c.Ok w NN D b) (K:mI c.es x sc) (eb:∀y∈sc.names,y.2= .free->cl.lookup y.1=c.ee.cells.lookup y.1) (hs:s={c.en with heap:=s.heap,toks:=s.toks}) (R:fS w c st) (hS:∀i rs aD,Ext st.led aD.led->S.At aD.led aD.oth rs i->SL (all w c aD))
  (hP:∀i v,P i v-> ∃e,(sv i e).val=v/\P' i e) (hv:∀i e l,aX l (sv i e)) (h:S.run n sv P' r sc b x elt st ε) (q:∀rs aD,fS w c aD->Ext st.led aD.led->aD.loc=st.loc->(∀tk,ε rs {aD with tk:=tk})->Fin rs (all w c aD)):
  LCg.CompRest PG w c.A c.h₀ c.L (c.fm st.loc) c.ee elt x sc cl s SL P Fin n 0 [] (all w c st):=by
 obtain ⟨h0,ht,hf⟩:=h
 refine G6 I O K eb hs R (λi acc aD=>S.At aD.led aD.oth (vals acc) i) h0 (λi acc aD x h=>hS i _ aD x h) (λi acc aD v0 tk hi x1 l1 ⟨z,e1,e2,e3,hj⟩ hp=> ?_) λacc aD R1 x1 l1 ha ⟨z,e1,e2,e3,hj⟩=> ?_
 ·obtain ⟨e,rfl,kl⟩:=hP i v0 hp
  have z1:=ht i e z tk hi kl hj
  rw [e1,e2,e3,<-l1] at z1
  refine ⟨_,_,rfl,hv _ _ _,z1,λy aE h2=> ?_⟩
  rw [kR]
  exact h2
 ·rw [<-e3]
  have z1:=λtk=>hf z tk hj
  rw [e1,e2,<-l1] at z1
  exact q _ aD R1 x1 l1 z1
noncomputable def ua:SV->Option (ac×(List aa×Nat))
 | .kn q us n=>some (q,(us,n))
 |_=>none
theorem yQ {v:SV} {d:ac×(List aa×Nat)} (h:ua v=some d):v= .kn d.1 d.2.1 d.2.2:=by cases v<;>cases h;rfl
noncomputable def rE:(e:az)->Option (PSigma λd:(az×aW)×((ai×aW)×(az×bD))=>e= .ListComp d.1.1 [⟨.Name d.2.1.1 d.2.1.2,d.2.2.1,[],0⟩] d.2.2.2 d.1.2)
 | .ListComp elt [⟨.Name x px,iter,[],0⟩] sc p=>some ⟨((elt,p),((x,px),(iter,sc))),rfl⟩
 |_=>none
noncomputable def QG:(e:az)->Option (PSigma λd:(ai×aW)×(az×aW)=>e= .Call (.Name d.1.1 d.1.2) [d.2.1] [] d.2.2)
 | .Call (.Name x fp) [a] [] p=>some ⟨((x,fp),(a,p)),rfl⟩
 |_=>none
noncomputable def Ik {ζ:Type} (F:St->CompI ζ):XS:=λr cs b e st k=>oK (rE e) λd=>bK (pw cs d.1.2.1.1 d.1.2.2.2&& !lE d.1.2.2.1) (r.ev cs b d.1.2.2.1 st λv st=>oK (hW st.led v) λvs=>vs.length<=1000/\
 (F st).run vs.length (λz=>SV.ag) (λi v=>(vals vs)[i]? =some v) r d.1.2.2.2 b d.1.2.1.1 d.1.1.1 st (eN k))
noncomputable def CA {ζ:Type} (F:St->CompI ζ):XS:=λr cs b e st k=>oK (rE e) λd=>bK (pw cs d.1.2.1.1 d.1.2.2.2&& !lE d.1.2.2.1) (r.ev cs b d.1.2.2.1 st λv st=>oK (fi v) λi=>oK st.led[i]? λe=>oK (jM e.o) λl=>(l.1.length<=1000/\ ∀z,((F st).led z)[i]? =some e)/\
 (F st).run l.1.length (λy=>SV.ag) (λi v=>(vals l.1)[i]? =some v) r d.1.2.2.2 b d.1.2.1.1 d.1.1.1 st (eN k))
section
variable {ζ:Type} {w:ah} {NN:Led} {D:Nat}
theorem rF {c:Cx} {b:Nat} {x:ai} {sc:bD} (O:c.Ok w NN D b) (K:mI c.es x sc):∃cl,closureFor sc c.ee=pure cl/\ ∀y∈sc.names,y.2= .free->cl.lookup y.1=c.ee.cells.lookup y.1:=
 BS (env:=c.ee) λy hy e=>(O.ce y.1 (K.f y hy e)).elim λa h=>h.elim λz h=>⟨a,h.1⟩
theorem Nx.same {c:Cx} {st ao:St} {s':ak} (N:Nx w c st ao s') (g:bA):({s' with heap:=g}:ak)={c.en with heap:=g,toks:=s'.toks}:=by rw [N.rep.same]
theorem Il {vs:List SV} (i:Nat) (v:aa) (h:(vals vs).toArray[i]? =some v):∃e,(SV.ag e).val=v/\(vals vs)[i]? =some e:=⟨v,rfl,by simpa using h⟩
theorem Im {F:St->CompI ζ} {r:Ev} (I:is w NN D r) {c:Cx} {b:Nat} {elt:az} {x:ai} {sc:bD} {cl:List (ai×ac)} {st aD:St} {s1:ak} {v:SV} {ε:List aa->St->Prop} {Fin:ak->List aa->Led->Prop} (O:c.Ok w NN D b) (K:mI c.es x sc) (eb:∀y∈sc.names,y.2= .free->cl.lookup y.1=c.ee.cells.lookup y.1) (N:Nx w c st aD s1) (ok:aX aD.led v)
  (hk:oK (hW aD.led v) λvs=>vs.length<=1000/\(F aD).run vs.length (λj=>SV.ag) (λi v=>(vals vs)[i]? =some v) r sc b x elt aD ε)
  (q:∀s2 rs aE,s2={c.en with heap:=s2.heap,toks:=s2.toks}->fS w c aE->Ext st.led aE.led->aE.loc=st.loc->(∀tk,ε rs {aE with tk:=tk})->Fin s2 rs (all w c aE)):pE PG w c.A c.h₀ c.L (c.fm st.loc) c.ee elt x sc cl Fin v.val s1:=by
 refine aJ hk λvs e1 z9=>z9.elim λhz hk=> ?_
 obtain ⟨i,e,n,e3,e4,e5,ht,lD⟩:=jy N.rep ok e1
 have m1:∀aE:St,Ext aD.led aE.led->(e.a,(SO.tup vs n).obj w.params)∈all w c aE:=λaE x=>by
  obtain ⟨e',f1,f2,f3⟩:=x i e e4
  have z:=fJ (w:=w) (c:=c) (st:=aE) f1
  rwa [f2,f3 vs (by rw [e5];rfl),e5] at z
 rw [e3,<-N.loc]
 refine pE.of O.hh N.rep.fr N.rep.nw (m1 _ (Ext.refl _)) (by show(vals vs).length<=_;rw [eh];exact n9 hz) λg=> ?_
 rw [show(vals vs).toArray.size=vs.length from eh vs]
 exact CompI.yP I O K eb (N.same g) N.rep.tofS (λj j aE x j=>⟨_,m1 aE x,rfl,n,rfl⟩) Il (λj j j=>trivial) hk λacc aE R2 x2 l2=>q _ acc aE (N.same g) R2 (N.ext.trans x2) (l2.trans N.loc)
theorem QH {F:St->CompI ζ} {r:Ev} (I:is w NN D r) {c:Cx} {b:Nat} {elt:az} {x:ai} {sc:bD} {cl:List (ai×ac)} {st aD:St} {s1:ak} {v:SV} {ε:List aa->St->Prop} {Fin:ak->List aa->Led->Prop} (O:c.Ok w NN D b) (K:mI c.es x sc) (eb:∀y∈sc.names,y.2= .free->cl.lookup y.1=c.ee.cells.lookup y.1) (N:Nx w c st aD s1) (ok:aX aD.led v)
  (hk:oK (fi v) λi=>oK aD.led[i]? λe=>oK (jM e.o) λl=>(l.1.length<=1000/\ ∀z,((F aD).led z)[i]? =some e)/\(F aD).run l.1.length (λk=>SV.ag) (λi v=>(vals l.1)[i]? =some v) r sc b x elt aD ε)
  (q:∀s2 rs aE,s2={c.en with heap:=s2.heap,toks:=s2.toks}->fS w c aE->Ext st.led aE.led->aE.loc=st.loc->(∀tk,ε rs {aE with tk:=tk})->Fin s2 rs (all w c aE)):LCg.CompSrc PG w c.A c.h₀ c.L (c.fm st.loc) c.ee elt x sc cl Fin v.val s1:=by
 refine aJ hk λi e1 hk=> ?_
 refine aJ hk λe e2 hk=> ?_
 obtain ⟨l,e3,⟨hz,hl⟩,hk⟩:=gQ hk
 have e3:=kQ e3
 have m1:∀{aE:St},aE.led[i]? =some e->(e.a,(SO.lst l.1 l.2).obj w.params)∈all w c aE:=λh=>e3▸fJ (w:=w) (c:=c) h
 rw [gn e1 e2 ok,<-N.loc]
 refine LCg.CompSrc.ledger O.hh N.rep.fr N.rep.nw (m1 e2) (by show(vals l.1).length<=_;rw [eh];exact n9 hz) λg=> ?_
 rw [show(vals l.1).toArray.size=l.1.length from eh l.1]
 exact CompI.yP I O K eb (N.same g) N.rep.tofS (λj u aE p ⟨z,f,d⟩=>.inr ⟨_,m1 (f▸hl z),rfl,l.2,rfl⟩) Il (λk k k=>trivial) hk λacc aE R2 x2 l2=>q _ acc aE (N.same g) R2 (N.ext.trans x2) (l2.trans N.loc)
def CB (F:St->CompI ζ) (KF:eE) (r:Ev) (cs:bD) (b:Nat) (iter:az) (x:ai) (elt:az) (sc:bD) (st:St) (ε:List aa->St->Prop):Prop:=oK (QG iter) λf=>bK (noStar [f.1.2.1]) (r.ev cs b (.Name f.1.1.1 f.1.1.2) st λfv st=>bK (decide (kg fv.val=some "range"))
 (r.ev cs b f.1.2.1 st λv st=>oK (d6 v.val) λm=>(0<=m/\m<=1000)/\(F st).run (El:=af) m.toNat (λi t=>.lit (.int (i:Int) t)) (λz z=>True) r sc b x elt st ε))
noncomputable def Io (KF:eE) (F:St->CompI ζ):XS:=λr cs b e st k=>oK (rE e) λd=>bK (pw cs d.1.2.1.1 d.1.2.2.2&& !lE d.1.2.2.1) (CB F KF r cs b d.1.2.2.1 d.1.2.1.1 d.1.1.1 d.1.2.2.2 st (eN k))
theorem Ip {F:St->CompI ζ} {r:Ev} (I:is w NN D r) {c:Cx} {b:Nat} {iter elt:az} {x:ai} {sc:bD} {cl:List (ai×ac)} {st:St} {s:ak} {ε:List aa->St->Prop} {Fin:ak->List aa->Led->Prop} {E:aa->ak->Prop} (O:c.Ok w NN D b) (K:mI c.es x sc) (eb:∀y∈sc.names,y.2= .free->cl.lookup y.1=c.ee.cells.lookup y.1) (R:Rep w c st s)
  (h:CB F (KK w.params) r c.es b iter x elt sc st ε)
  (q:∀s2 rs aE,s2={c.en with heap:=s2.heap,toks:=s2.toks}->fS w c aE->Ext st.led aE.led->aE.loc=st.loc->(∀tk,ε rs {aE with tk:=tk})->Fin s2 rs (all w c aE)):aC (aG PG w) c.A (eD iter c.ee) (LCg.CompSrc PG w c.A c.h₀ c.L (c.fm st.loc) c.ee elt x sc cl Fin) E s:=by
 refine aJ h λf z h=> ?_
 refine bv h λh3 h=> ?_
 rw [f.2]
 refine kH (I.ev O R h λfv aD s1 N1 lD hk=> ?_)
 refine bv hk λh4 hk=> ?_
 rw [kL (cJ h4)]
 refine nO (kG (I.ev O N1.rep hk λv aE s2 N2 cI aV=>nM ?_) (fA (cW h3).1)) (fA (cW h3).1) (iR (cW h3).2)
 obtain ⟨m,e1,⟨m0,m1⟩,aV⟩:=gQ aV
 refine (eS e1).elim λt e1=> ?_
 obtain ⟨n,rfl⟩:=ke m0
 have R2:=N2.rep
 have N:=N1.trans N2
 rw [e1]
 refine range1_rows R2.fr R2.nw λh' tk Yd Ye Yg hr F' N' z=> ?_
 rw [<-N.loc]
 have hn:Ff 0 (n:Int) 1=((n:Nat):Int):=by rw [rangeSize_nat];omega
 refine LCg.CompSrc.range (s₁:={s2 with heap:=h',toks:=tk}) O.hh F' N' hr (small_one (by decide) (by decide) (by omega) (by omega)) hn (n9 (fZ.mp m1)) λg=> ?_
 have R3:fS w c {aE with tk:=tk}:=⟨R2.tomD,R2.lc,R2.fz⟩
 have hs:({s2 with heap:=g,toks:=tk}:ak)={c.en with heap:=g,toks:=tk}:=by rw [R2.same]
 exact CompI.yP (st:={aE with tk:=tk}) (s:={s2 with heap:=g,toks:=tk}) (sv:=λi t=>.lit (.int (i:Int) t)) I O K eb hs R3 (λz z z z z=>trivial) (λi v ⟨t,e⟩=>⟨t,by rw [e];show am (i:Int) t= .int (0+(i:Int)) t;rw [Int.zero_add],trivial⟩) (λz z z=>trivial) aV λacc gh R4 x2 l2=>q _ acc gh hs R4 (N.ext.trans x2) (l2.trans N.loc)
theorem CC {c:Cx} {st:St} {k:SV->St->Prop} {Q:aa->ak->Prop} (q:Kont w c st k Q):∀s2 rs aE,s2={c.en with heap:=s2.heap,toks:=s2.toks}->fS w c aE->Ext st.led aE.led->aE.loc=st.loc->(∀tk,eN k rs {aE with tk:=tk})->LCg.FinE c.h₀ c.L (c.fm st.loc) s2 Q rs (all w c aE):=
 λs2 rs aE hs R2 x2 l2 h=>by
  have:=G7 (acc:=rs.map SV.ag) hs R2 l2 jk (λtk=>by rw [j0];exact h tk) λv gh s3 R3 x3 l3 ok hk=>q v gh s3 ⟨R3,x2.trans x3,l3.trans l2⟩ ok hk
  rwa [fM] at this
theorem QI {c:Cx} {st:St} {k:SV->St->Prop} {Q:aa->ak->Prop} (q:Kont w c st k Q):∀s2 rs aE,s2={c.en with heap:=s2.heap,toks:=s2.toks}->fS w c aE->Ext st.led aE.led->aE.loc=st.loc->(∀tk,eO k rs {aE with tk:=tk})->LCg.FinE c.h₀ c.L (c.fm st.loc) s2 Q rs (all w c aE):=
 λs2 rs aE hs R2 x2 l2 h Da h' tk F' N' o1=>by
  rw [<-l2] at F'
  have R':Rep w c {aE with tk:=tk} {s2 with heap:=h',toks:=tk}:=⟨⟨R2.tomD,R2.lc,R2.fz⟩,by show _=_;rw [hs],rfl,F',λp hp=>N' p (.tail _ hp)⟩
  exact q (.kn Da rs rs.length) _ _ ⟨R'.more (tl:=[(Da,io rs)]) (λp hp=>N' p (bN.mp hp▸ .head _)) (λq hq p hp=>by rw [bN.mp hp];exact re o1 q hq),x2,l2⟩ trivial (h tk Da λq hq p hp=>by rw [bN.mp hp];exact re o1 q (iP hq))
theorem QJ {F:St->CompI ζ}:fj w NN D (Ik F):=by
 intro r I c b e st k s Q E O R h q
 refine aJ h λd z h=> ?_
 refine bv h λh1 h=> ?_
 have K:=og (cy h1).1
 obtain ⟨cl,ig,eb⟩:=rF O K
 rw [d.2]
 exact GW R.fr ig K.c K.k K.l K.x (I.ev O R h λv aD s1 N ok hk=>Im I O K eb N ok hk (CC q)) λz=>kS (fn (cy h1).2)
theorem Iq {F:St->CompI ζ}:fj w NN D (CA F):=by
 intro r I c b e st k s Q E O R h q
 refine aJ h λd z h=> ?_
 refine bv h λh1 h=> ?_
 have K:=og (cy h1).1
 obtain ⟨cl,ig,eb⟩:=rF O K
 rw [d.2]
 exact LCg.ListComp_U R.fr ig K.c K.k K.l K.x (I.ev O R h λv aD s1 N ok hk=>QH I O K eb N ok hk (CC q)) λz=>kS (fn (cy h1).2)
theorem QK {F:St->CompI ζ}:fj w NN D (Io (KK w.params) F):=by
 intro r I c b e st k s Q E O R h q
 refine aJ h λd z h=> ?_
 refine bv h λh1 h=> ?_
 have K:=og (cy h1).1
 obtain ⟨cl,ig,eb⟩:=rF O K
 rw [d.2]
 exact LCg.ListComp_U R.fr ig K.c K.k K.l K.x (Ip I O K eb R h (CC q)) λz=>kS (fn (cy h1).2)
noncomputable def QL:(s:bP)->Option (PSigma λd:(ai×aW)×(az×aW)=>s= .Assign [.Name d.1.1 d.1.2] d.2.1 d.2.2)
 | .Assign [.Name y py] e p=>some ⟨((y,py),(e,p)),rfl⟩
 |_=>none
noncomputable def Ir (cs:bD) (y:ai) (py pos:aW) (sc:bD):Bool:=decide (cs.names.lookup y=some .local)&&(py.line==pos.line&& !(sc.names.any λ(n,k)=>n==y&&(k== .local||k== .cell)))
def CD (y:ai) (nx:St->Prop) (v:SV) (st:St):Prop:=nx {st with loc:=(y,v)::st.loc}
theorem CF {c:Cx} {b:Nat} {y:ai} {py pos:aW} {elt:az} {gs:List xm} {sc:bD} {l:Nat} (O:c.Ok w NN D b) (hF:c.Fn) (h:Ir c.es y py pos sc=true):swapsWith (.ListComp elt gs sc pos) (some (.Name y py)) l c.ee=pure true/\c.ee.kindOf y=some .local:=by
 refine cR h λh1 h2=> ?_
 have h1:c.ee.kindOf y=some .local:=by
  have h1:=cJ h1
  rw [hF.es] at h1
  rw [hF.ee]
  exact h1
 refine ⟨?_,h1⟩
 show(pure (c.ee.blockKind== .function&&c.ee.kindOf y==some .local&&py.line==pos.line&& !(sc.names.any λ(n,k)=>n==y&&(k== .local||k== .cell))):Sem Bool)=pure true
 have hb:c.ee.blockKind= .function:=by
  unfold Env.blockKind
  rw [O.kd]
  rfl
 rw [hb,h1,(cy h2).1,(cy h2).2]
 rfl
theorem CH {c:Cx} {b:Nat} (O:c.Ok w NN D b):(c.ee.scope.kind== .class||(c.ee.scope.kind== .module&&c.ee.locals !=c.ee.globals))=false:=by
 rw [O.kd]
 rfl
theorem QM {c:Cx} {st:St} {y:ai} {nx:St->Prop} {Q:eK->ak->Prop} (hF:c.Fn) (hy:c.es.names.lookup y=some .local) (q:∀ao s',Rep w c ao s'->Ext st.led ao.led->nx ao->Q .next s'):∀s2 rs aE,s2={c.en with heap:=s2.heap,toks:=s2.toks}->fS w c aE->Ext st.led aE.led->aE.loc=st.loc->
  (∀tk,eN (CD y nx) rs {aE with tk:=tk})->LCg.FinA c.h₀ c.L (c.fm st.loc) s2 y Q rs (all w c aE):=by
 intro s2 rs aE hs R2 x2 l2 h Da h' tk F' N' o1
 rw [hF.es] at hy
 rw [<-l2] at F'
 have e:(SO.lst (rs.map SV.ag) rs.length).obj w.params=io rs:=by
  show(⟨.type "list",none,.seq (vals (rs.map SV.ag)).toArray rs.length,#[]⟩:av)=_
  rw [fM]
 have RS:=R2.alloc (a:=Da) (o:=.lst (rs.map SV.ag) rs.length) tk (re o1) jk
 refine q {aE with loc:=(y,.own aE.led.length Da)::aE.loc,led:=aE.led++[⟨Da,.lst (rs.map SV.ag) rs.length,true⟩],tk:=tk} _ ⟨⟨RS.tomD,hF.jv _ _ _ hy R2.lc,bU.mpr ⟨⟨_,kh _ _,rfl⟩,RS.fz⟩⟩,by show _=_;rw [hs],rfl, ?_,λp hp=>N' p ((vJ hp).elim (λh=>by rw [h];exact e▸ .head _) λh=>.tail _ h)⟩ (x2.trans (Ext.app _ _)) (h tk Da)
 show Fr c.h₀ c.L h' (c.fm ((y,.own aE.led.length Da)::aE.loc))
 rw [hF.fm y _ _ hy]
 exact F'
theorem It {c:Cx} {st:St} {y:ai} {nx:St->Prop} {Q:eK->ak->Prop} (hF:c.Fn) (hy:c.es.names.lookup y=some .local) (q:∀ao s',Rep w c ao s'->Ext st.led ao.led->nx ao->Q .next s'):∀s2 rs aE,s2={c.en with heap:=s2.heap,toks:=s2.toks}->fS w c aE->Ext st.led aE.led->aE.loc=st.loc->
  (∀tk,eO (CD y nx) rs {aE with tk:=tk})->LCg.FinA c.h₀ c.L (c.fm st.loc) s2 y Q rs (all w c aE):=by
 intro s2 rs aE hs R2 x2 l2 h Da h' tk F' N' o1
 rw [hF.es] at hy
 rw [<-l2] at F'
 have R':Rep w c {aE with loc:=(y,.kn Da rs rs.length)::aE.loc,tk:=tk} {s2 with heap:=h',toks:=tk}:=⟨⟨R2.tomD,hF.jv _ _ _ hy R2.lc,bU.mpr ⟨trivial,R2.fz⟩⟩,by show _=_;rw [hs],rfl,by
  show Fr c.h₀ c.L h' (c.fm ((y,.kn Da rs rs.length)::aE.loc))
  rw [hF.fm y _ _ hy]
  exact F',λp hp=>N' p (.tail _ hp)⟩
 exact q _ _ (R'.more (tl:=[(Da,io rs)]) (λp hp=>N' p (bN.mp hp▸ .head _)) λq hq p hp=>by rw [bN.mp hp];exact re o1 q hq) x2 (h tk Da λq hq p hp=>by rw [bN.mp hp];exact re o1 q (iP hq))
noncomputable def CI (G:az->((az×aW)×((ai×aW)×(az×bD)))->(SV->St->Prop)->Ev->bD->Nat->St->Prop):SS:=λr cs b s st nx=>oK (QL s) λa=>oK (rE a.1.2.1) λd=>bK ((pw cs d.1.2.1.1 d.1.2.2.2&& !lE d.1.2.2.1)&&Ir cs a.1.1.1 a.1.1.2 d.1.1.2 d.1.2.2.2) (G a.1.2.1 d.1 (CD a.1.1.1 nx) r cs b st)
noncomputable def Iu (F:St->CompI ζ):SS:=CI λz d k r cs b st=>r.ev cs b d.2.2.1 st λv st=>oK (hW st.led v) λvs=>vs.length<=1000/\(F st).run vs.length (λz=>SV.ag) (λi v=>(vals vs)[i]? =some v) r d.2.2.2 b d.2.1.1 d.1.1 st (eN k)
structure wn (o NN:Led) (a:ac×(List aa×Nat)):Prop where
 m:(a.1,(⟨.type "list",none,.seq a.2.1.toArray a.2.2,#[]⟩:av))∈o++NN
 z:a.2.1.length<=1000
structure yR (o:Led) {ζ:Type} (f:ζ->Led):Prop where
 u:∀z,∀p∈o,p∈f z
def runK {δ:Type} (F:δ->St->CompI ζ) (NN:Led) (r:Ev) (cs:bD) (b:Nat) (iter:az) (x:ai) (elt:az) (sc:bD) (st:St) (ε:List aa->St->Prop):Prop:=r.ev cs b iter st λv st=>oK (ua v) λa=>∃d:δ,(wn st.oth NN a/\yR st.oth (F d st).oth)/\(F d st).run a.2.1.length (λz=>SV.ag) (λi v=>a.2.1[i]? =some v) r sc b x elt st ε
noncomputable def Iw {δ:Type} (NN:Led) (F:δ->St->CompI ζ):SS:=CI λz d k r cs b st=>runK F NN r cs b d.2.2.1 d.2.1.1 d.1.1 d.2.2.2 st (eO k)
noncomputable def Ix {δ:Type} (NN:Led) (F:δ->St->CompI ζ):XS:=λr cs b e st k=>oK (rE e) λd=>bK (pw cs d.1.2.1.1 d.1.2.2.2&& !lE d.1.2.2.1) (runK F NN r cs b d.1.2.2.1 d.1.2.1.1 d.1.1.1 d.1.2.2.2 st (eO k))
noncomputable def Iy (KF:eE) (F:St->CompI ζ):SS:=CI λz d k r cs b st=>CB F KF r cs b d.2.2.1 d.2.1.1 d.1.1 d.2.2.2 st (eO k)
theorem QN {F:St->CompI ζ}:jz w NN D (Iu F):=by
 intro r I c b sm st nx s Q E O hF R h q
 refine aJ h λa z h=> ?_
 refine aJ h λd z h=> ?_
 refine bv h λh1 h=> ?_
 refine cR h1 λh1 h3=> ?_
 have K:=og (cy h1).1
 obtain ⟨cl,ig,eb⟩:=rF O K
 obtain ⟨w1,w2⟩:=CF (elt:=d.1.1.1) (gs:=[⟨.Name d.1.2.1.1 d.1.2.1.2,d.1.2.2.1,[],0⟩]) (l:=a.1.2.2.line) O hF h3
 rw [a.2,d.2]
 exact QA R.fr (by rw [hF.ee];rfl) w1 ig K.c K.k K.l K.x w2 (CH O) (I.ev O R h λv aD s1 N ok hk=>Im I O K eb N ok hk (QM hF (cJ (cy h3).1) q)) λz=>kS (fn (cy h1).2)
theorem QO {F:St->CompI ζ}:jz w NN D (Iy (KK w.params) F):=by
 intro r I c b sm st nx s Q E O hF R h q
 refine aJ h λa z h=> ?_
 refine aJ h λd z h=> ?_
 refine bv h λh1 h=> ?_
 refine cR h1 λh1 h3=> ?_
 have K:=og (cy h1).1
 obtain ⟨cl,ig,eb⟩:=rF O K
 obtain ⟨w1,w2⟩:=CF (elt:=d.1.1.1) (gs:=[⟨.Name d.1.2.1.1 d.1.2.1.2,d.1.2.2.1,[],0⟩]) (l:=a.1.2.2.line) O hF h3
 rw [a.2,d.2]
 exact LCg.Assign_ListComp_U R.fr (by rw [hF.ee];rfl) w1 ig K.c K.k K.l K.x w2 (CH O) (Ip I O K eb R h (It hF (cJ (cy h3).1) q)) λz=>kS (fn (cy h1).2)
theorem Iz {δ:Type} {F:δ->St->CompI ζ} {r:Ev} (I:is w NN D r) {c:Cx} {b:Nat} {elt:az} {x:ai} {sc:bD} {cl:List (ai×ac)} {st aD:St} {s1:ak} {v:SV} {ε:List aa->St->Prop} {Fin:ak->List aa->Led->Prop} (O:c.Ok w NN D b) (K:mI c.es x sc) (eb:∀y∈sc.names,y.2= .free->cl.lookup y.1=c.ee.cells.lookup y.1) (N:Nx w c st aD s1)
  (hk:oK (ua v) λa=>∃d:δ,(wn aD.oth NN a/\yR aD.oth (F d aD).oth)/\(F d aD).run a.2.1.length (λo=>SV.ag) (λi v=>a.2.1[i]? =some v) r sc b x elt aD ε)
  (q:∀s2 rs aE,s2={c.en with heap:=s2.heap,toks:=s2.toks}->fS w c aE->Ext st.led aE.led->aE.loc=st.loc->(∀tk,ε rs {aE with tk:=tk})->Fin s2 rs (all w c aE)):LCg.CompSrc PG w c.A c.h₀ c.L (c.fm st.loc) c.ee elt x sc cl Fin v.val s1:=by
 obtain ⟨⟨a,us,n⟩,e1,d,⟨⟨hm,hz⟩,hu⟩,aV⟩:=gQ hk
 have hn:=O.hn
 subst hn
 have m1:∀{aE:St},(∀p∈aD.oth,p∈aE.oth)->(a,(⟨.type "list",none,.seq us.toArray n,#[]⟩:av))∈all w c aE:=λh=>(aM.mp hm).elim (λhm=>iP (h _ hm)) jw
 rw [yQ e1,<-N.loc]
 refine LCg.CompSrc.ledger O.hh N.rep.fr N.rep.nw (m1 λo h=>h) (by show us.length<=_;exact n9 hz) λg=> ?_
 exact CompI.yP (sv:=λo=>SV.ag) (P':=λi v=>us[i]? =some v) I O K eb (N.same g) N.rep.tofS (λj e aE k ⟨z,l,f,m⟩=>.inr ⟨_,m1 (f▸hu.u z),rfl,n,rfl⟩) (λi v h=>⟨v,rfl,by simpa using h⟩) (λo o o=>trivial) aV λrs aE R2 x2 l2=>q _ rs aE (N.same g) R2 (N.ext.trans x2) (l2.trans N.loc)
theorem QP {δ:Type} {F:δ->St->CompI ζ}:fj w NN D (Ix NN F):=by
 intro r I c b e st k s Q E O R h q
 refine aJ h λd z h=> ?_
 refine bv h λh1 h=> ?_
 have K:=og (cy h1).1
 obtain ⟨cl,ig,eb⟩:=rF O K
 rw [d.2]
 exact LCg.ListComp_U R.fr ig K.c K.k K.l K.x (I.ev O R h λv aD s1 N ok hk=>Iz I O K eb N hk (QI q)) λz=>kS (fn (cy h1).2)
theorem QQ {δ:Type} {F:δ->St->CompI ζ}:jz w NN D (Iw NN F):=by
 intro r I c b sm st nx s Q E O hF R h q
 refine aJ h λa z h=> ?_
 refine aJ h λd z h=> ?_
 refine bv h λh1 h=> ?_
 refine cR h1 λh1 h3=> ?_
 have K:=og (cy h1).1
 obtain ⟨cl,ig,eb⟩:=rF O K
 obtain ⟨w1,w2⟩:=CF (elt:=d.1.1.1) (gs:=[⟨.Name d.1.2.1.1 d.1.2.1.2,d.1.2.2.1,[],0⟩]) (l:=a.1.2.2.line) O hF h3
 rw [a.2,d.2]
 exact LCg.Assign_ListComp_U R.fr (by rw [hF.ee];rfl) w1 ig K.c K.k K.l K.x w2 (CH O) (I.ev O R h λv aD s1 N ok hk=>Iz I O K eb N hk (It hF (cJ (cy h3).1) q)) λz=>kS (fn (cy h1).2)
end
end
section
theorem QR {a:Int} (h0:0<=a) (h:a<1152921504606846976):AL a<=64:=by
 unfold AL
 split
 ·exact da _
 ·rename_i hz
  have QS:a.natAbs≠0:=by intro e;apply hz;simp;omega
  have:=(Nat.log2_lt QS).mpr (show a.natAbs<2^60 by omega)
  omega
def bE (b:Bool) (x y:Prop):Prop:=match b with
 |true=>x
 |false=>y
theorem IA {b:Bool} {x y:Prop} (h:bE b x y):(b=true/\x)\/y:=match b,h with
 |true,h=>.inl ⟨rfl,h⟩
 |false,h=>.inr h
theorem mM {b:Bool} {x y q:Prop} (h:bE b x y) (f:b=true->x->q) (g:y->q):q:=(IA h).elim (λh=>f h.1 h.2) g
section
variable {w:ah} {NN:Led} {D:Nat}
noncomputable def QT:(e:az)->Option (PSigma λd:(az×qo)×(az×aW)=>e= .BinOp d.1.1 d.1.2 d.2.1 d.2.2)
 | .BinOp l op r p=>some ⟨((l,op),(r,p)),rfl⟩
 |_=>none
structure yS (m n:Int):Prop where
 h:IntMulOk m n
structure IB (m n:Int):Prop where
 z:n≠0
 h:Builtin.divisionGoesByPylong m n=false
def QU (op:qo) (x y:SV) (st:St) (k:SV->St->Prop):Prop:=bE (decide (op= .Mult)) (oK (d6 x.val) λm=>oK (d6 y.val) λn=>yS m n/\k (.lit (.int (m*n) st.tk)) (st.tick 1))
 (bE (decide (op= .FloorDiv)) (oK (d6 x.val) λm=>oK (d6 y.val) λn=>IB m n/\k (.lit (.int (m.fdiv n) st.tk)) (st.tick 1)) (yf op x y st k))
noncomputable def wq (P:aB):XS:=λr cs b e st k=>oE (QT e) (λd=>r.ev cs b d.1.1.1 st λx st=>r.ev cs b d.1.2.1 st λy st=>QU d.1.1.2 x y st k) (fR (KK P) Cfg.none r cs b [] e st k)
theorem yT:fj w NN D (wq w.params):=by
 intro r I c b e st k s Q E O R h q
 refine eg h (λd y h=> ?_) λy h=>gi I ez O R h q
 rw [d.2]
 refine uY (I.ev O R h λv aD s1 N ok hk=>I.ev O N.rep hk λv2 aE s2 N2 cI h=> ?_)
 have R2:=N2.rep
 have q2:=q.after (N.trans N2)
 have num:∀{n:Int},k (.lit (.int n aE.tk)) (aE.tick 1)->Q (.int n s2.toks) {s2 with toks:=s2.toks+1}:=λh=>by
  have:=q2 (.lit _) _ _ ⟨R2.toks 1,Ext.refl _,rfl⟩ trivial h
  rw [<-R2.tk] at this
  exact this
 refine mM h (λe h=> ?_) λh=>mM h (λe h=> ?_) λh=>GQ R2 (ok.ext N2.ext) cI h q2
 ·rw [cJ e]
  refine aJ h λm e1 h=>aJ h λn e2 h=>(eS e1).elim λt e1=>(eS e2).elim λu e2=> ?_
  rw [e1,e2]
  exact mul_int (num h.2) h.1.h
 ·rw [cJ e]
  refine aJ h λm e1 h=>aJ h λn e2 h=>(eS e1).elim λt e1=>(eS e2).elim λu e2=> ?_
  rw [e1,e2]
  exact floordiv_int h.1.z (num h.2) (.inl h.1.h)
noncomputable def IC (w:ah):Cfg:=⟨[((534,15),wq w.params),((534,16),wq w.params),((534,40),wq w.params),((536,14),wq w.params)],Cfg.none.rd,Cfg.none.iv,[]⟩
theorem QV:jh w NN D (IC w):=⟨λ{_ _ _ _ _ _ _}=>ez,pL,dZ yT (dZ yT (dZ yT (dZ yT km)))⟩
end
structure k7 (hc:Int) (vs:List aa):Prop where
 m:∃(many:Int) (t:af),vs=[.int many t]/\1<=many/\many<1000
 c:0<=hc/\hc<1000000
structure iZ (a:Int) (vs:List aa) (z:Int×af):Prop where
 n:0<=z.1
 m:∀(many:Int) (t:af),vs=[.int many t]->z.1<many
noncomputable def ID:rD (Int×af):=⟨λz=>.lit (.int z.1 z.2),λy=>[],λo y=>o,λa y=>a+1,iZ⟩
def IE (tl:Led) (a b:Int) (vs:List aa) (r:aa):Prop:=∃z,r=(ID.rv z).val/\tl=[]/\b=a+1/\iZ a vs z
def CJ (P:aB) (hc many:Int) (t:af) (x:Int) (u:af):Prop:=ii P IE hc (hc+1) [.int many t] [] [] (.lit (.int (x.fmod many) u))
theorem IF {P:aB} {hc many x:Int} {t u:af} (h:1<=many):CJ P hc many t x u:=⟨(_,u),rfl,rfl,rfl,⟨Int.fmod_nonneg_of_pos _ h,λz z e=>by cases e;exact Int.fmod_lt_of_pos _ h⟩⟩
theorem IG (w:ah):wk w 938 8 [] k7 IE:=Cw 4 4 60 [] (by decide) λnews ha hw hc tw tc hn vs aK hp=>by
 obtain ⟨⟨many,t,rfl,h1,h2⟩,h3,h4⟩:=hp
 refine ⟨[],IC w,[],[.lit (.int many t)],QV,iS,rfl,λz h=>(nomatch h),HB (vs:=[.int many t]),trivial,λz h=>(nomatch h),λtk=> ?_⟩
 have m0:many≠0:=by omega
 refine fQ (by kernel_rfl:_= @qu (λz=>Prop) (many≠0/\IB hw many/\(Sep [ha] []->CJ w.params hc many t hw (tk+9)))
  (yS 7 (hc+1)/\yS (7*(hc+1)) (hc+1)/\yS 5 (hc+1)/\(101:Int)≠0/\many≠0/\(Sep [ha] []->CJ w.params hc many t ((7*(hc+1)*(hc+1)+5*(hc+1)+3).fmod 101) (tk+21))) (hw==0)) ?_
 cases hw==0 with
 |false=>exact ⟨m0,⟨m0,PyProof.noPylong_small (by omega)⟩,λz=>IF h1⟩
 |true=>
  have b:AL (hc+1)<=64:=QR (by omega) (by omega)
  exact ⟨⟨.of_right b⟩,⟨.of_right b⟩,⟨.of_right b⟩,by decide,m0,λz=>IF h1⟩
end
section
theorem CK:∀{vs:List aa} {l:List Nat},IV vs l-> ∀(i:Nat) (v:aa),vs[i]? =some v-> ∃(sp:Nat) (ts:af),v= .int (sp:Int) ts/\l[i]? =some sp
 |[],[],z,i,v,e=>by simp at e
 |[],z::y,h,q,j,u=>h.elim
 |z::y,[],h,q,j,u=>h.elim
 |v'::vs,n::l,h,i,v,e=>by
  obtain ⟨⟨t,rfl⟩,h⟩:=h
  cases i with
  |zero=>simp at e;subst e;exact ⟨n,t,rfl,rfl⟩
  |succ i=>simpa using CK h i v (by simpa using e)
theorem II:∀{vs:List aa} {l:List Nat},IV vs l->vs.length=l.length
 |[],[],z=>rfl
 |[],z::y,h=>h.elim
 |z::y,[],h=>h.elim
 |z::y,q::j,h=>by simp [II h.2]
theorem IJ:∀{vs:List aa} {l:List Nat} {n:Nat} {t:af},IV vs l->IV (vs++[.int (n:Int) t]) (l++[n])
 |[],[],z,t,y=>⟨⟨t,rfl⟩,trivial⟩
 |[],z::y,q,j,h=>h.elim
 |z::y,[],q,j,h=>h.elim
 |z::y,q::j,u,g,h=>⟨h.1,IJ h.2⟩
theorem IK:∀{ns l:List Nat} {n sp:Nat},dm ns l->n<sp->dm (ns++[n]) (l++[sp])
 |[],[],z,y,q,h=>⟨h,trivial⟩
 |[],z::y,q,j,h,u=>h.elim
 |z::y,[],q,j,h,u=>h.elim
 |z::y,q::j,u,g,h,k=>⟨h.1,IK h.2 k⟩
theorem QW {ns l:List Nat} {i n sp:Nat} (h:dm ns (l.take i)) (e:l[i]? =some sp) (k:n<sp):dm (ns++[n]) (l.take (i+1)):=by
 rw [vg,e,AF]
 exact IK h k
theorem ub:∀K:Nat,K<15->(bz K).length<=8/\ ∀sp∈bz K,2<=sp/\sp<=12:=by decide
theorem yU:∀{ns l:List Nat},dm ns l->ns.length=l.length
 |[],[],z=>rfl
 |[],z::y,h=>h.elim
 |z::y,[],h=>h.elim
 |z::y,q::j,h=>by simp [yU h.2]
theorem IL:∀{ts:List Tr} {T:Tr},dK ts->WF T->dK (ts++[T])
 |[],z,y,h=>⟨h,trivial⟩
 |z::y,q,h,k=>by
  unfold dK at h
  exact ⟨h.1,IL h.2 k⟩
theorem IM {n:Nat}:∀{ts:List Tr} {T:Tr},cA ts<=n->hg T+1<=n->cA (ts++[T])<=n
 |[],z,y,h=>by
  show cA [_]<=n
  unfold cA
  exact jZ.mpr ⟨h,da _⟩
 |z::y,q,h,k=>by
  unfold cA at h
  have:=jZ.mp h
  show cA (_::(_++[_]))<=n
  unfold cA
  exact jZ.mpr ⟨this.1,IM this.2 k⟩
mutual
noncomputable def wr:Tr->Prop
 | .mk z y inner=>inner.length<=2/\jT inner
noncomputable def jT:List Tr->Prop
 |[]=>True
 |t::r=>wr t/\jT r
end
theorem IN:∀{ts:List Tr} {T:Tr},jT ts->wr T->jT (ts++[T])
 |[],z,y,h=>⟨h,trivial⟩
 |z::y,q,h,k=>by
  unfold jT at h
  exact ⟨h.1,IN h.2 k⟩
def IP (deep:Nat) (tl:Led) (r:aa):Prop:=∃T,TR tl T r/\WF T/\hg T<=deep/\wr T
noncomputable def fc:Nat->Nat
 |0=>10
 |d+1=>10+2*fc d
theorem QX:∀d,10<=fc d
 |0=>cS _
 |d+1=>oZ _ _
theorem QY {deep K:Nat} {tl:Led} {D Dn Di:ac} {t:af} {ns:List Nat} {vs us:Array aa} {n0 n1 n2:Nat} {ts:List Tr} (hK:K<15) (m1:(D,(⟨.type "tuple",none,.seq #[.int (K:Int) t,.ref Dn,.ref Di] n0,#[]⟩:av))∈tl) (m2:(Dn,(⟨.type "tuple",none,.seq vs n1,#[]⟩:av))∈tl) (iv:IV vs.toList ns) (uc:dm ns (bz K)) (m3:(Di,(⟨.type "tuple",none,.seq us n2,#[]⟩:av))∈tl) (CL:bF tl ts us.toList) (hh:held K=false->ts=[]) (hl:ts.length<=2) (wf:dK ts) (hg:cA ts<=deep) (tn:jT ts):IP deep tl (.ref D):=
 ⟨.mk K ns ts,⟨⟨D,Dn,Di,t,vs,n0,n1,us,n2⟩,rfl,m1,m2,iv,m3,CL⟩,⟨hK,uc,hh,aI hl (by decide),wf⟩,hg,hl,tn⟩
end
section
section
variable {P:List Nat->Prop} {ns r:List Nat} {s s0 s1 s2 s3 s4 s5 s6 s7:Nat}
theorem CM (h:P []) (b:dm ns []):P ns:=by
 cases ns with
 |nil=>exact h
 |cons=>exact sQ b
theorem pR (h:∀a,a<s-> ∀ns,dm ns r->P (a::ns)) (b:dm ns (s::r)):P ns:=by
 cases ns with
 |nil=>exact sQ b
 |cons a ns=>exact h a b.1 ns b.2
theorem CN (h:∀a,a<s0->P [a]):dm ns [s0]->P ns:=pR λa c ns=>CM (P:=λns=>P (a::ns)) (h a c)
theorem lN (h:∀a b,a<s0->b<s1->P [a,b]):dm ns [s0,s1]->P ns:=pR λa c ns=>CN (P:=λns=>P (a::ns)) λb=>h a b c
theorem wt (h:∀a b c,a<s0->b<s1->c<s2->P [a,b,c]):dm ns [s0,s1,s2]->P ns:=pR λa x ns=>lN (P:=λns=>P (a::ns)) λb c=>h a b c x
theorem CO (h:∀a b c d,a<s0->b<s1->c<s2->d<s3->P [a,b,c,d]):dm ns [s0,s1,s2,s3]->P ns:=pR λa x ns=>wt (P:=λns=>P (a::ns)) λb c d=>h a b c d x
theorem wu (h:∀a b c d e,a<s0->b<s1->c<s2->d<s3->e<s4->P [a,b,c,d,e]):dm ns [s0,s1,s2,s3,s4]->P ns:=pR λa x ns=>CO (P:=λns=>P (a::ns)) λb c d e=>h a b c d e x
theorem CQ (h:∀a b c d e f,a<s0->b<s1->c<s2->d<s3->e<s4->f<s5->P [a,b,c,d,e,f]):dm ns [s0,s1,s2,s3,s4,s5]->P ns:=pR λa x ns=>wu (P:=λns=>P (a::ns)) λb c d e f=>h a b c d e f x
theorem CR (h:∀a b c d e f g,a<s0->b<s1->c<s2->d<s3->e<s4->f<s5->g<s6->P [a,b,c,d,e,f,g]):dm ns [s0,s1,s2,s3,s4,s5,s6]->P ns:=pR λa x ns=>CQ (P:=λns=>P (a::ns)) λb c d e f g=>h a b c d e f g x
theorem IQ (h:∀a b c d e f g i,a<s0->b<s1->c<s2->d<s3->e<s4->f<s5->g<s6->i<s7->P [a,b,c,d,e,f,g,i]):dm ns [s0,s1,s2,s3,s4,s5,s6,s7]->P ns:=pR λa x ns=>CR (P:=λns=>P (a::ns)) λb c d e f g i=>h a b c d e f g i x
end
noncomputable def uI:bM->Int
 | .int i=>i
 |_=>0
noncomputable def uT:bM->List bM
 | .tuple l=>l
 |_=>[]
noncomputable def uN (d:bM) (i:Nat):PyData:=((uT d)[i]?).getD (.int 0)
noncomputable def uP (d:bM) (i:Nat) (o:Int):Nat:=(uI (uN d i)+o).toNat
noncomputable def uM (d:bM) (i:Nat) (o:Int):Nat:=(uI (uN d i) -o).toNat
noncomputable def u0 (d:bM) (i:Nat):Nat:=(uI (uN d i)).toNat
noncomputable def uO (d:bM) (i:Nat):Nat:=match uT (uN d i) with
 |[]=>0
 |x::z=>(uI x+2).toNat
noncomputable def uS (i:Int):Nat:=[0,4,5,100,108,115].idxOf i
noncomputable def IR (d:bM):Nat:=match u0 d 0 with
 |0=>1
 |1=>2
 |2=>0
 |3=>0
 |4=>3
 |5=>4
 |6=>if(uT (uN d 3)).isEmpty then 5 else 6
 |n=>n
noncomputable def IS (k:Nat) (d:bM):List Nat:=match k with
 |0=>[uM d 0 2,u0 d 1,u0 d 2,u0 d 3,u0 d 4,u0 d 5,u0 d 6,u0 (uN d 7) 0]
 |1=>[uM d 1 1,uM d 2 97]
 |2=>[uM d 1 1,uM d 2 97,uM (uN d 3) 1 97,u0 d 4,u0 d 5]
 |3=>[uO d 1,uO d 2,uO d 3]
 |4=>[uP d 1 6,u0 d 2]
 |5=>[u0 (uN d 1) 0,uM (uN d 1) 1 1,u0 (uN d 1) 2,uP (uN d 1) 3 12,u0 (uN d 1) 4,uS (uI (uN d 2))]
 |6=>[u0 (uN d 1) 0,uM d 2 1,if u0 (uN d 3) 0=4 then 0 else 1,if u0 (uN d 3) 0=4 then u0 (uN (uN d 3) 1) 0 else u0 (uN d 3) 1]
 |7=>[uP d 1 6]
 |8=>[u0 (uN (uN d 1) 0) 2,u0 (uN (uN d 2) 0) 1,u0 (uN (uN d 3) 1) 1]
 |9=>[u0 (uN (uN d 1) 0) 1,u0 (uN (uN d 1) 1) 1]
 |10=>[u0 d 1,u0 d 2,u0 d 3,u0 (uN d 4) 0,uP d 5 5]
 |11=>[]
 |12=>[u0 d 1,u0 d 2]
 |13=>[u0 (uN d 2) 0,uM (uN d 2) 1 200]
 |_=>[u0 d 1,u0 d 2,u0 d 3,uM d 4 1,u0 d 6,u0 (uN d 7) 1,u0 d 5]
noncomputable def IT (k:Nat) (d:bM):List PyData:=uT (uN d (match k with
 |0=>8
 |10=>6
 |11=>1
 |_=>9))
structure Dc (k:Nat) (inner:List Tr) (ns:List Nat):Prop where
 kd:IR (desc (nd (.mk k ns inner)))=k
 nm:IS k (desc (nd (.mk k ns inner)))=ns
 it:held k=true->IT k (desc (nd (.mk k ns inner)))=bS (bO inner)
theorem tp {a:Nat} {c:Int}:((c+(a:Int)) -c).toNat=a:=by rw [Int.add_comm,Int.add_sub_cancel];rfl
theorem tq {a:Nat} {c:Int}:(((a:Int)+c) -c).toNat=a:=by rw [Int.add_sub_cancel];rfl
theorem tm {a:Nat} {c:Int}:(((a:Int) -c)+c).toNat=a:=by rw [Int.sub_add_cancel];rfl
theorem tb {a:Nat} (h:a<2):(if((a:Int)==1)=true then(1:Int) else 0).toNat=a:=match a,h with
 |0,z=>rfl
 |1,z=>rfl
theorem ts {a:Nat} (h:a<6):uS (iT a)=a:=(by decide:∀a,a<6->uS (iT a)=a) a h
theorem tz (a:Nat):(match uT (tv (sz a)) with|[]=>0|x::z=>(uI x+2).toNat)=a:=match a with
 |0=>rfl
 |a+1=>tm (a:=a+1) (c:=2)
theorem to {a:Nat} (h:a<256):((nP a).toNat:Int).toNat=a:=by
 show(nP a).toNat=a
 rw [UInt8.toNat_ofNat'];exact Nat.mod_eq_of_lt h
theorem tu {b:Nat} (h:b+200<256):(((nP (b+200)).toNat:Int) -200).toNat=b:=by
 rw [show(nP (b+200)).toNat=b+200 by rw [UInt8.toNat_ofNat'];exact Nat.mod_eq_of_lt h]
 exact tq (c:=200)
theorem nh {p:Prop}:false=true->p:=nofun
theorem tc {a b:Nat} {r t:List Nat} (h:a=b) (k:r=t):a::r=b::t:=by rw [h,k]
theorem dc (inner:List Tr):∀{k:Nat} {ns:List Nat},k<15->dm ns (bz k)->Dc k inner ns
 |0,ns,z,b=>IQ (s0:=2) (s1:=12) (s2:=12) (s3:=12) (s4:=12) (s5:=3) (s6:=4) (s7:=12) (λa b c d e f g i h y y y y y y y=>⟨match a,h with
  |0,z=>rfl
  |1,z=>rfl,tc tp rfl,λy=>rfl⟩) b
 |1,ns,z,b=>lN (s0:=2) (s1:=12) (λa b y y=>⟨rfl,tc tp (tc tp rfl),λh=>nh h⟩) b
 |2,ns,z,b=>wu (s0:=2) (s1:=12) (s2:=12) (s3:=2) (s4:=2) (λa b c d e y y y h h'=>⟨rfl,tc tp (tc tp (tc tp (tc (tb h) (tc (tb h') rfl)))),λh=>nh h⟩) b
 |3,ns,z,b=>wt (s0:=4) (s1:=4) (s2:=4) (λa b c y y y=>⟨rfl,tc (tz a) (tc (tz b) (tc (tz c) rfl)),λh=>nh h⟩) b
 |4,ns,z,b=>lN (s0:=12) (s1:=4) (λa b y y=>⟨rfl,tc tm rfl,λh=>nh h⟩) b
 |5,ns,z,b=>CQ (s0:=12) (s1:=12) (s2:=4) (s3:=12) (s4:=4) (s5:=6) (λa b c d e f y y y y y h=>⟨rfl,tc rfl (tc tq (tc rfl (tc tm (tc rfl (tc (ts h) rfl))))),λh=>nh h⟩) b
 |6,ns,z,b=>CO (s0:=12) (s1:=3) (s2:=2) (s3:=12) (λa b c d y y h y=>match c,h with
  |0,z=>⟨rfl,tc rfl (tc tp rfl),λh=>nh h⟩
  |1,z=>⟨rfl,tc rfl (tc tp rfl),λh=>nh h⟩) b
 |7,ns,z,b=>CN (s0:=12) (λa y=>⟨rfl,tc tm rfl,λh=>nh h⟩) b
 |8,ns,z,b=>wt (s0:=12) (s1:=12) (s2:=12) (λa b c y y y=>⟨rfl,rfl,λh=>nh h⟩) b
 |9,ns,z,b=>lN (s0:=12) (s1:=12) (λa b y y=>⟨rfl,rfl,λh=>nh h⟩) b
 |10,ns,z,b=>wu (s0:=12) (s1:=12) (s2:=12) (s3:=12) (s4:=12) (λa b c d e y y y y y=>⟨rfl,tc rfl (tc rfl (tc rfl (tc rfl (tc tm rfl)))),λy=>rfl⟩) b
 |11,ns,z,b=>CM ⟨rfl,rfl,λy=>rfl⟩ b
 |12,ns,z,b=>lN (s0:=2) (s1:=12) (λa b h y=>⟨rfl,tc (tb h) rfl,λh=>nh h⟩) b
 |13,ns,z,b=>lN (s0:=12) (s1:=12) (λa b h h'=>⟨rfl,tc (to (nF h (by decide))) (tc (tu (nF (Nat.add_lt_add_right h' 200) (by decide))) rfl),λh=>nh h⟩) b
 |14,ns,z,b=>CR (s0:=12) (s1:=12) (s2:=12) (s3:=4) (s4:=12) (s5:=12) (s6:=2) (λa b c d e f g y y y y y y h=>⟨rfl,tc rfl (tc rfl (tc rfl (tc tp (tc rfl (tc rfl (tc (tb h) rfl)))))),λy=>rfl⟩) b
 |k+15,_,h,_=>absurd h (vc.mpr (lz 15 k))
end
section
theorem QZ {k k':Nat} {ns tH:List Nat} {inner mN:List Tr} (h:WF (.mk k ns inner)) (h':WF (.mk k' tH mN)) (IH:dK inner->dK mN->bS (bO inner)=bS (bO mN)->inner=mN) (e:desc (nd (.mk k ns inner))=desc (nd (.mk k' tH mN))):Tr.mk k ns inner=Tr.mk k' tH mN:=by
 unfold WF at h h'
 have A:=dc inner h.1 h.2.1
 have B:=dc mN h'.1 h'.2.1
 have e1:k=k':=A.kd.symm.trans ((bW IR e).trans B.kd)
 subst e1
 rw [show ns=tH from A.nm.symm.trans ((bW (IS k) e).trans B.nm)]
 cases q:held k with
 |true=>rw [IH h.2.2.2.2 h'.2.2.2.2 ((A.it q).symm.trans ((bW (IT k) e).trans (B.it q)))]
 |false=>rw [h.2.2.1 q,h'.2.2.1 q]
mutual
theorem Q0:∀(t u:Tr),WF t->WF u->desc (nd t)=desc (nd u)->t=u
 | .mk z y inner,.mk q j mN,h,h',e=>QZ h h' (CS inner mN) e
theorem CS:∀(t u:List Tr),dK t->dK u->bS (bO t)=bS (bO u)->t=u
 |[],[],z,y,q=>rfl
 |[],z::y,q,j,e=>nomatch e
 |z::y,[],q,j,e=>nomatch e
 |t::r,u::v,h,h',e=>by
  unfold dK at h h'
  have e:=sT e
  rw [Q0 t u h.1 h'.1 e.1,CS r v h.2 h'.2 e.2]
end
end
section
mutual
noncomputable def pl:bM->Bool
 | .int z=>true
 | .tuple xs=>kq xs
 | .list xs=>kq xs
 |_=>false
noncomputable def kq:List bM->Bool
 |[]=>true
 |x::r=>pl x&&kq r
end
theorem ft {p:Prop} (h:false=true):p:=Bool.noConfusion h
theorem aT {a b:Bool} (h:a=true) (k:b=true):(a&&b)=true:=u7.mpr ⟨h,k⟩
theorem aL {a b:Bool} (h:(a&&b)=true):a=true:=(u7.mp h).1
theorem aR {a b:Bool} (h:(a&&b)=true):b=true:=(u7.mp h).2
mutual
theorem IU:∀a b:bM,pl a=true->pl b=true->ec a b=true->a=b
 | .int z,.int y,q,j,k=>bW _ (eq_of_beq k)
 | .tuple xs,.tuple ys,h,h',k=>bW _ (CT xs ys h h' k)
 | .list xs,.list ys,h,h',k=>bW _ (CT xs ys h h' k)
 | .int _,.tuple _,_,_,k| .int _,.list _,_,_,k| .tuple _,.int _,_,_,k| .list _,.int _,_,_,k| .tuple _,.list _,_,_,k| .list z,.tuple y,q,j,k=>ft k
 | .none,_,h,_,_| .bool _,_,h,_,_| .str _,_,h,_,_| .dict z,y,h,q,j=>ft h
 |_,.none,_,h,_|_,.bool _,_,h,_|_,.str _,_,h,_|z,.dict y,q,h,j=>ft h
theorem CT:∀a b:List bM,kq a=true->kq b=true->PyData.eqvAll a b=true->a=b
 |[],[],z,q,j=>rfl
 |[],_::_,_,_,k|z::q,[],j,u,k=>ft k
 |x::r,y::s,h,h',k=>congr (bW _ (IU x y (aL h) (aL h') (aL k))) (CT r s (aR h) (aR h') (aR k))
end
mutual
theorem yV:∀a:bM,pl a=true->a.canLay0=true/\ec a a=true
 | .int z,y=>⟨rfl,beq_self_eq_true _⟩
 | .tuple xs,h| .list xs,h=>CU xs h
 | .none,h| .bool _,h| .str _,h| .dict z,h=>ft h
theorem CU:∀a:List bM,kq a=true->PyData.canLayAll0 a=true/\PyData.eqvAll a a=true
 |[],z=>⟨rfl,rfl⟩
 |x::r,h=>⟨aT (yV x (aL h)).1 (CU r (aR h)).1,aT (yV x (aL h)).2 (CU r (aR h)).2⟩
end
theorem CV (a b:bM) (h:pl a=true) (h':pl b=true):(ec a b=true↔a=b):=⟨IU a b h h',λe=>e▸(yV a h).2⟩
theorem CW:∀o:Option Int,pl (tv o)=true
 |none|some z=>rfl
theorem pI {i:Int} {l:List bM} (h:kq l=true):kq (.int i::l)=true:=h
theorem pC {d:bM} {l:List bM} (h:pl d=true) (k:kq l=true):kq (d::l)=true:=aT h k
mutual
theorem ww:∀d:Nd,pl (desc d)=true
 | .char _ _| .gP _ _ _ _ _ _| .fy _ _| .skip _ _| .dk _| .mark _ _| .math _ _| .spec z y=>rfl
 | .rule w h d=>pI (pC (CW w) (pC (CW h) (pC (CW d) rfl)))
 | .lead z y l=>pI (pC rfl (pI (pC (ww l) rfl)))
 | .dX la lb lc=>pI (pC (lO la) (pC (lO lb) (pC (lO lc) rfl)))
 | .ins z y q j u l=>pI (pI (pI (pI (pC rfl (pI (pC (lO l) rfl))))))
 | .eR l=>pI (pC (lO l) rfl)
 | .unset z y q j u g c l=>pI (pI (pI (pI (pI (pI (pI (pC rfl (pC rfl (pC (lO l) rfl)))))))))
 | .box z y q j u g c r p l=>pI (pI (pI (pI (pI (pI (pI (pC rfl (pC (lO l) rfl))))))))
theorem lO:∀ds:List Nd,kq (bS ds)=true
 |[]=>rfl
 |d::r=>pC (ww d) (lO r)
end
theorem d3 {l:List bM} {x:Nat} (h:lx l<=2*x+2):(de l).depth<=2*x+3:=dS h
theorem dC {d:bM} {l:List bM} {n:Nat} (h:d.depth<=n) (k:lx l<=n):lx (d::l)<=n:=jZ.mpr ⟨h,k⟩
theorem dI {i:Int} {l:List bM} {n:Nat} (k:lx l<=n):lx (.int i::l)<=n:=dC (da _) k
theorem dN {n:Nat}:lx []<=n:=da _
theorem dT {l:List bM} {x:Nat} (h:lx l<=1):(de l).depth<=2*x+2:=aI (dS h) (lz _ _)
theorem dG {g:Gl} {x:Nat}:(yr g).depth<=2*x+2:=dT (dI (dI (dI (dI (dI dN)))))
theorem dO:∀{o:Option Int} {x:Nat},(tv o).depth<=2*x+2
 |none,z=>dT dN
 |some z,y=>dT (dI dN)
theorem dM {n x y:Nat} (h:n<=2*x) (k:x<=y):n<=2*y:=aI h (ly 2 k)
theorem CX {n x y:Nat} (h:n<=2*x+1) (k:x<=y):n<=2*y+1:=aI h (dS (ly 2 k))
theorem dL {l:List Nd} {x:Nat} (h:lx (bS l)<=2*bR l+1) (k:bR l<=x):(de (bS l)).depth<=2*x+2:=dS (CX h k)
theorem dU {d:bM} {x:Nat} (h:d.depth<=2*x+3):d.depth<=2*(x+1)+2:=An h
mutual
theorem CY:∀d:Nd,(desc d).depth<=2*ht d+3
 | .char z y=>d3 (dI (dI (dI dN)))
 | .gP z y q j u g=>d3 (dI (dI (dI (dC (dT (dI (dI dN))) (dI (dI dN))))))
 | .rule z y q=>d3 (dI (dC dO (dC dO (dC dO dN))))
 | .fy z y=>d3 (dI (dI (dI dN)))
 | .skip z y=>d3 (dI (dC dG (dI (dC (dT dN) dN))))
 | .lead z y l=>d3 (x:=ht l+1) (dI (dC dG (dI (dC (dU (CY l)) dN))))
 | .dk z=>d3 (dI (dI dN))
 | .dX la lb lc=>d3 (x:=max (bR la) (max (bR lb) (bR lc))) (dI (dC (dL (oy la) (jJ _ _)) (dC (dL (oy lb) (aI (jJ _ _) (ix _ _))) (dC (dL (oy lc) (aI (ix _ _) (ix _ _))) dN))))
 | .mark z y=>d3 (dI (dC (aI (dS (dC (n:=1) (dS (dI (dI dN))) (dC (dS (dI (dI dN))) dN))) (lz _ _)) dN))
 | .ins z y q j u l=>d3 (x:=bR l) (dI (dI (dI (dI (dC dG (dI (dC (dL (oy l) (cS _)) dN)))))))
 | .eR l=>d3 (x:=bR l) (dI (dC (dL (oy l) (cS _)) dN))
 | .math z y=>d3 (dI (dI (dI dN)))
 | .spec z y=>d3 (dI (dI (dC (dT (dI (dI dN))) dN)))
 | .unset z y q j u g c l=>d3 (x:=bR l) (dI (dI (dI (dI (dI (dI (dI (dC (dT (dI (dI (dI (dI dN))))) (dC (dT (dI (dI (dI (dI dN))))) (dC (dL (oy l) (cS _)) dN))))))))))
 | .box z y q j u g c r p l=>d3 (x:=bR l) (dI (dI (dI (dI (dI (dI (dI (dC (dT (dI (dI dN))) (dC (dL (oy l) (cS _)) dN)))))))))
theorem oy:∀ds:List Nd,lx (bS ds)<=2*bR ds+1
 |[]=>da _
 |d::r=>dC (CX (x:=ht d+1) (CY d) (jJ _ _)) (CX (oy r) (ix _ _))
end
theorem wx {d:bM} {x:Nat} (h:pl d=true) (k:d.depth<=2*x+3) (hx:x<=25):iC d=true:=aT (yV _ h).1 (gW (aI k (aI (lC (ly 2 hx) 3) (by decide:2*25+3<=64))))
theorem CZ {ds:List Nd} (h:bR ds<=25):iC (.tuple (bS ds))=true:=wx (x:=bR ds) (lO ds) (dS (An (oy ds))) h
theorem IW {d:Nd} (h:ht d<=25):iC (desc d)=true:=wx (ww d) (CY d) h
theorem wy {as bs:List Nd}:(ec (.tuple (bS as)) (.tuple (bS bs))=true↔bS as=bS bs):=(CV (.tuple (bS as)) (.tuple (bS bs)) (lO as) (lO bs)).trans ⟨PyData.tuple.inj,bW _⟩
theorem Q4 {a b:Nd}:(ec (desc a) (desc b)=true↔desc a=desc b):=CV _ _ (ww a) (ww b)
theorem C0:∀{ds:List Nd},(bS ds).length=ds.length
 |[]=>rfl
 |z::r=>bW Nat.succ (@C0 r)
noncomputable def nums:List Nat->List bM
 |[]=>[]
 |n::r=>.int n::nums r
mutual
noncomputable def rG:Tr->bM
 | .mk k ns inner=>.tuple [.int k,.tuple (nums ns),.tuple (fe inner)]
noncomputable def fe:List Tr->List bM
 |[]=>[]
 |t::r=>rG t::fe r
end
theorem ud:∀ns,kq (nums ns)=true/\lx (nums ns)<=0
 |[]=>⟨rfl,cS _⟩
 |z::r=>⟨(ud r).1,dI (ud r).2⟩
theorem IX:∀a b,nums a=nums b->a=b
 |[],[],z=>rfl
 |a::r,b::s,h=>congr (bW _ (Int.ofNat.inj (PyData.int.inj (sT h).1))) (IX r s (sT h).2)
mutual
theorem IY:∀t,pl (rG t)=true/\(rG t).depth<=2*hg t+2
 | .mk z ns inner=>⟨pI (pC (ud ns).1 (pC (mO inner).1 rfl)),dS (dI (dC (dS (aI (ud ns).2 (da _))) (dC (dS (mO inner).2) dN)))⟩
theorem mO:∀ts,kq (fe ts)=true/\lx (fe ts)<=2*cA ts
 |[]=>⟨rfl,cS _⟩
 |t::r=>⟨pC (IY t).1 (mO r).1,dC (dM (x:=hg t+1) (IY t).2 (jJ _ _)) (dM (mO r).2 (ix _ _))⟩
end
mutual
theorem Q5:∀t u,rG t=rG u->t=u
 | .mk k ns inner,.mk k' tH mN,h=>by
  injection h with h
  injection h with h1 h
  injection h1 with h1
  injection h with h2 h
  injection h2 with h2
  injection h with h
  injection h with h
  rw [Int.ofNat.inj h1,IX _ _ h2,C3 _ _ h]
theorem C3:∀t u,fe t=fe u->t=u
 |[],[],z=>rfl
 |t::r,u::s,h=>congr (bW _ (Q5 t u (sT h).1)) (C3 r s (sT h).2)
end
theorem Q6 {a b:List Tr}:(ec (.list (fe a)) (.list (fe b))=true↔a=b):=(CV (.list (fe a)) (.list (fe b)) (mO a).1 (mO b).1).trans ⟨λh=>C3 _ _ (PyData.list.inj h),λh=>by rw [h]⟩
theorem IZ {ts:List Tr} (h:cA ts<=25):iC (.list (fe ts))=true:=wx (x:=cA ts) (mO ts).1 (dS (aI (mO ts).2 (oZ _ 2))) h
theorem Q7 {a b:List Tr} (ha:dK a) (hb:dK b):ec (.tuple (bS (bO a))) (.tuple (bS (bO b)))=ec (.list (fe a)) (.list (fe b)):=by
 rw [Bool.eq_iff_iff,wy,Q6]
 exact ⟨λh=>CS a b ha hb h,λh=>by rw [h]⟩
theorem C4 {led:Led}:∀{vs:List aa} {ns:List Nat},IV vs ns->dz led vs (nums ns)
 |[],[],z=>dz.nil
 |[],z::y,h=>h.elim
 |z::y,[],h=>h.elim
 |z::y,q::j,h=>by
  obtain ⟨⟨t,rfl⟩,h⟩:=h
  exact dz.cons RD.int (C4 h)
mutual
theorem Q8 {led:Led}:∀(t:Tr) (v:aa),TR led t v->RD led v (rG t)
 | .mk k ns inner,v,h=>by
  obtain ⟨⟨x,qn,qi,t,vs,n0,n1,us,n2⟩,rfl,h1,h2,h3,h4,h5⟩:=h
  unfold rG
  exact RD.tup h1 (dz.cons RD.int (dz.cons (RD.tup h2 (C4 h3)) (dz.cons (RD.tup h4 (yW inner _ h5)) dz.nil)))
theorem yW {led:Led}:∀(ts:List Tr) (vs:List aa),bF led ts vs->dz led vs (fe ts)
 |[],z,h=>by rw [show _=[] from h];exact dz.nil
 |t::r,z,h=>by
  obtain ⟨v,vr,rfl,h1,h2⟩:=h
  exact dz.cons (Q8 t v h1) (yW r vr h2)
end
end
section
section
variable {prog:cP} {w:ah} {A:bZ} {E:aa->ak->Prop} {s:ak} {h₀:bA} {L:ac} {m:ai->Option aa} {news:Led}
end
section
variable {prog:cP} {w:ah} {A:bZ} {E:aa->ak->Prop} {s:ak} {h₀:bA} {L:ac} {m:ai->Option aa} {news:Led}
end
theorem I0 {on:Nat} {t:af}:∀{vs:List aa} {ns:List Nat} (k:Nat),IV vs ns->IV (vs.take k++[.int (on:Int) t]++vs.drop (k+1)) (ns.take k++[on]++ns.drop (k+1))
 |[],[],k,z=>by simp only [List.take_nil,List.drop_nil];exact ⟨⟨t,rfl⟩,trivial⟩
 |[],z::y,q,h=>h.elim
 |z::y,[],q,h=>h.elim
 |v::vs,n::ns,0,h=>⟨⟨t,rfl⟩,h.2⟩
 |v::vs,n::ns,k+1,h=>⟨h.1,I0 k h.2⟩
theorem I1 {on sp:Nat} (ho:on<sp):∀{ns l:List Nat} (k:Nat),dm ns l->l[k]? =some sp->dm (ns.take k++[on]++ns.drop (k+1)) l
 |[],[],z,y,e=>by simp at e
 |[],z::y,q,h,j=>h.elim
 |z::y,[],q,h,j=>h.elim
 |n::ns,s::l,0,h,e=>by
  simp at e
  subst e
  exact ⟨ho,h.2⟩
 |n::ns,s::l,k+1,h,e=>⟨h.1,I1 ho k h.2 (by simpa using e)⟩
theorem Q9 {a b:Nat} (h:0<b):hM ((a:Int)+1) (b:Int)=(((a+1)%b:Nat):Int)/\(a+1)%b<b:=by
 refine ⟨?_,Nat.mod_lt _ h⟩
 rw [Int.fmod_eq_emod_of_nonneg _ (by omega),Int.natCast_emod]
 rfl
section
variable {prog:cP} {w:ah} {A:bZ} {E:aa->ak->Prop} {s:ak}
end
theorem I2 (ns:List Nat):iC (.tuple (nums ns))=true:=wx (x:=0) (ud ns).1 (dS (aI (ud ns).2 (da 2))) (da _)
theorem Ra {ts:List Tr} (h:cA ts<=25):iC (.tuple (fe ts))=true:=wx (x:=cA ts) (mO ts).1 (dS (aI (mO ts).2 (oZ _ 2))) h
end
section
noncomputable def yX (P:aB) (NN:Led):Spec:=wl P NN [] k7 ID
theorem C5 {w:ah} {NN:Led} {D:Nat} (h:8<=D):eG w NN D 938 (yX w.params NN):=yO h (IG w) ⟨λz z z z z h=>h,λo z=>(iy o).symm,λz z=>trivial⟩
theorem Nx.view {w:ah} {c:Cx} {st ao:St} {s':ak} (N:Nx w c st ao s') {a:ac} {o:SO} (hm:(a,o.obj w.params)∈ao.oth++c.news) (ok:gr ao.led o):Nx w c st {ao with led:=ao.led++[⟨a,o,false⟩]} s':=
 ⟨N.rep.view hm (ok.ext (Ext.app _ _)),N.ext.trans (Ext.app _ _),N.loc⟩
noncomputable def C6:Spec:=λvs st k=>match vs with
 |[]=>∀(D:ac) (us:List aa) (n:Nat) (tl:Led) (tk:af),cH st.oth tl->lM tl us->us.length<=15->k (.own st.led.length D) {st with led:=st.led++[⟨D,.lst (us.map SV.ag) n,false⟩],oth:=st.oth++tl,tk:=tk}
 |_=>False
theorem I3 {w:ah} {NN:Led} {D:Nat} (h8:8<=D):eG w NN D 924 C6:=by
 intro c vs st k s Q E O R hv h q
 cases vs with
 |cons=>exact h.elim
 |nil=>
  refine rn (NN:=NN) (D:=D) (mk:=.lit) (λy=>rfl) (λy y=>trivial) (σ:=λus ao k'=>us=[]/\ao=st/\ ∀r tl tk,cH st.oth tl->(∃(D:ac) (us:List aa) (n:Nat),r= .ref D/\(D,(⟨.type "list",none,.seq us.toArray n,#[]⟩:av))∈tl/\lM tl us/\us.length<=15)->k' (.lit r) {st with oth:=st.oth++tl,tk:=tk}) (λus ao k' al y y y hh=> ?_)
   c [] st (λv ao=>∃r tl tk,v= .lit r/\ao={st with oth:=st.oth++tl,tk:=tk}/\cH st.oth tl/\ ∃(D:ac) (us:List aa) (n:Nat),r= .ref D/\(D,(⟨.type "list",none,.seq us.toArray n,#[]⟩:av))∈tl/\lM tl us/\us.length<=15) s Q E O R hv ⟨rfl,rfl,λr tl tk h1 h2=>⟨r,tl,tk,rfl,rfl,h1,h2⟩⟩ λv ao s' N' ok hk=> ?_
  ·obtain ⟨rfl,rfl,hh⟩:=hh
   exact ⟨_,_,_,Qw w,h8,rfl,λr tl tk hd hp=>hh r tl tk hd hp⟩
  ·obtain ⟨z,tl,tk,rfl,rfl,h1,D',us,n,rfl,h2,h3,h4⟩:=hk
   have Nn:=N'.view (a:=D') (o:=.lst (us.map SV.ag) n) (by
    show(D',(⟨.type "list",none,.seq (vals (us.map SV.ag)).toArray n,#[]⟩:av))∈_
    rw [fM]
    exact aq _ (ay _ h2)) jk
   exact q (.own st.led.length D') _ _ Nn ⟨_,kh _ _,rfl⟩ (h D' us n tl tk h1 h3 h4)
structure ue (P:aB) (L:Led) (v:aa) (q:ac) (ns:List Nat) (τ:Nat->af) (n:Nat):Prop where
 e:v= .ref q
 m:(q,(⟨.type "tuple",none,.seq (vals (aQ ns τ)).toArray n,#[]⟩:av))∈L
noncomputable def uf:(e:az)->Option (PSigma λd:az×(az×aW)=>e= .Subscript d.1 d.2.1 d.2.2)
 | .Subscript o i p=>some ⟨(o,(i,p)),rfl⟩
 |_=>none
noncomputable def C7 (P:aB) (NN:Led) (iv:aW->St->Int->Nat) (nf:St->List Nat) (H:Hint):XS:=λr cs b e st k=>oE (uf e)
 (λs=>bE (uf s.1.1).isSome (fR (KK P) ⟨[],Cfg.none.rd,iv,[]⟩ r cs b [((e.pos.line,e.pos.col),some true)] e st k)
  (fR (KK P) Cfg.none r cs b [((e.pos.line,e.pos.col),some false)] e st λv st=>(∃q τ n,ue P (st.oth++NN) v.val q (nf st) τ n)/\ ∀q τ n,k (.own st.led.length q) {st with led:=st.led++[⟨q,.tup (aQ (nf st) τ) n,false⟩]}))
 (fR (KK P) Cfg.none r cs b H e st k)
theorem I4 {w:ah} {NN:Led} {D:Nat} {iv:aW->St->Int->Nat} {nf:St->List Nat} {H:Hint}:fj w NN D (C7 w.params NN iv nf H):=by
 intro r I c b e st k s Q E O R h q
 refine eg h (λo z h=> ?_) λz h=> ?_
 ·refine mM h (λz h=> ?_) λh=> ?_
  ·exact gi I ez O R h q
  ·refine gi I ez O R h λv ao s' N ok hk=> ?_
   obtain ⟨⟨a,τ,n,f⟩,hk⟩:=hk
   have hn:=O.hn
   subst hn
   rw [f.e]
   exact q (.own ao.led.length a) _ _ (N.view (a:=a) (o:=.tup (aQ (nf ao) τ) n) f.m Cs) ⟨_,kh _ _,rfl⟩ (hk a τ n)
 ·exact gi I ez O R h q
structure k9 where
 x:ac
 qn:ac
 qi:ac
 k:Nat
 t:af
 ns:List Nat
 τ:Nat->af
 us:List aa
 n0:Nat
 n1:Nat
 n2:Nat
structure uh (P:aB) (L:Led) (v:aa) (d:k9):Prop where
 e:v= .ref d.x
 m0:(d.x,(⟨.type "tuple",none,.seq #[.int (d.k:Int) d.t,.ref d.qn,.ref d.qi] d.n0,#[]⟩:av))∈L
 m1:(d.qn,(⟨.type "tuple",none,.seq (vals (aQ d.ns d.τ)).toArray d.n1,#[]⟩:av))∈L
 m2:(d.qi,(⟨.type "tuple",none,.seq d.us.toArray d.n2,#[]⟩:av))∈L
noncomputable def C8 (n:Nat) (d:k9):List LE:=[⟨d.qn,.tup (aQ d.ns d.τ) d.n1,false⟩,⟨d.qi,.tup (d.us.map SV.ag) d.n2,false⟩,⟨d.x,.tup [.lit (.int (d.k:Int) d.t),.own n d.qn,.own (n+1) d.qi] d.n0,false⟩]
noncomputable def I5 (P:aB) (NN:Led) (dv:Nat->k9) (H:Hint):XS:=λr cs b e st k=>oE (uf e)
 (λs=>bK (qU s.1.2.1) (r.ev cs b s.1.1 st λov st=>r.ev cs b s.1.2.1 st λiv st=>oK (d6 iv.val) λm=>oK (qR st.led ov) λvs=>(0<=m/\m<dW vs.length/\vs.length<=1000)/\(∀v,(vals vs)[m.toNat]? =some v->uh P (st.oth++NN) v (dv m.toNat))/\
  k (.own (st.led.length+2) (dv m.toNat).x) {st with led:=st.led++C8 st.led.length (dv m.toNat)}))
 (fR (KK P) Cfg.none r cs b H e st k)
theorem Rb {w:ah} {NN:Led} {D:Nat} {dv:Nat->k9} {H:Hint}:fj w NN D (I5 w.params NN dv H):=by
 intro r I c b e st k s Q E O R h q
 refine eg h (λo z h=> ?_) λz h=> ?_
 ·refine bv h λh0 h=> ?_
  rw [o.2]
  refine vj (I.ev O R h λv aD s1 N1 lD pJ=>I.ev O N1.rep pJ λv2 ao s' N2 cI aV=> ?_)
  refine aJ aV λm e2 aV=> ?_
  refine (eS e2).elim λt e2=> ?_
  obtain ⟨vs,e3,⟨g1,g2,g3⟩,hF,hk⟩:=gQ aV
  rw [e2]
  refine yw N2.rep (lD.ext N2.ext) h0 e3 g1 g2 g3 λx hx z=> ?_
  have f:=hF x.val (tx hx)
  have N:=N1.trans N2
  generalize hd:dv m.toNat=d at f hk
  have hn:=O.hn
  subst hn
  rw [f.e]
  have M1:=N.view (a:=d.qn) (o:=.tup (aQ d.ns d.τ) d.n1) f.m1 Cs
  have M2:=M1.view (a:=d.qi) (o:=.tup (d.us.map SV.ag) d.n2) (by
   show(d.qi,(⟨.type "tuple",none,.seq (vals (d.us.map SV.ag)).toArray d.n2,#[]⟩:av))∈_
   rw [fM]
   exact f.m2) jk
  have g1:=ym (r:=[(⟨d.qi,.tup (d.us.map SV.ag) d.n2,false⟩:LE)]) (kh ao.led ⟨d.qn,.tup (aQ d.ns d.τ) d.n1,false⟩)
  have g2:=kh (ao.led++[(⟨d.qn,.tup (aQ d.ns d.τ) d.n1,false⟩:LE)]) ⟨d.qi,.tup (d.us.map SV.ag) d.n2,false⟩
  rw [ib] at g2
  have M3:=M2.view (a:=d.x) (o:=.tup [.lit (.int (d.k:Int) d.t),.own ao.led.length d.qn,.own (ao.led.length+1) d.qi] d.n0) f.m0 (λv hv=>by
   rcases bj.mp hv with rfl|hv
   ·trivial
   ·rcases bj.mp hv with rfl|hv
    ·exact ⟨_,g1,rfl⟩
    ·rw [bN.mp hv];exact ⟨_,g2,rfl⟩)
  have e3:ao.led++C8 ao.led.length d=ao.led++[(⟨d.qn,.tup (aQ d.ns d.τ) d.n1,false⟩:LE)]++[⟨d.qi,.tup (d.us.map SV.ag) d.n2,false⟩]++[⟨d.x,.tup [.lit (.int (d.k:Int) d.t),.own ao.led.length d.qn,.own (ao.led.length+1) d.qi] d.n0,false⟩]:=by
   unfold C8
   simp only [mf,Ar,List.nil_append]
  rw [e3] at hk
  refine q (.own (ao.led.length+2) d.x) _ _ M3 ?_ hk
  have g3:=kh (ao.led++[(⟨d.qn,.tup (aQ d.ns d.τ) d.n1,false⟩:LE)]++[(⟨d.qi,.tup (d.us.map SV.ag) d.n2,false⟩:LE)]) ⟨d.x,.tup [.lit (.int (d.k:Int) d.t),.own ao.led.length d.qn,.own (ao.led.length+1) d.qi] d.n0,false⟩
  rw [ib,ib] at g3
  exact ⟨_,g3,rfl⟩
 ·exact gi I ez O R h q
structure C9 (P:aB) (ls:List LE) (o NN:Led) (q:ac) (us:List aa) (n:Nat):Prop where
 m:(q,(⟨.type "list",none,.seq us.toArray n,#[]⟩:av))∈bo P ls++(o++NN)
 z:us.length<=1000
noncomputable def ui:(e:az)->Option (PSigma λd:(ai×aW)×(az×aW)=>e= .Call (.Name d.1.1 d.1.2) [d.2.1] [] d.2.2)
 | .Call (.Name x fp) [a] [] p=>some ⟨((x,fp),(a,p)),rfl⟩
 |_=>none
noncomputable def I6 (P:aB) (NN:Led) (H:Hint):XS:=λr cs b e st k=>oE (ui e)
 (λd=>bK (noStar [d.1.2.1]) (fR (KK P) Cfg.none r cs b H (.Name d.1.1.1 d.1.1.2) st λfv st=>bK (decide (kg fv.val=some "tuple")) (r.ev cs b d.1.2.1 st λv st=>oK (ua v) λa=>C9 P st.led st.oth NN a.1 a.2.1 a.2.2/\gf st (.tup (a.2.1.map SV.ag) 0) k)))
 (fR (KK P) Cfg.none r cs b H e st k)
theorem Rc {w:ah} {NN:Led} {D:Nat} {H:Hint}:fj w NN D (I6 w.params NN H):=by
 intro r I c b e st k s Q E O R h q
 refine eg h (λd e0 h=> ?_) λy h=> ?_
 ·refine bv h λh1 h=> ?_
  rw [d.2]
  refine kH (gi I ez O R h λv ao s' N ok hk=> ?_)
  refine bv hk λh2 hk=> ?_
  rw [kL (cJ h2)]
  refine nO (kG (I.ev O N.rep hk λv2 aE s2 N2 cI aV=>nM ?_) (fA (cW h1).1)) (fA (cW h1).1) (iR (cW h1).2)
  obtain ⟨⟨a,us,n⟩,e1,f,dA⟩:=gQ aV
  have hn:=O.hn
  subst hn
  have m:=N2.rep.nw _ ((aM.mp f.m).elim (λh=>aq _ h) kO)
  rw [yQ e1]
  refine kde_tupleOf (items:=us.toArray) N2.rep.fr N2.rep.nw ⟨_,m.1,rfl,n,rfl⟩ (aI f.z (by decide)) (zs:=us) rfl λD h' F' N' l=> ?_
  have q2:=q.after (N.trans N2)
  exact added (o:=.tup (us.map SV.ag) 0) N2.rep F' (by
   show aU _ _ _ ((D,(⟨.type "tuple",none,.seq (vals (us.map SV.ag)).toArray 0,#[]⟩:av))::_)
   rw [fM];exact N') (λp hp=>cL (l p hp)) jk dA q2
 ·exact gi I ez O R h q
structure le (P:aB) (ls:List LE) (o:Led) (q:ac) (us:List aa) (n:Nat):Prop where
 m:(q,(⟨.type "tuple",none,.seq us.toArray n,#[]⟩:av))∈bo P ls++o
def Db (P:aB) (v:SV) (st:St) (k:List aa->Prop):Prop:=oE (fi v) (λi=>oK st.led[i]? λe=>bK e.f (oK (je e.o) λvs=>k (vals vs))) (oK (ua v) λa=>le P (st.led.filter (·.f)) st.oth a.1 a.2.1 a.2.2/\k a.2.1)
noncomputable def I7:(e:az)->Option (PSigma λd:az×(az×aW)=>e= .BinOp d.1 .Add d.2.1 d.2.2)
 | .BinOp l .Add e2 p=>some ⟨(l,(e2,p)),rfl⟩
 |_=>none
noncomputable def I8 (P:aB) (NN:Led) (H:Hint):XS:=λr cs b e st k=>oE (I7 e)
 (λd=>r.ev cs b d.1.1 st λx st=>r.ev cs b d.1.2.1 st λy st=>Db P x st λus=>Db P y st λvs=>us.length+vs.length<=1000/\ ∀q n tl,le P (st.led.filter (·.f)) (st.oth++tl) q (us++vs) n->k (.kn q (us++vs) n) {st with oth:=st.oth++tl})
 (fR (KK P) Cfg.none r cs b H e st k)
theorem Ja {w:ah} {c:Cx} {st:St} {s:ak} {v:SV} {k:List aa->Prop} (R:Rep w c st s) (hv:aX st.led v) (h:Db w.params v st k):∃us q n,v.val= .ref q/\le w.params (st.led.filter (·.f)) st.oth q us n/\k us:=by
 refine eg h (λi e1 h=> ?_) λz h=> ?_
 ·refine aJ h λe e2 h=> ?_
  refine bv h λe3 h=> ?_
  refine aJ h λvs e4 h=> ?_
  refine (tj e4).elim λn e5=> ?_
  have m:=tR (P:=w.params) e2 e3
  rw [e5] at m
  rw [gn e1 e2 hv]
  exact ⟨_,e.a,n,rfl,⟨aq _ m⟩,h⟩
 ·obtain ⟨⟨q,us,n⟩,e,h⟩:=gQ h
  rw [yQ e]
  exact ⟨us,q,n,rfl,h.1,h.2⟩
theorem Rd {w:ah} {NN:Led} {D:Nat} {H:Hint}:fj w NN D (I8 w.params NN H):=by
 intro r I c b e st k s Q E O R h q
 refine eg h (λd e0 h=> ?_) λu h=> ?_
 ·rw [d.2]
  refine uY (I.ev O R h λv ao s' N ok hk=>I.ev O N.rep hk λv2 aE s2 N2 cI aV=> ?_)
  obtain ⟨us,x,n,e1,m1,aV⟩:=Ja N2.rep (ok.ext N2.ext) aV
  obtain ⟨vs,y,n',e2,m2,hz,aV⟩:=Ja N2.rep cI aV
  have Nn:=N.trans N2
  have up:∀{p:ac×av},p∈bo w.params (aE.led.filter (·.f))++aE.oth->p∈all w c aE:=λh=>(aM.mp h).elim (λh=>by
   obtain ⟨i,e,a,j,rfl⟩:=mem_filter h
   exact fJ a) iP
  have ap:∀{p:ac×av} {tl:Led},p∈bo w.params (aE.led.filter (·.f))++aE.oth->p∈bo w.params (aE.led.filter (·.f))++(aE.oth++tl):=λh=>(aM.mp h).elim (λh=>aq _ h) λh=>ay _ (aq _ h)
  have R2:=Nn.rep
  have k1:=R2.nw _ (up m1.m)
  have k2:=R2.nw _ (up m2.m)
  have nil:Nx w c st {aE with oth:=aE.oth++[]} s2:=by rw [iy];exact Nn
  rw [e1,e2]
  refine add_tuples R2.fr R2.nw ⟨_,k1.1,rfl,n,rfl⟩ ⟨_,k2.1,rfl,n',rfl⟩ (λz=> ?_) (λz z2=> ?_) (λz z2 h' F' N'=> ?_) (n9 hz)
  ·subst z
   exact q (.kn _ _ _) _ _ nil trivial (aV y n' [] ⟨ap m2.m⟩)
  ·subst z2
   exact q (.kn _ _ _) _ _ nil trivial (aV x n [] ⟨(iy us).symm▸ap m1.m⟩)
  ·have fresh:∀p∈all w c aE,p.1≠s2.heap.objs.size:=λp hp=>cL (fH (R2.nw p hp).1)
   refine q (.kn _ _ _) _ _ ⟨Rep.more (tl:=[(s2.heap.objs.size,⟨.type "tuple",none,.seq (us++vs).toArray 0,#[]⟩)]) (s:={s2 with heap:=h'}) ⟨R2.tofS,by show _=_;rw [R2.same],R2.tk,F',λp hp=>N' p (.tail _ hp)⟩ (λp hp=>by rw [bN.mp hp];exact N' _ (.head _)) (λa ha p hp=>by rw [bN.mp hp];exact fresh a ha),Nn.ext,Nn.loc⟩ trivial (aV _ 0 _ ⟨ay _ (ay _ (.head _))⟩)
 ·exact gi I ez O R h q
structure lf (o NN:Led) (vs:List SV) (ds:List bM):Prop where
 h:dz (o++NN) (vals vs) ds
def Dd (NN:Led) (F:aW->Bool->St->List bM) (p:aW) (f:Bool) (st:St) (v:SV) (κ:bM->Prop):Prop:=match hW st.led v with
 |some vs=>(lf st.oth NN vs (F p f st)/\iC (.tuple (F p f st))=true)/\κ (.tuple (F p f st))
 |none=>match jO st.led v with
  |some vs=>(lf st.oth NN vs (F p f st)/\iC (.list (F p f st))=true)/\κ (.list (F p f st))
  |none=>False
noncomputable def Jb (NN:Led) (F:aW->Bool->St->List bM) (iv:aW->St->Int->Nat) (xs:List ((Nat×Nat)×XS)):Cfg:=⟨xs,Dd NN F,iv,[]⟩
theorem Re {w:ah} {NN:Led} {D:Nat} {F:aW->Bool->St->List bM} {iv:aW->St->Int->Nat} {xs:List ((Nat×Nat)×XS)} (h9:9<=D):mG w NN D (Jb NN F iv xs):=λ{c b st s v p f} O R hv κ h=>by
 have hn:=O.hn
 subst hn
 have rh:RH (st.oth++c.news) s.heap:=λp hp y=>(R.nw p (kO hp)).1
 have h:Dd c.news F p f st v κ:=h
 unfold Dd at h
 cases e:hW st.led v with
 |some vs=>
  rw [e] at h
  obtain ⟨⟨h5,h6⟩,h7⟩:=h
  obtain ⟨as,x⟩:=h5.h s.heap rh
  obtain ⟨i,e1,n,e2,z,z,⟨o,h1,h2,m,h3⟩,z⟩:=jy R hv e
  rw [e2]
  exact ⟨_,h9,⟨_,Reads.tuple h1 h2 h3 x⟩,h6,h7⟩
 |none=>
  rw [e] at h
  cases e':jO st.led v with
  |some vs=>
   rw [e'] at h
   obtain ⟨⟨h5,h6⟩,h7⟩:=h
   obtain ⟨as,x⟩:=h5.h s.heap rh
   obtain ⟨a,e2,⟨o,h1,h2,m,h3⟩,z⟩:=n8 R hv e'
   rw [e2]
   exact ⟨_,h9,⟨_,Reads.list h1 h2 h3 x⟩,h6,h7⟩
  |none=>
   rw [e'] at h
   exact h.elim
noncomputable def Jc (x:ai) (st:St):Int:=oE (oB (findF x st.loc) λv=>d6 v.val) id 0
noncomputable def yY (P:aB) (H:Hint):XS:=λr cs b e st k=>oE (ui e)
 (λd=>bK (noStar [d.1.2.1]) (fR (KK P) Cfg.none r cs b H (.Name d.1.1.1 d.1.1.2) st λfv st=>bK (decide (kg fv.val=some "tuple")) (r.ev cs b d.1.2.1 st λv st=>oK (jO st.led v) λus=>us.length<=1000/\gf st (.tup us 0) k)))
 (fR (KK P) Cfg.none r cs b H e st k)
theorem De {w:ah} {NN:Led} {D:Nat} {H:Hint}:fj w NN D (yY w.params H):=by
 intro r I c b e st k s Q E O R h q
 refine eg h (λd e0 h=> ?_) λz h=> ?_
 ·refine bv h λh1 h=> ?_
  rw [d.2]
  refine kH (gi I ez O R h λv ao s' N ok hk=> ?_)
  refine bv hk λh2 hk=> ?_
  rw [kL (cJ h2)]
  refine nO (kG (I.ev O N.rep hk λv2 aE s2 N2 cI aV=>nM ?_) (fA (cW h1).1)) (fA (cW h1).1) (iR (cW h1).2)
  refine aJ aV λus e1 z9=>z9.elim λhz dA=> ?_
  obtain ⟨a,e2,⟨o,m1,m2,n,m3⟩,hu⟩:=n8 N2.rep cI e1
  rw [e2]
  refine kde_tupleOf (items:=(vals us).toArray) N2.rep.fr N2.rep.nw ⟨o,m1,m2,n,m3⟩ (by show(vals us).length<=_;rw [eh];exact aI hz (by decide)) (zs:=vals us) rfl λD h' F' N' l=> ?_
  exact added (o:=.tup us 0) N2.rep F' N' (λp hp=>cL (l p hp)) hu dA (q.after (N.trans N2))
 ·exact gi I ez O R h q
noncomputable def Jd (P:aB) (H:Hint) (x:XS):XS:=λr cs b e st k=>bE (rE e).isSome (x r cs b e st k) (fR (KK P) Cfg.none r cs b H e st k)
theorem Rf {w:ah} {NN:Led} {D:Nat} {H:Hint} {x:XS} (hx:fj w NN D x):fj w NN D (Jd w.params H x):=by
 intro r I c b e st k s Q E O R h q
 refine mM h (λz h=> ?_) λh=> ?_
 ·exact hx I O R h q
 ·exact gi I ez O R h q
end
section
theorem Je:∀{ts:List Tr} {t:Tr},t∈ts->hg t+1<=cA ts
 |x::r,t,h=>by
  unfold cA
  rcases bj.mp h with rfl|h
  ·exact jJ _ _
  ·exact aI (Je h) (ix _ _)
theorem Rg {w:ah} {inner:List Tr} {t:Tr} {led:Led} {fq:ac} (IH:∀t∈inner,dw w t) (h:t∈inner):Sp w 969 (24+16*cA inner) (HG w led t fq) (bV w led (nd t)):=by
 have:=Je h
 intro p loose bH mg mb dp un gd cn cs a bX cl outer A₀ base h₀ L m news s vs Q E B F X N T hk hd hu hp gb
 exact IH t h led fq p loose bH mg mb dp un gd cn cs a bX cl outer A₀ base h₀ L m news s vs Q E B F X N T hk (by omega) (by omega) hp gb
theorem Rh {tl yZ:Led} {mu fL:List ac} (h:∀q∈tl,∀p∈yZ,q.1≠p.1) (hm:∀a∈mu,a∈tl.map (·.1)) (Df:∀a∈fL,a∈yZ.map (·.1)) (n:mu.Nodup) (n':fL.Nodup):(mu++fL).Nodup:=by
 refine ve.mpr ⟨n,n',λa ha b hb e=> ?_⟩
 obtain ⟨p,hp,e1⟩:=ew.mp (hm a ha)
 obtain ⟨q,hq,e2⟩:=ew.mp (Df b hb)
 exact h p hp q hq (e1.trans (e.trans e2.symm))
theorem Jf {D:ac}:∀{l:Led},LCg.Off1 D l-> ∀p∈l,p.1≠D
 |[],z,y,h=>nomatch h
 |z::y,x,p,h=>by
  rcases bj.mp h with rfl|h
  ·exact x.1
  ·exact Jf x.2 p h
end
section
structure fN where
 rs:List aa
 tl:Led
 mu:List ac
structure fB (P:aB) (led:Led) (ds:List Nd) (i:Nat) (z:fN):Prop where
 n:aP P (led++z.tl) (ds.take i) z.rs z.mu
 m:∀a∈z.mu,a∈z.tl.map (·.1)
 d:z.mu.Nodup
noncomputable def iJ (P:aB) (led:Led) (ds:List Nd) (L:List LE) (oth:Led):CompI fN:=⟨λy=>L,λz=>oth++z.tl,fN.rs,fB P led ds⟩
noncomputable def y0 {δ:Type} (S:δ->List aa->Prop) (Q:δ->Led->aa->Prop):Spec:=λvs st k=>∃d,S d (vals vs)/\ ∀r tl tk,cH st.oth tl->Q d tl r->k (.ag r) {st with oth:=st.oth++tl,tk:=tk}
theorem Dg {δ:Type} {wo:ah} {NN:Led} {S:δ->List aa->Prop} {Q:δ->Led->aa->Prop} {D f:Nat} (h:∀d vs,S d vs-> ∃cc Pre cM,Sp wo f cc Pre cM/\cc<=D/\(∀al,(∀p∈NN,p∈al)->Pre al vs)/\ ∀al tl r,cM al tl r->Q d tl r):eG wo NN D f (y0 S Q):=rn (mk:=.ag) (λq=>rfl) (λq q=>trivial) λvs st k al z y h3 ⟨d,h1,h2⟩=>
 (h d _ h1).elim λcc h=>h.elim λPre h=>h.elim λcM h=>⟨cc,Pre,cM,h.1,h.2.1,h.2.2.1 al h3,λr tl tk hd hp=>h2 r tl tk hd (h.2.2.2 al tl r hp)⟩
structure kr where
 rs:List aa
 tl:Led
structure oz (led:Led) (ds:List Nd) (i:Nat) (z:kr):Prop where
 n:dz (led++z.tl) z.rs (bS (ds.take i))
 l:z.rs.length=i
noncomputable def rH (led:Led) (ds:List Nd) (L:List LE) (oth:Led):CompI kr:=⟨λy=>L,λz=>oth++z.tl,kr.rs,oz led ds⟩
section
variable {wo:ah} {led oth tl:Led} {ds:List Nd} {L:List LE} {i:Nat} {z:fN} {d:Nd} {r:aa}
theorem Jg:∀{l:List Nd} {d:Nd},bS (l++[d])=bS l++[desc d]
 |[],z=>rfl
 |a::l,d=>bW (desc a:: ·) Jg
theorem pS {P:aB}:(iJ P led ds L oth).At L oth [] 0:=⟨⟨[],[],[]⟩,rfl,iy _,rfl,⟨rfl,rfl⟩,λz h=>(nomatch h),sJ⟩
theorem Dh {led':Led} (hs:∀p∈led',p∈led++z.tl) (hj:fB wo.params led ds i z) (e:ds[i]? =some d) (q:bV wo led' d [] tl r) (gE:cH (oth++z.tl) tl):(iJ wo.params led ds L oth).At L (oth++z.tl++tl) (z.rs++[r]) (i+1):=by
 obtain ⟨mu,q1,q2,q3⟩:=q
 refine ⟨⟨z.rs++[r],z.tl++tl,z.mu++mu⟩,rfl,(mf _ _ _).symm,rfl, ?_,λa ha=> ?_,Rh (λq hq p hp=>gE q (ay _ hq) p hp) hj.m q2 hj.d q3⟩
 ·show aP wo.params (led++(z.tl++tl)) (ds.take (i+1)) (z.rs++[r]) (z.mu++mu)
  rw [vg,e,AF]
  exact aP.snoc (aP.mono (λp hp=>(aM.mp hp).elim (λh=>aq _ h) λh=>ay _ (aq _ h)) _ _ _ hj.n) (ND.mono (λp hp=>(aM.mp hp).elim (λh=>(aM.mp (hs p h)).elim (λh=>aq _ h) λh=>ay _ (aq _ h)) λh=>ay _ (ay _ h)) _ _ _ q1)
 ·show a∈(z.tl++tl).map (·.1)
  rw [pd]
  exact (aM.mp ha).elim (λha=>aq _ (hj.m a ha)) λha=>ay _ (q2 a ha)
theorem uj (hj:fB wo.params led ds i z) (e:ds[i]? =some d) (q:bV wo led d [] tl r) (gE:cH (oth++z.tl) tl):(iJ wo.params led ds L oth).At L (oth++z.tl++tl) (z.rs++[r]) (i+1):=Dh (λp hp=>aq _ hp) hj e q gE
theorem fB.all {P:aB} {n:Nat} (hj:fB P led ds n z) (h:ds.length<=n):aP P (led++z.tl) ds z.rs z.mu:=by
 have:=hj.n
 rwa [vf h] at this
theorem fB.list {P:aB} {n m k:Nat} {D:ac} (hj:fB P led ds n z) (h:ds.length<=n) (hL:L[m]? =some ⟨D,.lst (z.rs.map SV.ag) k,true⟩):cO P (led++(bo P L++(oth++z.tl))) ds D (D::z.mu):=by
 have m1:=gF (P:=P) hL
 have m1:(D,(⟨.type "list",none,.seq (vals (z.rs.map SV.ag)).toArray k,#[]⟩:av))∈bo P L:=m1
 rw [fM] at m1
 exact ⟨z.rs.toArray,k,z.mu,ay _ (aq _ m1),aP.mono (λp hp=>(aM.mp hp).elim (λh=>aq _ h) λh=>ay _ (ay _ (ay _ h))) _ _ _ (hj.all h),rfl⟩
theorem Jh:(rH led ds L oth).At L oth [] 0:=⟨⟨[],[]⟩,rfl,iy _,rfl,dz.nil,rfl⟩
theorem Ji {z:kr} (hj:oz led ds i z) (e:ds[i]? =some d) (q:RD (led++tl) r (desc d)):(rH led ds L oth).At L (oth++z.tl++tl) (z.rs++[r]) (i+1):=by
 refine ⟨⟨z.rs++[r],z.tl++tl⟩,rfl,(mf _ _ _).symm,rfl, ?_,by rw [ib,hj.l];rfl⟩
 show dz (led++(z.tl++tl)) (z.rs++[r]) (bS (ds.take (i+1)))
 rw [vg,e,AF,Jg]
 exact dz.snoc (dz.mono (λp hp=>(aM.mp hp).elim (λh=>aq _ h) λh=>ay _ (aq _ h)) hj.n) (RD.mono (λp hp=>(aM.mp hp).elim (λh=>aq _ h) λh=>ay _ (ay _ h)) q)
end
end
section
def Jj (w:ah) (led:Led) (ds:List Nd) (news:Led) (vs:List aa):Prop:=(∀p∈led,p∈news)/\ ∃q mu,vs=[.ref q]/\cO w.params led ds q mu
def rI (P:aB) (led:Led) (ds:List Nd) (depth:Nat) (d:Nd) (vs:List aa):Prop:=d∈ds/\ ∃v t mu,vs=[v,.int depth t]/\ND P led d v mu
section
variable {wo:ah} {led oth tl news:Led} {ds:List Nd} {L:List LE} {us:List aa} {mu:List ac} {i n k depth:Nat} {a:ac} {v:aa} {t:af}
theorem y4 {P:aB} (h:aP P led ds us mu) (e:(vals (us.map SV.ag))[i]? =some v):∃d,ds[i]? =some d/\rI P led ds depth d [v,.int depth t]:=by
 rw [fM] at e
 obtain ⟨d,m,e1,e2⟩:=aP.at h i v e
 exact ⟨d,e1,et e1,_,_,_,rfl,e2⟩
theorem wz {P:aB} (h:aP P led ds us mu):(us.map SV.ag).length=ds.length:=by rw [j0,h.len]
theorem wA {P:aB} (h:aP P led ds us mu) (hl:ds.length<=100):(us.map SV.ag).length<=1000:=wz h▸aI hl (by decide)
theorem Jk {z:fN} (hj:fB wo.params led ds n z) (h:ds.length<=n) (hs:Sep [a] z.tl):cE wo.params (vB wo led ds) news [⟨a,.lst (z.rs.map SV.ag) k,true⟩] z.tl (.own i a):=
 ⟨a,a::z.mu,rfl,hj.list (L:=[⟨a,.lst (z.rs.map SV.ag) k,true⟩]) (oth:=[]) (m:=0) h rfl,λx hx=>(bj.mp hx).elim (λe=>e▸ .head _) λhx=>.tail _ (hj.m x hx),fY.mpr ⟨λhx=>(ew.mp (hj.m a hx)).elim λp hp=>hs.2 a (.head _) p hp.1 hp.2,hj.d⟩⟩
theorem Jl {z:kr} {b:ac} {o:SO} {m:Nat} {P:aB} (hj:oz led ds n z) (h:ds.length<=n):cE P (vN led (.tuple (bS ds))) news [⟨b,o,true⟩,⟨a,.tup (z.rs.map SV.ag) m,true⟩] z.tl (.own i a):=by
 have h1:=hj.n
 rw [vf h] at h1
 have m1:(a,(⟨.type "tuple",none,.seq (vals (z.rs.map SV.ag)).toArray m,#[]⟩:av))∈led++(bo P [⟨b,o,true⟩,⟨a,.tup (z.rs.map SV.ag) m,true⟩]++z.tl):=ay _ (aq _ (.tail _ (.head _)))
 rw [fM] at m1
 exact RD.tup m1 (dz.mono (λp hp=>(aM.mp hp).elim (λh=>aq _ h) λh=>ay _ (ay _ h)) h1)
end
def Dk (led:Led) (d:bM) (news tl:Led) (r:aa):Prop:=vN led d news tl r/\ ∃a,r= .ref a
theorem Ri {led:Led} {ds:List Nd} {n i:Nat} {a:ac} {news:Led} {z:kr} {b:ac} {o:SO} {m:Nat} {P:aB} (hj:oz led ds n z) (h:ds.length<=n):cE P (Dk led (.tuple (bS ds))) news [⟨b,o,true⟩,⟨a,.tup (z.rs.map SV.ag) m,true⟩] z.tl (.own i a):=⟨Jl hj h,a,rfl⟩
def KL (P:aB) (cM:Led->Led->aa->Prop) (news:Led) (r:SV) (st:St):Prop:=Sep ((st.led.filter (·.f)).map (·.a)) st.oth->cE P cM news (st.led.filter (·.f)) st.oth r
theorem wB {P:aB} {cM:Led->Led->aa->Prop} (news:Led) (r:SV) (st:St) (h:Sep ((st.led.filter (·.f)).map (·.a)) st.oth) (_:aX st.led r) (_:∀(i:Nat) (e:LE),st.led[i]? =some e->gr st.led e.o) (k:KL P cM news r st):cM news (bo P (st.led.filter (·.f))++st.oth) r.val:=k h
theorem y5 {P:aB} {a:ac} {us:List aa} {n:Nat} {news:Led} (h:(a,(⟨.type "list",none,.seq us.toArray n,#[]⟩:av))∈news):∀p∈bo P [⟨a,.lst (us.map SV.ag) n,false⟩],p∈news:=λp hp=>by
 rw [bN.mp hp]
 show(a,(⟨.type "list",none,.seq (vals (us.map SV.ag)).toArray n,#[]⟩:av))∈_
 rw [fM]
 exact h
theorem y6 {a:ac} {us:List aa} {n:Nat} {gj:List SV} (h:∀v∈gj,aX [⟨a,.lst (us.map SV.ag) n,false⟩] v):∀v∈gj++jj [⟨a,.lst (us.map SV.ag) n,false⟩],aX [⟨a,.lst (us.map SV.ag) n,false⟩] v:=λv hv=>(aM.mp hv).elim (h v) λhv=>by
 rw [show jj [(⟨a,.lst (us.map SV.ag) n,false⟩:LE)]=us.map SV.ag++[] from rfl,iy] at hv
 exact jk v hv
noncomputable def Dl (P:aB) (led:Led) (ds:List Nd):Cfg:=⟨[((336,11),CA λst=>iJ P led ds st.led st.oth)],Cfg.none.rd,Cfg.none.iv,[]⟩
noncomputable def Dm (wo:ah) (led:Led) (ds:List Nd) (depth:Nat):List (Nat×Spec):=[(717,y0 (rI wo.params led ds depth) λd tl r=>bV wo led d [] tl r)]
theorem Jm {wo:ah} {led NN:Led} {ds:List Nd} {depth:Nat} (IH:∀d∈ds,gc wo d) (hd:depth+bR ds<=61) (hs:∀p∈led,p∈NN):iG wo NN (16+8*bR ds) (Dm wo led ds depth):=ey (Dg λd vs ⟨h1,h2⟩=>by
 have:=xZ h1
 exact ⟨_,_,_,IH d h1 led depth (by omega),by omega,λal h=>⟨λp hp=>h p (hs p hp),h2⟩,λz z z h=>h⟩) iS
theorem Jn {w:ah} {NN led:Led} {D:Nat} {ds:List Nd}:jh w NN D (Dl w.params led ds):=⟨ez,pL,dZ Iq km⟩
theorem rJ (w:ah) (ds:List Nd) (hlen:ds.length<=100) (IH:∀d∈ds,gc w d):nW w ds:=λled depth hd=>jQ (16+8*bR ds) 1 99 [] (by omega) wB λnews vs hp=>by
 obtain ⟨aK,q,t,mu,rfl,us,n,ms,hq,hn,-⟩:=hp
 refine ⟨Dm w led ds depth,Dl w.params led ds,[⟨q,.lst (us.toList.map SV.ag) n,false⟩],[.own 0 q,.lit (.int depth t)],Jn,Jm IH hd aK,rfl,y5 (us:=us.toList) (aK _ hq),⟨trivial,trivial⟩,y6 λv hv=> ?_,λe he=>by rw [bN.mp he],λtk=> ?_⟩
 ·exact (bj.mp hv).elim (λe=>e▸⟨_,rfl,rfl⟩) λhv=>bN.mp hv▸trivial
 refine @cD _ (∀(h:af),(aN (aA SV.ag us.1)<=1000/\ ∀(h:fN),some (LE.mk q (SO.lst (aA SV.ag us.1) n) false)=some (LE.mk q (SO.lst (aA SV.ag us.1) n) false))/\CompI.At (iJ w.2 led ds [LE.mk q (SO.lst (aA SV.ag us.1) n) false] []) [LE.mk q (SO.lst (aA SV.ag us.1) n) false] [] [] 0/\(∀(b1:Nat) (b2:aa) (b3:fN) (b4:af),b1<aN (aA SV.ag us.1)->(vals (aA SV.ag us.1))[b1]? =some b2->fB w.2 led ds b1 b3-> ∃(b8:Nd),rI w.2 led ds depth b8 [b2,am (((depth:Nat):Int)) t]/\ ∀(b9:aa) (aH:Led) (bq:af),cH b3.2 aH->bV w led b8 [] aH b9->CompI.At (iJ w.2 led ds [LE.mk q (SO.lst (aA SV.ag us.1) n) false] []) [LE.mk q (SO.lst (aA SV.ag us.1) n) false] (b3.2++aH) (b3.1++[b9]) (b1+1))/\ ∀(b1:fN) (b2:af),fB w.2 led ds (aN (aA SV.ag us.1)) b1-> ∀(b4:ac),Sep [b4] b1.2->cE w.2 (vB w led ds) news [LE.mk b4 (SO.lst (aA SV.ag b1.1) (aN b1.1)) true] b1.2 (SV.own 1 b4)) ?_ ?_
 ·kernel_rfl
 exactλy=>⟨⟨wA hn hlen,λy=>rfl⟩,pS,λi v z y y ev hj=>(y4 hn ev).elim λd h=>⟨d,h.2,λy y y gE q=>uj hj h.1 q gE⟩,λz y hj y hs=>Jk hj (jr (wz hn).symm) hs⟩
theorem Rj (w:ah) (ds:List Nd) (hlen:ds.length<=100) (IH:∀d∈ds,gc w d) (led:Led) (hd:0+bR ds<=61):Sp w 723 (18+8*bR ds) (Jj w led ds) (vB w led ds):=jQ (16+8*bR ds) 1 99 [] (by omega) wB λnews vs hp=>by
 obtain ⟨aK,q,mu,rfl,us,n,ms,hq,hn,-⟩:=hp
 refine ⟨Dm w led ds 0,Dl w.params led ds,[⟨q,.lst (us.toList.map SV.ag) n,false⟩],[.own 0 q],Jn,Jm IH hd aK,rfl,y5 (us:=us.toList) (aK _ hq),⟨trivial,trivial⟩,y6 λv hv=> ?_,λe he=>by rw [bN.mp he],λtk=> ?_⟩
 ·exact bN.mp hv▸⟨_,rfl,rfl⟩
 refine @cD _ (∀(h:af),(aN (aA SV.ag us.1)<=1000/\ ∀(h:fN),some (LE.mk q (SO.lst (aA SV.ag us.1) n) false)=some (LE.mk q (SO.lst (aA SV.ag us.1) n) false))/\CompI.At (iJ w.2 led ds [LE.mk q (SO.lst (aA SV.ag us.1) n) false] []) [LE.mk q (SO.lst (aA SV.ag us.1) n) false] [] [] 0/\(∀(b1:Nat) (b2:aa) (b3:fN) (b4:af),b1<aN (aA SV.ag us.1)->(vals (aA SV.ag us.1))[b1]? =some b2->fB w.2 led ds b1 b3-> ∃(b8:Nd),rI w.2 led ds 0 b8 [b2,am 0 1254]/\ ∀(b9:aa) (aH:Led) (bq:af),cH b3.2 aH->bV w led b8 [] aH b9->CompI.At (iJ w.2 led ds [LE.mk q (SO.lst (aA SV.ag us.1) n) false] []) [LE.mk q (SO.lst (aA SV.ag us.1) n) false] (b3.2++aH) (b3.1++[b9]) (b1+1))/\ ∀(b1:fN) (b2:af),fB w.2 led ds (aN (aA SV.ag us.1)) b1-> ∀(b4:ac),Sep [b4] b1.2->cE w.2 (vB w led ds) news [LE.mk b4 (SO.lst (aA SV.ag b1.1) (aN b1.1)) true] b1.2 (SV.own 1 b4)) ?_ ?_
 ·kernel_rfl
 exactλy=>⟨⟨wA hn hlen,λy=>rfl⟩,pS,λi v z y y ev hj=>(y4 hn ev).elim λd h=>⟨d,h.2,λy y y gE q=>uj hj h.1 q gE⟩,λz y hj y hs=>Jk hj (jr (wz hn).symm) hs⟩
noncomputable def Do (P:aB) (led:Led) (ds:List Nd):Cfg:=⟨[((382,11),yY P []),((382,17),CA λst=>rH led ds st.led st.oth)],Cfg.none.rd,Cfg.none.iv,[]⟩
noncomputable def Dp (P:aB) (led:Led) (ds:List Nd) (depth:Nat):List (Nat×Spec):=[(741,y0 (rI P led ds depth) λd tl r=>RD (led++tl) r (desc d))]
theorem Jo {wo:ah} {led NN:Led} {ds:List Nd} {depth:Nat} (IH:∀d∈ds,Tells wo d) (hd:depth+bR ds<=61) (hs:∀p∈led,p∈NN):iG wo NN (16+8*bR ds) (Dp wo.params led ds depth):=ey (Dg λd vs ⟨h1,h2⟩=>by
 have:=xZ h1
 exact ⟨_,_,_,IH d h1 led depth (by omega),by omega,λal h=>⟨λp hp=>h p (hs p hp),h2⟩,λz z z h=>h⟩) iS
theorem Jp {w:ah} {NN led:Led} {D:Nat} {ds:List Nd}:jh w NN D (Do w.params led ds):=⟨ez,pL,dZ De (dZ Iq km)⟩
theorem Jq {P:aB} {led:Led} {ds:List Nd} {us:List aa} {mu:List ac} {z:kr} (h:aP P led ds us mu) (hl:ds.length<=100) (hj:oz led ds (us.map SV.ag).length z):(z.rs.map SV.ag).length<=1000:=by
 rw [j0,hj.l]
 exact wA h hl
theorem rK (w:ah) (ds:List Nd) (hlen:ds.length<=100) (IH:∀d∈ds,Tells w d):lH w ds:=λled depth hd=>jQ (16+8*bR ds) 1 99 [] (by omega) wB λnews vs hp=>by
 obtain ⟨aK,q,t,mu,rfl,us,n,ms,hq,hn,-⟩:=hp
 refine ⟨Dp w.params led ds depth,Do w.params led ds,[⟨q,.lst (us.toList.map SV.ag) n,false⟩],[.own 0 q,.lit (.int depth t)],Jp,Jo IH hd aK,rfl,y5 (us:=us.toList) (aK _ hq),⟨trivial,trivial⟩,y6 λv hv=> ?_,λe he=>by rw [bN.mp he],λtk=> ?_⟩
 ·exact (bj.mp hv).elim (λe=>e▸⟨_,rfl,rfl⟩) λhv=>bN.mp hv▸trivial
 refine @cD _ (∀(h:af),(aN (aA SV.ag us.1)<=1000/\ ∀(h:kr),some (LE.mk q (SO.lst (aA SV.ag us.1) n) false)=some (LE.mk q (SO.lst (aA SV.ag us.1) n) false))/\CompI.At (rH led ds [LE.mk q (SO.lst (aA SV.ag us.1) n) false] []) [LE.mk q (SO.lst (aA SV.ag us.1) n) false] [] [] 0/\(∀(b1:Nat) (b2:aa) (b3:kr) (b4:af),b1<aN (aA SV.ag us.1)->(vals (aA SV.ag us.1))[b1]? =some b2->oz led ds b1 b3-> ∃(b8:Nd),rI w.2 led ds depth b8 [b2,am (((depth:Nat):Int)) t]/\ ∀(b9:aa) (aH:Led) (bq:af),cH b3.2 aH->RD (led++aH) b9 (desc b8)->CompI.At (rH led ds [LE.mk q (SO.lst (aA SV.ag us.1) n) false] []) [LE.mk q (SO.lst (aA SV.ag us.1) n) false] (b3.2++aH) (b3.1++[b9]) (b1+1))/\ ∀(b1:kr) (b2:af),oz led ds (aN (aA SV.ag us.1)) b1-> ∀(b4:ac),aN (aA SV.ag b1.1)<=1000/\ ∀(b5:ac),Sep [b4,b5] b1.2->cE w.2 (vN led (de (bS ds))) news [LE.mk b4 (SO.lst (aA SV.ag b1.1) (aN b1.1)) true,LE.mk b5 (SO.tup (aA SV.ag b1.1) 0) true] b1.2 (SV.own 2 b5)) ?_ ?_
 ·kernel_rfl
 exactλy=>⟨⟨wA hn hlen,λy=>rfl⟩,Jh,λi v z y y ev hj=>(y4 hn ev).elim λd h=>⟨d,h.2,λy y y y q=>Ji hj h.1 q⟩,λz y hj y=>⟨Jq hn hlen hj,λy y=>Jl hj (jr (wz hn).symm)⟩⟩
theorem Rk (w:ah) (ds:List Nd) (hlen:ds.length<=100) (IH:∀d∈ds,Tells w d) (led:Led) (hd:0+bR ds<=61):Sp w 747 (18+8*bR ds) (Jj w led ds) (Dk led (.tuple (bS ds))):=jQ (16+8*bR ds) 1 99 [] (by omega) wB λnews vs hp=>by
 obtain ⟨aK,q,mu,rfl,us,n,ms,hq,hn,-⟩:=hp
 refine ⟨Dp w.params led ds 0,Do w.params led ds,[⟨q,.lst (us.toList.map SV.ag) n,false⟩],[.own 0 q],Jp,Jo IH hd aK,rfl,y5 (us:=us.toList) (aK _ hq),⟨trivial,trivial⟩,y6 λv hv=> ?_,λe he=>by rw [bN.mp he],λtk=> ?_⟩
 ·exact bN.mp hv▸⟨_,rfl,rfl⟩
 refine @cD _ (∀(h:af),(aN (aA SV.ag us.1)<=1000/\ ∀(h:kr),some (LE.mk q (SO.lst (aA SV.ag us.1) n) false)=some (LE.mk q (SO.lst (aA SV.ag us.1) n) false))/\CompI.At (rH led ds [LE.mk q (SO.lst (aA SV.ag us.1) n) false] []) [LE.mk q (SO.lst (aA SV.ag us.1) n) false] [] [] 0/\(∀(b1:Nat) (b2:aa) (b3:kr) (b4:af),b1<aN (aA SV.ag us.1)->(vals (aA SV.ag us.1))[b1]? =some b2->oz led ds b1 b3-> ∃(b8:Nd),rI w.2 led ds 0 b8 [b2,am 0 1285]/\ ∀(b9:aa) (aH:Led) (bq:af),cH b3.2 aH->RD (led++aH) b9 (desc b8)->CompI.At (rH led ds [LE.mk q (SO.lst (aA SV.ag us.1) n) false] []) [LE.mk q (SO.lst (aA SV.ag us.1) n) false] (b3.2++aH) (b3.1++[b9]) (b1+1))/\ ∀(b1:kr) (b2:af),oz led ds (aN (aA SV.ag us.1)) b1-> ∀(b4:ac),aN (aA SV.ag b1.1)<=1000/\ ∀(b5:ac),Sep [b4,b5] b1.2->cE w.2 (Dk led (de (bS ds))) news [LE.mk b4 (SO.lst (aA SV.ag b1.1) (aN b1.1)) true,LE.mk b5 (SO.tup (aA SV.ag b1.1) 0) true] b1.2 (SV.own 2 b5)) ?_ ?_
 ·kernel_rfl
 exactλy=>⟨⟨wA hn hlen,λy=>rfl⟩,Jh,λi v z y y ev hj=>(y4 hn ev).elim λd h=>⟨d,h.2,λy y y y q=>Ji hj h.1 q⟩,λz y hj y=>⟨Jq hn hlen hj,λy y=>Ri hj (jr (wz hn).symm)⟩⟩
end
section
def Dq (P:aB) (tl:Led) (r:aa):Prop:=∃x dx t0 a,r= .ref x/\tl=[(dx,cY [⟨aO P (aF "value"),.str (aF "value") t0,.int 1 a⟩] 1),(x,cV 466 dx)]
theorem Rl (w:ah):Sp w 466 12 (λz vs=>∃a,vs=[.int 1 a]) (λz tl r=>Dq w.params tl r):=jQ 8 4 99 [] (by decide) (K:=λz r st=>Dq w.params (bo w.params (st.led.filter (·.f))++st.oth) r.val) (λz z z z z z h=>h) λnews vs ⟨a,e⟩=>
 ⟨eH,Cfg.none,[],[.lit (.int 1 a)],Cfg.gI,fo (by decide),e,λz h=>(nomatch h),trivial,eM.mpr trivial,λz h=>(nomatch h),λtk=>
  fQ (by kernel_rfl:_= ∀(x dx:ac),((-2147483647:Int)<=1/\(1:Int)<=2147483647)/\ ∀t:af,Dq w.params (bo w.params [⟨dx,.dict [(sO "value",t+1,.lit (.int 1 a))] 1,true⟩,⟨x,.inst 466 0 dx,true⟩]) (.ref x)) λx dx=>⟨by decide,λt=>⟨x,dx,_,a,rfl,rfl⟩⟩⟩
end
section
def rM (led:Led) (a:ac):Prop:=∃o,(a,o)∈led/\o.cls≠ .type "tuple"/\fk o≠0
theorem ND.isRef {P:aB} {led:Led} {d:Nd} {v:aa} {mu:List ac} (h:ND P led d v mu):∃x,v= .ref x:=by
 cases d<;>exact sM h λe f=>⟨e.a 0,f.1⟩
theorem Jr {P:aB} {led:Led} {ds:List Nd} {vs:Array aa} {n:Nat} {ms:List ac} (h:aP P led ds vs.toList ms):fk (⟨.type "list",none,.seq vs n,#[]⟩:av)≠0:=by
 obtain ⟨l⟩:=vs
 rcases ds with z|⟨d,r⟩
 ·obtain ⟨rfl,z⟩:=h
  exact (nofun:(3:Nat)≠0)
 ·obtain ⟨v,vr,m1,m2,e,z,h1,z⟩:=h
  obtain ⟨x,rfl⟩:=h1.isRef
  simp only at e
  subst e
  exact (nofun:(3:Nat)≠0)
theorem Js {vs:Array aa} {n:Nat}:(⟨.type "list",none,.seq vs n,#[]⟩:av).cls≠ .type "tuple":=by
 show aw "list"≠ .type "tuple"
 decide
theorem Rm {es:List l5} {n:Nat}:(cY es n).cls≠ .type "tuple":=by
 show aw "dict"≠ .type "tuple"
 decide
section
variable {P:aB} {led:Led} {mu m sm:List ac} {l:List Nd} {vs:Array aa} {n:Nat} {q:ac} {d:Nd} {v:aa}
theorem mP (h:mu=[]):∀a∈mu,rM led a:=λz ha=>nomatch h▸ha
theorem rN (hq:(q,(⟨.type "list",none,.seq vs n,#[]⟩:av))∈led) (hN:aP P led l vs.toList sm) (e:m=q::sm) (h:∀a∈sm,rM led a):∀a∈m,rM led a:=e▸bU.mpr ⟨⟨_,hq,Js,Jr hN⟩,h⟩
theorem Jt {es:List l5} {k:Nat} (hq:(q,cY es n)∈led) (e:mu=q::m) (hf:fk (cY es n)=k+1) (h:∀a∈m,rM led a):∀a∈mu,rM led a:=e▸bU.mpr ⟨⟨_,hq,Rm,hf▸Al k⟩,h⟩
end
mutual
theorem ND.jC {P:aB} {led:Led}:∀(d:Nd) (v:aa) (mu:List ac),ND P led d v mu-> ∀a∈mu,rM led a
 | .char z y,q,j,h=>h.elim λo f=>mP f.2.2.2.2
 | .gP z y q j u r,p,w,h=>h.elim λo f=>mP f.2.2.2.2.2
 | .rule z y q,j,u,h=>h.elim λo f=>mP f.2.2.2.2.2.2
 | .fy z y,q,j,h=>h.elim λo f=>mP f.2.2.2
 | .skip z y,q,j,h=>h.elim λo f=>mP f.2.2.2.2
 | .lead z y l,q,j,h=>h.elim λo f=>f.2.2.2.2.2▸ND.jC l _ _ f.2.2.2.2.1
 | .dk z,y,q,h=>h.elim λo f=>mP f.2.2.2
 | .mark z y,q,j,h=>h.elim λo f=>mP f.2.2.2.2.2.2
 | .math z y,q,j,h=>h.elim λo f=>mP f.2.2.2
 | .spec z y,q,j,h=>h.elim λo f=>mP f.2.2.2
 | .dX a b c,z,y,h=>h.elim λe f=>f.2.2.2.2.2.2.2.2.2.2.2.2▸AA.mpr ⟨rN f.2.2.2.1 f.2.2.2.2.1 f.2.2.2.2.2.1 (aP.jC a _ _ f.2.2.2.2.1),AA.mpr ⟨rN f.2.2.2.2.2.2.1 f.2.2.2.2.2.2.2.1 f.2.2.2.2.2.2.2.2.1 (aP.jC b _ _ f.2.2.2.2.2.2.2.1),rN f.2.2.2.2.2.2.2.2.2.1 f.2.2.2.2.2.2.2.2.2.2.1 f.2.2.2.2.2.2.2.2.2.2.2.1 (aP.jC c _ _ f.2.2.2.2.2.2.2.2.2.2.1)⟩⟩
 | .ins z y q j u l,r,p,h=>h.elim λo f=>f.2.2.2.2.2.2.2▸rN f.2.2.2.2.1 f.2.2.2.2.2.1 f.2.2.2.2.2.2.1 (aP.jC l _ _ f.2.2.2.2.2.1)
 | .eR l,z,y,h=>h.elim λo f=>f.2.2.2.2.2.2▸rN f.2.2.2.1 f.2.2.2.2.1 f.2.2.2.2.2.1 (aP.jC l _ _ f.2.2.2.2.1)
 | .unset z y q j u r p l,w,i,h=>h.elim λo f=>f.2.2.2.2.2.2.1.elim λo g=>Jt (k:=1) g.2.1 f.2.2.2.2.2.2.2 rfl (rN f.2.2.2.1 f.2.2.2.2.1 f.2.2.2.2.2.1 (aP.jC l _ _ f.2.2.2.2.1))
 | .box z y q j u r p w i l,m,n,h=>h.elim λo f=>Jt (k:=0) f.2.2.1 f.2.2.2.2.2.2.2 rfl (rN f.2.2.2.1 f.2.2.2.2.1 f.2.2.2.2.2.1 (aP.jC l _ _ f.2.2.2.2.1))
theorem aP.jC {P:aB} {led:Led}:∀(ds:List Nd) (vs:List aa) (mu:List ac),aP P led ds vs mu-> ∀a∈mu,rM led a
 |[],z,y,h=>mP h.2
 |d::r,z,y,h=>by
  obtain ⟨v,vr,m1,m2,z,e,h1,h2⟩:=h
  exact e▸AA.mpr ⟨ND.jC d _ _ h1,aP.jC r _ _ h2⟩
end
theorem ND.adr {P:aB} {led:Led} (d:Nd) (v:aa) (mu:List ac) (h:ND P led d v mu):∀a∈mu,∃o,(a,o)∈led:=λa ha=>(ND.jC d v mu h a ha).imp λz h=>h.1
theorem aP.adr {P:aB} {led:Led} (d:List Nd) (v:List aa) (mu:List ac) (h:aP P led d v mu):∀a∈mu,∃o,(a,o)∈led:=λa ha=>(aP.jC d v mu h a ha).imp λz h=>h.1
end
section
noncomputable def y7:List bP->List bP|(.For z y b q j)::u=>b|_=>[]
def hX (w:ah) (d:Nd):Prop:=∀(p:cP) (loose:List ai) (bH:gp->Option aa) (mg mb:ai->Option aa) (dp un:Nat) (gd:Option (List gN)) (cn:ai) (cs:bD) (mQ a:ac) (bX:aa) (cl:List (ai×ac)) (outer:List cu) (base h₀:bA) (L:ac) (m:ai->Option aa) (news led:Led) (s:ak) (v:aa) (mu:List ac) (R:eK->ak->Prop) (E:aa->ak->Prop),
 (∀p∈led,p∈news)->ND w.params led d v mu->mu.Nodup->(B:fx (gy dp un gd cn cs mQ a bX cl outer) base (envX cn cs mQ a bX cl::outer) h₀)->(F:Fr h₀ L s.heap (λy=>if y=sO "node" then some v else m y))->(X:(KK w.params).In h₀)->(N:aU h₀ L s.heap news)->(T:Top p loose bH mg mb h₀)->(hk:cs.kind= .function)->(hd:dp+(15+10*(ht d+1))<recursionLimit)->(hu:un+(120+80*(ht d+1))<cLine)->
 (∀led' fL h' bQ m',m' (sO "nodes")=m (sO "nodes")->Fr h₀ L h' m'->aU h₀ L h' (led'++bT mu news)->ND w.params led' (iX d) v fL->(∀a∈fL,a∈mu)->Kept mu news led led'->R .next {s with heap:=h',toks:=bQ})->
 aC (aG PG w) ((gy dp un gd cn cs mQ a bX cl outer).deeper (gz (sO "_law_spoil") (sS (dH 90)) L 983 (.ref 982))) (d8 (y7 (sB (dH 90))) (gz (sO "_law_spoil") (sS (dH 90)) L 983 (.ref 982))) R E s
structure wC (P:aB) (NN Dr:Led) (d:Nd) (v:aa) (mu:List ac) (led:List LE) (oth:Led):Prop where
 e:∃fL,ND P (bo P led++(oth++NN)) d v fL/\ ∀a∈fL,a∈mu
 c:∀r∈Dr,∃o,(r.1,o)∈oth
def Ju (P:aB) (NN Dr:Led) (d:Nd) (v:aa) (mu:List ac) (f:Option SV) (st:St):Prop:=match f with
 |none=>oE (findF (sO "nodes") st.loc) (λy=>False) (wC P NN Dr (iX d) v mu st.led st.oth)
 |some z=>False
theorem Jv {m:ai->Option aa} {x:ai} {v:SV} {l:List (ai×SV)}:yn m ((x,v)::l)=λy=>if y=x then some v.val else yn m l y:=by
 funext y
 show(match(match y==x with|true=>some v|false=>findF y l) with|some v=>some v.val|none=>m y)=_
 by_cases h:y=x
 ·subst h;rw [if_pos rfl,beq_self_eq_true]
 ·rw [d7 h,beq_eq_false_iff_ne.mpr h];rfl
noncomputable def Cx.loop (p:cP) (loose:List ai) (bH:gp->Option aa) (mg mb:ai->Option aa) (dp un:Nat) (gd:Option (List gN)) (cn:ai) (cs:bD) (mQ a:ac) (bX:aa) (cl:List (ai×ac)) (outer:List cu) (base h₀:bA) (L:ac) (m:ai->Option aa) (eY news:Led) (s:ak):Cx:=
 {p,loose,bH,mg,mb,A:=(gy dp un gd cn cs mQ a bX cl outer).deeper (gz (sO "_law_spoil") (sS (dH 90)) L 983 (.ref 982)),cn:=sO "_law_spoil",cs:=sS (dH 90),L,a:=983,bX:=.ref 982,cl:=[],outer:=envX cn cs mQ a bX cl::outer,A₀:=gy dp un gd cn cs mQ a bX cl outer,base,h₀,eY,news,en:=s,fm:=yn m,jv:=λz=>True,ee:=gz (sO "_law_spoil") (sS (dH 90)) L 983 (.ref 982),es:=sS (dH 90)}
theorem Jw:∀y∈(sS (dH 90)).names,y.2≠ .cell/\y.2≠ .free:=by
 have:((sS (dH 90)).names.all λy=>decide (y.2≠ .cell/\y.2≠ .free))=true:=by kernel_rfl
 exactλy hy=>cJ (nK.mp this y hy)
inductive Jx (w:ah) (d:Nd) (b D:Nat) (led:Led) (v:aa) (mu:List ac):Prop where
 |mk (tab:List (Nat×Spec)) (G:Cfg) (V:List LE) (oth:Led) (sv:SV) (K:Option SV->St->Prop) (h1:sv.val=v) (h2:aX V sv) (h3:jh w (bT mu led) D G) (h4:iG w (bT mu led) D tab) (h5:mD w V oth (bT mu led) []) (h6:(∀e∈V,e.f=true->e.a∈mu/\(e.a,e.o.obj w.params)∈led)) (h7:(∀p∈oth,p∈led/\p.1∈mu)) (h8:(∀a∈mu,(∃e∈V,e.f=true/\e.a=a)\/ ∃o,(a,o)∈oth)) (h9:(∀f st,K f st->Ju w.params (bT mu led) oth d v mu f st)) (cT:∀tk,(Ev.jf (KK w.params) tab G [] 99).fh (sS (dH 90)) b (y7 (sB (dH 90))) ⟨[(sO "node",sv)],V,oth,tk⟩ K):Jx w d b D led v mu
theorem Jy {w:ah} {d:Nd} (b D:Nat) (Ds:b+D<=14+10*(ht d+1)) (h:∀led v mu,ND w.params led d v mu->mu.Nodup->(∀p∈led,fk p.2=0->p.1∉mu)->Jx w d b D led v mu):hX w d:=by
 intro p loose bH mg mb dp un gd cn cs mQ a bX cl outer base h₀ L m news led s v mu R E aK hN bn B F X N T hk hd hu gb
 have adr:=ND.jC d v mu hN
 have Rn:=ND.adr d v mu hN
 have im:∀p∈led,fk p.2=0->p.1∉mu:=λp hp h0 hm=>by
  obtain ⟨o,ho,j,hf⟩:=adr _ hm
  have e:=News.one N (aK p hp) (aK _ ho) rfl
  rw [e] at h0
  exact hf h0
 obtain ⟨tab,G,V,oth,sv,K,rfl,Ro,hG,hT,RL,hV,Dt,Rp,hK,ji⟩:=h led v mu hN bn im
 have hb:8*b+8*D<=8*(14+10*(ht d+1)):=Nat.mul_add 8 b D▸ly 8 Ds
 have Jz:∀{a},a∈mu-> ∀p∈bT mu news,p.1≠a:=λha p hp e=>(iY hp).2 (e▸ha)
 refine (tJ hG hT 99).fh (c:=Cx.loop p loose bH mg mb dp un gd cn cs mQ a bX cl outer base h₀ L m (bT mu news) (bT mu led) s) (b:=b) (st:=⟨[(sO "node",sv)],V,oth,s.toks⟩)
  ⟨rfl,B,X,T,rfl,rfl,rfl,by show dp+1+(b+D)<_;omega,by show un+3+(8*b+8*D)<_;omega,rfl,⟨rfl,rfl⟩,λu u h=>.inl h,λ{x v st s} R _ hx hf=>⟨_,R.fr.ns,by show(match findF x st.loc with|some v=>some v.val|none=>m x)=_;rw [hf]⟩,λy hy=>hy.elim (λh=>absurd rfl (Jw _ (mem_of_lookup h)).1) λh=>absurd rfl (Jw _ (mem_of_lookup h)).2⟩
  ⟨rfl,rfl,λu u u u=>Jv,λu u u u u=>trivial⟩ ⟨⟨⟨RL.ap,λi e he hf q hq=>Jz (hV e (et he) hf).1 q hq,RL.vw,λq hq r hr=>(aM.mp hr).elim (λhr=>Jz (Dt q hq).2 r hr) λhr=>RL.oo q hq r hr,RL.ir⟩,trivial,λx hx=>by rw [bN.mp hx];exact Ro⟩,rfl,rfl, ?_,λq hq=>N q ?_⟩ (ji _) λf ao s' R2 x2 cI aV=> ?_
 ·show Fr h₀ L s.heap (yn m [(sO "node",sv)])
  rw [Jv]
  exact F
 ·rcases aM.mp hq with hq|hq
  ·obtain ⟨i,e,he,rfl⟩:=ki hq
   cases hf:e.f with
   |true=>exact aK _ (hV e (et he) hf).2
   |false=>exact (aM.mp (RL.vw i e he hf)).elim (λh=>aK _ (Dt _ h).1) λh=>aK _ (iY h).1
  ·rcases aM.mp hq with hq|hq
   ·exact aK _ (Dt q hq).1
   ·exact (aM.mp hq).elim (λh=>(iY h).1) λh=>aK _ (iY h).1
 ·have aV:=hK f ao aV
  cases f with
  |some j=>exact aV.elim
  |none=>
   rcases vD aV with⟨j,j,h⟩|⟨Rq,⟨⟨fL,h1,h2⟩,h3⟩⟩
   ·exact h.elim
   rw [show s'={s with heap:=s'.heap,toks:=s'.toks} from R2.same]
   have Rr:∀a∈mu,∃o,(a,o)∈bo w.params ao.led++ao.oth:=λa ha=>by
    rcases Rp a ha with⟨e,he,j,rfl⟩|⟨o,ho⟩
    ·obtain ⟨i,hi⟩:=pc.mp he
     obtain ⟨e',h1,h2,j⟩:=x2 i e hi
     exact ⟨_,aq _ (h2▸gF h1)⟩
    ·obtain ⟨o',rO⟩:=h3 _ ho
     exact ⟨o',ay _ rO⟩
   have Rs:∀p∈bo w.params ao.led++(ao.oth++bT mu led),p∈bT mu led\/ ∀r∈bT mu news,r.1≠p.1:=λp hp=>by
    rcases aM.mp hp with hp|hp
    ·obtain ⟨i,e,he,rfl⟩:=ki hp
     cases hf:e.f with
     |true=>exact .inr λr hr=>R2.hd i e he hf r hr
     |false=>exact (aM.mp (R2.vw i e he hf)).elim (λh=>.inr λr hr=>R2.oo _ h r (aq _ hr)) .inl
    ·exact (aM.mp hp).elim (λh=>.inr λr hr=>R2.oo _ h r (aq _ hr)) .inl
   refine gb (bo w.params ao.led++(ao.oth++bT mu led)) fL s'.heap s'.toks _ ?_ R2.fr (λq hq=>R2.nw q ?_) h1 h2 ⟨λp hp hk=> ?_,λr hr=> ?_,λp hp=> ?_⟩
   ·show(match findF (sO "nodes") ao.loc with|some v=>some v.val|none=>m _)=_
    rw [Rq]
   ·rcases aM.mp hq with hq|hq
    ·rcases aM.mp hq with hq|hq
     ·exact aq _ hq
     ·exact (aM.mp hq).elim iP λh=>jw (c:=Cx.loop p loose bH mg mb dp un gd cn cs mQ a bX cl outer base h₀ L m (bT mu news) (bT mu led) s) h
    ·exact mE hq
   ·exact ay _ (ay _ (gG hp (hk.elim (im p hp) id)))
   ·by_cases e:r.1∈mu
    ·exact (Rr _ e).imp λo h=>(aM.mp h).elim (λh=>aq _ h) λh=>ay _ (aq _ h)
    ·exact ⟨r.2,ay _ (ay _ (gG hr e))⟩
   ·by_cases e:p.1∈mu
    ·exact .inl (Rn _ e)
    ·rcases Rs p hp with h|h
     ·exact .inl ⟨p.2,(iY h).1⟩
     ·refine .inr λr hr q=> ?_
      exact h r (gG hr λz=>e (q▸z)) q
end
section
noncomputable def iV (x dx C:ac) (es:List (ai×af×SV)) (n:Nat):List LE:=[⟨dx,.dict es n,false⟩,⟨x,.inst C 0 dx,false⟩]
noncomputable def noOwn (es:List (ai×af×SV)):Bool:=es.all λe=>(fi e.2.2).isNone
theorem Rt {l:List LE} {v:SV} (h:(fi v).isNone=true):aX l v:=by
 cases v with
 |own=>cases h
 |_=>trivial
theorem Ru {l:List LE} {es:List (ai×af×SV)} (h:noOwn es=true):∀e∈es,aX l e.2.2:=λe he=>Rt (nK.mp h e he)
theorem y8 {a b:LE} {P:Nat->LE->Prop} (h0:P 0 a) (h1:P 1 b):∀(i:Nat) (e:LE),[a,b][i]? =some e->P i e:=λi e h=>by
 cases i with
 |zero=>cases h;exact h0
 |succ i=>cases i with
  |zero=>cases h;exact h1
  |succ i=>cases h
def JA (Z:Prop) (f:Option SV) (st:St):Prop:=match f with
 |none=>oE (findF (sO "nodes") st.loc) (λy=>False) Z
 |some z=>False
def Rv (w:ah) (led:Led) (v:aa) (mu:List ac):Prop:=mu=[]/\ ∃(x dx C:ac) (es:List (ai×af×SV)) (n:Nat),v= .ref x/\(x,cV C dx)∈led/\(dx,cY (ents w.params es) n)∈led/\noOwn es=true/\
 ∀(Z:Prop) tk,(Ev.jf (KK w.params) [] Cfg.none [] 99).fh (sS (dH 90)) 0 (y7 (sB (dH 90))) ⟨[(sO "node",.own 1 x)],iV x dx C es n,[],tk⟩ (JA Z)= ∀z z:Nat,Z
theorem oA {w:ah} {d:Nd} (hs:iX d=d) (h:∀led v mu,ND w.params led d v mu->Rv w led v mu):hX w d:=Jy 0 8 (by omega) λled v mu hN y y=>by
 obtain ⟨rfl,x,dx,C,es,n,rfl,h1,h2,h3,h4⟩:=h led v mu hN
 have sub:∀p∈led,p∈bT [] led:=λp hp=>gG hp λh=>nomatch h
 refine ⟨[],Cfg.none,iV x dx C es n,[],.own 1 x,JA (∀V oth,wC w.params (bT [] led) [] (iX d) (.ref x) [] V oth),rfl,⟨_,rfl,rfl⟩,Cfg.gI,iS,⟨λi e he hf=> ?_,λy y y y y h=>(nomatch h),λi e he y=> ?_,λy h=>(nomatch h),λi e he=> ?_⟩,λe he hf=> ?_,λy h=>(nomatch h),λy h=>(nomatch h),λf st hz=> ?_,λtk=>by
  rw [h4 _ tk]
  exactλy y V oth=>⟨⟨[],by rw [hs];exact ND.mono (λp hp=>ay _ (ay _ (sub p hp))) _ _ _ hN,λy h=>nomatch h⟩,λy h=>nomatch h⟩⟩
 ·exact absurd hf (y8 (a:=⟨dx,.dict es n,false⟩) (b:=⟨x,.inst C 0 dx,false⟩) (P:=λy e=>¬e.f=true) oY oY i e he)
 ·exact y8 (a:=⟨dx,.dict es n,false⟩) (b:=⟨x,.inst C 0 dx,false⟩) (P:=λy e=>(e.a,e.o.obj w.params)∈bT [] led) (sub _ h2) (sub _ h1) i e he
 ·exact y8 (a:=⟨dx,.dict es n,false⟩) (b:=⟨x,.inst C 0 dx,false⟩) (P:=λy e=>gr (iV x dx C es n) e.o) (Ru h3) ⟨_,rfl,rfl⟩ i e he
 ·exact absurd hf ((List.getElem?_of_mem he).elim λi he=>y8 (a:=⟨dx,.dict es n,false⟩) (b:=⟨x,.inst C 0 dx,false⟩) (P:=λy e=>¬e.f=true) oY oY i e he)
 ·cases f with
  |some z=>exact hz.elim
  |none=>
   have hz:oE (findF (sO "nodes") st.loc) (λy=>False) _:=hz
   show oE (findF (sO "nodes") st.loc) (λy=>False) _
   cases q:findF (sO "nodes") st.loc with
   |some z=>rw [q] at hz;exact hz.elim
   |none=>rw [q] at hz;exact hz _ _
theorem Rw (w:ah) (k c:Int):hX w (.char k c):=oA rfl λled v mu h=>h.elim λe f=>⟨f.2.2.2.2,e.a 0,e.a 1,340,[(sO "font",e.a 2,.ag (.ref (e.a 7))),(sO "code",e.a 3,.ag (.int c (e.a 12)))],2,f.1,f.2.1,f.2.2.1,rfl,λZ tk=>by kernel_rfl⟩
theorem Rx (w:ah) (k c a b:Int) (l r:Bool):hX w (.gP k c a b l r):=oA rfl λled v mu h=>h.elim λe f=>⟨f.2.2.2.2.2,e.a 0,e.a 1,360,[(sO "font",e.a 2,.ag (.ref (e.a 7))),(sO "code",e.a 3,.ag (.int c (e.a 12))),(sO "parts",e.a 4,.ag (.ref (e.a 11))),(sO "left",e.a 5,.ag (.bool l)),(sO "right",e.a 6,.ag (.bool r))],5,f.1,f.2.1,f.2.2.1,rfl,λZ tk=>by kernel_rfl⟩
theorem Ry (w:ah) (i1 i2 i3:Option Int):hX w (.rule i1 i2 i3):=oA rfl λled v mu h=>h.elim λe f=>⟨f.2.2.2.2.2.2,e.a 0,e.a 1,402,[(sO "width",e.a 2,.ag e.wv),(sO "height",e.a 3,.ag e.hv),(sO "depth",e.a 4,.ag e.dv)],3,f.1,f.2.1,f.2.2.1,rfl,λZ tk=>by kernel_rfl⟩
theorem Rz (w:ah) (a b:Int):hX w (.fy a b):=oA rfl λled v mu h=>h.elim λe f=>⟨f.2.2.2,e.a 0,e.a 1,423,[(sO "width",e.a 2,.ag (.int a (e.a 10))),(sO "sort",e.a 3,.ag (.int b (e.a 12)))],2,f.1,f.2.1,f.2.2.1,rfl,λZ tk=>by kernel_rfl⟩
theorem RA (w:ah) (g:Gl) (k:Int):hX w (.skip g k):=oA rfl λled v mu h=>h.elim λe f=>⟨f.2.2.2.2,e.a 0,e.a 1,445,[(sO "glue",e.a 2,.ag (.ref (e.a 13))),(sO "sort",e.a 3,.ag (.int k (e.a 12))),(sO "leader",e.a 4,.lit .none)],3,f.1,f.2.1,f.2.2.1,rfl,λZ tk=>by kernel_rfl⟩
theorem RB (w:ah) (i:Int):hX w (.dk i):=oA rfl λled v mu h=>h.elim λe f=>⟨f.2.2.2,e.a 0,e.a 1,466,[(sO "value",e.a 2,.ag (.int i (e.a 12)))],1,f.1,f.2.1,f.2.2.1,rfl,λZ tk=>by kernel_rfl⟩
theorem RC (w:ah) (a b:Int):hX w (.mark a b):=oA rfl λled v mu h=>h.elim λe f=>⟨f.2.2.2.2.2.2,e.a 0,e.a 1,508,[(sO "tokens",e.a 2,.ag (.ref (e.a 11)))],1,f.1,f.2.1,f.2.2.1,rfl,λZ tk=>by kernel_rfl⟩
theorem RE (w:ah) (b:Bool) (x:Int):hX w (.math b x):=oA rfl λled v mu h=>h.elim λe f=>⟨f.2.2.2,e.a 0,e.a 1,571,[(sO "is_on",e.a 2,.ag (.bool b)),(sO "width",e.a 3,.ag (.int x (e.a 12)))],2,f.1,f.2.1,f.2.2.1,rfl,λZ tk=>by kernel_rfl⟩
theorem RF (w:ah) (a b:UInt8):hX w (.spec a b):=oA rfl λled v mu h=>h.elim λe f=>⟨f.2.2.2,e.a 0,e.a 1,592,[(sO "octets",e.a 2,.ag (.bytes #[a,b] (e.a 12)))],1,f.1,f.2.1,f.2.2.1,rfl,λZ tk=>by kernel_rfl⟩
end
section
structure JB (P:aB) (NN:Led) (l:List Nd) (vs:List aa) (ms:List ac) (led:List LE) (oth:Led):Prop where
 n:aP P (bo P led++(oth++NN)) l vs ms
 d:ms.Nodup
 m:∀a∈ms,∃o,(a,o)∈oth
 v:∀e∈led,e.f=false->(e.a,e.o.obj P)∈NN
structure wD (P:aB) (NN:Led) (l:List Nd) (q0:ac) (vs:List aa) (ms:List ac) (led iI:List LE) (oth fC:Led) (v0:aa) (n0:Nat) (dy:List ac):Prop where
 q:(q0,(⟨.type "list",none,.seq (vs++[v0]).toArray n0,#[]⟩:av))∈bo P iI++fC
 n:aP P (bo P iI++(fC++NN)) (eB l++[.dk 1]) (vs++[v0]) dy
 m:∀a∈dy,a∈ms
 k:∀p∈oth,p.1∉q0::ms->p∈fC
 c:∀r∈oth,∃o,(r.1,o)∈fC
noncomputable def rP (P:aB) (NN:Led) (l:List Nd) (ms:List ac):Spec:=λargs st k=>match args with
 |[X]=>oK (fi X) λi=>oK st.led[i]? λe=>oK (jM e.o) λu=>bK e.f (JB P NN l (vals u.1) ms st.led st.oth/\
  ∀fC v n1 dy tk,wD P NN l e.a (vals u.1) ms st.led (setAt st.led i (.lst ((vals u.1++[v]).map SV.ag) n1)) st.oth fC v n1 dy->k (.lit .none) {st with led:=setAt st.led i (.lst ((vals u.1++[v]).map SV.ag) n1),oth:=fC,tk:=tk})
 |_=>False
theorem uk {w:ah} {NN:Led} {D:Nat} {l:List Nd} {ms:List ac} (C:k6 w l) (hD:20+10*bR l<=D):eG w NN D 983 (rP w.params NN l ms):=by
 intro c args st k s Q E O R hv h hQ
 rcases args with u|⟨X,u|⟨u,u⟩⟩
 ·exact h.elim
 rotate_left
 ·exact h.elim
 refine aJ h λi eX h=> ?_
 refine aJ h λeL hi h=> ?_
 obtain ⟨⟨us,n⟩,eU,h⟩:=gQ h
 refine bv h λhf z9=>z9.elim λhp hk=> ?_
 have eu:=kQ eU
 have ha:vals [X]=[.ref eL.a]:=bW (λy=>[SV.val y]) (gn eX hi (hv X (.head _)))
 have y9:=gF (P:=w.params) hi
 rw [eu] at y9
 have JC:=(R.ap i eL hi hf).1
 dsimp only at hp hk
 generalize RG:vals us=vs at hp hk
 generalize Du:eL.a=q at*
 have y9:(q,(⟨.type "list",none,.seq vs.toArray n,#[]⟩:av))∈bo w.params st.led:=RG▸y9
 have RI:q∉ms:=λh=>by
  obtain ⟨o,ho⟩:=hp.m q h
  exact JC _ (aq _ ho) rfl
 have hn:=O.hn
 subst hn
 have hd:=O.hd
 have hu:=O.hu
 rw [O.top,ha]
 have one:∀{r:ac×av},r∈st.oth->r.1∉st.led.map (·.a)/\r.1∉c.news.map (·.1):=λ{r} hr=>⟨λh=>by
  obtain ⟨e,he,e1⟩:=ew.mp h
  obtain ⟨j,hj⟩:=pc.mp he
  cases hf:e.f with
  |true=>exact (R.ap j e hj hf).1 r (aq _ hr) e1.symm
  |false=>exact R.oo r hr _ (ay _ (hp.v e he hf)) e1,λh=>by
  obtain ⟨e,he,e1⟩:=ew.mp h
  exact R.oo r hr e (ay _ he) e1⟩
 have f2:∀p∈c.eY++c.news,p.1∉q::ms:=λp JD hm=>by
  rcases bj.mp hm with e|hm
  ·exact (aM.mp JD).elim (λh=>R.hd i eL hi hf p h (e.trans Du.symm)) λh=>JC p (ay _ h) e
  ·obtain ⟨o,ho⟩:=hp.m _ hm
   exact R.oo _ ho p JD rfl
 have f3:∀{j e},st.led[j]? =some e->j≠i->e.a∉q::ms:=λ{j e} hj B3 hm=>by
  have no:∀{o},(e.a,o)∈st.oth->False:=λho=>(one ho).1 (ew.mpr ⟨e,et hj,rfl⟩)
  rcases bj.mp hm with e1|hm
  ·exact B3 ((R.ap i eL hi hf).2 j e hj (e1.trans Du.symm))
  ·obtain ⟨o,ho⟩:=hp.m _ hm
   exact no ho
 have sub:∀p∈bo w.params st.led++(st.oth++c.news),p∈all w c st:=λp h=>(aM.mp h).elim (λh=>aq _ h) kO
 refine C c.p c.loose c.bH c.mg c.mb _ _ _ _ _ _ _ _ _ c.A₀ c.base c.h₀ c.L (c.fm st.loc) (all w c st) s Q E (bo w.params st.led++(st.oth++c.news)) q vs.toArray n ms sub (aq _ y9) hp.n (fY.mpr ⟨RI,hp.d⟩) O.B R.fr O.X R.nw O.T O.hk (gZ (by omega) hd) (gZ (by omega) hu) λled' v n' tX h' bQ F' N' q' d' s' K'=> ?_
 have eA:vs.toArray.push v=(vs++[v]).toArray:=by rw [List.push_toArray]
 rw [eA] at q' d'
 have cut:∀{p},p∈all w c st->p.1∉q::ms->p∈led'++bT (q::ms) (all w c st):=λh hn=>ay _ (gG h hn)
 have eO:(SO.lst ((vs++[v]).map SV.ag) n').obj w.params=(⟨.type "list",none,.seq (vs++[v]).toArray n',#[]⟩:av):=by
  show(⟨.type "list",none,.seq (vals ((vs++[v]).map SV.ag)).toArray n',#[]⟩:av)=_
  rw [fM]
 generalize hL:setAt st.led i (.lst ((vs++[v]).map SV.ag) n')=iI
 have ug:∀{j e},iI[j]? =some e-> ∃e0,st.led[j]? =some e0/\e.a=e0.a/\e.f=e0.f/\(j=i/\e.o= .lst ((vs++[v]).map SV.ag) n'\/j≠i/\e.o=e0.o):=λh=>get_set (hL▸h)
 have gu:∀{j e},st.led[j]? =some e-> ∃e',iI[j]? =some e'/\e'.a=e.a/\e'.f=e.f/\(j≠i->e'.o=e.o):=λh=>hL▸yp h
 have qi:∀{j e},j=i->st.led[j]? =some e->e.a=q/\e.f=true/\ ∃l,jM e.o=some l:=λ{j e} h1 hj=>by
  rw [h1,hi] at hj
  cases hj
  exact ⟨Du,hf,_,eU⟩
 have rf:∀{j:Nat} {e:LE},iI[j]? =some e->(e.a,e.o.obj w.params)∈led'++bT (q::ms) (all w c st):=λ{j e} h=>by
  obtain ⟨e0,h0,a0,u,o0⟩:=ug h
  rcases o0 with⟨hi,o0⟩|⟨hi,o0⟩
  ·rw [o0,eO,a0,(qi hi h0).1];exact aq _ q'
  ·rw [o0,a0];exact cut (fJ h0) (f3 h0 hi)
 have cls:∀p∈led',p∈bo w.params iI\/p∈c.news\/p∈led'.filter (λp=>decide (p.1∉st.led.map (·.a))&&decide (p.1∉c.news.map (·.1))):=λp h=>by
  by_cases h1:p.1∈st.led.map (·.a)
  ·obtain ⟨e,he,e1⟩:=ew.mp h1
   obtain ⟨j,hj⟩:=pc.mp he
   obtain ⟨e',JE,a',u⟩:=gu hj
   exact .inl (News.one N' (aq _ h) (rf JE) (e1.symm.trans a'.symm)▸gF JE)
  ·by_cases h2:p.1∈c.news.map (·.1)
   ·obtain ⟨r,hr,e1⟩:=ew.mp h2
    exact .inr (.inl (News.one N' (aq _ h) (cut (jw hr) (f2 r (ay _ hr))) e1.symm▸hr))
   ·exact .inr (.inr (j8.mpr ⟨h,by rw [gW h1,gW h2];rfl⟩))
 generalize hO:led'.filter (λp=>decide (p.1∉st.led.map (·.a))&&decide (p.1∉c.news.map (·.1)))=fC at cls
 have pT:∀{p},p∈fC->p∈led'/\p.1∉st.led.map (·.a)/\p.1∉c.news.map (·.1):=λ{p} h=>by
  rw [<-hO] at h
  obtain ⟨h1,h2⟩:=j8.mp h
  refine cR h2 λh2 h3=> ?_
  exact ⟨h1,cJ h2,cJ h3⟩
 have ul:∀{p r:ac×av},p∈led'->r∈st.oth->p.1=r.1->p∈fC:=λ{p r} h hr e=>by
  rw [<-hO]
  exact j8.mpr ⟨h,by rw [e,gW (one hr).1,gW (one hr).2];rfl⟩
 have hx:Ext st.led iI:=λj e h=>by
  obtain ⟨e',h1,h2,u,h3⟩:=gu h
  refine ⟨e',h1,h2,λus hu=>h3 λhi=> ?_⟩
  obtain ⟨u,u,l,e4⟩:=qi hi h
  rw [kQ e4] at hu;cases hu
 have RR:Rep w c {st with led:=iI,oth:=fC,tk:=bQ} {s with heap:=h',toks:=bQ}:=by
  refine ⟨⟨⟨λj e h hf=> ?_,λj e h hf p hp=> ?_,λj e h hf=> ?_,λp h r hr=> ?_,λj e h=> ?_⟩,R.lc,λx h=>(R.fz x h).ext hx⟩,by show _=_;rw [R.same],rfl,F',λp h=>N' p ?_⟩
  ·obtain ⟨e0,h0,a0,f0,u⟩:=ug h
   refine ⟨λp hp e1=>(aM.mp hp).elim (λh=>(pT h).2.1 (ew.mpr ⟨e0,et h0,(e1.trans a0).symm⟩)) λh=>(R.ap j e0 h0 (f0▸hf)).1 p (ay _ h) (e1.trans a0),λj' e' h' e1=> ?_⟩
   obtain ⟨e2,h2,a2,u⟩:=ug h'
   exact (R.ap j e0 h0 (f0▸hf)).2 j' e2 h2 (a2.symm.trans (e1.trans a0))
  ·obtain ⟨e0,h0,a0,f0,u⟩:=ug h
   rw [a0]
   exact R.hd j e0 h0 (f0▸hf) p hp
  ·obtain ⟨e0,h0,a0,f0,o0⟩:=ug h
   rcases o0 with⟨hi,u⟩|⟨u,o0⟩
   ·exact nomatch (f0.symm.trans hf).symm.trans (qi hi h0).2.1
   ·rw [a0,o0]
    exact ay _ (hp.v e0 (et h0) (f0▸hf))
  ·obtain ⟨h1,h2,h3⟩:=pT h
   rcases aM.mp hr with hr|hr
   ·rcases K'.2.2 p h1 with⟨o,ho⟩|hf
    ·rcases aM.mp ho with ho|ho
     ·obtain ⟨j,e,he,e1⟩:=ki ho
      exact absurd (ew.mpr ⟨e,et he,(bW Prod.fst e1).symm⟩) h2
     ·exact (aM.mp ho).elim (λho=>R.oo _ ho r (aq _ hr)) λho=>absurd (ew.mpr ⟨_,ho,rfl⟩) h3
    ·exact hf r (mE hr)
   ·exactλe1=>h3 (ew.mpr ⟨r,hr,e1⟩)
  ·obtain ⟨e0,h0,u,u,o0⟩:=ug h
   rcases o0 with⟨u,o0⟩|⟨u,o0⟩
   ·rw [o0];exact jk
   ·rw [o0];exact (R.ir j e0 h0).ext hx
  ·rcases aM.mp h with h|h
   ·obtain ⟨j,e,he,rfl⟩:=ki h
    exact rf he
   ·rcases aM.mp h with h|h
    ·exact aq _ (pT h).1
    ·exact cut (ay _ (ay _ h)) (f2 p h)
 have z:=hk fC v n' tX bQ
 rw [hL] at z
 have z:=z ⟨?_,aP.mono (λp h=>(cls p h).elim (λh=>aq _ h) λh=>ay _ (h.elim (λh=>ay _ h) λh=>aq _ h)) _ _ _ d',s',λp h hn=>ul (K'.1 p (ay _ (aq _ h)) (.inr hn)) h rfl,λr h=>(K'.2.1 r (ay _ (aq _ h))).imp λo ho=>ul ho h rfl⟩
 ·exact hQ (.lit .none) _ _ ⟨RR,hx,rfl⟩ trivial z
 ·rcases cls _ q' with h|h|h
  ·exact aq _ h
  ·exact absurd (.head _) (f2 _ (ay _ h))
  ·exact ay _ h
end
section
noncomputable def lg (O S:List (ac×SO)):List LE:=O.map (λp=>⟨p.1,p.2,true⟩)++S.map λp=>⟨p.1,p.2,false⟩
noncomputable def i4 (led:Led) (mu:List ac) (O:List (ac×SO)):Led:=led.filter λp=>decide (p.1∈mu)&&decide (p.1∉O.map (·.1))
theorem za {led:Led} {mu:List ac} {O:List (ac×SO)} {p:ac×av} (h:p∈i4 led mu O):p∈led/\p.1∈mu/\p.1∉O.map (·.1):=by
 obtain ⟨h1,h2⟩:=j8.mp h
 obtain ⟨h2,h3⟩:=cy h2
 exact ⟨h1,cJ h2,cJ h3⟩
theorem zb {led:Led} {mu:List ac} {O:List (ac×SO)} {p:ac×av} (h:p∈led) (h1:p.1∈mu) (h2:p.1∉O.map (·.1)):p∈i4 led mu O:=j8.mpr ⟨h,by rw [gW h1,gW h2];rfl⟩
theorem wE {O S:List (ac×SO)} {i:Nat} {e:LE} (h:(lg O S)[i]? =some e):(∃p,O[i]? =some p/\e=⟨p.1,p.2,true⟩)\/ ∃p∈S,e=⟨p.1,p.2,false⟩:=by
 unfold lg at h
 rw [List.getElem?_append] at h
 split at h
 ·rw [vh] at h
  cases hp:O[i]? with
  |none=>rw [hp] at h;cases h
  |some p=>rw [hp] at h;cases h;exact .inl ⟨p,rfl,rfl⟩
 ·rw [vh] at h
  cases hp:S[i -(O.map (λp=>(⟨p.1,p.2,true⟩:LE))).length]? with
  |none=>rw [hp] at h;cases h
  |some p=>rw [hp] at h;cases h;exact .inr ⟨p,et hp,rfl⟩
theorem RJ {O:List (ac×SO)} (h:(O.map (·.1)).Nodup) {i j:Nat} {p r:ac×SO} (hi:O[i]? =some p) (hj:O[j]? =some r) (e:r.1=p.1):j=i:=by
 have a:(O.map (·.1))[i]? =some p.1:=by rw [vh,hi];rfl
 have c:(O.map (·.1))[j]? =some p.1:=by rw [vh,hj,<-e];rfl
 exact (List.getElem?_inj (iN.mp c).1 h).mp (c.trans a.symm)
structure lP (P:aB) (led:Led) (mu:List ac) (O S:List (ac×SO)):Prop where
 o:∀p∈O,p.1∈mu/\(p.1,p.2.obj P)∈led
 d:(O.map (·.1)).Nodup
 s:∀p∈S,(p.1,p.2.obj P)∈led/\fk (p.2.obj P)=0
 k:∀p∈O++S,gr (lg O S) p.2
theorem um {P:aB} {NN:Led} {O S:List (ac×SO)} (h:∀p∈S,(p.1,p.2.obj P)∈NN):∀e∈lg O S,e.f=false->(e.a,e.o.obj P)∈NN:=λe he hf=>by
 obtain ⟨i,hi⟩:=pc.mp he
 rcases wE hi with⟨p,z,rfl⟩|⟨p,hp,rfl⟩
 ·cases hf
 ·exact h p hp
theorem lP.v {P:aB} {led:Led} {mu:List ac} {O S:List (ac×SO)} (f:lP P led mu O S) (hz:∀p∈led,fk p.2=0->p∈bT mu led):∀p∈S,(p.1,p.2.obj P)∈bT mu led:=λp hp=>hz _ (f.s p hp).1 (f.s p hp).2
inductive JF (w:ah) (d:Nd) (b D:Nat) (led:Led) (v:aa) (mu:List ac):Prop where
 |mk (tab:List (Nat×Spec)) (G:Cfg) (O S:List (ac×SO)) (sv:SV) (h1:sv.val=v) (h2:aX (lg O S) sv) (h3:lP w.params led mu O S) (h4:jh w (bT mu led) D G) (h5:iG w (bT mu led) D tab) (h6:((∀p∈led,fk p.2=0->p∈bT mu led)-> ∀tk,(Ev.jf (KK w.params) tab G [] 99).fh (sS (dH 90)) b (y7 (sB (dH 90))) ⟨[(sO "node",sv)],lg O S,i4 led mu O,tk⟩ (Ju w.params (bT mu led) (i4 led mu O) d v mu))):JF w d b D led v mu
theorem wF {x:Nat}:1+(20+10*x)<=14+10*(x+1):=by omega
theorem rQ {w:ah} {d:Nd} (b D:Nat) (Ds:b+D<=14+10*(ht d+1)) (h:∀led v mu,ND w.params led d v mu->mu.Nodup->JF w d b D led v mu):hX w d:=Jy b D Ds λled v mu hN bn im=>by
 obtain ⟨tab,G,O,S,sv,h1,h2,f,h4,h5,h6⟩:=h led v mu hN bn
 have hz:∀p∈led,fk p.2=0->p∈bT mu led:=λp hp h0=>gG hp (im p hp h0)
 refine ⟨tab,G,lg O S,i4 led mu O,sv,_,h1,h2,h4,h5,⟨λi e he hf=> ?_,λy y y y y h=>(nomatch h),λi e he hf=>ay _ (um (f.v hz) e (et he) hf),λp hp r hr e=>(iY hr).2 (e▸(za hp).2.1),λi e he=> ?_⟩,λe he hf=> ?_,λp hp=>⟨(za hp).1,(za hp).2.1⟩,λa ha=> ?_,λy y h=>h,h6 hz⟩
 ·rcases wE he with⟨p,hp,rfl⟩|⟨z,z,rfl⟩
  ·refine ⟨λr hr e=>(aM.mp hr).elim (λhr=>(za hr).2.2 (e▸ew.mpr ⟨p,et hp,rfl⟩)) λhr=>(iY hr).2 (e▸(f.o p (et hp)).1),λj e' wm e=> ?_⟩
   rcases wE wm with⟨p',kl,rfl⟩|⟨p',kl,rfl⟩
   ·exact RJ f.d hp kl e
   ·exact absurd (show p'.1∈mu from(show p'.1=p.1 from e)▸(f.o p (et hp)).1) (im _ (f.s p' kl).1 (f.s p' kl).2)
  ·cases hf
 ·rcases wE he with⟨p,hp,rfl⟩|⟨p,hp,rfl⟩
  ·exact f.k p (aq _ (et hp))
  ·exact f.k p (ay _ hp)
 ·obtain ⟨i,hi⟩:=pc.mp he
  rcases wE hi with⟨p,hp,rfl⟩|⟨z,z,rfl⟩
  ·exact f.o p (et hp)
  ·cases hf
 ·by_cases e:a∈O.map (·.1)
  ·obtain ⟨p,hp,rfl⟩:=ew.mp e
   exact .inl ⟨⟨p.1,p.2,true⟩,aq _ (ew.mpr ⟨p,hp,rfl⟩),rfl,rfl⟩
  ·obtain ⟨o,ho⟩:=ND.adr d v mu hN a ha
   exact .inr ⟨o,zb ho ha e⟩
def zc (P:aB) (NN:Led) (l:List Nd) (q:ac) (us:List SV) (ms:List ac) (i:Nat) (V:List LE) (oth:Led) (Z:List LE->Led->af->Prop):Prop:=JB P NN l (vals us) ms V oth/\
 ∀fC v n1 dy tk,wD P NN l q (vals us) ms V (setAt V i (.lst ((vals us++[v]).map SV.ag) n1)) oth fC v n1 dy->Z (setAt V i (.lst ((vals us++[v]).map SV.ag) n1)) fC tk
theorem uo {P:aB} {led:Led} {mu:List ac} {O:List (ac×SO)} {l:List Nd} {q:ac} {us:List SV} {vs:List aa} {ms:List ac} {i:Nat} {V:List LE} {Z:List LE->Led->af->Prop} (hu:vals us=vs) (hN:aP P led l vs ms) (hd:ms.Nodup)
  (zd:∀a∈ms,a∈mu/\a∉O.map (·.1)) (hz:∀p∈led,fk p.2=0->p∈bT mu led) (hv:∀e∈V,e.f=false->(e.a,e.o.obj P)∈bT mu led)
  (hZ:∀fC v n1 dy tk,wD P (bT mu led) l q vs ms V (setAt V i (.lst ((vs++[v]).map SV.ag) n1)) (i4 led mu O) fC v n1 dy->Z (setAt V i (.lst ((vs++[v]).map SV.ag) n1)) fC tk):zc P (bT mu led) l q us ms i V (i4 led mu O) Z:=by
 subst hu
 exact ⟨⟨aP.keep (M:=ms) (λp hp hk=>ay _ (hk.elim (λh=>ay _ (hz p hp h)) λh=>aq _ (zb hp (zd _ h).1 (zd _ h).2))) _ _ _ (λz h=>h) hN,hd,λa ha=>(aP.adr _ _ _ hN a ha).imp λo h=>zb h (zd a ha).1 (zd a ha).2,hv⟩,hZ⟩
theorem ze {P:aB} {led:Led} {q:ac} {vs:Array aa} {n:Nat} (h:(q,(⟨.type "list",none,.seq vs n,#[]⟩:av))∈led):(q,(SO.lst (vs.toList.map SV.ag) n).obj P)∈led:=by
 show(q,(⟨.type "list",none,.seq (vals (vs.toList.map SV.ag)).toArray n,#[]⟩:av))∈led
 rw [fM]
 exact h
theorem Dv {a:ac}:[a].Nodup:=fY.mpr ⟨Ay,sJ⟩
theorem wD.f {P:aB} {NN:Led} {l:List Nd} {q:ac} {vs:List aa} {ms:List ac} {led iI:List LE} {oth fC:Led} {v:aa} {n:Nat} {dy:List ac} (R:wD P NN l q vs ms led iI oth fC v n dy):(q,(⟨.type "list",none,.seq (vs++[v]).toArray n,#[]⟩:av))∈bo P iI++(fC++NN):=(aM.mp R.q).elim (λh=>aq _ h) λh=>ay _ (aq _ h)
theorem iK {a c d:Led} {p:ac×av} (h:p∈d):p∈a++(c++d):=ay _ (ay _ h)
noncomputable def uq (t u:Nat) (a c:ac):List LE:=[⟨a,.tup [.lit (.int 2 t),.lit (.int 3 (t+1))] 0,true⟩,⟨c,.tup [.lit (.int 2 u),.lit (.int 3 (u+1)),.lit (.int 10 (u+2)),.lit (.int 11 (u+3)),.lit (.int 14 (u+4))] 0,true⟩]
theorem wG {P:aB} {NN:Led} {V:List LE} {t u:Nat} {a c:ac} (h:∀e∈V,e.f=false->(e.a,e.o.obj P)∈NN):∀e∈V++uq t u a c,e.f=false->(e.a,e.o.obj P)∈NN:=λe he hf=>(aM.mp he).elim (λhe=>h e he hf) λhe=>by
 rcases bj.mp he with rfl|he
 ·cases hf
 ·rw [bN.mp he] at hf;cases hf
theorem zf {q:ac} {ms:List ac} (h:(q::ms).Nodup):∀a∈ms,a∈q::ms/\a∉[q]:=λa ha=>⟨.tail _ ha,λe=>(fY.mp h).1 (bN.mp e▸ha)⟩
theorem Dw {p q:ac} {ms:List ac} (h:(p::q::ms).Nodup):∀a∈ms,a∈p::q::ms/\a∉[q,p]:=λa ha=>⟨.tail _ (.tail _ ha),λe=>(bj.mp e).elim (λe=>(fY.mp (fY.mp h).2).1 (e▸ha)) λe=>(fY.mp h).1 (bN.mp e▸ .tail _ ha)⟩
theorem JG {p q:ac} {ms:List ac} (h:(p::q::ms).Nodup):[q,p].Nodup:=fY.mpr ⟨λe=>(fY.mp h).1 (bN.mp e▸ .head _),Dv⟩
theorem jU {q:ac} {ms dy:List ac} (h:∀a∈dy,a∈ms):∀a∈q::dy,a∈q::ms:=bU.mpr ⟨.head _,λa ha=>.tail _ (h a ha)⟩
theorem pU {V:List LE}:∀e∈([]:List (ai×af×SV)),aX V e.2.2:=λz h=>nomatch h
theorem gv {V:List LE} {x:ai} {t:af} {v:aa} {es:List (ai×af×SV)} (h:∀e∈es,aX V e.2.2):∀e∈(x,t,.ag v)::es,aX V e.2.2:=bU.mpr ⟨trivial,h⟩
theorem Dx {V:List LE} {x:ai} {t:af} {v:aa} {es:List (ai×af×SV)} (h:∀e∈es,aX V e.2.2):∀e∈(x,t,.lit v)::es,aX V e.2.2:=bU.mpr ⟨trivial,h⟩
theorem oG {V:List LE} {x:ai} {t:af} {i:Nat} {a:ac} {o:SO} {f:Bool} {es:List (ai×af×SV)} (h0:V[i]? =some ⟨a,o,f⟩) (h:∀e∈es,aX V e.2.2):∀e∈(x,t,.own i a)::es,aX V e.2.2:=bU.mpr ⟨⟨_,h0,rfl⟩,h⟩
theorem RK {P:aB} {led:List LE} {j:Nat} {e:LE} {o:SO} {r:Led} {M:List ac} {n:Nat} (h:led[j]? =some e) (h1:fk (e.o.obj P)=n+1) (h2:e.a∉M):∀p∈bo P led++r,(fk p.2=0\/p.1∈M)->p∈bo P (setAt led j o)++r:=λp hp hk=>(aM.mp hp).elim (λhp=>by
 obtain ⟨i,e',he,rfl⟩:=ki hp
 obtain ⟨e2,h3,h4,y,h5⟩:=yp (i:=j) (o:=o) he
 have ne:i≠j:=λq=>by
  rw [q,h] at he
  cases he
  exact hk.elim (λh0=>Al n (h1.symm.trans h0)) h2
 have z:=gF (P:=P) h3
 rw [h4,h5 ne] at z
 exact aq _ z) λhp=>ay _ hp
def JH (P:aB) (NN oth:Led) (d:Nd) (x:ac) (mu:List ac) (V:List LE) (o:Led) (_:af):Prop:=wC P NN oth d (.ref x) mu V o
def Dy (P:aB) (led:Led) (mu:List ac) (O S O':List (ac×SO)) (d:Nd) (x:ac) (l:List Nd) (q:ac) (vs:Array aa) (ms:List ac) (t u:af) (a c:ac):Prop:=
 zc P (bT mu led) l q (vs.toList.map SV.ag) ms 0 (lg O' S++uq t u a c) (i4 led mu O) (JH P (bT mu led) (i4 led mu O) (iX d) x mu)
noncomputable def qO (q:ac) (vs:Array aa) (n:Nat):ac×SO:=(q,.lst (vs.toList.map SV.ag) n)
noncomputable def JI (e:E_):List (ac×SO):=[(e.a 1,.dict [(sO "items",e.a 2,.own 0 (e.a 11))] 1),(e.a 0,.inst 550 1 (e.a 1))]
theorem RM (w:ah) (l:List Nd) (IH:k6 w l):hX w (.eR l):=rQ 0 (20+10*bR l) (aI (lC (da 1) _) wF) λled v mu hN bn=>by
 obtain ⟨e,rfl,f1,f2,f3,f4,f5,f6⟩:=hN
 obtain rfl:=f6.trans f5
 have hf:lP w.params led ((e.a 11)::e.cQ) [qO (e.a 11) e.cU e.dJ] (JI e):=⟨eM.mpr ⟨.head _,ze f3⟩,Dv,bU.mpr ⟨⟨f2,rfl⟩,eM.mpr ⟨f1,rfl⟩⟩,bU.mpr ⟨jk,bU.mpr ⟨eM.mpr ⟨_,rfl,rfl⟩,eM.mpr ⟨_,rfl,rfl⟩⟩⟩⟩
 refine ⟨[(983,rP w.params (bT ((e.a 11)::e.cQ) led) l e.cQ)],Cfg.none,_,_,.own 2 (e.a 0),rfl,⟨_,rfl,rfl⟩,hf,Cfg.gI,ey (uk IH (cS _)) iS,λhz tk=> ?_⟩
 have g:∀a c,Dy w.params led ((e.a 11)::e.cQ) [qO (e.a 11) e.cU e.dJ] (JI e) [qO (e.a 11) e.cU e.dJ] (.eR l) (e.a 0) l (e.a 11) e.cU e.cQ (tk+1) (tk+4) a c:=λa c=>
  uo (fM _) f4 (fY.mp bn).2 (zf bn) hz (wG (um (hf.v hz))) λfC v n1 dy z R=>⟨⟨(e.a 11)::dy,⟨{e with ml:=_,cU:=(e.cU.toList++[v]).toArray,dJ:=n1,cQ:=dy},rfl,iK (hz _ f1 rfl),iK (hz _ f2 rfl),R.f,R.n,rfl,rfl⟩,jU R.m⟩,R.c⟩
 exact fQ (by kernel_rfl) g
noncomputable def JJ (e:E_) (k sz d c:Int):List (ac×SO):=[(e.a 1,.dict [(sO "number",e.a 2,.ag (.int k (e.a 8))),(sO "size",e.a 3,.ag (.int sz (e.a 9))),(sO "depth",e.a 4,.ag (.int d (e.a 10))),(sO "top",e.a 5,.ag (.ref (e.a 13))),(sO "cost",e.a 6,.ag (.int c (e.a 12))),(sO "items",e.a 7,.own 0 (e.a 11))] 6),(e.a 0,.inst 529 1 (e.a 1))]
theorem RN (w:ah) (k sz d:Int) (g:Gl) (c:Int) (l:List Nd) (IH:k6 w l):hX w (.ins k sz d g c l):=rQ 0 (20+10*bR l) (aI (lC (da 1) _) wF) λled v mu hN bn=>by
 obtain ⟨e,rfl,f1,f2,fg,f3,f4,f5,f6⟩:=hN
 obtain rfl:=f6.trans f5
 have hf:lP w.params led ((e.a 11)::e.cQ) [qO (e.a 11) e.cU e.dJ] (JJ e k sz d c):=⟨eM.mpr ⟨.head _,ze f3⟩,Dv,bU.mpr ⟨⟨f2,rfl⟩,eM.mpr ⟨f1,rfl⟩⟩,bU.mpr ⟨jk,bU.mpr ⟨gv (gv (gv (gv (gv (oG rfl pU))))),eM.mpr ⟨_,rfl,rfl⟩⟩⟩⟩
 refine ⟨[(983,rP w.params (bT ((e.a 11)::e.cQ) led) l e.cQ)],Cfg.none,_,_,.own 2 (e.a 0),rfl,⟨_,rfl,rfl⟩,hf,Cfg.gI,ey (uk IH (cS _)) iS,λhz tk=> ?_⟩
 have g:∀a b,Dy w.params led ((e.a 11)::e.cQ) [qO (e.a 11) e.cU e.dJ] (JJ e k sz d c) [qO (e.a 11) e.cU e.dJ] (.ins k sz d g c l) (e.a 0) l (e.a 11) e.cU e.cQ (tk+1) (tk+4) a b:=λa b=>
  uo (fM _) f4 (fY.mp bn).2 (zf bn) hz (wG (um (hf.v hz))) λfC v n1 dy z R=>⟨⟨(e.a 11)::dy,⟨{e with ml:=_,cU:=(e.cU.toList++[v]).toArray,dJ:=n1,cQ:=dy},rfl,iK (hz _ f1 rfl),iK (hz _ f2 rfl),GL.keep (M:=[]) (λp hp hk=>iK (hz p hp (hk.resolve_right λh=>nomatch h))) fg,R.f,R.n,rfl,rfl⟩,jU R.m⟩,R.c⟩
 exact fQ (by kernel_rfl) g
noncomputable def Dz (e:E_) (k fO h d sh sg od:Int) (u:af):SO:=.dict [(sO "kind",e.a 2,.lit (.int k (e.a 16))),(sO "width",e.a 3,.ag (.int fO (e.a 17))),(sO "height",e.a 4,.ag (.int h (e.a 18))),(sO "depth",e.a 5,.ag (.int d (e.a 19))),(sO "items",e.a 6,.own 0 (e.a 11)),(sO "shift",e.a 7,.lit (.int sh u)),(sO "sign",e.a 8,.ag (.int sg (e.a 20))),(sO "order",e.a 9,.ag (.int od (e.a 21))),(sO "ratio",e.a 10,.ag (.ref (e.a 12)))] 9
theorem RO (w:ah) (k fO h d sh sg od r r2:Int) (l:List Nd) (wH:k=2\/k=3) (IH:k6 w l):hX w (.box k fO h d sh sg od r r2 l):=rQ 0 (20+10*bR l) (aI (lC (da 1) _) wF) λled v mu hN bn=>by
 obtain ⟨e,rfl,f1,f2,f3,f4,f5,f6,f7⟩:=hN
 rw [f5] at f7
 subst f7
 have hf:lP w.params led ((e.a 1)::(e.a 11)::e.cQ) [qO (e.a 11) e.cU e.dJ,(e.a 1,Dz e k fO h d sh sg od e.u)] [(e.a 0,.inst 381 1 (e.a 1))]:=⟨bU.mpr ⟨⟨.tail _ (.head _),ze f3⟩,eM.mpr ⟨.head _,f2⟩⟩,JG bn,eM.mpr ⟨f1,rfl⟩,bU.mpr ⟨jk,bU.mpr ⟨Dx (gv (gv (gv (oG rfl (Dx (gv (gv (gv pU)))))))),eM.mpr ⟨_,rfl,rfl⟩⟩⟩⟩
 refine ⟨[(983,rP w.params (bT ((e.a 1)::(e.a 11)::e.cQ) led) l e.cQ)],Cfg.none,_,_,.own 2 (e.a 0),rfl,⟨_,rfl,rfl⟩,hf,Cfg.gI,ey (uk IH (cS _)) iS,λhz tk=> ?_⟩
 have g:∀a c,Dy w.params led ((e.a 1)::(e.a 11)::e.cQ) [qO (e.a 11) e.cU e.dJ,(e.a 1,Dz e k fO h d sh sg od e.u)] [(e.a 0,.inst 381 1 (e.a 1))] [qO (e.a 11) e.cU e.dJ,(e.a 1,Dz e k fO h d (sh+1) sg od (tk+5))] (.box k fO h d sh sg od r r2 l) (e.a 0) l (e.a 11) e.cU e.cQ (tk+1) (tk+9) a c:=λa c=>
  uo (fM _) f4 (fY.mp (fY.mp bn).2).2 (Dw bn) hz (wG (um (hf.v hz))) λfC v n1 dy z R=>⟨⟨(e.a 1)::(e.a 11)::dy,⟨{e with u:=tk+5,ml:=_,cU:=(e.cU.toList++[v]).toArray,dJ:=n1,cQ:=dy},rfl,iK (hz _ f1 rfl),aq _ (.tail _ (.head _)),R.f,R.n,rfl,iK (hz _ f6 rfl),rfl⟩,jU (jU R.m)⟩,R.c⟩
 clear f1 f2 f3 f4 f6
 rcases wH with rfl|rfl<;>exact fQ (by kernel_rfl) g
noncomputable def wI (e:E_) (n:Int) (u:af):SO:=.dict [(sO "natural",e.a 0,.lit (.int n u)),(sO "stretch",e.a 1,.ag (.ref (e.a 5))),(sO "shrink",e.a 2,.ag (.ref (e.a 6)))] 3
noncomputable def JK (e:E_) (fO h d sp:Int) (iv:Bool):List (ac×SO):=[(e.a 14,.inst 281 1 (e.a 15)),(e.a 1,.dict [(sO "width",e.a 2,.ag (.int fO (e.a 9))),(sO "height",e.a 3,.ag (.int h (e.a 10))),(sO "depth",e.a 4,.ag (.int d (e.a 12))),(sO "items",e.a 5,.own 0 (e.a 11)),(sO "spans",e.a 6,.ag (.int sp (e.a 13))),(sO "totals",e.a 7,.own 2 (e.a 14)),(sO "is_vertical",e.a 8,.ag (.bool iv))] 7),(e.a 0,.inst 677 3 (e.a 1))]
theorem RP (w:ah) (fO h d sp n st:Int) (iv:Bool) (l:List Nd) (IH:k6 w l):hX w (.unset fO h d sp n st iv l):=rQ 1 (20+10*bR l) wF λled v mu hN bn=>by
 obtain ⟨e,rfl,f1,f2,f3,f4,f5,⟨y,g1,g2,g3,g4⟩,f7⟩:=hN
 rw [f5] at f7
 subst f7
 have hf:lP w.params led ((e.a 15)::(e.a 11)::e.cQ) [qO (e.a 11) e.cU e.dJ,(e.a 15,wI y n y.u)] (JK e fO h d sp iv):=⟨bU.mpr ⟨⟨.tail _ (.head _),ze f3⟩,eM.mpr ⟨.head _,g2⟩⟩,JG bn,bU.mpr ⟨⟨g1,rfl⟩,bU.mpr ⟨⟨f2,rfl⟩,eM.mpr ⟨f1,rfl⟩⟩⟩,bU.mpr ⟨jk,bU.mpr ⟨Dx (gv (gv pU)),bU.mpr ⟨⟨_,rfl,rfl⟩,bU.mpr ⟨gv (gv (gv (oG rfl (gv (oG rfl (gv pU)))))),eM.mpr ⟨_,rfl,rfl⟩⟩⟩⟩⟩⟩
 refine ⟨[(983,rP w.params (bT ((e.a 15)::(e.a 11)::e.cQ) led) l e.cQ)],Cfg.none,_,_,.own 4 (e.a 0),rfl,⟨_,rfl,rfl⟩,hf,Cfg.gI,ey (uk IH (cS _)) iS,λhz tk=> ?_⟩
 have g:∀a c,zc w.params (bT ((e.a 15)::(e.a 11)::e.cQ) led) l (e.a 11) (e.cU.toList.map SV.ag) e.cQ 0 (lg [qO (e.a 11) e.cU e.dJ,(e.a 15,wI y n y.u)] (JK e fO h d sp iv)++uq (tk+1) (tk+4) a c) (i4 led ((e.a 15)::(e.a 11)::e.cQ) [qO (e.a 11) e.cU e.dJ,(e.a 15,wI y n y.u)]) λV o tk=>wC w.params (bT ((e.a 15)::(e.a 11)::e.cQ) led) (i4 led ((e.a 15)::(e.a 11)::e.cQ) [qO (e.a 11) e.cU e.dJ,(e.a 15,wI y n y.u)]) (iX (.unset fO h d sp n st iv l)) (.ref (e.a 0)) ((e.a 15)::(e.a 11)::e.cQ) (setAt V 1 (wI y (n+1) (tk+7))) o:=λa c=>
  uo (fM _) f4 (fY.mp (fY.mp bn).2).2 (Dw bn) hz (wG (um (hf.v hz))) λfC v n1 dy bQ R=>have ks:=RK (M:=(e.a 11)::dy) (j:=1) rfl rfl λhm=>(fY.mp bn).1 (jU R.m _ hm);⟨⟨(e.a 15)::(e.a 11)::dy,⟨{e with ml:=_,cU:=(e.cU.toList++[v]).toArray,dJ:=n1,cQ:=dy},rfl,iK (hz _ f1 rfl),iK (hz _ f2 rfl),ks _ R.f (.inr (.head _)),aP.keep (M:=(e.a 11)::dy) ks _ _ _ (λz h=>.tail _ h) R.n,rfl,⟨{y with u:=bQ+7},iK (hz _ g1 rfl),aq _ (.tail _ (.head _)),iK (hz _ g3 rfl),iK (hz _ g4 rfl)⟩,rfl⟩,jU (jU R.m)⟩,R.c⟩
 exact fQ (by kernel_rfl) g
end
section
noncomputable def RQ:(e:az)->Option (PSigma λd:(az×ai)×(aW×aW)=>e= .Call (.Attribute d.1.1 d.1.2 d.2.1) [] [] d.2.2)
 | .Call (.Attribute o x ap) [] [] p=>some ⟨((o,x),(ap,p)),rfl⟩
 |_=>none
noncomputable def JL (P:aB) (H:Hint):XS:=λr cs b e st k=>oE (RQ e)
 (λd=>bK (isAt d.1.1.1&&(decide (d.1.1.2=sO "clear")&&ej d.1.2.1.endLine d.1.2.2.line)) (r.ev cs b d.1.1.1 st λv st=>oK (fi v) λi=>oK st.led[i]? λe=>oK (jM e.o) λl=>bK (e.f&&(!l.1.isEmpty&&gH l.1.length 1000)) (k (.lit .none) {st with led:=setAt st.led i (.lst [] (l.2+1))})))
 (fR (KK P) Cfg.none r cs b H e st k)
theorem RT {w:ah} {NN:Led} {D:Nat} {H:Hint}:fj w NN D (JL w.params H):=by
 intro r I c b e st k s Q E O R h q
 refine eg h (λd j h=> ?_) λj h=> ?_
 ·refine bv h λh1 h=> ?_
  refine cR h1 λh1 h2=> ?_
  refine cR h2 λh2 h3=> ?_
  rw [d.2,cJ h2]
  refine MethodCall_ (I.ev O R h λv ao s' N ok hk=> ?_) (BH (args:=[]) h1 rfl rfl h3)
  refine aJ hk λi e1 hk=> ?_
  refine aJ hk λe e2 hk=> ?_
  obtain ⟨⟨us,n⟩,e3,hk⟩:=gQ hk
  refine bv hk λh4 hk=> ?_
  refine cR h4 λh4 h5=> ?_
  refine cR h5 λh5 h6=> ?_
  have eu:=kQ e3
  rw [bW SV.val (gn e1 e2 ok)]
  obtain ⟨U,hx,z⟩:=N.rep.set (o:=.lst [] (n+1)) e2 h4 (by rw [eu];rfl) rfl λy hy=>nomatch hy
  rw [eu] at U
  have m:(e.a,(⟨.type "list",none,.seq (vals us).toArray n,#[]⟩:av))∈all w c ao:=by
   have:=fJ (w:=w) (c:=c) e2
   rw [eu] at this
   exact this
  refine kl_method N.rep.nw m PySem.F.slot_list_clear PySem.F.type_list_clear (callWith_method0 (env:=c.ee) ?_)
  have hl:(vals us).toArray.toList.length=us.length:=eh us
  refine kl_clear N.rep.fr N.rep.nw U (λh0=> ?_) (by rw [hl];exact aI (dB h6) (by decide)) λh' F' N'=>q (.lit .none) _ _ ⟨z h' s'.toks ao.tk N.rep.tk F' N',N.ext.trans hx,N.loc⟩ trivial hk
  cases us with
  |nil=>cases h5
  |cons=>exact nomatch hl.symm.trans h0
 ·exact gi I ez O R h q
structure DA (P:aB) (L:Led) (a:ac) (kd:Int):Prop where
 h:∃(d:ac) (es:List l5) (n:Nat) (t:af),(a,cV 381 d)∈L/\(d,cY es n)∈L/\getL (sO "kind") es=some (some (.int kd t))
noncomputable def RU:(e:az)->Option (PSigma λd:az×(ai×aW)=>e= .Attribute d.1 d.2.1 d.2.2)
 | .Attribute o x p=>some ⟨(o,(x,p)),rfl⟩
 |_=>none
noncomputable def JM (P:aB) (NN:Led) (kd:Int) (H:Hint):XS:=λr cs b e st k=>oE (RU e)
 (λd=>bE (decide (d.1.2.1=sO "kind")&&(isAt d.1.1&&yb (KK P) 381 (sO "kind"))) (r.ev cs b d.1.1 st λv st=>oK (fi v) λi=>oK st.led[i]? λe=>DA P (st.oth++NN) e.a kd/\ ∀t,k (.lit (.int kd t)) (st.tick 1)) (fR (KK P) Cfg.none r cs b H e st k))
 (fR (KK P) Cfg.none r cs b H e st k)
theorem RV {w:ah} {NN:Led} {D:Nat} {kd:Int} {H:Hint}:fj w NN D (JM w.params NN kd H):=by
 intro r I c b e st k s Q E O R h q
 refine eg h (λd z h=> ?_) λz h=> ?_
 ·refine mM h (λh1 h=> ?_) λh=> ?_
  ·refine cR h1 λh1 h2=> ?_
   refine cR h2 λh2 h3=> ?_
   rw [d.2,cJ h1]
   refine Attribute_any_ (I.ev O R h λv ao s' N ok hk=> ?_) (GV h2)
   refine aJ hk λi e1 hk=> ?_
   refine aJ hk λe e2 hk=> ?_
   obtain ⟨⟨dx,es,n,t,m1,m2,hg⟩,aV⟩:=hk
   have hn:=O.hn
   subst hn
   rw [bW SV.val (gn e1 e2 ok)]
   obtain ⟨q1,q2,at',q3,q4⟩:=BB h3
   exact get_own N.rep.fr O.X ⟨(N.rep.nw _ (kO m1)).1,rfl,rfl,(N.rep.nw _ (kO m2)).1⟩ q1 q2 q3 q4 hg rfl (q (.lit (.int kd t)) _ _ (N.trans (vZ N.rep 1)) trivial (aV t))
  ·exact gi I ez O R h q
 ·exact gi I ez O R h q
noncomputable def zg (e:E_) (u1 u2 u3:List SV) (n1 n2 n3:Nat):List (ac×SO):=[(e.a 5,.lst u1 n1),(e.a 6,.lst u2 n2),(e.a 7,.lst u3 n3)]
noncomputable def JN (e:E_):List (ac×SO):=[(e.a 1,.dict [(sO "pre",e.a 2,.own 0 (e.a 5)),(sO "post",e.a 3,.own 1 (e.a 6)),(sO "middle",e.a 4,.own 2 (e.a 7))] 3),(e.a 0,.inst 487 3 (e.a 1))]
theorem JO {vs:Array aa} {l:List Nd} {P:aB} {led:Led} {ms:List ac} (h:aP P led l vs.toList ms) (n:l.length=1):∃a,vs= #[a]:=by
 obtain ⟨vs⟩:=vs
 rcases vs with z|⟨a,z|z⟩
 ·cases (aP.len h).trans n
 ·exact ⟨a,rfl⟩
 ·cases (aP.len h).trans n
theorem RW {vs:Array aa} {l:List Nd} {P:aB} {led:Led} {ms:List ac} (h:aP P led l vs.toList ms) (n:l.length=2):∃a b,vs= #[a,b]:=by
 obtain ⟨vs⟩:=vs
 rcases vs with z|⟨a,z|⟨b,z|z⟩⟩
 ·cases (aP.len h).trans n
 ·cases (aP.len h).trans n
 ·exact ⟨a,b,rfl⟩
 ·cases (aP.len h).trans n
theorem RX (w:ah) (la lb lc:List Nd) (n1:la.length=1) (n2:lb.length=1) (n3:lc.length=2):hX w (.dX la lb lc):=rQ 0 0 (by omega) λled v mu hN bn=>by
 obtain ⟨e,rfl,f1,f2,f3,f4,f5,f6,f7,f8,f9,JP,JQ,DC⟩:=hN
 rw [f5,f8,JQ] at DC
 obtain ⟨a1,e1⟩:=JO f4 n1
 obtain ⟨a2,e2⟩:=JO f7 n2
 obtain ⟨a3,a4,e3⟩:=RW JP n3
 rw [e1] at f3
 rw [e2] at f6
 rw [e3] at f9
 have hs:List.Sublist [e.a 5,e.a 6,e.a 7] mu:=DC▸ .cons_cons (e.a 5) ((Fg (e.a 6) ((Fg (e.a 7) (List.nil_sublist _)).trans (List.sublist_append_right _ _))).trans (List.sublist_append_right _ _))
 clear f4 f5 f7 f8 JP JQ DC e1 e2 e3
 have hf:lP w.params led mu (zg e [.ag a1] [.ag a2] [.ag a3,.ag a4] e.dJ e.mw e.mx) (JN e):=⟨bU.mpr ⟨⟨hs.subset (.head _),f3⟩,bU.mpr ⟨⟨hs.subset (.tail _ (.head _)),f6⟩,eM.mpr ⟨hs.subset (.tail _ (.tail _ (.head _))),f9⟩⟩⟩,hs.nodup bn,bU.mpr ⟨⟨f2,rfl⟩,eM.mpr ⟨f1,rfl⟩⟩,bU.mpr ⟨jk (us:=[a1]),bU.mpr ⟨jk (us:=[a2]),bU.mpr ⟨jk (us:=[a3,a4]),bU.mpr ⟨oG rfl (oG rfl (oG rfl pU)),eM.mpr ⟨_,rfl,rfl⟩⟩⟩⟩⟩⟩
 refine ⟨[],⟨[((613,16),JL w.params [])],Cfg.none.rd,Cfg.none.iv,[]⟩,_,_,.own 4 (e.a 0),rfl,⟨_,rfl,rfl⟩,hf,⟨ez,pL,dZ RT km⟩,iS,λhz tk=> ?_⟩
 have g:∀(a c y:ac) (_ _ _ _:af),wC w.params (bT mu led) (i4 led mu (zg e [.ag a1] [.ag a2] [.ag a3,.ag a4] e.dJ e.mw e.mx)) (.dX [] [] []) (.ref (e.a 0)) mu (lg (zg e [] [] [] (e.dJ+1) (e.mw+1) (e.mx+1)) (JN e)++(uq (tk+1) (tk+4) a c++[⟨y,.tup [.own 0 (e.a 5),.own 1 (e.a 6),.own 2 (e.a 7)] 0,true⟩])) (i4 led mu (zg e [.ag a1] [.ag a2] [.ag a3,.ag a4] e.dJ e.mw e.mx)):=λa c y z z z z=>
  ⟨⟨[e.a 5,e.a 6,e.a 7],⟨{e with ml:=[e.a 5],m2:=[e.a 6],m3:=[e.a 7],cU:=#[],dJ:=e.dJ+1,cQ:=[],qE:=#[],mw:=e.mw+1,qD:=[],qG:=#[],mx:=e.mx+1,qF:=[]},rfl,iK (hz _ f1 rfl),iK (hz _ f2 rfl),aq _ (.head _),⟨rfl,rfl⟩,rfl,aq _ (.tail _ (.head _)),⟨rfl,rfl⟩,rfl,aq _ (.tail _ (.tail _ (.head _))),⟨rfl,rfl⟩,rfl,rfl⟩,hs.subset⟩,λr hr=>⟨r.2,hr⟩⟩
 exact fQ (by kernel_rfl) g
noncomputable def DD (e:E_) (k:Int) (i:Nat):List (ac×SO):=[(e.a 1,.dict [(sO "glue",e.a 2,.ag (.ref (e.a 13))),(sO "sort",e.a 3,.ag (.int k (e.a 12))),(sO "leader",e.a 4,.own i (e.a 5))] 3),(e.a 0,.inst 445 (i+1) (e.a 1))]
noncomputable def JR (e:E_) (y:E_) (k:Int):List (ac×SO):=(y.a 1,.dict [(sO "width",y.a 2,.ag y.wv),(sO "height",y.a 3,.ag y.hv),(sO "depth",y.a 4,.ag y.dv)] 3)::(e.a 5,.inst 402 0 (y.a 1))::DD e k 1
def JS (P:aB) (led:Led) (mu:List ac) (S:List (ac×SO)) (d:Nd) (x:ac) (l:List Nd) (us:List SV) (ms:List ac) (i:Nat) (t:af) (a c y:ac):Prop:=
 zc P (bT mu led) l y us ms i (lg [] S++(uq (t+1) (t+4) a c++[⟨y,.lst us 0,true⟩])) (i4 led mu []) (JH P (bT mu led) (i4 led mu []) d x mu)
theorem JT {P:aB} {led:Led} {mu:List ac} {S:List (ac×SO)} {t:af} {a c q:ac} {us:List SV} (hf:lP P led mu [] S) (hz:∀p∈led,fk p.2=0->p∈bT mu led):∀e∈lg [] S++(uq (t+1) (t+4) a c++[⟨q,.lst us 0,true⟩]),e.f=false->(e.a,e.o.obj P)∈bT mu led:=λy hy zh=>
 (aM.mp hy).elim (λhy=>um (hf.v hz) y hy zh) λhy=>(aM.mp hy).elim (λhy=>wG (V:=[]) (λz h=>nomatch h) y hy zh) λhy=>by rw [bN.mp hy] at zh;cases zh
theorem RY (w:ah) (g:Gl) (k:Int) (i1 i2 i3:Option Int) (IH:k6 w []):hX w (.lead g k (.rule i1 i2 i3)):=rQ 0 20 (by decide:20<=34) λled v mu hN bn=>by
 have RZ:=hN
 obtain ⟨e,rfl,f1,f2,f3,⟨y,e1,g1,g2,z,z,z,e2⟩,e3⟩:=hN
 obtain rfl:=e3.trans e2
 rw [<-Value.ref.inj e1] at g1
 have hf:lP w.params led [] [] (JR e y k):=⟨λj h=>(nomatch h),sJ,bU.mpr ⟨⟨g2,rfl⟩,bU.mpr ⟨⟨g1,rfl⟩,bU.mpr ⟨⟨f2,rfl⟩,eM.mpr ⟨f1,rfl⟩⟩⟩⟩,bU.mpr ⟨gv (gv (gv pU)),bU.mpr ⟨⟨_,rfl,rfl⟩,bU.mpr ⟨gv (gv (oG rfl pU)),eM.mpr ⟨_,rfl,rfl⟩⟩⟩⟩⟩
 refine ⟨[(983,rP w.params (bT [] led) [] [])],Cfg.none,_,_,.own 3 (e.a 0),rfl,⟨_,rfl,rfl⟩,hf,Cfg.gI,ey (uk IH (cS _)) iS,λhz tk=> ?_⟩
 have g:∀a c q,JS w.params led [] (JR e y k) (.lead g k (.rule i1 i2 i3)) (e.a 0) [] [] [] 6 tk a c q:=λa c q=>
  uo (vs:=[]) rfl ⟨rfl,rfl⟩ sJ (λj h=>nomatch h) hz (JT hf hz) λfC v n1 dy j R=>⟨⟨[],ND.keep (M:=[]) (λp hp hk=>iK (hz p hp (hk.resolve_right λh=>nomatch h))) _ _ _ (λj h=>h) RZ,λj h=>h⟩,R.c⟩
 exact fQ (by kernel_rfl) g
structure R0 (P:aB) (led:Led) (la db:ac) (mu:List ac) (bk:Int):Prop where
 m:db∈mu
 i:(la,cV 381 db)∈led
 d:∃(es:List l5) (n:Nat) (t:af),(db,cY es n)∈led/\getL (sO "kind") es=some (some (.int bk t))
theorem R7 (w:ah) (g:Gl) (k bk:Int) (b:Nd) (hs:iX (.lead g k b)= .lead g k (iX b)) (hb:∀led la mu,ND w.params led b (.ref la) mu-> ∃db,R0 w.params led la db mu bk) (wH:bk=2\/bk=3) (IH:k6 w [b]):hX w (.lead g k b):=rQ 0 (20+10*bR [b]) (aI (lC (da 1) _) (aI (wF (x:=max (ht b+1) 0)) (jq (ly 10 (dS (jZ.mpr ⟨cS _,da _⟩))) 14))) λled v mu hN bn=>by
 obtain ⟨e,rfl,f1,f2,f3,f4,f5⟩:=hN
 rw [<-f5] at f4
 obtain ⟨db,B⟩:=hb _ _ _ f4
 have hf:lP w.params led mu [] ((e.a 5,.raw (cV 381 db))::DD e k 0):=⟨λy h=>(nomatch h),sJ,bU.mpr ⟨⟨B.i,rfl⟩,bU.mpr ⟨⟨f2,rfl⟩,eM.mpr ⟨f1,rfl⟩⟩⟩,bU.mpr ⟨rfl,bU.mpr ⟨gv (gv (oG rfl pU)),eM.mpr ⟨_,rfl,rfl⟩⟩⟩⟩
 refine ⟨[(983,rP w.params (bT mu led) [b] mu)],⟨[((615,40),JM w.params (bT mu led) bk [])],Cfg.none.rd,Cfg.none.iv,[]⟩,_,_,.own 2 (e.a 0),rfl,⟨_,rfl,rfl⟩,hf,⟨ez,pL,dZ RV km⟩,ey (uk IH (cS _)) iS,λhz tk=> ?_⟩
 have kd:DA w.params (i4 led mu []++bT mu led) (e.a 5) bk:=B.d.elim λes h=>h.elim λn h=>h.elim λt h=>⟨db,es,n,t,ay _ (hz _ B.i rfl),aq _ (zb h.1 B.m λh=>nomatch h),h.2⟩
 have g:∀a c:ac,DA w.params (i4 led mu []++bT mu led) (e.a 5) bk/\ ∀(_:af) (q:ac),JS w.params led mu ((e.a 5,.raw (cV 381 db))::DD e k 0) (iX (.lead g k b)) (e.a 0) [b] [.own 0 (e.a 5)] mu 5 tk a c q:=λa c=>⟨kd,λy q=>
  uo (vs:=[.ref (e.a 5)]) rfl ⟨_,[],mu,[],rfl,(iy _).symm,f4,rfl,rfl⟩ bn (λa ha=>⟨ha,λh=>nomatch h⟩) hz (JT hf hz) λfC v n1 dy y R=>by
   obtain ⟨v',vr,m1,m2,e1,e2,h1,z⟩:=R.n
   cases e1
   refine ⟨⟨m1, ?_,λa ha=>R.m a (e2▸aq _ ha)⟩,R.c⟩
   rw [hs]
   exact ⟨{e with ml:=m1},rfl,iK (hz _ f1 rfl),iK (hz _ f2 rfl),GL.keep (M:=[]) (λp hp hk=>iK (hz p hp (hk.resolve_right λh=>nomatch h))) f3,h1,rfl⟩⟩
 clear kd B f4 hf
 rcases wH with rfl|rfl<;>exact fQ (by kernel_rfl) g
theorem R9 (w:ah) (g:Gl) (k:Int) (bk fO h d sh sg od r r2:Int) (i:List Nd) (wH:bk=2\/bk=3) (IH:k6 w [.box bk fO h d sh sg od r r2 i]):hX w (.lead g k (.box bk fO h d sh sg od r r2 i)):=R7 w g k bk _ rfl (λled la mu hN=>by
 obtain ⟨y,e,g1,g2,z,z,z,z,em⟩:=hN
 exact ⟨y.a 1,em▸ .head _,Value.ref.inj e▸g1,_,_,_,g2,rfl⟩) wH IH
end
section
local macro_rules | `(tactic| k_all) => `(tactic| assumption)
theorem Sa (w:ah) (n:Nat) (IH:∀ds,bR ds+1<=n->ds.length<=100->gD ds->k6 w ds):∀d,ht d+1<=n->CP d->hX w d
 | .char k c,z,y=>Rw w k c
 | .gP k c a b l r,z,y=>Rx w k c a b l r
 | .rule a b c,z,y=>Ry w a b c
 | .fy a b,z,y=>Rz w a b
 | .skip g k,z,y=>RA w g k
 | .lead g k l,hn,h=>by
  have hl:=h.2.2.1
  have eb:=h.2.2.2
  rcases hl with⟨a,b,c,rfl⟩|⟨k',a,b,c,sh,sg,od,r,r2,i,rfl⟩
  ·exact RY w g k a b c (IH [] (Ao hn) (da _) (trivial))
  ·exact R9 w g k k' a b c sh sg od r r2 i (Cm eb.1 eb.2.1) (IH _ (aI (dS (jZ.mpr ⟨cS _,da _⟩)) hn) (dB rfl) (dF eb trivial))
 | .dk v,z,y=>RB w v
 | .dX la lb lc,z,h=>by
  obtain ⟨⟨z,z,e1,z⟩,⟨z,z,e2,z⟩,⟨z,z,z,z,e3,z⟩⟩:=h
  exact RX w la lb lc (by rw [e1];rfl) (by rw [e2];rfl) (by rw [e3];rfl)
 | .mark a b,z,y=>RC w a b
 | .ins k sz d g c l,hn,h=>by
  exact RN w k sz d g c l (IH l hn h.2.2.2.2.2.2.2.2.1 h.2.2.2.2.2.2.2.2.2)
 | .eR l,hn,h=>by
  exact RM w l (IH l hn h.1 h.2)
 | .math b i,z,y=>RE w b i
 | .spec a b,z,y=>RF w a b
 | .unset a b c sp n st v l,hn,h=>by
  exact RP w a b c sp n st v l (IH l hn h.2.2.2.2.2.2.2.2.1 h.2.2.2.2.2.2.2.2.2)
 | .box k a b c sh sg od r r2 l,hn,h=>by
  have k1:=h.1
  have k2:=h.2.1
  exact RO w k a b c sh sg od r r2 l (Cm h.1 h.2.1) (IH l hn h.2.2.2.2.2.2.2.2.1 h.2.2.2.2.2.2.2.2.2)
theorem DE {h₀ h:bA} {L a:ac} {o:av} {r:Led} (_:aU h₀ L h ((a,o)::bT [a] r)):∀p∈bT [a] r,p.1≠a:=λp hp e=>(iY hp).2 (bN.mpr e)
theorem Kept.add {M:List ac} {nws led led':Led} {y:ac×av} (k:Kept M nws led led') (hy:∀r∈nws,r.1≠y.1):Kept M nws led (y::led'):=
 ⟨λp hp hk=>.tail _ (k.1 p hp hk),λr hr=>by
  obtain ⟨o,ho⟩:=k.2.1 r hr
  exact ⟨o,.tail _ ho⟩,λp hp=>by
  rcases bj.mp hp with rfl|hp
  ·exact .inr hy
  ·exact k.2.2 p hp⟩
theorem aP.next {P:aB} {led:Led}:∀{i:Nat} {ds:List Nd} {vs:List aa} {m2:List ac} {v:aa},aP P led (ds.drop i) (vs.drop i) m2->vs[i]? =some v-> ∃d md mr,ds[i]? =some d/\m2=md++mr/\ND P led d v md/\aP P led (ds.drop (i+1)) (vs.drop (i+1)) mr:=by
 intro i ds vs m2 v h hv
 obtain ⟨hi,hv⟩:=iN.mp hv
 have hl:i<ds.length:=by
  have:=aP.len h
  simp only [mh] at this
  omega
 rw [xA hi,xA hl] at h
 obtain ⟨v',vr,m1,mr,e1,e2,h1,h2⟩:=h
 obtain ⟨rfl,rfl⟩:=sT e1
 rw [hv] at h1
 exact ⟨_,m1,mr,qw hl,e2,h1,h2⟩
theorem JU:∀(l:List Nd) (d:Nd),eB (l++[d])=eB l++[iX d]
 |[],z=>rfl
 |a::l,d=>by
  show iX a::eB (l++[d])=iX a::(eB l++[iX d])
  rw [JU l d]
inductive JV (w:ah) (q:ac) (vs:Array aa) (nn:Nat) (ds:List Nd) (ms:List ac) (news led:Led) (i:Nat) (nw:Led):Prop
 |mk (led':Led) (m1 m2:List ac) (e:nw=led'++bT (q::ms) news) (hq:(q,(⟨.type "list",none,.seq vs nn,#[]⟩:av))∈led') (j1:aP w.params led' (eB (ds.take i)) (vs.toList.take i) m1) (j2:aP w.params led' (ds.drop i) (vs.toList.drop i) m2) (j3:(∀a∈m1,a∈ms)) (j4:(∀a∈m2,a∈ms)) (j5:(∀a∈m1,a∉m2)) (j6:m2.Nodup) (j7:Kept ms news led led'):JV w q vs nn ds ms news led i nw
theorem JW (w:ah) (n:Nat) (IH:∀ds,bR ds+1<=n->ds.length<=100->gD ds->k6 w ds) (ds:List Nd) (hn:bR ds<=n) (hlen:ds.length<=100) (hc:gD ds):k6 w ds:=by
 intro p loose bH mg mb dp un gd cn cs a bX cl outer A₀ base h₀ L m news s Q E led q vs nn ms aK hq hN bn B F X N T hk hd hu gb
 revert X;k_fill;intro X
 refine oX ?_
 k_dflt (refine' enter (K:=KK w.params) (binds:=[(aF "nodes",.ref q)]) (by k_asm) (by k_asm) (by k_asm) (by k_asm) (by k_asm) rfl rfl (by assumption) rfl (by k_is) (by ktr_room) (vp rfl) (locs rfl) rfl ?_ rfl rfl rfl (by decide);k_whole;intro z z z z z z z z z z;(try dsimp only);(try k_fold))
 k_steps
 rename Fr h₀ L _ _=>FG
 rename Fr _ _ _ _=>F5
 rename aU _ _ _ _=>N5
 rename fx _ _ _ _=>B5
 rename AM _ _=>X5
 rename Top _ _ _ _ _ _=>T5
 have N6:aU _ _ _ (led++bT (q::ms) news):=λp hp=>N5 p (by
  rcases aM.mp hp with hp|hp
  ·exact aK p hp
  ·exact (iY hp).1)
 obtain ⟨DG,Sb⟩:=fY.mp bn
 refine yA (vs:=vs) (n:=nn) (λi m₁ nw=>m₁ (aF "nodes")=some (.ref q)/\JV w q vs nn ds ms news led i nw)
  (by rfl) F5 N6 (aq _ hq) ⟨rfl,led,[],ms,rfl,hq,⟨rfl,rfl⟩,hN,(λj h=>nomatch h),(λj h=>h),(λj h=>nomatch h),Sb,Kept.refl⟩ ?_ ?_
 ·rintro I i v m₁ nw aS cC own ry hI hO ⟨wJ,led',m1,m2,rfl,ur,j1,j2,j3,j4,j5,j6,j7⟩ oq rb vX
  clear N5 N6
  obtain ⟨d,md,mr,JX,rfl,hD,hR⟩:=aP.next j2 (by rw [xJ];exact ry)
  have JY:=et JX
  have Sc:=xZ JY
  iterate 2 (first|walk1)
  rename Fr _ _ _ _=>F2
  rename aU _ _ _ _=>N2
  have dj:∀b∈md,b∈ms:=λb hb=>j4 b (aq _ hb)
  have zi:=ve.mp j6
  have BO:∀p∈own,p.1∉md:=λp hp hm=>by
   rcases hO p hp with h|h
   ·obtain ⟨o,ho⟩:=ND.adr _ _ _ hD _ hm
    exact oq _ (aq _ ho) h
   ·exact DG (dj _ (by rw [<-h];exact hm))
  refine Sa w n IH d (aI Sc hn) (FD hc JY) _ _ _ _ _ _ _ _ _ _ _ _ _ _ _ _ _ _ _ _ led' _ _ _ _ _ (λp hp=>ay _ (aq _ hp)) hD zi.1 B5 F2 X5 N2 T5 hk (by omega) (by omega) ?_
  intro wj Sd h' bQ m' Df F' N' D' s' k'
  have Se:aU _ _ _ (own++(wj++bT (q::ms) news)):=λp hp=>N' p (by
   rcases aM.mp hp with hp|hp
   ·exact ay _ (gG (aq _ hp) (BO p hp))
   rcases aM.mp hp with hp|hp
   ·exact aq _ hp
   ·exact ay _ (gG (ay _ (ay _ hp)) λhm=>(iY hp).2 (.tail _ (dj _ hm))))
  refine ⟨rfl,h',bQ,m',_,rfl,F',Se,λp hp e=> ?_,Df.trans wJ,wj,m1++Sd,mr,rfl,k'.1 _ ur (.inr λhm=>DG (dj _ hm)), ?_,k'.bO hR (λb hb hm=>zi.2.2 b hm b hb rfl), ?_,λb hb=>j4 b (ay _ hb), ?_,zi.2.1,j7.trans k' (λb hb=>hb) dj ?_⟩
  ·rcases aM.mp hp with hp|hp
   ·rcases k'.2.2 p hp with⟨o,ho⟩|hf
    ·exact oq _ (aq _ ho) e
    ·obtain ⟨oI,gS⟩:=hI
     exact hf _ (aq _ gS) e.symm
   ·exact oq p (ay _ hp) e
  ·rw [vg,JX,vg,show vs.toList[i]? =some v by rw [xJ];exact ry]
   show aP _ _ (eB (_++[d])) (_++[v]) _
   rw [JU]
   exact aP.snoc (k'.bO j1 (λb hb hm=>j5 b hb (aq _ hm))) D'
  ·intro b hb
   rcases aM.mp hb with hb|hb
   ·exact j3 b hb
   ·exact dj b (s' b hb)
  ·intro b hb hm
   rcases aM.mp hb with hb|hb
   ·exact j5 b hb (ay _ hm)
   ·exact zi.2.2 b (s' b hb) b hm rfl
  ·intro r hr
   by_cases hm:r.1∈q::ms
   ·have:∃o,(r.1,o)∈led:=by
     rcases bj.mp hm with e|hm
     ·exact ⟨_,by rw [e];exact hq⟩
     ·exact aP.adr _ _ _ hN _ hm
    obtain ⟨o,ho⟩:=this
    obtain ⟨o',rO⟩:=j7.2.1 (r.1,o) ho
    exact ⟨o',ay _ (aq _ rO)⟩
   ·exact ⟨r.2,ay _ (ay _ (gG hr hm))⟩
 ·rintro h7 Co ou nw rz tU ⟨wJ,led',m1,m2,rfl,ur,j1,j2,j3,j4,j5,j6,j7⟩
  rw [show ou=λy=>if y=aF "nodes" then some (.ref q) else ou y from funext λy=>by split<;>simp_all] at rz
  have N8:=News.pull tU (aq _ ur)
  have zf:=DE N8
  have jx:vs.size<=sizeLine:=by
   have:=aP.len hN
   rw [AO] at this
   rw [l7]
   omega
  have k8:=λo'=>Kept.set (nws:=news) (o':=o') (λp hp=>tU p (aq _ hp)) ur (Jr hN)
  clear N5 N6 tU
  k_steps
  unfold Stop
  k_dflt (refine' Sp.use (Rl w) (by k_asm) (by k_asm) (by k_asm) (by k_asm) (by k_asm) (by first|exact rfl|assumption) (by ktr_room) (by ktr_units) ?hp ?_;(case hp=>exact ⟨_,rfl⟩);k_whole;rintro z z h9 Sf F9 N9 o9 ⟨x9,d9,t9,a9,rfl,rfl⟩;(try dsimp only);(try k_fold))
  have JZ:aU _ _ _ ((q,(⟨.type "list",none,.seq vs nn,#[]⟩:av))::(x9,cV 466 d9)::(d9,_)::bT [q] (led'++bT (q::ms) news)):=λp hp=>N9 p (by
   rcases bj.mp hp with rfl|hp
   ·exact .head _
   rcases bj.mp hp with rfl|hp
   ·exact ay _ (.tail _ (.head _))
   rcases bj.mp hp with rfl|hp
   ·exact ay _ (.head _)
   ·exact aq _ (.tail _ hp))
  have Dw:∀p∈(x9,cV 466 d9)::(d9,cY [⟨aO w.params (aF "value"),.str (aF "value") t9,.int 1 a9⟩] 1)::bT [q] (led'++bT (q::ms) news),p.1≠q:=bU.mpr ⟨(o9 _ (.head _) _ (.tail _ (.head _))).symm,bU.mpr ⟨(o9 _ (.head _) _ (.head _)).symm,zf⟩⟩
  clear N9
  k_steps
  rename Fr _ _ _ _=>kF
  rename aU _ _ _ _=>kN
  have Sg:ds.length=vs.size:=by rw [<-aP.len hN,AO]
  have J0:∀r∈news,∀p∈[(d9,_),(x9,_)],r.1≠p.1:=λr hr=>by
   by_cases e:r.1=q
   ·rw [e];exact o9 _ (.head _)
   by_cases hm:r.1∈ms
   ·obtain ⟨o,ho⟩:=aP.adr _ _ _ hN _ hm
    obtain ⟨o',rO⟩:=j7.2.1 (r.1,o) ho
    exact o9 (r.1,o') (.tail _ (gG (aq _ rO) (by simpa using e)))
   ·exact o9 r (.tail _ (gG (ay _ (gG hr (by simp [e,hm]))) (by simpa using e)))
  rw [vf (jr Sg),vf (by rw [AO];exact cS _)] at j1
  have kk:=λ(o1 o2 o3:av)=>((j7.trans (k8 o1) (λb hb=>Az q hb) (λb hb=>by rw [bN.mp hb];exact .head _) (λr hr=>⟨_,hr⟩)).add (y:=(d9,o2)) (λr hr=>(J0 r hr (d9,_) (.head _):r.1≠d9))).add (y:=(x9,o3)) (λr hr=>(J0 r hr (x9,_) (.tail _ (.head _)):r.1≠x9))
  exact gb ((x9,_)::(d9,_)::(q,_)::bT [q] led') (.ref x9) (nn+1) (m1++[]) _ _ kF (λp hp=>kN p (by
   rcases aM.mp hp with hp|hp
   ·rcases bj.mp hp with rfl|hp
    ·exact .tail _ (.head _)
    rcases bj.mp hp with rfl|hp
    ·exact .tail _ (.tail _ (.head _))
    rcases bj.mp hp with rfl|hp
    ·exact .head _
    ·exact .tail _ (.tail _ (.tail _ (gG (aq _ (iY hp).1) (iY hp).2)))
   ·exact .tail _ (.tail _ (.tail _ (gG (ay _ hp) λe=>(iY hp).2 (by rw [bN.mp e];exact .head _)))))) (.tail _ (.tail _ (.head _)))
   (by rw [Array.toList_push];exact aP.snoc (aP.keep (M:=m1) (λp hp j=>.tail _ (.tail _ hp)) _ _ _ (λj h=>h) ((k8 _).bO j1 (λb hb e=>DG (by rw [<-bN.mp e];exact j3 b hb)))) (AY (.head _) (.tail _ (.head _))))
   (λb hb=>by rw [iy] at hb;exact j3 b hb) (kk _ _ _)
theorem J1 (w:ah):∀(n:Nat) (ds:List Nd),bR ds<=n->ds.length<=100->gD ds->k6 w ds
 |0,ds,hn,hl,hc=>JW w 0 (λz h=>absurd h (Nat.not_succ_le_zero _)) ds hn hl hc
 |n+1,ds,hn,hl,hc=>JW w (n+1) (λrR h hl hc=>J1 w n rR (Nat.le_of_succ_le_succ h) hl hc) ds hn hl hc
end
section
section
variable {led:Led}
theorem bF.take:∀{ts:List Tr} {vs:List aa} (a:Nat),bF led ts vs->bF led (ts.take a) (vs.take a)
 |z,y,0,q=>by simp only [AB];rfl
 |[],vs,a+1,h=>by
  rw [show vs=[] from h]
  simp only [List.take_nil]
  rfl
 |t::r,vs,a+1,h=>by
  obtain ⟨v,vr,rfl,h1,h2⟩:=h
  exact ⟨v,vr.take a,rfl,h1,bF.take a h2⟩
theorem bF.drop:∀{ts:List Tr} {vs:List aa} (a:Nat),bF led ts vs->bF led (ts.drop a) (vs.drop a)
 |z,y,0,h=>h
 |[],vs,a+1,h=>by
  rw [show vs=[] from h]
  simp only [List.drop_nil]
  rfl
 |t::r,vs,a+1,h=>by
  obtain ⟨v,vr,rfl,h1,h2⟩:=h
  exact bF.drop a h2
theorem bF.app:∀{ts us:List Tr} {vs ws:List aa},bF led ts vs->bF led us ws->bF led (ts++us) (vs++ws)
 |[],z,vs,y,h,k=>by rw [show vs=[] from h];exact k
 |t::r,z,y,q,h,k=>by
  obtain ⟨v,vr,rfl,h1,h2⟩:=h
  exact ⟨v,vr++_,rfl,h1,bF.app h2 k⟩
end
theorem zj:∀{ts:List Tr} (a:Nat),dK ts->dK (ts.take a)
 |z,0,y=>by simp only [AB];exact trivial
 |[],_+1,_=>trivial
 |_::_,a+1,h=>by
  unfold dK at h
  exact ⟨h.1,zj a h.2⟩
theorem zk:∀{ts:List Tr} (a:Nat),dK ts->dK (ts.drop a)
 |z,0,h=>h
 |[],_+1,_=>trivial
 |_::_,a+1,h=>by
  unfold dK at h
  exact zk a h.2
theorem wK:∀{ts us:List Tr},dK ts->dK us->dK (ts++us)
 |[],z,y,k=>k
 |z::y,q,h,k=>by
  unfold dK at h
  exact ⟨h.1,wK h.2 k⟩
theorem zl:∀{ts:List Tr} {a:Nat} {t:Tr},dK ts->ts[a]? =some t->WF t
 |[],z,y,q,e=>by simp at e
 |z::y,0,q,h,e=>by
  simp at e
  subst e
  unfold dK at h
  exact h.1
 |_::_,a+1,_,h,e=>by
  unfold dK at h
  exact zl h.2 (by simpa using e)
theorem J2:∀{ts:List Tr} {a:Nat} {t:Tr},jT ts->ts[a]? =some t->wr t
 |[],z,y,q,e=>by simp at e
 |z::y,0,q,h,e=>by
  simp at e
  subst e
  unfold jT at h
  exact h.1
 |_::_,a+1,_,h,e=>by
  unfold jT at h
  exact J2 h.2 (by simpa using e)
theorem zm:∀{ts:List Tr} {a:Nat} {t:Tr},ts[a]? =some t->hg t+1<=cA ts
 |[],z,y,e=>by simp at e
 |z::y,0,q,e=>by
  simp at e
  subst e
  unfold cA
  exact jJ _ _
 |_::_,a+1,_,e=>by
  have:=zm (a:=a) (by simpa using e)
  unfold cA
  exact aI this (ix _ _)
theorem zn:∀{ts:List Tr} (a:Nat),cA (ts.take a)<=cA ts
 |z,0=>by simp only [AB];exact da _
 |[],_+1=>cS _
 |x::r,a+1=>by
  have:=zn (ts:=r) a
  show cA (x::cN a r)<=cA (x::r)
  unfold cA
  exact jZ.mpr ⟨jJ _ _,aI this (ix _ _)⟩
theorem zo:∀{ts:List Tr} (a:Nat),cA (ts.drop a)<=cA ts
 |z,0=>cS _
 |[],_+1=>cS _
 |x::r,a+1=>by
  refine aI (zo (ts:=r) a) ?_
  show cA r<=cA (x::r)
  rw [cA]
  exact ix _ _
theorem wL {n:Nat}:∀{ts us:List Tr},cA ts<=n->cA us<=n->cA (ts++us)<=n
 |[],z,y,k=>k
 |z::y,q,h,k=>by
  unfold cA at h
  have:=jZ.mp h
  show cA (_::(_++_))<=n
  rw [cA]
  exact jZ.mpr ⟨this.1,wL this.2 k⟩
theorem Sh {n:Nat} {t:Tr} (h:hg t+1<=n):cA [t]<=n:=by
 unfold cA
 exact jZ.mpr ⟨h,da _⟩
end
section
structure pV where
 r:aa
 tl:Led
 c:Int
structure rS (d:Nat) (hc:Int) (vs:List aa):Prop where
 e:∃t,vs=[.int (d:Int) t]
 c0:0<=hc
 c1:hc+(fc d:Nat)<1000000
structure pW (d:Nat) (a:Int) (vs:List aa) (z:pV):Prop where
 q:IP d z.tl z.r
 lo:a<=z.c
 hi:z.c<=a+(fc d:Nat)
noncomputable def Si (d:Nat):rD pV:=⟨λz=>.ag z.r,λz=>z.tl,λo z=>o++z.tl,λy z=>z.c,pW d⟩
def wM (d:Nat) (tl:Led) (a b:Int) (vs:List aa) (r:aa):Prop:=pW d a vs ⟨r,tl,b⟩
def wN (w:ah) (d:Nat):Prop:=wk w 943 (30+10*d) [] (rS d) (wM d)
noncomputable def wO (P:aB) (NN:Led) (d:Nat):Spec:=wl P NN [] (rS d) (Si d)
theorem DH {w:ah} {NN:Led} {D d:Nat} (C:wN w d) (h:30+10*d<=D):eG w NN D 943 (wO w.params NN d):=yO h C ⟨λtl a b vs r h=>⟨⟨r,tl,b⟩,rfl,rfl,rfl,h⟩,λz z=>rfl,λz z=>trivial⟩
noncomputable def J3 (P:aB) (NN:Led) (d:Nat):Spec:=λvs st k=>d=(d -1)+1/\wO P NN (d -1) vs st k
theorem Sj {w:ah} {NN:Led} {D d:Nat} (IH:∀d',d=d'+1->wN w d') (h:20+10*d<=D):eG w NN D 943 (J3 w.params NN d):=λc vs st k s Q E O R hv hh q=>by
 obtain ⟨e,hh⟩:=hh
 generalize d -1=d' at e hh
 subst e
 exact DH (IH d' rfl) (aI (jr (by omega)) h) c vs st k s Q E O R hv hh q
structure lQ where
 hw:Int
 hc:Int
 tw:af
 tc:af
 hn:Nat
 rs:List aa
 ns:List Nat
structure jD (d5:Int) (sp:List Nat) (i:Nat) (z:lQ):Prop where
 c:z.hc=d5+i
 iv:IV z.rs z.ns
 uc:dm z.ns (sp.take i)
noncomputable def wP (led:List LE) (oth:Led) (d5:Int) (sp:List Nat):CompI lQ:=⟨λz=>setAt led 0 (.lst (iu z.hw z.hc z.tw z.tc) z.hn),λy=>oth,lQ.rs,jD d5 sp⟩
structure lj where
 hw:Int
 hc:Int
 tw:af
 tc:af
 hn:Nat
 rs:List aa
 ts:List Tr
 tl:Led
structure mR (d:Nat) (d5:Int) (i:Nat) (z:lj):Prop where
 t:bF z.tl z.ts z.rs
 l:z.ts.length=i
 w:dK z.ts
 h:cA z.ts<=d
 th:jT z.ts
 c0:d5<=z.hc
 c1:z.hc<=d5+(i*fc (d -1):Nat)
noncomputable def pX (led:List LE) (oth:Led) (d5:Int) (d:Nat):CompI lj:=⟨λz=>setAt led 0 (.lst (iu z.hw z.hc z.tw z.tc) z.hn),λz=>oth++z.tl,lj.rs,mR d d5⟩
noncomputable def DI (st:St):Int:=oE (oB st.led.head? λe=>yN e.o) (λd=>d.2.1) 0
noncomputable def J4 (st:St):List Nat:=bz (Jc (sO "kind") st).toNat
noncomputable def J5 (P:aB):XS:=λr cs b e st k=>bE (uf e).isSome (fR (KK P) Cfg.none r cs b [((e.pos.line,e.pos.col),none)] e st λv ao=>(∃(K:Nat) (t:af),v.val= .int (K:Int) t/\K<15)/\ ∀(K:Nat) (t:af),K<15->k (.lit (.int (K:Int) t)) ao) (fR (KK P) Cfg.none r cs b [] e st k)
theorem Sk {w:ah} {NN:Led} {D:Nat}:fj w NN D (J5 w.params):=by
 intro r I c b e st k s Q E O R h q
 refine mM h (λz h=> ?_) λh=> ?_
 ·refine gi I ez O R h λv ao s' N ok hk=> ?_
  obtain ⟨⟨K,t,e1,h1⟩,hk⟩:=hk
  rw [e1]
  exact q (.lit _) _ _ N trivial (hk K t h1)
 ·exact gi I ez O R h q
noncomputable def Sl (P:aB) (NN:Led) (d:Nat):List (Nat×Spec):=[(938,yX P NN),(924,C6),(943,J3 P NN d)]
noncomputable def Sm (P:aB) (NN:Led) (d:Nat):Cfg:=⟨[((539,11),J5 P),((540,14),yY P []),((540,20),Ik λst=>wP st.led st.oth (DI st) (J4 st)),((540,55),C7 P NN (λz z z=>0) J4 []),((541,12),Jd P [((541,80),none),((541,93),none)] (Io (KK P) (λst=>pX st.led st.oth (DI st) d))),((542,27),yY P [])],λz z z z z=>False,λz z z=>0,[]⟩
theorem rT {hc n:Int} {t:af} (h1:1<=n) (h2:n<1000) (h3:0<=hc) (h4:hc<1000000):k7 hc [.int n t]:=⟨⟨_,_,rfl,h1,h2⟩,h3,h4⟩
noncomputable def lR (b:af):List (Int×af):=[(0,b),(1,b+1),(2,b+2),(3,b+3),(4,b+4),(5,b+5),(6,b+6),(7,b+7),(8,b+8),(9,b+9),(10,b+10),(11,b+11),(12,b+12),(13,b+13),(14,b+14),(0,b+15),(0,b+16),(10,b+17)]
theorem Sn {b t:af} {a:Int} {z:Int×af} (h:iZ a [.int 18 t] z):∃(K:Nat) (t:af),am (eW (lR b) z.1) (qQ (lR b) z.1)= .int (K:Int) t/\K<15:=by
 have h0:=h.n
 have h1:=h.m _ _ rfl
 obtain ⟨n,e⟩:=ke h0
 rw [e] at h1⊢
 have key:∀n:Nat,n<18->eW (lR 0) (n:Int)=((eW (lR 0) (n:Int)).toNat:Int)/\(eW (lR 0) (n:Int)).toNat<15:=by decide
 obtain ⟨k1,k2⟩:=key n (iA.mp h1)
 have e2:∀(n:Nat),(eW (lR b) (n:Int))=eW (lR 0) (n:Int):=by
  have:∀(l:List (Int×Nat)) (n:Nat),(mB (l.map λx=>(x.1,b+x.2)) n).1=(mB l n).1:=λl=>by
   induction l with
   |nil=>exactλy=>rfl
   |cons x l ih=>exactλn=>by cases n with
    |zero=>rfl
    |succ n=>exact ih n
  intro n
  have z:=this (lR 0) n
  have e3:(lR 0).map (λx=>(x.1,b+x.2))=lR b:=by
   unfold lR
   simp only [List.map_cons,List.map_nil,ma,Nat.add_zero]
  rw [e3] at z
  exact z
 exact ⟨_,_,bW (λz=>am z _) ((e2 n).trans k1),k2⟩
section
variable {led rest:List LE} {oth:Led} {d5 hw hc:Int} {tw tc:af} {hn d i:Nat} {sp:List Nat} {ha:ac} {f:Bool} {tl:Led} {us:List aa} {K:Nat}
theorem J6 (q:lM tl us) (hK:K<15):(K:Int)<dW (us.map SV.ag).length:=by
 obtain ⟨a,ws,m,e1,z⟩:=q K hK
 rw [j0]
 exact iA.mpr (iN.mp e1).1
theorem J7 {P:aB} {NN:Led} {v:aa} (q:lM tl us) (hK:K<15) (e:(vals (us.map SV.ag))[(K:Int).toNat]? =some v):∃(a:ac) (τ:Nat->af) (m:Nat),ue P (tl++NN) v a (bz K) τ m:=by
 obtain ⟨a,ws,m,e1,h1,h2⟩:=q K hK
 rw [fM] at e
 have e:us[K]? =some v:=e
 rw [e1] at e
 obtain ⟨τ,e2⟩:=wi h2
 have e3:ws=(vals (aQ (bz K) τ)).toArray:=by rw [<-e2]
 rw [e3] at h1
 exact ⟨a,τ,m,(jK e).symm,aq _ h1⟩
theorem DJ (h:us.length<=15):(us.map SV.ag).length<=1000:=by
 rw [j0]
 exact aI h (by decide)
theorem oH:∀{ns:List Nat} {τ:Nat->af},(aQ ns τ).length=ns.length
 |[],z=>rfl
 |z::y,q=>bW (· +1) oH
theorem ut:∀{ns:List Nat} {τ:Nat->af},IV (vals (aQ ns τ)) ns
 |[],z=>trivial
 |z::y,q=>⟨⟨_,rfl⟩,ut⟩
theorem DK {τ:Nat->af} (hK:K<15):(aQ (bz K) τ).length<=8:=oH▸(ub K hK).1
theorem So:(wP (⟨ha,.lst (iu hw d5 tw tc) hn,f⟩::rest) oth d5 sp).At (⟨ha,.lst (iu hw d5 tw tc) hn,f⟩::rest) oth [] 0:=⟨⟨hw,d5,tw,tc,hn,[],[]⟩,rfl,rfl,rfl,(Int.add_zero _).symm,trivial,trivial⟩
theorem Sq {τ:Nat->af} {v:aa} {z:lQ} (hK:K<15) (e:(vals (aQ (bz K) τ))[i]? =some v) (hi:i<(aQ (bz K) τ).length) (hj:jD d5 (bz K) i z) (c0:0<=d5) (c1:d5+8<1000000):k7 z.hc [v]:=by
 obtain ⟨s,t,rfl,e2⟩:=CK ut i v e
 have h:=(ub K hK).2 s (et e2)
 have h8:=Ap hi (DK hK)
 exact rT (by omega) (by omega) (by rw [hj.c];omega) (by rw [hj.c];omega)
theorem Sr {o:SO} {y:Int×af} {τ:Nat->af} {v:aa} {z:lQ} (e:(vals (aQ sp τ))[i]? =some v) (hj:jD d5 sp i z) (q:iZ z.hc [v] y):(wP (⟨ha,o,f⟩::rest) oth d5 sp).At (⟨ha,.lst (iu hw (z.hc+1) tw tc) hn,f⟩::rest) oth (z.rs++[.int y.1 y.2]) (i+1):=by
 obtain ⟨s,t,rfl,e2⟩:=CK ut i v e
 obtain ⟨n,e3⟩:=ke q.n
 have h:=q.m _ _ rfl
 rw [e3] at h⊢
 exact ⟨⟨hw,z.hc+1,tw,tc,hn,z.rs++[.int (n:Int) y.2],z.ns++[n]⟩,rfl,rfl,rfl,by show z.hc+1=d5+((i+1:Nat):Int);rw [hj.c];omega,IJ hj.iv,QW hj.uc e2 (iA.mp h)⟩
theorem jD.zp {τ:Nat->af} {z:lQ} (h:jD d5 sp (aQ sp τ).length z):dm z.ns sp:=by
 have:=h.uc
 rw [oH,List.take_length] at this
 exact this
theorem jD.len {τ:Nat->af} {z:lQ} (hK:K<15) (h:jD d5 (bz K) (aQ (bz K) τ).length z):(z.rs.map SV.ag).length<=1000:=by
 rw [j0,II h.iv,yU h.zp]
 exact aI (ub K hK).1 (by decide)
theorem jD.c8 {τ:Nat->af} {z:lQ} (hK:K<15) (h:jD d5 (bz K) (aQ (bz K) τ).length z):d5<=z.hc/\z.hc<=d5+8:=by
 rw [h.c]
 exact ⟨vk (j9 _),pe (fZ.mpr (DK (τ:=τ) hK)) _⟩
theorem J8:(pX (⟨ha,.lst (iu hw d5 tw tc) hn,f⟩::rest) oth d5 d).At (⟨ha,.lst (iu hw d5 tw tc) hn,f⟩::rest) oth [] 0:=⟨⟨hw,d5,tw,tc,hn,[],[],[]⟩,rfl,iy _,rfl,rfl,rfl,trivial,da _,trivial,vm _,by show d5<=d5+((0*fc (d -1):Nat):Int);rw [Nat.zero_mul];exact Int.le_of_eq (Int.add_zero _).symm⟩
theorem J9 {o:SO} {y:pV} {z:lj} {vs:List aa} (hd:d=d -1+1) (hj:mR d d5 i z) (q:pW (d -1) z.hc vs y):(pX (⟨ha,o,f⟩::rest) oth d5 d).At (⟨ha,.lst (iu hw y.c tw tc) hn,f⟩::rest) (oth++z.tl++y.tl) (z.rs++[y.r]) (i+1):=by
 obtain ⟨T,t1,t2,t3,t4⟩:=q.q
 have c0:=hj.c0
 have c1:=hj.c1
 have d0:=q.lo
 have d1:=q.hi
 refine ⟨⟨hw,y.c,tw,tc,hn,z.rs++[y.r],z.ts++[T],z.tl++y.tl⟩,rfl,(mf _ _ _).symm,rfl,bF.snoc (bF.mono (λp h j=>aq _ h) _ _ hj.t) (TR.mono (λp h j=>ay _ h) _ _ t1),by rw [ib,hj.l];rfl,IL hj.w t2,IM hj.h (by rw [hd];exact dS t3),IN hj.th t4,ed c0 d0, ?_⟩
 show y.c<=d5+(((i+1)*fc (d -1):Nat):Int)
 rw [Nat.succ_mul]
 refine ed d1 ?_
 show _<=d5+(((i*fc (d -1):Nat):Int)+((fc (d -1):Nat):Int))
 rw [<-iO]
 exact xF c1 _
theorem Ss {z:lj} {t:af} {r:Nat} (hd:d=d -1+1) (hr:r<=2) (hi:i<r) (hj:mR d d5 i z) (c0:0<=d5) (c1:d5+(2*fc (d -1):Nat)<1000000):rS (d -1) z.hc [.int ((d:Int) -1) t]:=by
 refine ⟨⟨t, ?_⟩,ed c0 hj.c0, ?_⟩
 ·have:((d -1:Nat):Int)=(d:Int) -1:=(Int.sub_eq_iff_eq_add.mpr (bW dW hd)).symm
  rw [this]
 ·have h1:=hj.c1
  have:i*fc (d -1)+fc (d -1)<=2*fc (d -1):=by
   rw [<-Nat.succ_mul]
   exact Nat.mul_le_mul_right _ (aI hi hr)
  refine mj (ed (xF h1 _) ?_) c1
  rw [iO]
  exact pe (fZ.mpr this) d5
theorem DM {P:aB} {L:List LE} {tl':Led} {c:Int} {vs:List aa} {D Dn Di:ac} {t:af} {j j1 j2 n0 n1 n2 iD i1 i2:Nat} {rs us:List aa} {ns:List Nat} {ts:List Tr} (hD:L[iD]? =some ⟨D,.tup [.lit (.int (K:Int) t),.own j1 Dn,.own j2 Di] n0,true⟩) (h1:L[i1]? =some ⟨Dn,.tup (rs.map .ag) n1,true⟩) (h2:L[i2]? =some ⟨Di,.tup (us.map .ag) n2,true⟩)
  (hK:K<15) (iv:IV rs ns) (uc:dm ns (bz K)) (CL:bF tl' ts us) (sub:∀p∈tl',p∈oth) (hh:held K=false->ts=[]) (l:ts.length<=2) (wf:dK ts) (hg:cA ts<=d) (th:jT ts) (lo:hc<=c) (hi:c<=hc+(fc d:Nat)):ii P (wM d) hc c vs L oth (.own j D):=by
 have m1:=gF (P:=P) h1
 have m2:=gF (P:=P) h2
 have m1:(Dn,(⟨.type "tuple",none,.seq (vals (rs.map .ag)).toArray n1,#[]⟩:av))∈bo P L:=m1
 have m2:(Di,(⟨.type "tuple",none,.seq (vals (us.map .ag)).toArray n2,#[]⟩:av))∈bo P L:=m2
 rw [fM] at m1 m2
 exact ⟨QY hK (aq _ (gF hD)) (aq _ m1) iv uc (aq _ m2) (bF.mono (λp h z=>ay _ (sub p h)) _ _ CL) hh l wf hg th,lo,hi⟩
theorem Su {us:List Tr} (hK:K<15) (h:((0:Int)==(K:Int)||(10==(K:Int)||(11==(K:Int)||(14==(K:Int)||false))))=true):held K=false->us=[]:=λe=>by
 have:∀K:Nat,K<15->held K=false->((0:Int)==(K:Int)||(10==(K:Int)||(11==(K:Int)||(14==(K:Int)||false))))=false:=by decide
 rw [this K hK e] at h
 cases h
theorem Sv (h:d=d -1+1):fc d=10+2*fc (d -1):=by
 generalize d -1=e at h
 subst h
 rfl
end
section
variable {hc:Int} {d K i:Nat} {τ:Nat->af} {z:lQ}
theorem Ka {led:Led}:bF led [] []:=rfl
theorem Kb:dK []:=trivial
theorem Kc:jT []:=trivial
theorem ltB (h:hc+(fc d:Nat)<1000000):hc<1000000:=mj (vk (j9 _)) h
theorem iB:(10:Int)<=((fc d:Nat):Int):=fZ.mpr (QX d)
theorem DN (h:0<=hc):0<=hc+1:=Int.add_nonneg h (by decide)
theorem Sw (h:hc+(fc d:Nat)<1000000):hc+1+8<1000000:=iO hc 1 8▸mj (pe (ed (by decide:(1+8:Int)<=10) iB) hc) h
theorem rU (h:decide ((d:Int)>0)=true):d=d -1+1:=by
 exact (vb (iA.mp (show((0:Nat):Int)<d from cJ h))).symm
theorem uu (hK:K<15) (h:jD (hc+1) (bz K) (aQ (bz K) τ).length z):hc<=z.hc/\z.hc<=hc+(fc d:Nat):=by
 have h8:=h.c8 hK
 exact ⟨ed (vk (by decide)) h8.1,ed h8.2 (iO hc 1 8▸pe (ed (by decide:(1+8:Int)<=10) iB) hc)⟩
theorem DO (c0:0<=hc) (c1:hc+(fc d:Nat)<1000000) (hK:K<15) (h:jD (hc+1) (bz K) (aQ (bz K) τ).length z):0<=z.hc/\z.hc<1000000:=by
 exact ⟨ed (DN c0) (h.c8 hK).1,mj (uu hK h).2 c1⟩
theorem nB (hd:d=d -1+1) (h:z.hc<=hc+1+8):z.hc+1+((2*fc (d -1):Nat):Int)<=hc+((fc d:Nat):Int):=by
 rw [Sv hd]
 show _<=hc+(10+((2*fc (d -1):Nat):Int))
 rw [<-iO]
 refine xF (ed (xF h 1) ?_) _
 rw [iO,iO]
 exact vm _
theorem Kd (hd:d=d -1+1) (c0:0<=hc) (c1:hc+(fc d:Nat)<1000000) (hK:K<15) (h:jD (hc+1) (bz K) (aQ (bz K) τ).length z):0<=z.hc+1/\z.hc+1+(2*fc (d -1):Nat)<1000000:=by
 exact ⟨DN (DO c0 c1 hK h).1,mj (nB hd (h.c8 hK).2) c1⟩
theorem DP {a:Int} {t:af} {y:Int×af} (h:iZ a [.int 3 t] y):y.1.toNat<=2:=by
 exact Nat.le_of_lt_succ ((Int.toNat_lt h.n).mpr (h.m _ _ rfl))
theorem Sx {a:Int} {t:af} {y:Int×af} (h:iZ a [.int 3 t] y):y.1<=1000:=ed (Int.le_of_lt (h.m _ _ rfl)) (by decide)
theorem Ke {a b:Int} {t:af} {y:Int×af} {z:lj} (h:iZ a [.int 3 t] y) (hj:mR d b y.1.toNat z):z.ts.length<=2/\(z.rs.map SV.ag).length<=1000:=by
 have h2:z.ts.length<=2:=hj.l▸DP h
 exact ⟨h2,by rw [j0,bF.len hj.t];exact aI h2 (by decide)⟩
theorem Kf {t:af} {a:Int} {y:Int×af} {z2:lj} (hd:d=d -1+1) (hK:K<15) (h:jD (hc+1) (bz K) (aQ (bz K) τ).length z) (q:iZ a [.int 3 t] y) (hj:mR d (z.hc+1) y.1.toNat z2):hc<=z2.hc/\z2.hc<=hc+(fc d:Nat):=by
 have h3:y.1.toNat*fc (d -1)<=2*fc (d -1):=Nat.mul_le_mul_right _ (DP q)
 exact ⟨ed (uu (d:=d) hK h).1 (ed (vk (by decide)) hj.c0),ed hj.c1 (ed (pe (fZ.mpr h3) _) (nB hd (h.c8 hK).2))⟩
end
theorem Kg (w:ah) (d:Nat) (IH:∀d',d=d'+1->wN w d'):wN w d:=Cw (20+10*d) 6 99 [((539,11),none),((541,80),none),((541,93),none)] (by omega) λnews ha hw hc tw tc hn vs aK hp=>by
 obtain ⟨⟨t,rfl⟩,c0,c1⟩:=hp
 have js:20<=20+10*d:=oZ 20 _
 refine ⟨Sl w.params news d,Sm w.params news d,[],[.lit (.int (d:Int) t)],⟨ez (xs:=_),pL,dZ Sk (dZ De (dZ QJ (dZ I4 (dZ (Rf QK) (dZ De km)))))⟩,ey (C5 (aI (by decide) js)) (ey (I3 (aI (by decide) js)) (ey (Sj IH (cS _)) iS)),rfl,dY,λv hv=> ?_,trivial,λj h=>(nomatch h),λtk=> ?_⟩
 ·rw [bN.mp hv];trivial
 refine @cD _ (∀(b1:af) (b2:ac),(True/\k7 hc [am 18 (b1+18)])/\ ∀(b3:Int×af) (b4:Int) (b5 b6:af) (b7:Nat) (b8:af),iZ hc [am 18 (b1+18)] b3->(0<=b3.1/\b3.1<dW 18)/\(∃(aH:Nat),∃(bq:af),am (eW [(0,b1),(1,b1+1),(2,b1+2),(3,b1+3),(4,b1+4),(5,b1+5),(6,b1+6),(7,b1+7),(8,b1+8),(9,b1+9),(10,b1+10),(11,b1+11),(12,b1+12),(13,b1+13),(14,b1+14),(0,b1+15),(0,b1+16),(10,b1+17)] b3.1) (qQ [(0,b1),(1,b1+1),(2,b1+2),(3,b1+3),(4,b1+4),(5,b1+5),(6,b1+6),(7,b1+7),(8,b1+8),(9,b1+9),(10,b1+10),(11,b1+11),(12,b1+12),(13,b1+13),(14,b1+14),(0,b1+15),(0,b1+16),(10,b1+17)] b3.1)=am (((aH:Nat):Int)) bq/\aH<15)/\ ∀(aH:Nat) (bq:af),aH<15-> ∀(bY:ac) (bt:List aa) (cj:Nat) (bx:Led) (dP:af),cH [] bx->lM bx bt->aN bt<=15->(0<=((aH:Nat):Int)/\((aH:Nat):Int)<dW (aN (aA SV.ag bt))/\aN (aA SV.ag bt)<=1000)/\ ∀(jE:aa),(vals (aA SV.ag bt))[aj (((aH:Nat):Int))]? =some jE->(∃(dQ:ac),∃(fT:Nat->af),∃(bG:Nat),ue w.2 (bx++news) jE dQ (bz (aj (((aH:Nat):Int)))) fT bG)/\ ∀(dQ:ac) (fT:Nat->af) (bG:Nat),aN (aQ (bz (aj (((aH:Nat):Int)))) fT)<=1000/\CompI.At (wP [LE.mk ha (SO.lst [li b4 b5,li (hc+1) b6] b7) true,LE.mk b2 (SO.lst [li 0 b1,li 1 (b1+1),li 2 (b1+2),li 3 (b1+3),li 4 (b1+4),li 5 (b1+5),li 6 (b1+6),li 7 (b1+7),li 8 (b1+8),li 9 (b1+9),li 10 (b1+10),li 11 (b1+11),li 12 (b1+12),li 13 (b1+13),li 14 (b1+14),li 0 (b1+15),li 0 (b1+16),li 10 (b1+17)] 0) true,LE.mk bY (SO.lst (aA SV.ag bt) cj) false,LE.mk dQ (SO.tup (aQ (bz (aj (((aH:Nat):Int)))) fT) bG) false] bx (hc+1) (bz (aj (((aH:Nat):Int))))) [LE.mk ha (SO.lst [li b4 b5,li (hc+1) b6] b7) true,LE.mk b2 (SO.lst [li 0 b1,li 1 (b1+1),li 2 (b1+2),li 3 (b1+3),li 4 (b1+4),li 5 (b1+5),li 6 (b1+6),li 7 (b1+7),li 8 (b1+8),li 9 (b1+9),li 10 (b1+10),li 11 (b1+11),li 12 (b1+12),li 13 (b1+13),li 14 (b1+14),li 0 (b1+15),li 0 (b1+16),li 10 (b1+17)] 0) true,LE.mk bY (SO.lst (aA SV.ag bt) cj) false,LE.mk dQ (SO.tup (aQ (bz (aj (((aH:Nat):Int)))) fT) bG) false] bx [] 0/\(∀(cr:Nat) (bu:aa) (eJ:lQ) (fE:af),cr<aN (aQ (bz (aj (((aH:Nat):Int)))) fT)->(vals (aQ (bz (aj (((aH:Nat):Int)))) fT))[cr]? =some bu->jD (hc+1) (bz (aj (((aH:Nat):Int)))) cr eJ->(True/\k7 eJ.2 [bu])/\ ∀(mS:Int×af) (gw:Int) (jl ff:af) (iw:Nat) (jm:af),iZ eJ.2 [bu] mS->CompI.At (wP [LE.mk ha (SO.lst [li b4 b5,li (hc+1) b6] b7) true,LE.mk b2 (SO.lst [li 0 b1,li 1 (b1+1),li 2 (b1+2),li 3 (b1+3),li 4 (b1+4),li 5 (b1+5),li 6 (b1+6),li 7 (b1+7),li 8 (b1+8),li 9 (b1+9),li 10 (b1+10),li 11 (b1+11),li 12 (b1+12),li 13 (b1+13),li 14 (b1+14),li 0 (b1+15),li 0 (b1+16),li 10 (b1+17)] 0) true,LE.mk bY (SO.lst (aA SV.ag bt) cj) false,LE.mk dQ (SO.tup (aQ (bz (aj (((aH:Nat):Int)))) fT) bG) false] bx (hc+1) (bz (aj (((aH:Nat):Int))))) [LE.mk ha (SO.lst [li gw jl,li (eJ.2+1) ff] iw) true,LE.mk b2 (SO.lst [li 0 b1,li 1 (b1+1),li 2 (b1+2),li 3 (b1+3),li 4 (b1+4),li 5 (b1+5),li 6 (b1+6),li 7 (b1+7),li 8 (b1+8),li 9 (b1+9),li 10 (b1+10),li 11 (b1+11),li 12 (b1+12),li 13 (b1+13),li 14 (b1+14),li 0 (b1+15),li 0 (b1+16),li 10 (b1+17)] 0) true,LE.mk bY (SO.lst (aA SV.ag bt) cj) false,LE.mk dQ (SO.tup (aQ (bz (aj (((aH:Nat):Int)))) fT) bG) false] bx (eJ.6++[am mS.1 mS.2]) (cr+1))/\ ∀(cr:lQ) (bu:af),jD (hc+1) (bz (aj (((aH:Nat):Int)))) (aN (aQ (bz (aj (((aH:Nat):Int)))) fT)) cr-> ∀(fE:ac),aN (aA SV.ag cr.6)<=1000/\ ∀(gk:ac),(decide (((d:Nat):Int)>0)=true-> ∀(gJ:ac),((0==((aH:Nat):Int)||(10==((aH:Nat):Int)||(11==((aH:Nat):Int)||(14==((aH:Nat):Int)||false))))=true->(True/\k7 cr.2 [am 3 (bu+6)])/\ ∀(gw:Int×af) (jl:Int) (ff iw:af) (jm:Nat) (kt:af),iZ cr.2 [am 3 (bu+6)] gw->(0<=gw.1/\gw.1<=1000)/\CompI.At (pX [LE.mk ha (SO.lst [li jl ff,li (cr.2+1) iw] jm) true,LE.mk b2 (SO.lst [li 0 b1,li 1 (b1+1),li 2 (b1+2),li 3 (b1+3),li 4 (b1+4),li 5 (b1+5),li 6 (b1+6),li 7 (b1+7),li 8 (b1+8),li 9 (b1+9),li 10 (b1+10),li 11 (b1+11),li 12 (b1+12),li 13 (b1+13),li 14 (b1+14),li 0 (b1+15),li 0 (b1+16),li 10 (b1+17)] 0) true,LE.mk bY (SO.lst (aA SV.ag bt) cj) false,LE.mk dQ (SO.tup (aQ (bz (aj (((aH:Nat):Int)))) fT) bG) false,LE.mk fE (SO.lst (aA SV.ag cr.6) (aN cr.6)) true,LE.mk gk (SO.tup (aA SV.ag cr.6) 0) true,LE.mk gJ (SO.tup [li 0 (bu+2),li 10 (bu+3),li 11 (bu+4),li 14 (bu+5)] 0) true] bx (cr.2+1) d) [LE.mk ha (SO.lst [li jl ff,li (cr.2+1) iw] jm) true,LE.mk b2 (SO.lst [li 0 b1,li 1 (b1+1),li 2 (b1+2),li 3 (b1+3),li 4 (b1+4),li 5 (b1+5),li 6 (b1+6),li 7 (b1+7),li 8 (b1+8),li 9 (b1+9),li 10 (b1+10),li 11 (b1+11),li 12 (b1+12),li 13 (b1+13),li 14 (b1+14),li 0 (b1+15),li 0 (b1+16),li 10 (b1+17)] 0) true,LE.mk bY (SO.lst (aA SV.ag bt) cj) false,LE.mk dQ (SO.tup (aQ (bz (aj (((aH:Nat):Int)))) fT) bG) false,LE.mk fE (SO.lst (aA SV.ag cr.6) (aN cr.6)) true,LE.mk gk (SO.tup (aA SV.ag cr.6) 0) true,LE.mk gJ (SO.tup [li 0 (bu+2),li 10 (bu+3),li 11 (bu+4),li 14 (bu+5)] 0) true] bx [] 0/\(∀(jF:Nat) (Sy:af) (lS:lj) (lk:af),jF<aj gw.1->True->mR d (cr.2+1) jF lS->d=d -1+1/\(True/\rS (d -1) lS.2 [am (((d:Nat):Int) -1) (lk+1)])/\ ∀(ku:pV) (kv:Int) (mT mU:af) (mV:Nat) (DQ:af),pW (d -1) lS.2 [am (((d:Nat):Int) -1) (lk+1)] ku->CompI.At (pX [LE.mk ha (SO.lst [li jl ff,li (cr.2+1) iw] jm) true,LE.mk b2 (SO.lst [li 0 b1,li 1 (b1+1),li 2 (b1+2),li 3 (b1+3),li 4 (b1+4),li 5 (b1+5),li 6 (b1+6),li 7 (b1+7),li 8 (b1+8),li 9 (b1+9),li 10 (b1+10),li 11 (b1+11),li 12 (b1+12),li 13 (b1+13),li 14 (b1+14),li 0 (b1+15),li 0 (b1+16),li 10 (b1+17)] 0) true,LE.mk bY (SO.lst (aA SV.ag bt) cj) false,LE.mk dQ (SO.tup (aQ (bz (aj (((aH:Nat):Int)))) fT) bG) false,LE.mk fE (SO.lst (aA SV.ag cr.6) (aN cr.6)) true,LE.mk gk (SO.tup (aA SV.ag cr.6) 0) true,LE.mk gJ (SO.tup [li 0 (bu+2),li 10 (bu+3),li 11 (bu+4),li 14 (bu+5)] 0) true] bx (cr.2+1) d) [LE.mk ha (SO.lst [li kv mT,li ku.3 mU] mV) true,LE.mk b2 (SO.lst [li 0 b1,li 1 (b1+1),li 2 (b1+2),li 3 (b1+3),li 4 (b1+4),li 5 (b1+5),li 6 (b1+6),li 7 (b1+7),li 8 (b1+8),li 9 (b1+9),li 10 (b1+10),li 11 (b1+11),li 12 (b1+12),li 13 (b1+13),li 14 (b1+14),li 0 (b1+15),li 0 (b1+16),li 10 (b1+17)] 0) true,LE.mk bY (SO.lst (aA SV.ag bt) cj) false,LE.mk dQ (SO.tup (aQ (bz (aj (((aH:Nat):Int)))) fT) bG) false,LE.mk fE (SO.lst (aA SV.ag cr.6) (aN cr.6)) true,LE.mk gk (SO.tup (aA SV.ag cr.6) 0) true,LE.mk gJ (SO.tup [li 0 (bu+2),li 10 (bu+3),li 11 (bu+4),li 14 (bu+5)] 0) true] (bx++lS.8++ku.2) (lS.6++[ku.1]) (jF+1))/\ ∀(jF:lj) (Sy:af),mR d (cr.2+1) (aj gw.1) jF-> ∀(lk:ac),aN (aA SV.ag jF.6)<=1000/\ ∀(mW kx:ac),Sep [ha,b2,fE,gk,gJ,lk,mW,kx] (bx++jF.8)->ii w.2 (wM d) hc jF.2 [am (((d:Nat):Int)) t] [LE.mk b2 (SO.lst [li 0 b1,li 1 (b1+1),li 2 (b1+2),li 3 (b1+3),li 4 (b1+4),li 5 (b1+5),li 6 (b1+6),li 7 (b1+7),li 8 (b1+8),li 9 (b1+9),li 10 (b1+10),li 11 (b1+11),li 12 (b1+12),li 13 (b1+13),li 14 (b1+14),li 0 (b1+15),li 0 (b1+16),li 10 (b1+17)] 0) true,LE.mk fE (SO.lst (aA SV.ag cr.6) (aN cr.6)) true,LE.mk gk (SO.tup (aA SV.ag cr.6) 0) true,LE.mk gJ (SO.tup [li 0 (bu+2),li 10 (bu+3),li 11 (bu+4),li 14 (bu+5)] 0) true,LE.mk lk (SO.lst (aA SV.ag jF.6) (aN jF.6)) true,LE.mk mW (SO.tup (aA SV.ag jF.6) 0) true,LE.mk kx (SO.tup [li (((aH:Nat):Int)) bq,SV.own 5 gk,SV.own 8 mW] 0) true] (bx++jF.8) (SV.own 9 kx))/\((0==((aH:Nat):Int)||(10==((aH:Nat):Int)||(11==((aH:Nat):Int)||(14==((aH:Nat):Int)||false))))=false-> ∀(gw:ac),0<=1000/\ ∀(jl ff:ac),Sep [ha,b2,fE,gk,gJ,gw,jl,ff] bx->ii w.2 (wM d) hc cr.2 [am (((d:Nat):Int)) t] [LE.mk b2 (SO.lst [li 0 b1,li 1 (b1+1),li 2 (b1+2),li 3 (b1+3),li 4 (b1+4),li 5 (b1+5),li 6 (b1+6),li 7 (b1+7),li 8 (b1+8),li 9 (b1+9),li 10 (b1+10),li 11 (b1+11),li 12 (b1+12),li 13 (b1+13),li 14 (b1+14),li 0 (b1+15),li 0 (b1+16),li 10 (b1+17)] 0) true,LE.mk fE (SO.lst (aA SV.ag cr.6) (aN cr.6)) true,LE.mk gk (SO.tup (aA SV.ag cr.6) 0) true,LE.mk gJ (SO.tup [li 0 (bu+2),li 10 (bu+3),li 11 (bu+4),li 14 (bu+5)] 0) true,LE.mk gw (SO.lst [] 0) true,LE.mk jl (SO.tup [] 0) true,LE.mk ff (SO.tup [li (((aH:Nat):Int)) bq,SV.own 5 gk,SV.own 8 jl] 0) true] bx (SV.own 9 ff)))/\(decide (((d:Nat):Int)>0)=false-> ∀(gJ:ac),0<=1000/\ ∀(mS gw:ac),Sep [ha,b2,fE,gk,gJ,mS,gw] bx->ii w.2 (wM d) hc cr.2 [am (((d:Nat):Int)) t] [LE.mk b2 (SO.lst [li 0 b1,li 1 (b1+1),li 2 (b1+2),li 3 (b1+3),li 4 (b1+4),li 5 (b1+5),li 6 (b1+6),li 7 (b1+7),li 8 (b1+8),li 9 (b1+9),li 10 (b1+10),li 11 (b1+11),li 12 (b1+12),li 13 (b1+13),li 14 (b1+14),li 0 (b1+15),li 0 (b1+16),li 10 (b1+17)] 0) true,LE.mk fE (SO.lst (aA SV.ag cr.6) (aN cr.6)) true,LE.mk gk (SO.tup (aA SV.ag cr.6) 0) true,LE.mk gJ (SO.lst [] 0) true,LE.mk mS (SO.tup [] 0) true,LE.mk gw (SO.tup [li (((aH:Nat):Int)) bq,SV.own 5 gk,SV.own 7 mS] 0) true] bx (SV.own 8 gw))) ?_ ?_
 ·kernel_rfl
 exactλb1 b2=>⟨⟨trivial,rT (by decide) (by decide) c0 (ltB c1)⟩,λz1 j j j j j q1=>⟨⟨q1.n,q1.m _ _ rfl⟩,Sn q1,λK tK hK bY us cj jU j j sq wQ=>⟨⟨j9 _,J6 sq hK,DJ wQ⟩,λv ev=>⟨J7 sq hK ev,λq τ n=>⟨aI (DK hK) (by decide),So,λi v z j hi ev hj=>⟨⟨trivial,Sq hK ev hi hj (DN c0) (Sw c1)⟩,λy j j j j j qy=>Sr ev hj qy⟩,λz j hj fE=>⟨hj.len hK,λgk=>⟨λhd gJ=>⟨λhk=>⟨⟨trivial,rT (by decide) (by decide) (DO c0 c1 hK hj).1 (DO c0 c1 hK hj).2⟩,λy j j j j j qy=>⟨⟨qy.n,Sx qy⟩,J8,λi j z2 j hi j lT=>⟨rU hd,⟨trivial,Ss (rU hd) (DP qy) hi lT (Kd (rU hd) c0 c1 hK hj).1 (Kd (rU hd) c0 c1 hK hj).2⟩,λx j j j j j qx=>J9 (rU hd) lT qx⟩,λz2 j lT lk=>⟨(Ke qy lT).2,λmW kx j=>DM (iD:=6) (i1:=2) (i2:=5) rfl rfl rfl hK hj.iv hj.zp lT.t (λj h=>ay _ h) (Su hK hk) (Ke qy lT).1 lT.w lT.h lT.th (Kf (rU hd) hK hj qy lT).1 (Kf (rU hd) hK hj qy lT).2⟩⟩⟩,λhk gw=>⟨by decide,λjl ff j=>DM (iD:=6) (i1:=2) (i2:=5) (us:=[]) (ts:=[]) (tl':=[]) rfl rfl rfl hK hj.iv hj.zp Ka dY (λj=>rfl) (da _) Kb (da _) Kc (uu (d:=d) hK hj).1 (uu hK hj).2⟩⟩,λhd gJ=>⟨by decide,λmS gw j=>DM (iD:=5) (i1:=2) (i2:=4) (us:=[]) (ts:=[]) (tl':=[]) rfl rfl rfl hK hj.iv hj.zp Ka dY (λj=>rfl) (da _) Kb (da _) Kc (uu (d:=d) hK hj).1 (uu hK hj).2⟩⟩⟩⟩⟩⟩⟩⟩
theorem DR (w:ah):∀d,wN w d
 |0=>Kg w 0 λz e=>nomatch e
 |d+1=>Kg w (d+1) λd' e=>qB e▸DR w d
theorem Sz {w:ah} {NN:Led} {D d:Nat} (h:30+10*d<=D):eG w NN D 943 (wO w.params NN d):=DH (DR w d) h
end
section
structure eC (n:Nat) (led:Led) (q:ac) (us:List aa) (nv:Nat) (ts:List Tr) (hc:Int) (vs:List aa):Prop where
 e:vs=[.ref q]
 m:(q,(⟨.type "list",none,.seq us.toArray nv,#[]⟩:av))∈led
 t:bF led ts us
 w:dK ts
 th:jT ts
 l:ts.length<=40
 h:cA ts<=n
 nn:n<=20
 c:0<=hc/\hc+(13*(n+1):Nat)<1000000
structure rV where
 r:ac
 tl:Led
 c:Int
 us:List aa
 nv:Nat
 ts:List Tr
structure uv (n:Nat) (led:Led) (ts:List Tr) (a:Int) (vs:List aa) (z:rV):Prop where
 m:(z.r,(⟨.type "list",none,.seq z.us.toArray z.nv,#[]⟩:av))∈led++z.tl
 t:bF (led++z.tl) z.ts z.us
 w:dK z.ts
 l:z.ts.length<=ts.length+1
 h:cA z.ts<=n
 lo:a<=z.c
 hi:z.c<=a+(13*(n+1):Nat)
def jG (n:Nat) (led:Led) (ts:List Tr) (tl:Led) (a b:Int) (vs:List aa) (r:aa):Prop:=∃z:rV,r= .ref z.r/\tl=z.tl/\b=z.c/\uv n led ts a vs z
def zq (w:ah) (n:Nat):Prop:=∀led q us nv ts,wk w 976 (60+10*n) led (eC n led q us nv ts) (jG n led ts)
noncomputable def zr (d:Nat) (led:Led) (ts:List Tr):rD rV:=⟨λz=>.kn z.r z.us z.nv,λz=>z.tl,λo z=>o++z.tl,λy z=>z.c,uv d led ts⟩
structure wR where
 d:Nat
 led:Led
 q:ac
 us:List aa
 nv:Nat
 ts:List Tr
noncomputable def Kh (P:aB) (NN:Led) (n:Nat) (F:St->List SV->wR):Spec:=λvs st k=>n=(F st vs).d+1/\wl P NN (F st vs).led (eC (F st vs).d (F st vs).led (F st vs).q (F st vs).us (F st vs).nv (F st vs).ts) (zr (F st vs).d (F st vs).led (F st vs).ts) vs st k
theorem SA {w:ah} {NN:Led} {D n:Nat} {F:St->List SV->wR} (IH:∀d,n=d+1->zq w d) (h:50+10*n<=D):eG w NN D 976 (Kh w.params NN n F):=by
 intro c vs st k s Q E O R hv hh qq
 obtain ⟨e,hh⟩:=hh
 generalize F st vs=x at e hh
 exact yO (cc:=60+10*x.d) (aI (by rw [e];omega) h) (IH x.d e x.led x.q x.us x.nv x.ts) (S:=zr x.d x.led x.ts) ⟨λz z z z z h=>h,λz z=>rfl,λz z=>trivial⟩ c vs st k s Q E O R hv hh qq
noncomputable def Ki:SO->Nat
 | .lst z n=>n
 |_=>0
section
variable (P:aB) (NN:Led) (n:Nat) (led:Led) (ts:List Tr) (dv:Nat->k9) (iL:Nat->List Tr)
noncomputable def pY (st:St):Nat:=(Jc (sO "at") st).toNat
noncomputable def SB (st:St) (vs:List SV):wR:=match vs with
 |[z,.own j a]=>oE st.led[j]? (λe=>⟨n -1,(a,(⟨.type "list",none,.seq (dv (pY st)).us.toArray (Ki e.o),#[]⟩:av))::led,a,(dv (pY st)).us,Ki e.o,iL (pY st)⟩) ⟨0,[],0,[],0,[]⟩
 |_=>⟨0,[],0,[],0,[]⟩
noncomputable def SC (p:aW) (f:Bool) (st:St):List PyData:=match f with
 |false=>[]
 |true=>match ej p.line 589 with
  |true=>fe ts
  |false=>match ej p.line 596 with
   |true=>fe (iL (pY st))
   |false=>nums (dv (pY st)).ns
noncomputable def SD:List (Nat×Spec):=[(938,yX P NN),(924,C6),(943,wO P NN 0),(976,Kh P NN n (SB n led dv iL))]
noncomputable def SE:Cfg:=Jb NN (SC ts dv iL) (λz st m=>(dv (pY st)).ns.getD m.toNat 0) [((591,27),I5 P NN dv []),((597,45),I6 P NN []),((601,31),C7 P NN (λz st m=>(bz (dv (pY st)).k).getD m.toNat 0) (λst=>bz (dv (pY st)).k) []),((602,32),I8 P NN [])]
end
structure hY (n:Nat) (led:Led) (d:k9) (inner:List Tr):Prop where
 k:d.k<15
 b:dm d.ns (bz d.k)
 hh:held d.k=false->inner=[]
 l:inner.length<=2
 w:dK inner
 th:jT inner
 h:cA inner+1<=n
 t:bF led inner d.us
 m1:(d.qn,(⟨.type "tuple",none,.seq (vals (aQ d.ns d.τ)).toArray d.n1,#[]⟩:av))∈led
 m2:(d.qi,(⟨.type "tuple",none,.seq d.us.toArray d.n2,#[]⟩:av))∈led
theorem Kj:∀{ns:List Nat} {τ:Nat->af} {i n:Nat},ns[i]? =some n-> ∃t,(vals (aQ ns τ))[i]? =some (.int (n:Int) t)
 |[],z,y,q,h=>by cases h
 |z::y,q,0,j,h=>by cases h;exact ⟨_,rfl⟩
 |_::_,_,i+1,_,h=>Kj (i:=i) h
theorem SG {ns:List Nat} {k:Nat} (h:dm ns (bz k)) (hk:k<15):ns.length<=8:=yU h▸(ub k hk).1
theorem DS {n:Nat} (h:n<=40):1<=pz 1 (n:Int)/\pz 1 (n:Int)<1000/\(1<=n->pz 1 (n:Int)=n):=by
 unfold pz
 split<;>omega
section
variable {P:aB} {ls:List LE} {o NN L:Led}
theorem Kk {us:List aa} {ts:List Tr} (hs:∀p∈L,p∈NN) (h:bF L ts us):lf o NN (us.map SV.ag) (fe ts):=⟨by
 rw [fM]
 exact dz.mono (λp hp=>ay _ (hs p hp)) (yW ts us h)⟩
theorem Kl {ns:List Nat} {τ:Nat->af}:lf o NN (aQ ns τ) (nums ns):=⟨C4 ut⟩
theorem Km {q:ac} {us:List aa} {n:Nat} (e:LE) (h:le P ls o q us n):le P (ls++[e]) o q us n:=⟨by
 rw [yo,mf]
 exact (aM.mp h.m).elim (λh=>aq _ h) λh=>ay _ (ay _ h)⟩
theorem SH {a:ac} {us:List aa} {n i:Nat} {f:Bool} (h:ls[i]? =some ⟨a,.lst (us.map SV.ag) n,f⟩) (hs:∀p∈L,p∈NN):SubL P ((a,(⟨.type "list",none,.seq us.toArray n,#[]⟩:av))::L) ls o NN:=λp hp=>(bj.mp hp).elim (λe=>by
 have m:=gF (P:=P) h
 have m:(a,(⟨.type "list",none,.seq (vals (us.map SV.ag)).toArray n,#[]⟩:av))∈bo P ls:=m
 rw [fM] at m
 rw [e]
 exact aq _ m) λh=>ay _ (ay _ (hs p h))
end
theorem SI {l:List bM}:ec (.tuple l) (.tuple [])=l.isEmpty:=by cases l<;>rfl
section
variable {n:Nat} {led:Led} {q:ac} {us:List aa} {nv:Nat} {ts:List Tr} {hc:Int} {DT vs:List aa} (hp:eC n led q us nv ts hc DT)
include hp
theorem eC.len:(us.map SV.ag).length=ts.length:=by rw [j0];exact bF.len hp.t
theorem eC.l1:(us.map SV.ag).length<=1000:=hp.len▸aI hp.l (by decide)
omit hp in
theorem bY:(13:Int)<=((13*(n+1):Nat):Int):=fZ.mpr (Nat.le_mul_of_pos_right 13 (Nat.succ_pos n))
omit hp in
theorem DU {k:Int} (h:k<=13):hc+k<=hc+((13*(n+1):Nat):Int):=pe (ed h bY) hc
omit hp in
theorem Kn {k:Int} (h0:0<=k) (h:k<=13):hc<=hc+k/\hc+k<=hc+((13*(n+1):Nat):Int):=⟨vk h0,DU h⟩
theorem eC.cK {k:Int} (h0:0<=k) (h:k<=13):0<=hc+k/\hc+k<1000000:=⟨Int.add_nonneg hp.c.1 h0,mj (DU h) hp.c.2⟩
theorem eC.c0:0<=hc/\hc<1000000:=Int.add_zero hc▸hp.cK (vm 0) (by decide)
theorem eC.c1:0<=hc+1/\hc+1<1000000:=hp.cK (by decide) (by decide)
theorem eC.c2:0<=hc+1+1/\hc+1+1<1000000:=iO hc 1 1▸hp.cK (k:=1+1) (by decide) (by decide)
omit hp in
theorem rW:hc<=hc+1+1/\hc+1+1<=hc+(13*(n+1):Nat):=iO hc 1 1▸Kn (k:=1+1) (by decide) (by decide)
omit hp in
theorem Ko:hc<=hc+1+1+1/\hc+1+1+1<=hc+(13*(n+1):Nat):=iO hc 1 1▸iO hc (1+1) 1▸Kn (k:=1+1+1) (by decide) (by decide)
omit hp in
theorem SJ {z:pV} {us:List aa} (h:pW 0 (hc+1+1) us z):hc<=z.c/\z.c<=hc+(13*(n+1):Nat):=by
 have h2:z.c<=hc+1+1+(10:Nat):=h.hi
 exact ⟨ed (rW (n:=n)).1 h.lo,ed h2 (iO hc 1 1▸iO hc (1+1) 10▸DU (k:=1+1+10) (by decide))⟩
omit hp in
theorem Kq (N1:1<=n):hc+1+1+((13*(n -1+1):Nat):Int)<=hc+((13*(n+1):Nat):Int):=by
 rw [vb N1,iO hc 1 1,iO]
 refine pe ?_ hc
 show 1+1+((13*n:Nat):Int)<=((13*n:Nat):Int)+13
 rw [Int.add_comm]
 exact pe (by decide) _
omit hp in
theorem SK {z:rV} {us:List aa} {led:Led} {ts:List Tr} (N1:1<=n) (h:uv (n -1) led ts (hc+1+1) us z):hc<=z.c/\z.c<=hc+(13*(n+1):Nat):=by
 exact ⟨ed (rW (n:=n)).1 h.lo,ed h.hi (Kq N1)⟩
theorem eC.DV {k:Nat}:((us.map SV.ag).take k).length<=40:=aI (xz _ _) (hp.len▸hp.l)
theorem eC.DW {k:Nat}:((us.map SV.ag).drop k).length<=40:=aI (mh▸Nat.sub_le _ _) (hp.len▸hp.l)
theorem eC.zu {k:Nat}:((us.map SV.ag).take k).length+1<=1000:=aI (lC hp.DV 1) (by decide)
theorem eC.ls {k m:Nat} {x:SV}:((us.map SV.ag).take k++[x]).length+((us.map SV.ag).drop m).length<=1000:=aI (xt (aI (jr ib) (lC hp.DV 1)) hp.DW) (by decide:40+1+40<=1000)
theorem eC.SM {k m:Nat}:((us.map SV.ag).take k).length+((us.map SV.ag).drop m).length<=1000:=aI (xt hp.DV hp.DW) (by decide)
theorem eC.la {k m:Nat}:(us.map SV.ag).length+(((us.map SV.ag).drop k).take m).length<=1000:=aI (xt (hp.len▸hp.l) (aI (xz _ _) hp.DW)) (by decide)
theorem eC.SN {t:af}:rS 0 (hc+1+1) [.int ((0:Nat):Int) t]:=⟨⟨t,rfl⟩,hp.c2.1,(iO hc 1 1▸iO hc (1+1) 10▸hp.cK (k:=1+1+10) (by decide) (by decide)).2⟩
theorem eC.down {d:k9} {inner:List Tr} {a:ac} {c:Nat} (g:hY n led d inner):eC (n -1) ((a,(⟨.type "list",none,.seq d.us.toArray c,#[]⟩:av))::led) a d.us c inner (hc+1+1) [.ref a]:=by
 exact ⟨rfl,.head _,bF.mono (λp h z=>.tail _ h) _ _ g.t,g.w,g.th,aI g.l (by decide),Nat.le_sub_of_add_le g.h,aI (Nat.sub_le _ _) hp.nn,hp.c2.1,mj (Kq (aI (lz 1 _) g.h)) hp.c.2⟩
theorem eC.sh:iC (.list (fe ts))=true:=IZ (aI hp.h (aI hp.nn (by decide)))
theorem eC.n1 {i:Int} (h0:0<=i) (h1:i<dW (us.map SV.ag).length):1<=n:=by
 have h:=hp.h
 rw [hp.len] at h1
 cases ts with
 |nil=>exact absurd h1 (sN.mpr h0)
 |cons t r=>exact aI (zm (a:=0) (ts:=t::r) rfl) h|>aI (lz 1 _)
theorem eC.rf {P:aB} {NN:Led} {i:Int} {v:aa} (hs:∀p∈led,p∈NN) (e:(vals (us.map SV.ag))[i.toNat]? =some v):∃d inner,uh P NN v d/\hY n led d inner:=by
 rw [fM] at e
 obtain ⟨⟨k,ns,inner⟩,e1,⟨⟨x,qn,qi,t,ws,n0,n1,DX,n2⟩,rfl,f1,f2,f3,f4,f5⟩⟩:=bF.at hp.t _ v e
 obtain ⟨τ,e2⟩:=wi f3
 have w:=zl hp.w e1
 have h:=aI (zm e1) hp.h
 have th:=J2 hp.th e1
 unfold WF at w
 unfold wr at th
 unfold hg at h
 have e3:ws=(vals (aQ ns τ)).toArray:=by rw [<-e2]
 rw [e3] at f2
 exact ⟨⟨x,qn,qi,k,t,ns,τ,DX.toList,n0,n1,n2⟩,inner,⟨rfl,hs _ f1,hs _ f2,hs _ f4⟩,⟨w.1,w.2.1,w.2.2.1,th.1,w.2.2.2.2,th.2,h,f5,f2,f4⟩⟩
theorem eC.xT {P:aB} {L:List LE} {oth:Led} {er:Int} {j:Nat} (lo:hc<=er/\er<=hc+(13*(n+1):Nat)):ii P (jG n led ts) hc er vs L oth (.own j q):=
 ⟨⟨q,bo P L++oth,er,us,nv,ts⟩,rfl,rfl,rfl,⟨aq _ hp.m,bF.mono (λp h z=>aq _ h) _ _ hp.t,hp.w,sI _,hp.h,lo.1,lo.2⟩⟩
omit hp in
theorem Kr {α:Type} (l:List α) (a:Nat):(l.take a).length+(l.drop (a+1)).length<=l.length:=by
 have h:=bW aN (sK a l)
 rw [ib] at h
 refine aI (jq ?_ _) (jr h)
 rw [mh,mh]
 exact Nat.sub_le_sub_left (sI a) _
theorem eC.zv {P:aB} {L:List LE} {oth:Led} {er i:Int} {j m m0:Nat} {r:ac} {x:SV} {f:Bool} {T:Tr} (i0:0<=i) (hm:L[m]? =some ⟨r,.lst ((us.map SV.ag).take i.toNat++[x]++(us.map SV.ag).drop (i+1).toNat) m0,f⟩) (hx:TR (led++(bo P L++oth)) T x.val) (hw:WF T) (hg:hg T+1<=n)
  (lo:hc<=er/\er<=hc+(13*(n+1):Nat)):ii P (jG n led ts) hc er vs L oth (.own j r):=by
 obtain ⟨a,rfl⟩:=ke i0
 have hm:=gF (P:=P) hm
 have e:vals ((us.map SV.ag).take a++[x]++(us.map SV.ag).drop (a+1))=us.take a++[x.val]++us.drop (a+1):=by
  rw [kR,kR,pB,pD,fM];rfl
 have hm:(r,(⟨.type "list",none,.seq (us.take a++[x.val]++us.drop (a+1)).toArray m0,#[]⟩:av))∈bo P L:=e▸hm
 have t:=bF.mono (led':=led++(bo P L++oth)) (λp h z=>aq _ h) _ _ hp.t
 refine ⟨⟨r,bo P L++oth,er,_,m0,ts.take a++[T]++ts.drop (a+1)⟩,rfl,rfl,rfl,⟨ay _ (aq _ hm),bF.app (bF.app (bF.take a t) ⟨_,[],rfl,hx,rfl⟩) (bF.drop _ t),wK (wK (zj _ hp.w) ⟨hw,trivial⟩) (zk _ hp.w), ?_,wL (wL (aI (zn _) hp.h) (Sh hg)) (aI (zo _) hp.h),lo.1,lo.2⟩⟩
 show(ts.take a++[T]++ts.drop (a+1)).length<=_
 rw [ib,ib,Nat.add_right_comm]
 exact dS (Kr ts a)
theorem eC.SP {P:aB} {L:List LE} {oth:Led} {er i:Int} {j m m0:Nat} {r:ac} {f:Bool} (i0:0<=i) (hm:L[m]? =some ⟨r,.lst ((us.map SV.ag).take i.toNat++(us.map SV.ag).drop (i+1).toNat) m0,f⟩)
  (lo:hc<=er/\er<=hc+(13*(n+1):Nat)):ii P (jG n led ts) hc er vs L oth (.own j r):=by
 obtain ⟨a,rfl⟩:=ke i0
 have hm:=gF (P:=P) hm
 have e:vals ((us.map SV.ag).take a++(us.map SV.ag).drop (a+1))=us.take a++us.drop (a+1):=by
  rw [kR,pB,pD,fM]
 have hm:(r,(⟨.type "list",none,.seq (us.take a++us.drop (a+1)).toArray m0,#[]⟩:av))∈bo P L:=e▸hm
 have t:=bF.mono (led':=led++(bo P L++oth)) (λp h z=>aq _ h) _ _ hp.t
 refine ⟨⟨r,bo P L++oth,er,_,m0,ts.take a++ts.drop (a+1)⟩,rfl,rfl,rfl,⟨ay _ (aq _ hm),bF.app (bF.take a t) (bF.drop _ t),wK (zj _ hp.w) (zk _ hp.w), ?_,wL (aI (zn _) hp.h) (aI (zo _) hp.h),lo.1,lo.2⟩⟩
 show(ts.take a++ts.drop (a+1)).length<=_
 rw [ib]
 exact An (Kr ts a)
theorem eC.Ks {P:aB} {L:List LE} {oth:Led} {er i:Int} {j m m0:Nat} {r:ac} {f:Bool} (i0:0<=i) (hm:L[m]? =some ⟨r,.lst (us.map SV.ag++((us.map SV.ag).drop i.toNat).take ((i+1).toNat -i.toNat)) m0,f⟩)
  (lo:hc<=er/\er<=hc+(13*(n+1):Nat)):ii P (jG n led ts) hc er vs L oth (.own j r):=by
 obtain ⟨a,rfl⟩:=ke i0
 have hm:=gF (P:=P) hm
 have e0:((dW a)+1).toNat -(dW a).toNat=1:=by
  exact Nat.add_sub_cancel_left a 1
 have e:vals (us.map SV.ag++((us.map SV.ag).drop a).take (((dW a)+1).toNat -(dW a).toNat))=us++(us.drop a).take 1:=by
  rw [e0,kR,pB,pD,fM]
 have hm:(r,(⟨.type "list",none,.seq (us++(us.drop a).take 1).toArray m0,#[]⟩:av))∈bo P L:=e▸hm
 have t:=bF.mono (led':=led++(bo P L++oth)) (λp h z=>aq _ h) _ _ hp.t
 refine ⟨⟨r,bo P L++oth,er,_,m0,ts++(ts.drop a).take 1⟩,rfl,rfl,rfl,⟨ay _ (aq _ hm),bF.app t (bF.take _ (bF.drop _ t)),wK hp.w (zj _ (zk _ hp.w)), ?_,wL hp.h (aI (zn _) (aI (zo _) hp.h)),lo.1,lo.2⟩⟩
 show(ts++(ts.drop a).take 1).length<=_
 rw [ib]
 exact jq (List.length_take_le 1 _) _
end
theorem hY.sh {n:Nat} {led:Led} {d:k9} {inner:List Tr} (g:hY n led d inner) (h:n<=20):iC (.tuple (fe inner))=true:=Ra (aI (Ao g.h) (aI h (by decide)))
section
variable {n:Nat} {led:Led} {d:k9} {inner:List Tr} (g:hY n led d inner)
include g
theorem hY.nl:(aQ d.ns d.τ).length<=8:=oH▸SG g.b g.k
theorem hY.pZ:(aQ d.ns d.τ).length<=1000:=aI g.nl (by decide)
theorem hY.il:(d.us.map SV.ag).length<=1000:=by
 rw [j0,bF.len g.t]
 exact aI g.l (by decide)
omit g in
theorem Kt (h:ec (.tuple (nums d.ns)) (.tuple [])=false):1<=(aQ d.ns d.τ).length:=by
 rw [SI] at h
 rw [oH]
 cases e:d.ns with
 |nil=>rw [e] at h;cases h
 |cons=>exact dS (da _)
omit g in
theorem zw {ns:List Nat} {τ:Nat->af} {i:Int} (h0:0<=i) (h1:i<dW (aQ ns τ).length):∃t,(vals (aQ ns τ))[i.toNat]? =some (.int (ns.getD i.toNat 0:Nat) t):=by
 obtain ⟨a,rfl⟩:=ke h0
 rw [oH] at h1
 have e:=qw (iA.mp h1)
 obtain ⟨t,z⟩:=Kj (τ:=τ) e
 refine ⟨t, ?_⟩
 show(vals (aQ ns τ))[a]? =some (.int (ns.getD a 0:Nat) t)
 rw [Fa,e]
 exact z
theorem hY.span {P:aB} {NN tl:Led} {us:List aa} {v:aa} (q:lM tl us) (e:(vals (us.map SV.ag))[(d.k:Int).toNat]? =some v):∃(a:ac) (τ:Nat->af) (m:Nat),ue P (tl++NN) v a (bz d.k) τ m:=J7 q g.k e
theorem hY.Ku {tl:Led} {us:List aa} (q:lM tl us):(d.k:Int)<dW (us.map SV.ag).length:=J6 q g.k
theorem hY.wS {i:Int} {τ:Nat->af} (h1:i<dW (aQ d.ns d.τ).length):i<dW (aQ (bz d.k) τ).length:=by
 rw [oH] at h1⊢
 rw [<-yU g.b]
 exact h1
theorem hY.qa {i:Int} (h0:0<=i) (h1:i<dW (aQ d.ns d.τ).length):(bz d.k)[i.toNat]? =some ((bz d.k).getD i.toNat 0)/\2<=(bz d.k).getD i.toNat 0:=by
 obtain ⟨a,rfl⟩:=ke h0
 have h1:=g.wS (τ:=d.τ) h1
 rw [oH] at h1
 have hl:=iA.mp h1
 have e:=qw hl
 show(bz d.k)[a]? =some ((bz d.k).getD a 0)/\2<=(bz d.k).getD a 0
 rw [Fa,e]
 exact ⟨rfl,((ub d.k g.k).2 _ (List.getElem_mem hl)).1⟩
theorem hY.Kv {τ:Nat->af}:(aQ (bz d.k) τ).length<=1000:=by
 rw [oH]
 exact aI (ub d.k g.k).1 (by decide)
theorem hY.SQ {P:aB} {L:List LE} {oth iI:Led} {z:List Tr} {us:List aa} {a5 a6:ac} {i5 i6 m5 m6 j1 j2:Nat} (h6:L[i6]? =some ⟨a6,.tup [.lit (.int (d.k:Int) d.t),.own j1 d.qn,.own j2 a5] m6,true⟩) (h5:L[i5]? =some ⟨a5,.tup (us.map SV.ag) m5,true⟩)
  (ht:bF iI z us) (hs:∀p∈iI,p.2.cls= .type "tuple"->p∈led++(bo P L++oth)):TR (led++(bo P L++oth)) (.mk d.k d.ns z) (.ref a6):=by
 have zy:=gF (P:=P) h5
 have zy:(a5,(⟨.type "tuple",none,.seq (vals (us.map SV.ag)).toArray m5,#[]⟩:av))∈bo P L:=zy
 rw [fM] at zy
 exact ⟨⟨a6,d.qn,a5,d.t,(vals (aQ d.ns d.τ)).toArray,m6,d.n1,us.toArray,m5⟩,rfl,ay _ (aq _ (gF h6)),aq _ g.m1,ut,ay _ (aq _ zy),bF.mono hs _ _ ht⟩
theorem hY.SR {z:List Tr} (bI:inner≠[]) (hl:z.length<=inner.length+1) (hw:dK z):WF (.mk d.k d.ns z):=by
 unfold WF
 exact ⟨g.k,g.b,λh=>absurd (g.hh h) bI,aI hl (aI (dS g.l) (by decide)),hw⟩
theorem hY.Kw {P:aB} {L ls:List LE} {oth:Led} {i:Int} {m sp:Nat} {DY ca q:ac} {cl:List SV} {i14 Kx j2 cn n':Nat} {cf:Bool} {tk:af} {ws:List aa} (gB:L[i14]? =some ⟨DY,.tup [.lit (.int (d.k:Int) d.t),.kn q ws n',.own j2 d.qi] Kx,true⟩) (h0:0<=i)
  (hz:le P (⟨ca,.lst cl cn,cf⟩::ls) oth q ws n') (hw:ws=vals ((aQ d.ns d.τ).take i.toNat)++[.int (hM ((m:Int)+1) (sp:Int)) tk]++vals ((aQ d.ns d.τ).drop (i+1).toNat)) (hL:∃r,L=ls++r) (DZ:2<=sp):TR (led++(bo P L++oth)) (.mk d.k (d.ns.take i.toNat++[(m+1)%sp]++d.ns.drop (i.toNat+1)) inner) (.ref DY):=by
 obtain ⟨a,rfl⟩:=ke h0
 obtain ⟨r,rfl⟩:=hL
 have hq:(q,(⟨.type "tuple",none,.seq ws.toArray n',#[]⟩:av))∈bo P (ls++r)++oth:=by
  rw [yo]
  rcases aM.mp hz.m with h|h
  ·rcases bj.mp h with h|h
   ·exact absurd (Value.type.inj (bW (λp:ac×av=>p.2.cls) h)) (by decide)
   ·exact aq _ (aq _ h)
  ·exact ay _ h
 refine ⟨⟨DY,q,d.qi,d.t,_,Kx,n',d.us.toArray,d.n2⟩,rfl,ay _ (aq _ (gF gB)),ay _ hq, ?_,aq _ g.m2,bF.mono (λp h z=>aq _ h) _ _ g.t⟩
 show IV ws _
 rw [hw]
 show IV (vals ((aQ d.ns d.τ).take a)++[.int (hM ((m:Int)+1) (sp:Int)) tk]++vals ((aQ d.ns d.τ).drop (a+1))) _
 rw [pB,pD,(Q9 (a:=m) (b:=sp) (Ap (by decide) DZ)).1]
 exact I0 a ut
theorem hY.Ky {i m sp:Nat} (e:(bz d.k)[i]? =some sp) (DZ:2<=sp):WF (.mk d.k (d.ns.take i++[(m+1)%sp]++d.ns.drop (i+1)) inner):=by
 unfold WF
 exact ⟨g.k,I1 (Nat.mod_lt _ (Ap (by decide) DZ)) i g.b e,g.hh,aI g.l (by decide),g.w⟩
end
theorem rY {i:Int}:i<=i+1:=Int.le_of_lt (Int.lt_add_one_of_le (vm i))
theorem D0 {k n:Nat} {ns:List Nat} {l:List Tr} (h:cA l+1<=n):hg (.mk k ns l)+1<=n:=by
 unfold hg
 exact h
theorem SU {k n:Nat} {ns:List Nat} {l:List Tr} (N1:1<=n) (h:cA l<=n -1):hg (.mk k ns l)+1<=n:=D0 (aI (dS h) (jr (vb N1)))
theorem SW {l:List Tr} (h:(!ec (.tuple (fe l)) (.tuple []))=true):l≠[]:=λe=>by rw [e] at h;cases h
theorem eC.pos {n:Nat} {led:Led} {q:ac} {us:List aa} {nv:Nat} {ts:List Tr} {hc:Int} {vs:List aa} (hp:eC n led q us nv ts hc vs) (h:ec (.list (fe ts)) (.list [])=false):1<=(us.map SV.ag).length:=by
 rw [hp.len]
 cases ts with
 |nil=>cases h
 |cons=>exact dS (da _)
theorem SX {P:aB} {ls:List LE} {led NN:Led} {a:ac} {us vs:List aa} {c i d:Nat} {f:Bool} {ts:List Tr} {x:Int} {z:rV} (h:ls[i]? =some ⟨a,.lst (us.map SV.ag) c,f⟩) (hs:∀p∈led,p∈NN) (hl:ts.length<=2) (q:uv d ((a,(⟨.type "list",none,.seq us.toArray c,#[]⟩:av))::led) ts x vs z):
  C9 P ls z.tl NN z.r z.us z.nv:=⟨by
 have m:=gF (P:=P) h
 have m:(a,(⟨.type "list",none,.seq (vals (us.map SV.ag)).toArray c,#[]⟩:av))∈bo P ls:=m
 rw [fM] at m
 rcases aM.mp q.m with h|h
 ·rcases bj.mp h with h|h
  ·rw [h];exact aq _ m
  ·exact ay _ (ay _ (hs _ h))
 ·exact ay _ (aq _ h),by
 rw [bF.len q.t]
 exact aI q.l (aI (dS hl) (by decide))⟩
theorem SY {led tl:Led} {l:Led} {a:ac} {us:List aa} {c:Nat}:∀p∈((a,(⟨.type "list",none,.seq us.toArray c,#[]⟩:av))::led)++tl,p.2.cls= .type "tuple"->p∈led++(l++tl):=λp hp e=>by
 rcases aM.mp hp with h|h
 ·rcases bj.mp h with h|h
  ·rw [h] at e;exact absurd (Value.type.inj e) (by decide)
  ·exact aq _ h
 ·exact ay _ (ay _ h)
theorem Kz {m:Nat} (h:2<=m):(m:Int)≠0:=by omega
theorem t8 {l:List SV} {k:Nat} (h:l.length<=8):(vals (l.take k)).length<=8:=eh _▸aI (xz _ _) h
theorem KA {l:List SV} {k:Nat} (h:l.length<=8):(vals (l.take k)).length+1<=1000:=aI (lC (t8 h) 1) (by decide)
theorem KB {l:List SV} {k m:Nat} {v:aa} (h:l.length<=8):(vals (l.take k)++[v]).length+(vals (l.drop m)).length<=1000:=aI (xt (aI (jr ib) (lC (t8 h) 1)) (eh _▸aI (mh▸Nat.sub_le _ _) h)) (by decide:8+1+8<=1000)
theorem eC.i1 {n:Nat} {led:Led} {q:ac} {us:List aa} {nv:Nat} {ts:List Tr} {hc x:Int} {vs:List aa} {t:af} {z:Int×af} (hp:eC n led q us nv ts hc vs) (h:ec (.list (fe ts)) (.list [])=false) (k:iZ x [.int (pz 1 ((us.map SV.ag).length:Int)) t] z):z.1<dW (us.map SV.ag).length:=
 lt_of_lt_of_eq (k.m _ _ rfl) ((DS (hp.len▸hp.l)).2.2 (hp.pos h))
theorem eC.all {n:Nat} {led:Led} {q:ac} {us:List aa} {nv:Nat} {ts:List Tr} {hc:Int} {vs:List aa} {P:aB} {NN:Led} (hp:eC n led q us nv ts hc vs) (hs:∀p∈led,p∈NN):∃(dv:Nat->k9) (iL:Nat->List Tr),∀(i:Nat) (v:aa),(vals (us.map SV.ag))[i]? =some v->uh P NN v (dv i)/\hY n led (dv i) (iL i):=by
 have H:∀i:Nat,∃x:k9×List Tr,∀v:aa,(vals (us.map SV.ag))[i]? =some v->uh P NN v x.1/\hY n led x.1 x.2:=λi=>by
  cases e:(vals (us.map SV.ag))[i]? with
  |none=>exact ⟨⟨⟨0,0,0,0,0,[],λz=>0,[],0,0,0⟩,[]⟩,λv h=>nomatch h⟩
  |some v=>
   obtain ⟨d,inner,h1,h2⟩:=hp.rf (P:=P) (i:=dW i) hs e
   exact ⟨⟨d,inner⟩,λu h=>by cases h;exact ⟨h1,h2⟩⟩
 obtain ⟨f,hf⟩:=Classical.axiomOfChoice H
 exact ⟨λi=>(f i).1,λi=>(f i).2,hf⟩
theorem gA {n:Nat} {led:Led} {us:List aa} {P:aB} {NN:Led} {dv:Nat->k9} {iL:Nat->List Tr} {i:Int} (h:∀(i:Nat) (v:aa),(vals (us.map SV.ag))[i]? =some v->uh P NN v (dv i)/\hY n led (dv i) (iL i)) (h0:0<=i) (h1:i<dW (us.map SV.ag).length):hY n led (dv i.toNat) (iL i.toNat):=by
 obtain ⟨a,rfl⟩:=ke h0
 rw [<-eh] at h1
 exact (h a _ (qw (iA.mp h1))).2
theorem eC.SZ {n:Nat} {led:Led} {q:ac} {us:List aa} {nv:Nat} {ts:List Tr} {hc:Int} {DT vs S0:List aa} (hp:eC n led q us nv ts hc DT) {P:aB} {L:List LE} {i:Int} {j m m0:Nat} {r:ac} {f:Bool} {z:pV} (i0:0<=i) (hm:L[m]? =some ⟨r,.lst ((us.map SV.ag).take i.toNat++[.ag z.r]++(us.map SV.ag).drop (i+1).toNat) m0,f⟩) (N1:1<=n) (qz:pW 0 (hc+1+1) S0 z):ii P (jG n led ts) hc z.c vs L z.tl (.own j r):=by
 obtain ⟨T,h1,h2,h3,y⟩:=qz.q
 exact hp.zv (m:=m) (T:=T) i0 hm (TR.mono (λu h u=>ay _ (ay _ h)) _ _ h1) h2 (aI (dS h3) N1) (SJ qz)
theorem KC (w:ah) (n:Nat) (IH:∀d,n=d+1->zq w d):zq w n:=λled q us nv ts=>Cw (50+10*n) 6 99 [((589,7),none),((589,19),none),((592,7),none),((594,7),none),((596,7),none),((596,20),none),((598,7),none),((601,13),some true)] (aI (jr (Nat.add_assoc 6 50 _).symm) (lC (by decide) _)) λnews ha hw hc tw tc hn vs aK hp=>by
 have e:=hp.e
 subst e
 obtain ⟨dv,iL,dn⟩:=hp.all (P:=w.params) aK
 have zB:50<=50+10*n:=oZ 50 _
 refine ⟨SD w.params news n led dv iL,SE w.params news ts dv iL,[⟨q,.lst (us.map SV.ag) nv,false⟩],[.own 1 q],⟨Re (aI (by decide) zB),pL,dZ Rb (dZ Rc (dZ I4 (dZ Rd km)))⟩,ey (C5 (aI (by decide) zB)) (ey (I3 (aI (by decide) zB)) (ey (Sz (aI (by decide) zB)) (ey (SA IH (cS _)) iS))),rfl,λp kl=> ?_,λv hv=> ?_,⟨trivial,trivial⟩,λe he=>by rw [bN.mp he],λtk=> ?_⟩
 ·rw [bN.mp kl]
  show(q,(⟨.type "list",none,.seq (vals (us.map SV.ag)).toArray nv,#[]⟩:av))∈_
  rw [fM]
  exact hp.m
 ·rcases bj.mp hv with rfl|hv
  ·exact ⟨_,rfl,rfl⟩
  ·rw [show jj [⟨q,.lst (us.map SV.ag) nv,false⟩]=us.map SV.ag++[] from rfl,iy] at hv
   exact jk v hv
 refine @cD _ ((True/\k7 hc [am 5 (tk+2)])/\ ∀(b1:Int×af) (b2:Int) (b3 b4:af) (b5:Nat) (b6:af),iZ hc [am 5 (tk+2)] b1->aN (aA SV.ag us)<=1000/\ ∀(b8:af),(True/\k7 (hc+1) [am (pz 1 (((aN (aA SV.ag us)):Nat):Int)) (Bo 1 ((((aN (aA SV.ag us)):Nat):Int)) b6 (b6+2))])/\ ∀(b9:Int×af) (aH:Int) (bq bJ:af) (bY:Nat) (bt:af),iZ (hc+1) [am (pz 1 (((aN (aA SV.ag us)):Nat):Int)) (Bo 1 ((((aN (aA SV.ag us)):Nat):Int)) b6 (b6+2))] b9-> ∀(bx:ac),((b1.1==0)=true->Sep [ha,bx] []->ii w.2 (jG n led ts) hc (hc+1+1) [ae q] [LE.mk bx (SO.tup [li b1.1 b1.2,li b9.1 b9.2] 0) true] [] (SV.own 1 q))/\((b1.1==0)=false-> ∀(cw:ac),(lf [] news (aA SV.ag us) (fe ts)/\iC (qs (fe ts))=true)/\(lf [] news [] []/\true=true)/\(ec (qs (fe ts)) (qs [])=true->Sep [ha,bx,cw] []->ii w.2 (jG n led ts) hc (hc+1+1) [ae q] [LE.mk bx (SO.tup [li b1.1 b1.2,li b9.1 b9.2] 0) true,LE.mk cw (SO.lst [] 0) true] [] (SV.own 1 q))/\(ec (qs (fe ts)) (qs [])=false->(0<=b9.1/\b9.1<dW (aN (aA SV.ag us))/\aN (aA SV.ag us)<=1000)/\(∀(fF:aa),(vals (aA SV.ag us))[aj b9.1]? =some fF->uh w.2 news fF (dv (aj b9.1)))/\((b1.1==1)=true->aN (aA SV.ag us)<=1000/\0<=b9.1/\ ∀(jE:ac),(True/\rS 0 (hc+1+1) [am 0 (bt+7)])/\ ∀(fU:pV) (dQ:Int) (fT bG:af) (cr:Nat) (bu:af),pW 0 (hc+1+1) [am 0 (bt+7)] fU-> ∀(fE:ac),aN (cN (aj b9.1) (aA SV.ag us))+1<=1000/\ ∀(gk:ac),aN (aA SV.ag us)<=1000/\0<=b9.1+1/\ ∀(lU:ac),aN (cN (aj b9.1) (aA SV.ag us)++[SV.ag fU.1])+aN (eQ (aj (b9.1+1)) (aA SV.ag us))<=1000/\ ∀(gJ:ac),Sep [ha,bx,cw,jE,fE,gk,lU,gJ] fU.2->ii w.2 (jG n led ts) hc fU.3 [ae q] [LE.mk bx (SO.tup [li b1.1 b1.2,li b9.1 b9.2] 0) true,LE.mk cw (SO.lst [] 0) true,LE.mk jE (SO.lst (cN (aj b9.1) (aA SV.ag us)) 0) true,LE.mk fE (SO.lst [SV.ag fU.1] 0) true,LE.mk gk (SO.lst (cN (aj b9.1) (aA SV.ag us)++[SV.ag fU.1]) 0) true,LE.mk lU (SO.lst (eQ (aj (b9.1+1)) (aA SV.ag us)) 0) true,LE.mk gJ (SO.lst (cN (aj b9.1) (aA SV.ag us)++[SV.ag fU.1]++eQ (aj (b9.1+1)) (aA SV.ag us)) 0) true] fU.2 (SV.own 11 gJ))/\((b1.1==1)=false->((b1.1==2)=true->aN (aA SV.ag us)<=1000/\0<=b9.1/\ ∀(fU:ac),aN (aA SV.ag us)<=1000/\0<=b9.1+1/\ ∀(dQ:ac),aN (cN (aj b9.1) (aA SV.ag us))+aN (eQ (aj (b9.1+1)) (aA SV.ag us))<=1000/\ ∀(fT:ac),Sep [ha,bx,cw,fU,dQ,fT] []->ii w.2 (jG n led ts) hc (hc+1+1) [ae q] [LE.mk bx (SO.tup [li b1.1 b1.2,li b9.1 b9.2] 0) true,LE.mk cw (SO.lst [] 0) true,LE.mk fU (SO.lst (cN (aj b9.1) (aA SV.ag us)) 0) true,LE.mk dQ (SO.lst (eQ (aj (b9.1+1)) (aA SV.ag us)) 0) true,LE.mk fT (SO.lst (cN (aj b9.1) (aA SV.ag us)++eQ (aj (b9.1+1)) (aA SV.ag us)) 0) true] [] (SV.own 9 fT))/\((b1.1==2)=false->((b1.1==3)=true-> ∀(dQ:ac),(lf [] news (aA SV.ag (dv (aj b9.1)).8) (fe (iL (aj b9.1)))/\iC (de (fe (iL (aj b9.1))))=true)/\(lf [] news [] []/\true=true)/\((!ec (de (fe (iL (aj b9.1)))) (de []))=true->aN (aA SV.ag us)<=1000/\0<=b9.1/\ ∀(bG:ac),aN (aA SV.ag (dv (aj b9.1)).8)<=1000/\ ∀(cr:Nat) (bu:ac),n=n -1+1/\(SubL w.2 ((bu,aZ (aw "list") none (cZ (di (dv (aj b9.1)).8) cr) (di []))::led) [LE.mk q (SO.lst (aA SV.ag us) nv) false,LE.mk bx (SO.tup [li b1.1 b1.2,li b9.1 b9.2] 0) true,LE.mk cw (SO.lst [] 0) true,LE.mk (dv (aj b9.1)).2 (SO.tup (aQ (dv (aj b9.1)).6 (dv (aj b9.1)).7) (dv (aj b9.1)).10) false,LE.mk (dv (aj b9.1)).3 (SO.tup (aA SV.ag (dv (aj b9.1)).8) (dv (aj b9.1)).11) false,LE.mk (dv (aj b9.1)).1 (SO.tup [li ((((dv (aj b9.1)).4:Nat):Int)) (dv (aj b9.1)).5,SV.own 4 (dv (aj b9.1)).2,SV.own 5 (dv (aj b9.1)).3] (dv (aj b9.1)).9) false,LE.mk dQ (SO.tup [] 0) true,LE.mk bG (SO.lst (cN (aj b9.1) (aA SV.ag us)) 0) true,LE.mk bu (SO.lst (aA SV.ag (dv (aj b9.1)).8) cr) true] [] news/\eC (n -1) ((bu,aZ (aw "list") none (cZ (di (dv (aj b9.1)).8) cr) (di []))::led) bu (dv (aj b9.1)).8 cr (iL (aj b9.1)) (hc+1+1) [ae bu])/\ ∀(eJ:rV) (fE:Int) (gk lU:af) (gJ:Nat) (mS:af),uv (n -1) ((bu,aZ (aw "list") none (cZ (di (dv (aj b9.1)).8) cr) (di []))::led) (iL (aj b9.1)) (hc+1+1) [ae bu] eJ->C9 w.2 [LE.mk ha (SO.lst [li fE gk,li eJ.3 lU] gJ) true,LE.mk q (SO.lst (aA SV.ag us) nv) false,LE.mk bx (SO.tup [li b1.1 b1.2,li b9.1 b9.2] 0) true,LE.mk cw (SO.lst [] 0) true,LE.mk (dv (aj b9.1)).2 (SO.tup (aQ (dv (aj b9.1)).6 (dv (aj b9.1)).7) (dv (aj b9.1)).10) false,LE.mk (dv (aj b9.1)).3 (SO.tup (aA SV.ag (dv (aj b9.1)).8) (dv (aj b9.1)).11) false,LE.mk (dv (aj b9.1)).1 (SO.tup [li ((((dv (aj b9.1)).4:Nat):Int)) (dv (aj b9.1)).5,SV.own 4 (dv (aj b9.1)).2,SV.own 5 (dv (aj b9.1)).3] (dv (aj b9.1)).9) false,LE.mk dQ (SO.tup [] 0) true,LE.mk bG (SO.lst (cN (aj b9.1) (aA SV.ag us)) 0) true,LE.mk bu (SO.lst (aA SV.ag (dv (aj b9.1)).8) cr) true] eJ.2 news eJ.1 eJ.4 eJ.5/\ ∀(jl ff iw:ac),aN (cN (aj b9.1) (aA SV.ag us))+1<=1000/\ ∀(jm:ac),aN (aA SV.ag us)<=1000/\0<=b9.1+1/\ ∀(kt:ac),aN (cN (aj b9.1) (aA SV.ag us)++[SV.own 11 ff])+aN (eQ (aj (b9.1+1)) (aA SV.ag us))<=1000/\ ∀(D1:ac),Sep [ha,bx,cw,dQ,bG,bu,jl,ff,iw,jm,kt,D1] eJ.2->ii w.2 (jG n led ts) hc eJ.3 [ae q] [LE.mk bx (SO.tup [li b1.1 b1.2,li b9.1 b9.2] 0) true,LE.mk cw (SO.lst [] 0) true,LE.mk dQ (SO.tup [] 0) true,LE.mk bG (SO.lst (cN (aj b9.1) (aA SV.ag us)) 0) true,LE.mk bu (SO.lst (aA SV.ag (dv (aj b9.1)).8) cr) true,LE.mk jl (SO.tup (aA SV.ag eJ.4) 0) true,LE.mk ff (SO.tup [li ((((dv (aj b9.1)).4:Nat):Int)) (dv (aj b9.1)).5,SV.own 4 (dv (aj b9.1)).2,SV.own 10 jl] 0) true,LE.mk iw (SO.lst [SV.own 11 ff] 0) true,LE.mk jm (SO.lst (cN (aj b9.1) (aA SV.ag us)++[SV.own 11 ff]) 0) true,LE.mk kt (SO.lst (eQ (aj (b9.1+1)) (aA SV.ag us)) 0) true,LE.mk D1 (SO.lst (cN (aj b9.1) (aA SV.ag us)++[SV.own 11 ff]++eQ (aj (b9.1+1)) (aA SV.ag us)) 0) true] eJ.2 (SV.own 15 D1))/\((!ec (de (fe (iL (aj b9.1)))) (de []))=false-> ∀(bG:ac),(lf [] news (aQ (dv (aj b9.1)).6 (dv (aj b9.1)).7) (nums (dv (aj b9.1)).6)/\iC (de (nums (dv (aj b9.1)).6))=true)/\(lf [] news [] []/\true=true)/\(ec (de (nums (dv (aj b9.1)).6)) (de [])=true->aN (aA SV.ag us)<=1000/\(0<=b9.1/\b9.1<=b9.1+1/\b9.1+1<=(((aN (aA SV.ag us)):Nat):Int))/\ ∀(bu:ac),aN (aA SV.ag us)+aN (cN (aj (b9.1+1) -aj b9.1) (eQ (aj b9.1) (aA SV.ag us)))<=1000/\ ∀(eJ:ac),Sep [ha,bx,cw,dQ,bG,bu,eJ] []->ii w.2 (jG n led ts) hc (hc+1+1) [ae q] [LE.mk bx (SO.tup [li b1.1 b1.2,li b9.1 b9.2] 0) true,LE.mk cw (SO.lst [] 0) true,LE.mk dQ (SO.tup [] 0) true,LE.mk bG (SO.tup [] 0) true,LE.mk bu (SO.lst (cN (aj (b9.1+1) -aj b9.1) (eQ (aj b9.1) (aA SV.ag us))) 0) true,LE.mk eJ (SO.lst (aA SV.ag us++cN (aj (b9.1+1) -aj b9.1) (eQ (aj b9.1) (aA SV.ag us))) 0) true] [] (SV.own 10 eJ))/\(ec (de (nums (dv (aj b9.1)).6)) (de [])=false->aN (aQ (dv (aj b9.1)).6 (dv (aj b9.1)).7)<=1000/\(True/\k7 (hc+1+1) [am ((((aN (aQ (dv (aj b9.1)).6 (dv (aj b9.1)).7)):Nat):Int)) (bt+10)])/\ ∀(bu:Int×af) (eJ:Int) (fE gk:af) (lU:Nat) (gJ:af),iZ (hc+1+1) [am ((((aN (aQ (dv (aj b9.1)).6 (dv (aj b9.1)).7)):Nat):Int)) (bt+10)] bu->(0<=bu.1/\bu.1<dW (aN (aQ (dv (aj b9.1)).6 (dv (aj b9.1)).7))/\aN (aQ (dv (aj b9.1)).6 (dv (aj b9.1)).7)<=1000)/\(∃(gw:af),(vals (aQ (dv (aj b9.1)).6 (dv (aj b9.1)).7))[aj bu.1]? =some (am ((((dD (dv (aj b9.1)).6 (aj bu.1) 0):Nat):Int)) gw))/\ ∀(gw:af) (jl:ac) (ff:List aa) (iw:Nat) (jm:Led) (kt:af),cH [] jm->lM jm ff->aN ff<=15->(0<=(((dv (aj b9.1)).4:Nat):Int)/\(((dv (aj b9.1)).4:Nat):Int)<dW (aN (aA SV.ag ff))/\aN (aA SV.ag ff)<=1000)/\ ∀(lS:aa),(vals (aA SV.ag ff))[aj (((dv (aj b9.1)).4:Nat):Int)]? =some lS->(∃(mW:ac),∃(kx:Nat->af),∃(qd:Nat),ue w.2 (jm++news) lS mW (bz (dv (aj b9.1)).4) kx qd)/\ ∀(mW:ac) (kx:Nat->af) (qd:Nat),(0<=bu.1/\bu.1<dW (aN (aQ (bz (dv (aj b9.1)).4) kx))/\aN (aQ (bz (dv (aj b9.1)).4) kx)<=1000)/\(∃(ku:af),(vals (aQ (bz (dv (aj b9.1)).4) kx))[aj bu.1]? =some (am ((((dD (bz (dv (aj b9.1)).4) (aj bu.1) 0):Nat):Int)) ku))/\ ∀(ku:af),(((dD (bz (dv (aj b9.1)).4) (aj bu.1) 0):Nat):Int)≠0/\aN (aA SV.ag us)<=1000/\0<=b9.1/\ ∀(kv:ac),aN (aQ (dv (aj b9.1)).6 (dv (aj b9.1)).7)<=1000/\(0<=bu.1/\bu.1<(((aN (aQ (dv (aj b9.1)).6 (dv (aj b9.1)).7)):Nat):Int))/\ ∀(mT mU:ac),aN (vals (cN (aj bu.1) (aQ (dv (aj b9.1)).6 (dv (aj b9.1)).7)))+1<=1000/\ ∀(mV:ac) (DQ:Nat) (mX:Led),le w.2 [LE.mk ha (SO.lst [li eJ fE,li (hc+1+1+1) gk] lU) true,LE.mk bx (SO.tup [li b1.1 b1.2,li b9.1 b9.2] 0) true,LE.mk cw (SO.lst [] 0) true,LE.mk dQ (SO.tup [] 0) true,LE.mk bG (SO.tup [] 0) true,LE.mk kv (SO.lst (cN (aj b9.1) (aA SV.ag us)) 0) true,LE.mk mT (SO.tup (cN (aj bu.1) (aQ (dv (aj b9.1)).6 (dv (aj b9.1)).7)) 0) true,LE.mk mU (SO.tup [li (hM ((((dD (dv (aj b9.1)).6 (aj bu.1) 0):Nat):Int)+1) (((dD (bz (dv (aj b9.1)).4) (aj bu.1) 0):Nat):Int)) kt] 0) true] (jm++mX) mV (vals (cN (aj bu.1) (aQ (dv (aj b9.1)).6 (dv (aj b9.1)).7))++[am (hM ((((dD (dv (aj b9.1)).6 (aj bu.1) 0):Nat):Int)+1) (((dD (bz (dv (aj b9.1)).4) (aj bu.1) 0):Nat):Int)) kt]) DQ->aN (aQ (dv (aj b9.1)).6 (dv (aj b9.1)).7)<=1000/\(1<=bu.1+1/\bu.1+1<=(((aN (aQ (dv (aj b9.1)).6 (dv (aj b9.1)).7)):Nat):Int))/\ ∀(rZ:ac),le w.2 [LE.mk ha (SO.lst [li eJ fE,li (hc+1+1+1) gk] lU) true,LE.mk bx (SO.tup [li b1.1 b1.2,li b9.1 b9.2] 0) true,LE.mk cw (SO.lst [] 0) true,LE.mk dQ (SO.tup [] 0) true,LE.mk bG (SO.tup [] 0) true,LE.mk kv (SO.lst (cN (aj b9.1) (aA SV.ag us)) 0) true,LE.mk mT (SO.tup (cN (aj bu.1) (aQ (dv (aj b9.1)).6 (dv (aj b9.1)).7)) 0) true,LE.mk mU (SO.tup [li (hM ((((dD (dv (aj b9.1)).6 (aj bu.1) 0):Nat):Int)+1) (((dD (bz (dv (aj b9.1)).4) (aj bu.1) 0):Nat):Int)) kt] 0) true,LE.mk rZ (SO.tup (eQ (aj (bu.1+1)) (aQ (dv (aj b9.1)).6 (dv (aj b9.1)).7)) 0) true] (jm++mX) mV (vals (cN (aj bu.1) (aQ (dv (aj b9.1)).6 (dv (aj b9.1)).7))++[am (hM ((((dD (dv (aj b9.1)).6 (aj bu.1) 0):Nat):Int)+1) (((dD (bz (dv (aj b9.1)).4) (aj bu.1) 0):Nat):Int)) kt]) DQ/\aN (vals (cN (aj bu.1) (aQ (dv (aj b9.1)).6 (dv (aj b9.1)).7))++[am (hM ((((dD (dv (aj b9.1)).6 (aj bu.1) 0):Nat):Int)+1) (((dD (bz (dv (aj b9.1)).4) (aj bu.1) 0):Nat):Int)) kt])+aN (vals (eQ (aj (bu.1+1)) (aQ (dv (aj b9.1)).6 (dv (aj b9.1)).7)))<=1000/\ ∀(uw:ac) (KD:Nat) (mY:Led),le w.2 [LE.mk ha (SO.lst [li eJ fE,li (hc+1+1+1) gk] lU) true,LE.mk bx (SO.tup [li b1.1 b1.2,li b9.1 b9.2] 0) true,LE.mk cw (SO.lst [] 0) true,LE.mk dQ (SO.tup [] 0) true,LE.mk bG (SO.tup [] 0) true,LE.mk kv (SO.lst (cN (aj b9.1) (aA SV.ag us)) 0) true,LE.mk mT (SO.tup (cN (aj bu.1) (aQ (dv (aj b9.1)).6 (dv (aj b9.1)).7)) 0) true,LE.mk mU (SO.tup [li (hM ((((dD (dv (aj b9.1)).6 (aj bu.1) 0):Nat):Int)+1) (((dD (bz (dv (aj b9.1)).4) (aj bu.1) 0):Nat):Int)) kt] 0) true,LE.mk rZ (SO.tup (eQ (aj (bu.1+1)) (aQ (dv (aj b9.1)).6 (dv (aj b9.1)).7)) 0) true] (jm++mX++mY) uw (vals (cN (aj bu.1) (aQ (dv (aj b9.1)).6 (dv (aj b9.1)).7))++[am (hM ((((dD (dv (aj b9.1)).6 (aj bu.1) 0):Nat):Int)+1) (((dD (bz (dv (aj b9.1)).4) (aj bu.1) 0):Nat):Int)) kt]++vals (eQ (aj (bu.1+1)) (aQ (dv (aj b9.1)).6 (dv (aj b9.1)).7))) KD-> ∀(oJ wT:ac),aN (cN (aj b9.1) (aA SV.ag us))+1<=1000/\ ∀(ux:ac),aN (aA SV.ag us)<=1000/\0<=b9.1+1/\ ∀(KE:ac),aN (cN (aj b9.1) (aA SV.ag us)++[SV.own 15 oJ])+aN (eQ (aj (b9.1+1)) (aA SV.ag us))<=1000/\ ∀(D2:ac),Sep [ha,bx,cw,dQ,bG,kv,mT,mU,rZ,oJ,wT,ux,KE,D2] (jm++mX++mY)->ii w.2 (jG n led ts) hc (hc+1+1+1) [ae q] [LE.mk bx (SO.tup [li b1.1 b1.2,li b9.1 b9.2] 0) true,LE.mk cw (SO.lst [] 0) true,LE.mk dQ (SO.tup [] 0) true,LE.mk bG (SO.tup [] 0) true,LE.mk kv (SO.lst (cN (aj b9.1) (aA SV.ag us)) 0) true,LE.mk mT (SO.tup (cN (aj bu.1) (aQ (dv (aj b9.1)).6 (dv (aj b9.1)).7)) 0) true,LE.mk mU (SO.tup [li (hM ((((dD (dv (aj b9.1)).6 (aj bu.1) 0):Nat):Int)+1) (((dD (bz (dv (aj b9.1)).4) (aj bu.1) 0):Nat):Int)) kt] 0) true,LE.mk rZ (SO.tup (eQ (aj (bu.1+1)) (aQ (dv (aj b9.1)).6 (dv (aj b9.1)).7)) 0) true,LE.mk oJ (SO.tup [li ((((dv (aj b9.1)).4:Nat):Int)) (dv (aj b9.1)).5,SV.kn uw (vals (cN (aj bu.1) (aQ (dv (aj b9.1)).6 (dv (aj b9.1)).7))++[am (hM ((((dD (dv (aj b9.1)).6 (aj bu.1) 0):Nat):Int)+1) (((dD (bz (dv (aj b9.1)).4) (aj bu.1) 0):Nat):Int)) kt]++vals (eQ (aj (bu.1+1)) (aQ (dv (aj b9.1)).6 (dv (aj b9.1)).7))) KD,SV.own 5 (dv (aj b9.1)).3] 0) true,LE.mk wT (SO.lst [SV.own 15 oJ] 0) true,LE.mk ux (SO.lst (cN (aj b9.1) (aA SV.ag us)++[SV.own 15 oJ]) 0) true,LE.mk KE (SO.lst (eQ (aj (b9.1+1)) (aA SV.ag us)) 0) true,LE.mk D2 (SO.lst (cN (aj b9.1) (aA SV.ag us)++[SV.own 15 oJ]++eQ (aj (b9.1+1)) (aA SV.ag us)) 0) true] (jm++mX++mY) (SV.own 19 D2))))/\((b1.1==3)=false-> ∀(dQ:ac),(lf [] news (aQ (dv (aj b9.1)).6 (dv (aj b9.1)).7) (nums (dv (aj b9.1)).6)/\iC (de (nums (dv (aj b9.1)).6))=true)/\(lf [] news [] []/\true=true)/\(ec (de (nums (dv (aj b9.1)).6)) (de [])=true->aN (aA SV.ag us)<=1000/\(0<=b9.1/\b9.1<=b9.1+1/\b9.1+1<=(((aN (aA SV.ag us)):Nat):Int))/\ ∀(bG:ac),aN (aA SV.ag us)+aN (cN (aj (b9.1+1) -aj b9.1) (eQ (aj b9.1) (aA SV.ag us)))<=1000/\ ∀(cr:ac),Sep [ha,bx,cw,dQ,bG,cr] []->ii w.2 (jG n led ts) hc (hc+1+1) [ae q] [LE.mk bx (SO.tup [li b1.1 b1.2,li b9.1 b9.2] 0) true,LE.mk cw (SO.lst [] 0) true,LE.mk dQ (SO.tup [] 0) true,LE.mk bG (SO.lst (cN (aj (b9.1+1) -aj b9.1) (eQ (aj b9.1) (aA SV.ag us))) 0) true,LE.mk cr (SO.lst (aA SV.ag us++cN (aj (b9.1+1) -aj b9.1) (eQ (aj b9.1) (aA SV.ag us))) 0) true] [] (SV.own 9 cr))/\(ec (de (nums (dv (aj b9.1)).6)) (de [])=false->aN (aQ (dv (aj b9.1)).6 (dv (aj b9.1)).7)<=1000/\(True/\k7 (hc+1+1) [am ((((aN (aQ (dv (aj b9.1)).6 (dv (aj b9.1)).7)):Nat):Int)) (bt+10)])/\ ∀(bG:Int×af) (cr:Int) (bu eJ:af) (fE:Nat) (gk:af),iZ (hc+1+1) [am ((((aN (aQ (dv (aj b9.1)).6 (dv (aj b9.1)).7)):Nat):Int)) (bt+10)] bG->(0<=bG.1/\bG.1<dW (aN (aQ (dv (aj b9.1)).6 (dv (aj b9.1)).7))/\aN (aQ (dv (aj b9.1)).6 (dv (aj b9.1)).7)<=1000)/\(∃(gJ:af),(vals (aQ (dv (aj b9.1)).6 (dv (aj b9.1)).7))[aj bG.1]? =some (am ((((dD (dv (aj b9.1)).6 (aj bG.1) 0):Nat):Int)) gJ))/\ ∀(gJ:af) (mS:ac) (gw:List aa) (jl:Nat) (ff:Led) (iw:af),cH [] ff->lM ff gw->aN gw<=15->(0<=(((dv (aj b9.1)).4:Nat):Int)/\(((dv (aj b9.1)).4:Nat):Int)<dW (aN (aA SV.ag gw))/\aN (aA SV.ag gw)<=1000)/\ ∀(jF:aa),(vals (aA SV.ag gw))[aj (((dv (aj b9.1)).4:Nat):Int)]? =some jF->(∃(lS:ac),∃(lk:Nat->af),∃(mW:Nat),ue w.2 (ff++news) jF lS (bz (dv (aj b9.1)).4) lk mW)/\ ∀(lS:ac) (lk:Nat->af) (mW:Nat),(0<=bG.1/\bG.1<dW (aN (aQ (bz (dv (aj b9.1)).4) lk))/\aN (aQ (bz (dv (aj b9.1)).4) lk)<=1000)/\(∃(kx:af),(vals (aQ (bz (dv (aj b9.1)).4) lk))[aj bG.1]? =some (am ((((dD (bz (dv (aj b9.1)).4) (aj bG.1) 0):Nat):Int)) kx))/\ ∀(kx:af),(((dD (bz (dv (aj b9.1)).4) (aj bG.1) 0):Nat):Int)≠0/\aN (aA SV.ag us)<=1000/\0<=b9.1/\ ∀(qd:ac),aN (aQ (dv (aj b9.1)).6 (dv (aj b9.1)).7)<=1000/\(0<=bG.1/\bG.1<(((aN (aQ (dv (aj b9.1)).6 (dv (aj b9.1)).7)):Nat):Int))/\ ∀(ku kv:ac),aN (vals (cN (aj bG.1) (aQ (dv (aj b9.1)).6 (dv (aj b9.1)).7)))+1<=1000/\ ∀(mT:ac) (mU:Nat) (mV:Led),le w.2 [LE.mk ha (SO.lst [li cr bu,li (hc+1+1+1) eJ] fE) true,LE.mk bx (SO.tup [li b1.1 b1.2,li b9.1 b9.2] 0) true,LE.mk cw (SO.lst [] 0) true,LE.mk dQ (SO.tup [] 0) true,LE.mk qd (SO.lst (cN (aj b9.1) (aA SV.ag us)) 0) true,LE.mk ku (SO.tup (cN (aj bG.1) (aQ (dv (aj b9.1)).6 (dv (aj b9.1)).7)) 0) true,LE.mk kv (SO.tup [li (hM ((((dD (dv (aj b9.1)).6 (aj bG.1) 0):Nat):Int)+1) (((dD (bz (dv (aj b9.1)).4) (aj bG.1) 0):Nat):Int)) iw] 0) true] (ff++mV) mT (vals (cN (aj bG.1) (aQ (dv (aj b9.1)).6 (dv (aj b9.1)).7))++[am (hM ((((dD (dv (aj b9.1)).6 (aj bG.1) 0):Nat):Int)+1) (((dD (bz (dv (aj b9.1)).4) (aj bG.1) 0):Nat):Int)) iw]) mU->aN (aQ (dv (aj b9.1)).6 (dv (aj b9.1)).7)<=1000/\(1<=bG.1+1/\bG.1+1<=(((aN (aQ (dv (aj b9.1)).6 (dv (aj b9.1)).7)):Nat):Int))/\ ∀(mX:ac),le w.2 [LE.mk ha (SO.lst [li cr bu,li (hc+1+1+1) eJ] fE) true,LE.mk bx (SO.tup [li b1.1 b1.2,li b9.1 b9.2] 0) true,LE.mk cw (SO.lst [] 0) true,LE.mk dQ (SO.tup [] 0) true,LE.mk qd (SO.lst (cN (aj b9.1) (aA SV.ag us)) 0) true,LE.mk ku (SO.tup (cN (aj bG.1) (aQ (dv (aj b9.1)).6 (dv (aj b9.1)).7)) 0) true,LE.mk kv (SO.tup [li (hM ((((dD (dv (aj b9.1)).6 (aj bG.1) 0):Nat):Int)+1) (((dD (bz (dv (aj b9.1)).4) (aj bG.1) 0):Nat):Int)) iw] 0) true,LE.mk mX (SO.tup (eQ (aj (bG.1+1)) (aQ (dv (aj b9.1)).6 (dv (aj b9.1)).7)) 0) true] (ff++mV) mT (vals (cN (aj bG.1) (aQ (dv (aj b9.1)).6 (dv (aj b9.1)).7))++[am (hM ((((dD (dv (aj b9.1)).6 (aj bG.1) 0):Nat):Int)+1) (((dD (bz (dv (aj b9.1)).4) (aj bG.1) 0):Nat):Int)) iw]) mU/\aN (vals (cN (aj bG.1) (aQ (dv (aj b9.1)).6 (dv (aj b9.1)).7))++[am (hM ((((dD (dv (aj b9.1)).6 (aj bG.1) 0):Nat):Int)+1) (((dD (bz (dv (aj b9.1)).4) (aj bG.1) 0):Nat):Int)) iw])+aN (vals (eQ (aj (bG.1+1)) (aQ (dv (aj b9.1)).6 (dv (aj b9.1)).7)))<=1000/\ ∀(KG:ac) (rZ:Nat) (uw:Led),le w.2 [LE.mk ha (SO.lst [li cr bu,li (hc+1+1+1) eJ] fE) true,LE.mk bx (SO.tup [li b1.1 b1.2,li b9.1 b9.2] 0) true,LE.mk cw (SO.lst [] 0) true,LE.mk dQ (SO.tup [] 0) true,LE.mk qd (SO.lst (cN (aj b9.1) (aA SV.ag us)) 0) true,LE.mk ku (SO.tup (cN (aj bG.1) (aQ (dv (aj b9.1)).6 (dv (aj b9.1)).7)) 0) true,LE.mk kv (SO.tup [li (hM ((((dD (dv (aj b9.1)).6 (aj bG.1) 0):Nat):Int)+1) (((dD (bz (dv (aj b9.1)).4) (aj bG.1) 0):Nat):Int)) iw] 0) true,LE.mk mX (SO.tup (eQ (aj (bG.1+1)) (aQ (dv (aj b9.1)).6 (dv (aj b9.1)).7)) 0) true] (ff++mV++uw) KG (vals (cN (aj bG.1) (aQ (dv (aj b9.1)).6 (dv (aj b9.1)).7))++[am (hM ((((dD (dv (aj b9.1)).6 (aj bG.1) 0):Nat):Int)+1) (((dD (bz (dv (aj b9.1)).4) (aj bG.1) 0):Nat):Int)) iw]++vals (eQ (aj (bG.1+1)) (aQ (dv (aj b9.1)).6 (dv (aj b9.1)).7))) rZ-> ∀(mY KH:ac),aN (cN (aj b9.1) (aA SV.ag us))+1<=1000/\ ∀(oJ:ac),aN (aA SV.ag us)<=1000/\0<=b9.1+1/\ ∀(wT:ac),aN (cN (aj b9.1) (aA SV.ag us)++[SV.own 14 mY])+aN (eQ (aj (b9.1+1)) (aA SV.ag us))<=1000/\ ∀(ux:ac),Sep [ha,bx,cw,dQ,qd,ku,kv,mX,mY,KH,oJ,wT,ux] (ff++mV++uw)->ii w.2 (jG n led ts) hc (hc+1+1+1) [ae q] [LE.mk bx (SO.tup [li b1.1 b1.2,li b9.1 b9.2] 0) true,LE.mk cw (SO.lst [] 0) true,LE.mk dQ (SO.tup [] 0) true,LE.mk qd (SO.lst (cN (aj b9.1) (aA SV.ag us)) 0) true,LE.mk ku (SO.tup (cN (aj bG.1) (aQ (dv (aj b9.1)).6 (dv (aj b9.1)).7)) 0) true,LE.mk kv (SO.tup [li (hM ((((dD (dv (aj b9.1)).6 (aj bG.1) 0):Nat):Int)+1) (((dD (bz (dv (aj b9.1)).4) (aj bG.1) 0):Nat):Int)) iw] 0) true,LE.mk mX (SO.tup (eQ (aj (bG.1+1)) (aQ (dv (aj b9.1)).6 (dv (aj b9.1)).7)) 0) true,LE.mk mY (SO.tup [li ((((dv (aj b9.1)).4:Nat):Int)) (dv (aj b9.1)).5,SV.kn KG (vals (cN (aj bG.1) (aQ (dv (aj b9.1)).6 (dv (aj b9.1)).7))++[am (hM ((((dD (dv (aj b9.1)).6 (aj bG.1) 0):Nat):Int)+1) (((dD (bz (dv (aj b9.1)).4) (aj bG.1) 0):Nat):Int)) iw]++vals (eQ (aj (bG.1+1)) (aQ (dv (aj b9.1)).6 (dv (aj b9.1)).7))) rZ,SV.own 5 (dv (aj b9.1)).3] 0) true,LE.mk KH (SO.lst [SV.own 14 mY] 0) true,LE.mk oJ (SO.lst (cN (aj b9.1) (aA SV.ag us)++[SV.own 14 mY]) 0) true,LE.mk wT (SO.lst (eQ (aj (b9.1+1)) (aA SV.ag us)) 0) true,LE.mk ux (SO.lst (cN (aj b9.1) (aA SV.ag us)++[SV.own 14 mY]++eQ (aj (b9.1+1)) (aA SV.ag us)) 0) true] (ff++mV++uw) (SV.own 18 ux)))))))) ?_ ?_
 ·kernel_rfl
 exact ⟨⟨trivial,rT (by decide) (by decide) hp.c0.1 hp.c0.2⟩,λz1 y y y y y q1=>⟨hp.l1,λy=>⟨⟨trivial,rT (DS (hp.len▸hp.l)).1 (DS (hp.len▸hp.l)).2.1 hp.c1.1 hp.c1.2⟩,λz2 y y y y y q2 bx=>⟨λy y=>hp.xT rW,λy cw=>⟨⟨Kk aK hp.t,hp.sh⟩,⟨⟨dz.nil⟩,rfl⟩,λy y=>hp.xT rW,λbI=>⟨⟨q2.n,(hp.i1 bI q2),hp.l1⟩,λv ev=>(dn _ v ev).1,λy=>⟨hp.l1,q2.n,λy=>⟨⟨trivial,hp.SN⟩,λz y y y y y qz y=>⟨hp.zu,λy=>⟨hp.l1,(ed q2.n rY),λy=>⟨hp.ls,λy y=>hp.SZ (m:=6) q2.n rfl (hp.n1 q2.n (hp.i1 bI q2)) qz⟩⟩⟩⟩⟩,λy=>⟨λy=>⟨hp.l1,q2.n,λy=>⟨hp.l1,(ed q2.n rY),λy=>⟨hp.SM,λy y=>hp.SP (m:=4) q2.n rfl rW⟩⟩⟩,λy=>⟨λy a=>⟨⟨Kk aK (gA dn q2.n (hp.i1 bI q2)).t,(gA dn q2.n (hp.i1 bI q2)).sh hp.nn⟩,⟨⟨dz.nil⟩,rfl⟩,λhn=>⟨hp.l1,q2.n,λy=>⟨(gA dn q2.n (hp.i1 bI q2)).il,λc a3=>⟨(vb (hp.n1 q2.n (hp.i1 bI q2))).symm,⟨SH (i:=8) rfl aK,hp.down (gA dn q2.n (hp.i1 bI q2))⟩,λz y y y y y qz=>⟨SX (i:=9) rfl aK (gA dn q2.n (hp.i1 bI q2)).l qz,λy y y=>⟨hp.zu,λy=>⟨hp.l1,(ed q2.n rY),λy=>⟨hp.ls,λy y=>hp.zv (m:=10) q2.n rfl ((gA dn q2.n (hp.i1 bI q2)).SQ (i6:=6) (i5:=5) rfl rfl qz.t SY) ((gA dn q2.n (hp.i1 bI q2)).SR (SW hn) qz.l qz.w) (SU (hp.n1 q2.n (hp.i1 bI q2)) qz.h) (SK (hp.n1 q2.n (hp.i1 bI q2)) qz)⟩⟩⟩⟩⟩⟩⟩,λy=>λy=>⟨⟨Kl,I2 _⟩,⟨⟨dz.nil⟩,rfl⟩,λy=>⟨hp.l1,⟨q2.n,rY,(xG (hp.i1 bI q2))⟩,λy=>⟨hp.la,λy y=>hp.Ks (m:=5) q2.n rfl rW⟩⟩,λhm=>⟨(gA dn q2.n (hp.i1 bI q2)).pZ,⟨trivial,rT (fZ.mpr (Kt hm)) (iA.mpr (gZ (gA dn q2.n (hp.i1 bI q2)).nl (by decide))) hp.c2.1 hp.c2.2⟩,λz y y y y y qz=>⟨⟨qz.n,(qz.m _ _ rfl),(gA dn q2.n (hp.i1 bI q2)).pZ⟩,zw qz.n (qz.m _ _ rfl),λy y DX y tl y y sq wQ=>⟨⟨j9 _,(gA dn q2.n (hp.i1 bI q2)).Ku sq,DJ wQ⟩,λv ev=>⟨(gA dn q2.n (hp.i1 bI q2)).span sq ev,λy y y=>⟨⟨qz.n,(gA dn q2.n (hp.i1 bI q2)).wS (qz.m _ _ rfl),(gA dn q2.n (hp.i1 bI q2)).Kv⟩,zw qz.n ((gA dn q2.n (hp.i1 bI q2)).wS (qz.m _ _ rfl)),λy=>⟨Kz ((gA dn q2.n (hp.i1 bI q2)).qa qz.n (qz.m _ _ rfl)).2,hp.l1,q2.n,λy=>⟨(gA dn q2.n (hp.i1 bI q2)).pZ,⟨qz.n,(qz.m _ _ rfl)⟩,λy y=>⟨KA (gA dn q2.n (hp.i1 bI q2)).nl,λy y jU T1=>⟨(gA dn q2.n (hp.i1 bI q2)).pZ,⟨Int.le_add_of_nonneg_left qz.n,xG (qz.m _ _ rfl)⟩,λy=>⟨Km _ T1,KB (gA dn q2.n (hp.i1 bI q2)).nl,λy y tW T2 y y=>⟨hp.zu,λy=>⟨hp.l1,(ed q2.n rY),λy=>⟨hp.ls,λy y=>hp.zv (m:=12) q2.n rfl ((gA dn q2.n (hp.i1 bI q2)).Kw (i14:=8) rfl qz.n T2 rfl ⟨_,rfl⟩ ((gA dn q2.n (hp.i1 bI q2)).qa qz.n (qz.m _ _ rfl)).2) ((gA dn q2.n (hp.i1 bI q2)).Ky ((gA dn q2.n (hp.i1 bI q2)).qa qz.n (qz.m _ _ rfl)).1 ((gA dn q2.n (hp.i1 bI q2)).qa qz.n (qz.m _ _ rfl)).2) (D0 (gA dn q2.n (hp.i1 bI q2)).h) Ko⟩⟩⟩⟩⟩⟩⟩⟩⟩⟩⟩⟩⟩⟩⟩,λy=>λy=>⟨⟨Kl,I2 _⟩,⟨⟨dz.nil⟩,rfl⟩,λy=>⟨hp.l1,⟨q2.n,rY,(xG (hp.i1 bI q2))⟩,λy=>⟨hp.la,λy y=>hp.Ks (m:=4) q2.n rfl rW⟩⟩,λhm=>⟨(gA dn q2.n (hp.i1 bI q2)).pZ,⟨trivial,rT (fZ.mpr (Kt hm)) (iA.mpr (gZ (gA dn q2.n (hp.i1 bI q2)).nl (by decide))) hp.c2.1 hp.c2.2⟩,λz y y y y y qz=>⟨⟨qz.n,(qz.m _ _ rfl),(gA dn q2.n (hp.i1 bI q2)).pZ⟩,zw qz.n (qz.m _ _ rfl),λy y DX y tl y y sq wQ=>⟨⟨j9 _,(gA dn q2.n (hp.i1 bI q2)).Ku sq,DJ wQ⟩,λv ev=>⟨(gA dn q2.n (hp.i1 bI q2)).span sq ev,λy y y=>⟨⟨qz.n,(gA dn q2.n (hp.i1 bI q2)).wS (qz.m _ _ rfl),(gA dn q2.n (hp.i1 bI q2)).Kv⟩,zw qz.n ((gA dn q2.n (hp.i1 bI q2)).wS (qz.m _ _ rfl)),λy=>⟨Kz ((gA dn q2.n (hp.i1 bI q2)).qa qz.n (qz.m _ _ rfl)).2,hp.l1,q2.n,λy=>⟨(gA dn q2.n (hp.i1 bI q2)).pZ,⟨qz.n,(qz.m _ _ rfl)⟩,λy y=>⟨KA (gA dn q2.n (hp.i1 bI q2)).nl,λy y jU T1=>⟨(gA dn q2.n (hp.i1 bI q2)).pZ,⟨Int.le_add_of_nonneg_left qz.n,xG (qz.m _ _ rfl)⟩,λy=>⟨Km _ T1,KB (gA dn q2.n (hp.i1 bI q2)).nl,λy y tW T2 y y=>⟨hp.zu,λy=>⟨hp.l1,(ed q2.n rY),λy=>⟨hp.ls,λy y=>hp.zv (m:=11) q2.n rfl ((gA dn q2.n (hp.i1 bI q2)).Kw (i14:=7) rfl qz.n T2 rfl ⟨_,rfl⟩ ((gA dn q2.n (hp.i1 bI q2)).qa qz.n (qz.m _ _ rfl)).2) ((gA dn q2.n (hp.i1 bI q2)).Ky ((gA dn q2.n (hp.i1 bI q2)).qa qz.n (qz.m _ _ rfl)).1 ((gA dn q2.n (hp.i1 bI q2)).qa qz.n (qz.m _ _ rfl)).2) (D0 (gA dn q2.n (hp.i1 bI q2)).h) Ko⟩⟩⟩⟩⟩⟩⟩⟩⟩⟩⟩⟩⟩⟩⟩⟩⟩⟩⟩⟩⟩⟩
end
section
theorem KI (w:ah):∀n,zq w n
 |0=>KC w 0 λz e=>nomatch e
 |n+1=>KC w (n+1) λd e=>qB e▸KI w n
end
section
theorem S1 (wo:ah) (na nb:Nat) (ba:na<12) (bb:nb<4):dw wo (.mk 4 [na,nb] []):=kW Cfg.none (λz=>Cfg.gI) (λz=>eH) (λz=>fo (dB rfl)) [] λled fq news x qn qi t n0 n1 nf τ f0 f1 aK h0 h1 tk=>by
 refine @cD _ (∀(b1 b2 b3:Nat),(0<=(nb:Int)/\(nb:Int)<=3)/\ ∀(b4:Nat),(-1073741823<=(na:Int) -6/\(na:Int) -6<=1073741823)/\ ∀(b5:Nat),Sep [b1,b3,b2] []->cE wo.2 (bV wo led (nd (Tr.mk 4 [na,nb] []))) news [LE.mk b1 (SO.tup [li 0 (tk+5),li 10 (tk+6),li 11 (tk+7),li 14 (tk+8)] 0) true,LE.mk b3 (SO.dict [(sO "width",b5+1,li ((na:Int) -6) (tk+15)),(sO "sort",b5+3,li ((nb:Int)) (τ (0+1)))] 2) true,LE.mk b2 (SO.inst 423 4 b3) true] [] (SV.own 5 b2)) ?_ ?_
 ·kernel_rfl
 exactλz z z=>⟨⟨(eF (hi:=10000) bb (by decide) (by decide)).1,(eF (lo:=0) bb (by decide) (by decide)).2⟩,λz=>⟨⟨(fw (hi:=10000) ba (by decide) (by decide)).1,(fw (lo:=-10000) ba (by decide) (by decide)).2⟩,λz=>λcT=>eZ (qJ (mF (.tail _ (.tail _ (.head _)))) (mF (.tail _ (.head _))))⟩⟩
theorem S2 (wo:ah) (na:Nat) (ba:na<12):dw wo (.mk 7 [na] []):=kW Cfg.none (λz=>Cfg.gI) (λz=>eH) (λz=>fo (dB rfl)) [] λled fq news x qn qi t n0 n1 nf τ f0 f1 aK h0 h1 tk=>by
 refine @cD _ (∀(b1 b2 b3:Nat),(-2147483647<=(na:Int) -6/\(na:Int) -6<=2147483647)/\ ∀(b4:Nat),Sep [b1,b3,b2] []->cE wo.2 (bV wo led (nd (Tr.mk 7 [na] []))) news [LE.mk b1 (SO.tup [li 0 (tk+5),li 10 (tk+6),li 11 (tk+7),li 14 (tk+8)] 0) true,LE.mk b3 (SO.dict [(sO "value",b4+1,li ((na:Int) -6) (tk+18))] 1) true,LE.mk b2 (SO.inst 466 4 b3) true] [] (SV.own 5 b2)) ?_ ?_
 ·kernel_rfl
 exactλz z z=>⟨⟨(fw (hi:=10000) ba (by decide) (by decide)).1,(fw (lo:=-10000) ba (by decide) (by decide)).2⟩,λz=>λcT=>eZ (AY (mF (.tail _ (.tail _ (.head _)))) (mF (.tail _ (.head _))))⟩
theorem S3 (wo:ah) (na nb:Nat) (ba:na<2) (bb:nb<12):dw wo (.mk 12 [na,nb] []):=kW Cfg.none (λz=>Cfg.gI) (λz=>eH) (λz=>fo (dB rfl)) [] λled fq news x qn qi t n0 n1 nf τ f0 f1 aK h0 h1 tk=>by
 refine @cD _ (∀(b1 b2 b3:Nat),(-1073741823<=(nb:Int)/\(nb:Int)<=1073741823)/\ ∀(b4:Nat),Sep [b1,b3,b2] []->cE wo.2 (bV wo led (nd (Tr.mk 12 [na,nb] []))) news [LE.mk b1 (SO.tup [li 0 (tk+5),li 10 (tk+6),li 11 (tk+7),li 14 (tk+8)] 0) true,LE.mk b3 (SO.dict [(sO "is_on",tk+26,SV.lit (fX ((na:Int)==1))),(sO "width",b4+1,li ((nb:Int)) (τ (0+1)))] 2) true,LE.mk b2 (SO.inst 571 4 b3) true] [] (SV.own 5 b2)) ?_ ?_
 ·kernel_rfl
 exactλz z z=>⟨⟨(eF (hi:=10000) bb (by decide) (by decide)).1,(eF (lo:=0) bb (by decide) (by decide)).2⟩,λz=>λcT=>eZ (FA (mF (.tail _ (.tail _ (.head _)))) (mF (.tail _ (.head _))))⟩
theorem S4 (wo:ah) (na nb:Nat) (ba:na<2) (bb:nb<12):dw wo (.mk 1 [na,nb] []):=kW Cfg.none (λz=>Cfg.gI) (λz=>eH) (λz=>fo (dB rfl)) [((569,20),none)] λled fq news x qn qi t n0 n1 nf τ f0 f1 aK h0 h1 tk=>by
 refine @cD _ (∀(b1:Nat),(0<=(na:Int)/\(na:Int)<dW 2)/\ ∀(b2 b3:Nat),(0<=97+(nb:Int)/\97+(nb:Int)<=255)/\ ∀(b4:Nat),Sep [b1,b3,b2] []->cE wo.2 (bV wo led (nd (Tr.mk 1 [na,nb] []))) news [LE.mk b1 (SO.tup [li 0 (tk+5),li 10 (tk+6),li 11 (tk+7),li 14 (tk+8)] 0) true,LE.mk b3 (SO.dict [(sO "font",tk+18,SV.lit (yc [SV.lit (ae f0),SV.lit (ae f1)] (na:Int))),(sO "code",b4+1,li (97+(nb:Int)) (tk+13))] 2) true,LE.mk b2 (SO.inst 340 4 b3) true] [] (SV.own 5 b2)) ?_ ?_
 ·kernel_rfl
 obtain ⟨fa,e,hf⟩:=H6 ba h0 h1
 rw [e]
 exactλz=>⟨⟨(eF (hi:=10000) ba (by decide) (by decide)).1,iA.mpr ba⟩,λz z=>⟨⟨(jS (hi:=10000) bb (by decide) (by decide)).1,(jS (lo:=0) bb (by decide) (by decide)).2⟩,λz=>λcT=>eZ (te (mF (.tail _ (.tail _ (.head _)))) (mF (.tail _ (.head _))) (tV hf))⟩⟩
theorem S5 (wo:ah) (na nb nc nd ne:Nat) (ba:na<2) (bb:nb<12) (bc:nc<12) (bd:nd<2) (be:ne<2):dw wo (.mk 2 [na,nb,nc,nd,ne] []):=kW Cfg.none (λz=>Cfg.gI) (λz=>eH) (λz=>fo (dB rfl)) [((571,24),none)] λled fq news x qn qi t n0 n1 nf τ f0 f1 aK h0 h1 tk=>by
 refine @cD _ (∀(b1:Nat),(0<=(na:Int)/\(na:Int)<dW 2)/\ ∀(b2 b3 b4:Nat),(0<=97+(nb:Int)/\97+(nb:Int)<=255)/\ ∀(b5 b6:Nat),((0:Int)<=97/\(97:Int)<=255)/\ ∀(b7 b8:Nat),(0<=97+(nc:Int)/\97+(nc:Int)<=255)/\ ∀(b9 aH bq bJ:Nat),Sep [b1,b2,b4,b3,bq,bJ] []->cE wo.2 (bV wo led (Internal.nd (Tr.mk 2 [na,nb,nc,nd,ne] []))) news [LE.mk b1 (SO.tup [li 0 (tk+5),li 10 (tk+6),li 11 (tk+7),li 14 (tk+8)] 0) true,LE.mk b2 (SO.tup [li 97 (tk+15),li (97+(nc:Int)) (tk+18)] 0) true,LE.mk b4 (SO.dict [(sO "font",tk+30,SV.lit (yc [SV.lit (ae f0),SV.lit (ae f1)] (na:Int))),(sO "code",b5+1,li (97+(nb:Int)) (tk+14)),(sO "parts",aH+1,SV.own 8 bJ),(sO "left",aH+3,SV.lit (fX ((nd:Int)==1))),(sO "right",aH+5,SV.lit (fX ((ne:Int)==1)))] 5) true,LE.mk b3 (SO.inst 360 5 b4) true,LE.mk bq (SO.lst [li 97 (tk+15),li (97+(nc:Int)) (tk+18)] 2) true,LE.mk bJ (SO.tup [li 97 (tk+15),li (97+(nc:Int)) (tk+18)] 0) true] [] (SV.own 6 b3)) ?_ ?_
 ·kernel_rfl
 obtain ⟨fa,e,hf⟩:=H6 ba h0 h1
 rw [e]
 exactλz=>⟨⟨(eF (hi:=10000) ba (by decide) (by decide)).1,iA.mpr ba⟩,λz z z=>⟨⟨(jS (hi:=10000) bb (by decide) (by decide)).1,(jS (lo:=0) bb (by decide) (by decide)).2⟩,λz z=>⟨⟨(by decide),(by decide)⟩,λz z=>⟨⟨(jS (hi:=10000) bc (by decide) (by decide)).1,(jS (lo:=0) bc (by decide) (by decide)).2⟩,λz z z z=>λcT=>eZ (Fx (mF (.tail _ (.tail _ (.tail _ (.head _))))) (mF (.tail _ (.tail _ (.head _)))) (tV hf) (mF (.tail _ (.tail _ (.tail _ (.tail _ (.tail _ (.head _))))))))⟩⟩⟩⟩
theorem S6 (wo:ah) (na nb nc:Nat) (ba:na<4) (bb:nb<4) (bc:nc<4):dw wo (.mk 3 [na,nb,nc] []):=kW Cfg.none (λz=>Cfg.gI) (λz=>eH) (λz=>fo (dB rfl)) [((544,19),none)] λled fq news x qn qi t n0 n1 nf τ f0 f1 aK h0 h1 tk=>by
 refine @cD _ (∀(b1:Nat),(((na:Int)==0)=true->(((nb:Int)==0)=true->(((nc:Int)==0)=true-> ∀(x d a uy uz uA oM:Nat),Sep [b1,d,x,a] []->cE wo.2 (bV wo led (nd (Tr.mk 3 [na,nb,nc] []))) news [LE.mk b1 (SO.tup [li 0 (tk+5),li 10 (tk+6),li 11 (tk+7),li 14 (tk+8)] 0) true,LE.mk d (SO.dict [(sO "width",oM+1,SV.lit aY),(sO "height",oM+3,SV.lit aY),(sO "depth",oM+5,SV.lit aY)] 3) true,LE.mk x (SO.inst 402 4 d) true,LE.mk a (SO.tup [SV.lit aY,SV.lit aY,SV.lit aY] 0) true] [] (SV.own 5 x))/\(((nc:Int)==0)=false-> ∀(x d a uy uz uA:Nat),(-1073741823<=(nc:Int) -2/\(nc:Int) -2<=1073741823)/\ ∀(oM jV:Nat),Sep [b1,d,x,a] []->cE wo.2 (bV wo led (nd (Tr.mk 3 [na,nb,nc] []))) news [LE.mk b1 (SO.tup [li 0 (tk+5),li 10 (tk+6),li 11 (tk+7),li 14 (tk+8)] 0) true,LE.mk d (SO.dict [(sO "width",jV+1,SV.lit aY),(sO "height",jV+3,SV.lit aY),(sO "depth",jV+5,li ((nc:Int) -2) (tk+22))] 3) true,LE.mk x (SO.inst 402 4 d) true,LE.mk a (SO.tup [SV.lit aY,SV.lit aY,li ((nc:Int) -2) (tk+22)] 0) true] [] (SV.own 5 x)))/\(((nb:Int)==0)=false->(((nc:Int)==0)=true-> ∀(x d a uy uz:Nat),(-1073741823<=(nb:Int) -2/\(nb:Int) -2<=1073741823)/\ ∀(uA oM jV:Nat),Sep [b1,d,x,a] []->cE wo.2 (bV wo led (nd (Tr.mk 3 [na,nb,nc] []))) news [LE.mk b1 (SO.tup [li 0 (tk+5),li 10 (tk+6),li 11 (tk+7),li 14 (tk+8)] 0) true,LE.mk d (SO.dict [(sO "width",jV+1,SV.lit aY),(sO "height",jV+3,li ((nb:Int) -2) (tk+19)),(sO "depth",jV+5,SV.lit aY)] 3) true,LE.mk x (SO.inst 402 4 d) true,LE.mk a (SO.tup [SV.lit aY,li ((nb:Int) -2) (tk+19),SV.lit aY] 0) true] [] (SV.own 5 x))/\(((nc:Int)==0)=false-> ∀(x d a uy uz:Nat),(-1073741823<=(nb:Int) -2/\(nb:Int) -2<=1073741823)/\ ∀(uA oM:Nat),(-1073741823<=(nc:Int) -2/\(nc:Int) -2<=1073741823)/\ ∀(jV lV:Nat),Sep [b1,d,x,a] []->cE wo.2 (bV wo led (nd (Tr.mk 3 [na,nb,nc] []))) news [LE.mk b1 (SO.tup [li 0 (tk+5),li 10 (tk+6),li 11 (tk+7),li 14 (tk+8)] 0) true,LE.mk d (SO.dict [(sO "width",lV+1,SV.lit aY),(sO "height",lV+3,li ((nb:Int) -2) (tk+19)),(sO "depth",lV+5,li ((nc:Int) -2) (tk+24))] 3) true,LE.mk x (SO.inst 402 4 d) true,LE.mk a (SO.tup [SV.lit aY,li ((nb:Int) -2) (tk+19),li ((nc:Int) -2) (tk+24)] 0) true] [] (SV.own 5 x))))/\(((na:Int)==0)=false->(((nb:Int)==0)=true->(((nc:Int)==0)=true-> ∀(x d a uy:Nat),(-1073741823<=(na:Int) -2/\(na:Int) -2<=1073741823)/\ ∀(uz uA oM jV:Nat),Sep [b1,d,x,a] []->cE wo.2 (bV wo led (nd (Tr.mk 3 [na,nb,nc] []))) news [LE.mk b1 (SO.tup [li 0 (tk+5),li 10 (tk+6),li 11 (tk+7),li 14 (tk+8)] 0) true,LE.mk d (SO.dict [(sO "width",jV+1,li ((na:Int) -2) (tk+16)),(sO "height",jV+3,SV.lit aY),(sO "depth",jV+5,SV.lit aY)] 3) true,LE.mk x (SO.inst 402 4 d) true,LE.mk a (SO.tup [li ((na:Int) -2) (tk+16),SV.lit aY,SV.lit aY] 0) true] [] (SV.own 5 x))/\(((nc:Int)==0)=false-> ∀(x d a uy:Nat),(-1073741823<=(na:Int) -2/\(na:Int) -2<=1073741823)/\ ∀(uz uA oM:Nat),(-1073741823<=(nc:Int) -2/\(nc:Int) -2<=1073741823)/\ ∀(jV lV:Nat),Sep [b1,d,x,a] []->cE wo.2 (bV wo led (nd (Tr.mk 3 [na,nb,nc] []))) news [LE.mk b1 (SO.tup [li 0 (tk+5),li 10 (tk+6),li 11 (tk+7),li 14 (tk+8)] 0) true,LE.mk d (SO.dict [(sO "width",lV+1,li ((na:Int) -2) (tk+16)),(sO "height",lV+3,SV.lit aY),(sO "depth",lV+5,li ((nc:Int) -2) (tk+24))] 3) true,LE.mk x (SO.inst 402 4 d) true,LE.mk a (SO.tup [li ((na:Int) -2) (tk+16),SV.lit aY,li ((nc:Int) -2) (tk+24)] 0) true] [] (SV.own 5 x)))/\(((nb:Int)==0)=false->(((nc:Int)==0)=true-> ∀(x d a uy:Nat),(-1073741823<=(na:Int) -2/\(na:Int) -2<=1073741823)/\ ∀(uz uA:Nat),(-1073741823<=(nb:Int) -2/\(nb:Int) -2<=1073741823)/\ ∀(oM jV lV:Nat),Sep [b1,d,x,a] []->cE wo.2 (bV wo led (nd (Tr.mk 3 [na,nb,nc] []))) news [LE.mk b1 (SO.tup [li 0 (tk+5),li 10 (tk+6),li 11 (tk+7),li 14 (tk+8)] 0) true,LE.mk d (SO.dict [(sO "width",lV+1,li ((na:Int) -2) (tk+16)),(sO "height",lV+3,li ((nb:Int) -2) (tk+21)),(sO "depth",lV+5,SV.lit aY)] 3) true,LE.mk x (SO.inst 402 4 d) true,LE.mk a (SO.tup [li ((na:Int) -2) (tk+16),li ((nb:Int) -2) (tk+21),SV.lit aY] 0) true] [] (SV.own 5 x))/\(((nc:Int)==0)=false-> ∀(b5 b6 b7 b8:Nat),(-1073741823<=(na:Int) -2/\(na:Int) -2<=1073741823)/\ ∀(b9 aH:Nat),(-1073741823<=(nb:Int) -2/\(nb:Int) -2<=1073741823)/\ ∀(bq bJ:Nat),(-1073741823<=(nc:Int) -2/\(nc:Int) -2<=1073741823)/\ ∀(bY bt:Nat),Sep [b1,b6,b5,b7] []->cE wo.2 (bV wo led (nd (Tr.mk 3 [na,nb,nc] []))) news [LE.mk b1 (SO.tup [li 0 (tk+5),li 10 (tk+6),li 11 (tk+7),li 14 (tk+8)] 0) true,LE.mk b6 (SO.dict [(sO "width",bt+1,li ((na:Int) -2) (tk+16)),(sO "height",bt+3,li ((nb:Int) -2) (tk+21)),(sO "depth",bt+5,li ((nc:Int) -2) (tk+26))] 3) true,LE.mk b5 (SO.inst 402 4 b6) true,LE.mk b7 (SO.tup [li ((na:Int) -2) (tk+16),li ((nb:Int) -2) (tk+21),li ((nc:Int) -2) (tk+26)] 0) true] [] (SV.own 5 b5))))) ?_ ?_
 ·kernel_rfl
 exactλz=>⟨λcT=>⟨λdq=>⟨λdu=>λz z z z z z z=>λeV=>eZ (nd_rule (mF (.tail _ (.tail _ (.head _)))) (mF (.tail _ (.head _))) (kY cT) (kY dq) (kY du)),λdu=>λz z z z z z=>⟨⟨(fw (hi:=10000) bc (by decide) (by decide)).1,(fw (lo:=-10000) bc (by decide) (by decide)).2⟩,λz z=>λeV=>eZ (nd_rule (mF (.tail _ (.tail _ (.head _)))) (mF (.tail _ (.head _))) (kY cT) (kY dq) (kZ du))⟩⟩,λdq=>⟨λdu=>λz z z z z=>⟨⟨(fw (hi:=10000) bb (by decide) (by decide)).1,(fw (lo:=-10000) bb (by decide) (by decide)).2⟩,λz z z=>λeV=>eZ (nd_rule (mF (.tail _ (.tail _ (.head _)))) (mF (.tail _ (.head _))) (kY cT) (kZ dq) (kY du))⟩,λdu=>λz z z z z=>⟨⟨(fw (hi:=10000) bb (by decide) (by decide)).1,(fw (lo:=-10000) bb (by decide) (by decide)).2⟩,λz z=>⟨⟨(fw (hi:=10000) bc (by decide) (by decide)).1,(fw (lo:=-10000) bc (by decide) (by decide)).2⟩,λz z=>λeV=>eZ (nd_rule (mF (.tail _ (.tail _ (.head _)))) (mF (.tail _ (.head _))) (kY cT) (kZ dq) (kZ du))⟩⟩⟩⟩,λcT=>⟨λdq=>⟨λdu=>λz z z z=>⟨⟨(fw (hi:=10000) ba (by decide) (by decide)).1,(fw (lo:=-10000) ba (by decide) (by decide)).2⟩,λz z z z=>λeV=>eZ (nd_rule (mF (.tail _ (.tail _ (.head _)))) (mF (.tail _ (.head _))) (kZ cT) (kY dq) (kY du))⟩,λdu=>λz z z z=>⟨⟨(fw (hi:=10000) ba (by decide) (by decide)).1,(fw (lo:=-10000) ba (by decide) (by decide)).2⟩,λz z z=>⟨⟨(fw (hi:=10000) bc (by decide) (by decide)).1,(fw (lo:=-10000) bc (by decide) (by decide)).2⟩,λz z=>λeV=>eZ (nd_rule (mF (.tail _ (.tail _ (.head _)))) (mF (.tail _ (.head _))) (kZ cT) (kY dq) (kZ du))⟩⟩⟩,λdq=>⟨λdu=>λz z z z=>⟨⟨(fw (hi:=10000) ba (by decide) (by decide)).1,(fw (lo:=-10000) ba (by decide) (by decide)).2⟩,λz z=>⟨⟨(fw (hi:=10000) bb (by decide) (by decide)).1,(fw (lo:=-10000) bb (by decide) (by decide)).2⟩,λz z z=>λeV=>eZ (nd_rule (mF (.tail _ (.tail _ (.head _)))) (mF (.tail _ (.head _))) (kZ cT) (kZ dq) (kY du))⟩⟩,λdu=>λz z z z=>⟨⟨(fw (hi:=10000) ba (by decide) (by decide)).1,(fw (lo:=-10000) ba (by decide) (by decide)).2⟩,λz z=>⟨⟨(fw (hi:=10000) bb (by decide) (by decide)).1,(fw (lo:=-10000) bb (by decide) (by decide)).2⟩,λz z=>⟨⟨(fw (hi:=10000) bc (by decide) (by decide)).1,(fw (lo:=-10000) bc (by decide) (by decide)).2⟩,λz z=>λeV=>eZ (nd_rule (mF (.tail _ (.tail _ (.head _)))) (mF (.tail _ (.head _))) (kZ cT) (kZ dq) (kZ du))⟩⟩⟩⟩⟩⟩
theorem S7 (wo:ah) (na nb:Nat) (ba:na<12) (bb:nb<12):dw wo (.mk 9 [na,nb] []):=kW Cfg.none (λz=>Cfg.gI) (λz=>eH) (λz=>fo (dB rfl)) [] λled fq news x qn qi t n0 n1 nf τ f0 f1 aK h0 h1 tk=>by
 refine @cD _ (∀(b1 b2 b3 b4 b5 b6:Nat),Sep [b1,b2,b3,b4,b6,b5] []->cE wo.2 (bV wo led (nd (Tr.mk 9 [na,nb] []))) news [LE.mk b1 (SO.tup [li 0 (tk+5),li 10 (tk+6),li 11 (tk+7),li 14 (tk+8)] 0) true,LE.mk b2 (SO.tup [li 11 (tk+18),li ((na:Int)) (τ 0)] 0) true,LE.mk b3 (SO.tup [li 0 (tk+20),li ((nb:Int)) (τ (0+1))] 0) true,LE.mk b4 (SO.tup [SV.own 4 b2,SV.own 5 b3] 0) true,LE.mk b6 (SO.dict [(sO "tokens",tk+25,SV.own 6 b4)] 1) true,LE.mk b5 (SO.inst 508 7 b6) true] [] (SV.own 8 b5)) ?_ ?_
 ·kernel_rfl
 exactλz z z z z z=>λcT=>eZ (Fz (mF (.tail _ (.tail _ (.tail _ (.tail _ (.tail _ (.head _))))))) (mF (.tail _ (.tail _ (.tail _ (.tail _ (.head _)))))) (mF (.tail _ (.tail _ (.tail _ (.head _))))) (mF (.tail _ (.head _))) (mF (.tail _ (.tail _ (.head _)))))
theorem S8 (wo:ah) (na nb nc nd ne nf:Nat) (ba:na<12) (bb:nb<12) (bc:nc<4) (bd:nd<12) (be:ne<4) (bf:nf<6):dw wo (.mk 5 [na,nb,nc,nd,ne,nf] []):=kW Cfg.none (λz=>Cfg.gI) (λz=>mJ) (λz=>pN (dB rfl)) [((577,65),none),((62,15),some true),((62,61),some true),((66,46),some true),((68,44),some true),((188,15),none),((188,57),some true),((190,32),none),((190,11),some false)] λled fq news x qn qi t n0 n1 nq τ f0 f1 aK h0 h1 tk=>by
 refine @cD _ (∀(b1 b2 b3:Nat),True/\ ∀(b4:Nat),decide (0<=(nc:Int)/\(nc:Int)<=3)=true/\True/\ ∀(b5:Nat),decide (0<=(ne:Int)/\(ne:Int)<=3)=true/\(-1073741823<=(na:Int)/\(na:Int)<=1073741823)/\ ∀(b6:Nat),(-1073741823<=(nb:Int)+1/\(nb:Int)+1<=1073741823)/\ ∀(b7:Nat),((nb:Int)+1!=0)=true/\(-1073741823<=(nd:Int) -12/\(nd:Int) -12<=1073741823)/\ ∀(b8:Nat),((nd:Int) -12!=0)=true/\ ∀(b9:Nat),(0<=(nf:Int)/\(nf:Int)<dW 6)/\ ∀(aH bq:Nat),True/\ ∀(bJ:Nat),(decide (0<=eW [(0,b8+5),(4,b8+6),(5,b8+7),(100,b8+8),(108,b8+9),(115,b8+10)] (nf:Int)/\eW [(0,b8+5),(4,b8+6),(5,b8+7),(100,b8+8),(108,b8+9),(115,b8+10)] (nf:Int)<=5)=true->(decide (1<=eW [(0,b8+5),(4,b8+6),(5,b8+7),(100,b8+8),(108,b8+9),(115,b8+10)] (nf:Int))=true->(true==decide (eW [(0,b8+5),(4,b8+6),(5,b8+7),(100,b8+8),(108,b8+9),(115,b8+10)] (nf:Int)<=3))=false/\(Sep [b1,b3,b2,b9,bq,aH] []->cE wo.2 (bV wo led (Internal.nd (Tr.mk 5 [na,nb,nc,nd,ne,nf] []))) news [LE.mk b1 (SO.tup [li 0 (tk+5),li 10 (tk+6),li 11 (tk+7),li 14 (tk+8)] 0) true,LE.mk b3 (SO.dict [(sO "width",b6+1,li ((na:Int)) (τ 0)),(sO "stretch",b7+1,li ((nb:Int)+1) (tk+17)),(sO "stretch_order",b7+4,li ((nc:Int)) (τ (0+1+1))),(sO "shrink",b8+1,li ((nd:Int) -12) (tk+21)),(sO "shrink_order",b8+4,li ((ne:Int)) (τ (0+1+1+1+1)))] 5) true,LE.mk b2 (SO.inst 225 4 b3) true,LE.mk b9 (SO.lst [li 0 (b8+5),li 4 (b8+6),li 5 (b8+7),li 100 (b8+8),li 108 (b8+9),li 115 (b8+10)] 0) true,LE.mk bq (SO.dict [(sO "glue",bJ+1,SV.own 5 b2),(sO "sort",bJ+3,li (eW [(0,b8+5),(4,b8+6),(5,b8+7),(100,b8+8),(108,b8+9),(115,b8+10)] (nf:Int)) (qQ [(0,b8+5),(4,b8+6),(5,b8+7),(100,b8+8),(108,b8+9),(115,b8+10)] (nf:Int))),(sO "leader",bJ+5,SV.lit aY)] 3) true,LE.mk aH (SO.inst 445 7 bq) true] [] (SV.own 8 aH)))/\(decide (1<=eW [(0,b8+5),(4,b8+6),(5,b8+7),(100,b8+8),(108,b8+9),(115,b8+10)] (nf:Int))=false->(true==false)=false/\(Sep [b1,b3,b2,b9,bq,aH] []->cE wo.2 (bV wo led (Internal.nd (Tr.mk 5 [na,nb,nc,nd,ne,nf] []))) news [LE.mk b1 (SO.tup [li 0 (tk+5),li 10 (tk+6),li 11 (tk+7),li 14 (tk+8)] 0) true,LE.mk b3 (SO.dict [(sO "width",b6+1,li ((na:Int)) (τ 0)),(sO "stretch",b7+1,li ((nb:Int)+1) (tk+17)),(sO "stretch_order",b7+4,li ((nc:Int)) (τ (0+1+1))),(sO "shrink",b8+1,li ((nd:Int) -12) (tk+21)),(sO "shrink_order",b8+4,li ((ne:Int)) (τ (0+1+1+1+1)))] 5) true,LE.mk b2 (SO.inst 225 4 b3) true,LE.mk b9 (SO.lst [li 0 (b8+5),li 4 (b8+6),li 5 (b8+7),li 100 (b8+8),li 108 (b8+9),li 115 (b8+10)] 0) true,LE.mk bq (SO.dict [(sO "glue",bJ+1,SV.own 5 b2),(sO "sort",bJ+3,li (eW [(0,b8+5),(4,b8+6),(5,b8+7),(100,b8+8),(108,b8+9),(115,b8+10)] (nf:Int)) (qQ [(0,b8+5),(4,b8+6),(5,b8+7),(100,b8+8),(108,b8+9),(115,b8+10)] (nf:Int))),(sO "leader",bJ+5,SV.lit aY)] 3) true,LE.mk aH (SO.inst 445 7 bq) true] [] (SV.own 8 aH))))/\(decide (0<=eW [(0,b8+5),(4,b8+6),(5,b8+7),(100,b8+8),(108,b8+9),(115,b8+10)] (nf:Int)/\eW [(0,b8+5),(4,b8+6),(5,b8+7),(100,b8+8),(108,b8+9),(115,b8+10)] (nf:Int)<=5)=false->True/\ ∀(bt:Nat),decide (100<=eW [(0,b8+5),(4,b8+6),(5,b8+7),(100,b8+8),(108,b8+9),(115,b8+10)] (nf:Int)/\eW [(0,b8+5),(4,b8+6),(5,b8+7),(100,b8+8),(108,b8+9),(115,b8+10)] (nf:Int)<=100+99)=true/\(decide (1<=eW [(0,b8+5),(4,b8+6),(5,b8+7),(100,b8+8),(108,b8+9),(115,b8+10)] (nf:Int))=true->(true==decide (eW [(0,b8+5),(4,b8+6),(5,b8+7),(100,b8+8),(108,b8+9),(115,b8+10)] (nf:Int)<=3))=false/\(Sep [b1,b3,b2,b9,bq,aH] []->cE wo.2 (bV wo led (Internal.nd (Tr.mk 5 [na,nb,nc,nd,ne,nf] []))) news [LE.mk b1 (SO.tup [li 0 (tk+5),li 10 (tk+6),li 11 (tk+7),li 14 (tk+8)] 0) true,LE.mk b3 (SO.dict [(sO "width",b6+1,li ((na:Int)) (τ 0)),(sO "stretch",b7+1,li ((nb:Int)+1) (tk+17)),(sO "stretch_order",b7+4,li ((nc:Int)) (τ (0+1+1))),(sO "shrink",b8+1,li ((nd:Int) -12) (tk+21)),(sO "shrink_order",b8+4,li ((ne:Int)) (τ (0+1+1+1+1)))] 5) true,LE.mk b2 (SO.inst 225 4 b3) true,LE.mk b9 (SO.lst [li 0 (b8+5),li 4 (b8+6),li 5 (b8+7),li 100 (b8+8),li 108 (b8+9),li 115 (b8+10)] 0) true,LE.mk bq (SO.dict [(sO "glue",bt+1,SV.own 5 b2),(sO "sort",bt+3,li (eW [(0,b8+5),(4,b8+6),(5,b8+7),(100,b8+8),(108,b8+9),(115,b8+10)] (nf:Int)) (qQ [(0,b8+5),(4,b8+6),(5,b8+7),(100,b8+8),(108,b8+9),(115,b8+10)] (nf:Int))),(sO "leader",bt+5,SV.lit aY)] 3) true,LE.mk aH (SO.inst 445 7 bq) true] [] (SV.own 8 aH)))/\(decide (1<=eW [(0,b8+5),(4,b8+6),(5,b8+7),(100,b8+8),(108,b8+9),(115,b8+10)] (nf:Int))=false->(true==false)=false/\(Sep [b1,b3,b2,b9,bq,aH] []->cE wo.2 (bV wo led (Internal.nd (Tr.mk 5 [na,nb,nc,nd,ne,nf] []))) news [LE.mk b1 (SO.tup [li 0 (tk+5),li 10 (tk+6),li 11 (tk+7),li 14 (tk+8)] 0) true,LE.mk b3 (SO.dict [(sO "width",b6+1,li ((na:Int)) (τ 0)),(sO "stretch",b7+1,li ((nb:Int)+1) (tk+17)),(sO "stretch_order",b7+4,li ((nc:Int)) (τ (0+1+1))),(sO "shrink",b8+1,li ((nd:Int) -12) (tk+21)),(sO "shrink_order",b8+4,li ((ne:Int)) (τ (0+1+1+1+1)))] 5) true,LE.mk b2 (SO.inst 225 4 b3) true,LE.mk b9 (SO.lst [li 0 (b8+5),li 4 (b8+6),li 5 (b8+7),li 100 (b8+8),li 108 (b8+9),li 115 (b8+10)] 0) true,LE.mk bq (SO.dict [(sO "glue",bt+1,SV.own 5 b2),(sO "sort",bt+3,li (eW [(0,b8+5),(4,b8+6),(5,b8+7),(100,b8+8),(108,b8+9),(115,b8+10)] (nf:Int)) (qQ [(0,b8+5),(4,b8+6),(5,b8+7),(100,b8+8),(108,b8+9),(115,b8+10)] (nf:Int))),(sO "leader",bt+5,SV.lit aY)] 3) true,LE.mk aH (SO.inst 445 7 bq) true] [] (SV.own 8 aH))))) ?_ ?_
 ·kernel_rfl
 exactλz z z=>⟨trivial,λz=>⟨jR (eF bc (by decide) (by decide)),⟨trivial,λz=>⟨jR (eF be (by decide) (by decide)),⟨⟨(eF (hi:=10000) ba (by decide) (by decide)).1,(eF (lo:=0) ba (by decide) (by decide)).2⟩,λz=>⟨⟨(inR (hi:=10000) bb (by decide) (by decide)).1,(inR (lo:=0) bb (by decide) (by decide)).2⟩,λz=>⟨Qs,⟨⟨(fw (hi:=10000) bd (by decide) (by decide)).1,(fw (lo:=-10000) bd (by decide) (by decide)).2⟩,λz=>⟨Qt bd,λz=>⟨⟨(eF (hi:=10000) bf (by decide) (by decide)).1,iA.mpr bf⟩,λz z=>⟨trivial,λz=>⟨λcT=>⟨λdq=>⟨yH λq=>(rC bf).2.1 ⟨ofT dq,q⟩,λdu=>eZ (yK (rC bf).2.2 (pq (mF (.tail _ (.tail _ (.tail _ (.tail _ (.tail _ (.head _))))))) (mF (.tail _ (.tail _ (.tail _ (.tail _ (.head _)))))) (GL.i (mF (.tail _ (.tail _ (.head _)))) (mF (.tail _ (.head _))))))⟩,λdq=>⟨rfl,λdu=>eZ (yK (rC bf).2.2 (pq (mF (.tail _ (.tail _ (.tail _ (.tail _ (.tail _ (.head _))))))) (mF (.tail _ (.tail _ (.tail _ (.tail _ (.head _)))))) (GL.i (mF (.tail _ (.tail _ (.head _)))) (mF (.tail _ (.head _))))))⟩⟩,λcT=>⟨trivial,λz=>⟨jR ((rC bf).1.elim (λq=>absurd q (HS cT)) id),⟨λdq=>⟨yH λq=>(rC bf).2.1 ⟨ofT dq,q⟩,λdu=>eZ (yK (rC bf).2.2 (pq (mF (.tail _ (.tail _ (.tail _ (.tail _ (.tail _ (.head _))))))) (mF (.tail _ (.tail _ (.tail _ (.tail _ (.head _)))))) (GL.i (mF (.tail _ (.tail _ (.head _)))) (mF (.tail _ (.head _))))))⟩,λdq=>⟨rfl,λdu=>eZ (yK (rC bf).2.2 (pq (mF (.tail _ (.tail _ (.tail _ (.tail _ (.tail _ (.head _))))))) (mF (.tail _ (.tail _ (.tail _ (.tail _ (.head _)))))) (GL.i (mF (.tail _ (.tail _ (.head _)))) (mF (.tail _ (.head _))))))⟩⟩⟩⟩⟩⟩⟩⟩⟩⟩⟩⟩⟩⟩⟩⟩
theorem S9 (wo:ah) (na nb nd:Nat) (ba:na<12) (bb:nb<3) (bd:nd<12):dw wo (.mk 6 [na,nb,0,nd] []):=kW Cfg.none (λz=>Cfg.gI) (λz=>mJ) (λz=>pN (dB rfl)) [((188,15),some true),((190,32),some true),((190,11),some false)] λled fq news x qn qi t n0 n1 nf τ f0 f1 aK h0 h1 tk=>by
 refine @cD _ (∀(b1 b2 b3:Nat),True/\ ∀(b4:Nat),True/\ ∀(b5:Nat),(-1073741823<=(na:Int)/\(na:Int)<=1073741823)/\ ∀(b6:Nat),((-1073741823:Int)<=0/\(0:Int)<=1073741823)/\ ∀(b7:Nat),((-1073741823:Int)<=0/\(0:Int)<=1073741823)/\ ∀(b8 b9 aH bq bJ:Nat),(-1073741823<=(nd:Int)/\(nd:Int)<=1073741823)/\ ∀(bY bt cj:Nat),((-1073741823:Int)<=2/\(2:Int)<=1073741823)/\ ∀(bx dP cw fV:Nat),True/\ ∀(fF:Nat),decide (0<=1+(nb:Int)/\1+(nb:Int)<=5)=true/\decide (1<=1+(nb:Int))=true/\(false==decide (1+(nb:Int)<=3))=false/\(Sep [b1,b3,b2,aH,b9,bq,fV,cw] []->cE wo.2 (bV wo led (Internal.nd (Tr.mk 6 [na,nb,0,nd] []))) news [LE.mk b1 (SO.tup [li 0 (tk+5),li 10 (tk+6),li 11 (tk+7),li 14 (tk+8)] 0) true,LE.mk b3 (SO.dict [(sO "width",b6+1,li ((na:Int)) (τ 0)),(sO "stretch",b7+1,li 0 400),(sO "stretch_order",b7+4,li 0 304),(sO "shrink",b8+1,li 0 402),(sO "shrink_order",b8+4,li 0 304)] 5) true,LE.mk b2 (SO.inst 225 4 b3) true,LE.mk aH (SO.dict [(sO "width",dP+1,li ((nd:Int)) (τ (0+1+1+1))),(sO "height",dP+3,SV.lit aY),(sO "depth",dP+5,li 2 (b8+11))] 3) true,LE.mk b9 (SO.inst 402 6 aH) true,LE.mk bq (SO.tup [li ((nd:Int)) (τ (0+1+1+1)),SV.lit aY,li 2 (b8+11)] 0) true,LE.mk fV (SO.dict [(sO "glue",fF+2,SV.own 5 b2),(sO "sort",fF+4,li (1+(nb:Int)) (b8+7)),(sO "leader",fF+6,SV.own 7 b9)] 3) true,LE.mk cw (SO.inst 445 9 fV) true] [] (SV.own 10 cw))) ?_ ?_
 ·kernel_rfl
 exactλz z z=>⟨trivial,λz=>⟨trivial,λz=>⟨⟨(eF (hi:=10000) ba (by decide) (by decide)).1,(eF (lo:=0) ba (by decide) (by decide)).2⟩,λz=>⟨⟨(by decide),(by decide)⟩,λz=>⟨⟨(by decide),(by decide)⟩,λz z z z z=>⟨⟨(eF (hi:=10000) bd (by decide) (by decide)).1,(eF (lo:=0) bd (by decide) (by decide)).2⟩,λz z z=>⟨⟨(by decide),(by decide)⟩,λz z z z=>⟨trivial,λz=>⟨jR (jS bb (by decide) (by decide)),⟨jR (jS (hi:=10000) bb (by decide) (by decide)).1,⟨yI (jS (lo:=0) bb (by decide) (by decide)).2,λcT=>eZ (xU (mF (.tail _ (.tail _ (.tail _ (.tail _ (.tail _ (.tail _ (.tail _ (.head _))))))))) (mF (.tail _ (.tail _ (.tail _ (.tail _ (.tail _ (.tail _ (.head _)))))))) (GL.i (mF (.tail _ (.tail _ (.head _)))) (mF (.tail _ (.head _)))) (nd_rule (mF (.tail _ (.tail _ (.tail _ (.tail _ (.head _)))))) (mF (.tail _ (.tail _ (.tail _ (.head _))))) ⟨_,rfl⟩ rfl ⟨_,rfl⟩))⟩⟩⟩⟩⟩⟩⟩⟩⟩⟩⟩
end
section
theorem Ta (wo:ah) (na nb nd:Nat) (ba:na<12) (bb:nb<3) (bd:nd<12):dw wo (.mk 6 [na,nb,1,nd] []):=kW Cfg.none (λz=>Cfg.gI) (λz=>mJ) (λz=>pN (dB rfl)) [((155,15),some true),((192,39),some true),((188,15),some true),((190,32),some true),((190,11),some false)] λled fq news x qn qi t n0 n1 nf τ f0 f1 aK h0 h1 tk=>by
 refine @cD _ (∀(b1 b2 b3:Nat),True/\ ∀(b4:Nat),True/\ ∀(b5:Nat),(-1073741823<=(na:Int)/\(na:Int)<=1073741823)/\ ∀(b6:Nat),((-1073741823:Int)<=0/\(0:Int)<=1073741823)/\ ∀(b7:Nat),((-1073741823:Int)<=0/\(0:Int)<=1073741823)/\ ∀(b8 b9 aH bq:Nat),True/\ ∀(bJ:Nat),decide ((2:Int)<=2/\(2:Int)<=3)=true/\(-1073741823<=(nd:Int)/\(nd:Int)<=1073741823)/\ ∀(bY:Nat),((-1073741823:Int)<=3/\(3:Int)<=1073741823)/\ ∀(bt:Nat),((-1073741823:Int)<=1/\(1:Int)<=1073741823)/\ ∀(cj bx dP cw:Nat),True/\ ∀(fV:Nat),decide (0<=1+(nb:Int)/\1+(nb:Int)<=5)=true/\decide (1<=1+(nb:Int))=true/\(false==decide (1+(nb:Int)<=3))=false/\decide ((2:Int)<=2)=true/\(Sep [b1,b3,b2,b9,bq,aH,bx,cw,dP] []->cE wo.2 (bV wo led (Internal.nd (Tr.mk 6 [na,nb,1,nd] []))) news [LE.mk b1 (SO.tup [li 0 (tk+5),li 10 (tk+6),li 11 (tk+7),li 14 (tk+8)] 0) true,LE.mk b3 (SO.dict [(sO "width",b6+1,li ((na:Int)) (τ 0)),(sO "stretch",b7+1,li 0 400),(sO "stretch_order",b7+4,li 0 304),(sO "shrink",b8+1,li 0 402),(sO "shrink_order",b8+4,li 0 304)] 5) true,LE.mk b2 (SO.inst 225 4 b3) true,LE.mk b9 (SO.lst [] 0) true,LE.mk bq (SO.dict [(sO "kind",bJ+1,li 2 (b8+12)),(sO "width",bY+1,li ((nd:Int)) (τ (0+1+1+1))),(sO "height",bt+1,li 3 (b8+13)),(sO "depth",cj+1,li 1 (b8+14)),(sO "items",cj+3,SV.own 6 b9),(sO "shift",cj+6,li ((nd:Int)) (τ (0+1+1+1))),(sO "sign",cj+8,li 0 585),(sO "order",cj+11,li 0 (cj+9)),(sO "ratio",cj+15,SV.own 9 bx)] 9) true,LE.mk aH (SO.inst 381 7 bq) true,LE.mk bx (SO.tup [li 0 (cj+12),li 1 (cj+13)] 0) true,LE.mk cw (SO.dict [(sO "glue",fV+2,SV.own 5 b2),(sO "sort",fV+4,li (1+(nb:Int)) (b8+7)),(sO "leader",fV+6,SV.own 8 aH)] 3) true,LE.mk dP (SO.inst 445 10 cw) true] [] (SV.own 11 dP))) ?_ ?_
 ·kernel_rfl
 exactλz z z=>⟨trivial,λz=>⟨trivial,λz=>⟨⟨(eF (hi:=10000) ba (by decide) (by decide)).1,(eF (lo:=0) ba (by decide) (by decide)).2⟩,λz=>⟨⟨(by decide),(by decide)⟩,λz=>⟨⟨(by decide),(by decide)⟩,λz z z z=>⟨trivial,λz=>⟨(by decide),⟨⟨(eF (hi:=10000) bd (by decide) (by decide)).1,(eF (lo:=0) bd (by decide) (by decide)).2⟩,λz=>⟨⟨(by decide),(by decide)⟩,λz=>⟨⟨(by decide),(by decide)⟩,λz z z z=>⟨trivial,λz=>⟨jR (jS bb (by decide) (by decide)),⟨jR (jS (hi:=10000) bb (by decide) (by decide)).1,⟨yI (jS (lo:=0) bb (by decide) (by decide)).2,⟨(by decide),λcT=>H5 (xU (mF (.tail _ (.tail _ (.tail _ (.tail _ (.tail _ (.tail _ (.tail _ (.tail _ (.head _)))))))))) (mF (.tail _ (.tail _ (.tail _ (.tail _ (.tail _ (.tail _ (.tail _ (.head _))))))))) (GL.i (mF (.tail _ (.tail _ (.head _)))) (mF (.tail _ (.head _)))) (A1 (mF (.tail _ (.tail _ (.tail _ (.tail _ (.tail _ (.head _))))))) (mF (.tail _ (.tail _ (.tail _ (.tail _ (.head _)))))) (mF (.tail _ (.tail _ (.tail _ (.head _))))) (show aP _ _ [] _ [] from⟨rfl,rfl⟩) rfl (mF (.tail _ (.tail _ (.tail _ (.tail _ (.tail _ (.tail _ (.head _)))))))))) (.swap _ _ _) (.cons _ (.cons _ (.cons _ (.cons_cons _ (.cons_cons _ (.cons _ (.cons _ (.cons _ (.cons _ .slnil))))))))) cT⟩⟩⟩⟩⟩⟩⟩⟩⟩⟩⟩⟩⟩⟩⟩
end
section
section
variable {prog:cP} {w:ah} {A:bZ} {E:aa->ak->Prop} {s:ak} {env:cu} {h₀:bA} {target:az} {body:List bP} {Q:eK->ak->Prop}
theorem Tb {E:aa->ak->Prop} {target:az} {I:ac} {b:Array UInt8} {t:af} {i:Nat} {v:aa} {Q':Unit->ak->Prop} {s':ak} (hit:KBw.IsBytesIter s'.heap I b t i) (h:Q' () s'):
  aC (aG prog w) A (letOwnedTupleGo target (.ref I) v) Q' E s':=by
 obtain ⟨o,ho,hc,hd⟩:=hit
 unfold letOwnedTupleGo
 cases target<;>first
  |exact dR h
  |(cases v<;>first
   |exact dR h
   |(
    refine bC (wpAny_load ho ?_)
    rw [hc,hd]
    exact dR h))
theorem Td {b:Array UInt8} {t:af} {m₀:ai->Option aa} {news:Led} (J:Nat->(ai->Option aa)->Led->Prop)
  (hh:A.handled=none) (F:Fr h₀ env.locals s.heap m₀) (N:aU h₀ env.locals s.heap news) (h0:J 0 m₀ news)
  (step:∀I i c u m₁ nw aS cC own,b[i]? =some c->(∃oI,(I,oI)∈own)->(∀p∈own,p.1=I)->J i m₁ nw->(∀p∈nw,p.1≠I)->Fr h₀ env.locals aS m₁->aU h₀ env.locals aS (own++nw)->
   aC (aG prog w) A (assign target env (.int (c.toNat:Int) u)) (λz fK=>aC (aG prog w) A (d8 body env) (TurnEnd h₀ env.locals I own (J (i+1)) {s with heap:=aS,toks:=cC}) E fK) E {s with heap:=aS,toks:=cC})
  (fin:∀h' tk m' nw,Fr h₀ env.locals h' m'->aU h₀ env.locals h' nw->J b.size m' nw->Q .next {s with heap:=h',toks:=tk}):
  aC (aG prog w) A (pyIter (.bytes b t)) (λit gR=>mc prog w A h₀ env target body Q E it gR) E s:=by
 exact KBw.pyIter_bytes (ty J F N h0 (vo (KBw.walks hh s.heap.objs.size b t) λi v s Q E st q=>Tb st q)
  (λb hb=>nomatch hb) ⟨_,ja _ rfl,rfl,rfl⟩ (λz z st=>st.imp λz e=>e.1)
  (λi v m₁ nw aS cC own z hP o f j u F N=>hP.elim λc e=>e.elim λy e=>e.2▸step _ i c y m₁ nw aS cC own e.1 o (λp hp=>bN.mp (f p hp)) j u F N) fin)
end
end
section
section
variable {prog:cP} {w:ah} {A:bZ} {E:aa->ak->Prop} {s:ak} {env:cu} {h₀:bA} {target:az} {body:List bP} {Q:eK->ak->Prop}
theorem Te {d:ac} {od:av} {jn:List (Int×aa)} {m₀:ai->Option aa} {news:Led} (J:Nat->(ai->Option aa)->Led->Prop)
  (hh:A.handled=none) (F:Fr h₀ env.locals s.heap m₀) (N:aU h₀ env.locals s.heap news) (hm:(d,od)∈news) (D3:od.IsDictOf (intKind prog w) jn) (lo:(d==sysModules)=false) (h0:J 0 m₀ news)
  (step:∀I i t z v m₁ nw aS cC own,jn[i]? =some (z,v)->(∃oI,(I,oI)∈own)->(∀p∈own,p.1=I\/p.1=d)->J i m₁ nw->(∀p∈nw,p.1≠I)->Fr h₀ env.locals aS m₁->aU h₀ env.locals aS (own++nw)->
   aC (aG prog w) A (assign target env (.int z t)) (λy fK=>aC (aG prog w) A (d8 body env) (TurnEnd h₀ env.locals I own (J (i+1)) {s with heap:=aS,toks:=cC}) E fK) E {s with heap:=aS,toks:=cC})
  (fin:∀h' tk m' nw,Fr h₀ env.locals h' m'->aU h₀ env.locals h' nw->J jn.length m' nw->Q .next {s with heap:=h',toks:=tk}):
  aC (aG prog w) A (pyIter (.ref d)) (λit gR=>mc prog w A h₀ env target body Q E it gR) E s:=by
 have lI:=N _ hm
 obtain ⟨ep,oi⟩:=(xI.mpr ⟨od,lI.1,D3⟩:s.heap.DictOf (intKind prog w) d jn).dictAt
 have bI:d≠s.heap.objs.size:=cL (fH lI.1)
 exact wpAny_pyIter_dict lo oi (ty J F N h0 (vo (Walks.dictKeys (knd:=intKind prog w) hh s.heap.objs.size d bI jn ep) λi v s Q E st q=>letGo_keyiter st.1 q)
  (λb hb=>bN.mp hb▸lI.2.1) ⟨⟨_,ja _ rfl,rfl,rfl⟩,oi.push _⟩
  (λy y st=>st.1.imp λy e=>e.1) (λi v m₁ nw aS cC own y hP o f j u F N=>hP.elim λk e=>e.elim λx e=>(Value.isInt_shape e.2).elim λt q=>q▸step _ i t k x m₁ nw aS cC own e.1 o (yz f) j u F N) fin)
theorem Tf {d vw:ac} {od:av} {jn:List (Int×aa)} {m₀:ai->Option aa} {news:Led} {elts:List az} {kk:Nat} {pos:aW} (J:Nat->(ai->Option aa)->Led->Prop)
  (hh:A.handled=none) (F:Fr h₀ env.locals s.heap m₀) (N:aU h₀ env.locals s.heap news) (hm:(d,od)∈news) (D3:od.IsDictOf (intKind prog w) jn) (Tg:s.heap.IsItemsView vw d) (h0:J 0 m₀ news)
  (step:∀I i t z x T m₁ nw aS cC own,jn[i]? =some (z,x)->aS.IsTuple T #[.int z t,x]->(∃oI,(I,oI)∈own)->(∀p∈own,p.1=I\/p.1=d)->J i m₁ nw->(∀p∈nw,p.1≠I)->Fr h₀ env.locals aS m₁->aU h₀ env.locals aS (own++nw)->
   aC (aG prog w) A (assign (.Tuple elts kk pos) env (.ref T)) (λc fK=>aC (aG prog w) A (d8 body env) (TurnEnd h₀ env.locals I own (J (i+1)) {s with heap:=aS,toks:=cC}) E fK) E {s with heap:=aS,toks:=cC})
  (fin:∀h' tk m' nw,Fr h₀ env.locals h' m'->aU h₀ env.locals h' nw->J jn.length m' nw->Q .next {s with heap:=h',toks:=tk}):
  aC (aG prog w) A (pyIter (.ref vw)) (λit gR=>mc prog w A h₀ env (.Tuple elts kk pos) body Q E it gR) E s:=by
 have lI:=N _ hm
 obtain ⟨ep,oi⟩:=(xI.mpr ⟨od,lI.1,D3⟩:s.heap.DictOf (intKind prog w) d jn).dictAt
 have bI:d≠s.heap.objs.size:=cL (fH lI.1)
 exact wpAny_pyIter_items Tg oi (ty J F N h0 (kti_itemsTurns (knd:=intKind prog w) hh s.heap.objs.size d bI jn ep)
  (λb hb=>bN.mp hb▸lI.2.1) ⟨⟨.none,.none,ja _ rfl⟩,oi.push _⟩
  (λc c st=>st.1.elim λc e=>e.elim λc e=>⟨_,e⟩)
  (λi v m₁ nw aS cC own c hP o f j u F N=>hP.elim λT e=>e.elim λy e=>e.elim λk e=>e.elim λx e=>(Value.isInt_shape e.2.2.1).elim λt q=>by
   obtain ⟨rfl,e1,g,hT⟩:=e
   subst q
   exact step _ i t k x T m₁ nw aS cC own e1 hT o (yz f) j u F N) fin)
end
end
section
open Sem (wp)
open Builtin
section
variable {prog:cP} {w:ah} {A:bZ} {E:aa->ak->Prop} {s:ak}
theorem Th {it t:ac} {Q:aa->ak->Prop} (hh:A.handled=none)
  (hit:s.heap.IsTupleIter it t 0) (ht:s.heap.IsTuple t #[])
  (hE:∀h' e,Heap.ExtBut it s.heap h'->(∃o,h'.get? e=some o/\o.cls= .type "StopIteration")->E (.ref e) {s with heap:=h'}):
  aC (aG prog w) A (Fh (.ref it)) Q E s:=by
 obtain ⟨o,ho,hc,hd⟩:=id hit
 obtain ⟨ol,Ti,z,nl,Tj⟩:=ht
 unfold Fh
 refine bC (wpAny_callSpecial?_slot (name:=aF "__next__") hit.typeIs Fe
  (wpAny_call_entry Fe hit.typeIs PySem.F.entry_tuple_iterator_next ?_ (PySem.F.args_tuple_iterator_next_1 _)))
 show aC _ _ (field (.ref it) 0>>=_) _ _ s
 refine bC (ny ho hd (x:=.ref t) rfl ?_)
 show aC _ _ (if(ae t==aY)=true then _ else _) _ _ s
 rw [d7 (show¬((ae t==aY)=true) from oY)]
 show aC _ _ (field (.ref it) 1>>=_) _ _ s
 refine bC (ny ho hd (x:=.int (0:Nat) 0) rfl ?_)
 show aC _ _ (seqItems? (.ref t)>>=_) _ _ s
 refine bC (wpAny_seqItems Ti Tj ?_)
 simp only [Int.toNat_natCast,show(#[]:Array aa)[0]? =none from rfl]
 refine bC (wpAny_rule (bC (wpAny_setField ho hd (by simp) ?_)))
 show aC _ _ (newExc (.type "StopIteration") []>>=_) _ _ _
 refine bC ?_
 simp only [newExc,newTuple]
 refine bC (nz ?_ (by size_fits))
 refine bC (m:=firstArgMember _ _) (qp (a:=aY) (by first|rfl|(simp only [firstArgMember];rfl)) ?_)
 refine nz ?_ (by size_fits)
 simp only [raiseNew]
 refine bC (wpAny_handled ?_)
 first|rw [show A.in1.handled=none from hh]|rw [hh]
 refine bC (dR (wpAny_throw ?_))
 exact hE _ _ (((Heap.SameBut.update ..).extBut.push _).push _) ⟨_,ja _ rfl,rfl⟩
end
theorem Tk {prog:cP} {w:ah} {A:bZ} (hh:A.handled=none) (it l:ac):
  Draws prog w A it [it,l] 0 (λz z=>True) (λi h=>h.IsTupleIter it l i/\h.IsTuple l #[]) where
 live:=λz z st=>let⟨o,ho,_⟩:=st.1;⟨o,ho⟩
 frame:=λz z z st hk=>⟨st.1.at λo e=>hk it (by simp) o e,st.2.at λo e=>hk l (by simp) o e⟩
 item:=λi s Q E hi st hQ=>absurd hi (Am _)
 done:=λs Q E st hE=>Th hh st.1 st.2 hE
theorem Tl {α:Type} {M:Model} {A:bZ} {E:aa->ak->Prop} {s:ak} {a:α} {Q:α->ak->Prop} (h:∀b,Q b s):aC M A (pure a) Q E s:=dR (h a)
theorem Tm (l:ac) (items:Array aa) (n:Nat) (D4:Option ac) (sl:Array (Option aa)):
  Meets (Builtin.«enumerate.__new__» ⟨[.type "enumerate",.ref l],[]⟩) (λz R s=>s.heap.get? l=some {cls:=.type "tuple",dict:=D4,data:=.seq items n,slots:=sl}/\
   R (.ok (.ret (.ref (s.heap.push {cls:=.type "tuple_iterator",data:=.fields #[.ref l,.int 0 0]}).objs.size)))
    {s with heap:=(s.heap.push {cls:=.type "tuple_iterator",data:=.fields #[.ref l,.int 0 0]}).push {cls:=.type "enumerate",data:=.fields #[.none,.bool false,.ref s.heap.objs.size,rawInt 0,.none,.none]}}):=
 .of_wp λprog w A R s h=>by
  obtain ⟨hp,g,d,tk,os⟩:=s;obtain ⟨hl,h⟩:=h
  have aK:=sub_enumerate
  have hL:Heap.IsTuple (Shared.heap ⟨hp,g,d,tk,os⟩) l items:=⟨_,hl,rfl,n,rfl⟩
  wp_walk using wpAny_loadPart' hl
  refine wpAny_stack_any λst=>Tl λb=> ?_
  cases b<;>(wp_walk using wpAny_loadPart' hl,xo hL;exact ⟨_,rfl,h⟩)
section
variable {prog:cP} {w:ah} {A:bZ} {E:aa->ak->Prop} {s:ak}
theorem Tn {l:ac} {items:Array aa} {Q:aa->ak->Prop} (hL:s.heap.IsTuple l items)
  (h:∀h',IsEnum h' (s.heap.objs.size+1) s.heap.objs.size 0 .none->h'.IsTupleIter s.heap.objs.size l 0->
   (∀b o,s.heap.get? b=some o->h'.get? b=some o)->Q (.ref (s.heap.objs.size+1)) {s with heap:=h'}):
  aC (aG prog w) A (call (.type "enumerate") [.ref l]) Q E s:=by
 obtain ⟨⟨c,D4,dt,sl⟩,hl,hc,n,hd⟩:=hL
 replace hc:c= .type "tuple":=hc
 replace hd:dt= .seq items n:=hd
 subst hc hd
 refine callType_new PySem.F.called_enumerate (by decide) (PySem.F.typeCall_enumerate_1 _) (PySem.F.newCall_enumerate_1 _) (λobj=>AK obj _) PySem.F.entry_enumerate_new
  (Tm l items n D4 sl) ⟨hl, ?_⟩
 have hz:(s.heap.push {cls:=.type "tuple_iterator",data:=.fields #[.ref l,.int 0 0]}).objs.size=s.heap.objs.size+1:=mo ..
 show _/\_
 rw [hz]
 have he:IsEnum ((s.heap.push {cls:=.type "tuple_iterator",data:=.fields #[.ref l,.int 0 0]}).push
   {cls:=.type "enumerate",data:=.fields #[.none,.bool false,.ref s.heap.objs.size,rawInt 0,.none,.none]}) (s.heap.objs.size+1) s.heap.objs.size 0 .none:=by
  have:=ja (s.heap.push {cls:=.type "tuple_iterator",data:=.fields #[.ref l,.int 0 0]})
   (o:={cls:=.type "enumerate",data:=.fields #[.none,.bool false,.ref s.heap.objs.size,rawInt 0,.none,.none]}) rfl
  rw [hz] at this;exact this
 refine ⟨⟨_,he,rfl⟩,h _ he ⟨_,gO _ (ja _ rfl),rfl,rfl⟩ λb o x=>gO _ (gO _ x)⟩
end
section
variable {prog:cP} {w:ah} {A:bZ} {E:aa->ak->Prop} {s:ak} {env:cu} {h₀:bA} {body:List bP} {Q:eK->ak->Prop}
theorem To {elts:List az} {k:Nat} {pos:aW} {l:ac} {m₀:ai->Option aa} {news:Led}
  (hh:A.handled=none) (F:Fr h₀ env.locals s.heap m₀) (N:aU h₀ env.locals s.heap news) (hl:s.heap.IsTuple l #[]) (BP:l≠env.locals)
  (fin:∀h' tk,Fr h₀ env.locals h' m₀->aU h₀ env.locals h' news->Q .next {s with heap:=h',toks:=tk}):
  aC (aG prog w) A (call (.type "enumerate") [.ref l]) (λxv s₁=>aC (aG prog w) A (pyIter xv) (λit gR=>mc prog w A h₀ env (.Tuple elts k pos) body Q E it gR) E s₁) E s:=by
 have iF:l<s.heap.objs.size:=by obtain ⟨z,e,z⟩:=hl;exact fH e
 have KJ:env.locals<s.heap.objs.size:=F.ns.lt
 refine Tn hl λh' hE hI hk=> ?_
 refine wpAny_pyIter_enum hE ?_
 refine ⟨s.heap.objs.size+1,_,_,_,_,_,_,m₀,news,λy m' nw=>m'=m₀/\nw=news,rfl,KTurns.ofWalksU (WalksT.enumerateD (Tk (A:=A.in1) hh s.heap.objs.size l) (s.heap.objs.size+1) (Aq _) (λhm=> ?_) (List.mem_cons_self ..)).toU, ?_, ?_, ?_, ?_,F.keeps hk,N.grown hk,⟨rfl,rfl⟩, ?_, ?_⟩
 ·rcases bj.mp hm with h|h
  ·exact absurd h (Aq _)
  ·exact ktu_ne 1 iF (bN.mp h).symm
 ·intro D5
  have wU:env.locals=s.heap.objs.size+1\/env.locals=s.heap.objs.size\/env.locals=l:=by simpa using D5
  rcases wU with e|e|e
  ·exact ktu_ne 1 KJ e
  ·exact cL KJ e
  ·exact BP e.symm
 ·intro b hb
  have wU:b=s.heap.objs.size+1\/b=s.heap.objs.size:=by simpa using hb
  rcases wU with rfl|rfl
  ·exact ktu_new F (oZ _ _)
  ·exact ktu_new F (cS _)
 ·intro p hp D5
  have wU:p.1=s.heap.objs.size+1\/p.1=s.heap.objs.size:=by simpa using D5
  have KM:=fH (N p hp).1
  rcases wU with e|e
  ·exact ktu_ne 1 KM e
  ·exact cL KM e
 ·exact ⟨⟨.none,hE⟩,hI,hl.at λo e=>hk l o e⟩
 ·intro i z z z z z z hi
  exact absurd hi (Am _)
 ·rintro h7 tk m' nw F' N' z ⟨rfl,rfl⟩
  exact fin h7 tk F' N'
end
end
section
section
variable {w:ah} {NN:Led} {D:Nat} {r:Ev}
def i7 (ax:ac) (j:Option (Nat×SO)) (st:St) (p:Prop):Prop:=match j with
 |some x=>oK st.led[x.1]? λe=>e.a=ax/\e.o=x.2/\p
 |none=>p
theorem uB {c:Cx} {ax:ac} {j:Option (Nat×SO)} {l0:List LE} (h0:Kp c ax j l0):BX c l0 ax j (i7 ax j):=λ{st p} _ h=>by
 cases j with
 |some x=>exact (gQ h).elim λe h=>⟨⟨e,h.1,h.2.1,h.2.2.1⟩,h.2.2.2⟩
 |none=>exact ⟨h0,h⟩
noncomputable def r0:List (Int×SV)->List (Int×aa)
 |[]=>[]
 |e::r=>(e.1,e.2.val)::r0 r
structure DF (w:ah) (d:ac) (o:av) (jn:List (Int×SV)):Prop where
 i:o.IsDictOf (intKind PG w) (r0 jn)
 l:(d==sysModules)=false
noncomputable def gT:Nat->List LE->List (Int×SV)
 |z,[]=>[]
 |i,e::r=>oE (oB (je e.o) λvs=>bB (ej vs.length 6) (some ())) (λy=>[(97,.own i e.a)]) (gT (i+1) r)
theorem KO {led:List LE}:∀{l:List LE} {i:Nat},(∀(k:Nat) (e:LE),l[k]? =some e->led[i+k]? =some e)-> ∀y∈gT i l,aX led y.2
 |[],z,j,g,h=>nomatch h
 |e::r,i,hh,y,h=>by
  unfold gT at h
  cases q:oB (je e.o) λvs=>bB (ej vs.length 6) (some ()) with
  |some u=>rw [q] at h;rw [bN.mp h];exact ⟨e,hh 0 e rfl,rfl⟩
  |none=>rw [q] at h;exact KO (l:=r) (i:=i+1) (λk e' he=>Nat.succ_add_eq_add_succ i k▸hh (k+1) e' he) y h
theorem KP {st:St}:∀y∈gT 0 st.led,aX st.led y.2:=KO λk e h=>by rw [ma];exact h
theorem D6:∀{l:List (Int×SV)} {n:Nat} {z:Int×aa},(r0 l)[n]? =some z-> ∃y,l[n]? =some y/\z=(y.1,y.2.val)
 |[],q,j,h=>by cases h
 |y::q,0,j,h=>by cases h;exact ⟨y,rfl,rfl⟩
 |_::r,n+1,_,h=>D6 (l:=r) (n:=n) h
theorem zE:∀(l:List (Int×SV)),(r0 l).length=l.length
 |[]=>rfl
 |z::r=>bW (· +1) (zE r)
noncomputable def Tp:(o:SO)->Option (PSigma λd:av=>o= .raw d)
 | .raw o=>some ⟨o,rfl⟩
 |_=>none
noncomputable def r7 (o:SO):Option Obj:=(Tp o).map (·.1)
theorem uC {o:SO} {x:av} (h:r7 o=some x):o= .raw x:=iq h λd f=>f▸d.2
noncomputable def wV (K:eE) (v:aa):Option (List aa):=oB (pv v) λa=>oB (K.lookup a) λo=>bB (decide (kg o.cls=some "tuple")) (Bj o.data)
theorem zF {c:Cx} {b:Nat} {st:St} {s:ak} {v:aa} {vs:List aa} (O:c.Ok w NN D b) (R:Rep w c st s) (h:wV (KK w.params) v=some vs):∃a o,v= .ref a/\c.h₀.get? a=some o/\IsTup s.heap a vs.toArray/\a≠c.L:=by
 refine cz h λa h1 h=> ?_
 refine cz h λo h2 h=> ?_
 refine gq h λh3 h=> ?_
 have e:=O.X _ _ h2
 refine ⟨a,o,qP h1,e,⟨o,R.fr.keep _ _ e,kL (cJ h3),Gm h⟩,λq=> ?_⟩
 rw [q,xH R.fr.above] at e
 cases e
noncomputable def KQ:(s:bP)->Option (PSigma λd:(ai×aW)×(az×List bP×aW)=>s= .For (.Name d.1.1 d.1.2) d.2.1 d.2.2.1 [] d.2.2.2)
 | .For (.Name x px) it body [] p=>some ⟨((x,px),(it,body,p)),rfl⟩
 |_=>none
noncomputable def zG (w:ah):SS:=λr cs b s st nx=>oK (KQ s) λd=>bK (!lE d.1.2.1) (r.ev cs b d.1.2.1 st λsv st=>
 oE (
   fi sv) (λi=>oK st.led[i]? λe=>oE (je e.o) (λvs=>Bw r cs b d.1.1.1 d.1.2.2.1 vs st nx)
   (oE (jM e.o) (λl=>mC (λn st κ=>oK l.1[n]? λv=>qX r cs b d.1.1.1 d.1.2.2.1 v st κ) (i7 e.a (some (i,e.o))) l.1.length 0 st nx)
    (oK (r7 e.o) λo=>DF w e.a o (gT 0 st.led)/\mC (λn ao κ=>oK (gT 0 st.led)[n]? λz=>∀t,qX r cs b d.1.1.1 d.1.2.2.1 (.lit (.int z.1 t)) ao κ) (i7 e.a (some (i,e.o))) (gT 0 st.led).length 0 st nx)))
  (oK (wV (KK w.params) sv.val) λvs=>mC (λn st κ=>oK vs[n]? λv=>qX r cs b d.1.1.1 d.1.2.2.1 (.lit v) st κ) (i7 0 none) vs.length 0 st nx))
theorem D7:jz w NN D (zG w):=by
 intro r I c b sm st nx s Q E O hF R h q
 refine aJ h λd j h=> ?_
 refine bv h λh1 h=> ?_
 have hl:c.ee.locals=c.L:=by rw [hF.ee];rfl
 rw [d.2]
 refine gx (E:=λj j=>False) (For_turns (show Fr c.h₀ c.ee.locals s.heap (c.fm st.loc) by rw [hl];exact R.fr) (I.ev O R h λv aD s1 N ok hk=> ?_) (λj=>kS (fn h1)) sR) (λj j z=>z) λj j z=>z.elim
 have R1:=N.rep
 have q1:=λao s' R' (x:Ext aD.led ao.led) hn=>q ao s' R' (N.ext.trans x) hn
 have F1:Fr c.h₀ c.ee.locals s1.heap (c.fm aD.loc):=by rw [hl];exact R1.fr
 have N1:aU c.h₀ c.ee.locals s1.heap (all w c aD):=by rw [hl];exact R1.nw
 have hs:s1={c.en with heap:=s1.heap,toks:=s1.toks}:=R1.same
 refine eg hk (λi e1 hk=> ?_) λj hk=> ?_
 ·refine aJ hk λe e2 hk=> ?_
  have ev:=gn e1 e2 ok
  rw [ev]
  have kp:Kp c e.a (some (i,e.o)) aD.led:=⟨e,e2,rfl,rfl⟩
  have h0:∀{T n},mC T (i7 e.a (some (i,e.o))) n 0 aD nx->LJ w c aD.led e.a (some (i,e.o)) (i7 e.a (some (i,e.o))) T n nx 0 (c.fm aD.loc) (all w c aD):=λ{_ n} h=>⟨aD,R1.tofS,Ext.refl _,kp,rfl,rfl,n,ma n,h⟩
  refine eg hk (λvs e3 hk=> ?_) λj hk=> ?_
  ·refine (tj e3).elim λn e3=> ?_
   exact Hi I O hF R1 e2 e3 hk q1
  ·refine eg hk (λl e3 hk=> ?_) λj hk=> ?_
   ·have e4:=kQ e3
    have mm:=fJ (w:=w) (c:=c) e2
    rw [e4] at mm
    refine yA (LJ w c aD.led e.a (some (i,e.o)) (i7 e.a (some (i,e.o))) _ l.1.length nx) O.hh F1 N1 mm (h0 hk) (λI' i' v0 m₁ nw aS cC own hv gS how hJ hI F N=> ?_) (λh' tk m' nw F N hJ=> ?_)
    ·obtain ⟨v,g1,rfl⟩:=vP (show(vals l.1)[i']? =some v0 by simpa using hv)
     refine rg hl hs (uB kp) (iN.mp g1).1 (λ{q' aE κ} R2 x2 h2=> ?_) gS how hJ hI F N
     rw [g1] at h2
     have pH:gr aD.led e.o:=R1.ir i e e2
     rw [e4] at pH
     exact tI I O hF R2 ((pH v (et g1)).ext x2) h2
    ·have hJ:LJ w c aD.led e.a (some (i,e.o)) (i7 e.a (some (i,e.o))) _ l.1.length nx (vals l.1).length m' nw:=hJ
     rw [eh] at hJ
     exact ri hl hs q1 F N hJ
   ·refine aJ hk λo e3 z9=>z9.elim λhd hk=> ?_
    have e4:=uC e3
    have mm:=fJ (w:=w) (c:=c) e2
    rw [e4] at mm
    refine Te (LJ w c aD.led e.a (some (i,e.o)) (i7 e.a (some (i,e.o))) _ (gT 0 aD.led).length nx) O.hh F1 N1 mm hd.i hd.l (h0 hk) (λI' i' t z v0 m₁ nw aS cC own hv gS how hJ hI F N=> ?_) (λh' tk m' nw F N hJ=> ?_)
    ·obtain ⟨y,g1,e5⟩:=D6 hv
     cases e5
     refine rg hl hs (uB kp) (iN.mp g1).1 (λ{q' aE κ} R2 x2 h2=> ?_) gS how hJ hI F N
     rw [g1] at h2
     exact tI I O hF R2 (v:=.lit (.int y.1 t)) trivial (h2 t)
    ·rw [zE] at hJ
     exact ri hl hs q1 F N hJ
 ·refine aJ hk λvs e1 hk=> ?_
  obtain ⟨a,o,e2,e3,ht,bI⟩:=zF O R1 e1
  rw [e2]
  have kp:Kp c a none aD.led:=⟨o,e3⟩
  refine G0 (LJ w c aD.led a none (i7 a none) _ vs.length nx) O.hh F1 N1 ht (by rw [hl];exact bI) ⟨aD,R1.tofS,Ext.refl _,kp,rfl,rfl,vs.length,ma _,hk⟩ (λI' i' v0 m₁ nw aS cC own hv gS how hJ hI F N=> ?_) (λh' tk m' nw F N hJ=> ?_)
  ·have hv:vs[i']? =some v0:=by simpa using hv
   refine rg hl hs (uB kp) (iN.mp hv).1 (λ{q' aE κ} R2 x2 h2=> ?_) gS how hJ hI F N
   rw [hv] at h2
   exact tI I O hF R2 (v:=.lit v0) trivial h2
  ·exact ri hl hs q1 F N hJ
end
end
section
section
variable {prog:cP} {w:ah} {A:bZ} {E:aa->ak->Prop} {s:ak} {h₀:bA} {L d:ac} {m:ai->Option aa} {news:Led} {od:av} {jn:List (Int×aa)} {Q:aa->ak->Prop}
theorem Ts (F:Fr h₀ L s.heap m) (N:aU h₀ L s.heap news) (hm:(d,od)∈news) (hd:od.IsDictOf (intKind prog w) jn) (lo:(d==sysModules)=false) (hz:jn.length<=sizeLine)
  (h:∀D h' o',Fr h₀ L h' m->aU h₀ L h' ((D,o')::news)->(∀p∈news,p.1<D)->Q (.ref D) {s with heap:=h'}):aC (aG prog w) A (call (.type "dict") [.ref d]) Q E s:=by
 refine kt_call_dict lo (xI.mpr ⟨od,(N _ hm).1,hd⟩) hz λh' hD hs=> ?_
 obtain ⟨o',rO,z⟩:=xI.mp hD
 have hn:h₀.get? s.heap.objs.size=none:=sL F
 have hL:s.heap.objs.size≠L:=jb (cL F.ns.lt)
 refine h _ h' o' ((F.push _).change hs hL hn) (λp hp=> ?_) (λp hp=>fH (N p hp).1)
 rcases bj.mp hp with rfl|hp
 ·exact ⟨rO,hL,hn⟩
 ·exact ⟨hs.extBut _ _ (cL (fH (N p hp).1)) (gO _ (N p hp).1),(N p hp).2⟩
end
theorem KR {P:aB} {r:Led}:∀{l:List LE} {i:Nat} {e:LE} {o:av},l[i]? =some e->e.o= .raw o->(∀(j:Nat) (e':LE),l[j]? =some e'->e'.a=e.a->j=i)->(∀p∈r,p.1≠e.a)->UpdF e.a o (bo P l++r) (λo'=>bo P (setAt l i (.raw o'))++r)
 |[],z,y,g,h,c,w,d=>by cases h
 |x::l,0,e,o,h,ho,u,v=>by
  cases h
  have e1:bo P (x::l)++r=(x.a,o)::(bo P l++r):=by show(x.a,x.o.obj P)::_=_;rw [ho];rfl
  rw [e1]
  refine UpdF.head λp hp q=> ?_
  rcases aM.mp hp with hp|hp
  ·obtain ⟨j,e',a,rfl⟩:=ki hp
   exact nomatch u (j+1) e' a q
  ·exact v p hp q
 |x::l,i+1,e,o,h,ho,u,v=>UpdF.tail (λq=>nomatch u 0 x rfl q) (KR (l:=l) (i:=i) h ho (λj e' a b=>qB (u (j+1) e' a b)) v)
section
variable {w:ah} {NN:Led} {D:Nat} {r:Ev}
noncomputable def KS:(s:bP)->Option (PSigma λd:(List az×Nat×aW)×(az×List bP×aW)=>s= .For (.Tuple d.1.1 d.1.2.1 d.1.2.2) d.2.1 d.2.2.1 [] d.2.2.2)
 | .For (.Tuple ts k tp) it body [] p=>some ⟨((ts,k,tp),(it,body,p)),rfl⟩
 |_=>none
noncomputable def Tt:(e:az)->Option (PSigma λd:(az×ai)×(aW×aW)=>e= .Call (.Attribute d.1.1 d.1.2 d.2.1) [] [] d.2.2)
 | .Call (.Attribute o x ap) [] [] p=>some ⟨((o,x),(ap,p)),rfl⟩
 |_=>none
noncomputable def KU (w:ah):SS:=λr cs b s st nx=>oK (KS s) λd=>oK (Tt d.1.2.1) λm=>bK (decide (m.1.1.2=aF "items")&&(isAt m.1.1.1&&(ej m.1.2.1.endLine m.1.2.2.line&&(noStar d.1.1.1&&ej d.1.1.1.length 2)))) (r.ev cs b m.1.1.1 st λsv st=>
 oK (fi sv) λi=>oK st.led[i]? λe=>oK (r7 e.o) λo=>DF w e.a o (gT 0 st.led)/\mC (λn ao κ=>oK (gT 0 st.led)[n]? λz=>∀t,yl (KK w.params) r cs b d.1.1.1 [.lit (.int z.1 t),z.2] ao λst=>r.fh cs b d.1.2.2.1 st λf st=>match f with
  |none=>κ st
  |some y=>False) (i7 e.a (some (i,e.o))) (gT 0 st.led).length 0 st nx)
theorem Tu:jz w NN D (KU w):=by
 intro r I c b sm st nx s Q E O hF R h q
 refine aJ h λd u h=> ?_
 obtain ⟨⟨⟨⟨o0,x0⟩,⟨ap,cp⟩⟩,em⟩,j,h⟩:=gQ h
 refine bv h λh1 h=> ?_
 have hl:c.ee.locals=c.L:=by rw [hF.ee];rfl
 cases cJ (cy h1).1
 have h2:=(cy (cy h1).2).1
 have h3:=(cy (cy (cy h1).2).2).1
 have h4:=cy (cy (cy (cy h1).2).2).2
 rw [d.2,em]
 refine gx (E:=λu u=>False) (For_turns (show Fr c.h₀ c.ee.locals s.heap (c.fm st.loc) by rw [hl];exact R.fr) (MethodCall_ (I.ev O R h λv aD s1 Nn ok hk=> ?_) (BH h2 rfl rfl h3)) (λu=>rfl) sR) (λu u z=>z) λu u z=>z.elim
 have R1:=Nn.rep
 refine aJ hk λi e1 hk=> ?_
 refine aJ hk λe e2 hk=> ?_
 refine aJ hk λo e3 z9=>z9.elim λhd hk=> ?_
 have e4:=uC e3
 have mm:=fJ (w:=w) (c:=c) e2
 rw [e4] at mm
 rw [gn e1 e2 ok]
 have kp:Kp c e.a (some (i,e.o)) aD.led:=⟨e,e2,rfl,rfl⟩
 refine kdl_method PySem.F.slot_dict_items PySem.F.type_dict_items R1.nw mm hd.i ?_
 refine callWith_method0 (kdx_view R1.fr R1.nw mm hd.i hd.l λvw h' F' N' l=> ?_)
 refine Tf (news:=all w c aD) (LJ w c aD.led e.a (some (i,e.o)) (i7 e.a (some (i,e.o))) _ (gT 0 aD.led).length nx) O.hh (by rw [hl];exact F') (by rw [hl];exactλp hp=>N' p (.tail _ hp)) mm hd.i ⟨_,(N' _ (.head _)).1,rfl,rfl⟩ ⟨aD,R1.tofS,Ext.refl _,kp,rfl,rfl,_,ma _,hk⟩ (λI' i' t z v0 Tq m₁ nw aS cC own hv hT gS how hJ hI F N=> ?_) (λh' tk m' nw F N hJ=> ?_)
 ·obtain ⟨y,g1,e5⟩:=D6 hv
  cases e5
  refine rg hl (by rw [R1.same]) (uB kp) (iN.mp g1).1 (λ{q' aE κ} R2 x2 h2=> ?_) gS how hJ hI F N
  rw [g1] at h2
  obtain ⟨l1,l2⟩:=BG (env:=c.ee) h4.1
  refine unpackN_ R2.fr R2.nw hT O.hh (by rw [l1,kD h4.2];rfl) l2 λyy Tv Tw=> ?_
  refine He I (c:=c.hide q') (O.hide _) (hF.hide _) (vs:=[.lit (.int y.1 t),y.2]) h4.1 ⟨R2.tofS,by show _=_;rw [R2.same],R2.tk,Tv,Tw⟩ (λv hv=> ?_) (h2 t) λgh s3 R3 x3 dA=>Hh I O hF R3 x3 dA
  rcases bj.mp hv with rfl|hv
  ·trivial
  ·rw [bN.mp hv]
   exact (KP y (et g1)).ext x2
 ·rw [zE] at hJ
  exact ri hl (by rw [R1.same]) (λao s' R' x hn=>q ao s' R' (Nn.ext.trans x) hn) F N hJ
noncomputable def KV (w:ah):SS:=λr cs b s st nx=>oK (KS s) λd=>oK (ui d.1.2.1) λm=>bK (noStar [m.1.2.1]) (fR (KK w.params) Cfg.none r cs b [] (.Name m.1.1.1 m.1.1.2) st λfv st=>bK (decide (kg fv.val=some "enumerate")) (r.ev cs b m.1.2.1 st λv st=>bK (decide (wV (KK w.params) v.val=some [])) (∀tk,nx {st with tk:=tk})))
theorem Tx:jz w NN D (KV w):=by
 intro r I c b sm st nx s Q E O hF R h q
 refine aJ h λd y h=> ?_
 refine aJ h λm y h=> ?_
 refine bv h λh1 h=> ?_
 have hl:c.ee.locals=c.L:=by rw [hF.ee];rfl
 rw [d.2,m.2]
 refine gx (E:=λy y=>False) (For_turns (show Fr c.h₀ c.ee.locals s.heap (c.fm st.loc) by rw [hl];exact R.fr) (kH (gi I ez O R h λv aD s1 N ok hk=> ?_)) (λy=>rfl) sR) (λy y z=>z) λy y z=>z.elim
 refine bv hk λh2 hk=> ?_
 rw [kL (cJ h2)]
 refine nO (kG (I.ev O N.rep hk λv2 aE s2 N2 cI aV=>nM ?_) (fA (cW h1).1)) (fA (cW h1).1) (iR (cW h1).2)
 refine bv aV λh3 aV=> ?_
 obtain ⟨a,o,e2,e3,ht,bI⟩:=zF O N2.rep (cJ h3)
 rw [e2]
 have R2:=N2.rep
 exact To O.hh (by rw [hl];exact R2.fr) (by rw [hl];exact R2.nw) ht (by rw [hl];exact bI) λh' tk F' N'=>by
  rw [hl] at F' N'
  exact q {aE with tk:=tk} _ ⟨⟨R2.tomD,R2.lc,R2.fz⟩,by show _=_;rw [R2.same],rfl,F',N'⟩ (N.ext.trans N2.ext) (aV tk)
def inD (w:ah) (r:Ev) (cs:bD) (b:Nat) (l y:az) (st:St) (k:Bool->St->Prop):Prop:=bK (!behindInMarks .In y) (r.ev cs b l st λx st=>r.ev cs b y st λdv st=>oK (d6 x.val) λn=>oK (fi dv) λi=>oK st.led[i]? λe=>oK (r7 e.o) λo=>DF w e.a o (gT 0 st.led)/\k (valueAt (r0 (gT 0 st.led)) n).isSome (st.tick 1))
theorem KW (I:is w NN D r) {c:Cx} {b:Nat} {l y:az} {p:aW} {st:St} {s:ak} {k:Bool->St->Prop} {wh:Sem aa} {Q:Bool->ak->Prop} {E:aa->ak->Prop} (O:c.Ok w NN D b) (R:Rep w c st s) (h:inD w r c.es b l y st k)
  (q:∀v ao s',Nx w c st ao s'->k v ao->Q v s'):aC (aG PG w) c.A (PySem.isTrue (.Compare l [.In] [y] p) c.ee wh) Q E s:=by
 refine bv h λh1 h=> ?_
 refine wpAny_isTrue_Compare1 (I.ev O R h λv aD s1 N ok hk=>I.ev O N.rep hk λv2 aE s2 N2 cI aV=> ?_) (fn h1)
 refine aJ aV λn e0 hk=> ?_
 refine aJ hk λi e1 hk=> ?_
 refine aJ hk λe e2 hk=> ?_
 refine aJ hk λo e3 z9=>z9.elim λhd hk=> ?_
 refine (eS e0).elim λt e0=> ?_
 have mm:=fJ (w:=w) (c:=c) e2
 rw [uC e3] at mm
 rw [gn e1 e2 cI,e0]
 exact kda_in N2.rep.nw mm hd.i hd.l (intKind_is _ _ _ _) _ rfl (lw (q _ _ _ ((N.trans N2).trans ⟨N2.rep.toks 1,Ext.refl _,rfl⟩) hk))
noncomputable def Tz:(s:bP)->Option (PSigma λd:(az×az×az)×(List bP×aW×aW×aW)=>s= .If (.BoolOp .Or [d.1.1,.Compare d.1.2.1 [.In] [d.1.2.2] d.2.2.1] d.2.2.2.1) d.2.1 [] d.2.2.2.2)
 | .If (.BoolOp .Or [t,.Compare l [.In] [y] cp] bp) body [] p=>some ⟨((t,l,y),(body,cp,bp,p)),rfl⟩
 |_=>none
noncomputable def KY (w:ah):SS:=λr cs b s st nx=>oK (Tz s) λd=>r.ip cs b d.1.1.1 st λc st=>bK (!c) (inD w r cs b d.1.1.2.1 d.1.1.2.2 st λc st=>bK (!c) (nx st))
theorem TC:jz w NN D (KY w):=by
 intro r I c b sm st nx s Q E O hF R h q
 refine aJ h λd z h=> ?_
 rw [d.2]
 refine wpAny_If (isTrue_or (I.ip O R h λv aD s1 N hk=> ?_))
 refine bv hk λh1 hk=> ?_
 rw [fn h1]
 refine isTrue_or (KW I O N.rep hk λv2 aE s2 N2 aV=> ?_)
 refine bv aV λh2 aV=> ?_
 rw [fn h2]
 exact isTrue_or_nil (wpAny_execs_nil (q _ _ N2.rep (N.ext.trans N2.ext) aV))
noncomputable def TD:(s:bP)->Option (PSigma λd:az×(List bP×aW)=>s= .While d.1 d.2.1 [] d.2.2)
 | .While t body [] p=>some ⟨(t,body,p),rfl⟩
 |_=>none
noncomputable def TF:(e:az)->Option (PSigma λd:(az×az×az)×(aW×aW)=>e= .BoolOp .And [.Compare d.1.1 [.In] [d.1.2.1] d.2.1,d.1.2.2] d.2.2)
 | .BoolOp .And [.Compare l [.In] [y] cp,t] bp=>some ⟨((l,y,t),(cp,bp)),rfl⟩
 |_=>none
noncomputable def D8 (w:ah):SS:=λr cs b s st nx=>oK (TD s) λd=>oE (TF d.1.1) (λm=>inD w r cs b m.1.1.1 m.1.1.2.1 st λc st=>bE c (r.ip cs b m.1.1.2.2 st λc st=>bK (!c) (nx st)) (bK (!c) (nx st))) (r.ip cs b d.1.1 st λc st=>bK (!c) (nx st))
theorem KZ:jz w NN D (D8 w):=by
 intro r I c b sm st nx s Q E O hF R h q
 refine aJ h λd y h=> ?_
 rw [d.2]
 have fin:∀{v:Bool} {ao s'},Nx w c st ao s'->bK (!v) (nx ao)->WhlIf v (aC (aG PG w) c.A (d8 d.1.2.1 c.ee) (WhlPost PG w c.A (λy y=>False) c.ee d.1.1 d.1.2.1 [] Q 0) (λy y=>False) s') (aC (aG PG w) c.A (d8 [] c.ee) Q (λy y=>False) s'):=λ{v ao s'} N h=>by
  refine bv h λh1 h=> ?_
  exact WhlIf.no (fn h1) (wpAny_execs_nil (q ao s' N.rep N.ext h))
 refine gx (E:=λy y=>False) (whl_start 1 (whl_turn sR ?_)) (λy y z=>z) λy y z=>z.elim
 refine eg h (λm y h=> ?_) λy h=> ?_
 ·rw [m.2]
  rw [m.2] at fin
  refine isTrue_and (KW I O R h λv aD s1 N hk=> ?_)
  cases v with
  |true=>
   refine mM hk (λy hk=> ?_) λhk=> ?_
   ·refine isTrue_and (I.ip O N.rep hk λv2 aE s2 N2 aV=> ?_)
    cases v2 with
    |true=>exact nomatch (qK aV).1
    |false=>exact fin (N.trans N2) aV
   ·exact nomatch (qK hk).1
  |false=>exact (IA hk).elim (λz=>nomatch z.1) (fin N)
 ·exact I.ip O R h λv aD s1 N hk=>fin N hk
theorem freed {h₀ h:bA} {L:ac} {news:Led} {p:ac×av} (N:aU h₀ L h news) (hp:p∈news):p.2.isFreed=false:=(Heap.get?_some_iff.mp (N p hp).1).2
noncomputable def TG:(s:bP)->Option (PSigma λd:(az×az×aW)×(az×aW)=>s= .Assign [.Subscript d.1.1 d.1.2.1 d.1.2.2] d.2.1 d.2.2)
 | .Assign [.Subscript o i tp] e p=>some ⟨((o,i,tp),(e,p)),rfl⟩
 |_=>none
noncomputable def K1 (w:ah):SS:=λr cs b s st nx=>oK (TG s) λd=>bK (!qT d.1.2.1) (r.ev cs b d.1.2.1 st λv st=>r.ev cs b d.1.1.1 st λov st=>r.ev cs b d.1.1.2.1 st λiv st=>oK (d6 iv.val) λn=>oK (fi ov) λi=>oK st.led[i]? λe=>oK (r7 e.o) λo=>bK e.f
 (DF w e.a o []/\ ∀o',DF w e.a o' [(n,v)]->nx {st with led:=setAt st.led i (.raw o'),tk:=st.tk+1}))
theorem TH:jz w NN D (K1 w):=by
 intro r I c b sm st nx s Q E O hF R h q
 refine aJ h λd j h=> ?_
 refine bv h λh1 h=> ?_
 rw [d.2]
 refine yx (vR (fn h1)) (BI rfl) (BJ rfl) (I.ev O R h λv aD s1 N1 lD hk=>kas_sub (I.ev O N1.rep hk λv2 aE s2 N2 cI hk=>I.ev O N2.rep hk λv3 gh s3 N3 mH hk=> ?_))
 refine aJ hk λn e0 hk=> ?_
 refine aJ hk λi e1 hk=> ?_
 refine aJ hk λe e2 hk=> ?_
 refine aJ hk λo e3 hk=> ?_
 refine bv hk λe4 z9=>z9.elim λhd hk=> ?_
 refine (eS e0).elim λt e0=> ?_
 have e3:=uC e3
 have R3:=N3.rep
 have ap:=R3.ap i e e2 e4
 rw [gn e1 e2 (cI.ext N3.ext),e0]
 have U:=KR (P:=w.params) (r:=gh.oth++(c.eY++c.news)) e2 e3 ap.2 λp hp=>by
  rcases aM.mp hp with hp|hp
  ·exact ap.1 p (aq _ hp)
  ·rcases aM.mp hp with hp|hp
   ·exact R3.hd i e e2 e4 p hp
   ·exact ap.1 p (ay _ hp)
 refine kda_set R3.fr R3.nw U hd.i (intKind_is _ _ _ _) (da _) λh' o' F' N' tY=> ?_
 have hm:(e.a,o')∈bo w.params (setAt gh.led i (.raw o'))++(gh.oth++(c.eY++c.news)):=by
  obtain ⟨pre,post,y,hg,y⟩:=U.split
  rw [hg o']
  exact ay _ (.head _)
 obtain ⟨y,hx,z⟩:=R3.set (o:=.raw o') e2 e4 (by rw [e3];rfl) rfl (freed N' hm)
 exact q _ _ (z h' (s3.toks+1) (gh.tk+1) (by rw [R3.tk]) F' N') (((N1.ext.trans N2.ext).trans N3.ext).trans hx) (hk o' ⟨tY,hd.l⟩)
noncomputable def TI:(e:az)->Option (PSigma λp:aW=>e= .Dict [] [] p)
 | .Dict [] [] p=>some ⟨p,rfl⟩
 |_=>none
noncomputable def K2 (w:ah):XS:=λr cs b e st k=>oK (TI e) λz=>(∀d o,DF w d o []->k (.own st.led.length d) (Bl st (.raw o) d))
theorem TJ:fj w NN D (K2 w):=by
 intro r I c b e st k s Q E O R h q
 refine aJ h λp z h=> ?_
 rw [p.2]
 exact newDict_K R.fr R.nw O.T.nolimit λd h' o F' N' l lo z z i z=>q (.own st.led.length d) _ _ ⟨R.alloc (a:=d) (o:=.raw o) (h':=h') F' N' (λp hp=>cL (l p hp)) (freed N' (.head _)),Ext.app _ _,rfl⟩ ⟨_,kh _ _,rfl⟩ (h d o ⟨i,lo⟩)
noncomputable def TK:(v:aa)->Option (PSigma λd:ai×af=>v= .str d.1 d.2)
 | .str x t=>some ⟨(x,t),rfl⟩
 |_=>none
noncomputable def uD (v:aa):Option Str:=(TK v).map (·.1.1)
theorem wW {v:aa} {x:ai} (h:uD v=some x):∃t,v= .str x t:=iq h λd f=>⟨d.1.2,f▸d.2⟩
def D9 (u v:SV) (st:St) (k:SV->St->Prop):Prop:=
 bE (decide (kg v.val=some "str")) (oK (uD u.val) λz=>k (.lit (.bool true)) st) (bK (decide (kg v.val=some "tuple")) (oK (hW st.led u) λz=>∀tk,k (.lit (.bool true)) {st with tk:=tk}))
theorem K3:fj w NN D (lK w D9):=Ca λ{c b st s u v k Q E} O R hu _ h q=>by
 refine mM h (λh2 h=> ?_) λh=> ?_
 ·refine aJ h λy e2 h=> ?_
  refine (wW e2).elim λt e2=> ?_
  rw [kL (cJ h2),e2]
  exact IsiPair.str_str (q (.lit _) _ _ (Nx.refl R) trivial h)
 ·refine bv h λh2 h=> ?_
  refine aJ h λy e2 h=> ?_
  obtain ⟨i,e,m,e3,z,z,⟨o,g1,g2,z⟩,z⟩:=jy R hu e2
  rw [kL (cJ h2),e3]
  exact kia_one kitx_tuple (O.X.keeps R.fr.keep) ⟨o,g1,g2⟩ (by with_unfolding_all rfl) (nomatch ·) λtk=>q.tick (v:=.lit (.bool true)) R trivial (h tk)
noncomputable def Ea (P:aB):XS:=λr cs b e st k=>oE (I7 e)
 (λd=>r.ev cs b d.1.1 st λx st=>r.ev cs b d.1.2.1 st λy st=>oK (uD x.val) λa=>oK (uD y.val) λc=>bK (gH a.length 100&&gH c.length 100) (∀t tk,k (.lit (.str (a++c) t)) {st with tk:=tk}))
 (oE (uf e) (λd=>bK (qU d.1.2.1) (fR (KK P) Cfg.none r cs b [] d.1.1 st λx st=>r.ev cs b d.1.2.1 st λy st=>oK (uD x.val) λa=>oK (oB (d6 y.val) x6) λm=>bK (sH m a.length&&gH a.length 100) (k (.lit (.str (Txt.item a m) st.tk)) (st.tick 1))))
  (fR (KK P) Cfg.none r cs b [] e st k))
theorem K4:fj w NN D (Ea w.params):=by
 intro r I c b e st k s Q E O R h q
 refine eg h (λd j h=> ?_) λj h=> ?_
 ·rw [d.2]
  refine uY (I.ev O R h λv aD s1 N ok hk=>I.ev O N.rep hk λv2 aE s2 N2 cI aV=> ?_)
  refine aJ aV λx e1 hk=> ?_
  refine aJ hk λy e2 hk=> ?_
  refine bv hk λh1 hk=> ?_
  refine (wW e1).elim λt e1=> ?_
  refine (wW e2).elim λu e2=> ?_
  rw [e1,e2]
  exact KXadd.add (dB (cy h1).1) (dB (cy h1).2) (by decide) λt' tk j=>q (.lit _) {aE with tk:=tk} _ ((N.trans N2).trans ⟨⟨⟨N2.rep.tomD,N2.rep.lc,N2.rep.fz⟩,by show _=_;rw [N2.rep.same],rfl,N2.rep.fr,N2.rep.nw⟩,Ext.refl _,rfl⟩) trivial (hk t' tk)
 refine eg h (λd j h=> ?_) λj h=> ?_
 ·refine bv h λh0 h=> ?_
  rw [d.2]
  refine vj (gi I ez O R h λv aD s1 N ok hk=>I.ev O N.rep hk λv2 aE s2 N2 cI aV=> ?_)
  refine aJ aV λx e1 hk=> ?_
  refine aJ hk λm e2 hk=> ?_
  refine bv hk λh1 hk=> ?_
  refine (wW e1).elim λt e1=> ?_
  refine cz e2 λz e2 e3=> ?_
  refine (eS e2).elim λu e2=> ?_
  have l1:=dB (cy h1).1
  have l2:=dB (cy h1).2
  rw [e1,e2,Ba e3]
  have ef:dW m=(dW m).fmod (x.length:Int):=(Int.fmod_eq_of_lt (j9 m) (iA.mpr l1)).symm
  have aK:∀a,subscripted d.1.2.1 false (.str x t) (.int a u)=operate [.str x t,.int a u] (getItem (.str x t) (.int a u)):=λa=>by
   cases q:d.1.2.1<;>first|rfl|(rw [q] at h0;cases h0)
  refine kba_turn (value':=.Name (aF "_") ⟨0,0,0,0⟩) (λj=>rfl) ?_
  rw [ef]
  refine item_str_fmod (iA.mpr (gZ (da m) l1)) (vm _) (mj (fZ.mpr l2) (by decide)) (λj=> ?_) (aK _)
  rw [<-ef]
  have z:=q (.lit _) _ _ ((N.trans N2).trans ⟨N2.rep.toks 1,Ext.refl _,rfl⟩) trivial hk
  rw [<-N2.rep.tk] at z
  exact z
 ·exact gi I ez O R h q
def tB (w:ah) (T:String) (v:SV) (st:St) (k:SV->St->Prop):Prop:=bE (decide (T="dict")) (oK (fi v) λi=>oK st.led[i]? λe=>oK (r7 e.o) λo=>DF w e.a o (gT 0 st.led)/\ ∀o',gf st (.raw o') k)
 (oK (wV (KK w.params) v.val) λvs=>bE (decide (T="tuple")) (k v st) (bK (decide (T="list")&&gH vs.length 100) (∀c,gf st (.lst (vs.map SV.lit) c) k)))
noncomputable def xB (w:ah):XS:=λr cs b e st k=>oE (ui e)
 (λd=>bK (noStar [d.1.2.1]) (fR (KK w.params) Cfg.none r cs b [] (.Name d.1.1.1 d.1.1.2) st λfv st=>
  oE (kg fv.val) (λT=>r.ev cs b d.1.2.1 st λv st=>tB w T v st k)
   (bK (decide (ya fv.val=some "len")) (r.ev cs b d.1.2.1 st λv st=>oK (wV (KK w.params) v.val) λvs=>bK (gH vs.length 100) (k (.lit (.int vs.length (st.tk+1))) (st.tick 2))))))
 (fR (KK w.params) Cfg.none r cs b [] e st k)
theorem K5:∀{l:List LE} {i:Nat},(gT i l).length<=1
 |[],z=>da _
 |e::r,i=>by
  unfold gT
  cases oB (je e.o) λvs=>bB (ej vs.length 6) (some ()) with
  |some u=>exact cS _
  |none=>exact K5 (l:=r)
theorem qf:fj w NN D (xB w):=by
 intro r I c b e st k s Q E O R h q
 refine eg h (λd j h=> ?_) λj h=> ?_
 ·refine bv h λh1 h=> ?_
  rw [d.2]
  refine kH (gi I ez O R h λfv aD s1 N ok hk=> ?_)
  refine eg hk (λT e0 hk=> ?_) λj hk=> ?_
  ·rw [kL e0]
   refine nO (kG (I.ev O N.rep hk λv aE s2 N2 cI aV=>nM ?_) (fA (cW h1).1)) (fA (cW h1).1) (iR (cW h1).2)
   have q2:=q.after (N.trans N2)
   have R2:=N2.rep
   refine mM aV (λh2 aV=> ?_) λaV=> ?_
   ·have h2:=cJ h2
    subst h2
    refine aJ aV λi e1 dA=> ?_
    refine aJ dA λe e2 dA=> ?_
    refine aJ dA λo e3 z9=>z9.elim λhd dA=> ?_
    have mm:=fJ (w:=w) (c:=c) e2
    rw [uC e3] at mm
    rw [gn e1 e2 cI]
    exact Ts R2.fr R2.nw mm hd.i hd.l (by rw [zE];exact aI K5 (by rw [l7];decide)) λD' h' o' F' N' l=>added (o:=.raw o') R2 F' N' (λp hp=>cL (l p hp)) (freed N' (.head _)) (dA o') q2
   ·refine aJ aV λvs e1 dA=> ?_
    obtain ⟨a,o,e2,y,ht,y⟩:=zF O R2 e1
    refine mM dA (λh3 sa=> ?_) λsa=> ?_
    ·have h3:=cJ h3
     subst h3
     have z:=q2 v _ _ (Nx.refl R2) cI sa
     rw [e2] at z⊢
     exact call_tuple_tup ht z
    ·refine bv sa λh3 TL=> ?_
     have h4:=cJ (cy h3).1
     subst h4
     rw [e2]
     exact list_copyKT R2.fr R2.nw ht (λD' cp h' F' N' l=>added (o:=.lst (vs.map SV.lit) cp) R2 F' (by
      show aU _ _ _ ((D',(⟨.type "list",none,.seq (vals (vs.map SV.lit)).toArray cp,#[]⟩:av))::_)
      rw [yu];exact N') (λp hp=>cL (l p hp)) (λz hz=>by
      obtain ⟨y,y,rfl⟩:=ew.mp hz
      trivial) (TL cp) q2) (vO (cy h3).2)
  ·refine bv hk λh2 hk=> ?_
   rw [Bc (cJ h2)]
   refine callWith_builtin1 (kG (I.ev O N.rep hk λv aE s2 N2 cI aV=>nM ?_) (fA (cW h1).1)) (fA (cW h1).1) (iR (cW h1).2)
   refine aJ aV λvs e3 dA=> ?_
   obtain ⟨a,o,e2,y,ht,y⟩:=zF O N2.rep e3
   refine bv dA λh3 sa=> ?_
   rw [e2]
   have z:=q.after (N.trans N2) (.lit _) _ _ ⟨N2.rep.toks 2,Ext.refl _,rfl⟩ trivial sa
   rw [<-N2.rep.tk] at z
   exact kun_lenT ht rfl (ed (fZ.mpr (dB h3)) (by decide)) z
 ·exact gi I ez O R h q
noncomputable def isNm:az->Bool
 | .Name ..=>true
 |_=>false
noncomputable def K6 (w:ah):XS:=λr cs b e st k=>oE (oB (uf e) λd=>bB (isNm d.1.1) (some d))
 (λd=>bK (qU d.1.2.1) (fR (KK w.params) Cfg.none r cs b [] d.1.1 st λov st=>r.ev cs b d.1.2.1 st λiv st=>oK (d6 iv.val) λn=>oK (fi ov) λi=>oK st.led[i]? λe=>oK (r7 e.o) λo=>oK (gT 0 st.led).head? λz=>bK (decide (z.1=n)) (DF w e.a o (gT 0 st.led)/\k z.2 (st.tick 1))))
 (fR (KK w.params) Cfg.none r cs b [] e st k)
theorem TM:fj w NN D (K6 w):=by
 intro r I c b e st k s Q E O R h q
 refine eg h (λd j h=> ?_) λj h=> ?_
 ·refine bv h λh0 h=> ?_
  rw [d.2]
  refine vj (gi I ez O R h λv aD s1 N ok hk=>I.ev O N.rep hk λv2 aE s2 N2 cI aV=> ?_)
  refine aJ aV λn e0 hk=> ?_
  refine aJ hk λi e1 hk=> ?_
  refine aJ hk λe e2 hk=> ?_
  refine aJ hk λo e3 hk=> ?_
  refine aJ hk λz e4 hk=> ?_
  refine bv hk λh1 z9=>z9.elim λhd dA=> ?_
  have h1:=cJ h1
  subst h1
  refine (eS e0).elim λt e0=> ?_
  have mm:=fJ (w:=w) (c:=c) e2
  rw [uC e3] at mm
  rw [gn e1 e2 (ok.ext N2.ext),e0]
  have aK:∀a u,subscripted d.1.2.1 false (.ref e.a) (.int a u)=operate [.ref e.a,.int a u] (getItem (.ref e.a) (.int a u)):=λa u=>by
   cases q:d.1.2.1<;>first|rfl|(rw [q] at h0;cases h0)
  refine kba_turn (value':=.Name (aF "_") ⟨0,0,0,0⟩) (λj=>rfl) ?_
  have hv:valueAt (r0 (gT 0 aE.led)) z.1=some z.2.val:=by
   obtain ⟨l,g⟩:∃l,gT 0 aE.led=z::l:=by
    cases g:gT 0 aE.led with
    |nil=>rw [g] at e4;cases e4
    |cons y l=>rw [g] at e4;cases e4;exact ⟨l,rfl⟩
   rw [g]
   show((List.find? _ ((z.1,z.2.val)::r0 l)).map (·.2))=_
   rw [List.find?_cons_of_pos (by exact gW rfl)]
   rfl
  exact kda_item N2.rep.nw mm hd.i (intKind_is _ _ _ _) hv (q _ _ _ ((N.trans N2).trans ⟨N2.rep.toks 1,Ext.refl _,rfl⟩) (KP z (List.mem_of_mem_head? e4)) dA) (aK _ _)
 ·exact gi I ez O R h q
end
end
section
section
variable {w:ah} {NN:Led} {D:Nat}
noncomputable def K7 (w:ah):SS:=λr cs b s st nx=>oK (KQ s) λd=>bK (!lE d.1.2.1) (r.ev cs b d.1.2.1 st λsv st=>oE (Cp sv.val)
 (λy=>mC (λn st κ=>oK y.1.1.toList[n]? λch=>∀t,qX r cs b d.1.1.1 d.1.2.2.1 (.lit (.int (ch.toNat:Int) t)) st κ) (i7 592 none) y.1.1.size 0 st nx)
 (oK (fi sv) λi=>oK st.led[i]? λe=>oK (jM e.o) λl=>mC (λn st κ=>oK l.1[n]? λv=>qX r cs b d.1.1.1 d.1.2.2.1 v st κ) (i7 e.a (some (i,e.o))) l.1.length 0 st nx))
theorem TN:jz w NN D (K7 w):=by
 intro r I c b sm st nx s Q E O hF R h q
 refine aJ h λd j h=> ?_
 refine bv h λh1 h=> ?_
 have hl:c.ee.locals=c.L:=by rw [hF.ee];rfl
 rw [d.2]
 refine gx (E:=λj j=>False) (For_turns (show Fr c.h₀ c.ee.locals s.heap (c.fm st.loc) by rw [hl];exact R.fr) (I.ev O R h λv aD s1 N ok hk=> ?_) (λj=>kS (fn h1)) sR) (λj j z=>z) λj j z=>z.elim
 have R1:=N.rep
 have q1:=λao s' R' (x:Ext aD.led ao.led) hn=>q ao s' R' (N.ext.trans x) hn
 have F1:Fr c.h₀ c.ee.locals s1.heap (c.fm aD.loc):=by rw [hl];exact R1.fr
 have N1:aU c.h₀ c.ee.locals s1.heap (all w c aD):=by rw [hl];exact R1.nw
 have hs:s1={c.en with heap:=s1.heap,toks:=s1.toks}:=R1.same
 refine eg hk (λy j hk=> ?_) λj hk=> ?_
 ·rw [y.2]
  have kp:Kp c 592 none aD.led:=⟨_,O.X 592 _ rfl⟩
  refine Td (LJ w c aD.led 592 none (i7 592 none) _ y.1.1.size nx) O.hh F1 N1 ⟨aD,R1.tofS,Ext.refl _,kp,rfl,rfl,y.1.1.size,ma _,hk⟩ (λI' i' v0 u m₁ nw aS cC own hv gS how hJ hI F N=> ?_) (λh' tk m' nw F N hJ=>ri hl hs q1 F N hJ)
  refine rg hl hs (uB kp) (sU.mp hv).1 (λ{q' aE κ} R2 x2 h2=> ?_) gS (λp hp=>.inl (how p hp)) hJ hI F N
  rw [xJ,hv] at h2
  exact tI I O hF R2 (v:=.lit (.int (v0.toNat:Int) u)) trivial (h2 u)
 ·refine aJ hk λi e1 hk=> ?_
  refine aJ hk λe e2 hk=> ?_
  refine aJ hk λl e3 hk=> ?_
  have e4:=kQ e3
  have mm:=fJ (w:=w) (c:=c) e2
  rw [e4] at mm
  rw [gn e1 e2 ok]
  have kp:Kp c e.a (some (i,e.o)) aD.led:=⟨e,e2,rfl,rfl⟩
  refine yA (LJ w c aD.led e.a (some (i,e.o)) (i7 e.a (some (i,e.o))) _ l.1.length nx) O.hh F1 N1 mm ⟨aD,R1.tofS,Ext.refl _,kp,rfl,rfl,l.1.length,ma _,hk⟩ (λI' i' v0 m₁ nw aS cC own hv gS how hJ hI F N=> ?_) (λh' tk m' nw F N hJ=> ?_)
  ·obtain ⟨v,g1,rfl⟩:=vP (show(vals l.1)[i']? =some v0 by simpa using hv)
   refine rg hl hs (uB kp) (iN.mp g1).1 (λ{q' aE κ} R2 x2 h2=> ?_) gS how hJ hI F N
   rw [g1] at h2
   have pH:gr aD.led e.o:=R1.ir i e e2
   rw [e4] at pH
   exact tI I O hF R2 ((pH v (et g1)).ext x2) h2
  ·have hJ:LJ w c aD.led e.a (some (i,e.o)) (i7 e.a (some (i,e.o))) _ l.1.length nx (vals l.1).length m' nw:=hJ
   rw [eh] at hJ
   exact ri hl hs q1 F N hJ
def K8 (w:ah) (u v:SV) (st:St) (k:SV->St->Prop):Prop:=oK (fi v) λj=>oK st.led[j]? λf=>oK (je f.o) λts=>
 oE (Cp u.val) (λz=>bK (decide (kitAny (KK w.params) (.type "bytes") (vals ts)=some true)) (∀tk,k (.lit (.bool true)) {st with tk:=tk}))
  (oK (fi u) λi=>oK st.led[i]? λe=>oK (jM e.o) λz=>bK (decide (kitAny (KK w.params) (.type "list") (vals ts)=some true)) (∀tk,k (.lit (.bool true)) {st with tk:=tk}))
theorem TO:fj w NN D (lK w (K8 w)):=Ca λ{c b st s u v k Q E} O R hu hv hc q=>by
 refine aJ hc λj e2 hc=> ?_
 refine aJ hc λf e3 hc=> ?_
 refine aJ hc λts e4 hc=> ?_
 refine (tj e4).elim λm e4=> ?_
 have tt:=R.at e3
 rw [e4] at tt
 rw [bW SV.val (gn e2 e3 hv)]
 refine eg hc (λy z hc=> ?_) λz hc=> ?_
 ·rw [y.2]
  refine bv hc λh2 hc=> ?_
  exact kia_tup kitx_bytes (O.X.keeps R.fr.keep) trivial tt (cJ h2) (nomatch ·) λtk=>q.tick (v:=.lit (.bool true)) R trivial (hc tk)
 ·refine aJ hc λi g1 hc=> ?_
  refine aJ hc λe g2 hc=> ?_
  refine aJ hc λl g3 hc=> ?_
  refine bv hc λh2 hc=> ?_
  have ll:=R.at g2
  rw [kQ g3] at ll
  rw [bW SV.val (gn g1 g2 hu)]
  exact kia_tup kitx_list (O.X.keeps R.fr.keep) ⟨_,ll,rfl⟩ tt (cJ h2) (nomatch ·) λtk=>q.tick (v:=.lit (.bool true)) R trivial (hc tk)
noncomputable def K9 (vs:List SV):Option ((Int×af)×(Int×af)):=oB (yF vs) λx=>oB (nZ x.1.val) λm=>(nZ x.2.val).map λn=>(m,n)
theorem TQ {l:List SV} {mn:(Int×af)×(Int×af)} (h:K9 l=some mn):vals l=[.int mn.1.1 mn.1.2,.int mn.2.1 mn.2.2]:=by
 refine cz h λx e0 h=> ?_
 refine cz h λm e1 h=> ?_
 obtain ⟨n,e2,rfl⟩:=iz.mp h
 cases B9 e0
 show[_,_]=_
 rw [pA e1,pA e2]
noncomputable def La (w:ah):XS:=λr cs b e st k=>oK (ui e) λd=>bK (noStar [d.1.2.1]) (fR (KK w.params) Cfg.none r cs b [] (.Name d.1.1.1 d.1.1.2) st λfv st=>bK (decide (kg fv.val=some "bytes")) (r.ev cs b d.1.2.1 st λv st=>
 oE (Cp v.val) (λy=>k (.lit (.bytes y.1.1 y.1.2)) st)
  (oK (fi v) λi=>oK st.led[i]? λe=>oK (jM e.o) λl=>oK (K9 l.1) λmn=>∃b1 b2:UInt8,(mn.1.1=(b1.toNat:Int)/\mn.2.1=(b2.toNat:Int))/\ ∀t tk,k (.lit (.bytes #[b1,b2] t)) {st with tk:=tk})))
theorem TS:fj w NN D (La w):=by
 intro r I c b e st k s Q E O R h q
 refine aJ h λd z h=> ?_
 refine bv h λh1 h=> ?_
 rw [d.2]
 refine kH (gi I ez O R h λfv aD s1 N ok hk=> ?_)
 refine bv hk λh2 hk=> ?_
 rw [kL (cJ h2)]
 refine nO (kG (I.ev O N.rep hk λv aE s2 N2 cI aV=>nM ?_) (fA (cW h1).1)) (fA (cW h1).1) (iR (cW h1).2)
 have q2:=q.after (N.trans N2)
 have R2:=N2.rep
 refine eg aV (λy z hc=> ?_) λz hc=> ?_
 ·rw [y.2]
  exact Qd (q2 (.lit _) _ _ (Nx.refl R2) trivial hc)
 ·refine aJ hc λi g1 hc=> ?_
  refine aJ hc λe g2 hc=> ?_
  refine aJ hc λl g3 hc=> ?_
  refine aJ hc λmn g4 hc=>hc.elim λb1 hc=>hc.elim λb2 hc=> ?_
  have mm:=fJ (w:=w) (c:=c) g2
  rw [kQ g3] at mm
  have m:(e.a,(⟨.type "list",none,.seq (vals l.1).toArray l.2,#[]⟩:av))∈all w c aE:=mm
  rw [TQ g4,hc.1.1,hc.1.2] at m
  rw [bW SV.val (gn g1 g2 cI)]
  exact Qe O.hh R2.fr R2.nw m λh' t tk F' N'=>q2 (.lit _) {aE with tk:=tk} _ ⟨⟨⟨R2.tomD,R2.lc,R2.fz⟩,by show _=_;rw [R2.same],rfl,F',N'⟩,Ext.refl _,rfl⟩ trivial (hc.2 t tk)
noncomputable def Eb (w:ah):Cfg:=⟨[((242,15),lK w (K8 w)),((247,22),La w)],Cfg.none.rd,Cfg.none.iv,[((244,8),K7 w)]⟩
theorem Lb:jh w NN D (Eb w):=⟨λ{_ _ _ _ _ _ _}=>ez,v8 (eM.mpr TN),dZ TO (dZ TS km)⟩
end
end
section
theorem TU (wo:ah) (na nb nc:Nat) (ba:na<12) (bb:nb<12) (bc:nc<12):dw wo (.mk 8 [na,nb,nc] []):=kW Cfg.none (λz=>Cfg.gI) (λN=>tabS N wo) (λz=>H8 (dB rfl)) [] λled fq news x qn qi t n0 n1 nf τ f0 f1 aK h0 h1 tk=>by
 refine @cD _ (∀(b1 b2 b3:Nat),(0<=(na:Int)/\(na:Int)<=255)/\ ∀(b4 b5 b6 b7:Nat),((0:Int)<=1/\(1:Int)<=3)/\ ∀(b8:Nat),(-1073741823<=(nb:Int)/\(nb:Int)<=1073741823)/\ ∀(b9 aH bq bJ:Nat),((0:Int)<=97/\(97:Int)<=255)/\ ∀(bY bt cj:Nat),((0:Int)<=0/\(0:Int)<=3)/\ ∀(bx:Nat),(-1073741823<=(nc:Int)/\(nc:Int)<=1073741823)/\ ∀(dP cw fV fF:Nat),ow wo [LE.mk x (SO.tup [li ((8:Int)) t,SV.own 1 qn,SV.lit (ae qi)] n0) false,LE.mk qn (SO.tup [li ((na:Int)) (τ 0),li ((nb:Int)) (τ (0+1)),li ((nc:Int)) (τ (0+1+1))] n1) false,LE.mk fq (SO.lst [SV.lit (ae f0),SV.lit (ae f1)] nf) false,LE.mk b1 (SO.tup [li 0 (tk+5),li 10 (tk+6),li 11 (tk+7),li 14 (tk+8)] 0) true,LE.mk b3 (SO.dict [(sO "font",tk+23,SV.lit (ae f0)),(sO "code",b4+1,li ((na:Int)) (τ 0))] 2) true,LE.mk b2 (SO.inst 340 4 b3) true,LE.mk b5 (SO.lst [SV.own 5 b2] 0) true,LE.mk b7 (SO.dict [(sO "width",b9+1,li ((nb:Int)) (τ (0+1))),(sO "sort",b9+3,li 1 (b4+3))] 2) true,LE.mk b6 (SO.inst 423 7 b7) true,LE.mk aH (SO.lst [SV.own 8 b6] 0) true,LE.mk bJ (SO.dict [(sO "font",b9+10,SV.lit (ae f1)),(sO "code",bY+1,li 97 (b9+5))] 2) true,LE.mk bq (SO.inst 340 10 bJ) true,LE.mk cj (SO.dict [(sO "width",dP+1,li ((nc:Int)) (τ (0+1+1))),(sO "sort",dP+3,li 0 (bY+3))] 2) true,LE.mk bt (SO.inst 423 12 cj) true,LE.mk cw (SO.lst [SV.own 11 bq,SV.own 13 bt] 0) true,LE.mk fF (SO.dict [] 0) true,LE.mk fV (SO.inst 487 15 fF) true] news b5/\ ∀(jE:Nat),ow wo [LE.mk x (SO.tup [li ((8:Int)) t,SV.own 1 qn,SV.lit (ae qi)] n0) false,LE.mk qn (SO.tup [li ((na:Int)) (τ 0),li ((nb:Int)) (τ (0+1)),li ((nc:Int)) (τ (0+1+1))] n1) false,LE.mk fq (SO.lst [SV.lit (ae f0),SV.lit (ae f1)] nf) false,LE.mk b1 (SO.tup [li 0 (tk+5),li 10 (tk+6),li 11 (tk+7),li 14 (tk+8)] 0) true,LE.mk b3 (SO.dict [(sO "font",tk+23,SV.lit (ae f0)),(sO "code",b4+1,li ((na:Int)) (τ 0))] 2) true,LE.mk b2 (SO.inst 340 4 b3) true,LE.mk b5 (SO.lst [SV.own 5 b2] 0) true,LE.mk b7 (SO.dict [(sO "width",b9+1,li ((nb:Int)) (τ (0+1))),(sO "sort",b9+3,li 1 (b4+3))] 2) true,LE.mk b6 (SO.inst 423 7 b7) true,LE.mk aH (SO.lst [SV.own 8 b6] 0) true,LE.mk bJ (SO.dict [(sO "font",b9+10,SV.lit (ae f1)),(sO "code",bY+1,li 97 (b9+5))] 2) true,LE.mk bq (SO.inst 340 10 bJ) true,LE.mk cj (SO.dict [(sO "width",dP+1,li ((nc:Int)) (τ (0+1+1))),(sO "sort",dP+3,li 0 (bY+3))] 2) true,LE.mk bt (SO.inst 423 12 cj) true,LE.mk cw (SO.lst [SV.own 11 bq,SV.own 13 bt] 0) true,LE.mk fF (SO.dict [(sO "pre",jE+1,SV.own 6 b5)] 1) true,LE.mk fV (SO.inst 487 15 fF) true] news aH/\ ∀(fU:Nat),ow wo [LE.mk x (SO.tup [li ((8:Int)) t,SV.own 1 qn,SV.lit (ae qi)] n0) false,LE.mk qn (SO.tup [li ((na:Int)) (τ 0),li ((nb:Int)) (τ (0+1)),li ((nc:Int)) (τ (0+1+1))] n1) false,LE.mk fq (SO.lst [SV.lit (ae f0),SV.lit (ae f1)] nf) false,LE.mk b1 (SO.tup [li 0 (tk+5),li 10 (tk+6),li 11 (tk+7),li 14 (tk+8)] 0) true,LE.mk b3 (SO.dict [(sO "font",tk+23,SV.lit (ae f0)),(sO "code",b4+1,li ((na:Int)) (τ 0))] 2) true,LE.mk b2 (SO.inst 340 4 b3) true,LE.mk b5 (SO.lst [SV.own 5 b2] 0) true,LE.mk b7 (SO.dict [(sO "width",b9+1,li ((nb:Int)) (τ (0+1))),(sO "sort",b9+3,li 1 (b4+3))] 2) true,LE.mk b6 (SO.inst 423 7 b7) true,LE.mk aH (SO.lst [SV.own 8 b6] 0) true,LE.mk bJ (SO.dict [(sO "font",b9+10,SV.lit (ae f1)),(sO "code",bY+1,li 97 (b9+5))] 2) true,LE.mk bq (SO.inst 340 10 bJ) true,LE.mk cj (SO.dict [(sO "width",dP+1,li ((nc:Int)) (τ (0+1+1))),(sO "sort",dP+3,li 0 (bY+3))] 2) true,LE.mk bt (SO.inst 423 12 cj) true,LE.mk cw (SO.lst [SV.own 11 bq,SV.own 13 bt] 0) true,LE.mk fF (SO.dict [(sO "pre",jE+1,SV.own 6 b5),(sO "post",fU+1,SV.own 9 aH)] 2) true,LE.mk fV (SO.inst 487 15 fF) true] news cw/\ ∀(dQ:Nat),Sep [b1,b3,b2,b5,b7,b6,aH,bJ,bq,cj,bt,cw,fF,fV] []->cE wo.2 (bV wo led (nd (Tr.mk 8 [na,nb,nc] []))) news [LE.mk b1 (SO.tup [li 0 (tk+5),li 10 (tk+6),li 11 (tk+7),li 14 (tk+8)] 0) true,LE.mk b3 (SO.dict [(sO "font",tk+23,SV.lit (ae f0)),(sO "code",b4+1,li ((na:Int)) (τ 0))] 2) true,LE.mk b2 (SO.inst 340 4 b3) true,LE.mk b5 (SO.lst [SV.own 5 b2] 0) true,LE.mk b7 (SO.dict [(sO "width",b9+1,li ((nb:Int)) (τ (0+1))),(sO "sort",b9+3,li 1 (b4+3))] 2) true,LE.mk b6 (SO.inst 423 7 b7) true,LE.mk aH (SO.lst [SV.own 8 b6] 0) true,LE.mk bJ (SO.dict [(sO "font",b9+10,SV.lit (ae f1)),(sO "code",bY+1,li 97 (b9+5))] 2) true,LE.mk bq (SO.inst 340 10 bJ) true,LE.mk cj (SO.dict [(sO "width",dP+1,li ((nc:Int)) (τ (0+1+1))),(sO "sort",dP+3,li 0 (bY+3))] 2) true,LE.mk bt (SO.inst 423 12 cj) true,LE.mk cw (SO.lst [SV.own 11 bq,SV.own 13 bt] 0) true,LE.mk fF (SO.dict [(sO "pre",jE+1,SV.own 6 b5),(sO "post",fU+1,SV.own 9 aH),(sO "middle",dQ+1,SV.own 14 cw)] 3) true,LE.mk fV (SO.inst 487 15 fF) true] [] (SV.own 16 fV)) ?_ ?_
 ·kernel_rfl
 exactλz z z=>⟨⟨(eF (hi:=10000) ba (by decide) (by decide)).1,(eF (lo:=0) ba (by decide) (by decide)).2⟩,λz z z z=>⟨⟨(by decide),(by decide)⟩,λz=>⟨⟨(eF (hi:=10000) bb (by decide) (by decide)).1,(eF (lo:=0) bb (by decide) (by decide)).2⟩,λz z z z=>⟨⟨(by decide),(by decide)⟩,λz z z=>⟨⟨(by decide),(by decide)⟩,λz=>⟨⟨(eF (hi:=10000) bc (by decide) (by decide)).1,(eF (lo:=0) bc (by decide) (by decide)).2⟩,λz z z z=>⟨Ct aK (yL (mF (.tail _ (.tail _ (.tail _ (.tail _ (.tail _ (.tail _ (.head _)))))))) (te (mF (.tail _ (.tail _ (.tail _ (.tail _ (.tail _ (.head _))))))) (mF (.tail _ (.tail _ (.tail _ (.tail _ (.head _)))))) (tV h0))) H0,λz=>⟨Ct aK (yL (mF (.tail _ (.tail _ (.tail _ (.tail _ (.tail _ (.tail _ (.tail _ (.tail _ (.tail _ (.head _))))))))))) (qJ (mF (.tail _ (.tail _ (.tail _ (.tail _ (.tail _ (.tail _ (.tail _ (.tail _ (.head _)))))))))) (mF (.tail _ (.tail _ (.tail _ (.tail _ (.tail _ (.tail _ (.tail _ (.head _))))))))))) H3,λz=>⟨Ct aK (Ia (mF (.tail _ (.tail _ (.tail _ (.tail _ (.tail _ (.tail _ (.tail _ (.tail _ (.tail _ (.tail _ (.tail _ (.tail _ (.tail _ (.tail _ (.head _)))))))))))))))) (te (mF (.tail _ (.tail _ (.tail _ (.tail _ (.tail _ (.tail _ (.tail _ (.tail _ (.tail _ (.tail _ (.tail _ (.head _))))))))))))) (mF (.tail _ (.tail _ (.tail _ (.tail _ (.tail _ (.tail _ (.tail _ (.tail _ (.tail _ (.tail _ (.head _)))))))))))) (tV h1)) (qJ (mF (.tail _ (.tail _ (.tail _ (.tail _ (.tail _ (.tail _ (.tail _ (.tail _ (.tail _ (.tail _ (.tail _ (.tail _ (.tail _ (.head _))))))))))))))) (mF (.tail _ (.tail _ (.tail _ (.tail _ (.tail _ (.tail _ (.tail _ (.tail _ (.tail _ (.tail _ (.tail _ (.tail _ (.head _)))))))))))))))) H4,λz=>λcT=>H5 (FI (mF (.tail _ (.tail _ (.tail _ (.tail _ (.tail _ (.tail _ (.tail _ (.tail _ (.tail _ (.tail _ (.tail _ (.tail _ (.tail _ (.head _))))))))))))))) (mF (.tail _ (.tail _ (.tail _ (.tail _ (.tail _ (.tail _ (.tail _ (.tail _ (.tail _ (.tail _ (.tail _ (.tail _ (.head _)))))))))))))) (yL (mF (.tail _ (.tail _ (.tail _ (.head _))))) (te (mF (.tail _ (.tail _ (.head _)))) (mF (.tail _ (.head _))) (tV h0))) (yL (mF (.tail _ (.tail _ (.tail _ (.tail _ (.tail _ (.tail _ (.head _)))))))) (qJ (mF (.tail _ (.tail _ (.tail _ (.tail _ (.tail _ (.head _))))))) (mF (.tail _ (.tail _ (.tail _ (.tail _ (.head _)))))))) (Ia (mF (.tail _ (.tail _ (.tail _ (.tail _ (.tail _ (.tail _ (.tail _ (.tail _ (.tail _ (.tail _ (.tail _ (.head _))))))))))))) (te (mF (.tail _ (.tail _ (.tail _ (.tail _ (.tail _ (.tail _ (.tail _ (.tail _ (.head _)))))))))) (mF (.tail _ (.tail _ (.tail _ (.tail _ (.tail _ (.tail _ (.tail _ (.head _))))))))) (tV h1)) (qJ (mF (.tail _ (.tail _ (.tail _ (.tail _ (.tail _ (.tail _ (.tail _ (.tail _ (.tail _ (.tail _ (.head _)))))))))))) (mF (.tail _ (.tail _ (.tail _ (.tail _ (.tail _ (.tail _ (.tail _ (.tail _ (.tail _ (.head _)))))))))))))) (.refl _) (.cons _ (.cons _ (.cons _ (.cons_cons _ (.cons _ (.cons _ (.cons_cons _ (.cons _ (.cons _ (.cons _ (.cons _ (.cons_cons _ (.cons _ (.cons _ .slnil)))))))))))))) cT⟩⟩⟩⟩⟩⟩⟩⟩⟩
theorem TV (wo:ah) (na nb:Nat) (ba:na<12) (bb:nb<12):dw wo (.mk 13 [na,nb] []):=kW (Eb wo) (λz=>Lb) (λN=>tabS N wo) (λz=>H8 (dB rfl)) [] λled fq news x qn qi t n0 n1 nf τ f0 f1 aK h0 h1 tk=>by
 refine @cD _ (∀(b1 b2 b3 b4 b5:ac) (b6 b7:af),(0<=((na:Nat):Int)/\((na:Nat):Int)<=255)/\ ∀(b8:af),b2=b2/\SO.lst [li (((na:Nat):Int)) (τ 0),li (((nb:Nat):Int)+200) (tk+22)] 0=SO.lst [li (((na:Nat):Int)) (τ 0),li (((nb:Nat):Int)+200) (tk+22)] 0/\ ∀(b9:af),(0<=((nb:Nat):Int)+200/\((nb:Nat):Int)+(200:Int)<=255)/\ ∀(aH:af),b2=b2/\SO.lst [li (((na:Nat):Int)) (τ 0),li (((nb:Nat):Int)+200) (tk+22)] 0=SO.lst [li (((na:Nat):Int)) (τ 0),li (((nb:Nat):Int)+200) (tk+22)] 0/\ ∀(bq:af),∃(bJ:UInt8),∃(bY:UInt8),(((na:Nat):Int)=((bJ.toNat:Nat):Int)/\((nb:Nat):Int)+200=((bY.toNat:Nat):Int))/\ ∀(bt cj:af),Sep [b1,b2,b4,b3,b5] []->cE wo.2 (bV wo led (nd (Tr.mk 13 [na,nb] []))) news [LE.mk b1 (SO.tup [li 0 (tk+5),li 10 (tk+6),li 11 (tk+7),li 14 (tk+8)] 0) true,LE.mk b2 (SO.lst [li (((na:Nat):Int)) (τ 0),li (((nb:Nat):Int)+200) (tk+22)] 0) true,LE.mk b4 (SO.dict [(sO "octets",cj+1,SV.lit (Value.bytes (di [bJ,bY]) bt))] 1) true,LE.mk b3 (SO.inst 592 5 b4) true,LE.mk b5 (SO.tup [SV.lit (aw "bytes"),SV.lit (aw "bytearray"),SV.lit (aw "list"),SV.lit (aw "tuple")] 0) true] [] (SV.own 6 b3)) ?_ ?_
 ·kernel_rfl
 exactλz z z z z z z=>⟨by omega,λz=>⟨rfl,rfl,λz=>⟨by omega,λz=>⟨rfl,rfl,λz=>⟨nP na,nP (nb+200),⟨u8 (nF ba (by decide)),u8 (nF (Nat.add_lt_add_right bb 200) (by decide))⟩,λz z z=>eZ (FC (mF (.tail _ (.tail _ (.tail _ (.head _))))) (mF (.tail _ (.tail _ (.head _)))))⟩⟩⟩⟩⟩
end
section
def uE (led:Led) (inner:List Tr) (fq:ac) (d:Nd) (vs:List aa):Prop:=∃t,t∈inner/\d=nd t/\ ∃v,vs=[v,.ref fq]/\TR led t v
noncomputable def Lc (wo:ah) (led:Led) (inner:List Tr) (fq:ac):List (Nat×Spec):=(969,y0 (uE led inner fq) λd tl r=>bV wo led d [] tl r)::eH
noncomputable def Ld (P:aB) (led:Led) (inner:List Tr):Cfg:=⟨[],Cfg.none.rd,Cfg.none.iv,[((551,4),Iu λst=>iJ P led (bO inner) st.led st.oth)]⟩
noncomputable def LH (k:Nat) (ns:List Nat) (τ:Nat->af) (x qn qi:ac) (us:List aa) (t:af) (n0 n1 n2:Nat):List LE:=[⟨x,.tup [.lit (.int (k:Int) t),.own 1 qn,.own 2 qi] n0,false⟩,⟨qn,.tup (aQ ns τ) n1,false⟩,⟨qi,.tup (us.map SV.ag) n2,false⟩]
theorem zH {wo:ah} {k:Nat} {ns:List Nat} {inner:List Tr} (IH:∀t∈inner,dw wo t) (h:∀led fq news x qn qi t n0 n1 n2 τ us,(∀p∈led,p∈news)->bF led inner us->
   ∀tk,jP (KK wo.params) [] (Ev.jf (KK wo.params) (Lc wo led inner fq) (Ld wo.params led inner) [] 99) 7 (.ref 969) [.own 0 x,.lit (.ref fq)] ⟨[],LH k ns τ x qn qi us t n0 n1 n2,[],tk⟩ (KL wo.params (bV wo led (nd (.mk k ns inner))) news)):dw wo (.mk k ns inner):=λled fq=>jQ (33+16*cA inner) 7 99 [] (jr (by show 7+(33+16*cA inner)=40+16*cA inner;omega)) wB λnews vs hp=>by
 obtain ⟨aK,v,rfl,⟨⟨x,qn,qi,t,vs,n0,n1,us,n2⟩,f⟩,hF⟩:=hp
 obtain ⟨τ,e⟩:=wi f.2.2.2.1
 refine ⟨Lc wo led inner fq,Ld wo.params led inner,LH k ns τ x qn qi us.toList t n0 n1 n2,[.own 0 x,.lit (.ref fq)],⟨ez,v8 (bU.mpr ⟨QN,λz h=>nomatch h⟩),km⟩,ey (Dg λd vs ⟨t,h1,h2,v,h3,h4⟩=>⟨_,_,_,Rg (led:=led) (fq:=fq) IH h1,lC (by decide) _,λal ha=>⟨λp hp=>ha p (aK p hp),v,h3,h4,hF⟩,λz z z hq=>h2▸hq⟩) (fo (aI (by decide) (oZ _ _))),by rw [f.1];rfl,λp hp=>aK p (bw f.2.1 (bw ?_ (bw ?_ dY)) p hp),⟨trivial,trivial,trivial,trivial⟩,λv hv=> ?_, ?_,h _ _ _ _ _ _ _ _ _ _ _ _ aK f.2.2.2.2.2⟩
 ·show(qn,(⟨.type "tuple",none,.seq (vals (aQ ns τ)).toArray n1,#[]⟩:av))∈led
  rw [<-e]
  exact f.2.2.1
 ·show(qi,(⟨.type "tuple",none,.seq (vals (us.toList.map SV.ag)).toArray n2,#[]⟩:av))∈led
  rw [fM]
  exact f.2.2.2.2.1
 ·have hv:v∈[SV.own 0 x,.lit (.ref fq),.lit (.int (k:Int) t),.own 1 qn,.own 2 qi]++(aQ ns τ++(us.toList.map SV.ag++[])):=hv
  rcases aM.mp hv with hv|hv
  ·simp only [bj,Ay,or_false] at hv
   rcases hv with rfl|rfl|rfl|rfl|rfl
   ·exact ⟨_,rfl,rfl⟩
   ·trivial
   ·trivial
   ·exact ⟨_,rfl,rfl⟩
   ·exact ⟨_,rfl,rfl⟩
  ·rcases aM.mp hv with hv|hv
   ·exact Cs v hv
   ·rw [iy] at hv
    exact jk v hv
 ·exact bU.mpr ⟨rfl,bU.mpr ⟨rfl,bU.mpr ⟨rfl,λz h=>nomatch h⟩⟩⟩
theorem zJ {t:Tr}:∀{l:List Tr} {i:Nat},l[i]? =some t->(bO l)[i]? =some (nd t)
 |z::y,0,h=>by cases h;rfl
 |_::l,i+1,h=>zJ (l:=l) (i:=i) h
section
variable {wo:ah} {led oth tl news:Led} {inner:List Tr} {L:List LE} {us:List aa} {i n k:Nat} {a fq D:ac} {v:aa} {z:fN}
theorem zK (h:bF led inner us) (e:(vals (us.map SV.ag))[i]? =some v):∃d,(bO inner)[i]? =some d/\uE led inner fq d [v,.ref fq]:=by
 rw [fM] at e
 obtain ⟨t,e1,e2⟩:=bF.at h i v e
 exact ⟨nd t,zJ e1,t,et e1,rfl,v,rfl,e2⟩
theorem zM (h:bF led inner us) (hl:inner.length<=50):(us.map SV.ag).length<=1000:=by
 rw [j0,bF.len h]
 exact aI hl (by decide)
theorem fB.held {P:aB} {m c:Nat} (h:bF led inner us) (hj:fB P led (bO inner) (us.map SV.ag).length z) (hL:L[m]? =some ⟨D,.lst (z.rs.map SV.ag) c,true⟩):cO P (led++(bo P L++z.tl)) (bO inner) D (D::z.mu):=hj.list (oth:=[]) (jr (by rw [pM,j0,bF.len h])) hL
theorem m2 {P:aB} {a b c:LE} {r:List LE}:(c.a,c.o.obj P)∈led++(bo P (a::b::c::r)++oth):=ay _ (aq _ (.tail _ (.tail _ (.head _))))
theorem m3 {P:aB} {a b c d:LE} {r:List LE}:(d.a,d.o.obj P)∈led++(bo P (a::b::c::d::r)++oth):=ay _ (aq _ (.tail _ (.tail _ (.tail _ (.head _)))))
theorem m4 {P:aB} {a b c d e:LE} {r:List LE}:(e.a,e.o.obj P)∈led++(bo P (a::b::c::d::e::r)++oth):=ay _ (aq _ (.tail _ (.tail _ (.tail _ (.tail _ (.head _))))))
theorem m5 {P:aB} {a b c d e f:LE} {r:List LE}:(f.a,f.o.obj P)∈led++(bo P (a::b::c::d::e::f::r)++oth):=ay _ (aq _ (.tail _ (.tail _ (.tail _ (.tail _ (.tail _ (.head _)))))))
theorem m6 {P:aB} {a b c d e f g:LE} {r:List LE}:(g.a,g.o.obj P)∈led++(bo P (a::b::c::d::e::f::g::r)++oth):=ay _ (aq _ (.tail _ (.tail _ (.tail _ (.tail _ (.tail _ (.tail _ (.head _))))))))
theorem m7 {P:aB} {a b c d e f g h:LE} {r:List LE}:(h.a,h.o.obj P)∈led++(bo P (a::b::c::d::e::f::g::h::r)++oth):=ay _ (aq _ (.tail _ (.tail _ (.tail _ (.tail _ (.tail _ (.tail _ (.tail _ (.head _)))))))))
theorem Ec {P:aB}:∀{L:List LE},(bo P L).map (·.1)=L.map (·.a)
 |[]=>rfl
 |z::y=>bW (_:: ·) Ec
theorem Ed {e:LE} (h:L[i]? =some e):(L.map (·.a))[i]? =some e.a:=by rw [vh,h];rfl
theorem Le {d:Nd} {r:aa} {ds:List Nd} {e:LE} (hj:fB wo.params led ds n z) (hs:Sep (L.map (·.a)) z.tl) (h:ND wo.params (led++(bo wo.params L++z.tl)) d r (e.a::z.mu)) (hD:L[i]? =some e):bV wo led d news (bo wo.params L++z.tl) r:=
 have m:=et (Ed hD)
 ⟨_,h,λx hx=>by
  rw [pd,Ec]
  exact (bj.mp hx).elim (λe=>aq _ (e▸m)) λhx=>ay _ (hj.m x hx),fY.mpr ⟨λhx=>(ew.mp (hj.m _ hx)).elim λp hp=>hs.2 _ m p hp.1 hp.2,hj.d⟩⟩
theorem Lf {d:Nd} {r:aa} {ds:List Nd} {e e2:LE} {j:Nat} (hj:fB wo.params led ds n z) (hs:Sep (L.map (·.a)) z.tl) (h:ND wo.params (led++(bo wo.params L++z.tl)) d r (e2.a::e.a::z.mu)) (hD:L[i]? =some e) (hE:L[j]? =some e2) (ij:j≠i):bV wo led d news (bo wo.params L++z.tl) r:=
 have m1:=Ed hD
 have m2:=Ed hE
 have m:=et m1
 have m':=et m2
 ⟨_,h,λx hx=>by
  rw [pd,Ec]
  exact (bj.mp hx).elim (λe=>aq _ (e▸m')) λhx=>(bj.mp hx).elim (λe=>aq _ (e▸m)) λhx=>ay _ (hj.m x hx),
  fY.mpr ⟨λhx=>(bj.mp hx).elim (λq=>by
   have h2:=iN.mp m2
   exact ij ((List.getElem?_inj h2.1 hs.1).mp (m2.trans ((bW some q).trans m1.symm)))) λhx=>(ew.mp (hj.m _ hx)).elim λp hp=>hs.2 _ m' p hp.1 hp.2,fY.mpr ⟨λhx=>(ew.mp (hj.m _ hx)).elim λp hp=>hs.2 _ m p hp.1 hp.2,hj.d⟩⟩⟩
end
theorem TX (wo:ah) (inner:List Tr) (hl:inner.length<=50) (IH:∀t∈inner,dw wo t):dw wo (.mk 11 [] inner):=zH IH λled fq news x qn qi t n0 n1 n2 τ us aK ht tk=>by
 refine @cD _ (∀(b1:ac) (b2:af),aN (aA SV.ag us)<=1000/\CompI.At (iJ wo.2 led (bO inner) [LE.mk x (SO.tup [li (((11:Nat):Int)) t,SV.own 1 qn,SV.own 2 qi] n0) false,LE.mk qn (SO.tup [] n1) false,LE.mk qi (SO.tup (aA SV.ag us) n2) false,LE.mk b1 (SO.tup [li 0 (tk+5),li 10 (tk+6),li 11 (tk+7),li 14 (tk+8)] 0) true] []) [LE.mk x (SO.tup [li (((11:Nat):Int)) t,SV.own 1 qn,SV.own 2 qi] n0) false,LE.mk qn (SO.tup [] n1) false,LE.mk qi (SO.tup (aA SV.ag us) n2) false,LE.mk b1 (SO.tup [li 0 (tk+5),li 10 (tk+6),li 11 (tk+7),li 14 (tk+8)] 0) true] [] [] 0/\(∀(b3:Nat) (b4:aa) (b5:fN) (b6:af),b3<aN (aA SV.ag us)->(vals (aA SV.ag us))[b3]? =some b4->fB wo.2 led (bO inner) b3 b5-> ∃(aH:Nd),uE led inner fq aH [b4,ae fq]/\ ∀(bq:aa) (bJ:Led) (bY:af),cH b5.2 bJ->bV wo led aH [] bJ bq->CompI.At (iJ wo.2 led (bO inner) [LE.mk x (SO.tup [li (((11:Nat):Int)) t,SV.own 1 qn,SV.own 2 qi] n0) false,LE.mk qn (SO.tup [] n1) false,LE.mk qi (SO.tup (aA SV.ag us) n2) false,LE.mk b1 (SO.tup [li 0 (tk+5),li 10 (tk+6),li 11 (tk+7),li 14 (tk+8)] 0) true] []) [LE.mk x (SO.tup [li (((11:Nat):Int)) t,SV.own 1 qn,SV.own 2 qi] n0) false,LE.mk qn (SO.tup [] n1) false,LE.mk qi (SO.tup (aA SV.ag us) n2) false,LE.mk b1 (SO.tup [li 0 (tk+5),li 10 (tk+6),li 11 (tk+7),li 14 (tk+8)] 0) true] (b5.2++bJ) (b5.1++[bq]) (b3+1))/\ ∀(b3:fN) (b4:af),fB wo.2 led (bO inner) (aN (aA SV.ag us)) b3-> ∀(b6 b7 b8:ac),Sep [b1,b6,b8,b7] b3.2->cE wo.2 (bV wo led (nd (Tr.mk 11 [] inner))) news [LE.mk b1 (SO.tup [li 0 (tk+5),li 10 (tk+6),li 11 (tk+7),li 14 (tk+8)] 0) true,LE.mk b6 (SO.lst (aA SV.ag b3.1) (aN b3.1)) true,LE.mk b8 (SO.dict [(sO "items",b4+5,SV.own 4 b6)] 1) true,LE.mk b7 (SO.inst 550 5 b8) true] b3.2 (SV.own 6 b7)) ?_ ?_
 ·kernel_rfl
 exactλy y=>⟨zM ht hl,pS,λi v z y y ev hj=>(zK ht ev).elim λd h=>⟨d,h.2,λy y y gE q=>uj hj h.1 q gE⟩,λz y hj y y y hs=>Le (i:=1) hj hs (FE m3 m2 (hj.held ht (m:=1) rfl)) rfl⟩
theorem TY (wo:ah) (na nb nc nd ne:Nat) (ba:na<12) (bb:nb<12) (bc:nc<12) (bd:nd<12) (be:ne<12) (inner:List Tr) (hl:inner.length<=50) (IH:∀t∈inner,dw wo t):dw wo (.mk 10 [na,nb,nc,nd,ne] inner):=zH IH λled fq news x qn qi t n0 n1 n2 τ us aK ht tk=>by
 refine @cD _ (∀(b1:ac) (b2:af),aN (aA SV.ag us)<=1000/\CompI.At (iJ wo.2 led (bO inner) [LE.mk x (SO.tup [li (((10:Nat):Int)) t,SV.own 1 qn,SV.own 2 qi] n0) false,LE.mk qn (SO.tup [li (((na:Nat):Int)) (τ 0),li (((nb:Nat):Int)) (τ 1),li (((nc:Nat):Int)) (τ 2),li (((nd:Nat):Int)) (τ 3),li (((ne:Nat):Int)) (τ 4)] n1) false,LE.mk qi (SO.tup (aA SV.ag us) n2) false,LE.mk b1 (SO.tup [li 0 (tk+5),li 10 (tk+6),li 11 (tk+7),li 14 (tk+8)] 0) true] []) [LE.mk x (SO.tup [li (((10:Nat):Int)) t,SV.own 1 qn,SV.own 2 qi] n0) false,LE.mk qn (SO.tup [li (((na:Nat):Int)) (τ 0),li (((nb:Nat):Int)) (τ 1),li (((nc:Nat):Int)) (τ 2),li (((nd:Nat):Int)) (τ 3),li (((ne:Nat):Int)) (τ 4)] n1) false,LE.mk qi (SO.tup (aA SV.ag us) n2) false,LE.mk b1 (SO.tup [li 0 (tk+5),li 10 (tk+6),li 11 (tk+7),li 14 (tk+8)] 0) true] [] [] 0/\(∀(b3:Nat) (b4:aa) (b5:fN) (b6:af),b3<aN (aA SV.ag us)->(vals (aA SV.ag us))[b3]? =some b4->fB wo.2 led (bO inner) b3 b5-> ∃(aH:Nd),uE led inner fq aH [b4,ae fq]/\ ∀(bq:aa) (bJ:Led) (bY:af),cH b5.2 bJ->bV wo led aH [] bJ bq->CompI.At (iJ wo.2 led (bO inner) [LE.mk x (SO.tup [li (((10:Nat):Int)) t,SV.own 1 qn,SV.own 2 qi] n0) false,LE.mk qn (SO.tup [li (((na:Nat):Int)) (τ 0),li (((nb:Nat):Int)) (τ 1),li (((nc:Nat):Int)) (τ 2),li (((nd:Nat):Int)) (τ 3),li (((ne:Nat):Int)) (τ 4)] n1) false,LE.mk qi (SO.tup (aA SV.ag us) n2) false,LE.mk b1 (SO.tup [li 0 (tk+5),li 10 (tk+6),li 11 (tk+7),li 14 (tk+8)] 0) true] []) [LE.mk x (SO.tup [li (((10:Nat):Int)) t,SV.own 1 qn,SV.own 2 qi] n0) false,LE.mk qn (SO.tup [li (((na:Nat):Int)) (τ 0),li (((nb:Nat):Int)) (τ 1),li (((nc:Nat):Int)) (τ 2),li (((nd:Nat):Int)) (τ 3),li (((ne:Nat):Int)) (τ 4)] n1) false,LE.mk qi (SO.tup (aA SV.ag us) n2) false,LE.mk b1 (SO.tup [li 0 (tk+5),li 10 (tk+6),li 11 (tk+7),li 14 (tk+8)] 0) true] (b5.2++bJ) (b5.1++[bq]) (b3+1))/\ ∀(b3:fN) (b4:af),fB wo.2 led (bO inner) (aN (aA SV.ag us)) b3-> ∀(b6 b7 b8:ac),((0:Int)<=0/\(0:Int)<=3)/\ ∀(b9:af),((0:Int)<=0/\(0:Int)<=3)/\ ∀(aH:af),(kI 1073741822<=((nd:Nat):Int)/\((nd:Nat):Int)<=1073741823)/\ ∀(bq:af),(kI 1073741822<=0/\(0:Int)<=1073741823)/\ ∀(bJ:af),(kI 1073741822<=0/\(0:Int)<=1073741823)/\ ∀(bY:af) (bt cj:ac),(0<=((na:Nat):Int)/\((na:Nat):Int)<=254)/\ ∀(bx:af),(kI 1073741822<=((nb:Nat):Int)/\((nb:Nat):Int)<=1073741823)/\ ∀(dP:af),(kI 1073741822<=((nc:Nat):Int)/\((nc:Nat):Int)<=1073741823)/\ ∀(cw:af),(kI 2147483646<=((ne:Nat):Int) -5/\((ne:Nat):Int) -(5:Int)<=2147483647)/\ ∀(fV:af),Sep [b1,b6,b8,b7,cj,bt] b3.2->cE wo.2 (bV wo led (Internal.nd (Tr.mk 10 [na,nb,nc,nd,ne] inner))) news [LE.mk b1 (SO.tup [li 0 (tk+5),li 10 (tk+6),li 11 (tk+7),li 14 (tk+8)] 0) true,LE.mk b6 (SO.lst (aA SV.ag b3.1) (aN b3.1)) true,LE.mk b8 (SO.dict [(sO "width",bq+1,li (((nd:Nat):Int)) (τ 3)),(sO "stretch",bJ+1,li 0 400),(sO "stretch_order",bJ+4,li 0 304),(sO "shrink",bY+1,li 0 402),(sO "shrink_order",bY+4,li 0 304)] 5) true,LE.mk b7 (SO.inst 225 5 b8) true,LE.mk cj (SO.dict [(sO "number",bx+1,li (((na:Nat):Int)) (τ 0)),(sO "size",dP+1,li (((nb:Nat):Int)) (τ 1)),(sO "depth",cw+1,li (((nc:Nat):Int)) (τ 2)),(sO "top",cw+3,SV.own 6 b7),(sO "cost",fV+1,li (((ne:Nat):Int) -5) (bY+7)),(sO "items",fV+3,SV.own 4 b6)] 6) true,LE.mk bt (SO.inst 529 7 cj) true] b3.2 (SV.own 8 bt)) ?_ ?_
 ·kernel_rfl
 exactλy y=>⟨zM ht hl,pS,λi v z y y ev hj=>(zK ht ev).elim λd h=>⟨d,h.2,λy y y gE q=>uj hj h.1 q gE⟩,λz y hj y y y=>⟨⟨by decide,by decide⟩,λy=>⟨⟨by decide,by decide⟩,λy=>⟨eF bd (by decide) (by decide),λy=>⟨⟨by decide,by decide⟩,λy=>⟨⟨by decide,by decide⟩,λy y y=>⟨eF ba (by decide) (by decide),λy=>⟨eF bb (by decide) (by decide),λy=>⟨eF bc (by decide) (by decide),λy=>⟨fw be (by decide) (by decide),λy hs=>Le (i:=1) hj hs (FF m5 m4 (GL.i m3 m2) (hj.held ht (m:=1) rfl)) rfl⟩⟩⟩⟩⟩⟩⟩⟩⟩⟩
theorem TZ (wo:ah) (na nb nc nd ne nf ng:Nat) (ba:na<12) (bb:nb<12) (bc:nc<12) (bd:nd<4) (be:ne<12) (bf:nf<12) (bg:ng<2) (inner:List Tr) (hl:inner.length<=50) (IH:∀t∈inner,dw wo t):dw wo (.mk 14 [na,nb,nc,nd,ne,nf,ng] inner):=zH IH λled fq news x qn qi t n0 n1 n2 τ us aK ht tk=>by
 refine @cD _ (∀(b1:ac) (b2:af),aN (aA SV.ag us)<=1000/\CompI.At (iJ wo.2 led (bO inner) [LE.mk x (SO.tup [li (((14:Nat):Int)) t,SV.own 1 qn,SV.own 2 qi] n0) false,LE.mk qn (SO.tup [li (((na:Nat):Int)) (τ 0),li (((nb:Nat):Int)) (τ 1),li (((nc:Nat):Int)) (τ 2),li (((nd:Nat):Int)) (τ 3),li (((ne:Nat):Int)) (τ 4),li (((nf:Nat):Int)) (τ 5),li (((ng:Nat):Int)) (τ 6)] n1) false,LE.mk qi (SO.tup (aA SV.ag us) n2) false,LE.mk b1 (SO.tup [li 0 (tk+5),li 10 (tk+6),li 11 (tk+7),li 14 (tk+8)] 0) true] []) [LE.mk x (SO.tup [li (((14:Nat):Int)) t,SV.own 1 qn,SV.own 2 qi] n0) false,LE.mk qn (SO.tup [li (((na:Nat):Int)) (τ 0),li (((nb:Nat):Int)) (τ 1),li (((nc:Nat):Int)) (τ 2),li (((nd:Nat):Int)) (τ 3),li (((ne:Nat):Int)) (τ 4),li (((nf:Nat):Int)) (τ 5),li (((ng:Nat):Int)) (τ 6)] n1) false,LE.mk qi (SO.tup (aA SV.ag us) n2) false,LE.mk b1 (SO.tup [li 0 (tk+5),li 10 (tk+6),li 11 (tk+7),li 14 (tk+8)] 0) true] [] [] 0/\(∀(b3:Nat) (b4:aa) (b5:fN) (b6:af),b3<aN (aA SV.ag us)->(vals (aA SV.ag us))[b3]? =some b4->fB wo.2 led (bO inner) b3 b5-> ∃(aH:Nd),uE led inner fq aH [b4,ae fq]/\ ∀(bq:aa) (bJ:Led) (bY:af),cH b5.2 bJ->bV wo led aH [] bJ bq->CompI.At (iJ wo.2 led (bO inner) [LE.mk x (SO.tup [li (((14:Nat):Int)) t,SV.own 1 qn,SV.own 2 qi] n0) false,LE.mk qn (SO.tup [li (((na:Nat):Int)) (τ 0),li (((nb:Nat):Int)) (τ 1),li (((nc:Nat):Int)) (τ 2),li (((nd:Nat):Int)) (τ 3),li (((ne:Nat):Int)) (τ 4),li (((nf:Nat):Int)) (τ 5),li (((ng:Nat):Int)) (τ 6)] n1) false,LE.mk qi (SO.tup (aA SV.ag us) n2) false,LE.mk b1 (SO.tup [li 0 (tk+5),li 10 (tk+6),li 11 (tk+7),li 14 (tk+8)] 0) true] []) [LE.mk x (SO.tup [li (((14:Nat):Int)) t,SV.own 1 qn,SV.own 2 qi] n0) false,LE.mk qn (SO.tup [li (((na:Nat):Int)) (τ 0),li (((nb:Nat):Int)) (τ 1),li (((nc:Nat):Int)) (τ 2),li (((nd:Nat):Int)) (τ 3),li (((ne:Nat):Int)) (τ 4),li (((nf:Nat):Int)) (τ 5),li (((ng:Nat):Int)) (τ 6)] n1) false,LE.mk qi (SO.tup (aA SV.ag us) n2) false,LE.mk b1 (SO.tup [li 0 (tk+5),li 10 (tk+6),li 11 (tk+7),li 14 (tk+8)] 0) true] (b5.2++bJ) (b5.1++[bq]) (b3+1))/\ ∀(b3:fN) (b4:af),fB wo.2 led (bO inner) (aN (aA SV.ag us)) b3-> ∀(b6 b7 b8 b9 aH bq bJ:ac),((1:Int)<=1+((nd:Nat):Int)/\1+((nd:Nat):Int)<=2147483647)/\ ∀(bY:af),(kI 1073741822<=((na:Nat):Int)/\((na:Nat):Int)<=1073741823)/\ ∀(bt:af),(kI 1073741822<=((nb:Nat):Int)/\((nb:Nat):Int)<=1073741823)/\ ∀(cj:af),(kI 1073741822<=((nc:Nat):Int)/\((nc:Nat):Int)<=1073741823)/\ ∀(bx:af),Sep [b1,b6,b8,b7,b9,aH,bJ,bq] b3.2->cE wo.2 (bV wo led (Internal.nd (Tr.mk 14 [na,nb,nc,nd,ne,nf,ng] inner))) news [LE.mk b1 (SO.tup [li 0 (tk+5),li 10 (tk+6),li 11 (tk+7),li 14 (tk+8)] 0) true,LE.mk b6 (SO.lst (aA SV.ag b3.1) (aN b3.1)) true,LE.mk b8 (SO.dict [(sO "natural",b4+6,li (((ne:Nat):Int)) (τ 4)),(sO "stretch",b4+12,SV.own 7 b9),(sO "shrink",b4+18,SV.own 8 aH)] 3) true,LE.mk b7 (SO.inst 281 5 b8) true,LE.mk b9 (SO.lst [li 0 (b4+7),li (((nf:Nat):Int)) (τ 5),li 0 (b4+9),li 0 (b4+10)] 0) true,LE.mk aH (SO.lst [li 0 (b4+13),li 0 (b4+14),li 0 (b4+15),li 0 (b4+16)] 0) true,LE.mk bJ (SO.dict [(sO "width",bt+1,li (((na:Nat):Int)) (τ 0)),(sO "height",cj+1,li (((nb:Nat):Int)) (τ 1)),(sO "depth",bx+1,li (((nc:Nat):Int)) (τ 2)),(sO "items",bx+3,SV.own 4 b6),(sO "spans",bx+5,li (1+((nd:Nat):Int)) (b4+31)),(sO "totals",bx+7,SV.own 6 b7),(sO "is_vertical",bx+9,SV.lit (fX (((ng:Nat):Int)==1)))] 7) true,LE.mk bq (SO.inst 677 9 bJ) true] b3.2 (SV.own 10 bq)) ?_ ?_
 ·kernel_rfl
 exactλy y=>⟨zM ht hl,pS,λi v z y y ev hj=>(zK ht ev).elim λd h=>⟨d,h.2,λy y y gE q=>uj hj h.1 q gE⟩,λz y hj y y y y y y y=>⟨jS bd (by decide) (by decide),λy=>⟨eF ba (by decide) (by decide),λy=>⟨eF bb (by decide) (by decide),λy=>⟨eF bc (by decide) (by decide),λy hs=>Lf (i:=1) (j:=2) hj hs (FH m7 m6 (hj.held ht (m:=1) rfl) (TT.i m3 m2 m4 m5)) rfl rfl (by decide)⟩⟩⟩⟩⟩
theorem T0 (wo:ah) (na nb nc nd ne nf ng nh:Nat) (ba:na<2) (bb:nb<12) (bc:nc<12) (bd:nd<12) (be:ne<12) (bf:nf<3) (bg:ng<4) (bh:nh<12) (inner:List Tr) (hl:inner.length<=50) (IH:∀t∈inner,dw wo t):dw wo (.mk 0 [na,nb,nc,nd,ne,nf,ng,nh] inner):=zH IH λled fq news x qn qi t n0 n1 n2 τ us aK ht tk=>by
 refine @cD _ (∀(b1:ac) (b2:af),aN (aA SV.ag us)<=1000/\CompI.At (iJ wo.2 led (bO inner) [LE.mk x (SO.tup [li (((0:Nat):Int)) t,SV.own 1 qn,SV.own 2 qi] n0) false,LE.mk qn (SO.tup [li (((na:Nat):Int)) (τ 0),li (((nb:Nat):Int)) (τ 1),li (((nc:Nat):Int)) (τ 2),li (((nd:Nat):Int)) (τ 3),li (((ne:Nat):Int)) (τ 4),li (((nf:Nat):Int)) (τ 5),li (((ng:Nat):Int)) (τ 6),li (((nh:Nat):Int)) (τ 7)] n1) false,LE.mk qi (SO.tup (aA SV.ag us) n2) false,LE.mk b1 (SO.tup [li 0 (tk+5),li 10 (tk+6),li 11 (tk+7),li 14 (tk+8)] 0) true] []) [LE.mk x (SO.tup [li (((0:Nat):Int)) t,SV.own 1 qn,SV.own 2 qi] n0) false,LE.mk qn (SO.tup [li (((na:Nat):Int)) (τ 0),li (((nb:Nat):Int)) (τ 1),li (((nc:Nat):Int)) (τ 2),li (((nd:Nat):Int)) (τ 3),li (((ne:Nat):Int)) (τ 4),li (((nf:Nat):Int)) (τ 5),li (((ng:Nat):Int)) (τ 6),li (((nh:Nat):Int)) (τ 7)] n1) false,LE.mk qi (SO.tup (aA SV.ag us) n2) false,LE.mk b1 (SO.tup [li 0 (tk+5),li 10 (tk+6),li 11 (tk+7),li 14 (tk+8)] 0) true] [] [] 0/\(∀(b3:Nat) (b4:aa) (b5:fN) (b6:af),b3<aN (aA SV.ag us)->(vals (aA SV.ag us))[b3]? =some b4->fB wo.2 led (bO inner) b3 b5-> ∃(aH:Nd),uE led inner fq aH [b4,ae fq]/\ ∀(bq:aa) (bJ:Led) (bY:af),cH b5.2 bJ->bV wo led aH [] bJ bq->CompI.At (iJ wo.2 led (bO inner) [LE.mk x (SO.tup [li (((0:Nat):Int)) t,SV.own 1 qn,SV.own 2 qi] n0) false,LE.mk qn (SO.tup [li (((na:Nat):Int)) (τ 0),li (((nb:Nat):Int)) (τ 1),li (((nc:Nat):Int)) (τ 2),li (((nd:Nat):Int)) (τ 3),li (((ne:Nat):Int)) (τ 4),li (((nf:Nat):Int)) (τ 5),li (((ng:Nat):Int)) (τ 6),li (((nh:Nat):Int)) (τ 7)] n1) false,LE.mk qi (SO.tup (aA SV.ag us) n2) false,LE.mk b1 (SO.tup [li 0 (tk+5),li 10 (tk+6),li 11 (tk+7),li 14 (tk+8)] 0) true] []) [LE.mk x (SO.tup [li (((0:Nat):Int)) t,SV.own 1 qn,SV.own 2 qi] n0) false,LE.mk qn (SO.tup [li (((na:Nat):Int)) (τ 0),li (((nb:Nat):Int)) (τ 1),li (((nc:Nat):Int)) (τ 2),li (((nd:Nat):Int)) (τ 3),li (((ne:Nat):Int)) (τ 4),li (((nf:Nat):Int)) (τ 5),li (((ng:Nat):Int)) (τ 6),li (((nh:Nat):Int)) (τ 7)] n1) false,LE.mk qi (SO.tup (aA SV.ag us) n2) false,LE.mk b1 (SO.tup [li 0 (tk+5),li 10 (tk+6),li 11 (tk+7),li 14 (tk+8)] 0) true] (b5.2++bJ) (b5.1++[bq]) (b3+1))/\ ∀(b3:fN) (b4:af),fB wo.2 led (bO inner) (aN (aA SV.ag us)) b3-> ∀(b6 b7 b8:ac),((2:Int)<=2+((na:Nat):Int)/\2+((na:Nat):Int)<=3)/\ ∀(b9:af),(kI 1073741822<=((nb:Nat):Int)/\((nb:Nat):Int)<=1073741823)/\ ∀(aH:af),(kI 1073741822<=((nc:Nat):Int)/\((nc:Nat):Int)<=1073741823)/\ ∀(bq:af),(kI 1073741822<=((nd:Nat):Int)/\((nd:Nat):Int)<=1073741823)/\ ∀(bJ:af) (bY bt cj:ac),Sep [b1,b6,b8,b7,bY,bt,cj] b3.2->cE wo.2 (bV wo led (Internal.nd (Tr.mk 0 [na,nb,nc,nd,ne,nf,ng,nh] inner))) news [LE.mk b1 (SO.tup [li 0 (tk+5),li 10 (tk+6),li 11 (tk+7),li 14 (tk+8)] 0) true,LE.mk b6 (SO.lst (aA SV.ag b3.1) (aN b3.1)) true,LE.mk b8 (SO.dict [(sO "kind",b9+1,li (2+((na:Nat):Int)) (b4+5)),(sO "width",aH+1,li (((nb:Nat):Int)) (τ 1)),(sO "height",bq+1,li (((nc:Nat):Int)) (τ 2)),(sO "depth",bJ+1,li (((nd:Nat):Int)) (τ 3)),(sO "items",bJ+3,SV.own 4 b6),(sO "shift",bJ+6,li (((ne:Nat):Int)) (τ 4)),(sO "sign",bJ+8,li (((nf:Nat):Int)) (τ 5)),(sO "order",bJ+11,li (((ng:Nat):Int)) (τ 6)),(sO "ratio",bJ+15,SV.own 8 bt)] 9) true,LE.mk b7 (SO.inst 381 5 b8) true,LE.mk bY (SO.tup [li 0 (bJ+12),li 1 (bJ+13)] 0) true,LE.mk bt (SO.tup [li (((nh:Nat):Int)) (τ 7),li 5 (bJ+21)] 0) true,LE.mk cj (SO.tup [li (((ne:Nat):Int)) (τ 4),li (((nf:Nat):Int)) (τ 5),li (((ng:Nat):Int)) (τ 6),SV.own 8 bt] 0) true] b3.2 (SV.own 6 b7)) ?_ ?_
 ·kernel_rfl
 exactλy y=>⟨zM ht hl,pS,λi v z y y ev hj=>(zK ht ev).elim λd h=>⟨d,h.2,λy y y gE q=>uj hj h.1 q gE⟩,λz y hj y y y=>⟨jS ba (by decide) (by decide),λy=>⟨eF bb (by decide) (by decide),λy=>⟨eF bc (by decide) (by decide),λy=>⟨eF bd (by decide) (by decide),λy y y y hs=>Lf (i:=1) (j:=2) hj hs (A4 m3 m2 (hj.held ht (m:=1) rfl) m5) rfl rfl (by decide)⟩⟩⟩⟩⟩
end
section
theorem lW {w:ah} {k:Nat} {ns:List Nat} {inner:List Tr} (e:inner=[]) (h:dw w (.mk k ns [])):dw w (.mk k ns inner):=by rw [e];exact h
theorem T3 (w:ah) (inner:List Tr) (hl:inner.length<=50) (IH:∀t∈inner,dw w t):∀{k:Nat} {ns:List Nat},k<15->dm ns (bz k)->(held k=false->inner=[])->dw w (.mk k ns inner)
 |0,z,y,b,q=>IQ (P:=λns=>dw w (.mk 0 ns inner)) (s0:=2) (s1:=12) (s2:=12) (s3:=12) (s4:=12) (s5:=3) (s6:=4) (s7:=12) (λa b c d e f g i ca cb cc cd ce cf cg ci=>T0 w a b c d e f g i ca cb cc cd ce cf cg ci inner hl IH) b
 |1,z,y,b,hi=>lW (hi rfl) (lN (P:=λns=>dw w (.mk 1 ns [])) (s0:=2) (s1:=12) (S4 w) b)
 |2,z,y,b,hi=>lW (hi rfl) (wu (P:=λns=>dw w (.mk 2 ns [])) (s0:=2) (s1:=12) (s2:=12) (s3:=2) (s4:=2) (S5 w) b)
 |3,z,y,b,hi=>lW (hi rfl) (wt (P:=λns=>dw w (.mk 3 ns [])) (s0:=4) (s1:=4) (s2:=4) (S6 w) b)
 |4,z,y,b,hi=>lW (hi rfl) (lN (P:=λns=>dw w (.mk 4 ns [])) (s0:=12) (s1:=4) (S1 w) b)
 |5,z,y,b,hi=>lW (hi rfl) (CQ (P:=λns=>dw w (.mk 5 ns [])) (s0:=12) (s1:=12) (s2:=4) (s3:=12) (s4:=4) (s5:=6) (S8 w) b)
 |6,z,y,b,hi=>lW (hi rfl) (CO (P:=λns=>dw w (.mk 6 ns [])) (s0:=12) (s1:=3) (s2:=2) (s3:=12) (λa b c d ca cb cc cd=>match c,cc with
  |0,z=>S9 w a b d ca cb cd
  |1,z=>Ta w a b d ca cb cd) b)
 |7,z,y,b,hi=>lW (hi rfl) (CN (P:=λns=>dw w (.mk 7 ns [])) (s0:=12) (S2 w) b)
 |8,z,y,b,hi=>lW (hi rfl) (wt (P:=λns=>dw w (.mk 8 ns [])) (s0:=12) (s1:=12) (s2:=12) (TU w) b)
 |9,z,y,b,hi=>lW (hi rfl) (lN (P:=λns=>dw w (.mk 9 ns [])) (s0:=12) (s1:=12) (S7 w) b)
 |10,z,y,b,q=>wu (P:=λns=>dw w (.mk 10 ns inner)) (s0:=12) (s1:=12) (s2:=12) (s3:=12) (s4:=12) (λa b c d e ca cb cc cd ce=>TY w a b c d e ca cb cc cd ce inner hl IH) b
 |11,z,y,b,q=>CM (P:=λns=>dw w (.mk 11 ns inner)) (TX w inner hl IH) b
 |12,z,y,b,hi=>lW (hi rfl) (lN (P:=λns=>dw w (.mk 12 ns [])) (s0:=2) (s1:=12) (S3 w) b)
 |13,z,y,b,hi=>lW (hi rfl) (lN (P:=λns=>dw w (.mk 13 ns [])) (s0:=12) (s1:=12) (TV w) b)
 |14,z,y,b,q=>CR (P:=λns=>dw w (.mk 14 ns inner)) (s0:=12) (s1:=12) (s2:=12) (s3:=4) (s4:=12) (s5:=12) (s6:=2) (λa b c d e f g ca cb cc cd ce cf cg=>TZ w a b c d e f g ca cb cc cd ce cf cg inner hl IH) b
 |k+15,_,h,_,_=>absurd h (vc.mpr (lz 15 k))
mutual
theorem T4 (w:ah):∀t:Tr,WF t->dw w t
 | .mk k ns inner,h=>by
  exact T3 w inner h.2.2.2.1 (Ee w inner h.2.2.2.2) h.1 h.2.1 h.2.2.1
theorem Ee (w:ah):∀ts:List Tr,dK ts-> ∀t∈ts,dw w t
 |[],z=>λy h=>nomatch h
 |t::r,h=>by
  intro e he
  have h1:=T4 w t h.1
  have h2:=Ee w r h.2
  rcases bj.mp he with he|he
  ·rw [he];exact h1
  ·exact h2 e he
end
end
section
open Sem (wp)
open AutoSeq1 (wpAny_loadPart')
theorem T6:typeLookup (.type "bytes") "__len__"=pure (some (.builtin "bytes.__len__")):=by rw [typeLookup_type,builtinLookup_eq_fast];kernel_rfl
section
variable {prog:cP} {w:ah} {A:bZ} {E:aa->ak->Prop} {s:ak}
theorem T7 {Q:List aa->ak->Prop} (hh:A.handled=none) (b:Array UInt8) (t:af)
  (hQ:∀s' acc,(∀b o,s.heap.get? b=some o->s'.heap.get? b=some o)->s'.gens=s.gens->s'.drawn=s.drawn->s'.os=s.os->ItemsOf (λi v=>∃c u,b[i]? =some c/\v= .int (c.toNat:Int) u) acc b.size->Q acc.toList s') (hn:b.size<=sizeLine):
  aC (aG prog w) A (collect (.bytes b t)) Q E s:=by
 unfold collect
 refine bC (wpAny_runValue (codeAny_builtin F.entry_proto_collect ?_))
 rw [AJ F.plain_proto_collect _]
 show aC _ A.in1 (newList []>>=λl=>again (.builtin "list.__iadd__" ⟨[l,.bytes b t],[]⟩)) _ _ s
 refine bC (nz ?_)
 refine dR ⟨plainId_quiet F.plain_list_iadd _,codeAny_builtin F.entry_list_iadd ?_⟩
 rw [AJ F.plain_list_iadd _]
 show aC _ A.in1 (Fi (.ref s.heap.objs.size) (.bytes b t) (.ref s.heap.objs.size)) _ _ _
 unfold Fi
 refine bC (sx (T:="bytes") (v:=.bytes b t) rfl ?_)
 have h1:Builtin.List.listSameRef (.ref s.heap.objs.size) (.bytes b t)=false:=rfl
 have h2:(aw "bytes"==aw "list")=false:=by decide
 have h3:(aw "bytes"==aw "tuple")=false:=by decide
 simp only [h1,h2,h3,Bool.or_false,Bool.false_eq_true,if_false]
 refine bC (KBw.pyIter_bytes ?_)
 refine bC (wpAny_holding ?_)
 unfold Builtin.List.listLengthHint
 refine bC (wpAny_specialOf (T:="bytes") (v:=.bytes b t) rfl T6 ?_)
 wp_delta
 refine bC (wpAny_isInstance (T:="bytes") (v:=.bytes b t) (b:=true) rfl (by rw [isSubtype_type];kernel_rfl) ?_)
 show aC _ A.in1 (typeOf (Value.bytes b t)>>=_) _ _ _
 refine bC (sx (T:="bytes") (v:=.bytes b t) rfl ?_)
 refine dR ?_
 rw [d7 (by decide)]
 have wX:KBw.IsBytesIter ((s.heap.push {cls:=.type "list",data:=.seq ([]:List aa).toArray}).push {cls:=.type "bytes_iterator",data:=.fields #[.bytes b t,.int 0 0]}) (s.heap.push {cls:=.type "list",data:=.seq ([]:List aa).toArray}).objs.size b t 0:=⟨_,ja _ rfl,rfl,rfl⟩
 generalize hH:s.heap.push {cls:=.type "list",data:=.seq ([]:List aa).toArray}=H at wX⊢
 have Ef:H.objs.size=s.heap.objs.size+1:=by rw [<-hH,mo]
 have T8:s.heap.objs.size∉[H.objs.size]:=λhm=>by rw [bN.mp hm] at Ef;exact absurd Ef (cL (qv _))
 have hS:(H.push {cls:=.type "bytes_iterator",data:=.fields #[.bytes b t,.int 0 0]}).get? s.heap.objs.size=some {cls:=.type "list",data:=.seq ([]:List aa).toArray}:=gO _ (hH▸ja _ rfl)
 have W:=KBw.walks (prog:=prog) (w:=w) (A:=A.in1) hh H.objs.size b t
 refine dR ⟨plainId_quiet F.plain_extend_loop _,codeAny_extend_loopS (W.toS) hn _ T8 _ b.size 0 _ _ _ rfl (da _) wX hS (ItemsOf.nil _) λs' T9 c' hm Ua ky=> ?_⟩
 show aC _ A (load s.heap.objs.size>>=_) _ _ s'
 refine bC (wpAny_load Ua ?_)
 refine dR (hQ s' T9 (λb ob e=>hm.heap b ob (λhb=> ?_) (gO _ (hH▸gO _ e))) hm.gens hm.drawn hm.os ky)
 have iF:=fH e
 rcases bj.mp hb with h|h
 ·exact absurd iF (h▸xr _)
 ·rw [bN.mp h,Ef] at iF;exact absurd iF (vc.mpr (sI _))
theorem Ub (b:Array UInt8) (t:af) (jx:b.size<=sizeLine):
  Meets (Builtin.«tuple.__new__» ⟨[.type "tuple",.bytes b t],[]⟩)
   (λA R s=>A.handled=none/\ ∀(s':ak) (acc:Array aa),(∀b o,s.heap.get? b=some o->s'.heap.get? b=some o)->s'.gens=s.gens->s'.drawn=s.drawn->s'.os=s.os->ItemsOf (λi v=>∃c u,b[i]? =some c/\v= .int (c.toNat:Int) u) acc b.size->
    R (.ok (.ret (.ref s'.heap.objs.size))) {s' with heap:=s'.heap.push {cls:=.type "tuple",data:=.seq acc}}):=
 .of_wp λprog w A R s h=>by
  obtain ⟨hh,h⟩:=h
  have aK:=sub_tuple_self
  have Yh:=init_tuple_lookup
  have Yi:=madeHere_tuple
  have hT:s.TypeIs (.bytes b t) "bytes":=rfl
  have Uc:A.in1.handled=none:=hh
  wp_walk using sx hT,T7 (hn:=jx) Uc b t
  intro s' acc hk hg hd qY ky
  show aC _ _ (sP acc.toList.toArray>>=λv=>ret v) _ _ _
  unfold sP
  refine bC (nz ?_ (show acc.toList.toArray.size<=sizeLine by simp only [Array.toArray_toList];rw [ky.1];exact jx))
  refine dR ⟨_,rfl, ?_⟩
  have e:acc.toList.toArray=acc:=by simp
  rw [e]
  exact h s' acc hk hg hd qY ky
theorem Ud {Q:aa->ak->Prop} (hh:A.handled=none) (b:Array UInt8) (t:af)
  (h:∀(h':bA) (tk:Nat) (acc:Array aa),(∀b o,s.heap.get? b=some o->h'.get? b=some o)->ItemsOf (λi v=>∃c u,b[i]? =some c/\v= .int (c.toNat:Int) u) acc b.size->Q (.ref h'.objs.size) {s with heap:=h'.push {cls:=.type "tuple",data:=.seq acc},toks:=tk})
  (jx:b.size<=sizeLine):
  aC (aG prog w) A (call (.type "tuple") [.bytes b t]) Q E s:=by
 refine callType_new F.called_tuple (by decide) (F.typeCall_tuple_1 _) (F.newCall_tuple_1 _) (λobj=>AK obj _) F.entry_tuple_new
  (Ub b t jx) ⟨hh,λs' acc hk hg hd qY ky=>⟨⟨_,ja _ rfl,rfl⟩, ?_⟩⟩
 obtain ⟨h',g',d',bQ,Ue⟩:=s'
 have e1:g'=s.gens:=hg
 have e2:d'=s.drawn:=hd
 have e3:Ue=s.os:=qY
 subst e1 e2 e3
 exact h h' bQ acc hk ky
theorem Lg {α:Type} {l:List α} (h:l.length=2):∃a b,l=[a,b]:=by
 cases l with
 |nil=>cases h
 |cons a r=>cases r with
  |nil=>cases h
  |cons b r=>cases r with
   |nil=>exact ⟨a,b,rfl⟩
   |cons z y=>cases h
theorem Uf {h₀:bA} {L:ac} {m:ai->Option aa} {news:Led} {Q:aa->ak->Prop} {x y:UInt8} {t:af} (hh:A.handled=none) (F:Fr h₀ L s.heap m) (N:aU h₀ L s.heap news)
  (h:∀T h' tk ta tb,Fr h₀ L h' m->aU h₀ L h' ((T,(⟨.type "tuple",none,.seq #[.int (x.toNat:Int) ta,.int (y.toNat:Int) tb] 0,#[]⟩:av))::news)->(∀p∈news,p.1<T)->Q (.ref T) {s with heap:=h',toks:=tk}):
  aC (aG prog w) A (call (.type "tuple") [.bytes #[x,y] t]) Q E s:=by
 refine Ud hh _ _ (λh' tk acc hk ky=> ?_) (by rw [l7];exact dB rfl)
 have F':Fr h₀ L h' m:=F.keeps hk
 have N':aU h₀ L h' news:=λp hp=>⟨hk _ _ (N p hp).1,(N p hp).2⟩
 refine (Lg (show acc.toList.length=2 from ky.1)).elim λv1 h2=>h2.elim λv2 e=> ?_
 have ea:acc= #[v1,v2]:=Array.toList_inj.mp e
 rw [ea] at ky⊢
 refine (ky.2 0 v1 rfl).elim λc1 x1=>x1.elim λu1 x1=>(ky.2 1 v2 rfl).elim λc2 x2=>x2.elim λu2 x2=> ?_
 rw [x1.2,x2.2,<-jK x1.1,<-jK x2.1]
 exact h _ _ _ _ _ (F'.push _) (N'.push F' _) λp hp=>fH (N' p hp).1
end
end
section
noncomputable def Ug:(v:aa)->Option (PSigma λd:(UInt8×UInt8)×af=>v= .bytes #[d.1.1,d.1.2] d.2)
 | .bytes ⟨[x,y]⟩ t=>some ⟨((x,y),t),rfl⟩
 |_=>none
theorem Nx.Lh {w:ah} {c:Cx} {st:St} {s:ak} (R:Rep w c st s) (tk:af):Nx w c st {st with tk:=tk} {s with toks:=tk}:=⟨⟨⟨R.tomD,R.lc,R.fz⟩,by show _=_;rw [R.same],rfl,R.fr,R.nw⟩,Ext.refl _,rfl⟩
noncomputable def Li (P:aB):XS:=λr cs b e st k=>oK (ui e) λd=>bK (noStar [d.1.2.1]) (fR (KK P) Cfg.none r cs b [] (.Name d.1.1.1 d.1.1.2) st λfv st=>bK (decide (kg fv.val=some "tuple")) (r.ev cs b d.1.2.1 st λv st=>oK (Ug v.val) λo=>
 ∀ta tb tk,gf {st with tk:=tk} (.tup [.lit (.int (o.1.1.1.toNat:Int) ta),.lit (.int (o.1.1.2.toNat:Int) tb)] 0) k))
theorem Uh {w:ah} {NN:Led} {D:Nat}:fj w NN D (Li w.params):=by
 intro r I c b e st k s Q E O R h q
 refine aJ h λd z h=>bv h λh1 h=> ?_
 rw [d.2]
 refine kH (gi I ez O R h λfv aD s1 N ok hk=>bv hk λh2 hk=> ?_)
 rw [kL (cJ h2)]
 refine nO (kG (I.ev O N.rep hk λv aE s2 N2 cI aV=>nM (aJ aV λo z dA=> ?_)) (fA (cW h1).1)) (fA (cW h1).1) (iR (cW h1).2)
 rw [o.2]
 have R2:=N2.rep
 exact Uf O.hh R2.fr R2.nw λT h' tk ta tb F' N' l=>added (st:={aE with tk:=tk}) (o:=.tup [.lit (.int (o.1.1.1.toNat:Int) ta),.lit (.int (o.1.1.2.toNat:Int) tb)] 0) (s:={s2 with toks:=tk}) (Nx.Lh R2 tk).rep F' N' (λp hp=>cL (l p hp)) (λv hv=>by
  rcases bj.mp hv with rfl|hv
  ·trivial
  ·rw [bN.mp hv];trivial) (dA ta tb tk) (q.after (N.trans (N2.trans (Nx.Lh R2 tk))))
inductive Lj (wo:ah) (d:Nd) (H:Hint) (G:Cfg) (led:Led) (depth:Nat) (news:Led) (v:aa) (t:af):Prop where
 |mk (tab:List (Nat×Spec)) (L:List LE) (sv:SV) (h1:iG wo news (18+8*ht d) tab) (h2:v=sv.val) (h3:(∀p∈bo wo.params L,p∈led)) (h4:side L) (h5:(pairs L (sv::jj L)).map (·.1)=(pairs L (sv::jj L)).map (·.2)) (h6:L.map (·.f)=L.map (λz=>false)) (h7:∀tk,jP (KK wo.params) [] (Ev.jf (KK wo.params) tab G H 99) 6 (.ref 741) [sv,.lit (.int depth t)] ⟨[],L,[],tk⟩ (λr st=>rr (led++st.oth) st.led 9 r (desc d))):Lj wo d H G led depth news v t
theorem Ui {wo:ah} {d:Nd} (H:Hint) (G:Cfg) (hG:∀news,jh wo news (18+8*ht d) G) (h:∀led depth news v t mu,depth+ht d<=60->(∀p∈led,p∈news)->ND wo.params led d v mu->Lj wo d H G led depth news v t):Tells wo d:=by
 intro led depth kU
 refine jQ (18+8*ht d) 6 99 H (by omega) (K:=λnews r st=>rr (led++st.oth) st.led 9 r (desc d)) (λz r st z ok ho h=> ?_) λnews vs hp=> ?_
 ·exact Ck (P:=wo.params) (led:=st.led) (λi e he hf=>ay _ (aq _ (tR he hf))) ho (λp hp=>(aM.mp hp).elim (λq=>aq _ q) λq=>ay _ (ay _ q)) 9 r _ ok h
 ·obtain ⟨aK,v,t,mu,rfl,bn⟩:=hp
  obtain ⟨tab,L,sv,h1,rfl,h3,h4,h5,h6,h7⟩:=h led depth news v t mu kU aK bn
  exact ⟨tab,G,L,[sv,.lit (.int depth t)],hG news,h1,rfl,λp hp=>aK p (h3 p hp),h4,lJ (tL (by cases sv<;>exact h5)),xC.mp h6,h7⟩
theorem Uj (wo:ah) (a b:UInt8) (hc:TP (.spec a b)):Tells wo (.spec a b):=Ui [] ⟨[((342,94),Li wo.params)],Cfg.none.rd,Cfg.none.iv,[]⟩ (λnews=>⟨ez,pL,dZ Uh km⟩) λled depth news vv t mu hd aK bn=>by
 refine bn.elim λe f=> ?_
 refine ⟨eH,[⟨e.a 0,.inst 592 1 (e.a 1),false⟩,⟨e.a 1,.dict [(sO "octets",e.a 2,.lit (.bytes #[a,b] (e.a 12)))] 1,false⟩],.own 0 (e.a 0),fo fu,f.1,bw (f.2.1) (bw (f.2.2.1) (dY)),⟨trivial,trivial,trivial⟩,by kernel_rfl,by kernel_rfl,λtk=> ?_⟩
 exact fQ (by kernel_rfl:_=((depth:Int)<=60/\ ∀(_ _ _ _:af) (_ _:ac),au 13=au 13/\au 0=au 0/\(au a.toNat=au a.toNat/\au b.toNat=au b.toNat/\True)/\True)) ⟨eT hd,λz z z z z z=>⟨rfl,rfl,⟨rfl,rfl,trivial⟩,trivial⟩⟩
end
section
theorem Uk (wo:ah) (k c:Int) (hc:CP (.char k c)):gc wo (.char k c):=jA [] λled depth news vv t mu hd aK bn=>by
 refine bn.elim λe9 f=> ?_
 refine ⟨eH,[⟨e9.a 0,.inst 340 1 (e9.a 1),false⟩,⟨e9.a 1,.dict [(sO "font",e9.a 2,.lit (.ref (e9.a 7))),(sO "code",e9.a 3,.lit (.int c (e9.a 12)))] 2,false⟩],.own 0 (e9.a 0),fo fu,f.1,bw (f.2.1) (bw (f.2.2.1) (dY)),⟨trivial,trivial,trivial⟩,by kernel_rfl,by kernel_rfl,λtk=> ?_⟩
 refine @cD _ ((depth:Int)<=60/\ ∀(b1 b2 b3:Nat),(0<=c/\c<=255)/\ ∀(b4:Nat),Sep [b3,b2] []->cE wo.2 (bV wo led (Nd.char k c)) news [LE.mk b3 (SO.dict [(sO "font",b1+8,SV.lit (ae (e9.a 7))),(sO "code",b4+1,li c (e9.a 12))] 2) true,LE.mk b2 (SO.inst 340 2 b3) true] [] (SV.own 3 b2)) ?_ ?_
 ·kernel_rfl
 exact ⟨eT hd,λz z z=>⟨hc,λz z=>eZ (te (mF (.tail _ (.head _))) (mF (.head _)) ((f.2.2.2.1).mono iU))⟩⟩
theorem Ul (wo:ah) (w k:Int) (hc:CP (.fy w k)):gc wo (.fy w k):=jA [] λled depth news vv t mu hd aK bn=>by
 refine bn.elim λe9 f=> ?_
 refine ⟨eH,[⟨e9.a 0,.inst 423 1 (e9.a 1),false⟩,⟨e9.a 1,.dict [(sO "width",e9.a 2,.lit (.int w (e9.a 10))),(sO "sort",e9.a 3,.lit (.int k (e9.a 12)))] 2,false⟩],.own 0 (e9.a 0),fo fu,f.1,bw (f.2.1) (bw (f.2.2.1) (dY)),⟨trivial,trivial,trivial⟩,by kernel_rfl,by kernel_rfl,λtk=> ?_⟩
 refine @cD _ ((depth:Int)<=60/\ ∀(h b1 b2:Nat),(0<=k/\k<=3)/\ ∀(b3:Nat),(-1073741823<=w/\w<=1073741823)/\ ∀(b4:Nat),Sep [b2,b1] []->cE wo.2 (bV wo led (Nd.fy w k)) news [LE.mk b2 (SO.dict [(sO "width",b4+1,li w (e9.a 10)),(sO "sort",b4+3,li k (e9.a 12))] 2) true,LE.mk b1 (SO.inst 423 2 b2) true] [] (SV.own 3 b1)) ?_ ?_
 ·kernel_rfl
 exact ⟨eT hd,λz z z=>⟨hc.2.2,λz=>⟨⟨hc.1,hc.2.1⟩,λz z=>eZ (qJ (mF (.tail _ (.head _))) (mF (.head _)))⟩⟩⟩
theorem Um (wo:ah) (v:Int) (hc:CP (.dk v)):gc wo (.dk v):=jA [] λled depth news vv t mu hd aK bn=>by
 refine bn.elim λe9 f=> ?_
 refine ⟨eH,[⟨e9.a 0,.inst 466 1 (e9.a 1),false⟩,⟨e9.a 1,.dict [(sO "value",e9.a 2,.lit (.int v (e9.a 12)))] 1,false⟩],.own 0 (e9.a 0),fo fu,f.1,bw (f.2.1) (bw (f.2.2.1) (dY)),⟨trivial,trivial,trivial⟩,by kernel_rfl,by kernel_rfl,λtk=> ?_⟩
 refine @cD _ ((depth:Int)<=60/\ ∀(h b1 b2:Nat),(-2147483647<=v/\v<=2147483647)/\ ∀(b3:Nat),Sep [b2,b1] []->cE wo.2 (bV wo led (Nd.dk v)) news [LE.mk b2 (SO.dict [(sO "value",b3+1,li v (e9.a 12))] 1) true,LE.mk b1 (SO.inst 466 2 b2) true] [] (SV.own 3 b1)) ?_ ?_
 ·kernel_rfl
 exact ⟨eT hd,λz z z=>⟨hc,λz z=>eZ (AY (mF (.tail _ (.head _))) (mF (.head _)))⟩⟩
theorem Un (wo:ah) (b:Bool) (w:Int) (hc:CP (.math b w)):gc wo (.math b w):=jA [] λled depth news vv t mu hd aK bn=>by
 refine bn.elim λe9 f=> ?_
 refine ⟨eH,[⟨e9.a 0,.inst 571 1 (e9.a 1),false⟩,⟨e9.a 1,.dict [(sO "is_on",e9.a 2,.lit (.bool b)),(sO "width",e9.a 3,.lit (.int w (e9.a 12)))] 2,false⟩],.own 0 (e9.a 0),fo fu,f.1,bw (f.2.1) (bw (f.2.2.1) (dY)),⟨trivial,trivial,trivial⟩,by kernel_rfl,by kernel_rfl,λtk=> ?_⟩
 refine @cD _ ((depth:Int)<=60/\ ∀(b1 b2 b3:Nat),(-1073741823<=w/\w<=1073741823)/\ ∀(b4:Nat),Sep [b3,b2] []->cE wo.2 (bV wo led (Nd.math b w)) news [LE.mk b3 (SO.dict [(sO "is_on",b1+8,SV.lit (fX b)),(sO "width",b4+1,li w (e9.a 12))] 2) true,LE.mk b2 (SO.inst 571 2 b3) true] [] (SV.own 3 b2)) ?_ ?_
 ·kernel_rfl
 exact ⟨eT hd,λz z z=>⟨hc,λz z=>eZ (FA (mF (.tail _ (.head _))) (mF (.head _)))⟩⟩
theorem Uo (wo:ah) (a b:Int) (hc:CP (.mark a b)):gc wo (.mark a b):=jA [] λled depth news vv t mu hd aK bn=>by
 refine bn.elim λe9 f=> ?_
 refine ⟨eH,[⟨e9.a 0,.inst 508 1 (e9.a 1),false⟩,⟨e9.a 1,.dict [(sO "tokens",e9.a 2,.own 2 (e9.a 11))] 1,false⟩,⟨e9.a 11,.tup [.lit (.ref (e9.a 5)),.lit (.ref (e9.a 6))] (e9.a 15),false⟩],.own 0 (e9.a 0),fo fu,f.1,bw (f.2.1) (bw (f.2.2.1) (bw (f.2.2.2.1) (dY))),⟨trivial,trivial,trivial,trivial⟩,by kernel_rfl,by kernel_rfl,λtk=> ?_⟩
 refine @cD _ ((depth:Int)<=60/\ ∀(b1 b2 b3:Nat),Sep [b3,b2] []->cE wo.2 (bV wo led (Nd.mark a b)) news [LE.mk b3 (SO.dict [(sO "tokens",b1+6,SV.own 2 (e9.a 11))] 1) true,LE.mk b2 (SO.inst 508 3 b3) true] [] (SV.own 4 b2)) ?_ ?_
 ·kernel_rfl
 exact ⟨eT hd,λz z z z=>eZ (Fz (mF (.tail _ (.head _))) (mF (.head _)) (iU _ (f.2.2.2.1)) (iU _ (f.2.2.2.2.1)) (iU _ (f.2.2.2.2.2.1)))⟩
end
section
theorem Up (wo:ah) (k c a b:Int) (l r:Bool) (hc:CP (.gP k c a b l r)):gc wo (.gP k c a b l r):=jA [] λled depth news vv t mu hd aK bn=>by
 refine bn.elim λe9 f=> ?_
 refine ⟨eH,[⟨e9.a 0,.inst 360 1 (e9.a 1),false⟩,⟨e9.a 1,.dict [(sO "font",e9.a 2,.lit (.ref (e9.a 7))),(sO "code",e9.a 3,.lit (.int c (e9.a 12))),(sO "parts",e9.a 4,.own 2 (e9.a 11)),(sO "left",e9.a 5,.lit (.bool l)),(sO "right",e9.a 6,.lit (.bool r))] 5,false⟩,⟨e9.a 11,.tup [.lit (.int a (e9.a 13)),.lit (.int b (e9.a 14))] (e9.a 15),false⟩],.own 0 (e9.a 0),fo fu,f.1,bw (f.2.1) (bw (f.2.2.1) (bw (f.2.2.2.2.1) (dY))),⟨trivial,trivial,trivial,trivial⟩,by kernel_rfl,by kernel_rfl,λtk=> ?_⟩
 refine @cD _ ((depth:Int)<=60/\ ∀(b1 b2 b3:Nat),(0<=c/\c<=255)/\ ∀(b4 b5:Nat),(0<=a/\a<=255)/\ ∀(b6 b7:Nat),(0<=b/\b<=255)/\ ∀(b8 b9 aH bq:Nat),Sep [b3,b2,aH,bq] []->cE wo.2 (bV wo led (Nd.gP k c a b l r)) news [LE.mk b3 (SO.dict [(sO "font",b1+14,SV.lit (ae (e9.a 7))),(sO "code",b4+1,li c (e9.a 12)),(sO "parts",b9+1,SV.own 6 bq),(sO "left",b9+3,SV.lit (fX l)),(sO "right",b9+5,SV.lit (fX r))] 5) true,LE.mk b2 (SO.inst 360 3 b3) true,LE.mk aH (SO.lst [li a (e9.a 13),li b (e9.a 14)] 2) true,LE.mk bq (SO.tup [li a (e9.a 13),li b (e9.a 14)] 0) true] [] (SV.own 4 b2)) ?_ ?_
 ·kernel_rfl
 exact ⟨eT hd,λz z z=>⟨⟨hc.1,hc.2.1⟩,λz z=>⟨⟨hc.2.2.1,hc.2.2.2.1⟩,λz z=>⟨hc.2.2.2.2,λz z z z z=>eZ (Fx (mF (.tail _ (.head _))) (mF (.head _)) ((f.2.2.2.1).mono iU) (mF (.tail _ (.tail _ (.tail _ (.head _))))))⟩⟩⟩⟩
theorem Uq (wo:ah) (k w h d sh sg od r r2:Int) (l:List Nd) (hc:CP (.box k w h d sh sg od r r2 l)) (IH:nW wo l):gc wo (.box k w h d sh sg od r r2 l):=jA [] λled depth news vv t mu hd aK bn=>by
 refine bn.elim λe9 f=> ?_
 have qg:cO wo.params led l (e9.a 11) _:=⟨_,_,_,(f.2.2.2.1),(f.2.2.2.2.1),(f.2.2.2.2.2.1)⟩
 have hk:k=2\/k=3:=by have:=hc.1;have:=hc.2.1;omega
 rcases hk with rfl|rfl
 ·refine ⟨(ro wo led news (18+8*ht (.box 2 w h d sh sg od r r2 l))),[⟨e9.a 0,.inst 381 1 (e9.a 1),false⟩,⟨e9.a 1,.dict [(sO "kind",e9.a 2,.lit (.int 2 (e9.a 16))),(sO "width",e9.a 3,.lit (.int w (e9.a 17))),(sO "height",e9.a 4,.lit (.int h (e9.a 18))),(sO "depth",e9.a 5,.lit (.int d (e9.a 19))),(sO "items",e9.a 6,.lit (.ref (e9.a 11))),(sO "shift",e9.a 7,.lit (.int sh e9.u)),(sO "sign",e9.a 8,.lit (.int sg (e9.a 20))),(sO "order",e9.a 9,.lit (.int od (e9.a 21))),(sO "ratio",e9.a 10,.lit (.ref (e9.a 12)))] 9,false⟩],.own 0 (e9.a 0),tP fu,f.1,bw (f.2.1) (bw (f.2.2.1) (dY)),⟨trivial,trivial,trivial⟩,by kernel_rfl,by kernel_rfl,λtk=> ?_⟩
  refine @cD _ ((depth:Int)<=60/\ ∀(qh:Nat),∃(b1:List Nd),∃(b2:Nat),oj wo led news (18+8*ht (Nd.box 2 w h d sh sg od r r2 l)) (e9.a 11) ((depth:Int)+1) b1 b2/\ ∀(b3:Nat) (b4:List (ac×av)) (b5:Nat) (b6:List ac),cH [] b4->om wo led b1 b4 b3 b6-> ∀(b9 aH:Nat),((2:Int)<=2/\(2:Int)<=3)/\ ∀(bq:Nat),(-1073741823<=w/\w<=1073741823)/\ ∀(bJ:Nat),(-1073741823<=h/\h<=1073741823)/\ ∀(bY:Nat),(-1073741823<=d/\d<=1073741823)/\ ∀(bt cj:Nat),Sep [aH,b9,cj] b4->cE wo.2 (bV wo led (Nd.box 2 w h d sh sg od r r2 l)) news [LE.mk aH (SO.dict [(sO "kind",bq+1,li 2 (e9.a 16)),(sO "width",bJ+1,li w (e9.a 17)),(sO "height",bY+1,li h (e9.a 18)),(sO "depth",bt+1,li d (e9.a 19)),(sO "items",bt+3,SV.lit (ae b3)),(sO "shift",bt+6,li sh e9.u),(sO "sign",bt+8,li sg (e9.a 20)),(sO "order",bt+11,li od (e9.a 21)),(sO "ratio",bt+15,SV.lit (ae (e9.a 12)))] 9) true,LE.mk b9 (SO.inst 381 2 aH) true,LE.mk cj (SO.tup [li 0 (bt+12),li 1 (bt+13)] 0) true] b4 (SV.own 3 b9)) ?_ ?_
  ·kernel_rfl
  exact ⟨eT hd,λz=>⟨l,depth+1,⟨rfl,IH,iW hd (cS _),cS _,⟨_,qg⟩,aK⟩,λz z z z z R z z=>⟨by decide,λz=>⟨⟨hc.2.2.1,hc.2.2.2.1⟩,λz=>⟨⟨hc.2.2.2.2.1,hc.2.2.2.2.2.1⟩,λz=>⟨⟨hc.2.2.2.2.2.2.1,hc.2.2.2.2.2.2.2.1⟩,λz z sep=>Ce (A4 (mF (.tail _ (.head _))) (mF (.head _)) (cO.mono rp R.l) (iU _ (f.2.2.2.2.2.2.1))) R.m R.n (.head _) (sep.2 _ (.head _))⟩⟩⟩⟩⟩⟩
 ·refine ⟨(ro wo led news (18+8*ht (.box 3 w h d sh sg od r r2 l))),[⟨e9.a 0,.inst 381 1 (e9.a 1),false⟩,⟨e9.a 1,.dict [(sO "kind",e9.a 2,.lit (.int 3 (e9.a 16))),(sO "width",e9.a 3,.lit (.int w (e9.a 17))),(sO "height",e9.a 4,.lit (.int h (e9.a 18))),(sO "depth",e9.a 5,.lit (.int d (e9.a 19))),(sO "items",e9.a 6,.lit (.ref (e9.a 11))),(sO "shift",e9.a 7,.lit (.int sh e9.u)),(sO "sign",e9.a 8,.lit (.int sg (e9.a 20))),(sO "order",e9.a 9,.lit (.int od (e9.a 21))),(sO "ratio",e9.a 10,.lit (.ref (e9.a 12)))] 9,false⟩],.own 0 (e9.a 0),tP fu,f.1,bw (f.2.1) (bw (f.2.2.1) (dY)),⟨trivial,trivial,trivial⟩,by kernel_rfl,by kernel_rfl,λtk=> ?_⟩
  refine @cD _ ((depth:Int)<=60/\ ∀(qh:Nat),∃(b1:List Nd),∃(b2:Nat),oj wo led news (18+8*ht (Nd.box 3 w h d sh sg od r r2 l)) (e9.a 11) ((depth:Int)+1) b1 b2/\ ∀(b3:Nat) (b4:List (ac×av)) (b5:Nat) (b6:List ac),cH [] b4->om wo led b1 b4 b3 b6-> ∀(b9 aH:Nat),((2:Int)<=3/\(3:Int)<=3)/\ ∀(bq:Nat),(-1073741823<=w/\w<=1073741823)/\ ∀(bJ:Nat),(-1073741823<=h/\h<=1073741823)/\ ∀(bY:Nat),(-1073741823<=d/\d<=1073741823)/\ ∀(bt cj:Nat),Sep [aH,b9,cj] b4->cE wo.2 (bV wo led (Nd.box 3 w h d sh sg od r r2 l)) news [LE.mk aH (SO.dict [(sO "kind",bq+1,li 3 (e9.a 16)),(sO "width",bJ+1,li w (e9.a 17)),(sO "height",bY+1,li h (e9.a 18)),(sO "depth",bt+1,li d (e9.a 19)),(sO "items",bt+3,SV.lit (ae b3)),(sO "shift",bt+6,li sh e9.u),(sO "sign",bt+8,li sg (e9.a 20)),(sO "order",bt+11,li od (e9.a 21)),(sO "ratio",bt+15,SV.lit (ae (e9.a 12)))] 9) true,LE.mk b9 (SO.inst 381 2 aH) true,LE.mk cj (SO.tup [li 0 (bt+12),li 1 (bt+13)] 0) true] b4 (SV.own 3 b9)) ?_ ?_
  ·kernel_rfl
  exact ⟨eT hd,λz=>⟨l,depth+1,⟨rfl,IH,iW hd (cS _),cS _,⟨_,qg⟩,aK⟩,λz z z z z R z z=>⟨by decide,λz=>⟨⟨hc.2.2.1,hc.2.2.2.1⟩,λz=>⟨⟨hc.2.2.2.2.1,hc.2.2.2.2.2.1⟩,λz=>⟨⟨hc.2.2.2.2.2.2.1,hc.2.2.2.2.2.2.2.1⟩,λz z sep=>Ce (A4 (mF (.tail _ (.head _))) (mF (.head _)) (cO.mono rp R.l) (iU _ (f.2.2.2.2.2.2.1))) R.m R.n (.head _) (sep.2 _ (.head _))⟩⟩⟩⟩⟩⟩
theorem Ur (wo:ah) (l:List Nd) (hc:CP (.eR l)) (IH:nW wo l):gc wo (.eR l):=jA [] λled depth news vv t mu hd aK bn=>by
 refine bn.elim λe9 f=> ?_
 have qg:cO wo.params led l (e9.a 11) _:=⟨_,_,_,(f.2.2.2.1),(f.2.2.2.2.1),(f.2.2.2.2.2.1)⟩
 refine ⟨(ro wo led news (18+8*ht (.eR l))),[⟨e9.a 0,.inst 550 1 (e9.a 1),false⟩,⟨e9.a 1,.dict [(sO "items",e9.a 2,.lit (.ref (e9.a 11)))] 1,false⟩],.own 0 (e9.a 0),tP fu,f.1,bw (f.2.1) (bw (f.2.2.1) (dY)),⟨trivial,trivial,trivial⟩,by kernel_rfl,by kernel_rfl,λtk=> ?_⟩
 refine @cD _ ((depth:Int)<=60/\ ∀(h:Nat),∃(b1:List Nd),∃(b2:Nat),oj wo led news (18+8*ht (Nd.eR l)) (e9.a 11) ((depth:Int)+1) b1 b2/\ ∀(b3:Nat) (b4:List (ac×av)) (b5:Nat) (b6:List ac),cH [] b4->om wo led b1 b4 b3 b6-> ∀(b9 aH:Nat),Sep [aH,b9] b4->cE wo.2 (bV wo led (Nd.eR l)) news [LE.mk aH (SO.dict [(sO "items",b5+3,SV.lit (ae b3))] 1) true,LE.mk b9 (SO.inst 550 2 aH) true] b4 (SV.own 3 b9)) ?_ ?_
 ·kernel_rfl
 exact ⟨eT hd,λz=>⟨l,depth+1,⟨rfl,IH,iW hd (cS _),cS _,⟨_,qg⟩,aK⟩,λz z z z z R z z z=>wc (FE (mF (.tail _ (.head _))) (mF (.head _)) (cO.mono rp R.l)) R.m R.n⟩⟩
theorem Us (wo:ah) (k sz d:Int) (g:Gl) (c:Int) (l:List Nd) (hc:CP (.ins k sz d g c l)) (IH:nW wo l):gc wo (.ins k sz d g c l):=jA [] λled depth news vv t mu hd aK bn=>by
 refine bn.elim λe9 f=> ?_
 have qg:cO wo.params led l (e9.a 11) _:=⟨_,_,_,(f.2.2.2.2.1),(f.2.2.2.2.2.1),(f.2.2.2.2.2.2.1)⟩
 refine ⟨(ro wo led news (18+8*ht (.ins k sz d g c l))),[⟨e9.a 0,.inst 529 1 (e9.a 1),false⟩,⟨e9.a 1,.dict [(sO "number",e9.a 2,.lit (.int k (e9.a 8))),(sO "size",e9.a 3,.lit (.int sz (e9.a 9))),(sO "depth",e9.a 4,.lit (.int d (e9.a 10))),(sO "top",e9.a 5,.lit (.ref (e9.a 13))),(sO "cost",e9.a 6,.lit (.int c (e9.a 12))),(sO "items",e9.a 7,.lit (.ref (e9.a 11)))] 6,false⟩],.own 0 (e9.a 0),tP fu,f.1,bw (f.2.1) (bw (f.2.2.1) (dY)),⟨trivial,trivial,trivial⟩,by kernel_rfl,by kernel_rfl,λtk=> ?_⟩
 refine @cD _ ((depth:Int)<=60/\ ∀(h:Nat),∃(b1:List Nd),∃(b2:Nat),oj wo led news (18+8*ht (Nd.ins k sz d g c l)) (e9.a 11) ((depth:Int)+1) b1 b2/\ ∀(b3:Nat) (b4:List (ac×av)) (b5:Nat) (b6:List ac),cH [] b4->om wo led b1 b4 b3 b6-> ∀(b9 aH:Nat),(0<=k/\k<=254)/\ ∀(bq:Nat),(-1073741823<=sz/\sz<=1073741823)/\ ∀(bJ:Nat),(-1073741823<=d/\d<=1073741823)/\ ∀(bY:Nat),(-2147483647<=c/\c<=2147483647)/\ ∀(bt:Nat),Sep [aH,b9] b4->cE wo.2 (bV wo led (Nd.ins k sz d g c l)) news [LE.mk aH (SO.dict [(sO "number",bq+1,li k (e9.a 8)),(sO "size",bJ+1,li sz (e9.a 9)),(sO "depth",bY+1,li d (e9.a 10)),(sO "top",bY+3,SV.lit (ae (e9.a 13))),(sO "cost",bt+1,li c (e9.a 12)),(sO "items",bt+3,SV.lit (ae b3))] 6) true,LE.mk b9 (SO.inst 529 2 aH) true] b4 (SV.own 3 b9)) ?_ ?_
 ·kernel_rfl
 exact ⟨eT hd,λz=>⟨l,depth+1,⟨rfl,IH,iW hd (cS _),cS _,⟨_,qg⟩,aK⟩,λz z z z z R z z=>⟨⟨hc.1,hc.2.1⟩,λz=>⟨⟨hc.2.2.1,hc.2.2.2.1⟩,λz=>⟨⟨hc.2.2.2.2.1,hc.2.2.2.2.2.1⟩,λz=>⟨⟨hc.2.2.2.2.2.2.1,hc.2.2.2.2.2.2.2.1⟩,λz z=>wc (FF (mF (.tail _ (.head _))) (mF (.head _)) ((f.2.2.2.1).mono iU) (cO.mono rp R.l)) R.m R.n⟩⟩⟩⟩⟩⟩
theorem Ut (wo:ah) (w h d sp n st:Int) (v:Bool) (l:List Nd) (hc:CP (.unset w h d sp n st v l)) (IH:nW wo l):gc wo (.unset w h d sp n st v l):=jA [] λled depth news vv t mu hd aK bn=>by
 refine bn.elim λe9 f=> ?_
 refine f.2.2.2.2.2.2.1.elim λe8 gg=> ?_
 have qg:cO wo.params led l (e9.a 11) _:=⟨_,_,_,(f.2.2.2.1),(f.2.2.2.2.1),(f.2.2.2.2.2.1)⟩
 refine ⟨(ro wo led news (18+8*ht (.unset w h d sp n st v l))),[⟨e9.a 0,.inst 677 1 (e9.a 1),false⟩,⟨e9.a 1,.dict [(sO "width",e9.a 2,.lit (.int w (e9.a 9))),(sO "height",e9.a 3,.lit (.int h (e9.a 10))),(sO "depth",e9.a 4,.lit (.int d (e9.a 12))),(sO "items",e9.a 5,.lit (.ref (e9.a 11))),(sO "spans",e9.a 6,.lit (.int sp (e9.a 13))),(sO "totals",e9.a 7,.own 2 (e9.a 14)),(sO "is_vertical",e9.a 8,.lit (.bool v))] 7,false⟩,⟨e9.a 14,.inst 281 3 (e9.a 15),false⟩,⟨e9.a 15,.dict [(sO "natural",e8.a 0,.lit (.int n e8.u)),(sO "stretch",e8.a 1,.own 4 (e8.a 5)),(sO "shrink",e8.a 2,.own 5 (e8.a 6))] 3,false⟩,⟨e8.a 5,.lst [.lit (.int 0 (e8.a 7)),.lit (.int st (e8.a 8)),.lit (.int 0 (e8.a 9)),.lit (.int 0 (e8.a 10))] (e8.a 3),false⟩,⟨e8.a 6,.lst [.lit (.int 0 (e8.a 11)),.lit (.int 0 (e8.a 12)),.lit (.int 0 (e8.a 13)),.lit (.int 0 (e8.a 14))] (e8.a 4),false⟩],.own 0 (e9.a 0),tP fu,f.1,bw (f.2.1) (bw (f.2.2.1) (bw gg.1 (bw gg.2.1 (bw gg.2.2.1 (bw gg.2.2.2 (dY)))))),⟨trivial,trivial,trivial,trivial,trivial,trivial,trivial⟩,by kernel_rfl,by kernel_rfl,λtk=> ?_⟩
 refine @cD _ ((depth:Int)<=60/\ ∀(qh:Nat),∃(Lk:List Nd),∃(Uu:Nat),oj wo led news (18+8*ht (Nd.unset w h d sp n st v l)) (e9.a 11) ((depth:Int)+1) Lk Uu/\ ∀(Ll:Nat) (b4:List (ac×av)) (b5:Nat) (b6:List ac),cH [] b4->om wo led Lk b4 Ll b6-> ∀(b9 aH bq bJ bY bt cj bx dP cw:Nat),(1<=sp/\sp<=2147483647)/\ ∀(fV:Nat),(-1073741823<=w/\w<=1073741823)/\ ∀(fF:Nat),(-1073741823<=h/\h<=1073741823)/\ ∀(jE:Nat),(-1073741823<=d/\d<=1073741823)/\ ∀(fU:Nat),Sep [aH,b9,bq,bJ,bt,bx,cw,dP] b4->cE wo.2 (bV wo led (Nd.unset w h d sp n st v l)) news [LE.mk aH (SO.dict [(sO "natural",b5+10,li n e8.u),(sO "stretch",b5+16,SV.own 10 bt),(sO "shrink",b5+22,SV.own 11 bx)] 3) true,LE.mk b9 (SO.inst 281 6 aH) true,LE.mk bq (SO.lst [li 0 (b5+11),li 0 (b5+12),li 0 (b5+13),li 0 (b5+14)] 0) true,LE.mk bJ (SO.lst [li 0 (b5+17),li 0 (b5+18),li 0 (b5+19),li 0 (b5+20)] 0) true,LE.mk bt (SO.lst [li 0 (e8.a 7),li st (e8.a 8),li 0 (e8.a 9),li 0 (e8.a 10)] bY) true,LE.mk bx (SO.lst [li 0 (e8.a 11),li 0 (e8.a 12),li 0 (e8.a 13),li 0 (e8.a 14)] cj) true,LE.mk cw (SO.dict [(sO "width",fF+1,li w (e9.a 9)),(sO "height",jE+1,li h (e9.a 10)),(sO "depth",fU+1,li d (e9.a 12)),(sO "items",fU+3,SV.lit (ae Ll)),(sO "spans",fU+5,li sp (e9.a 13)),(sO "totals",fU+7,SV.own 7 b9),(sO "is_vertical",fU+9,SV.lit (fX v))] 7) true,LE.mk dP (SO.inst 677 12 cw) true] b4 (SV.own 13 dP)) ?_ ?_
 ·kernel_rfl
 exact ⟨eT hd,λz=>⟨l,depth+1,⟨rfl,IH,iW hd (cS _),cS _,⟨_,qg⟩,aK⟩,λz z z z z R z z z z z z z z z z=>⟨⟨hc.2.2.2.2.2.2.1,hc.2.2.2.2.2.2.2.1⟩,λz=>⟨⟨hc.1,hc.2.1⟩,λz=>⟨⟨hc.2.2.1,hc.2.2.2.1⟩,λz=>⟨⟨hc.2.2.2.2.1,hc.2.2.2.2.2.1⟩,λz sep=>Ce (FH (mF (.tail _ (.tail _ (.tail _ (.tail _ (.tail _ (.tail _ (.tail _ (.head _))))))))) (mF (.tail _ (.tail _ (.tail _ (.tail _ (.tail _ (.tail _ (.head _)))))))) (cO.mono rp R.l) (TT.i (mF (.tail _ (.head _))) (mF (.head _)) (mF (.tail _ (.tail _ (.tail _ (.tail _ (.head _)))))) (mF (.tail _ (.tail _ (.tail _ (.tail _ (.tail _ (.head _))))))))) R.m R.n (.head _) (sep.2 _ (.head _))⟩⟩⟩⟩⟩⟩
end
section
theorem Uv (wo:ah) (la lb lc:List Nd) (hc:CP (.dX la lb lc)) (ka:∀d∈la,mL d) (kb:∀d∈lb,mL d) (kc:∀d∈lc,mL d) (Eg:nW wo la) (Eh:nW wo lb) (Ei:nW wo lc):gc wo (.dX la lb lc):=jA [] λled depth news vv t mu hd aK bn=>by
 refine bn.elim λe9 f=> ?_
 refine ⟨(Cq wo led news (18+8*ht (.dX la lb lc))),[⟨e9.a 0,.inst 487 1 (e9.a 1),false⟩,⟨e9.a 1,.dict [(sO "pre",e9.a 2,.lit (.ref (e9.a 5))),(sO "post",e9.a 3,.lit (.ref (e9.a 6))),(sO "middle",e9.a 4,.lit (.ref (e9.a 7)))] 3,false⟩],.own 0 (e9.a 0),HU HI,f.1,bw (f.2.1) (bw (f.2.2.1) (dY)),⟨trivial,trivial,trivial⟩,by kernel_rfl,by kernel_rfl,λtk=> ?_⟩
 refine @cD _ ((depth:Int)<=60/\ ∀(h:Nat),∃(b1:List Nd),∃(b2:Nat),oj wo led news (18+8*ht (Nd.dX la lb lc)) (e9.a 5) ((depth:Int)+1) b1 b2/\ ∀(b3:Nat) (b4:List (ac×av)) (b5:Nat) (b6:List ac),cH [] b4->om wo led b1 b4 b3 b6-> ∃(b9:List Nd),∃(aH:Nat),oj wo led news (18+8*ht (Nd.dX la lb lc)) (e9.a 6) ((depth:Int)+1) b9 aH/\ ∀(bq:Nat) (bJ:List (ac×av)) (bY:Nat) (bt:List ac),cH b4 bJ->om wo led b9 bJ bq bt-> ∃(dP:List Nd),∃(cw:Nat),oj wo led news (18+8*ht (Nd.dX la lb lc)) (e9.a 7) ((depth:Int)+1) dP cw/\ ∀(fV:Nat) (fF:List (ac×av)) (jE:Nat) (fU:List ac),cH (b4++bJ) fF->om wo led dP fF fV fU-> ∀(bG cr:Nat),ow wo [LE.mk (e9.a 0) (SO.inst 487 1 (e9.a 1)) false,LE.mk (e9.a 1) (SO.dict [(sO "pre",e9.a 2,SV.lit (ae (e9.a 5))),(sO "post",e9.a 3,SV.lit (ae (e9.a 6))),(sO "middle",e9.a 4,SV.lit (ae (e9.a 7)))] 3) false,LE.mk cr (SO.dict [] 0) true,LE.mk bG (SO.inst 487 2 cr) true] (b4++bJ++fF++news) b3/\ ∀(bu:Nat),ow wo [LE.mk (e9.a 0) (SO.inst 487 1 (e9.a 1)) false,LE.mk (e9.a 1) (SO.dict [(sO "pre",e9.a 2,SV.lit (ae (e9.a 5))),(sO "post",e9.a 3,SV.lit (ae (e9.a 6))),(sO "middle",e9.a 4,SV.lit (ae (e9.a 7)))] 3) false,LE.mk cr (SO.dict [(sO "pre",bu+1,SV.lit (ae b3))] 1) true,LE.mk bG (SO.inst 487 2 cr) true] (b4++bJ++fF++news) bq/\ ∀(eJ:Nat),ow wo [LE.mk (e9.a 0) (SO.inst 487 1 (e9.a 1)) false,LE.mk (e9.a 1) (SO.dict [(sO "pre",e9.a 2,SV.lit (ae (e9.a 5))),(sO "post",e9.a 3,SV.lit (ae (e9.a 6))),(sO "middle",e9.a 4,SV.lit (ae (e9.a 7)))] 3) false,LE.mk cr (SO.dict [(sO "pre",bu+1,SV.lit (ae b3)),(sO "post",eJ+1,SV.lit (ae bq))] 2) true,LE.mk bG (SO.inst 487 2 cr) true] (b4++bJ++fF++news) fV/\ ∀(fE:Nat),Sep [cr,bG] (b4++bJ++fF)->cE wo.2 (bV wo led (Nd.dX la lb lc)) news [LE.mk cr (SO.dict [(sO "pre",bu+1,SV.lit (ae b3)),(sO "post",eJ+1,SV.lit (ae bq)),(sO "middle",fE+1,SV.lit (ae fV))] 3) true,LE.mk bG (SO.inst 487 2 cr) true] (b4++bJ++fF) (SV.own 3 bG)) ?_ ?_
 ·kernel_rfl
 have h1:bR la<=ht (.dX la lb lc):=jJ _ _
 have h2:bR lb<=ht (.dX la lb lc):=aI (jJ _ _) (ix _ _)
 have h3:bR lc<=ht (.dX la lb lc):=aI (ix _ _) (ix _ _)
 exact ⟨eT hd,λz=>⟨la,depth+1,⟨rfl,Eg,iW hd h1,tQ h1,⟨_,_,_,_,(f.2.2.2.1),(f.2.2.2.2.1),(f.2.2.2.2.2.1)⟩,aK⟩,λz o1 z z z R1=>⟨lb,depth+1,⟨rfl,Eh,iW hd h2,tQ h2,⟨_,_,_,_,(f.2.2.2.2.2.2.1),(f.2.2.2.2.2.2.2.1),(f.2.2.2.2.2.2.2.2.1)⟩,aK⟩,λz o2 z z e1 R2=>⟨lc,depth+1,⟨rfl,Ei,iW hd h3,tQ h3,⟨_,_,_,_,(f.2.2.2.2.2.2.2.2.2.1),(f.2.2.2.2.2.2.2.2.2.2.1),(f.2.2.2.2.2.2.2.2.2.2.2.1)⟩,aK⟩,λz o3 z z e2 R3 z z=>
  ⟨Cr (Qn aK) R1.l ka,λz=>⟨Cr (Qo aK) R2.l kb,λz=>⟨Cr (Qp aK) R3.l kc,λz z=>Qq (FI (mF (.tail _ (.head _))) (mF (.head _)) (cO.mono Qk R1.l) (cO.mono Ql R2.l) (cO.mono Qm R3.l)) R1.m R2.m R3.m R1.n R2.n R3.n e1 e2⟩⟩⟩⟩⟩⟩⟩
theorem Uw (wo:ah) (g:Gl) (k:Int) (a b c:Option Int) (hc:CP (.lead g k (.rule a b c))) (IH:gc wo (.rule a b c)):gc wo (.lead g k (.rule a b c)):=jA [((188,15),some true),((190,32),some true),((190,11),some false)] λled depth news vv t mu hd aK bn=>by
 obtain ⟨e9,f⟩:=bn
 refine ⟨((717,HV wo led news (18+8*ht (.lead g k (.rule a b c))) a b c)::mJ),[⟨e9.a 0,.inst 445 1 (e9.a 1),false⟩,⟨e9.a 1,.dict [(sO "glue",e9.a 2,.lit (.ref (e9.a 13))),(sO "sort",e9.a 3,.lit (.int k (e9.a 12))),(sO "leader",e9.a 4,.lit (.ref (e9.a 5)))] 3,false⟩],.own 0 (e9.a 0),ey Qi (pN fu),f.1,bw (f.2.1) (bw (f.2.2.1) (dY)),⟨trivial,trivial,trivial⟩,by kernel_rfl,by kernel_rfl,λtk=> ?_⟩
 refine @cD _ ((depth:Int)<=60/\ ∀(h:Nat),∃(b1:Nat),wg wo led news (18+8*ht (Nd.lead g k (Nd.rule a b c))) (Nd.rule a b c) (ae (e9.a 5)) ((depth:Int)+1) b1/\ ∀(b2:List (ac×av)) (b3:Nat) (b4:List ac) (b5 b6 b7 b8 b9:Nat) (aH bq bJ:aa),cH [] b2->rA wo led (Nd.rule a b c) b2 (ae b5) b4-> ∀(cj bx:Nat),True/\ ∀(dP:Nat),decide (0<=k/\k<=5)=true/\decide (1<=k)=true/\(false==decide (k<=3))=false/\(Sep [bx,cj] b2->cE wo.2 (bV wo led (Nd.lead g k (Nd.rule a b c))) news [LE.mk bx (SO.dict [(sO "glue",dP+2,SV.lit (ae (e9.a 13))),(sO "sort",dP+4,li k (e9.a 12)),(sO "leader",dP+6,SV.own 3 b5)] 3) true,LE.mk cj (SO.inst 445 4 bx) true] b2 (SV.own 5 cj))) ?_ ?_
 ·kernel_rfl
 exact ⟨eT hd,λz=>⟨depth+1,⟨rfl,IH,Cf hd,Cg,⟨_,(f.2.2.2.2.1)⟩,aK⟩,λz z z z z z z z z z z z R z z=>⟨trivial,λz=>⟨jR ⟨ed (by decide) hc.1,ed hc.2.1 (by decide)⟩,jR hc.1,yI hc.2.1,λz=>wc (xU (mF (.tail _ (.head _))) (mF (.head _)) ((f.2.2.2.1).mono iU) (ND.mono rp _ _ _ R.l)) R.m R.n⟩⟩⟩⟩
theorem Ux (wo:ah) (g:Gl) (k:Int) (kj w h d sh sg od r r2:Int) (l:List Nd) (hc:CP (.lead g k (.box kj w h d sh sg od r r2 l))) (IH:gc wo (.box kj w h d sh sg od r r2 l)):gc wo (.lead g k (.box kj w h d sh sg od r r2 l)):=jA [((188,15),some true),((190,32),some true),((190,11),some false),((192,39),some true),((192,62),some true)] λled depth news vv t mu hd aK bn=>by
 obtain ⟨e9,f⟩:=bn
 refine ⟨((717,HW wo led news (18+8*ht (.lead g k (.box kj w h d sh sg od r r2 l))) kj w h d sh sg od r r2 l)::mJ),[⟨e9.a 0,.inst 445 1 (e9.a 1),false⟩,⟨e9.a 1,.dict [(sO "glue",e9.a 2,.lit (.ref (e9.a 13))),(sO "sort",e9.a 3,.lit (.int k (e9.a 12))),(sO "leader",e9.a 4,.lit (.ref (e9.a 5)))] 3,false⟩],.own 0 (e9.a 0),ey Qj (pN fu),f.1,bw (f.2.1) (bw (f.2.2.1) (dY)),⟨trivial,trivial,trivial⟩,by kernel_rfl,by kernel_rfl,λtk=> ?_⟩
 refine @cD _ ((depth:Int)<=60/\ ∀(qh:Nat),∃(b1:Nat),wg wo led news (18+8*ht (Nd.lead g k (Nd.box kj w h d sh sg od r r2 l))) (Nd.box kj w h d sh sg od r r2 l) (ae (e9.a 5)) ((depth:Int)+1) b1/\ ∀(b2:List (ac×av)) (b3:Nat) (b4:List ac) (b5 b6:Nat) (b7:List l5) (b8 b9:Nat),cH [] b2->rA wo led (Nd.box kj w h d sh sg od r r2 l) b2 (ae b5) b4-> ∀(bJ bY:Nat),True/\ ∀(bt:Nat),decide (0<=k/\k<=5)=true/\decide (1<=k)=true/\(false==decide (k<=3))=false/\decide (2<=kj)=true/\decide (kj<=4)=true/\(Sep [bY,bJ] b2->cE wo.2 (bV wo led (Nd.lead g k (Nd.box kj w h d sh sg od r r2 l))) news [LE.mk bY (SO.dict [(sO "glue",bt+2,SV.lit (ae (e9.a 13))),(sO "sort",bt+4,li k (e9.a 12)),(sO "leader",bt+6,SV.own 3 b5)] 3) true,LE.mk bJ (SO.inst 445 4 bY) true] b2 (SV.own 5 bJ))) ?_ ?_
 ·kernel_rfl
 exact ⟨eT hd,λz=>⟨depth+1,⟨rfl,IH,Cf hd,Cg,⟨_,(f.2.2.2.2.1)⟩,aK⟩,λz z z z z z z z z R z z=>⟨trivial,λz=>⟨jR ⟨ed (by decide) hc.1,ed hc.2.1 (by decide)⟩,jR hc.1,yI hc.2.1,jR hc.2.2.2.1,jR (ed hc.2.2.2.2.1 (by decide)),λz=>wc (xU (mF (.tail _ (.head _))) (mF (.head _)) ((f.2.2.2.1).mono iU) (ND.mono rp _ _ _ R.l)) R.m R.n⟩⟩⟩⟩
theorem Uy (wo:ah) (g:Gl) (k:Int) (hc:CP (.skip g k)):gc wo (.skip g k):=jA [((188,15),none),((188,57),some true),((190,32),none),((190,11),some false)] λled depth news vv t mu hd aK bn=>by
 refine bn.elim λe9 f=> ?_
 refine ⟨mJ,[⟨e9.a 0,.inst 445 1 (e9.a 1),false⟩,⟨e9.a 1,.dict [(sO "glue",e9.a 2,.lit (.ref (e9.a 13))),(sO "sort",e9.a 3,.lit (.int k (e9.a 12))),(sO "leader",e9.a 4,.lit .none)] 3,false⟩],.own 0 (e9.a 0),pN fu,f.1,bw (f.2.1) (bw (f.2.2.1) (dY)),⟨trivial,trivial,trivial⟩,by kernel_rfl,by kernel_rfl,λtk=> ?_⟩
 refine @cD _ ((depth:Int)<=60/\ ∀(h b1 b2:Nat),True/\ ∀(b3:Nat),(decide (0<=k/\k<=5)=true->(decide (1<=k)=true->(true==decide (k<=3))=false/\(Sep [b2,b1] []->cE wo.2 (bV wo led (Nd.skip g k)) news [LE.mk b2 (SO.dict [(sO "glue",b3+1,SV.lit (ae (e9.a 13))),(sO "sort",b3+3,li k (e9.a 12)),(sO "leader",b3+5,SV.lit aY)] 3) true,LE.mk b1 (SO.inst 445 2 b2) true] [] (SV.own 3 b1)))/\(decide (1<=k)=false->(true==false)=false/\(Sep [b2,b1] []->cE wo.2 (bV wo led (Nd.skip g k)) news [LE.mk b2 (SO.dict [(sO "glue",b3+1,SV.lit (ae (e9.a 13))),(sO "sort",b3+3,li k (e9.a 12)),(sO "leader",b3+5,SV.lit aY)] 3) true,LE.mk b1 (SO.inst 445 2 b2) true] [] (SV.own 3 b1))))/\(decide (0<=k/\k<=5)=false->True/\ ∀(b5:Nat),decide (100<=k/\k<=100+99)=true/\(decide (1<=k)=true->(true==decide (k<=3))=false/\(Sep [b2,b1] []->cE wo.2 (bV wo led (Nd.skip g k)) news [LE.mk b2 (SO.dict [(sO "glue",b5+1,SV.lit (ae (e9.a 13))),(sO "sort",b5+3,li k (e9.a 12)),(sO "leader",b5+5,SV.lit aY)] 3) true,LE.mk b1 (SO.inst 445 2 b2) true] [] (SV.own 3 b1)))/\(decide (1<=k)=false->(true==false)=false/\(Sep [b2,b1] []->cE wo.2 (bV wo led (Nd.skip g k)) news [LE.mk b2 (SO.dict [(sO "glue",b5+1,SV.lit (ae (e9.a 13))),(sO "sort",b5+3,li k (e9.a 12)),(sO "leader",b5+5,SV.lit aY)] 3) true,LE.mk b1 (SO.inst 445 2 b2) true] [] (SV.own 3 b1))))) ?_ ?_
 ·kernel_rfl
 exact ⟨eT hd,λz z z=>⟨trivial,λz=>⟨λh1=>⟨λh2=>⟨yH λh3=>hc.2 ⟨ofT h2,h3⟩,λz=>eZ (pq (mF (.tail _ (.head _))) (mF (.head _)) ((f.2.2.2.1).mono iU))⟩,λh2=>⟨rfl,λz=>eZ (pq (mF (.tail _ (.head _))) (mF (.head _)) ((f.2.2.2.1).mono iU))⟩⟩,λh1=>⟨trivial,λz=>⟨jR (hc.1.elim (λh=>absurd h (HS h1)) id),λh2=>⟨yH λh3=>hc.2 ⟨ofT h2,h3⟩,λz=>eZ (pq (mF (.tail _ (.head _))) (mF (.head _)) ((f.2.2.2.1).mono iU))⟩,λh2=>⟨rfl,λz=>eZ (pq (mF (.tail _ (.head _))) (mF (.head _)) ((f.2.2.2.1).mono iU))⟩⟩⟩⟩⟩⟩
theorem Lm (a:UInt8):0<=(a.toNat:Int)/\(a.toNat:Int)<=255:=⟨j9 _,fZ.mpr (Nat.le_of_lt_succ a.toNat_lt)⟩
theorem Uz (wo:ah) (a b:UInt8) (hc:CP (.spec a b)):gc wo (.spec a b):=HJ (Eb wo) (λz=>Lb) [] λled depth news vv t mu hd aK bn=>by
 refine bn.elim λe9 f=> ?_
 refine ⟨(Cq wo led news (18+8*ht (.spec a b))),[⟨e9.a 0,.inst 592 1 (e9.a 1),false⟩,⟨e9.a 1,.dict [(sO "octets",e9.a 2,.lit (.bytes #[a,b] (e9.a 12)))] 1,false⟩],.own 0 (e9.a 0),HU HI,f.1,bw (f.2.1) (bw (f.2.2.1) (dY)),⟨trivial,trivial,trivial⟩,by kernel_rfl,by kernel_rfl,λtk=> ?_⟩
 refine @cD _ (((depth:Nat):Int)<=60/\ ∀(h:af) (b1 b2 b3:ac) (b4 b5 b6:af),(0<=((a.toNat:Nat):Int)/\((a.toNat:Nat):Int)<=255)/\ ∀(b7 b8 b9:af),(0<=((b.toNat:Nat):Int)/\((b.toNat:Nat):Int)<=255)/\ ∀(aH bq:af),Sep [b2,b1,b3] []->cE wo.2 (bV wo led (Nd.spec a b)) news [LE.mk b2 (SO.dict [(sO "octets",bq+1,SV.lit (Value.bytes (di [a,b]) (e9.a 12)))] 1) true,LE.mk b1 (SO.inst 592 2 b2) true,LE.mk b3 (SO.tup [SV.lit (aw "bytes"),SV.lit (aw "bytearray"),SV.lit (aw "list"),SV.lit (aw "tuple")] 0) true] [] (SV.own 3 b1)) ?_ ?_
 ·kernel_rfl
 exact ⟨eT hd,λz z z z z z z=>⟨Lm a,λz z z=>⟨Lm b,λz z z=>eZ (FC (mF (.tail _ (.head _))) (mF (.head _)))⟩⟩⟩
end
section
def oC:Option Int->Prop->Prop
 |none,P=>P
 |some i,P=>(-1073741823<=i/\i<=1073741823)/\ ∀z:Nat,P
theorem Ej:∀{w:Option Int} {P:Prop},(∀i,w=some i-> -1073741823<=i/\i<=1073741823)->P->oC w P
 |none,z,y,h=>h
 |some z,y,r,h=>⟨r _ rfl,λq=>h⟩
def cG (wo:ah) (led news:Led) (depth:Nat) (x dx:ac) (t t0 t1 t2 u0 u1 u2 tk:af) (w h d:Option Int):Prop:=jP (KK wo.params) [] (Ev.jf (KK wo.params) eH Cfg.none [] 99) 6 (.ref 717) [.own 0 x,.lit (.int depth t)] ⟨[],rL x dx t0 t1 t2 u0 u1 u2 w h d,[],tk⟩ (λr st=>Sep ((st.led.filter (·.f)).map (·.a)) st.oth->cE wo.params (bV wo led (.rule w h d)) news (st.led.filter (·.f)) st.oth r)
def cF (wo:ah) (led news:Led) (depth:Nat) (x dx:ac) (t t0 t1 t2 u0 u1 u2 tk:af) (w h d:Option Int):Prop:=(depth:Int)<=60/\ ∀(qh b1 b2 b3 b4:Nat),oC w (∀z:Nat,oC h (∀z:Nat,oC d (∀b:Nat,Sep [b2,b1,b3] []->cE wo.2 (bV wo led (Nd.rule w h d)) news [LE.mk b2 (SO.dict [(sO "width",b+1,.lit (oV w u0)),(sO "height",b+3,.lit (oV h u1)),(sO "depth",b+5,.lit (oV d u2))] 3) true,LE.mk b1 (SO.inst 402 2 b2) true,LE.mk b3 (SO.tup [.lit (oV w u0),.lit (oV h u1),.lit (oV d u2)] 0) true] [] (SV.own 3 b1))))
theorem UA (wo:ah) (led news:Led) (depth:Nat) (x dx:ac) (t t0 t1 t2 u0 u1 u2 tk:af) (w h d:Option Int):cG wo led news depth x dx t t0 t1 t2 u0 u1 u2 tk w h d=cF wo led news depth x dx t t0 t1 t2 u0 u1 u2 tk w h d:=by
 rcases w with z|w<;>rcases h with z|h<;>rcases d with z|d<;>kernel_rfl
theorem UB (wo:ah) (w h d:Option Int) (hc:CP (.rule w h d)):gc wo (.rule w h d):=jA [] λled depth news vv t mu hd aK bn=>by
 obtain ⟨⟨q,z,z,z,z,z,z,z,z,z,z,z,z,z,wv,hv,dv,z⟩,f⟩:=bn
 obtain ⟨u0,e0⟩:=tN f.2.2.2.1
 obtain ⟨u1,e1⟩:=tN f.2.2.2.2.1
 obtain ⟨u2,e2⟩:=tN f.2.2.2.2.2.1
 subst e0 e1 e2
 obtain ⟨rfl,f1,f2,z,z,z,rfl⟩:=f
 refine ⟨eH,rL (q 0) (q 1) (q 2) (q 3) (q 4) u0 u1 u2 w h d,.own 0 (q 0),fo fu,rfl,bw f1 (bw f2 (dY)),⟨trivial,trivial,trivial⟩,by kernel_rfl,by kernel_rfl,λtk=> ?_⟩
 exact @cD (cG wo led news depth (q 0) (q 1) t (q 2) (q 3) (q 4) u0 u1 u2 tk w h d) (cF wo led news depth (q 0) (q 1) t (q 2) (q 3) (q 4) u0 u1 u2 tk w h d) (UA ..) ⟨eT hd,λy y y y y=>Ej hc.1 λy=>Ej hc.2.1 λy=>Ej hc.2.2 λy y=>eZ (nd_rule (mF (.tail _ (.head _))) (mF (.head _)) Cd Cd Cd)⟩
end
section
theorem UC (wo:ah) (k c:Int) (hc:TP (.char k c)):Tells wo (.char k c):=jB [] λled depth news vv t mu hd aK bn=>by
 refine bn.elim λe f=> ?_
 refine f.2.2.2.1.elim λe2 gg=> ?_
 refine ⟨eH,[⟨e.a 0,.inst 340 1 (e.a 1),false⟩,⟨e.a 1,.dict [(sO "font",e.a 2,.own 2 (e.a 7)),(sO "code",e.a 3,.lit (.int c (e.a 12)))] 2,false⟩,⟨e.a 7,.inst 896 3 (e2.a 0),false⟩,⟨e2.a 0,.part e2.es (e2.a 1) [(sO "number",.lit (.int k (e2.a 2)))],false⟩],.own 0 (e.a 0),fo fu,f.1,bw (f.2.1) (bw (f.2.2.1) (bw ((gg.1)) (bw ((gg.2.1)) (dY)))),⟨trivial,trivial,trivial,λy hy=>by rw [bN.mp hy];exact (gg.2.2),trivial⟩,by kernel_rfl,by kernel_rfl,λtk=> ?_⟩
 refine @cD _ ((depth:Int)<=60/\ ∀(h h:Nat),au 0=au 0/\au k=au k/\au c=au c/\True) ?_ ?_
 ·kernel_rfl
 exact ⟨eT hd,λz z=>⟨rfl,rfl,rfl,trivial⟩⟩
theorem UD (wo:ah) (g:Gl) (k:Int) (hc:TP (.skip g k)):Tells wo (.skip g k):=jB [] λled depth news vv t mu hd aK bn=>by
 refine bn.elim λe f=> ?_
 refine f.2.2.2.1.elim λe2 gg=> ?_
 refine ⟨eH,[⟨e.a 0,.inst 445 1 (e.a 1),false⟩,⟨e.a 1,.dict [(sO "glue",e.a 2,.own 2 (e.a 13)),(sO "sort",e.a 3,.lit (.int k (e.a 12))),(sO "leader",e.a 4,.lit .none)] 3,false⟩,⟨e.a 13,.inst 225 3 (e2.a 0),false⟩,⟨e2.a 0,.dict [(sO "width",e2.a 1,.lit (.int g.w (e2.a 6))),(sO "stretch",e2.a 2,.lit (.int g.st (e2.a 7))),(sO "stretch_order",e2.a 3,.lit (.int g.so (e2.a 8))),(sO "shrink",e2.a 4,.lit (.int g.sh (e2.a 9))),(sO "shrink_order",e2.a 5,.lit (.int g.s8 (e2.a 10)))] 5,false⟩],.own 0 (e.a 0),fo fu,f.1,bw (f.2.1) (bw (f.2.2.1) (bw ((gg.1)) (bw ((gg.2)) (dY)))),⟨trivial,trivial,trivial,trivial,trivial⟩,by kernel_rfl,by kernel_rfl,λtk=> ?_⟩
 refine @cD _ ((depth:Int)<=60/\ ∀(h h h h:Nat),au 6=au 6/\(au g.1=au g.1/\au g.2=au g.2/\au g.3=au g.3/\au g.4=au g.4/\au g.5=au g.5/\True)/\au k=au k/\True/\True) ?_ ?_
 ·kernel_rfl
 exact ⟨eT hd,λz z z z=>⟨rfl,⟨rfl,rfl,rfl,rfl,rfl,trivial⟩,rfl,trivial,trivial⟩⟩
theorem UE (wo:ah) (la lb lc:List Nd) (hc:TP (.dX la lb lc)) (Eg:lH wo la) (Eh:lH wo lb) (Ei:lH wo lc):Tells wo (.dX la lb lc):=jB [] λled depth news vv t mu hd aK bn=>by
 refine bn.elim λe f=> ?_
 refine ⟨(pQ wo led news (18+8*ht (.dX la lb lc))),[⟨e.a 0,.inst 487 1 (e.a 1),false⟩,⟨e.a 1,.dict [(sO "pre",e.a 2,.lit (.ref (e.a 5))),(sO "post",e.a 3,.lit (.ref (e.a 6))),(sO "middle",e.a 4,.lit (.ref (e.a 7)))] 3,false⟩],.own 0 (e.a 0),rx fu,f.1,bw (f.2.1) (bw (f.2.2.1) (dY)),⟨trivial,trivial,trivial⟩,by kernel_rfl,by kernel_rfl,λtk=> ?_⟩
 refine @cD _ ((depth:Int)<=60/\ ∀(h:Nat),∃(b1:List Nd),∃(b2:Nat),mK wo led news (18+8*ht (Nd.dX la lb lc)) (e.a 5) ((depth:Int)+1) b1 b2/\ ∀(b3:aa) (b4:List (ac×av)) (b5:Nat),d4 (led++b4) b3 (de (bS b1))-> ∃(b7:List Nd),∃(b8:Nat),mK wo led news (18+8*ht (Nd.dX la lb lc)) (e.a 6) ((depth:Int)+1) b7 b8/\ ∀(b9:aa) (aH:List (ac×av)) (bq:Nat),d4 (led++aH) b9 (de (bS b7))-> ∃(bY:List Nd),∃(bt:Nat),mK wo led news (18+8*ht (Nd.dX la lb lc)) (e.a 7) ((depth:Int)+1) bY bt/\ ∀(cj:aa) (bx:List (ac×av)) (dP:Nat),d4 (led++bx) cj (de (bS bY))-> ∀(fV:Nat),au 8=au 8/\d4 (led++(b4++aH++bx)) b3 (de (bS la))/\d4 (led++(b4++aH++bx)) b9 (de (bS lb))/\d4 (led++(b4++aH++bx)) cj (de (bS lc))/\True) ?_ ?_
 ·kernel_rfl
 have h1:bR la<=ht (.dX la lb lc):=jJ _ _
 have h2:bR lb<=ht (.dX la lb lc):=aI (jJ _ _) (ix _ _)
 have h3:bR lc<=ht (.dX la lb lc):=aI (ix _ _) (ix _ _)
 exact ⟨eT hd,λz=>⟨la,depth+1,⟨rfl,Eg,iW hd h1,tQ h1,⟨_,_,_,_,f.2.2.2.1,f.2.2.2.2.1,f.2.2.2.2.2.1⟩,aK⟩,λz z z Q1=>⟨lb,depth+1,⟨rfl,Eh,iW hd h2,tQ h2,⟨_,_,_,_,f.2.2.2.2.2.2.1,f.2.2.2.2.2.2.2.1,f.2.2.2.2.2.2.2.2.1⟩,aK⟩,λz z z Q2=>⟨lc,depth+1,⟨rfl,Ei,iW hd h3,tQ h3,⟨_,_,_,_,f.2.2.2.2.2.2.2.2.2.1,f.2.2.2.2.2.2.2.2.2.2.1,f.2.2.2.2.2.2.2.2.2.2.2.1⟩,aK⟩,λz z z Q3 z=>⟨rfl,Q1.m1,Q2.m2,Q3.m3,trivial⟩⟩⟩⟩⟩
theorem UF (wo:ah) (w k:Int) (hc:TP (.fy w k)):Tells wo (.fy w k):=jB [] λled depth news vv t mu hd aK bn=>by
 refine bn.elim λe f=> ?_
 refine ⟨eH,[⟨e.a 0,.inst 423 1 (e.a 1),false⟩,⟨e.a 1,.dict [(sO "width",e.a 2,.lit (.int w (e.a 10))),(sO "sort",e.a 3,.lit (.int k (e.a 12)))] 2,false⟩],.own 0 (e.a 0),fo fu,f.1,bw (f.2.1) (bw (f.2.2.1) (dY)),⟨trivial,trivial,trivial⟩,by kernel_rfl,by kernel_rfl,λtk=> ?_⟩
 refine @cD _ ((depth:Int)<=60/\ ∀(h h:Nat),au 5=au 5/\au w=au w/\au k=au k/\True) ?_ ?_
 ·kernel_rfl
 exact ⟨eT hd,λz z=>⟨rfl,rfl,rfl,trivial⟩⟩
theorem UG (wo:ah) (k sz d:Int) (g:Gl) (c:Int) (l:List Nd) (hc:TP (.ins k sz d g c l)) (IH:lH wo l):Tells wo (.ins k sz d g c l):=jB [] λled depth news vv t mu hd aK bn=>by
 refine bn.elim λe f=> ?_
 refine f.2.2.2.1.elim λe2 gg=> ?_
 refine ⟨(pQ wo led news (18+8*ht (.ins k sz d g c l))),[⟨e.a 0,.inst 529 1 (e.a 1),false⟩,⟨e.a 1,.dict [(sO "number",e.a 2,.lit (.int k (e.a 8))),(sO "size",e.a 3,.lit (.int sz (e.a 9))),(sO "depth",e.a 4,.lit (.int d (e.a 10))),(sO "top",e.a 5,.own 2 (e.a 13)),(sO "cost",e.a 6,.lit (.int c (e.a 12))),(sO "items",e.a 7,.lit (.ref (e.a 11)))] 6,false⟩,⟨e.a 13,.inst 225 3 (e2.a 0),false⟩,⟨e2.a 0,.dict [(sO "width",e2.a 1,.lit (.int g.w (e2.a 6))),(sO "stretch",e2.a 2,.lit (.int g.st (e2.a 7))),(sO "stretch_order",e2.a 3,.lit (.int g.so (e2.a 8))),(sO "shrink",e2.a 4,.lit (.int g.sh (e2.a 9))),(sO "shrink_order",e2.a 5,.lit (.int g.s8 (e2.a 10)))] 5,false⟩],.own 0 (e.a 0),rx fu,f.1,bw (f.2.1) (bw (f.2.2.1) (bw ((gg.1)) (bw ((gg.2)) (dY)))),⟨trivial,trivial,trivial,trivial,trivial⟩,by kernel_rfl,by kernel_rfl,λtk=> ?_⟩
 refine @cD _ ((depth:Int)<=60/\ ∀(h h:Nat),∃(b1:List Nd),∃(b2:Nat),mK wo led news (18+8*ht (Nd.ins k sz d g c l)) (e.a 11) ((depth:Int)+1) b1 b2/\ ∀(b3:aa) (b4:List (ac×av)) (b5:Nat),d4 (led++b4) b3 (de (bS b1))-> ∀(b7:Nat),au 10=au 10/\au k=au k/\au sz=au sz/\au d=au d/\(au g.1=au g.1/\au g.2=au g.2/\au g.3=au g.3/\au g.4=au g.4/\au g.5=au g.5/\True)/\au c=au c/\d4 (led++b4) b3 (de (bS l))/\True) ?_ ?_
 ·kernel_rfl
 exact ⟨eT hd,λz z=>⟨l,depth+1,⟨rfl,IH,iW hd (cS _),cS _,⟨_,_,_,_,(f.2.2.2.2.1),(f.2.2.2.2.2.1),(f.2.2.2.2.2.2.1)⟩,aK⟩,λz z z h z=>⟨rfl,rfl,rfl,rfl,⟨rfl,rfl,rfl,rfl,rfl,trivial⟩,rfl,h,trivial⟩⟩⟩
theorem UH (wo:ah) (a b:Int) (hc:TP (.mark a b)):Tells wo (.mark a b):=jB [] λled depth news vv t mu hd aK bn=>by
 refine bn.elim λe f=> ?_
 refine ⟨eH,[⟨e.a 0,.inst 508 1 (e.a 1),false⟩,⟨e.a 1,.dict [(sO "tokens",e.a 2,.lit (.ref (e.a 11)))] 1,false⟩],.own 0 (e.a 0),fo fu,f.1,bw (f.2.1) (bw (f.2.2.1) (dY)),⟨trivial,trivial,trivial⟩,by kernel_rfl,by kernel_rfl,λtk=> ?_⟩
 refine @cD _ ((depth:Int)<=60/\ ∀(h h:Nat),au 9=au 9/\d4 (led++[]) (ae (e.a 11)) (de [de [au 11,au a],de [au 0,au b]])/\True) ?_ ?_
 ·kernel_rfl
 exact ⟨eT hd,λz z=>⟨rfl,.l (RD.tup (f.2.2.2.1) (dz.cons (pP (f.2.2.2.2.1)) (dz.cons (pP (f.2.2.2.2.2.1)) dz.nil))),trivial⟩⟩
theorem UI (wo:ah) (k c a b:Int) (l r:Bool) (hc:TP (.gP k c a b l r)):Tells wo (.gP k c a b l r):=jB [((364,72),none),((364,95),none)] λled depth news vv t mu hd aK bn=>by
 refine bn.elim λe f=> ?_
 refine f.2.2.2.1.elim λe2 gg=> ?_
 refine ⟨eH,[⟨e.a 0,.inst 360 1 (e.a 1),false⟩,⟨e.a 1,.dict [(sO "font",e.a 2,.own 2 (e.a 7)),(sO "code",e.a 3,.lit (.int c (e.a 12))),(sO "parts",e.a 4,.lit (.ref (e.a 11))),(sO "left",e.a 5,.lit (.bool l)),(sO "right",e.a 6,.lit (.bool r))] 5,false⟩,⟨e.a 7,.inst 896 3 (e2.a 0),false⟩,⟨e2.a 0,.part e2.es (e2.a 1) [(sO "number",.lit (.int k (e2.a 2)))],false⟩],.own 0 (e.a 0),fo fu,f.1,bw (f.2.1) (bw (f.2.2.1) (bw ((gg.1)) (bw ((gg.2.1)) (dY)))),⟨trivial,trivial,trivial,λy hy=>by rw [bN.mp hy];exact (gg.2.2),trivial⟩,by kernel_rfl,by kernel_rfl,λtk=> ?_⟩
 refine @cD _ ((depth:Int)<=60/\ ∀(h:Nat),(l=true->(r=true-> ∀(UJ:Nat),au 1=au 1/\au k=au k/\au c=au c/\d4 (led++[]) (ae (e.a 11)) (de [au a,au b])/\au (if l=true then 1 else 0)=au 1/\au (if r=true then 1 else 0)=au 1/\True)/\(r=false-> ∀(UJ:Nat),au 1=au 1/\au k=au k/\au c=au c/\d4 (led++[]) (ae (e.a 11)) (de [au a,au b])/\au (if l=true then 1 else 0)=au 1/\au (if r=true then 1 else 0)=au 0/\True))/\(l=false->(r=true-> ∀(Yj:Nat),au 1=au 1/\au k=au k/\au c=au c/\d4 (led++[]) (ae (e.a 11)) (de [au a,au b])/\au (if l=true then 1 else 0)=au 0/\au (if r=true then 1 else 0)=au 1/\True)/\(r=false-> ∀(h:Nat),au 1=au 1/\au k=au k/\au c=au c/\d4 (led++[]) (ae (e.a 11)) (de [au a,au b])/\au (if l=true then 1 else 0)=au 0/\au (if r=true then 1 else 0)=au 0/\True))) ?_ ?_
 ·kernel_rfl
 exact ⟨eT hd,λz=>⟨λh=>⟨λh2 z=>⟨rfl,rfl,rfl,.l (pP (f.2.2.2.2.1)),tS h,tS h2,trivial⟩,λh2 z=>⟨rfl,rfl,rfl,.l (pP (f.2.2.2.2.1)),tS h,tT h2,trivial⟩⟩,λh=>⟨λh2 z=>⟨rfl,rfl,rfl,.l (pP (f.2.2.2.2.1)),tT h,tS h2,trivial⟩,λh2 z=>⟨rfl,rfl,rfl,.l (pP (f.2.2.2.2.1)),tT h,tT h2,trivial⟩⟩⟩⟩
theorem UK (wo:ah) (w h d sp n st:Int) (v:Bool) (l:List Nd) (hc:TP (.unset w h d sp n st v l)) (IH:lH wo l):Tells wo (.unset w h d sp n st v l):=jB [((355,71),none)] λled depth news vv t mu hd aK bn=>by
 refine bn.elim λe f=> ?_
 refine f.2.2.2.2.2.2.1.elim λe2 gg=> ?_
 refine ⟨(pQ wo led news (18+8*ht (.unset w h d sp n st v l))),[⟨e.a 0,.inst 677 1 (e.a 1),false⟩,⟨e.a 1,.dict [(sO "width",e.a 2,.lit (.int w (e.a 9))),(sO "height",e.a 3,.lit (.int h (e.a 10))),(sO "depth",e.a 4,.lit (.int d (e.a 12))),(sO "items",e.a 5,.lit (.ref (e.a 11))),(sO "spans",e.a 6,.lit (.int sp (e.a 13))),(sO "totals",e.a 7,.own 2 (e.a 14)),(sO "is_vertical",e.a 8,.lit (.bool v))] 7,false⟩,⟨e.a 14,.inst 281 3 (e.a 15),false⟩,⟨e.a 15,.dict [(sO "natural",e2.a 0,.lit (.int n e2.u)),(sO "stretch",e2.a 1,.own 4 (e2.a 5)),(sO "shrink",e2.a 2,.own 5 (e2.a 6))] 3,false⟩,⟨e2.a 5,.lst [.lit (.int 0 (e2.a 7)),.lit (.int st (e2.a 8)),.lit (.int 0 (e2.a 9)),.lit (.int 0 (e2.a 10))] (e2.a 3),false⟩,⟨e2.a 6,.lst [.lit (.int 0 (e2.a 11)),.lit (.int 0 (e2.a 12)),.lit (.int 0 (e2.a 13)),.lit (.int 0 (e2.a 14))] (e2.a 4),false⟩],.own 0 (e.a 0),rx fu,f.1,bw (f.2.1) (bw (f.2.2.1) (bw ((gg.1)) (bw ((gg.2.1)) (bw ((gg.2.2.1)) (bw ((gg.2.2.2)) (dY)))))),⟨trivial,trivial,trivial,trivial,trivial,trivial,trivial⟩,by kernel_rfl,by kernel_rfl,λtk=> ?_⟩
 refine @cD _ ((depth:Int)<=60/\ ∀(qh Ek Em En:Nat),(v=true-> ∀(a a a a:Nat),∃(ds:List Nd),∃(UL:Nat),mK wo led news (18+8*ht (Nd.unset w h d sp n st v l)) (e.a 11) ((depth:Int)+1) ds UL/\ ∀(r:aa) (tl:List (ac×av)) (tk:Nat),d4 (led++tl) r (de (bS ds))-> ∀(a a:Nat),au 14=au 14/\au w=au w/\au h=au h/\au d=au d/\au sp=au sp/\au (if v=true then 1 else 0)=au 1/\au n=au n/\(au 0=au 0/\au st=au st/\au 0=au 0/\au 0=au 0/\True)/\(au 0=au 0/\au 0=au 0/\au 0=au 0/\au 0=au 0/\True)/\d4 (led++tl) r (de (bS l))/\True)/\(v=false-> ∀(UM UN UO UP:Nat),∃(b1:List Nd),∃(b2:Nat),mK wo led news (18+8*ht (Nd.unset w h d sp n st v l)) (e.a 11) ((depth:Int)+1) b1 b2/\ ∀(b3:aa) (b4:List (ac×av)) (b5:Nat),d4 (led++b4) b3 (de (bS b1))-> ∀(b7 b8:Nat),au 14=au 14/\au w=au w/\au h=au h/\au d=au d/\au sp=au sp/\au (if v=true then 1 else 0)=au 0/\au n=au n/\(au 0=au 0/\au st=au st/\au 0=au 0/\au 0=au 0/\True)/\(au 0=au 0/\au 0=au 0/\au 0=au 0/\au 0=au 0/\True)/\d4 (led++b4) b3 (de (bS l))/\True)) ?_ ?_
 ·kernel_rfl
 exact ⟨eT hd,λz z z z=>⟨λhv z z z z=>⟨l,depth+1,⟨rfl,IH,iW hd (cS _),cS _,⟨_,_,_,_,(f.2.2.2.1),(f.2.2.2.2.1),(f.2.2.2.2.2.1)⟩,aK⟩,λz z z h z z=>⟨rfl,rfl,rfl,rfl,rfl,tS hv,rfl,⟨rfl,rfl,rfl,rfl,trivial⟩,⟨rfl,rfl,rfl,rfl,trivial⟩,h,trivial⟩⟩,λhv z z z z=>⟨l,depth+1,⟨rfl,IH,iW hd (cS _),cS _,⟨_,_,_,_,(f.2.2.2.1),(f.2.2.2.2.1),(f.2.2.2.2.2.1)⟩,aK⟩,λz z z h z z=>⟨rfl,rfl,rfl,rfl,rfl,tT hv,rfl,⟨rfl,rfl,rfl,rfl,trivial⟩,⟨rfl,rfl,rfl,rfl,trivial⟩,h,trivial⟩⟩⟩⟩
theorem UQ (wo:ah) (b:Bool) (w:Int) (hc:TP (.math b w)):Tells wo (.math b w):=jB [((379,27),none)] λled depth news vv t mu hd aK bn=>by
 refine bn.elim λe f=> ?_
 refine ⟨eH,[⟨e.a 0,.inst 571 1 (e.a 1),false⟩,⟨e.a 1,.dict [(sO "is_on",e.a 2,.lit (.bool b)),(sO "width",e.a 3,.lit (.int w (e.a 12)))] 2,false⟩],.own 0 (e.a 0),fo fu,f.1,bw (f.2.1) (bw (f.2.2.1) (dY)),⟨trivial,trivial,trivial⟩,by kernel_rfl,by kernel_rfl,λtk=> ?_⟩
 refine @cD _ ((depth:Int)<=60/\ ∀(h:Nat),(b=true-> ∀(a:Nat),au 12=au 12/\au (if b=true then 1 else 0)=au 1/\au w=au w/\True)/\(b=false-> ∀(h:Nat),au 12=au 12/\au (if b=true then 1 else 0)=au 0/\au w=au w/\True)) ?_ ?_
 ·kernel_rfl
 exact ⟨eT hd,λz=>⟨λh z=>⟨rfl,tS h,rfl,trivial⟩,λh z=>⟨rfl,tT h,rfl,trivial⟩⟩⟩
theorem UR (wo:ah) (l:List Nd) (hc:TP (.eR l)) (IH:lH wo l):Tells wo (.eR l):=jB [] λled depth news vv t mu hd aK bn=>by
 refine bn.elim λe f=> ?_
 refine ⟨(pQ wo led news (18+8*ht (.eR l))),[⟨e.a 0,.inst 550 1 (e.a 1),false⟩,⟨e.a 1,.dict [(sO "items",e.a 2,.lit (.ref (e.a 11)))] 1,false⟩],.own 0 (e.a 0),rx fu,f.1,bw (f.2.1) (bw (f.2.2.1) (dY)),⟨trivial,trivial,trivial⟩,by kernel_rfl,by kernel_rfl,λtk=> ?_⟩
 refine @cD _ ((depth:Int)<=60/\ ∀(h:Nat),∃(b1:List Nd),∃(b2:Nat),mK wo led news (18+8*ht (Nd.eR l)) (e.a 11) ((depth:Int)+1) b1 b2/\ ∀(b3:aa) (b4:List (ac×av)) (b5:Nat),d4 (led++b4) b3 (de (bS b1))-> ∀(b7:Nat),au 11=au 11/\d4 (led++b4) b3 (de (bS l))/\True) ?_ ?_
 ·kernel_rfl
 exact ⟨eT hd,λz=>⟨l,depth+1,⟨rfl,IH,iW hd (cS _),cS _,⟨_,_,_,_,(f.2.2.2.1),(f.2.2.2.2.1),(f.2.2.2.2.2.1)⟩,aK⟩,λz z z h z=>⟨rfl,h,trivial⟩⟩⟩
theorem US (wo:ah) (g:Gl) (k:Int) (l:Nd) (hc:TP (.lead g k l)) (IH:Tells wo l):Tells wo (.lead g k l):=jB [] λled depth news vv t mu hd aK bn=>by
 refine bn.elim λe f=> ?_
 refine f.2.2.2.1.elim λe2 gg=> ?_
 refine ⟨(pQ wo led news (18+8*ht (.lead g k l))),[⟨e.a 0,.inst 445 1 (e.a 1),false⟩,⟨e.a 1,.dict [(sO "glue",e.a 2,.own 2 (e.a 13)),(sO "sort",e.a 3,.lit (.int k (e.a 12))),(sO "leader",e.a 4,.lit (.ref (e.a 5)))] 3,false⟩,⟨e.a 13,.inst 225 3 (e2.a 0),false⟩,⟨e2.a 0,.dict [(sO "width",e2.a 1,.lit (.int g.w (e2.a 6))),(sO "stretch",e2.a 2,.lit (.int g.st (e2.a 7))),(sO "stretch_order",e2.a 3,.lit (.int g.so (e2.a 8))),(sO "shrink",e2.a 4,.lit (.int g.sh (e2.a 9))),(sO "shrink_order",e2.a 5,.lit (.int g.s8 (e2.a 10)))] 5,false⟩],.own 0 (e.a 0),rx fu,f.1,bw (f.2.1) (bw (f.2.2.1) (bw ((gg.1)) (bw ((gg.2)) (dY)))),⟨trivial,trivial,trivial,trivial,trivial⟩,by kernel_rfl,by kernel_rfl,λtk=> ?_⟩
 refine @cD _ ((depth:Int)<=60/\ ∀(h h:Nat),∃(b1:Nd),∃(b2:Nat),HP wo led news (18+8*ht (Nd.lead g k l)) (e.a 5) ((depth:Int)+1) b1 b2/\ ∀(b3:aa) (b4:List (ac×av)) (b5:Nat),d4 (led++b4) b3 (desc b1)-> ∀(b7:Nat),au 6=au 6/\(au g.1=au g.1/\au g.2=au g.2/\au g.3=au g.3/\au g.4=au g.4/\au g.5=au g.5/\True)/\au k=au k/\d4 (led++b4) b3 (desc l)/\True) ?_ ?_
 ·kernel_rfl
 exact ⟨eT hd,λz z=>⟨l,depth+1,⟨rfl,IH,Cf hd,Cg,⟨_,f.2.2.2.2.1⟩,aK⟩,λz z z h z=>⟨rfl,⟨rfl,rfl,rfl,rfl,rfl,trivial⟩,rfl,h,trivial⟩⟩⟩
theorem UT (wo:ah) (w h d sh sg od r r2:Int) (l:List Nd) (hc:TP (.box 2 w h d sh sg od r r2 l)) (IH:lH wo l):Tells wo (.box 2 w h d sh sg od r r2 l):=jB [] λled depth news vv t mu hd aK bn=>by
 refine bn.elim λe f=> ?_
 refine ⟨(pQ wo led news (18+8*ht (.box 2 w h d sh sg od r r2 l))),[⟨e.a 0,.inst 381 1 (e.a 1),false⟩,⟨e.a 1,.dict [(sO "kind",e.a 2,.lit (.int 2 (e.a 16))),(sO "width",e.a 3,.lit (.int w (e.a 17))),(sO "height",e.a 4,.lit (.int h (e.a 18))),(sO "depth",e.a 5,.lit (.int d (e.a 19))),(sO "items",e.a 6,.lit (.ref (e.a 11))),(sO "shift",e.a 7,.lit (.int sh e.u)),(sO "sign",e.a 8,.lit (.int sg (e.a 20))),(sO "order",e.a 9,.lit (.int od (e.a 21))),(sO "ratio",e.a 10,.lit (.ref (e.a 12)))] 9,false⟩],.own 0 (e.a 0),rx fu,f.1,bw (f.2.1) (bw (f.2.2.1) (dY)),⟨trivial,trivial,trivial⟩,by kernel_rfl,by kernel_rfl,λtk=> ?_⟩
 refine @cD _ ((depth:Int)<=60/\ ∀(qh Ek Em En:Nat),∃(b1:List Nd),∃(b2:Nat),mK wo led news (18+8*ht (Nd.box 2 w h d sh sg od r r2 l)) (e.a 11) ((depth:Int)+1) b1 b2/\ ∀(b3:aa) (b4:List (ac×av)) (b5:Nat),d4 (led++b4) b3 (de (bS b1))-> ∀(b7 b8:Nat),au 2=au 2/\au w=au w/\au h=au h/\au d=au d/\au sh=au sh/\au sg=au sg/\au od=au od/\d4 (led++b4) (ae (e.a 12)) (de [au r,au r2])/\d4 (led++b4) b3 (de (bS l))/\True) ?_ ?_
 ·kernel_rfl
 exact ⟨eT hd,λz z z z=>⟨l,depth+1,⟨rfl,IH,iW hd (cS _),cS _,⟨_,_,_,_,(f.2.2.2.1),(f.2.2.2.2.1),(f.2.2.2.2.2.1)⟩,aK⟩,λz z z h z z=>⟨rfl,rfl,rfl,rfl,rfl,rfl,rfl,.l (pP (f.2.2.2.2.2.2.1)),h,trivial⟩⟩⟩
theorem UU (wo:ah) (w h d sh sg od r r2:Int) (l:List Nd) (hc:TP (.box 3 w h d sh sg od r r2 l)) (IH:lH wo l):Tells wo (.box 3 w h d sh sg od r r2 l):=jB [] λled depth news vv t mu hd aK bn=>by
 refine bn.elim λe f=> ?_
 refine ⟨(pQ wo led news (18+8*ht (.box 3 w h d sh sg od r r2 l))),[⟨e.a 0,.inst 381 1 (e.a 1),false⟩,⟨e.a 1,.dict [(sO "kind",e.a 2,.lit (.int 3 (e.a 16))),(sO "width",e.a 3,.lit (.int w (e.a 17))),(sO "height",e.a 4,.lit (.int h (e.a 18))),(sO "depth",e.a 5,.lit (.int d (e.a 19))),(sO "items",e.a 6,.lit (.ref (e.a 11))),(sO "shift",e.a 7,.lit (.int sh e.u)),(sO "sign",e.a 8,.lit (.int sg (e.a 20))),(sO "order",e.a 9,.lit (.int od (e.a 21))),(sO "ratio",e.a 10,.lit (.ref (e.a 12)))] 9,false⟩],.own 0 (e.a 0),rx fu,f.1,bw (f.2.1) (bw (f.2.2.1) (dY)),⟨trivial,trivial,trivial⟩,by kernel_rfl,by kernel_rfl,λtk=> ?_⟩
 refine @cD _ ((depth:Int)<=60/\ ∀(qh Ek Em En:Nat),∃(b1:List Nd),∃(b2:Nat),mK wo led news (18+8*ht (Nd.box 3 w h d sh sg od r r2 l)) (e.a 11) ((depth:Int)+1) b1 b2/\ ∀(b3:aa) (b4:List (ac×av)) (b5:Nat),d4 (led++b4) b3 (de (bS b1))-> ∀(b7 b8:Nat),au 3=au 3/\au w=au w/\au h=au h/\au d=au d/\au sh=au sh/\au sg=au sg/\au od=au od/\d4 (led++b4) (ae (e.a 12)) (de [au r,au r2])/\d4 (led++b4) b3 (de (bS l))/\True) ?_ ?_
 ·kernel_rfl
 exact ⟨eT hd,λz z z z=>⟨l,depth+1,⟨rfl,IH,iW hd (cS _),cS _,⟨_,_,_,_,(f.2.2.2.1),(f.2.2.2.2.1),(f.2.2.2.2.2.1)⟩,aK⟩,λz z z h z z=>⟨rfl,rfl,rfl,rfl,rfl,rfl,rfl,.l (pP (f.2.2.2.2.2.2.1)),h,trivial⟩⟩⟩
theorem UV (wo:ah) (k w h d sh sg od r r2:Int) (l:List Nd) (hc:TP (.box k w h d sh sg od r r2 l)) (IH:lH wo l):Tells wo (.box k w h d sh sg od r r2 l):=by
 rcases Cm hc.1 hc.2.1 with rfl|rfl
 ·exact UT wo w h d sh sg od r r2 l hc IH
 ·exact UU wo w h d sh sg od r r2 l hc IH
theorem UW (wo:ah) (v:Int) (hc:TP (.dk v)):Tells wo (.dk v):=jB [] λled depth news vv t mu hd aK bn=>by
 refine bn.elim λe f=> ?_
 refine ⟨eH,[⟨e.a 0,.inst 466 1 (e.a 1),false⟩,⟨e.a 1,.dict [(sO "value",e.a 2,.lit (.int v (e.a 12)))] 1,false⟩],.own 0 (e.a 0),fo fu,f.1,bw (f.2.1) (bw (f.2.2.1) (dY)),⟨trivial,trivial,trivial⟩,by kernel_rfl,by kernel_rfl,λtk=> ?_⟩
 refine @cD _ ((depth:Int)<=60/\ ∀(h h:Nat),au 7=au 7/\au v=au v/\True) ?_ ?_
 ·kernel_rfl
 exact ⟨eT hd,λz z=>⟨rfl,rfl,trivial⟩⟩
end
section
def oT:Option Int->Prop
 |none=>True
 |some i=>au i=au i/\True
theorem Eo:∀{w:Option Int},oT w
 |none=>trivial
 |some z=>⟨rfl,trivial⟩
def tG (wo:ah) (led:Led) (depth:Nat) (x dx:ac) (t t0 t1 t2 u0 u1 u2 tk:af) (w h d:Option Int):Prop:=jP (KK wo.params) [] (Ev.run (KK wo.params) eH [] 99) 6 (.ref 741) [.own 0 x,.lit (.int depth t)] ⟨[],rL x dx t0 t1 t2 u0 u1 u2 w h d,[],tk⟩ (λr st=>rr (led++st.oth) st.led 9 r (desc (.rule w h d)))
def tF (depth:Nat) (w h d:Option Int):Prop:=(depth:Int)<=60/\ ∀(qh Ek Em En Yk UM UN UO UP Yl Ym Yn Yo:Nat),au 4=au 4/\oT w/\oT h/\oT d/\True
theorem UX (wo:ah) (led:Led) (depth:Nat) (x dx:ac) (t t0 t1 t2 u0 u1 u2 tk:af) (w h d:Option Int):tG wo led depth x dx t t0 t1 t2 u0 u1 u2 tk w h d=tF depth w h d:=by
 rcases w with z|w<;>rcases h with z|h<;>rcases d with z|d<;>kernel_rfl
theorem UY (wo:ah) (w h d:Option Int) (hc:TP (.rule w h d)):Tells wo (.rule w h d):=jB [] λled depth news vv t mu hd aK bn=>by
 obtain ⟨⟨q,z,z,z,z,z,z,z,z,z,z,z,z,z,wv,hv,dv,z⟩,f⟩:=bn
 obtain ⟨u0,e0⟩:=tN f.2.2.2.1
 obtain ⟨u1,e1⟩:=tN f.2.2.2.2.1
 obtain ⟨u2,e2⟩:=tN f.2.2.2.2.2.1
 subst e0 e1 e2
 refine ⟨eH,rL (q 0) (q 1) (q 2) (q 3) (q 4) u0 u1 u2 w h d,.own 0 (q 0),fo fu,f.1,bw f.2.1 (bw f.2.2.1 (dY)),⟨trivial,trivial,trivial⟩,by kernel_rfl,by kernel_rfl,λtk=> ?_⟩
 exact @cD (tG wo led depth (q 0) (q 1) t (q 2) (q 3) (q 4) u0 u1 u2 tk w h d) (tF depth w h d) (UX ..) ⟨eT hd,λy y y y y y y y y y y y y=>⟨rfl,Eo,Eo,Eo,trivial⟩⟩
end
section
mutual
theorem Ep (w:ah):∀d:Nd,CP d->gc w d
 | .char k c,h=>Uk w k c h
 | .gP k c a b l r,h=>Up w k c a b l r h
 | .rule a b c,h=>UB w a b c h
 | .fy a b,h=>Ul w a b h
 | .skip g k,h=>Uy w g k h
 | .lead g k l,h=>by
  have hl:=h.2.2.1
  have eb:=h.2.2.2
  have IH:=Ep w l eb
  rcases hl with⟨a,b,c,rfl⟩|⟨k',a,b,c,sh,sg,od,r,r2,i,rfl⟩
  ·exact Uw w g k a b c h IH
  ·exact Ux w g k k' a b c sh sg od r r2 i h IH
 | .dk v,h=>Um w v h
 | .dX la lb lc,h=>by
  obtain ⟨⟨k1,c1,e1,a1,a2⟩,⟨w2,s2,e2,a3,a4,a5,a6⟩,⟨k3,c3,w3,s3,e3,a7,a8,a9,UZ⟩⟩:=id h
  have q1:gD la:=e1▸dF (dF a1 a2) trivial
  have q2:gD lb:=e2▸dF (dF a3 (dF a4 (dF a5 a6))) trivial
  have q3:gD lc:=e3▸dF a7 (dF (dF a8.1 (dF a8.2 (dF a9 UZ))) trivial)
  exact Uv w la lb lc h (by rw [e1];exact H0) (by rw [e2];exact H3) (by rw [e3];exact H4) (rJ w la (by rw [e1];exact dB rfl) (oO w la q1)) (rJ w lb (by rw [e2];exact dB rfl) (oO w lb q2)) (rJ w lc (by rw [e3];exact dB rfl) (oO w lc q3))
 | .mark a b,h=>Uo w a b h
 | .ins k sz d g c l,h=>by
  have hl:=h.2.2.2.2.2.2.2.2.1
  have hc:=h.2.2.2.2.2.2.2.2.2
  exact Us w k sz d g c l h (rJ w l hl (oO w l hc))
 | .eR l,h=>by
  exact Ur w l h (rJ w l h.1 (oO w l h.2))
 | .math b i,h=>Un w b i h
 | .spec a b,h=>Uz w a b h
 | .unset a b c sp n st v l,h=>by
  have hl:=h.2.2.2.2.2.2.2.2.1
  have hc:=h.2.2.2.2.2.2.2.2.2
  exact Ut w a b c sp n st v l h (rJ w l hl (oO w l hc))
 | .box k a b c sh sg od r r2 l,h=>by
  have hl:=h.2.2.2.2.2.2.2.2.1
  have hc:=h.2.2.2.2.2.2.2.2.2
  exact Uq w k a b c sh sg od r r2 l h (rJ w l hl (oO w l hc))
theorem oO (w:ah):∀ds:List Nd,gD ds-> ∀d∈ds,gc w d
 |[],z=>λy h=>nomatch h
 |d::r,h=>by
  intro e he
  have h1:=Ep w d h.1
  have h2:=oO w r h.2
  rcases bj.mp he with he|he
  ·rw [he];exact h1
  ·exact h2 e he
end
mutual
theorem Er (w:ah):∀d:Nd,TP d->Tells w d
 | .char k c,h=>UC w k c h
 | .gP k c a b l r,h=>UI w k c a b l r h
 | .rule a b c,h=>UY w a b c h
 | .fy a b,h=>UF w a b h
 | .skip g k,h=>UD w g k h
 | .lead g k l,h=>by
  exact US w g k l h (Er w l h)
 | .dk v,h=>UW w v h
 | .dX la lb lc,h=>by
  obtain ⟨l1,l2,l3,q1,q2,q3⟩:=id h
  exact UE w la lb lc h (rK w la l1 (oP w la q1)) (rK w lb l2 (oP w lb q2)) (rK w lc l3 (oP w lc q3))
 | .mark a b,h=>UH w a b h
 | .ins k sz d g c l,h=>by
  exact UG w k sz d g c l h (rK w l h.1 (oP w l h.2))
 | .eR l,h=>by
  exact UR w l h (rK w l h.1 (oP w l h.2))
 | .math b i,h=>UQ w b i h
 | .spec a b,h=>Uj w a b h
 | .unset a b c sp n st v l,h=>by
  exact UK w a b c sp n st v l h (rK w l h.1 (oP w l h.2))
 | .box k a b c sh sg od r r2 l,h=>by
  exact UV w k a b c sh sg od r r2 l h (rK w l h.2.2.1 (oP w l h.2.2.2))
theorem oP (w:ah):∀ds:List Nd,iH ds-> ∀d∈ds,Tells w d
 |[],z=>λy h=>nomatch h
 |d::r,h=>by
  intro e he
  have h1:=Er w d h.1
  have h2:=oP w r h.2
  rcases bj.mp he with he|he
  ·rw [he];exact h1
  ·exact h2 e he
end
theorem U0 (w:ah) (d:Nd) (h:CP d):Tells w d:=Er w d (Ci d h)
end
section
theorem cX {ns:List Nat} {s:Nat} {r:List Nat} {P:List Nat->Prop} (h:dm ns (s::r)) (k:∀a t,a<s->dm t r->P (a::t)):P ns:=by
 cases ns with
 |nil=>exact h.elim
 |cons a t=>exact k a t h.1 h.2
theorem jW {ns:List Nat} {P:List Nat->Prop} (h:dm ns []) (k:P []):P ns:=by
 cases ns with
 |nil=>exact k
 |cons a t=>exact h.elim
theorem U1:∀f,f<6->((0<=iT f/\iT f<=5)\/(100<=iT f/\iT f<=199))/\ ¬(1<=iT f/\iT f<=3):=by decide
theorem Es:∀n,n<4-> ∀i∈sz n,-1073741823<=i/\i<=1073741823:=by decide
theorem gL:∀n:Nat,n<12-> -1073741823<=(n:Int)/\(n:Int)<=1073741823:=by decide
theorem Ln:∀n:Nat,n<12-> -1073741823<=(n:Int) -6/\(n:Int) -6<=1073741823:=by decide
theorem U4:∀n:Nat,n<12-> -2147483647<=(n:Int) -6/\(n:Int) -6<=2147483647:=by decide
theorem Lo:∀n:Nat,n<12-> -2147483647<=(n:Int) -5/\(n:Int) -5<=2147483647:=by decide
theorem Lp:∀n:Nat,n<12->(0:Int)<=(n:Int)/\(n:Int)<=254:=by decide
theorem U5:∀n:Nat,n<12->(0:Int)<=(n:Int)/\(n:Int)<=255:=by decide
theorem wY:∀n:Nat,n<12->(0:Int)<=97+(n:Int)/\97+(n:Int)<=255:=by decide
theorem Lq:∀n:Nat,n<2->(2:Int)<=2+(n:Int)/\2+(n:Int)<=3:=by decide
theorem Lr:∀n:Nat,n<4->(0:Int)<=(n:Int)/\(n:Int)<=3:=by decide
theorem zN:∀n:Nat,n<3->(1:Int)<=1+(n:Int)/\1+(n:Int)<=3:=by decide
theorem Ls:∀n:Nat,n<4->(1:Int)<=1+(n:Int)/\1+(n:Int)<=2147483647:=by decide
theorem U7:∀n:Nat,n<12->CP (.rule (some (n:Int)) none (some 2)):=λn h=>⟨λi hi=>by cases hi;exact gL n h,λi hi=>(nomatch hi),λi hi=>by cases hi;decide⟩
theorem U9:∀n:Nat,n<12->CP (.box 2 n 3 1 n 0 0 0 1 []):=λn h=>⟨by decide,by decide,(gL n h).1,(gL n h).2,by decide,by decide,by decide,by decide,by decide,trivial⟩
theorem Va:∀k:Nat,k<15->k=0\/k=1\/k=2\/k=3\/k=4\/k=5\/k=6\/k=7\/k=8\/k=9\/k=10\/k=11\/k=12\/k=13\/k=14:=by decide
mutual
noncomputable def L9:Nd->Prop
 | .lead z y l=>L9 l
 | .ins z y q j u l=>l.length<=99/\kz l
 | .eR l=>l.length<=99/\kz l
 | .unset z y q j u g c l=>l.length<=99/\kz l
 | .box z y q j u g c r p l=>l.length<=99/\kz l
 |_=>True
noncomputable def kz:List Nd->Prop
 |[]=>True
 |d::r=>L9 d/\kz r
end
def CG (t:Tr):Prop:=CP (nd t)/\ht (nd t)<=hg t+1/\L9 (nd t)
theorem Vb {l:List Tr} (hl:(bO l).length<=100) (hc:gD (bO l)) (se:bR (bO l)<=cA l+1) (hq:(bO l).length<=99) (h9:kz (bO l)) {ns:List Nat} (hB:dm ns [2,12,12,12,12,3,4,12]):CG (.mk 0 ns l):=by
 refine cX (P:=λt=>CG (.mk 0 (t) l)) hB λa z ha hB=> ?_
 refine cX (P:=λt=>CG (.mk 0 (a::t) l)) hB λb z hb hB=> ?_
 refine cX (P:=λt=>CG (.mk 0 (a::b::t) l)) hB λc z er hB=> ?_
 refine cX (P:=λt=>CG (.mk 0 (a::b::c::t) l)) hB λd z hd hB=> ?_
 refine cX (P:=λt=>CG (.mk 0 (a::b::c::d::t) l)) hB λe z he hB=> ?_
 refine cX (P:=λt=>CG (.mk 0 (a::b::c::d::e::t) l)) hB λf z hf hB=> ?_
 refine cX (P:=λt=>CG (.mk 0 (a::b::c::d::e::f::t) l)) hB λg z hg hB=> ?_
 refine cX (P:=λt=>CG (.mk 0 (a::b::c::d::e::f::g::t) l)) hB λi z hi hB=> ?_
 refine jW (P:=λt=>CG (.mk 0 (a::b::c::d::e::f::g::i::t) l)) hB ?_
 exact ⟨⟨(Lq a ha).1,(Lq a ha).2,(gL b hb).1,(gL b hb).2,(gL c er).1,(gL c er).2,(gL d hd).1,(gL d hd).2,hl,hc⟩,se,⟨hq,h9⟩⟩
theorem Vc {l:List Tr} {ns:List Nat} (hB:dm ns [2,12]):CG (.mk 1 ns l):=by
 refine cX (P:=λt=>CG (.mk 1 (t) l)) hB λa z ha hB=> ?_
 refine cX (P:=λt=>CG (.mk 1 (a::t) l)) hB λb z hb hB=> ?_
 refine jW (P:=λt=>CG (.mk 1 (a::b::t) l)) hB ?_
 exact ⟨wY b hb,da _,trivial⟩
theorem Vd {l:List Tr} {ns:List Nat} (hB:dm ns [2,12,12,2,2]):CG (.mk 2 ns l):=by
 refine cX (P:=λt=>CG (.mk 2 (t) l)) hB λa z ha hB=> ?_
 refine cX (P:=λt=>CG (.mk 2 (a::t) l)) hB λb z hb hB=> ?_
 refine cX (P:=λt=>CG (.mk 2 (a::b::t) l)) hB λc z hc hB=> ?_
 refine cX (P:=λt=>CG (.mk 2 (a::b::c::t) l)) hB λd z hd hB=> ?_
 refine cX (P:=λt=>CG (.mk 2 (a::b::c::d::t) l)) hB λe z he hB=> ?_
 refine jW (P:=λt=>CG (.mk 2 (a::b::c::d::e::t) l)) hB ?_
 exact ⟨⟨(wY b hb).1,(wY b hb).2,by decide,by decide,(wY c hc).1,(wY c hc).2⟩,da _,trivial⟩
theorem Ve {l:List Tr} {ns:List Nat} (hB:dm ns [4,4,4]):CG (.mk 3 ns l):=by
 refine cX (P:=λt=>CG (.mk 3 (t) l)) hB λa z ha hB=> ?_
 refine cX (P:=λt=>CG (.mk 3 (a::t) l)) hB λb z hb hB=> ?_
 refine cX (P:=λt=>CG (.mk 3 (a::b::t) l)) hB λc z er hB=> ?_
 refine jW (P:=λt=>CG (.mk 3 (a::b::c::t) l)) hB ?_
 exact ⟨⟨Es a ha,Es b hb,Es c er⟩,da _,trivial⟩
theorem Vf {l:List Tr} {ns:List Nat} (hB:dm ns [12,4]):CG (.mk 4 ns l):=by
 refine cX (P:=λt=>CG (.mk 4 (t) l)) hB λa z ha hB=> ?_
 refine cX (P:=λt=>CG (.mk 4 (a::t) l)) hB λb z hb hB=> ?_
 refine jW (P:=λt=>CG (.mk 4 (a::b::t) l)) hB ?_
 exact ⟨⟨(Ln a ha).1,(Ln a ha).2,(Lr b hb).1,(Lr b hb).2⟩,da _,trivial⟩
theorem Vg {l:List Tr} {ns:List Nat} (hB:dm ns [12,12,4,12,4,6]):CG (.mk 5 ns l):=by
 refine cX (P:=λt=>CG (.mk 5 (t) l)) hB λa z ha hB=> ?_
 refine cX (P:=λt=>CG (.mk 5 (a::t) l)) hB λb z hb hB=> ?_
 refine cX (P:=λt=>CG (.mk 5 (a::b::t) l)) hB λc z hc hB=> ?_
 refine cX (P:=λt=>CG (.mk 5 (a::b::c::t) l)) hB λd z hd hB=> ?_
 refine cX (P:=λt=>CG (.mk 5 (a::b::c::d::t) l)) hB λe z he hB=> ?_
 refine cX (P:=λt=>CG (.mk 5 (a::b::c::d::e::t) l)) hB λf z hf hB=> ?_
 refine jW (P:=λt=>CG (.mk 5 (a::b::c::d::e::f::t) l)) hB ?_
 exact ⟨U1 f hf,da _,trivial⟩
theorem Vh {l:List Tr} {ns:List Nat} (hB:dm ns [12,3,2,12]):CG (.mk 6 ns l):=by
 refine cX (P:=λt=>CG (.mk 6 (t) l)) hB λa z ha hB=> ?_
 refine cX (P:=λt=>CG (.mk 6 (a::t) l)) hB λb z hb hB=> ?_
 refine cX (P:=λt=>CG (.mk 6 (a::b::t) l)) hB λc z hc hB=> ?_
 refine cX (P:=λt=>CG (.mk 6 (a::b::c::t) l)) hB λd z hd hB=> ?_
 refine jW (P:=λt=>CG (.mk 6 (a::b::c::d::t) l)) hB ?_
 by_cases h0:c=0
 ·subst h0
  exact ⟨⟨(zN b hb).1,(zN b hb).2,.inl ⟨_,_,_,rfl⟩,U7 d hd⟩,lz 1 _,trivial⟩
 ·have e:nd (.mk 6 [a,b,c,d] l)= .lead ⟨a,0,0,0,0⟩ (1+b) (.box 2 d 3 1 d 0 0 0 1 []):=by
   show Nd.lead _ _ (if c=0 then _ else _)=_
   rw [d7 h0]
  unfold CG
  rw [e]
  exact ⟨⟨(zN b hb).1,(zN b hb).2,.inr ⟨_,_,_,_,_,_,_,_,_,_,rfl⟩,U9 d hd⟩,lz 1 _,da _,trivial⟩
theorem Vi {l:List Tr} {ns:List Nat} (hB:dm ns [12]):CG (.mk 7 ns l):=by
 refine cX (P:=λt=>CG (.mk 7 (t) l)) hB λa z ha hB=> ?_
 refine jW (P:=λt=>CG (.mk 7 (a::t) l)) hB ?_
 exact ⟨U4 a ha,da _,trivial⟩
theorem Vj {l:List Tr} {ns:List Nat} (hB:dm ns [12,12,12]):CG (.mk 8 ns l):=by
 refine cX (P:=λt=>CG (.mk 8 (t) l)) hB λa z ha hB=> ?_
 refine cX (P:=λt=>CG (.mk 8 (a::t) l)) hB λb z hb hB=> ?_
 refine cX (P:=λt=>CG (.mk 8 (a::b::t) l)) hB λc z hc hB=> ?_
 refine jW (P:=λt=>CG (.mk 8 (a::b::c::t) l)) hB ?_
 exact ⟨⟨⟨_,_,rfl,U5 a ha⟩,⟨_,_,rfl,(gL b hb).1,(gL b hb).2,by decide,by decide⟩,⟨_,_,_,_,rfl,⟨by decide,by decide⟩,gL c hc,by decide,by decide⟩⟩,lz 1 _,trivial⟩
theorem Vk {l:List Tr} {ns:List Nat} (hB:dm ns [12,12]):CG (.mk 9 ns l):=by
 refine cX (P:=λt=>CG (.mk 9 (t) l)) hB λa z ha hB=> ?_
 refine cX (P:=λt=>CG (.mk 9 (a::t) l)) hB λb z hb hB=> ?_
 refine jW (P:=λt=>CG (.mk 9 (a::b::t) l)) hB ?_
 exact ⟨trivial,da _,trivial⟩
theorem Vl {l:List Tr} (hl:(bO l).length<=100) (hc:gD (bO l)) (se:bR (bO l)<=cA l+1) (hq:(bO l).length<=99) (h9:kz (bO l)) {ns:List Nat} (hB:dm ns [12,12,12,12,12]):CG (.mk 10 ns l):=by
 refine cX (P:=λt=>CG (.mk 10 (t) l)) hB λa z ha hB=> ?_
 refine cX (P:=λt=>CG (.mk 10 (a::t) l)) hB λb z hb hB=> ?_
 refine cX (P:=λt=>CG (.mk 10 (a::b::t) l)) hB λc z er hB=> ?_
 refine cX (P:=λt=>CG (.mk 10 (a::b::c::t) l)) hB λd z hd hB=> ?_
 refine cX (P:=λt=>CG (.mk 10 (a::b::c::d::t) l)) hB λe z he hB=> ?_
 refine jW (P:=λt=>CG (.mk 10 (a::b::c::d::e::t) l)) hB ?_
 exact ⟨⟨(Lp a ha).1,(Lp a ha).2,(gL b hb).1,(gL b hb).2,(gL c er).1,(gL c er).2,(Lo e he).1,(Lo e he).2,hl,hc⟩,se,⟨hq,h9⟩⟩
theorem Vm {l:List Tr} (hl:(bO l).length<=100) (hc:gD (bO l)) (se:bR (bO l)<=cA l+1) (hq:(bO l).length<=99) (h9:kz (bO l)) {ns:List Nat}:CG (.mk 11 ns l):=⟨⟨hl,hc⟩,se,hq,h9⟩
theorem Vn {l:List Tr} {ns:List Nat} (hB:dm ns [2,12]):CG (.mk 12 ns l):=by
 refine cX (P:=λt=>CG (.mk 12 (t) l)) hB λa z ha hB=> ?_
 refine cX (P:=λt=>CG (.mk 12 (a::t) l)) hB λb z hb hB=> ?_
 refine jW (P:=λt=>CG (.mk 12 (a::b::t) l)) hB ?_
 exact ⟨gL b hb,da _,trivial⟩
theorem Vo {l:List Tr} {ns:List Nat} (hB:dm ns [12,12]):CG (.mk 13 ns l):=by
 refine cX (P:=λt=>CG (.mk 13 (t) l)) hB λa z ha hB=> ?_
 refine cX (P:=λt=>CG (.mk 13 (a::t) l)) hB λb z hb hB=> ?_
 refine jW (P:=λt=>CG (.mk 13 (a::b::t) l)) hB ?_
 exact ⟨trivial,da _,trivial⟩
theorem Vp {l:List Tr} (hl:(bO l).length<=100) (hc:gD (bO l)) (se:bR (bO l)<=cA l+1) (hq:(bO l).length<=99) (h9:kz (bO l)) {ns:List Nat} (hB:dm ns [12,12,12,4,12,12,2]):CG (.mk 14 ns l):=by
 refine cX (P:=λt=>CG (.mk 14 (t) l)) hB λa z ha hB=> ?_
 refine cX (P:=λt=>CG (.mk 14 (a::t) l)) hB λb z hb hB=> ?_
 refine cX (P:=λt=>CG (.mk 14 (a::b::t) l)) hB λc z er hB=> ?_
 refine cX (P:=λt=>CG (.mk 14 (a::b::c::t) l)) hB λd z hd hB=> ?_
 refine cX (P:=λt=>CG (.mk 14 (a::b::c::d::t) l)) hB λe z he hB=> ?_
 refine cX (P:=λt=>CG (.mk 14 (a::b::c::d::e::t) l)) hB λf z hf hB=> ?_
 refine cX (P:=λt=>CG (.mk 14 (a::b::c::d::e::f::t) l)) hB λg z hg hB=> ?_
 refine jW (P:=λt=>CG (.mk 14 (a::b::c::d::e::f::g::t) l)) hB ?_
 exact ⟨⟨(gL a ha).1,(gL a ha).2,(gL b hb).1,(gL b hb).2,(gL c er).1,(gL c er).2,(Ls d hd).1,(Ls d hd).2,hl,hc⟩,se,⟨hq,h9⟩⟩
mutual
theorem Vq:∀t:Tr,WF t->CG t
 | .mk k ns l,h=>by
  have hs:=wZ l h.2.2.2.2
  have hq:(bO l).length<=99:=by rw [pM];exact aI h.2.2.2.1 (by decide)
  have hl:(bO l).length<=100:=by rw [pM];exact aI h.2.2.2.1 (by decide)
  have hB:dm ns (bz k):=h.2.1
  have hk:=Va k h.1
  clear h
  rcases hk with rfl|rfl|rfl|rfl|rfl|rfl|rfl|rfl|rfl|rfl|rfl|rfl|rfl|rfl|rfl
  ·exact Vb hl hs.1 hs.2.1 hq hs.2.2 hB
  ·exact Vc hB
  ·exact Vd hB
  ·exact Ve hB
  ·exact Vf hB
  ·exact Vg hB
  ·exact Vh hB
  ·exact Vi hB
  ·exact Vj hB
  ·exact Vk hB
  ·exact Vl hl hs.1 hs.2.1 hq hs.2.2 hB
  ·exact Vm hl hs.1 hs.2.1 hq hs.2.2
  ·exact Vn hB
  ·exact Vo hB
  ·exact Vp hl hs.1 hs.2.1 hq hs.2.2 hB
theorem wZ:∀ts:List Tr,dK ts->gD (bO ts)/\bR (bO ts)<=cA ts+1/\kz (bO ts)
 |[],z=>⟨trivial,da _,trivial⟩
 |t::r,h=>
  have h1:=Vq t h.1
  have h2:=wZ r h.2
  ⟨⟨h1.1,h2.1⟩,jZ.mpr ⟨aI (dS h1.2.1) (dS (jJ (hg t+1) (cA r))),aI h2.2.1 (dS (ix (hg t+1) (cA r)))⟩,h1.2.2,h2.2.2⟩
end
theorem w0 (ts:List Tr) (h:dK ts):gD (bO ts)/\bR (bO ts)<=cA ts+1:=⟨(wZ ts h).1,(wZ ts h).2.1⟩
theorem Vr (ts:List Tr) (h:dK ts):kz (bO ts):=(wZ ts h).2.2
end
section
theorem Lu:∀{l r:List Nd},iH l->iH r->iH (l++r)
 |[],z,y,h=>h
 |z::y,q,h,g=>⟨h.1,Lu h.2 g⟩
theorem Lv:∀{l r:List Nd},bR (l++r)=max (bR l) (bR r)
 |[],r=>(Nat.zero_max _).symm
 |d::l,r=>by
  show max (ht d+1) (bR (l++r))=max (max (ht d+1) (bR l)) (bR r)
  rw [Lv,Nat.max_assoc]
theorem Et:∀{l:List Nd},(eB l).length=l.length
 |[]=>rfl
 |z::r=>bW (· +1) (Et (l:=r))
theorem w4 {l:List Nd} (h:iH (eB l)):iH (eB l++[Nd.dk 1]):=Lu h ⟨trivial,trivial⟩
theorem w5 {l:List Nd} (h:l.length<=99):(eB l++[Nd.dk 1]).length<=100:=by
 rw [ib,Et]
 exact dS h
mutual
theorem Lw:∀d:Nd,TP d->L9 d->TP (iX d)
 | .lead z y l,h,g=>Lw l h g
 | .dX z y q,j,u=>⟨da _,da _,da _,trivial,trivial,trivial⟩
 | .ins z y q j u l,h,g=>⟨w5 g.1,w4 (uF l h.2 g.2)⟩
 | .eR l,h,g=>⟨w5 g.1,w4 (uF l h.2 g.2)⟩
 | .unset z y q j u c r l,h,g=>⟨w5 g.1,w4 (uF l h.2 g.2)⟩
 | .box z y q j u c r p w l,h,g=>⟨h.1,h.2.1,w5 g.1,w4 (uF l h.2.2.2 g.2)⟩
 | .char _ _,h,_| .gP _ _ _ _ _ _,h,_| .rule _ _ _,h,_| .fy _ _,h,_| .skip _ _,h,_| .dk _,h,_| .mark _ _,h,_| .math _ _,h,_| .spec z y,h,q=>h
theorem uF:∀ds:List Nd,iH ds->kz ds->iH (eB ds)
 |[],h,z=>h
 |d::r,h,g=>⟨Lw d h.1 g.1,uF r h.2 g.2⟩
end
theorem uG {l:List Nd} (h:bR (eB l)<=bR l+1):bR (eB l++[Nd.dk 1])<=bR l+1:=by
 rw [Lv]
 exact jZ.mpr ⟨h,dS (da _)⟩
mutual
theorem Lx:∀d:Nd,ht (iX d)<=ht d+1
 | .lead z y l=>dS (Lx l)
 | .dX z y q=>da _
 | .ins z y q j u l=>uG (sf l)
 | .eR l=>uG (sf l)
 | .unset z y q j u g c l=>uG (sf l)
 | .box z y q j u g c r p l=>uG (sf l)
 | .char _ _| .gP _ _ _ _ _ _| .rule _ _ _| .fy _ _| .skip _ _| .dk _| .mark _ _| .math _ _| .spec z y=>da _
theorem sf:∀ds:List Nd,bR (eB ds)<=bR ds+1
 |[]=>da _
 |d::r=>jZ.mpr ⟨aI (dS (Lx d)) (dS (jJ _ _)),aI (sf r) (dS (ix _ _))⟩
end
theorem Vs {ds:List Nd}:ec (.tuple (bS (eB ds++[Nd.dk 1]))) (.tuple (bS ds))=false:=by
 refine Bool.eq_false_iff.mpr λh=> ?_
 have e:=bW aN (wy.mp h)
 rw [C0,C0,ib,Et] at e
 exact Aq _ e
end
section
noncomputable def Ly {δ:Type} (NN:Led) (S:Led->δ->List aa->Prop) (Q:Led->δ->Led->aa->Prop):Spec:=λvs st k=>∃d,S (st.oth++NN) d (vals vs)/\ ∀r tl tk,cH st.oth tl->Q (st.oth++NN) d tl r->k (.ag r) {st with oth:=st.oth++tl,tk:=tk}
theorem Vt {δ:Type} {wo:ah} {NN:Led} {S:Led->δ->List aa->Prop} {Q:Led->δ->Led->aa->Prop} {D f:Nat} (h:∀led d vs,S led d vs-> ∃cc Pre cM,Sp wo f cc Pre cM/\cc<=D/\(∀al,(∀p∈led,p∈al)->Pre al vs)/\ ∀al tl r,cM al tl r->Q led d tl r):eG wo NN D f (Ly NN S Q):=rn (mk:=.ag) (λy=>rfl) (λy y=>trivial) λvs st k al z h2 h3 ⟨d,h1,hk⟩=>
 (h _ d _ h1).elim λcc h=>h.elim λPre h=>h.elim λcM h=>⟨cc,Pre,cM,h.1,h.2.1,h.2.2.1 al (λp hp=>(aM.mp hp).elim (h2 p) (h3 p)),λr tl tk hd hp=>hk r tl tk hd (h.2.2.2 al tl r hp)⟩
structure jH (P:aB) (L:Led) (ds:List Nd) (vs:List aa):Prop where
 n:∃q mu,vs=[.ref q]/\cO P L ds q mu
 l:ds.length<=100
 h:bR ds<=61
 t:iH ds
structure zO (P:aB) (L:Led) (ds:List Nd) (vs:List aa):Prop extends jH P L ds vs where
 c:gD ds
structure lX (L:Led) (ds:List Nd) (tl:Led) (a:ac):Prop where
 r:RD (L++tl) (.ref a) (.tuple (bS ds))
structure w6 (P:aB) (L:Led) (ds:List Nd) (tl:Led) (a:ac):Prop where
 r:∃mu,cO P (L++tl) ds a mu/\(∀x∈mu,x∈tl.map (·.1))/\mu.Nodup
noncomputable def Eu {δ:Type} (NN:Led) (S:Led->δ->List aa->Prop) (Q:Led->δ->Led->ac->Prop):Spec:=λvs st k=>∃d,S (st.oth++NN) d (vals vs)/\ ∀a tl tk,cH (st.oth++NN) tl->Q (st.oth++NN) d tl a->k (.lit (.ref a)) {st with oth:=st.oth++tl,tk:=tk}
theorem Lz {δ:Type} {wo:ah} {NN:Led} {S:Led->δ->List aa->Prop} {Q:Led->δ->Led->ac->Prop} {D f:Nat} (h:∀led d vs,S led d vs-> ∃cc Pre cM,Sp wo f cc Pre cM/\cc<=D/\(∀al,(∀p∈led,p∈al)->Pre al vs)/\ ∀al tl r,cM al tl r-> ∃a,r= .ref a/\Q led d tl a):eG wo NN D f (Eu NN S Q):=Hx (mk:=.lit) (λy=>rfl) (λy y=>trivial) λvs st k al z h2 h3 ⟨d,h1,hk⟩=>
 (h _ d _ h1).elim λcc h=>h.elim λPre h=>h.elim λcM h=>⟨cc,Pre,cM,h.1,h.2.1,h.2.2.1 al (λp hp=>(aM.mp hp).elim (h2 p) (h3 p)),λr tl tk hd hp=>(h.2.2.2 al tl r hp).elim λa hq=>hq.1▸hk a tl tk (λx hx=>hd x ((aM.mp hx).elim (h2 x) (h3 x))) hq.2⟩
noncomputable def LA (P:aB) (NN:Led):Spec:=Eu NN (jH P) lX
theorem Vu {w:ah} {NN:Led} {D:Nat} (h:506<=D):eG w NN D 747 (LA w.params NN):=Lz λled ds vs a=>⟨_,_,_,Rk w ds a.l (oP w _ a.t) led (by rw [ma];exact a.h),aI (jq (ly 8 a.h) 18) h,λal hs=>⟨hs,a.n⟩,λal tl r q=>q.2.elim λx e=>⟨x,e,⟨e▸q.1⟩⟩⟩
noncomputable def LC (w:ah) (NN:Led):Spec:=Eu NN (zO w.params) (w6 w.params)
theorem Vv {w:ah} {NN:Led} {D:Nat} (h:506<=D):eG w NN D 723 (LC w NN):=Lz λled ds vs a=>⟨_,_,_,Rj w ds a.l (oO w ds a.c) led (by rw [ma];exact a.h),aI (jq (ly 8 a.h) 18) h,λal hs=>⟨hs,a.n⟩,λal tl r ⟨q,mu,e,x⟩=>⟨q,e,⟨mu,x⟩⟩⟩
structure Ew (P:aB) (L:Led) (t:Tr) (vs:List aa):Prop where
 n:∃v fq,vs=[v,.ref fq]/\TR L t v/\lL P L fq
 w:WF t
 h:hg t<=20
noncomputable def LD (w:ah) (NN:Led):Spec:=Ly NN (Ew w.params) λL t tl r=>bV w L (nd t) [] tl r
theorem Vw {w:ah} {NN:Led} {D:Nat} (h:506<=D):eG w NN D 969 (LD w NN):=Vt λled t vs a=>by
 obtain ⟨v,fq,e,h1,h2⟩:=a.n
 exact ⟨_,_,_,Ee w [t] ⟨a.w,trivial⟩ t (.head _) led fq,aI (jq (ly 16 a.h) 40) (aI (by decide) h),λal hs=>⟨hs,v,e,h1,h2⟩,λal tl r q=>q⟩
noncomputable def LF (P:aB) (NN:Led):Spec:=λvs st k=>∃x:wR,x.d<=20/\wl P NN x.led (eC x.d x.led x.q x.us x.nv x.ts) (zr x.d x.led x.ts) vs st k
theorem Vx {w:ah} {NN:Led} {D:Nat} (h:506<=D):eG w NN D 976 (LF w.params NN):=by
 intro c vs st k s Q E O R hv ⟨x,hx,hh⟩ qq
 exact yO (cc:=60+10*x.d) (aI (jq (ly 10 hx) 60) (aI (by decide) h)) (KI w x.d x.led x.q x.us x.nv x.ts) (S:=zr x.d x.led x.ts) ⟨λz z z z z h=>h,λz z=>rfl,λz z=>trivial⟩ c vs st k s Q E O R hv hh qq
structure gM (L:Led) (v:aa) (d:bM):Prop where
 h:RD L v d
 s:iC d=true
structure zQ (o NN:Led) (a:ac×(List aa×Nat)) (ds:List bM):Prop where
 m:wn o NN a
 h:dz (o++NN) a.2.1 ds
 s:iC (.list ds)=true
def LG (NN:Led) (p:aW) (f:Bool) (st:St) (v:SV) (κ:bM->Prop):Prop:=oE (ua v) (λa=>∃ds,zQ st.oth NN a ds/\κ (.list ds)) (∃d,gM (st.oth++NN) v.val d/\κ d)
theorem Vy {w:ah} {NN:Led} {D:Nat} {xs:List ((Nat×Nat)×XS)} {iv:aW->St->Int->Nat} {ss:List ((Nat×Nat)×SS)} (h9:9<=D):mG w NN D ⟨xs,LG NN,iv,ss⟩:=λ{c b st s v p f} O R hv κ h=>by
 have hn:=O.hn
 subst hn
 have rh:RH (st.oth++c.news) s.heap:=λp hp y=>(R.nw p (kO hp)).1
 rcases vD h with⟨⟨q,us,n⟩,e,ds,hd,hk⟩|⟨z,d,hd,hk⟩
 ·obtain ⟨as,x⟩:=hd.h s.heap rh
  rw [yQ e]
  exact ⟨_,h9,⟨_,Reads.list (R.nw _ (kO hd.m.m)).1 rfl rfl x⟩,hd.s,hk⟩
 ·obtain ⟨as,x⟩:=hd.h s.heap rh
  exact ⟨d,h9,⟨as,x⟩,hd.s,hk⟩
end
section
structure mZ where
 ds:List Nd
 q:ac
 us:List aa
 n:Nat
 ms:List ac
structure w7 (P:aB) (o NN:Led) (x:mZ):Prop where
 m:(x.q,(⟨.type "list",none,.seq x.us.toArray x.n,#[]⟩:av))∈o
 n:aP P (o++NN) x.ds x.us x.ms
 d:(x.q::x.ms).Nodup
 a:∀a∈x.ms,∃y,(a,y)∈o
 c:gD x.ds
 l:x.ds.length<=100
 h:bR x.ds<=40
structure m8 (P:aB) (NN:Led) (x:mZ) (o o1:Led) (v:aa) (n1:Nat) (dy:List ac):Prop where
 m:(x.q,(⟨.type "list",none,.seq (x.us++[v]).toArray n1,#[]⟩:av))∈o1
 n:aP P (o1++NN) (eB x.ds++[.dk 1]) (x.us++[v]) dy
 s:∀a∈dy,a∈x.ms
 k:∀p∈o,fk p.2=0\/p.1∉x.q::x.ms->p∈o1
 t:∀p∈o,p.2.cls= .type "tuple"->p∈o1
noncomputable def LI (P:aB) (NN:Led):Spec:=λvs st k=>∃x:mZ,(vals vs=[.ref x.q]/\w7 P st.oth NN x)/\bK (st.led.all (·.f)) (∀fC v n1 dy tk,m8 P NN x st.oth fC v n1 dy->k (.lit .none) {st with oth:=fC,tk:=tk})
theorem Vz {w:ah} {NN:Led} {D:Nat} (hD:506<=D):eG w NN D 983 (LI w.params NN):=by
 intro c args st k s Q E O R hv ⟨x,⟨ha,hp⟩,hk⟩ hQ
 refine bv hk λVA hk=> ?_
 have hn:=O.hn
 subst hn
 have hd:=O.hd
 have hu:=O.hu
 have hh:=hp.h
 rw [O.top,ha]
 have own:∀{e},e∈st.led->e.f=true:=λhe=>nK.mp VA _ he
 have off:∀{p:ac×av},(∀r∈st.oth,r.1≠p.1)->p.1∉x.q::x.ms:=λh hm=>(bj.mp hm).elim (λe=>h _ hp.m e.symm) λhm=>(hp.a _ hm).elim λy hy=>h _ hy rfl
 have f1:∀p∈bo w.params st.led,p.1∉x.q::x.ms:=λp h=>by
  obtain ⟨j,e,he,rfl⟩:=ki h
  exact off λr hr=>(R.ap j e he (own (et he))).1 r (aq _ hr)
 have f2:∀p∈c.eY++c.news,p.1∉x.q::x.ms:=λp h=>off λr hr e=>R.oo r hr p h e.symm
 refine J1 w _ x.ds (cS _) hp.l hp.c c.p c.loose c.bH c.mg c.mb _ _ _ _ _ _ _ _ _ c.A₀ c.base c.h₀ c.L (c.fm st.loc) (all w c st) s Q E (st.oth++c.news) x.q x.us.toArray x.n x.ms (λp h=>kO h) (aq _ hp.m) hp.n hp.d O.B R.fr O.X R.nw O.T O.hk (gZ (by omega) hd) (gZ (by omega) hu) λled' v n' tX h' bQ F' N' q' d' s' K'=> ?_
 have eA:x.us.toArray.push v=(x.us++[v]).toArray:=by rw [List.push_toArray]
 rw [eA] at q' d'
 have cut:∀{p},p∈all w c st->p.1∉x.q::x.ms->p∈led'++bT (x.q::x.ms) (all w c st):=λh hn=>ay _ (gG h hn)
 have cls:∀p∈led',p∈led'.filter (λp=>decide (p.1∉c.news.map (·.1)))++c.news:=λp h=>by
  by_cases h2:p.1∈c.news.map (·.1)
  ·obtain ⟨r,hr,e1⟩:=ew.mp h2
   exact ay _ (News.one N' (aq _ h) (cut (jw hr) (f2 r (ay _ hr))) e1.symm▸hr)
  ·exact aq _ (j8.mpr ⟨h,gW h2⟩)
 have ul:∀p∈led',(∃r∈st.oth,r.1=p.1)->p∈led'.filter (λp=>decide (p.1∉c.news.map (·.1))):=λp h ⟨r,hr,e⟩=>j8.mpr ⟨h,gW λhm=>by
  obtain ⟨y,hy,e2⟩:=ew.mp hm
  exact R.oo r hr y (ay _ hy) (e2.trans e.symm)⟩
 have pT:∀p∈led'.filter (λp=>decide (p.1∉c.news.map (·.1))),p∈led'/\((∃y,(p.1,y)∈st.oth)\/ ∀r∈all w c st,r.1≠p.1):=λp h=>by
  obtain ⟨h1,h2⟩:=j8.mp h
  refine ⟨h1,(K'.2.2 p h1).imp (λ⟨y,hy⟩=>⟨y,(aM.mp hy).elim id λhy=>absurd (ew.mpr ⟨_,hy,rfl⟩) (cJ h2)⟩) id⟩
 generalize led'.filter (λp=>decide (p.1∉c.news.map (·.1)))=o1 at cls ul pT
 have kp:∀p∈st.oth,fk p.2=0\/p.1∉x.q::x.ms->p∈o1:=λp h hf=>ul _ (K'.1 p (aq _ h) hf) ⟨p,h,rfl⟩
 have tn:∀p∈st.oth,p.2.cls= .type "tuple"->p.1∉x.q::x.ms:=λp h ht hm=>by
  rcases bj.mp hm with e|hm
  ·have:=News.one R.nw (iP h) (iP hp.m) e
   rw [this] at ht
   exact Js ht
  ·obtain ⟨y,hy,hc,z⟩:=aP.jC _ _ _ hp.n _ hm
   have:=News.one R.nw (iP h) (kO hy) rfl
   rw [this] at ht
   exact hc ht
 refine hQ (.lit .none) {st with oth:=o1,tk:=bQ} _ ⟨⟨⟨⟨λj e h hf=>⟨λp rB=> ?_,(R.ap j e h hf).2⟩,R.hd,λj e h hf=> ?_,λp h r hr=> ?_,R.ir⟩,R.lc,R.fz⟩,by show _=_;rw [R.same],rfl,F',λp h=>N' p ?_⟩,Ext.refl _,rfl⟩ trivial (hk o1 v n' tX bQ ⟨ul _ q' ⟨_,hp.m,rfl⟩,aP.mono cls _ _ _ d',s',kp,λp h ht=>kp p h (.inr λhm=>tn p h ht hm)⟩)
 ·rcases aM.mp rB with rB|rB
  ·rcases (pT p rB).2 with⟨y,hy⟩|Ex
   ·exact (R.ap j e h hf).1 (p.1,y) (aq _ hy)
   ·exactλe2=>Ex _ (fJ h) e2.symm
  ·exact (R.ap j e h hf).1 p (ay _ rB)
 ·exact nomatch hf.symm.trans (own (et h))
 ·rcases (pT p h).2 with⟨y,hy⟩|Ex
  ·exact R.oo (p.1,y) hy r hr
  ·exact Ex r ((aM.mp hr).elim mE jw)
 ·rcases aM.mp h with h|h
  ·exact cut (aq _ h) (f1 p h)
  ·rcases aM.mp h with h|h
   ·exact aq _ (pT p h).1
   ·exact cut (ay _ (ay _ h)) (f2 p h)
end
section
noncomputable abbrev gm:Scope:=sS (dH 92)
noncomputable def Cx.m9 (p:cP) (loose:List ai) (bH:gp->Option aa) (mg mb:ai->Option aa) (dp un:Nat) (gd:Option (List gN)) (cd:aa) (A₀:bZ) (h₀:bA) (L fa ha fq:ac) (oh of:av) (rest:Led) (s:ak):Cx:=
 {p,loose,bH,mg,mb,A:=gy dp un gd (sO "law") gm L fa cd (cellsFrom (L+1) gm.names []) [],cn:=sO "law",cs:=gm,L,a:=fa,bX:=cd,cl:=cellsFrom (L+1) gm.names [],outer:=[],A₀,base:=h₀,h₀,eY:=[(L+1,oh),(L+1+1,of)],news:=rest,en:=s,fm:=kT gm,jv:=λl=>(∀v,findF (sO "heap") l=some v->v.val= .ref ha)/\ ∀v,findF (sO "fonts") l=some v->v.val= .ref fq,ee:=envOfC (sO "law") gm L fa cd,es:=gm}
theorem LK:∀y∈gm.names,(y.2= .cell\/y.2= .free)->y.1=sO "heap"\/y.1=sO "fonts":=by
 have:(gm.names.all λy=> !(decide (y.2= .cell)||decide (y.2= .free))||(decide (y.1=sO "heap")||decide (y.1=sO "fonts")))=true:=by kernel_rfl
 intro y hy h
 have z:=nK.mp this y hy
 simp only [sE,Bool.not_eq_true',Bool.or_eq_false_iff,decide_eq_true_eq,decide_eq_false_iff_not] at z
 exact z.elim (λz=>absurd h λh=>h.elim z.1 z.2) id
section
variable {w:ah} {p:cP} {loose:List ai} {bH:gp->Option aa} {mg mb:ai->Option aa} {dp un:Nat} {gd:Option (List gN)} {cd:aa} {A₀:bZ} {h₀:bA} {L fa ha fq:ac} {oh of:av} {rest:Led} {s:ak}
theorem LL {D b:Nat} (dh:oh.data= .cell (some (.ref ha))) (df:of.data= .cell (some (.ref fq))) (B:fx A₀ h₀ [] h₀) (X:(KK w.params).In h₀) (T:Top p loose bH mg mb h₀) (hd:dp+(b+D)<recursionLimit) (hu:un+(8*b+8*D)<cLine):(Cx.m9 p loose bH mg mb dp un gd cd A₀ h₀ L fa ha fq oh of rest s).Ok w rest D b:=by
 refine ⟨rfl,B,X,T,rfl,rfl,rfl,hd,hu,rfl,⟨rfl,rfl⟩,λx k h=>.inl h,λ{x v st s} R _ hx hf=>⟨_,R.fr.ns,Hn hx hf⟩,λy hy=> ?_⟩
 have hy:y=sO "heap"\/y=sO "fonts":=hy.elim (λh=>LK _ (mem_of_lookup h) (.inl rfl)) λh=>LK _ (mem_of_lookup h) (.inr rfl)
 rcases hy with rfl|rfl
 ·exact ⟨L+1,oh,by rfl,.head _,λl v ht hf=>by rw [ht.1 v hf];exact dh⟩
 ·exact ⟨L+1+1,of,by rfl,.tail _ (.head _),λl v ht hf=>by rw [ht.2 v hf];exact df⟩
theorem VB:(Cx.m9 p loose bH mg mb dp un gd cd A₀ h₀ L fa ha fq oh of rest s).Fn:=by
 have n1:∀{x y:ai} {v:SV} {l:List (ai×SV)},gm.names.lookup x=some .local->gm.names.lookup y=some .cell->findF y ((x,v)::l)=findF y l:=λ{x y v l} hx hy=>by
  show(match y==x with|true=>some v|false=>findF y l)=_
  rw [ia λe=>by rw [e,hx] at hy;cases hy]
 exact ⟨rfl,rfl,λx v l h=>Ho h,λx v l h ht=>⟨λu hu=>ht.1 u ((n1 h (by kernel_rfl)).symm.trans hu),λu hu=>ht.2 u ((n1 h (by kernel_rfl)).symm.trans hu)⟩⟩
end
noncomputable def LM (w:ah) (NN:Led):List (Nat×Spec):=[(938,yX w.params NN),(943,wO w.params NN 2),(976,LF w.params NN),(969,LD w NN),(747,LA w.params NN),(723,LC w NN),(983,LI w.params NN)]
theorem LN {w:ah} {NN:Led} {D:Nat} (h:506<=D):iG w NN D (LM w NN):=ey (C5 (aI (by decide) h)) (ey (DH (DR w 2) (aI (by decide) h)) (ey (Vx h) (ey (Vw h) (ey (Vu h) (ey (Vv h) (ey (Vz h) iS))))))
noncomputable def uH (P:aB) (NN:Led) (ts:List Tr) (st:St):CompI fN:=iJ P (st.oth++NN) (bO ts) st.led st.oth
noncomputable def LO (P:aB) (NN:Led):Cfg:=⟨[((639,31),Ix NN (uH P NN))],LG NN,Cfg.none.iv,[((635,4),Iy (KK P) λst=>pX st.led st.oth (DI st) 3),((637,4),Iw NN (uH P NN))]⟩
theorem LP {w:ah} {NN:Led} {D:Nat} (h:506<=D):jh w NN D (LO w.params NN):=⟨Vy (aI (by decide) h),v8 (bU.mpr ⟨QO,eM.mpr QQ⟩),dZ QP km⟩
end
section
noncomputable def VC:Hint:=[((639,7),some false),((642,7),some false),((642,40),some false),((645,7),some false),((645,40),some false),((645,74),some false)]
noncomputable def nj (w:ah) (NN:Led):Ev:=Ev.jf (KK w.params) (LM w NN) (LO w.params NN) VC 99
noncomputable def si (ha fq q:ac):List (ai×SV):=[(sO "heap",.own 0 ha),(sO "fonts",.ag (.ref fq)),(sO "script",.ag (.ref q))]
noncomputable def oQ (ha:ac) (W c:Int) (t1 t2:af) (n0:Nat):List LE:=[⟨ha,.lst (iu W c t1 t2) n0,true⟩]
noncomputable abbrev np:=ac×(List aa×Nat)
noncomputable def Ey (a:np):SV:=.kn a.1 a.2.1 a.2.2
noncomputable def Ez (ha fq q:ac) (tr ot:np):List (ai×SV):=(sO "others",Ey ot)::(sO "trees",Ey tr)::si ha fq q
noncomputable def w8 (ha fq q:ac) (tr ot it:np) (rv:ac):List (ai×SV):=(sO "told",.lit (.ref rv))::(sO "items",Ey it)::Ez ha fq q tr ot
noncomputable def gU (ha fq q:ac) (tr ot it:np) (rv v1 v2:ac):List (ai×SV):=(sO "first",.lit (.ref v1))::(sO "second",.lit (.ref v2))::w8 ha fq q tr ot it rv
noncomputable def lm (i n:Nat):List Stmt:=((sB (dH 92)).drop i).take n
structure uJ (P:aB) (L:Led) (tr ot:np) (ts iM:List Tr):Prop where
 m1:(tr.1,(⟨.type "list",none,.seq tr.2.1.toArray tr.2.2,#[]⟩:av))∈L
 t1:bF L ts tr.2.1
 w1:dK ts
 l1:ts.length<=5
 h1:cA ts<=3
 m2:(ot.1,(⟨.type "list",none,.seq ot.2.1.toArray ot.2.2,#[]⟩:av))∈L
 t2:bF L iM ot.2.1
 w2:dK iM
 l2:iM.length<=6
 h2:cA iM<=3
theorem VD {P:aB} {ls:List LE} {o NN:Led}:∀{led:Led},(∀p∈led,p∈bo P ls++(o++NN))->SubL P led ls o NN
 |[],z=>trivial
 |z::y,h=>h
theorem w9 {c:Int} {k:Nat} {z:lj} (h0:c=0) (hj:mR 3 (c+1) k z) (hk:k<=5):0<=z.hc/\z.hc<=351:=by
 have h1:=hj.c0
 have h2:=hj.c1
 have e:fc (3 -1)=70:=rfl
 rw [e] at h2
 omega
theorem LQ {x:Int} (h:0<=x/\x<=351):0<=x/\x+((fc 2:Nat):Int)<1000000:=by
 have e:fc 2=70:=rfl
 rw [e]
 omega
theorem VE {x:Int} (h:0<=x/\x<=351):0<=x/\x+((13*(3+1):Nat):Int)<1000000:=by omega
theorem LR {x y:Int} (h:0<=x/\x<=351) (h1:x<=y) (h2:y<=x+((13*(3+1):Nat):Int)):0<=y/\y<=2000:=by omega
theorem VF {x:Int} (h0:0<=x) (h1:x<5):(0<=1+x/\1+x<=1000)/\(1+x).toNat<=5:=by omega
theorem lL.mono {P:aB} {led led':Led} {fq:ac} (sub:∀p∈led,p∈led') (h:lL P led fq):lL P led' fq:=by
 obtain ⟨f0,f1,n,h1,h2,h3⟩:=h
 exact ⟨f0,f1,n,sub _ h1,FN.mono sub h2,FN.mono sub h3⟩
structure fW (P:aB) (NN o:Led) (ds:List Nd) (q:ac) (mu:List ac):Prop where
 h:∃us n ms,mu=q::ms/\(q,(⟨.type "list",none,.seq (us:List aa).toArray n,#[]⟩:av))∈o/\aP P (o++NN) ds us ms
 d:mu.Nodup
 a:∀x∈mu,∃y,(x,y)∈o
theorem up1 {a c d:Led}:∀p∈a++d,p∈a++c++d:=λp h=>(aM.mp h).elim (λh=>aq _ (aq _ h)) λh=>ay _ h
theorem kA {a c d:Led}:∀p∈a++d++c,p∈a++c++d:=λp h=>(aM.mp h).elim (up1 p) λh=>aq _ (ay _ h)
theorem LU {a c d:Led}:∀p∈a++c++d,p∈a++d++c:=kA
theorem LV {P:aB} {o NN:Led} {ds:List Nd} {n:Nat} {z:fN} {a:ac} (hj:fB P (o++NN) ds n z) (hn:ds.length<=n):cO P (o++z.tl++[(a,io z.rs)]++NN) ds a (a::z.mu):=⟨z.rs.toArray,z.rs.length,z.mu,aq _ (ay _ (.head _)),aP.mono (λp h=>(aM.mp h).elim (λh=>up1 p ((aM.mp h).elim (λh=>aq _ (aq _ h)) λh=>ay _ h)) λh=>aq _ (aq _ (ay _ h))) _ _ _ (hj.all hn),rfl⟩
theorem VG {P:aB} {o NN tl:Led} {ds:List Nd} {n:Nat} {z:fN} {a:ac} (hj:fB P (o++NN) ds n z) (hn:ds.length<=n) (hd:cH (o++z.tl) [(a,io z.rs)]):fW P NN (o++z.tl++[(a,io z.rs)]++tl) ds a (a::z.mu):=by
 have m:(a,io z.rs)∈o++z.tl++[(a,io z.rs)]++tl:=aq _ (ay _ (.head _))
 have e:∀x∈z.mu,∃y,(x,y)∈z.tl:=λx hx=>(ew.mp (hj.m x hx)).elim λp h=>⟨p.2,h.2▸h.1⟩
 refine ⟨⟨z.rs,_,z.mu,rfl,m,aP.mono (λp h=>(aM.mp h).elim (λh=>(aM.mp h).elim (λh=>aq _ (aq _ (aq _ (aq _ h)))) λh=>ay _ h) λh=>aq _ (aq _ (aq _ (ay _ h)))) _ _ _ (hj.all hn)⟩,fY.mpr ⟨λh=> ?_,hj.d⟩,bU.mpr ⟨⟨_,m⟩,λx hx=>(e x hx).imp λy hy=>aq _ (aq _ (ay _ hy))⟩⟩
 obtain ⟨y,hy⟩:=e a h
 exact hd _ (ay _ hy) _ (.head _) rfl
theorem LW {P:aB} {L:Led} {ts:List Tr} {k:Nat} {q:ac} {mu:List ac} (w:dK ts) (l:ts.length<=6) (h:cA ts<=3) (n:cO P L (bO ts) q mu):jH P L (bO ts) [.ref q]:=⟨⟨q,mu,rfl,n⟩,by rw [pM];exact aI l (by decide),aI (w0 ts w).2 (aI (dS h) (by decide)),pO _ (w0 ts w).1⟩
theorem LX {ts:List Tr} {i:Nat} {t:Tr} (e:ts[i]? =some t) (h:cA ts<=3):hg t<=20:=aI (Ao (zm e)) (aI h (by decide))
theorem LY {L:Led} {x:Bool}:gM L (.bool x) (.bool x):=⟨λz z=>⟨_,.bool x⟩,rfl⟩
theorem VH {x y:Bool} (h:x=y):(!ec (.bool x) (.bool y))=false:=by
 subst h
 cases x<;>rfl
theorem LZ {L:Led} {ts:List Tr} {v:aa} (w:dK ts) (h:cA ts<=3) (r:RD L v (.tuple (bS (bO ts)))):gM L v (.tuple (bS (bO ts))):=⟨r,CZ (aI (w0 ts w).2 (aI (dS h) (by decide)))⟩
theorem L2 {o NN:Led} {ts:List Tr} {a:np} (m:(a.1,(⟨.type "list",none,.seq a.2.1.toArray a.2.2,#[]⟩:av))∈o++NN) (l:ts.length<=6) (h:cA ts<=3) (t:bF (o++NN) ts a.2.1):zQ o NN (a.1,a.2.1,a.2.2) (fe ts):=⟨⟨m,by rw [show a.2.1.length=ts.length from bF.len t];exact aI l (by decide)⟩,yW ts _ t,IZ (aI h (by decide))⟩
theorem oR {o z x y NN:Led}:∀p∈o++NN,p∈o++z++x++y++NN:=λp h=>up1 p (up1 p (up1 p h))
theorem EA {o z x y:Led}:∀p∈o,p∈o++z++x++y:=λp h=>aq _ (aq _ (aq _ h))
structure lp (ds:List Nd):Prop where
 c:gD ds
 l:ds.length<=99
 h:bR ds<=10
 n:kz ds
structure Dj (a c:List ac):Prop where
 h:∀x∈a,x∉c
section
variable {P:aB} {o o' NN tl:Led} {ds:List Nd} {q:ac} {mu fL:List ac}
theorem fW.nl (h:fW P NN o ds q mu):∃mu,cO P (o++NN) ds q mu:=h.h.elim λus h=>h.elim λn h=>h.elim λms h=>⟨mu,us.toArray,n,ms,aq _ h.2.1,h.2.2,h.1⟩
theorem fW.mono (sub:∀p∈o,p∈o') (h:fW P NN o ds q mu):fW P NN o' ds q mu:=⟨h.h.imp λus h=>h.imp λn h=>h.imp λms h=>⟨h.1,sub _ h.2.1,aP.mono (λp hp=>(aM.mp hp).elim (λh=>aq _ (sub p h)) λh=>ay _ h) _ _ _ h.2.2⟩,h.d,λx hx=>(h.a x hx).imp λy hy=>sub _ hy⟩
theorem L4 (sub:∀p∈o++tl,p∈o') (c:w6 P (o++NN) ds tl q) (e:cH (o++NN) tl):∃mu,fW P NN o' ds q mu/\ ∀x∈mu,x∈tl.map (·.1):=by
 obtain ⟨mu,⟨us,n,ms,h1,h2,rfl⟩,h3,h4⟩:=c
 have e1:∀x∈q::ms,∃y,(x,y)∈tl:=λx hx=>(ew.mp (h3 x hx)).elim λp h=>⟨p.2,h.2▸h.1⟩
 refine ⟨_,⟨⟨us.toList,n,ms,rfl,sub _ (ay _ ((aM.mp h1).resolve_left λh=> ?_)),aP.mono (λp hp=>(aM.mp hp).elim (λhp=>(aM.mp hp).elim (λhp=>aq _ (sub p (aq _ hp))) λhp=>ay _ hp) λhp=>aq _ (sub p (ay _ hp))) _ _ _ h2⟩,h4,λx hx=>(e1 x hx).imp λy hy=>sub _ (ay _ hy)⟩,h3⟩
 obtain ⟨y,hy⟩:=e1 q (.head _)
 exact e _ h _ hy rfl
theorem L6 (h:fW P NN o ds q mu) (e:cH (o++NN) tl) (k:∀x∈fL,x∈tl.map (·.1)):Dj fL mu:=⟨λx hx hm=>(h.a x hm).elim λy hy=>(ew.mp (k x hx)).elim λp hp=>e _ (aq _ hy) p hp.1 hp.2.symm⟩
theorem uK {L:Led} (hd:lp ds) (n:∃mu,cO P L ds q mu):jH P L ds [.ref q]:=⟨⟨q,n.elim λmu h=>⟨mu,rfl,h⟩⟩,aI hd.l (by decide),aI hd.h (by decide),pO _ hd.c⟩
theorem L7 {L:Led} (hd:lp ds) (n:∃mu,cO P L ds q mu):zO P L ds [.ref q]:=⟨uK hd n,hd.c⟩
theorem lY {L:Led} {v:aa} (hd:lp ds) (r:RD L v (.tuple (bS ds))):gM L v (.tuple (bS ds)):=⟨r,CZ (aI hd.h (by decide))⟩
theorem zR:(!ec (.tuple (bS ds)) (.tuple (bS ds)))=false:=by rw [wy.mpr rfl];rfl
theorem L8 {L:Led} (sub:∀p∈o++NN++tl,p∈L) (c:w6 P (o++NN) ds tl q):∃mu,cO P L ds q mu:=c.r.imp λmu h=>cO.mono sub h.1
end
theorem VI {P:aB} {o NN:Led} {ds:List Nd} {q:ac} {mu:List ac} (hd:lp ds) (h:fW P NN o ds q mu):∃x:mZ,(x.ds=ds/\x.q=q/\x.q::x.ms=mu)/\w7 P o NN x:=by
 obtain ⟨⟨us,n,ms,rfl,h1,h2⟩,h3,h4⟩:=h
 exact ⟨⟨ds,q,us,n,ms⟩,⟨rfl,rfl,rfl⟩,⟨h1,h2,h3,λa ha=>h4 a (.tail _ ha),hd.c,aI hd.l (by decide),aI hd.h (by decide)⟩⟩
structure jo (P:aB) (NN o:Led) (ds:List Nd) (q:ac) (mu:List ac):Prop where
 h:∃us n ms,mu=q::ms/\(q,(⟨.type "list",none,.seq (us:List aa).toArray n,#[]⟩:av))∈o/\aP P (o++NN) ds us ms
theorem jo.nl {P:aB} {NN o:Led} {ds:List Nd} {q:ac} {mu:List ac} (h:jo P NN o ds q mu):∃mu,cO P (o++NN) ds q mu:=h.h.elim λus h=>h.elim λn h=>h.elim λms h=>⟨mu,us.toArray,n,ms,aq _ h.2.1,h.2.2,h.1⟩
theorem jo.mono {P:aB} {NN o o':Led} {ds:List Nd} {q:ac} {mu:List ac} (sub:∀p∈o,p∈o') (h:jo P NN o ds q mu):jo P NN o' ds q mu:=⟨h.h.imp λus h=>h.imp λn h=>h.imp λms h=>⟨h.1,sub _ h.2.1,aP.mono (λp hp=>(aM.mp hp).elim (λh=>aq _ (sub p h)) λh=>ay _ h) _ _ _ h.2.2⟩⟩
theorem m8.nk {P:aB} {o NN o1:Led} {x:mZ} {v:aa} {n1:Nat} {dy:List ac} {ds:List Nd} {q:ac} {mu:List ac} (R:m8 P NN x o o1 v n1 dy) (j:Dj mu (x.q::x.ms)) (h:jo P NN o ds q mu):jo P NN o1 ds q mu:=by
 obtain ⟨us,n,ms,e,h1,h2⟩:=h
 have k:∀p∈o,fk p.2=0\/p.1∈mu->p∈o1:=λp hp hf=>R.k p hp (hf.imp id (j.h _))
 exact ⟨us,n,ms,e,k _ h1 (.inr (e▸ .head _)),aP.keep (M:=ms) (λp hp hf=>(aM.mp hp).elim (λhp=>aq _ (k p hp (hf.imp id λh=>e▸ .tail _ h))) λhp=>ay _ hp) _ _ _ (λz h=>h) h2⟩
theorem m8.nl {P:aB} {o NN o1:Led} {x:mZ} {v:aa} {n1:Nat} {dy:List ac} {ds:List Nd} {q:ac} {mu:List ac} (R:m8 P NN x o o1 v n1 dy) (j:Dj mu (x.q::x.ms)) (h:fW P NN o ds q mu):fW P NN o1 ds q mu:=⟨(R.nk j ⟨h.h⟩).h,h.d,λy hy=>(h.a y hy).imp λz hz=>R.k _ hz (.inr (j.h _ hy))⟩
theorem m8.rd {P:aB} {o NN o1:Led} {x:mZ} {v:aa} {n1:Nat} {dy:List ac} {u:aa} {d:bM} (R:m8 P NN x o o1 v n1 dy) (h:RD (o++NN) u d):RD (o1++NN) u d:=RD.keep (λp hp ht=>(aM.mp hp).elim (λhp=>aq _ (R.t p hp ht)) λhp=>ay _ hp) h
structure VJ (P:aB) (NN o o1:Led) (ds:List Nd) (q:ac) (mu:List ac):Prop where
 nl:∀{rR:List Nd} {q':ac} {fL:List ac},Dj fL mu->fW P NN o rR q' fL->fW P NN o1 rR q' fL
 nk:∀{rR:List Nd} {q':ac} {fL:List ac},Dj fL mu->jo P NN o rR q' fL->jo P NN o1 rR q' fL
 own:∃jX,jo P NN o1 (eB ds++[.dk 1]) q jX/\ ∀y∈jX,y∈mu
 rd:∀{u:aa} {d:bM},RD (o++NN) u d->RD (o1++NN) u d
theorem Ma {P:aB} {o NN:Led} {ds:List Nd} {q:ac} {mu:List ac} (hd:lp ds) (h:fW P NN o ds q mu):∃x:mZ,([ae q]=[.ref x.q]/\w7 P o NN x)/\ ∀o1 v n1 dy,m8 P NN x o o1 v n1 dy->VJ P NN o o1 ds q mu:=by
 obtain ⟨x,⟨rfl,rfl,rfl⟩,hs⟩:=VI hd h
 exact ⟨x,⟨rfl,hs⟩,λo1 v n1 dy R=>⟨R.nl,R.nk,⟨x.q::dy,⟨x.us++[v],n1,dy,rfl,R.m,R.n⟩,bU.mpr ⟨.head _,λy hy=>.tail _ (R.s y hy)⟩⟩,R.rd⟩⟩
theorem EB {P:aB} {L:Led} {ds:List Nd} {q:ac} (hd:lp ds) (n:∃mu,cO P L (eB ds++[.dk 1]) q mu):jH P L (eB ds++[.dk 1]) [.ref q]:=⟨⟨q,n.elim λmu h=>⟨mu,rfl,h⟩⟩,w5 hd.l,aI (uG (sf ds)) (aI (dS hd.h) (by decide)),w4 (uF _ (pO _ hd.c) hd.n)⟩
theorem EC {L:Led} {ds:List Nd} {v:aa} (hd:lp ds) (r:RD L v (.tuple (bS (eB ds++[.dk 1])))):gM L v (.tuple (bS (eB ds++[.dk 1]))):=⟨r,CZ (aI (uG (sf ds)) (aI (dS hd.h) (by decide)))⟩
theorem zT {P:aB} {L L':Led} {ds:List Nd} {q:ac} (sub:∀p∈L,p∈L') (n:∃mu,cO P L ds q mu):∃mu,cO P L' ds q mu:=n.imp λmu h=>cO.mono sub h
noncomputable def gV (ha:ac) (W c:Int) (t1 t2:af) (n0:Nat) (b v1 v2:ac):List LE:=[⟨ha,.lst (iu W c t1 t2) n0,true⟩,⟨b,.tup [.lit (.ref v1),.lit (.ref v2)] 0,true⟩]
section
variable {w:ah} {rest o:Led} {ha fq q:ac} {W c:Int} {t1 t2:af} {n0:Nat} {K:Option SV->St->Prop} {tr ot it:np} {rv v1 v2:ac}
theorem VK (tk:af) (hc:c=0) (hK:∀tr ot ts iM o W c t1 t2 n0 tk,uJ w.params (o++rest) tr ot ts iM->0<=c->c<=2000->K none ⟨Ez ha fq q tr ot,oQ ha W c t1 t2 n0,o,tk⟩):(nj w rest).fh gm 2 (lm 2 2) ⟨si ha fq q,oQ ha W c t1 t2 n0,[],tk⟩ K:=by
 refine @cD _ ((True/\k7 c [am 5 (tk+1)])/\ ∀(b1:Int×af) (b2:Int) (b3 b4:af) (b5:Nat) (b6:af),iZ c [am 5 (tk+1)] b1->((0:Int)<=1+b1.1/\1+b1.1<=1000)/\CompI.At (pX [LE.mk ha (SO.lst [li b2 b3,li (c+1) b4] b5) true] [] (c+1) 3) [LE.mk ha (SO.lst [li b2 b3,li (c+1) b4] b5) true] [] [] 0/\(∀(b8:Nat) (b9:af) (aH:lj) (bq:af),b8<aj (1+b1.1)->True->mR 3 (c+1) b8 aH->(True/\rS 2 aH.2 [am 2 bq])/\ ∀(cj:pV) (bx:Int) (dP cw:af) (fV:Nat) (fF:af),pW 2 aH.2 [am 2 bq] cj->CompI.At (pX [LE.mk ha (SO.lst [li b2 b3,li (c+1) b4] b5) true] [] (c+1) 3) [LE.mk ha (SO.lst [li bx dP,li cj.3 cw] fV) true] (aH.8++cj.2) (aH.6++[cj.1]) (b8+1))/\ ∀(b8:lj) (b9:af),mR 3 (c+1) (aj (1+b1.1)) b8-> ∀(bq:ac),cH b8.8 [(bq,aZ (aw "list") none (cZ (di b8.6) (aN b8.6)) (di []))]-> ∃(bY:wR),bY.1<=20/\(SubL w.2 bY.2 [] (b8.8++[(bq,aZ (aw "list") none (cZ (di b8.6) (aN b8.6)) (di []))]) rest/\eC bY.1 bY.2 bY.3 bY.4 bY.5 bY.6 b8.2 [ae bq])/\ ∀(bt:rV) (cj:Int) (bx dP:af) (cw:Nat) (fV:af),uv bY.1 bY.2 bY.6 b8.2 [ae bq] bt->K none (St.mk [(sO "others",SV.kn bt.1 bt.4 bt.5),(sO "trees",SV.kn bq b8.6 (aN b8.6)),(sO "heap",SV.own 0 ha),(sO "fonts",SV.ag (ae fq)),(sO "script",SV.ag (ae q))] [LE.mk ha (SO.lst [li cj bx,li bt.3 dP] cw) true] (b8.8++[(bq,aZ (aw "list") none (cZ (di b8.6) (aN b8.6)) (di []))]++bt.2) (fV+1))) ?_ ?_
 ·kernel_rfl
 exact ⟨⟨trivial,⟨⟨5,_,rfl,by decide,by decide⟩,by rw [hc];decide⟩⟩,λy j j j j j hy=>by
  obtain ⟨k0,k1⟩:=VF hy.n (hy.m 5 _ rfl)
  exact ⟨k0,J8,λi j z t hi j hj=>⟨⟨trivial,⟨⟨t,rfl⟩,(LQ (w9 hc hj (aI (xq hi) k1))).1,(LQ (w9 hc hj (aI (xq hi) k1))).2⟩⟩,λj j j j j j hq=>J9 (d:=3) rfl hj hq⟩,λz j hj a j=>
   ⟨⟨3,z.tl++[(a,io z.rs)],a,z.rs,z.rs.length,z.ts⟩,(by decide:3<=20),⟨VD λp hp=>ay _ (aq _ hp),⟨rfl,ay _ (.head _),bF.mono (λp hp j=>aq _ hp) _ _ hj.t,hj.w,hj.th,hj.l▸aI k1 (by decide),hj.h,(by decide:3<=20),VE (w9 hc hj k1)⟩⟩,λx j j j j j hx=>
    hK (a,z.rs,z.rs.length) (x.r,x.us,x.nv) z.ts x.ts _ _ _ _ _ _ _ ⟨aq _ (aq _ (ay _ (.head _))),bF.mono (λp hp j=>aq _ (aq _ (aq _ hp))) _ _ hj.t,hj.w,hj.l▸k1,hj.h,aq _ hx.m,bF.mono (λp hp j=>aq _ hp) _ _ hx.t,hx.w,aI hx.l (dS (hj.l▸k1)),hx.h⟩ (LR (w9 hc hj k1) hx.lo hx.hi).1 (LR (w9 hc hj k1) hx.lo hx.hi).2⟩⟩⟩
theorem VL {ts iM:List Tr} (tk:af) (hF:lL w.params rest fq) (h:uJ w.params (o++rest) tr ot ts iM) (hK:∀it rv mu o' tk,(∀p∈o,p∈o')->fW w.params rest o' (bO ts) it.1 mu->RD (o'++rest) (.ref rv) (.tuple (bS (bO ts)))->K none ⟨w8 ha fq q tr ot it rv,oQ ha W c t1 t2 n0,o',tk⟩):(nj w rest).fh gm 2 (lm 4 2) ⟨Ez ha fq q tr ot,oQ ha W c t1 t2 n0,o,tk⟩ K:=by
 have lt:tr.2.1.length=ts.length:=bF.len h.t1
 have ln:(bO ts).length<=tr.2.1.length:=by rw [pM,lt];exact cS _
 refine @cD _ (∃(b1:List Tr),(wn o rest (tr.1,tr.2.1,tr.2.2)/\yR o λ(z:fN)=>o++z.2)/\CompI.At (uH w.2 rest b1 (St.mk [(sO "others",SV.kn ot.1 ot.2.1 ot.2.2),(sO "trees",SV.kn tr.1 tr.2.1 tr.2.2),(sO "heap",SV.own 0 ha),(sO "fonts",SV.ag (ae fq)),(sO "script",SV.ag (ae q))] [LE.mk ha (SO.lst [li W t1,li c t2] n0) true] o tk)) [LE.mk ha (SO.lst [li W t1,li c t2] n0) true] o [] 0/\(∀(b2:Nat) (b3:aa) (b4:fN) (b5:af),b2<aN tr.2.1->tr.2.1[b2]? =some b3->fB w.2 (o++rest) (bO b1) b2 b4-> ∃(b9:Tr),Ew w.2 (o++b4.2++rest) b9 [b3,ae fq]/\ ∀(aH:aa) (bq:Led) (bJ:af),cH (o++b4.2) bq->bV w (o++b4.2++rest) (nd b9) [] bq aH->CompI.At (uH w.2 rest b1 (St.mk [(sO "others",SV.kn ot.1 ot.2.1 ot.2.2),(sO "trees",SV.kn tr.1 tr.2.1 tr.2.2),(sO "heap",SV.own 0 ha),(sO "fonts",SV.ag (ae fq)),(sO "script",SV.ag (ae q))] [LE.mk ha (SO.lst [li W t1,li c t2] n0) true] o tk)) [LE.mk ha (SO.lst [li W t1,li c t2] n0) true] (o++b4.2++bq) (b4.1++[aH]) (b2+1))/\ ∀(b2:fN) (b3:af),fB w.2 (o++rest) (bO b1) (aN tr.2.1) b2-> ∀(b5:ac),cH (o++b2.2) [(b5,aZ (aw "list") none (cZ (di b2.1) (aN b2.1)) (di []))]-> ∃(b7:List Nd),jH w.2 (o++b2.2++[(b5,aZ (aw "list") none (cZ (di b2.1) (aN b2.1)) (di []))]++rest) b7 [ae b5]/\ ∀(b8:ac) (b9:Led) (aH:af),cH (o++b2.2++[(b5,aZ (aw "list") none (cZ (di b2.1) (aN b2.1)) (di []))]++rest) b9->lX (o++b2.2++[(b5,aZ (aw "list") none (cZ (di b2.1) (aN b2.1)) (di []))]++rest) b7 b9 b8->K none (St.mk [(sO "told",SV.lit (ae b8)),(sO "items",SV.kn b5 b2.1 (aN b2.1)),(sO "others",SV.kn ot.1 ot.2.1 ot.2.2),(sO "trees",SV.kn tr.1 tr.2.1 tr.2.2),(sO "heap",SV.own 0 ha),(sO "fonts",SV.ag (ae fq)),(sO "script",SV.ag (ae q))] [LE.mk ha (SO.lst [li W t1,li c t2] n0) true] (o++b2.2++[(b5,aZ (aw "list") none (cZ (di b2.1) (aN b2.1)) (di []))]++b9) (aH+1))) ?_ ?_
 ·kernel_rfl
 exact ⟨ts,⟨⟨h.m1,by rw [lt];exact aI h.l1 (by decide)⟩,⟨λz p hp=>aq _ hp⟩⟩,pS,λi v z y y ev hj=>(bF.at h.t1 i v ev).elim λt ht=>⟨t,⟨⟨v,fq,rfl,TR.mono (λp hp y=>up1 p hp) _ _ ht.2,lL.mono (λp hp=>ay _ hp) hF⟩,zl h.w1 ht.1,LX ht.1 h.h1⟩,λr tl y gE cq=>Dh LU hj (zJ ht.1) cq gE⟩,λz y hj a hd=>⟨bO ts,LW (k:=0) h.w1 (aI h.l1 (by decide)) h.h1 (LV hj ln),λb tl y gE r=>hK (a,z.rs,z.rs.length) b (a::z.mu) _ _ (λp hp=>aq _ (aq _ (aq _ hp))) (VG hj ln hd) (RD.mono kA r.r)⟩⟩
theorem VM {ts iM:List Tr} (tk:af) (hF:lL w.params rest fq) (h:uJ w.params (o++rest) tr ot ts iM) (rd:RD (o++rest) (.ref rv) (.tuple (bS (bO ts)))) (hK:∀o' tk,(∀p∈o,p∈o')->K none ⟨w8 ha fq q tr ot it rv,oQ ha W c t1 t2 n0,o',tk⟩):(nj w rest).fh gm 2 (lm 6 1) ⟨w8 ha fq q tr ot it rv,oQ ha W c t1 t2 n0,o,tk⟩ K:=by
 have lt:ot.2.1.length=iM.length:=bF.len h.t2
 have ln:(bO iM).length<=ot.2.1.length:=by rw [pM,lt];exact cS _
 have tm:∀{t:List Tr} {us:List aa} {z x y:Led},bF (o++rest) t us->bF (o++z++x++y++rest) t us:=λh=>bF.mono (λp hp j=>oR p hp) _ _ h
 refine @cD _ (∃(b1:List Tr),(wn o rest (ot.1,ot.2.1,ot.2.2)/\yR o λ(z:fN)=>o++z.2)/\CompI.At (uH w.2 rest b1 (St.mk [(sO "told",SV.lit (ae rv)),(sO "items",SV.kn it.1 it.2.1 it.2.2),(sO "others",SV.kn ot.1 ot.2.1 ot.2.2),(sO "trees",SV.kn tr.1 tr.2.1 tr.2.2),(sO "heap",SV.own 0 ha),(sO "fonts",SV.ag (ae fq)),(sO "script",SV.ag (ae q))] [LE.mk ha (SO.lst [li W t1,li c t2] n0) true] o tk)) [LE.mk ha (SO.lst [li W t1,li c t2] n0) true] o [] 0/\(∀(b2:Nat) (b3:aa) (b4:fN) (b5:af),b2<aN ot.2.1->ot.2.1[b2]? =some b3->fB w.2 (o++rest) (bO b1) b2 b4-> ∃(b9:Tr),Ew w.2 (o++b4.2++rest) b9 [b3,ae fq]/\ ∀(aH:aa) (bq:Led) (bJ:af),cH (o++b4.2) bq->bV w (o++b4.2++rest) (nd b9) [] bq aH->CompI.At (uH w.2 rest b1 (St.mk [(sO "told",SV.lit (ae rv)),(sO "items",SV.kn it.1 it.2.1 it.2.2),(sO "others",SV.kn ot.1 ot.2.1 ot.2.2),(sO "trees",SV.kn tr.1 tr.2.1 tr.2.2),(sO "heap",SV.own 0 ha),(sO "fonts",SV.ag (ae fq)),(sO "script",SV.ag (ae q))] [LE.mk ha (SO.lst [li W t1,li c t2] n0) true] o tk)) [LE.mk ha (SO.lst [li W t1,li c t2] n0) true] (o++b4.2++bq) (b4.1++[aH]) (b2+1))/\ ∀(b2:fN) (b3:af),fB w.2 (o++rest) (bO b1) (aN ot.2.1) b2-> ∀(b5:ac),cH (o++b2.2) [(b5,aZ (aw "list") none (cZ (di b2.1) (aN b2.1)) (di []))]-> ∃(b7:List Nd),jH w.2 (o++b2.2++[(b5,aZ (aw "list") none (cZ (di b2.1) (aN b2.1)) (di []))]++rest) b7 [ae b5]/\ ∀(b8:ac) (b9:Led) (aH:af),cH (o++b2.2++[(b5,aZ (aw "list") none (cZ (di b2.1) (aN b2.1)) (di []))]++rest) b9->lX (o++b2.2++[(b5,aZ (aw "list") none (cZ (di b2.1) (aN b2.1)) (di []))]++rest) b7 b9 b8-> ∃(bY:bM),gM (o++b2.2++[(b5,aZ (aw "list") none (cZ (di b2.1) (aN b2.1)) (di []))]++b9++rest) (ae rv) bY/\ ∃(bt:bM),gM (o++b2.2++[(b5,aZ (aw "list") none (cZ (di b2.1) (aN b2.1)) (di []))]++b9++rest) (ae b8) bt/\ ∃(cj:List bM),zQ (o++b2.2++[(b5,aZ (aw "list") none (cZ (di b2.1) (aN b2.1)) (di []))]++b9) rest (tr.1,tr.2.1,tr.2.2) cj/\ ∃(bx:List bM),zQ (o++b2.2++[(b5,aZ (aw "list") none (cZ (di b2.1) (aN b2.1)) (di []))]++b9) rest (ot.1,ot.2.1,ot.2.2) bx/\ ∃(dP:bM),gM (o++b2.2++[(b5,aZ (aw "list") none (cZ (di b2.1) (aN b2.1)) (di []))]++b9++rest) (fX (ec bY bt)) dP/\ ∃(cw:bM),gM (o++b2.2++[(b5,aZ (aw "list") none (cZ (di b2.1) (aN b2.1)) (di []))]++b9++rest) (fX (ec (qs cj) (qs bx))) cw/\(!ec dP cw)=false/\K none (St.mk [(sO "told",SV.lit (ae rv)),(sO "items",SV.kn it.1 it.2.1 it.2.2),(sO "others",SV.kn ot.1 ot.2.1 ot.2.2),(sO "trees",SV.kn tr.1 tr.2.1 tr.2.2),(sO "heap",SV.own 0 ha),(sO "fonts",SV.ag (ae fq)),(sO "script",SV.ag (ae q))] [LE.mk ha (SO.lst [li W t1,li c t2] n0) true] (o++b2.2++[(b5,aZ (aw "list") none (cZ (di b2.1) (aN b2.1)) (di []))]++b9) aH)) ?_ ?_
 ·kernel_rfl
 exact ⟨iM,⟨⟨h.m2,by rw [lt];exact aI h.l2 (by decide)⟩,⟨λz p hp=>aq _ hp⟩⟩,pS,λi v z j j ev hj=>(bF.at h.t2 i v ev).elim λt ht=>⟨t,⟨⟨v,fq,rfl,TR.mono (λp hp j=>up1 p hp) _ _ ht.2,lL.mono (λp hp=>ay _ hp) hF⟩,zl h.w2 ht.1,LX ht.1 h.h2⟩,λr tl j gE cq=>Dh LU hj (zJ ht.1) cq gE⟩,λz j hj a hd=>⟨bO iM,LW (k:=0) h.w2 h.l2 h.h2 (LV hj ln),λb tl j gE r=>⟨_,LZ h.w1 h.h1 (RD.mono oR rd),_,LZ h.w2 h.h2 (RD.mono kA r.r),_,L2 (oR _ h.m1) (aI h.l1 (by decide)) h.h1 (tm h.t1),_,L2 (oR _ h.m2) h.l2 h.h2 (tm h.t2),_,LY,_,LY,VH (Q7 h.w1 h.w2),hK _ _ λp hp=>aq _ (aq _ (aq _ hp))⟩⟩⟩
theorem VN {ds:List Nd} {mu:List ac} (tk:af) (hd:lp ds) (nl:fW w.params rest o ds it.1 mu) (rd:RD (o++rest) (.ref rv) (.tuple (bS ds))) (hK:∀v1 v2 jX jY o' b tk,fW w.params rest o' ds it.1 mu->fW w.params rest o' ds v1 jX->fW w.params rest o' ds v2 jY->Dj jX mu->Dj jY mu->Dj jY jX->RD (o'++rest) (.ref rv) (.tuple (bS ds))->K none ⟨gU ha fq q tr ot it rv v1 v2,gV ha W c t1 t2 n0 b v1 v2,o',tk⟩):(nj w rest).fh gm 2 (lm 7 2) ⟨w8 ha fq q tr ot it rv,oQ ha W c t1 t2 n0,o,tk⟩ K:=by
 refine @cD _ (∃(b1:List Nd),zO w.2 (o++rest) b1 [ae it.1]/\ ∀(b2:ac) (b3:Led) (b4:af),cH (o++rest) b3->w6 w.2 (o++rest) b1 b3 b2-> ∃(b7:List Nd),zO w.2 (o++b3++rest) b7 [ae it.1]/\ ∀(b8:ac) (b9:Led) (aH:af),cH (o++b3++rest) b9->w6 w.2 (o++b3++rest) b7 b9 b8-> ∀(bY:ac),∃(bt:List Nd),jH w.2 (o++b3++b9++rest) bt [ae b2]/\ ∀(cj:ac) (bx:Led) (dP:af),cH (o++b3++b9++rest) bx->lX (o++b3++b9++rest) bt bx cj-> ∃(fF:bM),gM (o++b3++b9++bx++rest) (ae cj) fF/\ ∃(jE:bM),gM (o++b3++b9++bx++rest) (ae rv) jE/\(!ec fF jE)=false/\ ∃(fU:List Nd),jH w.2 (o++b3++b9++bx++rest) fU [ae b8]/\ ∀(dQ:ac) (fT:Led) (bG:af),cH (o++b3++b9++bx++rest) fT->lX (o++b3++b9++bx++rest) fU fT dQ-> ∃(eJ:bM),gM (o++b3++b9++bx++fT++rest) (ae dQ) eJ/\ ∃(fE:bM),gM (o++b3++b9++bx++fT++rest) (ae rv) fE/\(!ec eJ fE)=false/\K none (St.mk [(sO "first",SV.lit (ae b2)),(sO "second",SV.lit (ae b8)),(sO "told",SV.lit (ae rv)),(sO "items",SV.kn it.1 it.2.1 it.2.2),(sO "others",SV.kn ot.1 ot.2.1 ot.2.2),(sO "trees",SV.kn tr.1 tr.2.1 tr.2.2),(sO "heap",SV.own 0 ha),(sO "fonts",SV.ag (ae fq)),(sO "script",SV.ag (ae q))] [LE.mk ha (SO.lst [li W t1,li c t2] n0) true,LE.mk bY (SO.tup [SV.lit (ae b2),SV.lit (ae b8)] 0) true] (o++b3++b9++bx++fT) bG)) ?_ ?_
 ·kernel_rfl
 exact ⟨ds,L7 hd nl.nl,λq1 jU z e1 c1=>⟨ds,L7 hd (nl.mono λp hp=>aq _ hp).nl,λq2 tW z e2 c2 b=>⟨ds,uK hd (L8 (λp h=>up1 p (kA p h)) c1),λr3 zU z z x3=>⟨_,lY hd (RD.mono kA x3.r),_,lY hd (RD.mono oR rd),zR,ds,uK hd (L8 (λp h=>up1 p (kA p h)) c2),λr4 Mb z z x4=>⟨_,lY hd (RD.mono kA x4.r),_,lY hd (RD.mono (λp h=>up1 p (oR p h)) rd),zR,
  (L4 (o':=o++jU++tW++zU++Mb) (λp h=>aq _ (aq _ (aq _ h))) c1 e1).elim λjX x1=>(L4 (o':=o++jU++tW++zU++Mb) (λp h=>aq _ (aq _ h)) c2 e2).elim λjY x2=>hK q1 q2 jX jY _ b _ (nl.mono λp h=>aq _ (aq _ (aq _ (aq _ h)))) x1.1 x2.1 (L6 nl e1 x1.2) (L6 (nl.mono λp h=>aq _ h) e2 x2.2) ⟨λx h2 h1=>(ew.mp (x1.2 x h1)).elim λp hp=>(ew.mp (x2.2 x h2)).elim λr hr=>e2 p (aq _ (ay _ hp.1)) r hr.1 (hp.2.trans hr.2.symm)⟩ (RD.mono (λp h=>up1 p (oR p h)) rd)⟩⟩⟩⟩⟩
theorem VO {b:ac} {ds:List Nd} {mu jX jY:List ac} (tk:af) (hd:lp ds) (nl:fW w.params rest o ds it.1 mu) (n1:fW w.params rest o ds v1 jX) (n2:fW w.params rest o ds v2 jY) (j1:Dj mu jX) (j2:Dj jY jX) (rd:RD (o++rest) (.ref rv) (.tuple (bS ds))) (hK:∀o' lZ tk,fW w.params rest o' ds it.1 mu->fW w.params rest o' ds v2 jY->jo w.params rest o' (eB ds++[.dk 1]) v1 lZ->(∀y∈lZ,y∈jX)->RD (o'++rest) (.ref rv) (.tuple (bS ds))->K none ⟨gU ha fq q tr ot it rv v1 v2,gV ha W c t1 t2 n0 b v1 v2,o',tk⟩):(nj w rest).fh gm 2 (lm 9 2) ⟨gU ha fq q tr ot it rv v1 v2,gV ha W c t1 t2 n0 b v1 v2,o,tk⟩ K:=by
 obtain ⟨x,hx,hR⟩:=Ma hd n1
 refine @cD _ (∃(b1:mZ),([ae v1]=[ae b1.2]/\w7 w.2 o rest b1)/\ ∀(b2:Led) (b3:aa) (b4:Nat) (b5:List ac) (b6:af),m8 w.2 rest b1 o b2 b3 b4 b5-> ∃(b8:List Nd),jH w.2 (b2++rest) b8 [ae it.1]/\ ∀(b9:ac) (aH:Led) (bq:af),cH (b2++rest) aH->lX (b2++rest) b8 aH b9-> ∃(bt:bM),gM (b2++aH++rest) (ae b9) bt/\ ∃(cj:bM),gM (b2++aH++rest) (ae rv) cj/\(!ec bt cj)=false/\ ∃(bx:List Nd),jH w.2 (b2++aH++rest) bx [ae v2]/\ ∀(dP:ac) (cw:Led) (fV:af),cH (b2++aH++rest) cw->lX (b2++aH++rest) bx cw dP-> ∃(fU:bM),gM (b2++aH++cw++rest) (ae dP) fU/\ ∃(dQ:bM),gM (b2++aH++cw++rest) (ae rv) dQ/\(!ec fU dQ)=false/\ ∃(fT:List Nd),jH w.2 (b2++aH++cw++rest) fT [ae v1]/\ ∀(bG:ac) (cr:Led) (bu:af),cH (b2++aH++cw++rest) cr->lX (b2++aH++cw++rest) fT cr bG-> ∃(gk:bM),gM (b2++aH++cw++cr++rest) (ae bG) gk/\ ∃(lU:bM),gM (b2++aH++cw++cr++rest) (ae rv) lU/\ec gk lU=false/\K none (St.mk [(sO "first",SV.lit (ae v1)),(sO "second",SV.lit (ae v2)),(sO "told",SV.lit (ae rv)),(sO "items",SV.kn it.1 it.2.1 it.2.2),(sO "others",SV.kn ot.1 ot.2.1 ot.2.2),(sO "trees",SV.kn tr.1 tr.2.1 tr.2.2),(sO "heap",SV.own 0 ha),(sO "fonts",SV.ag (ae fq)),(sO "script",SV.ag (ae q))] [LE.mk ha (SO.lst [li W t1,li c t2] n0) true,LE.mk b (SO.tup [SV.lit (ae v1),SV.lit (ae v2)] 0) true] (b2++aH++cw++cr) bu)) ?_ ?_
 ·kernel_rfl
 exact ⟨x,hx,λo1 v n ms z R1=>have R:=hR o1 v n ms R1;⟨ds,uK hd (R.nl j1 nl).nl,λr1 jU z z x1=>⟨_,lY hd (RD.mono kA x1.r),_,lY hd (RD.mono up1 (R.rd rd)),zR,ds,uK hd (zT up1 (R.nl j2 n2).nl),λr2 tW z z x2=>⟨_,lY hd (RD.mono kA x2.r),_,lY hd (RD.mono (λp h=>up1 p (up1 p h)) (R.rd rd)),zR,_,EB hd (zT (λp h=>up1 p (up1 p h)) (R.own.elim λlZ h=>h.1.nl)),λr3 zU z z x3=>⟨_,EC hd (RD.mono kA x3.r),_,lY hd (RD.mono oR (R.rd rd)),Vs,R.own.elim λlZ h=>hK _ lZ _ ((R.nl j1 nl).mono EA) ((R.nl j2 n2).mono EA) (h.1.mono EA) h.2 (RD.mono oR (R.rd rd))⟩⟩⟩⟩⟩
theorem VP {b:ac} {ds:List Nd} {mu jY lZ:List ac} (tk:af) (hd:lp ds) (nl:fW w.params rest o ds it.1 mu) (n2:fW w.params rest o ds v2 jY) (n3:jo w.params rest o (eB ds++[.dk 1]) v1 lZ) (j2:Dj jY mu) (j3:Dj lZ mu) (rd:RD (o++rest) (.ref rv) (.tuple (bS ds))) (hK:∀o' zV tk,fW w.params rest o' ds v2 jY->jo w.params rest o' (eB ds++[.dk 1]) v1 lZ->jo w.params rest o' (eB ds++[.dk 1]) it.1 zV->RD (o'++rest) (.ref rv) (.tuple (bS ds))->K none ⟨gU ha fq q tr ot it rv v1 v2,gV ha W c t1 t2 n0 b v1 v2,o',tk⟩):(nj w rest).fh gm 2 (lm 11 1) ⟨gU ha fq q tr ot it rv v1 v2,gV ha W c t1 t2 n0 b v1 v2,o,tk⟩ K:=by
 obtain ⟨x,hx,hR⟩:=Ma hd nl
 refine @cD _ (∃(b1:mZ),([ae it.1]=[ae b1.2]/\w7 w.2 o rest b1)/\ ∀(b2:Led) (b3:aa) (b4:Nat) (b5:List ac) (b6:af),m8 w.2 rest b1 o b2 b3 b4 b5->K none (St.mk [(sO "first",SV.lit (ae v1)),(sO "second",SV.lit (ae v2)),(sO "told",SV.lit (ae rv)),(sO "items",SV.kn it.1 it.2.1 it.2.2),(sO "others",SV.kn ot.1 ot.2.1 ot.2.2),(sO "trees",SV.kn tr.1 tr.2.1 tr.2.2),(sO "heap",SV.own 0 ha),(sO "fonts",SV.ag (ae fq)),(sO "script",SV.ag (ae q))] [LE.mk ha (SO.lst [li W t1,li c t2] n0) true,LE.mk b (SO.tup [SV.lit (ae v1),SV.lit (ae v2)] 0) true] b2 b6)) ?_ ?_
 ·kernel_rfl
 exact ⟨x,hx,λo1 v n ms z R1=>have R:=hR o1 v n ms R1;R.own.elim λzV h=>hK o1 zV _ (R.nl j2 n2) (R.nk j3 n3) h.1 (R.rd rd)⟩
end
end
section
open PySem.Spec PySem.Calls
section
variable {prog:cP} {w:ah} {A:bZ} {R:kB->ak->Prop} {E:aa->ak->Prop} {h:bA} {g:Array GenState} {d:Drawn} {t:Nat} {os:ei}
variable {nm q:ai} {C N:ac} {bs bm ED:List aa} {lq:Bool} {sn:List ai} {sub:List aa} {ab:Bool} {col:Option Bool} {dd:Option ac} {k0 k1 k2 k3 k5:Option aa} {B newId EE:String}
theorem VR (F:ExcBaseFacts B newId EE ED) (hb:bm.contains (.type B)=true) (ha:bm.contains (.type "AttributeError")=false) (hn:bm.contains (.type "NameError")=false) {rest:List aa} (hC:h.get? C=some (uZ nm q C N bs bm lq sn sub ab col dd k0 k1 k2 k3 k5 newId))
  (hq:R (.ok (.ret (.ref (h.objs.size+1)))) ⟨(h.push {cls:=.type "tuple",data:=.seq rest.toArray}).push
   {cls:=.ref C,data:=.fields #[.ref h.objs.size,.none,.none,.none,.bool false,.none]},g,d,t,os⟩) (uL:rest.length<=sizeLine):
  codeAny (aG prog w) A (.builtin newId ⟨.ref C::rest,[]⟩) R ⟨h,g,d,t,os⟩:=by
 have he:=F.ends
 have c1:(ae C::bm).contains (.type B)=true:=by rw [xD,hb,Bool.or_true]
 have c2:(ae C::bm).contains (.type "AttributeError")=false:=by rw [xD,ha];rfl
 have c3:(ae C::bm).contains (.type "NameError")=false:=by rw [xD,hn];rfl
 refine codeAny_builtinAt F.entry ?_
 unfold Builtin.«BaseException.__new__»
 refine PySem.wpAt_bind ?_
 show PySem.wpAt _ _ _ (stack>>=_) _ _ _
 refine PySem.wpAt_bind (PySem.wpAt_stack λp below=>PySem.wpAt_of_wpAny ?_)
 wp_walk
 refine PySem.wpAt_of_wpAny ?_
 rw [F.owner]
 repeat (first|with_reducible refine wpAny_madeHere_exc F.canon hC ?_|with_reducible refine sy hC ?_|(with_reducible refine Ai hC ?_;first|rw [c1]|rw [c2]|rw [c3])|wp_step)
 show R _ _
 rw [mo]
 exact hq
theorem VS (F:ExcBaseFacts B newId EE ED) (hb:bm.contains (.type B)=true) (ha:bm.contains (.type "AttributeError")=false) (EF:bm.contains (.type "NameError")=false) {rest:List aa} {fI:ac} {oI:av} {Q:Fin->ak->Prop}
  (hC:h.get? C=some (uZ nm q C N bs bm lq sn sub ab col dd k0 k1 k2 k3 k5 newId))
  (hl:∀h',(∀b o,h.get? b=some o->h'.get? b=some o)->Looks (aG prog w) h' (typeLookup (.ref C) "__init__") (some (.ref fI)))
  (EG:h.get? fI=some oI) (EH:oI.cls= .type "function")
  (hq:∀h' e,Heap.MadeExcOf h h' e (.ref C) rest->e=h.objs.size+1->h'=(h.push {cls:=.type "tuple",data:=.seq rest.toArray}).push {cls:=.ref C,data:=.fields #[.ref h.objs.size,.none,.none,.none,.bool false,.none]}->
   aC (aG prog w) A (call (.ref fI) (.ref e::rest)) (λr s'=>r= .none/\Q (.done (.ret (.ref e))) s') E ⟨h',g,d,t,os⟩) (uL:rest.length<=sizeLine) {K:eE} (X:K.In h) (EI:∀S,peek K S (checkBuiltinCall newId ⟨.ref C::rest,[]⟩)=some ()):
  aC (aG prog w) A (Builtin.«type.__call__» ⟨.ref C::rest,[]⟩) Q E ⟨h,g,d,t,os⟩:=by
 repeat (first|with_reducible refine sy hC ?_|with_reducible refine wpAny_madeBy_exc hC ?_|wp_step)
 refine codeAny_call_builtin_code (Code.quiet_builtin _ F.quiet) ((Looks.of_peek X (EI _)).here ?_)
 refine VR F hb ha EF hC ?_ uL
 show aC _ _ _ _ _ _
 have k:∀b o,h.get? b=some o->((h.push {cls:=.type "tuple",data:=.seq rest.toArray}).push {cls:=.ref C,data:=.fields #[.ref h.objs.size,.none,.none,.none,.bool false,.none]}).get? b=some o:=
  λb o e=>gO _ (gO _ e)
 have VT:=k _ _ hC
 have VU:=k _ _ EG
 have Mc:((h.push {cls:=.type "tuple",data:=.seq rest.toArray}).push
   {cls:=.ref C,data:=.fields #[.ref h.objs.size,.none,.none,.none,.bool false,.none]}).get? (h.objs.size+1)=some
   {cls:=.ref C,data:=.fields #[.ref h.objs.size,.none,.none,.none,.bool false,.none]}:=by heap_get
 have VV:(ae C::bm).contains (.ref C)=true:=by simp
 unfold isInstance
 repeat (first|with_reducible refine sy Mc ?_|(with_reducible refine Ai VT ?_;rw [VV])|wp_step)
 show aC _ _ (typeLookup (.ref C) _) _ _ _
 refine (hl _ k).here ?_
 refine wpAny_holding (bC ?_)
 unfold bindSpecial
 refine bC (sx (T:="function") ⟨_,VU,EH⟩ ?_)
 rw [if_pos (by decide)]
 refine dR (bC (gx (hq _ (h.objs.size+1) ⟨k,xH (sI _),h.objs.size,Mc,xH (cS _),gO _ (Heap.get?_push_at rfl rfl)⟩ rfl rfl) (λr s' hr=> ?_) λz z x=>x))
 obtain ⟨rfl,hQ⟩:=hr
 wp_walk
 exact hQ
theorem VW (F:ExcBaseFacts B newId EE ED) (hb:bm.contains (.type B)=true) (ha:bm.contains (.type "AttributeError")=false) (EF:bm.contains (.type "NameError")=false) {rest:List aa} {fI:ac} {oI:av} {Q:aa->ak->Prop}
  (hC:h.get? C=some (uZ nm q C N bs bm lq sn sub ab col dd k0 k1 k2 k3 k5 newId))
  (hl:∀h',(∀b o,h.get? b=some o->h'.get? b=some o)->Looks (aG prog w) h' (typeLookup (.ref C) "__init__") (some (.ref fI)))
  (EG:h.get? fI=some oI) (EH:oI.cls= .type "function")
  (hq:∀h' e,Heap.MadeExcOf h h' e (.ref C) rest->e=h.objs.size+1->h'=(h.push {cls:=.type "tuple",data:=.seq rest.toArray}).push {cls:=.ref C,data:=.fields #[.ref h.objs.size,.none,.none,.none,.bool false,.none]}->
   aC (aG prog w) (A.under (.builtin "type.__call__" ⟨.ref C::rest,[]⟩)) (call (.ref fI) (.ref e::rest)) (λr s'=>r= .none/\Q (.ref e) s') E ⟨h',g,d,t,os⟩) (uL:rest.length<=sizeLine) {K:eE} (X:K.In h) (EI:∀S,peek K S (checkBuiltinCall newId ⟨.ref C::rest,[]⟩)=some ()):
  aC (aG prog w) A (call (.ref C) rest) Q E ⟨h,g,d,t,os⟩:=by
 have f1:=tc_lookup
 have f2:=tc_bind (.ref C)
 have hT:(⟨h,g,d,t,os⟩:ak).TypeIs (.ref C) "type":=⟨_,hC,rfl⟩
 refine oX (codeAny_of_tree ?_)
 show aC _ _ (callAny (.ref C) _) _ _ _
 repeat (any_goals (first|assumption|with_reducible refine sy hC ?_|wp_step))
 refine ⟨rfl, ?_⟩
 refine codeAny_call_builtin_at (Code.quiet_builtin _ (by decide+kernel)) entry_typeCall (wpAny_check_type_call_sub hC (VS F hb ha EF hC hl EG EH (λh' e hm e1 e2=> ?_) uL X EI))
 exact hq h' e hm e1 e2
end
end
section
open PySem.Spec PySem.Calls
section
open PySem.Builtin PySem.Builtin.ObjectAttr
variable {prog:cP} {w:ah} {A:bZ} {E:aa->ak->Prop} {s:ak} {h₀:bA} {L:ac} {m:ai->Option aa} {K:eE} {C x:ac} {vs:Array aa} {name:ai} {v:aa} {cd:ClassData} {r:List (ac×av)} {Q:Unit->ak->Prop}
theorem VX (F:Fr h₀ L s.heap m) (sZ:K.In h₀) (N:aU h₀ L s.heap ((x,(⟨.ref C,none,.fields vs,#[]⟩:av))::r)) (hr:∀p∈r,p.1≠x) (hc:clsIn K C=some cd) (lq:cd.hasDict=true)
  (VY:refuseLoop (.ref x) "__setattr__" cd.mro=pure ()) (bI:cd.mro.isEmpty=false) (VZ:cd.mro.contains (.type "object")=true)
  (hs:findIn K (.ref C) "__setattr__"=some (some (.builtin "object.__setattr__"))) (ht:takerIn K C name=some none)
  (h:∀h' dx tk,Fr h₀ L h' m->aU h₀ L h' ((x,(⟨.ref C,some dx,.fields vs,#[]⟩:av))::r)->Q () {s with heap:=h',toks:=tk}):
  aC (aG prog w) A (setAttr (.ref x) name v) Q E s:=by
 obtain ⟨hp,g,dr,t,os⟩:=s
 dsimp only at F N
 have SF:=PySem.F.store_object
 have hx:=(N _ (.head _)).1
 have X:=sZ.keeps F.keep
 have I:InstAt hp x ⟨.ref C,none,.fields vs,#[]⟩ C none:=⟨hx,rfl,rfl,trivial⟩
 refine set_plain X I hs ?_
 have sub:Looks (aG prog w) hp (isInstance (.ref x) (.type "object")) true:=I.type.andThen (looks_mroIn X (by unfold mroIn;rw [hc,Option.bind_some,d7 (by rw [bI];decide),VZ]))
 refine codeAny_call_builtin SF.slot.plain SF.entry (@check_slot (aG prog w) _ _ ⟨hp,g,dr,t+1,os⟩ "object.__setattr__" "object" "__setattr__" (.ref x) [.str name t,v] [] _ SF.kind SF.split sub (SF.args (.ref x) (.str name t) v) ?_)
 obtain ⟨attr,ha,V0⟩:=Option.bind_eq_some_iff.mp ht
 have hm:Looks (aG prog w) hp (mroOf (.ref C)) cd.mro:=(looks_clsIn X hc).andThen .now
 have L3:Looks (aG prog w) hp (storeTaker? attr) none:=by
  cases attr with
  |none=>exact .now
  |some a=>
   obtain ⟨b,hb,e⟩:=iz.mp V0
   refine (looks_takesIn X hb).andThen ?_
   cases b
   ·exact .now
   ·cases e
 rw [osa_eq,refuse_eq]
 refine bC (bC (I.type.here (bC (hm.here ?_))))
 rw [VY]
 refine dR (bC (I.type.here (bC ((looks_findIn X ha).here (bC (L3.here ?_))))))
 refine bC (dR (bC (bC (wpAny_loadPart hx (bC ((looks_clsIn X hc).here ?_))))))
 rw [lq]
 have iF:=fH hx
 have V1:(hp.push {cls:=.type "dict",data:=.dict #[]}).get? x=some ⟨.ref C,none,.fields vs,#[]⟩:=gO _ hx
 refine bC (wpAny_alloc (bC (wpAny_update V1 (dR ?_))))
 have Me:x≠hp.objs.size:=cL iF
 have V2:((hp.push {cls:=.type "dict",data:=.dict #[]}).update x λo=>{cls:=o.cls,dict:=some hp.objs.size,data:=o.data,slots:=o.slots}).get? hp.objs.size
   =some {cls:=.type "dict",data:=.dict #[]}:=(Heap.get?_update_ne _ _ _ _ Me.symm).trans (Heap.get?_push_at rfl rfl)
 have bn:((hp.push {cls:=.type "dict",data:=.dict #[]}).update x λo=>{cls:=o.cls,dict:=some hp.objs.size,data:=o.data,slots:=o.slots}).Ns hp.objs.size (λy=>none):=
  ⟨_,#[],_,V2,rfl,λe he=>absurd he (by simp),λy=>rfl⟩
 show aC _ _ (storeInDict hp.objs.size (.str name t) name v) _ _ _
 unfold storeInDict newKeyGuard
 refine bC (dR (bC (wpAny_nsSet1 (Heap.Ns1.of_empty bn) λh' V3 tZ=> ?_)))
 obtain ⟨oD,Yp,Yq,V4,V5,V6⟩:=V3.count (Within.cons name v Within.nil)
 refine bC (wpAny_lookBehind V4 (by rw [V5];exact pastItsLine_dict (aI V6 (by rw [List.length_cons,List.length_nil,l7];omega))) ?_)
 obtain ⟨F1,N1⟩:=news_upd (pre:=[]) (post:=r) (f:=λo=>{cls:=o.cls,dict:=some hp.objs.size,data:=o.data,slots:=o.slots}) (o':=⟨.ref C,some hp.objs.size,.fields vs,#[]⟩) (F.push _) (N.pushKeep {cls:=.type "dict",data:=.dict #[]}) (λy h=>nomatch h) hr rfl rfl
 have hL:hp.objs.size≠L:=by
  obtain ⟨oL,z,z,V7,z⟩:=F.ns
  exact jb (cL (fH V7))
 have h0:h₀.get? hp.objs.size=none:=by
  cases q:h₀.get? hp.objs.size with
  |none=>rfl
  |some o=>exact absurd (fH (F.keep _ _ q)) (xr _)
 exact dR (h h' _ _ (F1.change tZ hL h0) (λp hq=>⟨(tZ.2 _ (by
  rcases bj.mp hq with rfl|hq
  ·exact Me
  ·exact cL (fH (N p (.tail _ hq)).1))).trans (N1 p hq).1,(N1 p hq).2⟩))
end
end
section
open PySem.Spec PySem.Calls
noncomputable abbrev zW (C dx t:ac):Obj:=⟨.ref C,some dx,.fields #[.ref t,.none,.none,.none,.bool false,.none],#[]⟩
inductive EJ (E:aa->ak->Prop) (s₁:ak):aa->Prop
 |mk {e C dx t nm q N bs bm lq sn sub ab col dd k0 k1 k2 k3 k5 newId} (hC:s₁.heap.get? C=some (uZ nm q C N bs bm lq sn sub ab col dd k0 k1 k2 k3 k5 newId)) (hb:bm.contains (.type "BaseException")=true) (he:s₁.heap.get? e=some (zW C dx t)) (hE:E (.ref e) s₁):EJ E s₁ (.ref e)
section
variable {M:Model} {A:bZ} {E:aa->ak->Prop} {s:ak} {env:cu}
theorem V8 {e:az} {pos:aW} {Q:eK->ak->Prop} (hh:A.handled=none)
  (h:aC M A (eD e env) (λv s₁=>EJ E s₁ v) E s):aC M A (exec (.Raise (some e) none pos) env) Q E s:=by
 show aC M A (do standAt pos;raiseStmt env (some (do let v <-eD e env;standAt pos;pure v)) none) Q E s
 refine bC (xn ?_)
 unfold raiseStmt
 refine bC (bC (gx h (λv s₁ aS=>bC (xn (dR ?_))) λz z x=>x))
 obtain @⟨e,C,dx,t,nm,q,N,bs,bm,lq,sn,sub,ab,col,dd,k0,k1,k2,k3,k5,newId,hC,V9,he,hE⟩:=aS
 have Wa:(ae C::bm).contains (.type "BaseException")=true:=by rw [xD,V9,Bool.or_true]
 obtain ⟨hp,g,d,tk,os⟩:=s₁
 repeat (first|with_reducible refine sy he ?_|with_reducible refine sy hC ?_|(with_reducible refine Ai hC ?_;rw [Wa])|wp_step)
 exact wpAny_raiseNew_none hh hE
end
section
variable {M:Model} {A:bZ} {E:aa->ak->Prop} {s':ak} {base g:bA} {outer:List cu} {L a e t C dx:ac} {m:ai->Option aa} {name:ai} {scope:bD} {cd:aa} {Q:Unit->ak->Prop} {news:List (ac×av)} {args:List aa}
theorem Wb (K:fx A base outer g) (F:Fr g L s'.heap m) (N:aU g L s'.heap ((e,zW C dx t)::(t,(⟨.type "tuple",none,.seq args.toArray,#[]⟩:av))::news)) (bI:∀p∈news,p.1≠e/\p.1≠t)
  (hQ:∀h',me base g outer e (.ref C) t args news h'->g.UpToSlots h'->Q () {s' with heap:=h'}) (hk:scope.kind= .function:=by rfl):
  aC M (A.deeper (gz name scope L a cd)) (qm (gz name scope L a cd) (.ref e)) Q E s':=by
 have K':=K.push (name:=name) (a:=a) (cd:=cd) F hk
 have ne:g.get? e=none:=(N _ (.head _)).2.2
 have nt:g.get? t=none:=(N _ (.tail _ (.head _))).2.2
 have Wc:∀env∈(gz name scope L a cd::outer),∀b,env.frame=some b->b∈e::t::(gz name scope L a cd::outer).filterMap (·.frame):=λenv he b hb=>.tail _ (.tail _ (AC.mpr ⟨env,he,hb⟩))
 have out:∀b,b∈e::t::(gz name scope L a cd::outer).filterMap (·.frame)->base.get? b=none:=λb hm=>by
  rcases bj.mp hm with rfl|hm
  ·exact xu K.stays ne
  rcases bj.mp hm with rfl|hm
  ·exact xu K.stays nt
  ·exact (K'.frames.mem hm).1
 have st:base.StaysIn (hideAll s'.heap (e::t::(gz name scope L a cd::outer).filterMap (·.frame))):=λb o q=>o7 _ (K'.stays b o q) λhm=>by
  rw [out b hm] at q
  cases q
 have sg:∀b o,g.get? b=some o->b∉outer.filterMap (·.frame)->(hideAll s'.heap (e::t::(gz name scope L a cd::outer).filterMap (·.frame))).get? b=some o:=λb o q nm=>o7 _ (F.keep b o q) λhm=>by
  rcases bj.mp hm with rfl|hm
  ·rw [ne] at q;cases q
  rcases bj.mp hm with rfl|hm
  ·rw [nt] at q;cases q
  rcases kts_mem hm with z|z
  ·rw [z,kts_self F] at q
   cases q
  ·exact nm z
 have hl:∀q∈news,(hideAll s'.heap (e::t::(gz name scope L a cd::outer).filterMap (·.frame))).get? q.1=some q.2/\g.get? q.1=none/\base.get? q.1=none:=λq hq=>by
  have z:=N q (.tail _ (.tail _ hq))
  refine ⟨o7 _ z.1 λhm=> ?_,z.2.2,xu K.stays z.2.2⟩
  rcases bj.mp hm with h|hm
  ·exact (bI q hq).1 h
  rcases bj.mp hm with h|hm
  ·exact (bI q hq).2 h
  rcases kts_mem hm with h|hm
  ·exact z.2.1 h
  ·obtain ⟨o,ho,y⟩:=(K.frames.mem hm).2
   rw [z.2.2] at ho
   cases ho
 have Mf:(hideAll s'.heap (e::t::(gz name scope L a cd::outer).filterMap (·.frame))).get? e=none:=xw _ (.head _)
 have Wd:(hideAll s'.heap (e::t::(gz name scope L a cd::outer).filterMap (·.frame))).get? t=none:=xw _ (.tail _ (.head _))
 have he:=(N _ (.head _)).1
 have ht:=(N _ (.tail _ (.head _))).1
 refine wpAny_leaving_firstW (a0:=.ref t) K'.stack (funFrames_hide K'.frames Wc) rfl he (λb o q=>of_hideAll _ q) Mf rfl rfl rfl λh' hL=> ?_
 obtain ⟨k1,⟨y,y,k2⟩,k3,k4⟩:=hL
 exact hQ h' ⟨⟨_,st,sg,hl,⟨k1,Mf,k2,k3⟩,Wd⟩,Heap.TupAt.of_slots ⟨_,_,ht,rfl,rfl⟩ k4⟩ ((Heap.UpToSlots.of_keeps F.keep).trans k4)
end
end
section
open PySem.Spec PySem.Calls
theorem Mg (P:aB):∃nm q N bs bm lq sn sub ab col dd k0 k1 k2 k3 k5,(KK P).lookup 88=some (uZ nm q 88 N bs bm lq sn sub ab col dd k0 k1 k2 k3 k5 "ValueError.__new__")/\bm.contains (.type "ValueError")=true/\bm.contains (.type "AttributeError")=false/\bm.contains (.type "NameError")=false/\bm.contains (.type "BaseException")=true:=
 ⟨_,_,_,_,_,_,_,_,_,_,_,_,_,_,_,_,rfl,by decide,by decide,by decide,by decide⟩
theorem We (P:aB):findIn (KK P) (.ref 88) (aF "__init__")=some (some (.ref 36)):=by kernel_rfl
theorem Wf (P:aB):findIn (KK P) (.ref 88) (aF "__setattr__")=some (some (.builtin "object.__setattr__")):=by kernel_rfl
theorem Wg (P:aB):takerIn (KK P) 88 (aF "reason")=some none:=by kernel_rfl
theorem Wh (P:aB):∃cd,clsIn (KK P) 88=some cd/\cd.hasDict=true/\(∀x,refuseLoop (.ref x) (aF "__setattr__") cd.mro=pure ())/\cd.mro.isEmpty=false/\cd.mro.contains (.type "object")=true:=
 ⟨_,rfl,rfl,λx=>by rw [refuseLoop_ref,refuseLoop_ref];exact PySem.F.store_ValueError.passes (.ref x),rfl,by decide⟩
section
variable {w:ah} {A:bZ} {R:kB->ak->Prop} {E:aa->ak->Prop} {i8:bA} {L:ac} {m:ai->Option aa} {news:List (ac×av)} {s:ak} {rest:List aa} {Q:aa->ak->Prop}
theorem Wi (F:Fr i8 L s.heap m) (X:(KK w.params).In i8) (N:aU i8 L s.heap news) (uL:rest.length<=sizeLine)
  (hq:∀e t h',Fr i8 L h' m->aU i8 L h' ((e,(⟨.ref 88,none,.fields #[.ref t,.none,.none,.none,.bool false,.none],#[]⟩:av))::(t,(⟨.type "tuple",none,.seq rest.toArray,#[]⟩:av))::news)->(∀p∈news,p.1<t)-> @LT.lt Nat _ t e->
   aC (aG rw_sq0062_01.row.prog w) (A.under (.builtin "type.__call__" ⟨.ref 88::rest,[]⟩)) (call (.ref 36) (.ref e::rest)) (λr s'=>r= .none/\Q (.ref e) s') E {s with heap:=h'}):
  aC (aG rw_sq0062_01.row.prog w) A (call (.ref 88) rest) Q E s:=by
 obtain ⟨hp,g,d,t,os⟩:=s
 have X':=X.keeps F.keep
 obtain ⟨nm,q,NN,bs,bm,lq,sn,sub,ab,col,dd,k0,k1,k2,k3,k5,hC,b1,b2,b3,b4⟩:=Mg w.params
 obtain ⟨Yr,sW,Wj⟩:∃o,(KK w.params).lookup 36=some o/\o.cls= .type "function":=⟨_,rfl,rfl⟩
 refine VW PySem.F.excBase_ValueError b1 b2 b3 (X' _ _ hC) (λh' k=>looks_findIn (X'.keeps k) (We w.params)) (X' _ _ sW) Wj (λh' e hm e1 e2=> ?_) uL X' λz=>by kernel_rfl
 subst e1 e2
 have N2:=(N.push F {cls:=.type "tuple",data:=.seq rest.toArray}).push (F.push _) {cls:=.ref 88,data:=.fields #[.ref hp.objs.size,.none,.none,.none,.bool false,.none]}
 rw [mo] at N2
 exact hq (hp.objs.size+1) hp.objs.size _ ((F.push _).push _) N2 (λp hp=>fH (N p hp).1) (qv _)
theorem Wk {Q:Unit->ak->Prop} {x t:ac} {v:aa} (F:Fr i8 L s.heap m) (X:(KK w.params).In i8) (N:aU i8 L s.heap ((x,(⟨.ref 88,none,.fields #[.ref t,.none,.none,.none,.bool false,.none],#[]⟩:av))::news)) (hr:∀p∈news,p.1≠x)
  (h:∀h' dx tk,Fr i8 L h' m->aU i8 L h' ((x,zW 88 dx t)::news)->Q () {s with heap:=h',toks:=tk}):
  aC (aG rw_sq0062_01.row.prog w) A (setAttr (.ref x) (aF "reason") v) Q E s:=by
 obtain ⟨cd,hc,h1,h2,h3,h4⟩:=Wh w.params
 exact VX F X N hr hc h1 (h2 x) h3 h4 (Wf w.params) (Wg w.params) h
theorem Wl {s₁:ak} {e dx t:ac} (F:Fr i8 L s₁.heap m) (X:(KK w.params).In i8) (he:s₁.heap.get? e=some (zW 88 dx t)) (h:E (.ref e) s₁):EJ E s₁ (.ref e):=by
 have X':=X.keeps F.keep
 obtain ⟨nm,q,NN,bs,bm,lq,sn,sub,ab,col,dd,k0,k1,k2,k3,k5,hC,b1,b2,b3,b4⟩:=Mg w.params
 exact .mk (X' _ _ hC) b4 he h
end
end
section
local macro_rules | `(tactic| walk_at "exec Raise some none") => `(tactic| (k_here; k_dflt (refine' V8 ?h ?_; (case h => rfl); k_whole)))
local macro_rules | `(tactic| walk_at "setAttr ref") => `(tactic| (k_here; refine BA ?_))
theorem Wm {w:ah} {p:cP} {loose:List ai} {bH:gp->Option aa} {mg mb:ai->Option aa} {dp un:Nat} {gd:Option (List gN)} {cn:ai} {cs:bD} {a:ac} {bX:aa} {cl:List (ai×ac)} {outer:List cu} {A₀:bZ} {base h₀:bA} {L:ac} {m:ai->Option aa} {news:Led} {s:ak} {Q E:aa->ak->Prop} {depth:Int} {t:af} (kU:60<depth) (B:fx A₀ base outer h₀) (F:Fr h₀ L s.heap m) (X:(KK w.params).In h₀) (N:aU h₀ L s.heap news) (T:Top p loose bH mg mb h₀) (hk:cs.kind= .function) (hd:dp+10<recursionLimit) (hu:un+80<cLine)
  (zX:∀e t ws g h' bQ,Fr h₀ L g m->me base g (envX cn cs L a bX cl::outer) e (.ref 88) t ws news h'->g.UpToSlots h'->E (.ref e) {s with heap:=h',toks:=bQ}):
  aC (aG rw_sq0062_01.row.prog w) (gy dp un gd cn cs L a bX cl outer) (call (.ref 688) [.int depth t]) Q E s:=by
 revert X;k_fill;intro X
 refine oX ?_
 k_dflt (refine' enter (K:=KK w.params) (binds:=[(aF "depth",.int depth t)]) (by k_asm) (by k_asm) (by k_asm) (by k_asm) (by k_asm) rfl rfl (by assumption) rfl (by k_is) (by ktr_room) (vp rfl) (locs rfl) rfl ?_ rfl rfl rfl (by decide);k_whole;intro z z z z z z z z z z;(try dsimp only);(try k_fold))
 k_steps
 unfold Stop
 rename Fr h₀ L _ _=>FG
 rename Fr _ _ _ _=>F5
 rename aU _ _ _ _=>N5
 rename fx _ _ _ _=>B5
 rename AM _ _=>X5
 rename Top _ _ _ _ _ _=>T5
 refine Wi F5 X5 N5 (by rw [l7];exact dB rfl) λe1 t1 h1 F1 N1 l1 l2=> ?_
 clear F5 N5
 k_steps
 unfold Stop
 rename Fr _ _ _ _=>F6
 rename aU _ _ _ _=>N6
 rename AM _ _=>X6
 refine Wk F6 X6 N6 (λp hp=> ?_) λh' dx tk F7 N7=> ?_
 ·rcases bj.mp hp with rfl|hp
  ·exact cL l2
  ·exact cL (nF (l1 p hp) l2)
 clear F6 N6
 k_steps
 rename Fr _ _ _ _=>Mh
 rename aU _ _ _ _=>Mi
 refine Wl Mh X5 (Mi _ (.head _)).1 ?_
 exact Wb (args:=[.str (aF "lists within lists") _]) B5 Mh Mi (λp hp=>⟨cL (nF (l1 p hp) l2),cL (l1 p hp)⟩) (λh2 R U=>zX _ _ _ _ _ _ FG R U)
end
section
open PySem.Spec PySem.Calls
section
variable {M:Model} {A:bZ} {E:aa->ak->Prop} {s:ak}
theorem Wn {env uQ:cu} (e:aa) (h:uQ.frame=env.frame):noteFrame e uQ=noteFrame e env:=by
 unfold noteFrame PySem.frameOf
 rw [h]
theorem EK {h base:bA} {e:ac} {cls a0 fl:aa} {P:Prop} (H:h.TracedAtW base e cls a0 fl) (k:∀oe vs T oT ts,h.get? e=some oe->(oe.cls=cls/\vs[0]? =some a0)->oe.data= .fields vs->vs[1]? =some (.ref T)->base.get? T=none->T≠e->h.get? T=some oT->oT.data= .fields ts->ts[3]? =some fl->P):P:=by
 obtain ⟨oe,vs,T,oT,ts,he,hc,hd,h1,oS,qj,hT,lr,h3⟩:=H
 exact k oe vs T oT ts he hc hd h1 oS qj hT lr h3
theorem Wo {base:bA} {env:cu} {outer:List cu} {L e:ac} {cls a0 fl:aa} {Q:Unit->ak->Prop} (uR:A.frames=some (env::outer)) (hl:s.heap.FunFrames base (env::outer)) (hf:env.frame=some L)
  (ht:s.heap.TracedAtW base e cls a0 fl) (bI:(fl==rawInt L)=false) (zY:base.StaysIn s.heap) (xa:base.get? e=none)
  (h:∀h',Heap.NotedW base (env::outer) e cls a0 (rawInt L) s.heap h'->Q () {s with heap:=h'}):aC M A (noteFrame (.ref e) env) Q E s:=by
 refine EK ht λoe vs T oT ts he hc hd h1 oS qj hT lr h3=> ?_
 have h0:=hc.2
 cases hc.1
 unfold noteFrame
 simp only [hf]
 refine bC (ny he hd h1 ?_)
 rw [if_pos (show(ae T !=aY)=true from by simp)]
 refine bC (ny hT lr h3 ?_)
 rw [d7 (show¬((fl==rawInt L)=true) from by rw [bI];decide)]
 refine bC (wpAny_setField hT lr (sU.mp h3).1 ?_)
 have other:∀b,b≠T->(s.heap.update T (Obj.mapFields (·.setIfInBounds 3 aY))).get? b=s.heap.get? b:=λb hb=>Heap.get?_update_other _ _ (jb hb)
 have uU:∀b o,s.heap.get? b=some o->(∀vs,o.data≠ .fields vs)->b≠T:=λb o hb nu q=>by
  rw [q,hT] at hb;injection hb with hb;subst hb;exact nu ts lr
 refine wpAny_entryW uR (hl.of_keeps λb o hb nu=>⟨o,(other b (uU b o hb nu)).trans hb,rfl⟩) hf ((other e (jb qj)).trans he)
  (λb o sj=>(other b λq=>by rw [q,oS] at sj;cases sj).trans (zY b o sj)) xa hd (sU.mp h1).1 h0
  λh' ⟨x1,x2,x3,x4⟩=>h h' ⟨x1,x2,x3,λb o hb nu=>x4 b o ((other b (uU b o hb nu)).trans hb) nu⟩
theorem Wp {base:bA} {env:cu} {outer:List cu} {L e:ac} {cls a0 fl:aa} {Q:Unit->ak->Prop} (uR:A.frames=some (env::outer)) (hf:env.frame=some L) (hl:s.heap.FunFrames base (env::outer))
  (ht:s.heap.TracedAtW base e cls a0 fl) (zY:base.StaysIn s.heap) (xa:base.get? e=none)
  (hQ:∀h',Heap.FlyingW base outer e cls a0 h'->s.heap.UpToSlots h'->Q () {s with heap:=h'}):aC M A (qm env (.ref e)) Q E s:=by
 unfold qm
 by_cases hq:(fl==rawInt L)=true
 ·have ur:fl=rawInt L:=by simpa using hq
  subst ur
  refine bC (wpAny_noteFrame_againW hf ht ?_)
  refine wpAny_setFlight_noneW zY hl ht λh' k1 k2 k3 k4=> ?_
  obtain ⟨z,z,k2⟩:=k2
  exact hQ h' ⟨k1,xa,k2,k3⟩ (λb o hb hn=>⟨o.slots,k4 b o hb hn⟩)
 ·refine bC (Wo uR hl hf ht (by simpa using hq) zY xa λh1 ⟨x1,x2,x3,x4⟩=> ?_)
  refine wpAny_setFlight_noneW (s:={s with heap:=h1}) x1 x2 x3 λh' k1 k2 k3 k4=> ?_
  obtain ⟨z,z,k2⟩:=k2
  exact hQ h' ⟨k1,xa,k2,k3⟩ (λb o hb hn=>by
   obtain ⟨sl,hs⟩:=x4 b o hb hn
   exact ⟨sl,k4 b _ hs hn⟩)
end
theorem Mj {B h h2:bA} {C:ac} (hC:B.get? C≠none) (hs:∀b,b≠C->h2.get? b=h.get? b):∀{l:List cu},h.FunFrames B l->h2.FunFrames B l
 |[],z=>trivial
 |z::y,⟨hk,⟨L,o,hf,hn,ho,hd⟩,hr⟩=>⟨hk,⟨L,o,hf,hn,(hs L λq=>hC (by rw [<-q];exact hn)).trans ho,hd⟩,Mj hC hs hr⟩
section
variable {M:Model} {A A₀:bZ} {s':ak} {base i8 G:bA} {env:cu} {outer:List cu} {L e t C:ac} {cls:aa} {ws:List aa} {oC:av} {m m₂:ai->Option aa} {news:List (ac×av)}
theorem Wq (uR:A.frames=some (env::outer)) (zZ:env.frame=some L) (F:Fr i8 L G m)
  (R:me base G (env::outer) e cls t ws ((C,oC)::news) s'.heap) (EL:G.UpToSlots s'.heap) (z0:LCg.NsObj oC m₂) (off:∀p∈news,p.1≠C) {uQ:cu} (hf:uQ.frame=some L)
  {Q₁:aa->ak->Prop} {Wr:aa->ak->Prop} {Q:aa->ak->Prop} {acc:aa}
  (hQ:∀h',me base i8 outer e cls t ws news h'->i8.UpToSlots h'->Q₁ (.ref e) {s' with heap:=h'}):
  notedBy M A uQ (λx jt=>compPost M A (λx s=>aC M A (qm env x) (λy jt=>Q₁ x jt) Wr s) none Q acc C (.error x) jt) (.ref e) s':=by
 obtain ⟨⟨B,hB,Ws,hl,rm,Mk⟩,Wt⟩:=R
 have z3:=hl _ (.head _)
 show aC M A (noteFrame (.ref e) uQ) _ _ s'
 rw [Wn (env:=env) _ (hf.trans zZ.symm)]
 refine wpAny_looks_onW uR zZ rm λh1 Wu Ml=> ?_
 obtain ⟨a1,a2,a3,a4⟩:=Wu
 refine ⟨m₂,z0.ns (a1 _ _ z3.1),λh2 Wv EM Ys=> ?_⟩
 have z4:B.get? C≠none:=by rw [z3.1];exactλq=>by cases q
 have same:∀b,b≠C->h2.get? b=h1.get? b:=λb hb=>Wv.2 b hb
 have b2:∀b o,(hideAll B [C]).get? b=some o->b≠C/\B.get? b=some o:=λb o q=>⟨λz=>(by rw [z,xw _ (.head _)] at q;cases q),of_hideAll _ q⟩
 have aE:(hideAll B [C]).StaysIn h2:=λb o q=>(same b (b2 b o q).1).trans (a1 b o (b2 b o q).2)
 have Ww:(hideAll B [C]).get? e=none:=by
  cases q:(hideAll B [C]).get? e with
  |none=>rfl
  |some o=>have:=(b2 e o q).2;rw [a2] at this;cases this
 have Wx:h2.FunFrames (hideAll B [C]) (env::outer):=funFrames_base (λb o q=>(b2 b o q).2) (Mj z4 same a3)
 have Mm:h2.TracedAtW (hideAll B [C]) e cls (.ref t) (rawInt L):=by
  refine EK a4 λoe vs T oT ts he hc hd xb oS qj hT lr h3=> ?_
  refine ⟨oe,vs,T,oT,ts,(same e λz=>z4 (by rw [<-z];exact a2)).trans he,hc,hd,xb, ?_,qj,(same T λz=>z4 (by rw [<-z];exact oS)).trans hT,lr,h3⟩
  cases q:(hideAll B [C]).get? T with
  |none=>rfl
  |some o=>have:=(b2 T o q).2;rw [oS] at this;cases this
 refine EK Mm λoe vs T oT ts he hc hd xb oS qj hT lr h3=> ?_
 have other:∀x b,b≠T->(h2.update T (Obj.mapFields (·.setIfInBounds 3 x))).get? b=h2.get? b:=λx b hb=>Heap.get?_update_other _ _ (jb hb)
 have uU:∀b o,h2.get? b=some o->(∀vs,o.data≠ .fields vs)->b≠T:=λb o hb nu q=>by
  rw [q,hT] at hb;injection hb with hb;subst hb;exact nu ts lr
 unfold PySem.passOn
 refine bC (ny he hd xb ?_)
 rw [d7 (show¬((ae T==aY)=true) from by simp)]
 refine bC ?_
 unfold setFlight
 refine bC (ny he hd xb ?_)
 rw [if_pos (show(ae T !=aY)=true from by simp)]
 refine wpAny_setField hT lr (sU.mp h3).1 (wpAny_throw ?_)
 have Wy:3<ts.size:=(sU.mp h3).1
 refine Wp (base:=hideAll B [C]) (fl:=EM.frame.elim .none λf=>rawInt f) uR zZ (Wx.of_keeps λb o hb nu=>⟨o,(other _ b (uU b o hb nu)).trans hb,rfl⟩)
  ⟨oe,vs,T,_,_,(other _ e (jb qj)).trans he,hc,hd,xb,oS,qj,Heap.get?_update_self _ hT (Obj.isFreed_of_fields (Obj.data_mapFields lr _)),Obj.data_mapFields lr _,by simp [Wy]⟩
  (λb o sj=>(other _ b λq=>by rw [q,oS] at sj;cases sj).trans (aE b o sj)) Ww λh5 Wz Mn=> ?_
 have gC:∀b o,i8.get? b=some o->b≠C:=λb o q z=>by
  have:=F.keep b o q
  rw [z,z3.2.1] at this
  cases this
 refine hQ h5 ⟨⟨hideAll B [C],λb o q=> ?_,λb o q nm=> ?_,λq hq=> ?_,Wz, ?_⟩, ?_⟩ λb o q hn=> ?_
 ·exact o7 _ (hB b o q) λz=>by
   rw [bN.mp z,z3.2.2] at q
   cases q
 ·refine o7 _ (Ws b o (F.keep b o q) λhm=> ?_) λz=>gC b o q (bN.mp z)
  obtain ⟨ev,EN,EO⟩:=AC.mp hm
  rcases bj.mp EN with rfl|EN
  ·rw [zZ] at EO
   cases EO
   rw [kts_self F] at q
   cases q
  ·exact nm (AC.mpr ⟨ev,EN,EO⟩)
 ·have z:=hl q (.tail _ hq)
  exact ⟨o7 _ z.1 λzz=>off q hq (bN.mp zz),kts_none F.keep z.2.1,z.2.2⟩
 ·cases q:(hideAll B [C]).get? t with
  |none=>rfl
  |some o=>have:=(b2 t o q).2;rw [Mk] at this;cases this
 ·obtain ⟨o,n,ho,er,tY⟩:=Wt.of_slots Ml
  have Mo:=(same t λz=>z4 (by rw [<-z];exact Mk)).trans ho
  have WA:=(other (EM.frame.elim .none λf=>rawInt f) t (uU t o Mo λvs q=>by rw [tY] at q;cases q)).trans Mo
  exact Heap.TupAt.of_slots ⟨o,n,WA,er,tY⟩ Mn
 ·obtain ⟨Yt,e1⟩:=EL b o (F.keep b o q) hn
  obtain ⟨Yu,e2⟩:=Ml b _ e1 hn
  have e3:=(same b (gC b o q)).trans e2
  have e4:=(other (EM.frame.elim .none λf=>rawInt f) b (uU b _ e3 hn)).trans e3
  obtain ⟨WB,e5⟩:=Mn b _ e4 hn
  exact ⟨WB,e5⟩
end
end
section
open PySem.Spec PySem.Calls
section
variable {prog:cP} {w:ah} {A:bZ} {E:aa->ak->Prop} {s:ak} {h₀:bA} {L:ac} {m:ai->Option aa} {env:cu}
inductive WC (prog:cP) (w:ah) (A:bZ) (h₀:bA) (L:ac) (m:ai->Option aa) (env:cu) (elt:az) (x:ai) (scope:bD) (cl:List (ai×ac)) (E:aa->ak->Prop) (Q:aa->ak->Prop) (xv:aa) (s₁:ak):Prop
 |mk (ax:ac) (its:Array aa) (kk:Nat) (news:List (ac×av)) (v0:aa) (e:xv= .ref ax) (hh:A.handled=none) (F:Fr h₀ L s₁.heap m) (N:aU h₀ L s₁.heap news) (hm:(ax,(⟨.type "list",none,.seq its kk,#[]⟩:av))∈news) (hv:its[0]? =some v0)
  (R:∀I oI C oC D m₂ h tk,LCg.NsObj oC m₂->m₂ x=some v0->Fr h₀ L h m->aU h₀ L h ((I,oI)::(C,oC)::(D,io [])::news)->(∀p∈news,p.1≠C)->
   aC (aG prog w) A (eD elt (compEnvC scope cl C env)) (λz z=>False) (notedBy (aG prog w) A (compEnvC scope cl C env) (λe s'=>compPost (aG prog w) A E none Q (.ref D) C (.error e) s')) {s₁ with heap:=h,toks:=tk})
theorem WD {elt iter:az} {x:ai} {px:aW} {scope:bD} {cl:List (ai×ac)} {pos:aW} {Q:aa->ak->Prop}
  (GX:Fr h₀ L s.heap m) (vU:closureFor scope env=pure cl) (nV:∀y∈scope.names,y.2≠ .cell) (oa:scope.kind= .function)
  (vV:∀y∈scope.names,y.2= .local->scope.names.lookup y.1=some .local) (hx:scope.names.lookup x=some .local)
  (h:aC (aG prog w) A (eD iter env) (WC prog w A h₀ L m env elt x scope cl E Q) E s)
  (hs:∀x,foldedSetIterable iter env x=pure x:=by intro j;rfl):
  aC (aG prog w) A (eD (.ListComp elt [⟨.Name x px,iter,[],0⟩] scope pos) env) Q E s:=by
 rw [eval_ListComp]
 refine Ag (use:=none) rfl hs vU oa vV (gx h (λxv s₁ aS=> ?_) λu u e=>e)
 obtain ⟨ax,its,kk,news,v0,rfl,hh,F,N,hm,hv,R⟩:=aS
 have hl:s₁.heap.IsList ax its:=⟨_,(N _ hm).1,rfl,kk,rfl⟩
 have iF:ax<s₁.heap.objs.size:=fH (N _ hm).1
 have WE:0<its.size:=(sU.mp hv).1
 refine wpAny_pyIter_list hl ?_
 have W:=Walks.list (prog:=prog) (w:=w) hh s₁.heap.objs.size ax (cL iF) its
 have up:∀b o,s₁.heap.get? b=some o->(s₁.heap.push {cls:=.type "list_iterator",data:=.fields #[.ref ax,.int 0 0]}).get? b=some o:=λb o e=>gO _ e
 have wX:(s₁.heap.push {cls:=.type "list_iterator",data:=.fields #[.ref ax,.int 0 0]}).IsListIter s₁.heap.objs.size ax 0/\(s₁.heap.push {cls:=.type "list_iterator",data:=.fields #[.ref ax,.int 0 0]}).IsList ax its:=⟨⟨_,ja _ rfl,rfl,rfl⟩,hl.push _⟩
 have F1:=F.keeps up
 have N1:=N.grown up
 have z5:s₁.heap.objs.size<(s₁.heap.push {cls:=.type "list_iterator",data:=.fields #[.ref ax,.int 0 0]}).objs.size:=by rw [mo];exact qv _
 have Mp:h₀.get? s₁.heap.objs.size=none:=sL F
 have Mq:L≠s₁.heap.objs.size:=cL F.ns.lt
 have nI:∀p∈news,p.1≠s₁.heap.objs.size:=λp hp=>cL (fH (N p hp).1)
 generalize Yv:s₁.heap.push {cls:=.type "list_iterator",data:=.fields #[.ref ax,.int 0 0]}=H1 at wX F1 N1 z5⊢
 refine nz (wpAny_newFunctionEnv nV (by intro y hy;simp at hy) (λaS EP z6=> ?_) oa)
 dsimp only at EP z6⊢
 generalize EQ:H1.push {cls:=.type "list",dict:=none,data:=.seq ([]:List aa).toArray}=H2 at EP z6⊢
 have hC:H2.objs.size=H1.objs.size+1:=by rw [<-EQ,mo]
 have Mr:H1.objs.size≠H2.objs.size:=by rw [hC];exact cL (qv _)
 have old:∀b o,H1.get? b=some o->aS.get? b=some o:=λb o e=>z6.extBut b o (by rw [hC];exact cL (nE (fH e))) (gO _ (EQ▸gO _ e))
 have ky:aS.get? H1.objs.size=some (io []):=z6.extBut _ _ Mr (gO _ (EQ▸ja _ rfl))
 have Ms:=W.frame _ _ _ wX λb u o e=>old b o e
 have Mt:∀a,H1.objs.size<=a->h₀.get? a=none:=λa ha=>by
  cases e:h₀.get? a with
  |none=>rfl
  |some o'=>exact absurd (fH (F1.keep a o' e)) (vc.mpr ha)
 have WG:=Mt _ (cS _)
 have Mu:=Mt H2.objs.size (by rw [hC];exact sI _)
 have Mv:L<H1.objs.size:=F1.ns.lt
 have BL:H1.objs.size≠L:=jb (cL Mv)
 have ra:H2.objs.size≠L:=by rw [hC];exact jb (cL (nE Mv))
 have Mw:s₁.heap.objs.size≠H2.objs.size:=by rw [hC];exact cL (nE z5)
 have WH:s₁.heap.objs.size≠H1.objs.size:=cL z5
 have nC:∀p∈news,p.1≠H2.objs.size:=λp hp=>by rw [hC];exact cL (nE (fH (N1 p hp).1))
 have nD:∀p∈news,p.1≠H1.objs.size:=λp hp=>cL (fH (N1 p hp).1)
 have loop:∀fK:ak,fK={s₁ with heap:=aS,toks:=s₁.toks+([]:List (ai×aa)).length}->
   codeAny (aG prog w) A (.compLoop (.ListComp elt [⟨.Name x px,iter,[],0⟩] scope pos) 0 (.ref s₁.heap.objs.size) (.ref H1.objs.size) (compEnvC scope cl H2.objs.size env))
    (compPost (aG prog w) A E none Q (.ref H1.objs.size) H2.objs.size) fK:=by
  rintro fK rfl
  refine codeAny_compLoop_tests (λk s'=>s'={s₁ with heap:=aS,toks:=s₁.toks+([]:List (ai×aa)).length}) ?_ 0 rfl
  rintro k s' rfl
  refine W.item 0 _ _ _ WE Ms λv Cy Yw WI WJ z7=> ?_
  have Mx:its[0]? =some v:=WI
  rw [hv] at Mx
  cases Mx
  refine wpAny_assign_Name (wpAny_storeName_local (lookup_relabel_local hx) (EP.at' λo e=>z7 _ o (by simpa using jb Mw) e) (λvY WK z8=> ?_) (by simp [compEnvC,relabel,oa]))
  refine wpAny_tests_nil ?_
  simp only [if_true]
  have WL:=W.frame _ _ _ WJ λb hb o e=>z8.extBut b o (λq=>by
   have q':b=H2.objs.size:=q
   rcases bj.mp hb with rfl|hb
   ·exact Mw q'
   ·rw [bN.mp hb] at q'
    have:ax<H2.objs.size:=by rw [hC];exact nE (nF iF z5)
    exact cL this q') e
  obtain ⟨⟨oI,WM,j⟩,j⟩:=WL
  obtain ⟨oC,WN,WO⟩:=LCg.ns_obj WK
  have WP:Fr h₀ L vY m:=(LCg.fr_but (F1.keeps old) z7 Mq Mp).change z8 ra Mu
  have WQ:aU h₀ L vY ((s₁.heap.objs.size,oI)::(H2.objs.size,oC)::(H1.objs.size,io [])::news):=λp hp=>by
   rcases bj.mp hp with rfl|hp
   ·exact ⟨WM,jb Mq,Mp⟩
   rcases bj.mp hp with rfl|hp
   ·exact ⟨WN,ra,Mu⟩
   rcases bj.mp hp with rfl|hp
   ·exact ⟨z8.extBut _ _ Mr (z7 _ _ (by simpa using jb WH) ky),BL,WG⟩
   ·have z:=N1 p hp
    exact ⟨z8.extBut _ _ (nC p hp) (z7 _ _ (by simpa using nI p hp) (old _ _ z.1)),z.2⟩
  exact gx (R s₁.heap.objs.size oI H2.objs.size oC H1.objs.size _ vY _ WO (by simp) WP WQ nC) (λu u f=>f.elim) λu u e=>e
 exact codeAny_compStart_list (loop _ rfl) (W.self 0 _ _ _ Ms (loop _ rfl))
end
end
section
section
variable {M:Model} {A:bZ} {env:cu} {l2:List bP} {Q:eK->ak->Prop} {E:aa->ak->Prop}
theorem My {Γ:Ctx} (xc:Γ.In A):∀(l1:List bP) (p:aW) (s:ak),Sem.wp M Γ (d8 l1 env) (λf z s'=>match f with| .next=>aC M A (d8 l2 env) Q E s'|f=>Q f s') (λe z s'=>E e s') p s->Sem.wp M Γ (d8 (l1++l2) env) (λf z s'=>Q f s') (λe z s'=>E e s') p s
 |[],p,s,h=>h Γ p xc
 |x::l,p,s,h=>by
  rw [execs_cons,Sem.wp_bind'] at h
  rw [Ar,execs_cons,Sem.wp_bind']
  refine Sem.wp_mono M Γ _ (λf p' s' h'=> ?_) (λz z z h'=>h') _ _ h
  cases f with
  |next=>exact My xc l p' s' h'
  |_=>exact h'
theorem Mz {l1:List bP} {s:ak} (h:aC M A (d8 l1 env) (λf s'=>match f with| .next=>aC M A (d8 l2 env) Q E s'|f=>Q f s') E s):aC M A (d8 (l1++l2) env) Q E s:=λΓ p xc=>My xc l1 p s (h Γ p xc)
end
theorem WR {cst b D n u:Nat} (hc:cst<=b+D) (h:n+(8*b+8*D)<u):n+8*cst<u:=gZ (jq (Nat.mul_add 8 b D▸ly 8 hc) n) h
theorem ER {base g h:bA} {l:List cu} {e t:ac} {cls:aa} {vs:List aa} {news q7:Led} (R:me base g l e cls t vs news h) (s:∀p∈q7,p∈news):me base g l e cls t vs q7 h:=by
 obtain ⟨⟨B,h1,h2,h3,h4,h5⟩,h6⟩:=R
 exact ⟨⟨B,h1,h2,λq hq=>h3 q (s q hq),h4,h5⟩,h6⟩
def jp (w:ah) (f:ac) (c:Nat) (Pre:Led->List aa->Prop):Prop:=∀(p:cP) (loose:List ai) (bH:gp->Option aa) (mg mb:ai->Option aa) (dp un:Nat) (gd:Option (List gN)) (cn:ai) (cs:bD) (a:ac) (bX:aa) (cl:List (ai×ac)) (outer:List cu) (A₀:bZ) (base h₀:bA) (L:ac) (m:ai->Option aa) (news:Led) (s:ak) (Q E:aa->ak->Prop) (vs:List aa),(B:fx A₀ base outer h₀)->(F:Fr h₀ L s.heap m)->(X:(KK w.params).In h₀)->(N:aU h₀ L s.heap news)->(T:Top p loose bH mg mb h₀)->(hk:cs.kind= .function)->(hd:dp+c<recursionLimit)->(hu:un+8*c<cLine)->(hp:Pre news vs)->(zX:∀e t ws g h' bQ,Fr h₀ L g m->me base g (envX cn cs L a bX cl::outer) e (.ref 88) t ws news h'->g.UpToSlots h'->E (.ref e) {s with heap:=h',toks:=bQ})->
 aC (aG rw_sq0062_01.row.prog w) (gy dp un gd cn cs L a bX cl outer) (call (.ref f) vs) Q E s
section
variable {w:ah} {NN:Led} {D:Nat}
def xd (c:Cx) (E:aa->ak->Prop):Prop:=∀e t ws g m h' bQ,Fr c.h₀ c.L g m->me c.base g (c.env::c.outer) e (.ref 88) t ws (c.eY++c.news) h'->g.UpToSlots h'->E (.ref e) {c.en with heap:=h',toks:=bQ}
def xe (c:Cx) (RR:kB->ak->Prop):Prop:=∀e t ws h' bQ,me c.base c.h₀ c.outer e (.ref 88) t ws c.news h'->c.h₀.UpToSlots h'->RR (.error (.ref e)) {c.en with heap:=h',toks:=bQ}
theorem xe.leave {c:Cx} {b:Nat} {RR:kB->ak->Prop} (O:c.Ok w NN D b) (he:c.ee=c.env) (hA:c.A=c.A₀.deeper c.env) (hc:c.cl=[]) (hz:xe c RR):xd c (rj w c.A c.ee RR):=λe t ws g m h' bQ F R U=>by
 have ev:c.env=gz c.cn c.cs c.L c.a c.bX:=by
  show envX c.cn c.cs c.L c.a c.bX c.cl=_
  rw [hc];rfl
 show aC _ _ _ _ _ _
 rw [he,hA,ev]
 rw [ev] at R
 exact leave_onS (Q:=λz s2=>RR (.error (.ref e)) s2) (s':={c.en with heap:=h',toks:=bQ}) O.B F (ER R λp hp=>ay _ hp) U (λh2 R2 z U2=>hz e t ws h2 bQ R2 U2)
def oU (w:ah) (c:Cx) (E:aa->ak->Prop) (z:az->St->Prop):Prop:=∀e st s,Rep w c st s->z e st->aC (aG PG w) c.A (eD e c.ee) (λy y=>False) E s
def ES (w:ah) (c:Cx) (E:aa->ak->Prop) (z:bP->St->Prop):Prop:=∀e st s,Rep w c st s->z e st->aC (aG PG w) c.A (exec e c.ee) (λy y=>False) E s
def uV (w:ah) (c:Cx) (E:aa->ak->Prop) (z:List bP->St->Prop):Prop:=∀e st s,Rep w c st s->z e st->aC (aG PG w) c.A (d8 e c.ee) (λy y=>False) E s
theorem l4 {M:Model} {A:bZ} {α:Type} {m:Sem α} {Q:α->ak->Prop} {E:aa->ak->Prop} {s:ak} (h:aC M A m (λz z=>False) E s):aC M A m Q E s:=gx h (λz z f=>f.elim) λz z x=>x
inductive ZX:az->Type where
 |call (x:ai) (px:aW) (e:az) (es:List az) (p:aW):ZX (.Call (.Name x px) (e::es) [] p)
 |bin (l:az) (op:qo) (r:az) (p:aW):ZX (.BinOp l op r p)
 |tup (e:az) (es:List az) (k:Nat) (p:aW):ZX (.Tuple (e::es) k p)
 |cmp (l:az) (op:lv) (r:az) (p:aW):ZX (.Compare l [op] [r] p)
noncomputable def zx:(e:az)->Option (ZX e)
 | .Call (.Name x px) (e::es) [] p=>some (.call x px e es p)
 | .BinOp l op r p=>some (.bin l op r p)
 | .Tuple (e::es) k p=>some (.tup e es k p)
 | .Compare l [op] [r] p=>some (.cmp l op r p)
 |_=>none
inductive ZT:bP->Type where
 |ex (e:az) (p:aW):ZT (.Expr e p)
 |asg (x:ai) (px:aW) (e:az) (p:aW):ZT (.Assign [.Name x px] e p)
 |ret (e:az) (p:aW):ZT (.Return (some e) p)
 |iff (t:az) (a b:List bP) (p:aW):ZT (.If t a b p)
noncomputable def zt:(s:bP)->Option (ZT s)
 | .Expr e p=>some (.ex e p)
 | .Assign [.Name x px] e p=>some (.asg x px e p)
 | .Return (some e) p=>some (.ret e p)
 | .If t a b p=>some (.iff t a b p)
 |_=>none
section
variable (K:eE) (r:Ev) (cs:bD) (b:Nat)
noncomputable def zA (z:az->St->Prop):List az->Nat->St->Prop
 |[],y,q=>False
 |a::as,i,st=>match i with
  |0=>z a st
  |i+1=>r.ev cs b a st λj st=>zA z as i st
def zP (i:Nat) (z:az->St->Prop) (e:az) (st:St):Prop:=oK (zx e) λd=>match d with
 | .call x px e es y=>bK (noStar (e::es)) (r.ev cs b (.Name x px) st λv st=>oE (kg v.val) (λj=>zA r cs b z (e::es) i st) (bK (keepIn K v.val) (zA r cs b z (e::es) i st)))
 | .bin l y e q=>r.ev cs b l st λj st=>z e st
 | .tup e es y q=>bK (noStar (e::es)) (z e st)
 | .cmp l op e y=>bK (!behindInMarks op e) (z l st)
def zC (n:Nat) (P:List aa->Prop) (e:az) (st:St):Prop:=oK (zx e) λd=>match d with
 | .call x px e es z=>bK (noStar (e::es)) (r.ev cs b (.Name x px) st λv st=>bK (keepIn K v.val) (oK (pv v.val) λm=>bK (ej m n) (lF r cs b (e::es) st λvs y=>P (vals vs))))
 |_=>False
def zS (z:az->St->Prop) (s:bP) (st:St):Prop:=oK (zt s) λd=>match d with
 | .ex e y=>bK (!qT e) (z e st)
 | .asg y q e j=>bK (!qT e) (z e st)
 | .ret e y=>z e st
 | .iff y q j u=>False
def zI (z:List bP->St->Prop) (s:bP) (st:St):Prop:=oK (zt s) λd=>match d with
 | .iff t a y q=>r.ip cs b t st λc st=>bK c (z a st)
 |_=>False
def zL (n:Nat) (z:bP->St->Prop) (l:List bP) (st:St):Prop:=r.fh cs b (l.take n) st λf st=>f=none/\oK l[n]? λs=>z s st
end
variable {r:Ev} (I:is w NN D r)
include I
theorem MA {c:Cx} {b:Nat} {pos:aW} {E:aa->ak->Prop} {z:az->St->Prop} (O:c.Ok w NN D b) (hz:oU w c E z):∀{as:List az} {i:Nat} {st:St} {s:ak},noStar as=true->Rep w c st s->zA r c.es b z as i st->aC (aG PG w) c.A (spliced (backTo pos (starEach as c.ee))) (λy y=>False) E s:=by
 intro as
 induction as with
 |nil=>exactλy y h=>h.elim
 |cons a as ih=>
  intro i st s n R h
  cases i with
  |zero=>exact kG (l4 (hz a st s R h)) (fA (cW n).1)
  |succ i=>exact kG (I.ev O R h λv ao s' N ok hk=>ih (cW n).2 N.rep hk) (fA (cW n).1)
theorem Aa {c:Cx} {b i:Nat} {E:aa->ak->Prop} {z:az->St->Prop} (O:c.Ok w NN D b) (hz:oU w c E z):oU w c E (zP (KK w.params) r c.es b i z):=λe st s R h=>by
 refine aJ h λd y h=> ?_
 cases d with
 |call x px e es p=>
  refine bv h λn h=>kH (I.ev O R h λv ao s' N ok hk=> ?_)
  refine eg hk (λT e1 hk=> ?_) λy hk=>bv hk λe2 hk=> ?_
  ·rw [kL e1]
   exact nO (l4 (MA I O hz n N.rep hk)) (fA (cW n).1) (iR (cW n).2)
  ·exact callWith_K O.X e2 (l4 (MA I O hz n N.rep hk)) (fA (cW n).1) (iR (cW n).2)
 |bin l op e p=>exact uY (I.ev O R h λv ao s' N ok hk=>l4 (hz e ao s' N.rep hk))
 |tup e es k p=>exact bv h λn h=>Tuple_ (kG (l4 (hz e st s R h)) (fA (cW n).1))
 |cmp l op e p=>exact bv h λn h=>wpAny_Compare1 (l4 (hz l st s R h)) (fn n)
theorem xf {c:Cx} {b n cst:Nat} {E:aa->ak->Prop} {Pre:Led->List aa->Prop} {P:List aa->Prop} (O:c.Ok w NN D b) (C:jp w n cst Pre) (hc:cst<=b+D) (hP:∀(al:Led) vs,(∀p∈NN,p∈al)->P vs->Pre al vs) (hE:xd c E):oU w c E (zC (KK w.params) r c.es b n P):=λe st s R h=>by
 refine aJ h λd z h=> ?_
 cases d with
 |call x px e es p=>
  refine bv h λn h=>kH (I.ev O R h λv ao s' N ok hk=> ?_)
  refine bv hk λe1 hk=>aJ hk λm e2 hk=>bv hk λe3 hk=> ?_
  refine callWith_K O.X e1 (pF I O n N.rep hk λvs aE s2 N2 cI WS=>⟨O.X.keeps N2.rep.fr.keep, ?_⟩) (fA (cW n).1) (iR (cW n).2)
  have R2:=N2.rep
  rw [qP e2,kD e3,O.top]
  refine C _ _ _ _ _ _ _ _ _ _ _ _ _ _ _ _ _ _ _ _ _ _ _ _ O.B R2.fr O.X R2.nw O.T O.hk (gZ (jq hc _) O.hd) (WR hc O.hu) (hP _ _ (λp hp=>jw (c:=c) (O.hn▸hp)) WS) λe t ws g h' bQ F' R' U'=> ?_
  rw [R2.same]
  exact hE e t ws g _ h' bQ F' (ER R' λp hp=>(aM.mp hp).elim mE jw) U'
 |_=>exact h.elim
omit I in
theorem xg {c:Cx} {b:Nat} {E:aa->ak->Prop} {z:az->St->Prop} (O:c.Ok w NN D b) (hF:c.Fn) (hz:oU w c E z):ES w c E (zS z):=λe st s R h=>by
 refine aJ h λd y h=> ?_
 cases d with
 |ex e p=>exact bv h λn h=>wpAny_Expr_any (l4 (hz e st s R h)) (by unfold interactive;rw [hF.ee,show c.env.scope.kind= .function from O.hk];rfl) (BD (fn n))
 |asg x px e p=>exact bv h λn h=>yx (vR (fn n)) (BI rfl) (BJ rfl) (l4 (hz e st s R h))
 |ret e p=>exact Ah (l4 (hz e st s R h))
 |iff=>exact h.elim
theorem MB {c:Cx} {b:Nat} {E:aa->ak->Prop} {z:List bP->St->Prop} (O:c.Ok w NN D b) (hz:uV w c E z):ES w c E (zI r c.es b z):=λe st s R h=>by
 refine aJ h λd y h=> ?_
 cases d with
 |iff t a o p=>exact wpAny_If (I.ip O R h λv ao s' N hk=>bv hk λe hk=>by
  rw [e]
  exact hz a ao s' N.rep hk)
 |_=>exact h.elim
theorem sk {c:Cx} {b n:Nat} {E:aa->ak->Prop} {z:bP->St->Prop} (O:c.Ok w NN D b) (hF:c.Fn) (hz:ES w c E z):uV w c E (zL r c.es b n z):=λl st s R h=>by
 rw [<-sK n l]
 refine Mz (I.fh O hF R h λf ao s' R' y y hk=> ?_)
 rw [hk.1]
 refine aJ hk.2 λx e hk=> ?_
 have hd:l.drop n=x::l.drop (n+1):=by
  rw [xA (iN.mp e).1]
  exact bW (· ::_) (iN.mp e).2
 show aC _ _ _ _ _ _
 rw [hd]
 exact xp (l4 (hz x ao s' R' hk))
end
end
section
section
variable {w:ah} {NN:Led} {D:Nat}
def ET (r:Ev) (cs:bD) (b:Nat) (q:ac) (v0:aa) (z:bD->az->St->Prop) (e:az) (st:St):Prop:=oK (rE e) λd=>bK (pw cs d.1.2.1.1 d.1.2.2.2&& !lE d.1.2.2.1) (r.ev cs b d.1.2.2.1 st λsv st=>sv.val= .ref q/\ ∀tk,z d.1.2.2.2 d.1.1.1 {st with loc:=(d.1.2.1.1,.ag v0)::st.loc,tk:=tk})
theorem WT {r:Ev} (I:is w NN D r) {c:Cx} {b n:Nat} {q:ac} {vs:Array aa} {v0:aa} {RR:kB->ak->Prop} {z:bD->az->St->Prop} (O:c.Ok w NN D b) (hF:c.Fn) (hz:xe c RR) (hm:(q,(⟨.type "list",none,.seq vs n,#[]⟩:av))∈NN) (hv:vs[0]? =some v0)
  (hk:∀(c2:Cx) E,c2.Ok w NN D b->xd c2 E->oU w c2 E (z c2.es)):oU w c (rj w c.A c.ee RR) (ET r c.es b q v0 z):=λe st s R h=>by
 refine aJ h λd j h=>bv h λh1 h=> ?_
 rw [d.2]
 refine cR h1 λh1 h2=> ?_
 have K:=og h1
 obtain ⟨cl,ig,eb⟩:=BS (env:=c.ee) λy hy e=>(O.ce y.1 (K.f y hy e)).elim λa h=>h.elim λj h=>⟨a,h.1⟩
 refine WD R.fr ig K.c K.k K.l K.x (I.ev O R h λv aD s1 N ok pJ=> ?_) λj=>kS (fn h2)
 have R1:=N.rep
 refine ⟨q,vs,n,all w c aD,v0,pJ.1,O.hh,N.loc▸R1.fr,R1.nw,jw (c:=c) (O.hn▸hm),hv,λI' oI C oC Da m₂ h' tk hC hx F' N' off=> ?_⟩
 have O2:=O.elem (q:=[(C,oC)]) (cl:=cl) K eb R1.lc hC (v:=.ag v0) hx (.head _)
 refine hk _ (notedBy (aG PG w) c.A (compEnvC d.1.2.2.2 cl C c.ee) λe s'=>compPost (aG PG w) c.A (rj w c.A c.ee RR) none (λj j=>False) (.ref Da) C (.error e) s') O2 (λe t ws g m h2 sr F2 R2 U2=> ?_) _ {aD with loc:=(d.1.2.1.1,.ag v0)::aD.loc,tk:=tk} {s1 with heap:=h',toks:=tk}
  ⟨⟨R1.tomD.hide λp hp r hr=> ?_,rfl,bU.mpr ⟨trivial,R1.fz⟩⟩,by show _=_;rw [R1.same];rfl,rfl,N.loc▸F',λp hp=>N' p ?_⟩ (pJ.2 tk)
 ·exact Wq (env:=c.ee) (by rw [hF.ee];exact O.hA) (by rw [hF.ee];rfl) F2 (by rw [hF.ee];exact R2) U2 hC (λp hp=>off p ((aM.mp hp).elim mE jw)) (by rw [hF.ee];rfl) λh3 R3 U3=>hz e t ws h3 sr (ER R3 λp hp=>ay _ hp) U3
 ·rw [bN.mp hr]
  exact (off p ((aM.mp hp).elim (λh=>aq _ h) iP)).symm
 ·exact (pG.mp hp).elim (λh=>by
   rw [bN.mp h];exact .tail _ (.head _)) λh=>.tail _ (.tail _ (.tail _ h))
end
theorem WU:∀{l:List (ai×jI)} {n:Nat},l.all (λy=>decide (y.2≠ .cell))=true->cellsFrom n l []=[]:=λ{l}=>by
 induction l with
 |nil=>exactλz=>rfl
 |cons x l ih=>
  intro n h
  refine cR h λh1 h2=> ?_
  unfold cellsFrom
  rw [d7 (by simpa using cJ h1)]
  exact ih h2
structure WV (w:ah) (f:Nat) (news:Led) (vs:List aa) (b D:Nat) (r:Ev) (led:List LE) (gj:List SV) (Z:bD->List bP->St->Prop):Prop where
 i:is w news D r
 v:vs=vals gj
 l:∀p∈bo w.params led,p∈news
 s:side led
 o:∀v∈gj++jj led,aX led v
 fl:∀e∈led,e.f=false
 z:∀c RR,c.Ok w news D b->c.Fn->c.A=c.A₀.deeper c.env->c.cl=cellsFrom (c.L+1) c.es.names []->xe c RR->uV w c (rj w c.A c.ee RR) (Z c.es)
 ru:oK (fnAt (KK w.params) f) λfd=>oK (qW (KK w.params) fd gj) λbl=>∀tk,Z fd.scope bl.1 ⟨bl.2,led,[],tk⟩
theorem EU {w:ah} {f cst:Nat} {Pre:Led->List aa->Prop} (b D:Nat) (hD:1+(b+D)<=cst) (h:∀news vs,Pre news vs-> ∃r led gj Z,WV w f news vs b D r led gj Z):jp w f cst Pre:=by
 intro p loose bH mg mb dp un gd cn cs a bX cl outer A₀ base h₀ L m news s Q E vs B F X N T hk hd hu hp zX
 refine (h news vs hp).elim λr h=>h.elim λled h=>h.elim λgj h=>h.elim λZ h=> ?_
 have aK:=h.l
 rw [h.v]
 refine aJ h.ru λfd e1 h1=> ?_
 obtain ⟨oc,od,jd,e1⟩:=BY e1
 have MC:b+D<=cst:=aI (lz _ _) hD
 refine oX (Hr (NN:=news) (D:=D) (b:=b) (b₀:=b) (c:=Cx.top p loose bH mg mb dp un gd cn cs a bX cl outer A₀ base h₀ L m news s) (st:=⟨[],led,[],s.toks⟩) (k:=λy y=>False)
  (Cx.B4 B X T hk (gZ (jq MC _) hd) (B6 MC hu))
  ⟨⟨⟨λi e he hf=> ?_,λy y y y y h=>(nomatch h),λi e he y=>aK _ (gF he),λy h=>(nomatch h),yD (λv hv=>h.o v (ay _ hv)) h.s⟩,rfl,λy h=>(nomatch h)⟩,rfl,rfl,F,λq hq=>(aM.mp hq).elim (λhq=>N _ (aK _ hq)) λhq=>N _ hq⟩
  (λv hv=>h.o v (aq _ hv)) e1 rfl rfl (gZ (jq hD _) hd) (gZ (by show un+(3+(8*b+8*D))<=un+8*cst;omega) hu)
  (Hp h1 λbl y hz L' g cells aS tk ht FG O2 F2 R2 Q q2=>l4 (h.z _ _ O2 F2 rfl rfl (λe t ws h' bQ R' U'=> ?_) _ _ _ R2 (hz tk))) λy y y y y h=>h.elim)
 ·rw [h.fl e (et he)] at hf;cases hf
 ·exact zX e t ws g h' bQ FG R' U'
end
section
noncomputable def nest:Nat->Nd
 |0=>.fy 1 1
 |j+1=>.box 2 j 0 0 0 0 0 0 1 [nest j]
def oW (w:ah) (f:ac) (d:Nd) (depth c:Nat):Prop:=∀led,jp w f c (A2 w led d depth)
def uW (w:ah) (f:ac) (d:Nd) (depth c:Nat):Prop:=∀led,jp w f c (A3 w led [d] depth)
noncomputable abbrev rX (w:ah):Ev:=Ev.jf (KK w.params) mJ Cfg.none [] 20
theorem qk {w:ah} {NN:Led} {D:Nat} (h:8<=D):is w NN D (rX w):=tJ Cfg.gI (pN h) 20
def PV (a:aa) (d:Int) (vs:List aa):Prop:=vs.length=2/\vs[0]? =some a/\oB vs[1]? d6=some d
def PT (a:aa) (d:Int):Prop:=(2:Nat)=2/\some a=some a/\some d=some d
theorem pt {a:aa} {d:Int}:PT a d:=⟨rfl,rfl,rfl⟩
theorem PV.ok {a:aa} {d:Int} {vs:List aa} (h:PV a d vs):∃t,vs=[a,.int d t]:=by
 refine (Lg h.1).elim λx h1=>h1.elim λy e=> ?_
 have h2:=h.2
 rw [e] at h2⊢
 exact (eS h2.2).imp λt e2=>by rw [e2,jK h2.1]
def zD (z:bD->List bP->St->Prop) (sc:bD) (l:List bP) (st:St):Prop:=bK (sc.names.all λy=>decide (y.2≠ .cell)) (z sc l st)
theorem MD {w:ah} {news:Led} {b D:Nat} {z:bD->List bP->St->Prop} (h:∀c E,c.Ok w news D b->c.Fn->xd c E->uV w c E (z c.es)):∀c RR,c.Ok w news D b->c.Fn->c.A=c.A₀.deeper c.env->c.cl=cellsFrom (c.L+1) c.es.names []->xe c RR->uV w c (rj w c.A c.ee RR) (zD z c.es):=
 λc RR O hF hA hc hz l st s R hh=>bv hh λh1 hh=>h c _ O hF (hz.leave O hF.ee hA (hc.trans (WU h1))) l st s R hh
theorem WW (w:ah):jp w 688 10 (λz vs=>∃(d:Int) (t:af),vs=[.int d t]/\60<d):=by
 intro p loose bH mg mb dp un gd cn cs a bX cl outer A₀ base h₀ L m news s Q E vs B F X N T hk hd hu hp hr
 obtain ⟨d,t,rfl,h⟩:=hp
 exact Wm h B F X N T hk hd hu hr
def ME (w:ah) (depth:Int):bD->List bP->St->Prop:=zD λcs=>zL (rX w) cs 0 0 (zS (zC (KK w.params) (rX w) cs 0 688 λvs=>∃t,vs=[.int depth t]))
theorem MF {w:ah} {f:Nat} {depth:Int} (kU:60<depth) (h:∀v t,oK (fnAt (KK w.params) f) λfd=>oK (qW (KK w.params) fd [.lit v,.lit (.int depth t)]) λbl=>∀tk,ME w depth fd.scope bl.1 ⟨bl.2,[],[],tk⟩):jp w f 14 (λy vs=>∃v t,vs=[v,.int depth t]):=
 EU 0 13 (cS _) λnews vs ⟨v,t,e⟩=>⟨rX w,[],[.lit v,.lit (.int depth t)],ME w depth,⟨qk (by decide),e,λy h=>(nomatch h),trivial,bU.mpr ⟨trivial,eM.mpr trivial⟩,λy h=>(nomatch h),MD λc E O hF hE=>have I:=qk (w:=w) (NN:=news) (D:=13) (by decide);sk I O hF (xg O hF (xf I O (WW w) (by decide) (λal vs z ⟨t,e⟩=>⟨depth,t,e,kU⟩) hE)),h v t⟩⟩
theorem WX (w:ah) (depth:Int) (h:60<depth):jp w 717 14 (λy vs=>∃v t,vs=[v,.int depth t]):=MF h λv t=>fQ (by kernel_rfl:_= ∀z:af,(none:Option SV)=none/\ ∃t',[am depth t]=[.int depth t']) λy=>⟨rfl,_,rfl⟩
theorem WY (w:ah) (depth:Int) (h:60<depth):jp w 741 14 (λy vs=>∃v t,vs=[v,.int depth t]):=MF h λv t=>fQ (by kernel_rfl:_= ∀z:af,(none:Option SV)=none/\ ∃t',[am depth t]=[.int depth t']) λy=>⟨rfl,_,rfl⟩
theorem MG {w:ah} {f g:Nat} {d:Nd} {depth c:Nat} (hc:14<=c) (zz:Ev->bD->(az->St->Prop)->az->St->Prop) (WZ:∀{r:Ev} {news:Led} {D:Nat} {cx:Cx} {E:aa->ak->Prop} {z:az->St->Prop},is w news D r->cx.Ok w news D 3->oU w cx E z->oU w cx E (zz r cx.es z)) (IH:oW w g d depth c)
  (h:∀q v0 t,oK (fnAt (KK w.params) f) λfd=>oK (qW (KK w.params) fd [.lit (.ref q),.lit (.int depth t)]) λbl=>∀tk,zL (rX w) fd.scope 3 0 (zS (zz (rX w) fd.scope (ET (rX w) fd.scope 3 q v0 λcs=>zC (KK w.params) (rX w) cs 3 g (PV v0 depth)))) bl.1 ⟨bl.2,[],[],tk⟩):uW w f d depth (c+4):=λled=>by
 refine EU 3 c (by omega) λnews vs hp=>hp.2.elim λq h1=>h1.elim λt h1=>h1.elim λmu h1=>h1.2.elim λits h2=>h2.elim λn h2=>h2.elim λms h2=>h2.2.1.elim λv0 h3=>h3.elim λvr h3=>h3.elim λm1 h3=>h3.elim λm2 h3=> ?_
 have aK:=hp.1
 have W1:its[0]? =some v0:=by rw [<-xJ,h3.1];rfl
 refine ⟨rX w,[],[.lit (.ref q),.lit (.int depth t)],λcs=>zL (rX w) cs 3 0 (zS (zz (rX w) cs (ET (rX w) cs 3 q v0 λcs=>zC (KK w.params) (rX w) cs 3 g (PV v0 depth)))),⟨qk (aI (by decide) hc),h1.1,λy h=>(nomatch h),trivial,bU.mpr ⟨trivial,eM.mpr trivial⟩,λy h=>(nomatch h),λcx RR O hF hA y hz=> ?_,h q v0 t⟩⟩
 have I:=qk (w:=w) (NN:=news) (D:=c) (aI (by decide) hc)
 exact sk I O hF (xg O hF (WZ I O (WT I O hF hz (aK _ h2.1) W1 λc2 E O2 hE=>xf I O2 (IH led) (lz _ _) (λal vs su h=>h.ok.elim λt e=>⟨λp hp=>su p (aK p hp),v0,t,_,e,h3.2.2.1⟩) hE)))
theorem W2 (w:ah) (d:Nd) (depth c:Nat) (hc:14<=c) (IH:oW w 717 d depth c):uW w 723 d depth (c+4):=MG hc (λj j z=>z) (λj j h=>h) IH λq v0 t=>fQ (by kernel_rfl:_= ∀y:af,(none:Option SV)=none/\ae q= .ref q/\ ∀y:af,PT v0 depth) λj=>⟨rfl,rfl,λj=>pt⟩
theorem W3 (w:ah) (d:Nd) (depth c:Nat) (hc:14<=c) (IH:oW w 741 d depth c):uW w 747 d depth (c+4):=MG hc (λr cs=>zP (KK w.params) r cs 3 0) (λI O h=>Aa I O h) IH λq v0 t=>fQ (by kernel_rfl:_= ∀z:af,(none:Option SV)=none/\ae q= .ref q/\ ∀z:af,PT v0 depth) λy=>⟨rfl,rfl,λy=>pt⟩
noncomputable def MH (e:E_) (w h d sh sg od:Int):List LE:=[⟨e.a 0,.inst 381 1 (e.a 1),false⟩,⟨e.a 1,.dict [(sO "kind",e.a 2,.lit (.int 2 (e.a 16))),(sO "width",e.a 3,.lit (.int w (e.a 17))),(sO "height",e.a 4,.lit (.int h (e.a 18))),(sO "depth",e.a 5,.lit (.int d (e.a 19))),(sO "items",e.a 6,.lit (.ref (e.a 11))),(sO "shift",e.a 7,.lit (.int sh e.u)),(sO "sign",e.a 8,.lit (.int sg (e.a 20))),(sO "order",e.a 9,.lit (.int od (e.a 21))),(sO "ratio",e.a 10,.lit (.ref (e.a 12)))] 9,false⟩]
theorem EW {w:ah} {f cst b D:Nat} {fO h d sh sg od r r2:Int} {x:Nd} {depth:Nat} (hD:1+(b+D)<=cst) (h8:8<=D) (z:Led->E_->bD->List bP->St->Prop)
  (hz:∀news led e9 c E,(∀p∈led,p∈news)->cO w.params led [x] (e9.a 11) e9.ml->(∃mu,ND w.params led (.box 2 fO h d sh sg od r r2 [x]) (.ref (e9.a 0)) mu)->c.Ok w news D b->c.Fn->xd c E->uV w c E (z led e9 c.es))
  (hr:∀led e9 t,oK (fnAt (KK w.params) f) λfd=>oK (qW (KK w.params) fd [.own 0 (e9.a 0),.lit (.int depth t)]) λbl=>∀tk,zD (z led e9) fd.scope bl.1 ⟨bl.2,MH e9 fO h d sh sg od,[],tk⟩):oW w f (.box 2 fO h d sh sg od r r2 [x]) depth cst:=λled=>
 EU b D hD λnews vs hp=>hp.2.elim λv h1=>h1.elim λt h1=>h1.elim λmu h1=>h1.2.elim λe9 g=>
  have aK:=hp.1
  ⟨rX w,MH e9 fO h d sh sg od,[.own 0 (e9.a 0),.lit (.int depth t)],zD (z led e9),⟨qk h8,h1.1.trans (bW (λu=>[u,.int depth t]) g.1),λp hp=>aK p (bw g.2.1 (bw g.2.2.1 dY) p hp),⟨trivial,trivial,trivial⟩,lJ (tL rfl),bU.mpr ⟨rfl,eM.mpr rfl⟩,
   MD λc E O hF hE=>hz news led e9 c E aK ⟨_,_,_,g.2.2.2.1,g.2.2.2.2.1,g.2.2.2.2.2.1⟩ ⟨mu,g.1▸h1.2⟩ O hF hE,hr led e9 t⟩⟩
theorem W4 (w:ah) (fO h d sh sg od r r2:Int) (x:Nd) (depth c:Nat) (hc:20<=c) (IH:uW w 723 x (depth+1) c):oW w 695 (.box 2 fO h d sh sg od r r2 [x]) depth (c+1):=
 EW (b:=0) (D:=c) (by omega) (by omega) (λled e9 cs=>zL (rX w) cs 0 0 (zS (zP (KK w.params) (rX w) cs 0 4 (zC (KK w.params) (rX w) cs 0 723 (PV (.ref (e9.a 11)) ((depth:Int)+1))))))
  (λnews led e9 cx E aK hl ⟨z,bn⟩ O hF hE=>have I:=qk (w:=w) (NN:=news) (D:=c) (by omega);sk I O hF (xg O hF (Aa I O (xf I O (IH led) (by omega) (λal vs su h=>h.ok.elim λt e=>⟨λp hp=>su p (aK p hp),_,t,_,e,hl⟩) hE))))
  λled e9 t=>fQ (by kernel_rfl:_= ∀z:af,(none:Option SV)=none/\PT (.ref (e9.a 11)) ((depth:Int)+1)) λy=>⟨rfl,pt⟩
theorem W5 (w:ah) (fO h d sh sg od r r2:Int) (x:Nd) (depth c:Nat) (kU:depth<=60) (hc:20<=c) (IH:uW w 723 x (depth+1) c):oW w 717 (.box 2 fO h d sh sg od r r2 [x]) depth (c+4):=
 EW (b:=0) (D:=c+1) (by omega) (by omega) (λled e9 cs=>zL (rX w) cs 0 4 (zI (rX w) cs 0 (zL (rX w) cs 0 0 (zS (zC (KK w.params) (rX w) cs 0 695 (PV (.ref (e9.a 0)) depth))))))
  (λnews led e9 cx E aK hl ⟨z,bn⟩ O hF hE=>have I:=qk (w:=w) (NN:=news) (D:=c+1) (by omega);sk I O hF (MB I O (sk I O hF (xg O hF (xf I O (W4 w fO h d sh sg od r r2 x depth c hc IH led) (by omega) (λal vs su h=>h.ok.elim λt e=>⟨λp hp=>su p (aK p hp),_,t,_,e,bn⟩) hE)))))
  λled e9 t=>fQ (by kernel_rfl:_= ∀z:af,(depth:Int)<=60/\ ∀z:Nat,(none:Option SV)=none/\(none:Option SV)=none/\PT (.ref (e9.a 0)) depth) λy=>⟨fZ.mpr kU,λy=>⟨rfl,rfl,pt⟩⟩
theorem W6 (w:ah) (fO h d sh sg od r r2:Int) (x:Nd) (depth c:Nat) (kU:depth<=60) (hc:20<=c) (IH:uW w 747 x (depth+1) c):oW w 741 (.box 2 fO h d sh sg od r r2 [x]) depth (c+4):=
 EW (b:=0) (D:=c) (by omega) (by omega) (λled e9 cs=>zL (rX w) cs 0 4 (zI (rX w) cs 0 (zL (rX w) cs 0 1 (zS (zP (KK w.params) (rX w) cs 0 1 (zP (KK w.params) (rX w) cs 0 0 (zC (KK w.params) (rX w) cs 0 747 (PV (.ref (e9.a 11)) ((depth:Int)+1)))))))))
  (λnews led e9 cx E aK hl ⟨z,bn⟩ O hF hE=>have I:=qk (w:=w) (NN:=news) (D:=c) (by omega);sk I O hF (MB I O (sk I O hF (xg O hF (Aa I O (Aa I O (xf I O (IH led) (by omega) (λal vs su h=>h.ok.elim λt e=>⟨λp hp=>su p (aK p hp),_,t,_,e,hl⟩) hE)))))))
  λled e9 t=>fQ (by kernel_rfl:_= ∀z:af,(depth:Int)<=60/\ ∀z:Nat,(none:Option SV)=none/\ ∀z:Nat,(none:Option SV)=none/\ ∀z z:Nat,PT (.ref (e9.a 11)) ((depth:Int)+1)) λy=>⟨fZ.mpr kU,λy=>⟨rfl,λy=>⟨rfl,λy y=>pt⟩⟩⟩
end
section
def W7 (_:Led) (vs:List aa):Prop:=∃(a b:af),vs=[.int 1 a,.int 1 b]
def xh (P:aB) (led:Led) (j:Nat) (_ tl:Led) (r:aa):Prop:=∃mu,ND P (led++tl) (nest j) r mu
def KN (P:aB) (led:Led) (j:Nat) (news:Led) (r:SV) (st:St):Prop:=cE P (xh P led j) news (st.led.filter (·.f)) st.oth r
theorem W8 (w:ah):Sp w 423 12 W7 (xh w.params [] 0):=jQ 8 4 99 [] (by decide) (K:=KN w.params [] 0) (λz z z z z z h=>h) λnews vs ⟨a,b,e⟩=>by
 refine ⟨eH,Cfg.none,[],[.lit (.int 1 a),.lit (.int 1 b)],Cfg.gI,fo (by decide),e,λz h=>(nomatch h),trivial, ?_,λz h=>(nomatch h),λtk=> ?_⟩
 ·exact bU.mpr ⟨trivial,eM.mpr trivial⟩
 refine fQ (by kernel_rfl:_= ∀(x dx:ac),((0:Int)<=1/\(1:Int)<=3)/\ ∀(_:af),((-1073741823:Int)<=1/\(1:Int)<=1073741823)/\ ∀t:af,cE w.params (xh w.params [] 0) news [⟨dx,.dict [(sO "width",t+1,.lit (.int 1 a)),(sO "sort",t+3,.lit (.int 1 b))] 2,true⟩,⟨x,.inst 423 0 dx,true⟩] [] (.own 1 x)) λx dx=>⟨by decide,λz=>⟨by decide,λt=>⟨_,qJ (.tail _ (.head _)) (.head _)⟩⟩⟩
structure W9 where
 q:ac
 v:aa
 nr:Nat
 a:af
 b:af
 c:af
 d:af
 mu:List ac
def Xa (P:aB) (led:Led) (i:Nat) (_:Led) (vs:List aa):Prop:=∃e:W9,vs=[.int 2 e.a,.int (i:Int) e.b,.int 0 e.c,.int 0 e.d,.ref e.q]/\(e.q,(⟨.type "list",none,.seq #[e.v] e.nr,#[]⟩:av))∈led/\ND P led (nest i) e.v e.mu/\i<=100
theorem Xb (w:ah) (led:Led) (i:Nat):Sp w 381 12 (Xa w.params led i) (xh w.params led (i+1)):=jQ 8 4 99 [] (by decide) (K:=KN w.params led (i+1)) (λy y y y y y h=>h) λnews vs hp=>hp.elim λn f=>by
 refine ⟨eH,Cfg.none,[],[.lit (.int 2 n.a),.lit (.int (i:Int) n.b),.lit (.int 0 n.c),.lit (.int 0 n.d),.lit (.ref n.q)],Cfg.gI,fo (by decide),f.1,λy h=>(nomatch h),trivial, ?_,λy h=>(nomatch h),λtk=> ?_⟩
 ·exact bU.mpr ⟨trivial,bU.mpr ⟨trivial,bU.mpr ⟨trivial,bU.mpr ⟨trivial,eM.mpr trivial⟩⟩⟩⟩
 have b0:(-1073741823:Int)<=0/\(0:Int)<=1073741823:=by decide
 refine fQ (by kernel_rfl:_= ∀(x dx:ac),((2:Int)<=2/\(2:Int)<=3)/\ ∀t1:af,((-1073741823:Int)<=(i:Int)/\(i:Int)<=1073741823)/\ ∀t2:af,((-1073741823:Int)<=0/\(0:Int)<=1073741823)/\ ∀t3:af,((-1073741823:Int)<=0/\(0:Int)<=1073741823)/\ ∀(t4:af) (z:ac),cE w.params (xh w.params led (i+1)) news [⟨dx,.dict [(sO "kind",t1+1,.lit (.int 2 n.a)),(sO "width",t2+1,.lit (.int (i:Int) n.b)),(sO "height",t3+1,.lit (.int 0 n.c)),(sO "depth",t4+1,.lit (.int 0 n.d)),(sO "items",t4+3,.lit (.ref n.q)),(sO "shift",t4+6,.lit (.int 0 (t4+4))),(sO "sign",t4+8,.lit (.int 0 585)),(sO "order",t4+11,.lit (.int 0 (t4+9))),(sO "ratio",t4+15,.own 2 z)] 9,true⟩,⟨x,.inst 381 0 dx,true⟩,⟨z,.tup [.lit (.int 0 (t4+12)),.lit (.int 1 (t4+13))] 0,true⟩] [] (.own 1 x)) λx dx=>⟨by decide,λy=>⟨⟨ed (by decide) (j9 i),ed (fZ.mpr f.2.2.2) (by decide)⟩,λy=>⟨b0,λy=>⟨b0,λt z=>⟨dx::n.q::n.mu, ?_⟩⟩⟩⟩⟩
 exact A1 (ay _ (.tail _ (.head _))) (ay _ (.head _)) (aq _ f.2.1) ⟨n.v,[],n.mu,[],rfl,(iy _).symm,ND.mono (λp h=>aq _ h) _ _ _ f.2.2.1,rfl,rfl⟩ rfl (ay _ (.tail _ (.tail _ (.head _))))
end
section
theorem jp.use {w:ah} {f:ac} {c:Nat} {Pre:Led->List aa->Prop} (C:jp w f c Pre) {p:cP} {loose:List ai} {bH:gp->Option aa} {mg mb:ai->Option aa} {dp un:Nat} {gd:Option (List gN)} {cn:ai} {cs:bD} {a:ac} {bX:aa} {cl:List (ai×ac)} {outer:List cu} {A₀:bZ} {base h₀:bA} {L:ac} {m:ai->Option aa} {news:Led} {s:ak} {Q E:aa->ak->Prop} {vs:List aa} (B:fx A₀ base outer h₀) (F:Fr h₀ L s.heap m) (X:(KK w.params).In h₀) (N:aU h₀ L s.heap news) (T:Top p loose bH mg mb h₀) (hk:cs.kind= .function) (hd:dp+c<recursionLimit) (hu:un+8*c<cLine) (hp:Pre news vs) (raise:∀e t ws g h' bQ,Fr h₀ L g m->me base g (envX cn cs L a bX cl::outer) e (.ref 88) t ws news h'->g.UpToSlots h'->E (.ref e) {s with heap:=h',toks:=bQ}):
 aC (aG rw_sq0062_01.row.prog w) (gy dp un gd cn cs L a bX cl outer) (call (.ref f) vs) Q E s:=C _ _ _ _ _ _ _ _ _ _ _ _ _ _ _ _ _ _ _ _ _ _ _ _ B F X N T hk hd hu hp raise
theorem jp.mono {w:ah} {f:ac} {c c':Nat} {Pre MI:Led->List aa->Prop} (h:jp w f c Pre) (hc:c<=c') (hp:∀n v,MI n v->Pre n v):jp w f c' MI:=by
 unfold jp at h⊢
 intro p loose bH mg mb dp un gd cn cs a bX cl outer A₀ base h₀ L m news s Q E vs B F X N T hk hd hu EX hr
 exact h p loose bH mg mb dp un gd cn cs a bX cl outer A₀ base h₀ L m news s Q E vs B F X N T hk (by omega) (by omega) (hp _ _ EX) hr
theorem MJ (w:ah):∀(j depth:Nat),60<depth+j->oW w 717 (nest j) depth (24+8*j)
 |j,depth,h=>by
  by_cases hd:60<depth
  ·intro led
   exact (WX w depth (by omega)).mono (by omega) λn v ⟨z,a,t,mu,e,y⟩=>⟨a,t,e⟩
  ·match j with
   |0=>omega
   |i+1=>exact W5 w i 0 0 0 0 0 0 1 (nest i) depth (24+8*i+4) (by omega) (by omega) (W2 w (nest i) (depth+1) (24+8*i) (by omega) (MJ w i (depth+1) (by omega)))
theorem MK (w:ah):∀(j depth:Nat),60<depth+j->oW w 741 (nest j) depth (24+8*j)
 |j,depth,h=>by
  by_cases hd:60<depth
  ·intro led
   exact (WY w depth (by omega)).mono (by omega) λn v ⟨z,a,t,mu,e,y⟩=>⟨a,t,e⟩
  ·match j with
   |0=>omega
   |i+1=>exact W6 w i 0 0 0 0 0 0 1 (nest i) depth (24+8*i+4) (by omega) (by omega) (W3 w (nest i) (depth+1) (24+8*i) (by omega) (MK w i (depth+1) (by omega)))
end
section
open PySem.Spec PySem.Calls
section
variable {prog:cP} {w:ah} {A₀ A:bZ} {s:ak} {base h₀:bA} {env:cu} {L a:ac} {m:ai->Option aa} {news:List (ac×av)} {K:eE} {p:cP} {loose:List ai} {bH:gp->Option aa} {mg mb:ai->Option aa}
 {R:kB->ak->Prop} {name qual:ai} {params:Arguments} {body bd:List bP} {scope:bD} {dV kV doc pm jc ct oc:aa} {an od:Option ac} {jd:Array (Option aa)} {f:ac} {args:Args} {binds:List (ai×aa)}
theorem Xc (B:fx A₀ base [] h₀) (F:Fr h₀ L s.heap m) (sZ:K.In h₀) (N:aU h₀ L s.heap news) (T:Top p loose bH mg mb h₀) (hA:A.frames=some [env]) (hf:env.frame=some L) (AS:env.scope.kind= .function)
  (ho:K.lookup f=some ⟨oc,od,.func (fnOf name qual params body scope dV kV doc pm an jc ct),jd⟩) (vA:codeIn K jc qual=true) (AT:A.depth<recursionLimit)
  (AU:BindsTo s (fnOf name qual params body scope dV kV doc pm an jc ct) args binds.reverse) (AV:∀y∈binds.reverse,scope.names.lookup y.1=some .local)
  (hb:body=bd)
  (h:∀g L' aS tk,Fr h₀ L g m->Fr g L' aS (λy=>binds.lookup y)->aU g L' aS news->fx A base [env] g->K.In g->Top p loose bH mg mb g->KtsDicts ([env].filterMap (·.frame)) g->
   aC (aG prog w) (A.deeper (gz qual scope L' f jc)) (d8 bd (gz qual scope L' f jc))
    (λfl s'=>LeaveS0 ([env].filterMap (·.frame)) h₀ L m g R (match fl with| .ret v=>v|_=>.none) s')
    (λe s'=>aC (aG prog w) (A.deeper (gz qual scope L' f jc)) (qm (gz qual scope L' f jc) e) (λz jt=>R (.error e) jt) (λe' jt=>R (.error e') jt) s')
    {s with heap:=aS,toks:=tk})
  (AW:scope.isCoroutine=false) (AX:scope.isGenerator=false) (hk:scope.kind= .function)
  (nV:∀x∈scope.names,x.2≠ .cell):codeAny (aG prog w) A (.call (.ref f) args) R s:=by
 subst hb
 have X:=sZ.keeps F.keep
 refine codeAny_call_def (fd:=fnOf name qual params body scope dV kV doc pm an jc ct) (body:=body) (binds:=binds.reverse) AT (X _ _ ho) rfl (T.nolimit.keeps F.keep) (codeRec_of X vA) rfl AU nV AV (λaS z0 ML=> ?_) AW AX hk
 have nm:∀b o,h₀.get? b=some o->b∉news.map (·.1):=λb o e q=>by
  obtain ⟨p,hp,rfl⟩:=ew.mp q
  rw [(N p hp).2.2] at e
  cases e
 have st:h₀.StaysIn (hideAll s.heap (news.map (·.1))):=λb o e=>o7 _ (F.keep b o e) (nm b o e)
 obtain ⟨oL,es,ep,hL,EY,MN,MO⟩:=id F.ns
 have nL:L∉news.map (·.1):=λq=>by
  obtain ⟨p,hp,e⟩:=ew.mp q
  exact (N p hp).2.1 e
 have EZ:=o7 (news.map (·.1)) hL nL
 have MP:(hideAll s.heap (news.map (·.1))).Ns L m:=⟨oL,es,ep,EZ,EY,MN,MO⟩
 have fm:[env].filterMap (·.frame)=[L]:=by simp [hf]
 have MQ:h₀.get? L=none:=kts_self F
 have Xd:fx A base [env] (hideAll s.heap (news.map (·.1))):=⟨hA,λb o e=>st b o (B.stays b o e),Heap.FunFrames.cons (by rw [AS];exactλq=>by cases q) hf MP (xu B.stays MQ) trivial⟩
 refine gx (h _ s.heap.objs.size aS _ ⟨MP,st,F.above⟩ ⟨by rw [List.reverse_reverse] at z0;exact z0,λb o e=>ML b o (of_hideAll _ e),jr (hideAll_size _ _)⟩
  (λp hp=>⟨ML _ _ (N p hp).1,cL (fH (N p hp).1),xw _ (Ax hp)⟩) Xd (sZ.keeps st) (T.keeps st) (λb hb=>by
   rw [fm] at hb
   rw [bN.mp hb]
   exact ⟨oL,es,ep,EZ,EY⟩)) (λfl s' hl=> ?_) λz z y=>y
 obtain ⟨g',L',m',q7,T',F',N',k⟩:=hl
 obtain ⟨sl,hs⟩:=T'.up EZ
 refine k ⟨⟨_,es,ep,F'.keep _ _ hs,EY,MN,MO⟩,λb o e=>F'.keep b o (T'.other b o (st b o e) (λq=>by
  rw [fm] at q
  rw [bN.mp q,MQ] at e
  cases e)),F.above⟩ λp hp=>⟨(N' p hp).1,λq=> ?_, ?_⟩
 ·have:=(N' p hp).2.2
  rw [q,hs] at this
  cases this
 ·cases q:h₀.get? p.1 with
  |none=>rfl
  |some o=>
   obtain ⟨Yx,tZ⟩:=T'.up (st _ _ q)
   have:=(N' p hp).2.2
   rw [tZ] at this
   cases this
end
end
section
section
variable {prog:cP} {w:ah} {A:bZ} {E:aa->ak->Prop} {s:ak} {env:cu} {h₀:bA} {x:ai} {px:aW} {body:List bP} {Q:eK->ak->Prop}
theorem Xe {r:ac} {a b:Int} {t u v:af} {n:Nat} {m₀:ai->Option aa} {news:Led} (J:Nat->(ai->Option aa)->Led->Prop)
  (hh:A.handled=none) (F:Fr h₀ env.locals s.heap m₀) (N:aU h₀ env.locals s.heap news) (hr:IsRange s.heap r a b 1 t u v) (EL:Builtin.Range.small a b 1=true) (hn:Ff a b 1=((n:Nat):Int)) (h0:J 0 m₀ news)
  (step:∀I i v m₁ nw aS cC own,i<n->(∃t,v= .int (a+(i:Int)) t)->(∃oI,(I,oI)∈own)->(∀p∈own,p.1=I)->J i m₁ nw->(∀p∈nw,p.1≠I)->Fr h₀ env.locals aS m₁->aU h₀ env.locals aS (own++nw)->
   aC (aG prog w) A (assign (.Name x px) env v) (λz fK=>aC (aG prog w) A (d8 body env) (TurnEnd h₀ env.locals I own (J (i+1)) {s with heap:=aS,toks:=cC}) E fK) E {s with heap:=aS,toks:=cC})
  (fin:∀h' tk m' nw,Fr h₀ env.locals h' m'->aU h₀ env.locals h' nw->J n m' nw->Q .next {s with heap:=h',toks:=tk}):
  aC (aG prog w) A (pyIter (.ref r)) (λit gR=>mc prog w A h₀ env (.Name x px) body Q E it gR) E s:=by
 refine wpAny_pyIter_range hr EL (ty J F N h0 (vo (LCg.range_walks hh a n) λi v s Q E st q=>dR q)
  (λb hb=>nomatch hb) ?_ (λz z st=>⟨_,st⟩) (λi v m₁ nw aS cC own hi hP o f j u=>step _ i v m₁ nw aS cC own hi hP o (λp hp=>bN.mp (f p hp)) j u) fin)
 show IsRangeIter _ _ _ _ _
 rw [hn]
 simpa using ja _ rfl
end
end
section
local macro_rules | `(tactic| walk_at "exec For Name Call cons nil") => `(tactic| (k_here; (rename Fr _ _ _ _ => we); (with_unfolding_all refine' For_turns we ?_; k_whole)))
theorem Xf {own nw tl:Led} {x p:ac×av} (h:p∈own++(x::nw++tl)):p∈x::(own++nw)++tl:=by
 rcases aM.mp h with h|h
 ·exact aq _ (.tail _ (aq _ h))
 ·rcases aM.mp h with h|h
  ·exact aq _ ((bj.mp h).elim (λe=>e▸ .head _) λh=>.tail _ (ay _ h))
  ·exact ay _ h
theorem MR:∀j,ht (nest j)=j
 |0=>rfl
 |j+1=>(bW (λx=>max (x+1) 0) (MR j)).trans (Nat.max_eq_left (da _))
theorem MS:∀j,j<=100->CP (nest j)
 |0,z=>by
  have:(-1073741823:Int)<=1:=by decide
  exact dF (by decide) (dF (by decide) (dF (by decide) (by decide)))
 |j+1,h=>by
  have:=MS j (by omega)
  exact dF (by decide) (dF (by decide) (dF (by omega) (dF (by omega) (dF (by decide) (dF (by decide) (dF (by decide) (dF (by decide) (dF (dB rfl) (dF this trivial)))))))))
theorem MT {w:ah} {p:cP} {loose:List ai} {bH:gp->Option aa} {mg mb:ai->Option aa} {dp un:Nat} {gd:Option (List gN)} {cn:ai} {cs:bD} {a:ac} {bX:aa} {cl:List (ai×ac)} {outer:List cu} {A₀:bZ} {base h₀:bA} {L:ac} {m:ai->Option aa} {news:Led} {s:ak} {Q E:aa->ak->Prop} {ha:ac} {hw hc many:Int} {tw tc t:af} {hn:Nat} (hm:1<=many) (Xg:many<1000) (d5:0<=hc) (ig:hc<1000000) (bI:∀p∈news,p.1≠ha) (B:fx A₀ base outer h₀) (F:Fr h₀ L s.heap m) (X:(KK w.params).In h₀) (N:aU h₀ L s.heap ((ha,(⟨.type "list",none,.seq #[.int hw tw,.int hc tc] hn,#[]⟩:av))::news)) (T:Top p loose bH mg mb h₀) (hk:cs.kind= .function) (hd:dp+8<recursionLimit) (hu:un+64<cLine)
  (gb:∀r tr ox tw tc hn h' bQ,Fr h₀ L h' m->aU h₀ L h' ((ha,(⟨.type "list",none,.seq #[.int ox tw,.int (hc+1) tc] hn,#[]⟩:av))::news)->0<=r->r<many->Q (.int r tr) {s with heap:=h',toks:=bQ}):
  aC (aG rw_sq0062_01.row.prog w) (gy dp un gd cn cs L a bX cl outer) (call (.ref 938) [.ref ha,.int many t]) Q E s:=
 IG w p loose bH mg mb dp un gd cn cs a bX cl outer A₀ base h₀ L m news s Q E ha hw hc tw tc hn [.int many t] (λy h=>nomatch h) ⟨⟨many,t,rfl,hm,Xg⟩,d5,ig⟩ bI B F X N T hk hd hu λr ox er tw tc hn tl h' bQ F' N' y y e=>by
  obtain ⟨z,rfl,rfl,rfl,q⟩:=e
  rw [iy] at N'
  exact gb _ _ _ _ _ _ _ _ F' N' q.n (q.m _ _ rfl)
theorem Xh {w:ah} {p:cP} {loose:List ai} {bH:gp->Option aa} {mg mb:ai->Option aa} {dp un:Nat} {gd:Option (List gN)} {cn:ai} {cs:bD} {a:ac} {bX:aa} {cl:List (ai×ac)} {A₀:bZ} {h₀:bA} {L:ac} {m:ai->Option aa} {news:Led} {s:ak} {Q E:aa->ak->Prop} {ha:ac} {hw hc:Int} {tw tc:af} {hn:Nat} (d5:0<=hc) (ig:hc<900000) (bI:∀p∈news,p.1≠ha) (B:fx A₀ h₀ [] h₀) (F:Fr h₀ L s.heap m) (X:(KK w.params).In h₀) (N:aU h₀ L s.heap ((ha,(⟨.type "list",none,.seq #[.int hw tw,.int hc tc] hn,#[]⟩:av))::news)) (T:Top p loose bH mg mb h₀) (hk:cs.kind= .function) (hd:dp+690<recursionLimit) (hu:un+5600<cLine)
  (gb:∀h' bQ,Fr h₀ L h' m->Q (.bool true) {s with heap:=h',toks:=bQ}):
  aC (aG rw_sq0062_01.row.prog w) (gy dp un gd cn cs L a bX cl []) (call (.ref 990) [.ref ha]) Q E s:=by
 revert X;k_fill;intro X
 refine oX ?_
 k_dflt (refine' Xc (K:=KK w.params) (binds:=[(aF "heap",.ref ha)]) (by k_asm) (by k_asm) (by k_asm) (by k_asm) (by k_asm) rfl rfl (by assumption) rfl (by k_is) (by ktr_room) (vp rfl) (locs rfl) rfl ?_ rfl rfl rfl (by decide);k_whole;intro z z z z z z z z z z z;(try dsimp only);(try k_fold))
 k_steps
 unfold Stop
 k_dflt (refine' MT ?m1 ?m2 ?c0 ?c1 ?ne ?B ?F ?X ?N ?T ?hk ?hd ?hu ?_;(case B=>k_asm);(case F=>k_asm);(case X=>k_asm);(case N=>exact by k_asm);(case T=>k_asm);(case hk=>first|exact rfl|assumption);(case hd=>ktr_room);(case hu=>ktr_units);(case m1=>omega);(case m2=>omega);(case c0=>omega);(case c1=>omega);(case ne=>exact bI);k_whole;intro r1 Yy Yz YA YB YC h1 xi F1 N1 Xi YD;(try dsimp only);(try k_fold))
 k_steps
 unfold Stop
 k_dflt (refine' MT ?m1 ?m2 ?c0 ?c1 ?ne ?B ?F ?X ?N ?T ?hk ?hd ?hu ?_;(case B=>k_asm);(case F=>k_asm);(case X=>k_asm);(case N=>exact by k_asm);(case T=>k_asm);(case hk=>first|exact rfl|assumption);(case hd=>ktr_room);(case hu=>ktr_units);(case m1=>omega);(case m2=>omega);(case c0=>omega);(case c1=>omega);(case ne=>exact bI);k_whole;intro r2 Mm YE YF YG YH h2 sr F2 N2 Xj YI;(try dsimp only);(try k_fold))
 k_steps
 unfold Stop
 k_dflt (refine' Sp.use (W8 w) (by k_asm) (by k_asm) (by k_asm) (by k_asm) (by k_asm) (by first|exact rfl|assumption) (by ktr_room) (by ktr_units) ?hp ?_;(case hp=>exact ⟨_,_,rfl⟩);k_whole;intro x3 zU h3 Ab F3 N3 o3 q3;(try dsimp only);(try k_fold))
 obtain ⟨lZ,q3⟩:=q3
 obtain ⟨b1,rfl⟩:=ke Xi
 obtain ⟨b2,rfl⟩:=ke Xj
 k_steps
 rename Fr _ _ _ _=>F5
 rename aU _ _ _ _=>N5
 rename IsRange _ _ _ _ _ _ _ _=>R5
 refine Xe (s:={heap:=_,gens:=s.gens,drawn:=s.drawn,toks:=_,os:=s.os}) (n:=b2+1) (λi m₁ nw=>m₁ (aF "below")=some (.int (52+(b1:Int)) _)/\m₁ (aF "many")=some (.int (1+(b2:Int)) _)/\ ∃v mu,m₁ (aF "nest")=some v/\ND w.params nw (nest i) v mu)
  (by rfl) F5 N5 R5 (PySem.small_one (by omega) (by omega) (by omega) (by omega)) ((rangeSize_nat _ _).trans (by omega)) ⟨rfl,rfl,_,_,rfl,ND.mono (λp h=>ay _ h) _ _ _ q3⟩ ?_ ?_
 ·rintro I i v m₁ nw aS cC own hi ⟨t9,e9⟩ ⟨oI,hI⟩ hO ⟨MU,wJ,vn,mu,Xk,sw⟩ oq rb vX
  rw [Int.zero_add] at e9
  subst e9
  rw [show m₁=λy=>if y=aF "nest" then some vn else m₁ y from funext λy=>by split<;>simp_all] at rb
  clear F5 N5
  k_steps
  unfold Stop
  rename ac=>qL
  k_dflt (refine' Sp.use (Xb w ((qL,(⟨.type "list",none,.seq #[vn] 0,#[]⟩:av))::nw) i) (by k_asm) (by k_asm) (by k_asm) (by k_asm) (by k_asm) (by first|exact rfl|assumption) (by ktr_room) (by ktr_units) ?hp ?_;(case hp=>exact ⟨⟨qL,vn,0,_,_,_,_,mu⟩,rfl,.head _,ND.mono (λp h=>.tail _ h) _ _ _ sw,by omega⟩);k_whole;intro x8 E0 h8 E1 F8 N8 o8 q8;(try dsimp only);(try k_fold))
  obtain ⟨YJ,q8⟩:=q8
  k_steps
  rename Fr _ _ _ _=>F9
  rename aU _ _ _ _=>N9
  rename ∀p∈own++nw,p.1<_=>lA
  refine ⟨rfl,_,_,_,_,rfl,F9,λp hp=>N9 p (Xf hp),λp hp e=> ?_,MU,wJ,_,_,rfl,q8⟩
  rcases aM.mp hp with hp|hp
  ·rcases bj.mp hp with rfl|hp
   ·exact cL (lA (I,oI) (aq _ hI)) e.symm
   ·exact oq p hp e
  ·exact o8 (I,oI) (.tail _ (aq _ hI)) p hp e.symm
 ·rintro h7 Co ou nw rz tU ⟨MU,wJ,vn,mu,Xk,sw⟩
  clear F5 N5
  rw [show ou=λy=>if y=aF "nest" then some vn else if y=aF "below" then some (.int (52+(b1:Int)) xi) else if y=aF "many" then some (.int (1+(b2:Int)) sr) else ou y from funext λy=>by(repeat' split)<;>simp_all] at rz
  obtain ⟨dd,Xl⟩:∃dd:Nat,52+(b1:Int)=(dd:Int):=⟨52+b1,by omega⟩
  rw [Xl] at rz
  have hh:=MR (b2+1)
  have cp:=MS (b2+1) (by omega)
  dsimp only
  k_steps
  by_cases YK:dd+(b2+1)<=60
  ·have C1:gc w (nest (b2+1)):=Ep w _ cp
   have T1:Tells w (nest (b2+1)):=U0 w _ cp
   unfold Stop
   k_dflt (refine' Sp.use (C1 nw dd (by omega)) (by k_asm) (by k_asm) (by k_asm) (by k_asm) (by k_asm) (by first|exact rfl|assumption) (by ktr_room) (by ktr_units) ?hp ?_;(case hp=>exact ⟨λq h=>h,_,_,_,rfl,sw⟩);k_whole;intro r9 yZ h9 Sf F9 N9 o9 q9;(try dsimp only);(try k_fold))
   obtain ⟨YL,q1,q2,q3⟩:=q9
   k_steps
   unfold Stop
   k_dflt (refine' Sp.use (T1 (nw++yZ) 0 (by omega)) (by k_asm) (by k_asm) (by k_asm) (by k_asm) (by k_asm) (by first|exact rfl|assumption) (by ktr_room) (by ktr_units) ?hp ?_;(case hp=>exact ⟨λq h=>h,_,_,_,rfl,q1⟩);k_whole;intro r8 E0 h8 E1 F8 N8 o8 q8;(try dsimp only);(try k_fold))
   k_steps
   unfold Stop
   k_dflt (refine' Sp.use (T1 nw 0 (by omega)) (by k_asm) (by k_asm) (by k_asm) (by k_asm) (by k_asm) (by first|exact rfl|assumption) (by ktr_room) (by ktr_units) ?hp ?_;(case hp=>exact ⟨λp hp=>aq _ (aq _ hp),_,_,_,rfl,sw⟩);k_whole;intro r6 YM h6 MV F6 N6 o6 q6;(try dsimp only);(try k_fold))
   k_steps
   obtain ⟨YN,Xm⟩:=RD.reads q8 (λp hp=>N6 p (aq _ hp))
   obtain ⟨YO,Xn⟩:=RD.reads q6 (λp hp=>N6 p (by
    rcases aM.mp hp with hp|hp
    ·exact aq _ (aq _ (aq _ hp))
    ·exact ay _ hp))
   k_dflt (refine' eq_dataH Xm Xn ?s1 ?s2 ?u9 ?_;(case s1=>exact IW (by omega));(case s2=>exact IW (by omega));(case u9=>ktr_units);k_whole)
   rw [Q4.mpr rfl]
   k_steps
   unfold Stop
   k_dflt (refine' Sp.use (T1 nw dd (by omega)) (by k_asm) (by k_asm) (by k_asm) (by k_asm) (by k_asm) (by first|exact rfl|assumption) (by ktr_room) (by ktr_units) ?hp ?_;(case hp=>exact ⟨λp hp=>aq _ (aq _ (aq _ hp)),_,_,_,rfl,sw⟩);k_whole;intro r5 YQ h5 Cn F5 N5 o5 q5;(try dsimp only);(try k_fold))
   k_steps
   rename Fr h₀ L _ _=>kF
   rw [gW (by omega)]
   exact gb _ _ kF
  ·have rc:=MJ w (b2+1) dd (by omega)
   unfold Stop
   k_dflt (refine' jp.use (rc nw) (by k_asm) (by k_asm) (by k_asm) (by k_asm) (by k_asm) (by first|exact rfl|assumption) (by ktr_room) (by ktr_units) ?hp ?_;(case hp=>exact ⟨λq h=>h,_,_,_,rfl,sw⟩);k_whole;intro e8 t8 YR g8 h8 E1 F8 R8 U8;(try dsimp only);(try k_fold))
   k_steps
   have rt:=MK w (b2+1) dd (by omega)
   unfold Stop
   k_dflt (refine' jp.use (rt nw) (by k_asm) (by k_asm) (by k_asm) (by k_asm) (by k_asm) (by first|exact rfl|assumption) (by ktr_room) (by ktr_units) ?hp ?_;(case hp=>exact ⟨λq h=>h,_,_,_,rfl,sw⟩);k_whole;intro e6 t6 YS g6 h6 MV F6 R6 U6;(try dsimp only);(try k_fold))
   k_steps
   rename Fr h₀ L _ _=>kF
   rw [gW (by omega)]
   exact gb _ _ kF
end
section
theorem uX {w:ah} {NN:Led} {D b:Nat} {c:Cx} {r:Ev} {l1 l2:List bP} {st:St} {s:ak} {Q:eK->ak->Prop} {E:aa->ak->Prop} (I:is w NN D r) (O:c.Ok w NN D b) (hF:c.Fn) (R:Rep w c st s) (h:r.fh c.es b l1 st λf ao=>f=none/\ ∀s',Rep w c ao s'->aC (aG PG w) c.A (d8 l2 c.ee) Q E s'):aC (aG PG w) c.A (d8 (l1++l2) c.ee) Q E s:=
 Mz (I.fh O hF R h λf ao s' R' z z hk=>by
  obtain ⟨rfl,hk⟩:=hk
  exact hk s' R')
theorem Xo:((sB (dH 92)).drop 2)=lm 2 2++(lm 4 2++(lm 6 1++(lm 7 2++(lm 9 2++(lm 11 1++(sB (dH 92)).drop 12))))):=by kernel_rfl
theorem Xp {ts:List Tr} (w:dK ts) (l:ts.length<=5) (h:cA ts<=3):lp (bO ts):=⟨(w0 ts w).1,by rw [pM];exact aI l (by decide),aI (w0 ts w).2 (aI (dS h) (by decide)),Vr ts w⟩
theorem uJ.mono {P:aB} {L L':Led} {tr ot:np} {ts iM:List Tr} (sub:∀p∈L,p∈L') (h:uJ P L tr ot ts iM):uJ P L' tr ot ts iM:=⟨sub _ h.m1,bF.mono (λp hp z=>sub p hp) _ _ h.t1,h.w1,h.l1,h.h1,sub _ h.m2,bF.mono (λp hp z=>sub p hp) _ _ h.t2,h.w2,h.l2,h.h2⟩
theorem Dj.symm {a c:List ac} (h:Dj a c):Dj c a:=⟨λx hc ha=>h.h x ha hc⟩
theorem MW {o o' rest:Led} (h:∀p∈o,p∈o'):∀p∈o++rest,p∈o'++rest:=λp hp=>(aM.mp hp).elim (λhp=>aq _ (h p hp)) λhp=>ay _ hp
structure Ac (P:aB) (rest o:Led) (ds:List Nd) (it v1 v2 rv:ac):Prop where
 d:lp ds
 n2:∃mu,fW P rest o ds v2 mu
 n1:∃mu,jo P rest o (eB ds++[.dk 1]) v1 mu
 ni:∃mu,jo P rest o (eB ds++[.dk 1]) it mu
 r:RD (o++rest) (.ref rv) (.tuple (bS ds))
theorem Xq {w:ah} {rest:Led} {c:Cx} {ha fq q:ac} {W:Int} {t1 t2:af} {n0 tk:Nat} {s:ak} {Q:eK->ak->Prop} {E:aa->ak->Prop} (es:c.es=gm) (O:c.Ok w rest 690 2) (hF:c.Fn) (R:Rep w c ⟨si ha fq q,oQ ha W 0 t1 t2 n0,[],tk⟩ s) (hf:lL w.params rest fq)
  (hz:∀tr ot it rv v1 v2 ds o W c' t1 t2 n0 b tk s',Ac w.params rest o ds it.1 v1 v2 rv->0<=c'->c'<=2000->Rep w c ⟨gU ha fq q tr ot it rv v1 v2,gV ha W c' t1 t2 n0 b v1 v2,o,tk⟩ s'->aC (aG PG w) c.A (d8 ((sB (dH 92)).drop 12) c.ee) Q E s'):aC (aG PG w) c.A (d8 ((sB (dH 92)).drop 2) c.ee) Q E s:=by
 have I:is w rest 690 (nj w rest):=tJ (LP (by decide)) (LN (by decide)) 99
 rw [Xo]
 refine uX I O hF R (es▸VK tk rfl λtr ot ts iM o1 W c1 t1 t2 n0 xi F c0 c2=>⟨rfl,λs1 R1=>uX I O hF R1 (es▸VL xi hf F λit rv mu o2 sr sb nl rd=>⟨rfl,λs2 R2=>uX I O hF R2 (es▸VM sr hf (F.mono (MW sb)) rd λo3 Ab MX=>⟨rfl,λs3 R3=> ?_⟩)⟩)⟩)
 have hd:=Xp F.w1 F.l1 F.h1
 refine uX I O hF R3 (es▸VN Ab hd (nl.mono MX) (RD.mono (MW MX) rd) λv1 v2 jX jY o4 b E2 a1 a2 a3 j1 j2 j3 r4=>⟨rfl,λs4 R4=>uX I O hF R4 (es▸VO E2 hd a1 a2 a3 j1.symm j3 r4 λo5 lZ Cn b1 b2 b3 b4 r5=>⟨rfl,λs5 R5=>uX I O hF R5 (es▸VP Cn hd b1 b2 b3 j2 ⟨λx hx=>j1.h x (b4 x hx)⟩ r5 λo6 zV MV d1 d2 d3 r6=>⟨rfl,λs6 R6=>hz _ _ _ _ _ _ _ _ _ _ _ _ _ _ _ _ ⟨hd,⟨_,d1⟩,⟨_,d2⟩,⟨_,d3⟩,r6⟩ c0 c2 R6⟩)⟩)⟩)
end
section
noncomputable def E3 (x:String) (a b c d:Nat):Expr:=.Call (.Name (aF "described_list") ⟨648,a,648,a+14⟩) [.Name (aF x) ⟨648,b,648,c⟩] [] ⟨648,a,648,d⟩
noncomputable def MY:Expr:=.Compare (E3 "second" 11 26 32 33) [.Eq] [.Name (aF "told") ⟨648,37,648,41⟩] ⟨648,11,648,41⟩
noncomputable def MZ:Expr:=.Compare (E3 "items" 46 61 66 67) [.Eq] [E3 "first" 71 86 91 92] ⟨648,46,648,92⟩
theorem Xr:(sB (dH 92)).drop 12=[.Return (some (.BoolOp .And [MY,MZ,.Call (.Name (aF "_law_deep") ⟨648,97,648,106⟩) [.Name (aF "heap") ⟨648,107,648,111⟩] [] ⟨648,97,648,112⟩] ⟨648,11,648,112⟩)) ⟨648,4,648,112⟩]:=by kernel_rfl
section
variable {w:ah} {rest o:Led} {ha fq q:ac} {W c:Int} {t1 t2:af} {n0:Nat} {tr ot it:np} {rv v1 v2 b:ac} {ds:List Nd}
theorem Xs {K:SV->St->Prop} (tk:af) (f:Ac w.params rest o ds it.1 v1 v2 rv) (hK:∀tl tk,K (.lit (.bool true)) ⟨gU ha fq q tr ot it rv v1 v2,gV ha W c t1 t2 n0 b v1 v2,o++tl,tk⟩):(nj w rest).ev gm 2 MY ⟨gU ha fq q tr ot it rv v1 v2,gV ha W c t1 t2 n0 b v1 v2,o,tk⟩ K:=by
 refine @cD _ (∃d,jH w.params (o++rest) d [.ref v2]/\ ∀(a:ac) (tl:Led) (tk:af),cH (o++rest) tl->lX (o++rest) d tl a-> ∃x,gM (o++tl++rest) (.ref a) x/\ ∃y,gM (o++tl++rest) (.ref rv) y/\K (.lit (.bool (ec x y))) ⟨gU ha fq q tr ot it rv v1 v2,gV ha W c t1 t2 n0 b v1 v2,o++tl,tk⟩) ?_ ?_
 ·kernel_rfl
 have e:ec (.tuple (bS ds)) (.tuple (bS ds))=true:=wy.mpr rfl
 exact ⟨ds,uK f.d (f.n2.elim λmu h=>h.nl),λa tl tk z r=>⟨_,lY f.d (RD.mono kA r.r),_,lY f.d (RD.mono up1 f.r),by rw [e];exact hK tl tk⟩⟩
theorem Xu {K:SV->St->Prop} (tk:af) (f:Ac w.params rest o ds it.1 v1 v2 rv) {tl:Led} (hK:∀o' tk,K (.lit (.bool true)) ⟨gU ha fq q tr ot it rv v1 v2,gV ha W c t1 t2 n0 b v1 v2,o',tk⟩):(nj w rest).ev gm 2 MZ ⟨gU ha fq q tr ot it rv v1 v2,gV ha W c t1 t2 n0 b v1 v2,o++tl,tk⟩ K:=by
 refine @cD _ (∃d,jH w.params (o++tl++rest) d [.ref it.1]/\ ∀(a:ac) (ql:Led) (_:af),cH (o++tl++rest) ql->lX (o++tl++rest) d ql a-> ∃d2,jH w.params (o++tl++ql++rest) d2 [.ref v1]/\ ∀(a2:ac) (xj:Led) (tk:af),cH (o++tl++ql++rest) xj->lX (o++tl++ql++rest) d2 xj a2-> ∃x,gM (o++tl++ql++xj++rest) (.ref a) x/\ ∃y,gM (o++tl++ql++xj++rest) (.ref a2) y/\K (.lit (.bool (ec x y))) ⟨gU ha fq q tr ot it rv v1 v2,gV ha W c t1 t2 n0 b v1 v2,o++tl++ql++xj,tk⟩) ?_ ?_
 ·kernel_rfl
 have e:ec (.tuple (bS (eB ds++[.dk 1]))) (.tuple (bS (eB ds++[.dk 1])))=true:=wy.mpr rfl
 exact ⟨_,EB f.d (zT up1 (f.ni.elim λmu h=>h.nl)),λa u1 z z r=>⟨_,EB f.d (zT (λp h=>up1 p (up1 p h)) (f.n1.elim λmu h=>h.nl)),λa2 u2 tk z r2=>⟨_,EC f.d (RD.mono (λp h=>up1 p (kA p h)) r.r),_,EC f.d (RD.mono kA r2.r),by rw [e];exact hK _ tk⟩⟩⟩
end
theorem Xv {w:ah} {p:cP} {loose:List ai} {bH:gp->Option aa} {mg mb:ai->Option aa} {dp un:Nat} {gd:Option (List gN)} {cd:aa} {A₀:bZ} {h₀:bA} {L fa ha fq q:ac} {oh of:av} {rest o:Led} {en s:ak} {Q:eK->ak->Prop} {E:aa->ak->Prop} {W c:Int} {t1 t2:af} {n0 tk:Nat} {tr ot it:np} {rv v1 v2 b:ac} {ds:List Nd} (dh:oh.data= .cell (some (.ref ha))) (df:of.data= .cell (some (.ref fq))) (B:fx A₀ h₀ [] h₀) (X:(KK w.params).In h₀) (T:Top p loose bH mg mb h₀) (hd:dp+696<recursionLimit) (hu:un+7200<cLine)
  (f:Ac w.params rest o ds it.1 v1 v2 rv) (c0:0<=c) (c2:c<=2000) (R:Rep w (Cx.m9 p loose bH mg mb dp un gd cd A₀ h₀ L fa ha fq oh of rest en) ⟨gU ha fq q tr ot it rv v1 v2,gV ha W c t1 t2 n0 b v1 v2,o,tk⟩ s)
  (ret:∀h' bQ m',Fr h₀ L h' m'->Q (.ret (.bool true)) {en with heap:=h',toks:=bQ}):aC (aG PG w) (gy dp un gd (aF "law") gm L fa cd (cellsFrom (L+1) gm.names []) []) (d8 ((sB (dH 92)).drop 12) (envOfC (aF "law") gm L fa cd)) Q E s:=by
 have I:is w rest 690 (nj w rest):=tJ (LP (by decide)) (LN (by decide)) 99
 have O:(Cx.m9 p loose bH mg mb dp un gd cd A₀ h₀ L fa ha fq oh of rest en).Ok w rest 690 2:=LL dh df B X T (by omega) (by omega)
 rw [Xr]
 refine xp (Ah (BoolOp_and (I.ev (c:=Cx.m9 p loose bH mg mb dp un gd cd A₀ h₀ L fa ha fq oh of rest en) (k:=λv ao=>v= .lit (.bool true)/\ ∃tl tk,ao=⟨gU ha fq q tr ot it rv v1 v2,gV ha W c t1 t2 n0 b v1 v2,o++tl,tk⟩) O R (Xs tk f λtl tk=>⟨rfl,tl,tk,rfl⟩) λv aD s1 N1 z pJ=> ?_)))
 obtain ⟨rfl,tl,xi,rfl⟩:=pJ
 refine lw ?_
 refine BoolOp_and (I.ev (c:=Cx.m9 p loose bH mg mb dp un gd cd A₀ h₀ L fa ha fq oh of rest en) (k:=λv ao=>v= .lit (.bool true)/\ ∃o tk,ao=⟨gU ha fq q tr ot it rv v1 v2,gV ha W c t1 t2 n0 b v1 v2,o,tk⟩) O N1.rep (Xu xi f λo tk=>⟨rfl,o,tk,rfl⟩) λv aE s2 N2 z aV=> ?_)
 obtain ⟨rfl,o2,sr,rfl⟩:=aV
 refine lw ?_
 refine BoolOp_one (kH (I.ev (c:=Cx.m9 p loose bH mg mb dp un gd cd A₀ h₀ L fa ha fq oh of rest en) (k:=λv ao=>v= .lit (.ref 990)/\ ∃tk,ao=⟨gU ha fq q tr ot it rv v1 v2,gV ha W c t1 t2 n0 b v1 v2,o2,tk⟩) O N2.rep (fQ (by kernel_rfl:_=(SV.lit (.ref 990)= .lit (.ref 990)/\ ∃tk,(⟨gU ha fq q tr ot it rv v1 v2,gV ha W c t1 t2 n0 b v1 v2,o2,sr⟩:St)=⟨gU ha fq q tr ot it rv v1 v2,gV ha W c t1 t2 n0 b v1 v2,o2,tk⟩)) ⟨rfl,_,rfl⟩) λv gh s3 N3 z dA=> ?_))
 obtain ⟨rfl,Ab,rfl⟩:=dA
 refine callWith_K X (show keepIn (KK w.params) (.ref 990)=true by kernel_rfl) (pF I (c:=Cx.m9 p loose bH mg mb dp un gd cd A₀ h₀ L fa ha fq oh of rest en) (k:=λvs ao=>vs=[.own 0 ha]/\ ∃tk,ao=⟨gU ha fq q tr ot it rv v1 v2,gV ha W c t1 t2 n0 b v1 v2,o2,tk⟩) O rfl N3.rep (fQ (by kernel_rfl:_=([SV.own 0 ha]=[.own 0 ha]/\ ∃tk,(⟨gU ha fq q tr ot it rv v1 v2,gV ha W c t1 t2 n0 b v1 v2,o2,Ab⟩:St)=⟨gU ha fq q tr ot it rv v1 v2,gV ha W c t1 t2 n0 b v1 v2,o2,tk⟩)) ⟨rfl,_,rfl⟩) λvs YT s4 N4 z sa=>⟨O.X.keeps N4.rep.fr.keep, ?_⟩) (fA rfl) (iR (es:=[]) rfl)
 obtain ⟨rfl,E2,rfl⟩:=sa
 have R4:=N4.rep
 have m:=fJ (w:=w) (c:=Cx.m9 p loose bH mg mb dp un gd cd A₀ h₀ L fa ha fq oh of rest en) (st:=⟨gU ha fq q tr ot it rv v1 v2,gV ha W c t1 t2 n0 b v1 v2,o2,E2⟩) (i:=0) rfl
 refine Xh (hw:=W) (tw:=t1) (tc:=t2) (hn:=n0) c0 (mj c2 (by decide)) (λp hp e=>(iY hp).2 (bN.mpr e)) B R4.fr X (News.pull R4.nw m) T rfl (by omega) (by omega) λh' bQ F'=> ?_
 rw [R4.same]
 exact ret h' bQ _ F'
end
section
theorem Xw {ha fq q:ac}:findF (sO "heap") (si ha fq q)=some (.own 0 ha):=by kernel_rfl
theorem Xx {ha fq q:ac}:findF (sO "fonts") (si ha fq q)=some (.ag (.ref fq)):=by kernel_rfl
theorem Xy {ha fq q:ac}:(λy=>nJ y [(sO "script",ae q)])=kT gm (si ha fq q):=by
 funext y
 unfold kT
 by_cases h1:y=sO "script"
 ·subst h1
  kernel_rfl
 ·have e1:nJ y [(sO "script",ae q)]=none:=by
   show(match y==sO "script" with|true=>some (ae q)|false=>none)=none
   rw [ia h1]
  rw [e1]
  by_cases h2:y=sO "heap"
  ·subst h2
   kernel_rfl
  ·by_cases h3:y=sO "fonts"
   ·subst h3
    kernel_rfl
   ·have e2:findF y (si ha fq q)=none:=by
     show(match y==sO "heap" with|true=>some (SV.own 0 ha)|false=>match y==sO "fonts" with|true=>some (SV.ag (.ref fq))|false=>match y==sO "script" with|true=>some (SV.ag (.ref q))|false=>none)=none
     rw [ia h1,ia h2,ia h3]
    rw [e2,ite_self]
    rfl
theorem Xz {w:ah} {p:cP} {loose:List ai} {bH:gp->Option aa} {mg mb:ai->Option aa} {dp un:Nat} {gd:Option (List gN)} {cd:aa} {A₀:bZ} {h₀:bA} {L:ac} {s:ak} {Q:eK->ak->Prop} {E:aa->ak->Prop} {fa ha fq q:ac} {W:Int} {t1 t2:af} {n0:Nat} {oh of:av} {rest:Led} (B:fx A₀ h₀ [] h₀) (X:(KK w.params).In h₀) (T:Top p loose bH mg mb h₀) (hd:dp+696<recursionLimit) (hu:un+7200<cLine) (dh:oh.data= .cell (some (.ref ha))) (df:of.data= .cell (some (.ref fq))) (F:Fr h₀ L s.heap (λy=>nJ y [(sO "script",.ref q)])) (N:aU h₀ L s.heap ((ha,(⟨.type "list",none,.seq #[.int W t1,.int 0 t2] n0,#[]⟩:av))::rest)) (bI:∀p∈rest,p.1≠ha) (e1:(L+1,oh)∈rest) (e2:(L+1+1,of)∈rest) (XA:lL w.params rest fq)
  (ret:∀h' bQ m',Fr h₀ L h' m'->Q (.ret (.bool true)) {s with heap:=h',toks:=bQ}):aC (aG PG w) (gy dp un gd (sO "law") gm L fa cd (cellsFrom (L+1) gm.names []) []) (d8 ((sB (dH 92)).drop 2) (envOfC (sO "law") gm L fa cd)) Q E s:=by
 refine Xq (c:=Cx.m9 p loose bH mg mb dp un gd cd A₀ h₀ L fa ha fq oh of rest s) (ha:=ha) (fq:=fq) (q:=q) (W:=W) (t1:=t1) (t2:=t2) (n0:=n0) (tk:=s.toks) rfl (LL dh df B X T (by omega) (by omega)) VB ?_ XA λtr ot it rv v1 v2 ds o W c' t1 t2 n0 b tk s' f c0 c2 R=>Xv dh df B X T hd hu f c0 c2 R ret
 have hh:∀p∈[(L+1,oh),(L+1+1,of)],p∈rest:=bU.mpr ⟨e1,eM.mpr e2⟩
 have i0:∀{i:Nat} {e:LE},(oQ ha W 0 t1 t2 n0)[i]? =some e->i=0/\e=⟨ha,.lst (iu W 0 t1 t2) n0,true⟩:=λ{i e} h=>by
  cases i with
  |zero=>cases h;exact ⟨rfl,rfl⟩
  |succ i=>cases h
 refine ⟨⟨⟨λi e h z=> ?_,λi e h z p hp=> ?_,λi e h hf=> ?_,λz h=>(nomatch h),λi e h=> ?_⟩,⟨λv h=> ?_,λv h=> ?_⟩,bU.mpr ⟨⟨_,rfl,rfl⟩,bU.mpr ⟨trivial,eM.mpr trivial⟩⟩⟩,rfl,rfl, ?_,λp hp=>N p ?_⟩
 ·obtain ⟨rfl,rfl⟩:=i0 h
  exact ⟨bI,λj e' h' z=>(i0 h').1⟩
 ·obtain ⟨rfl,rfl⟩:=i0 h
  exact bI p (hh p hp)
 ·obtain ⟨rfl,rfl⟩:=i0 h
  cases hf
 ·obtain ⟨rfl,rfl⟩:=i0 h
  exact bU.mpr ⟨trivial,eM.mpr trivial⟩
 ·rw [Xw] at h;cases h;rfl
 ·rw [Xx] at h;cases h;rfl
 ·rw [Xy (ha:=ha) (fq:=fq)] at F
  exact F
 ·rcases bj.mp hp with rfl|hp
  ·exact .head _
  ·exact .tail _ ((aM.mp (show p∈[(L+1,oh),(L+1+1,of)]++rest from hp)).elim (hh p) id)
end
section
local macro_rules | `(tactic| walk_at "exec For Name Subscript cons nil") => `(tactic| (k_here; (rename Fr _ _ _ _ => we); (with_unfolding_all refine' For_turns we ?_; k_whole)))
local macro_rules | `(tactic| walk_at "subscriptTail Name Slice ref ref") => `(tactic| (k_here; (with_reducible show wpAny _ _ (subscriptTail _ (PySem.Expr.Slice _ _ none _) (Value.ref _) (Value.ref _)) _ _ _); refine BA ?_))
theorem XB {vs:List aa} {ns:List Int} (x:qA vs ns):∀v∈vs,∃z t,v= .int z t:=by
 induction x with
 |nil=>exactλq h=>nomatch h
 |cons n t y ih=>exactλv hv=>(bj.mp hv).elim (λe=>⟨n,t,e⟩) (ih v)
theorem XC {w:ah} {p:cP} {loose:List ai} {bH:gp->Option aa} {mg mb:ai->Option aa} {dp un:Nat} {gd:Option (List gN)} {cn:ai} {cs:bD} {a:ac} {bX:aa} {cl:List (ai×ac)} {outer:List cu} {A₀:bZ} {base h₀:bA} {L:ac} {m:ai->Option aa} {news:Led} {s:ak} {Q E:aa->ak->Prop} {q:ac} {vs:List aa} {ns:List Int} (hl:h₀.IsList q vs.toArray) (hi:qA vs ns) (hz:vs.length<=63) (B:fx A₀ base outer h₀) (F:Fr h₀ L s.heap m) (X:(KK w.params).In h₀) (N:aU h₀ L s.heap news) (T:Top p loose bH mg mb h₀) (hk:cs.kind= .function) (hd:dp+10<recursionLimit) (hu:un+80<cLine)
  (gb:∀ha W t1 t2 n h' bQ,Fr h₀ L h' m->aU h₀ L h' ((ha,(⟨.type "list",none,.seq #[.int W t1,.int 0 t2] n,#[]⟩:av))::news)->(∀p∈news,p.1<ha)->Q (.ref ha) {s with heap:=h',toks:=bQ}):
  aC (aG rw_sq0062_01.row.prog w) (gy dp un gd cn cs L a bX cl outer) (call (.ref 931) [.ref q]) Q E s:=by
 revert X;k_fill;intro X
 refine oX ?_
 k_dflt (refine' enter (K:=KK w.params) (binds:=[(aF "script",.ref q)]) (by k_asm) (by k_asm) (by k_asm) (by k_asm) (by k_asm) rfl rfl (by assumption) rfl (by k_is) (by ktr_room) (vp rfl) (locs rfl) rfl ?_ rfl rfl rfl (by decide);k_whole;intro _ _ _ _ _ _ _ _ _ _;(try dsimp only);(try k_fold))
 k_steps
 unfold Stop
 rename Fr h₀ L _ _=>FG
 rename Fr _ _ _ _=>F5
 rename aU _ _ _ _=>N5
 obtain ⟨ol,el,rl⟩:=hl
 k_dflt (refine' kmk_slice (s:={heap:=_,gens:=s.gens,drawn:=s.drawn,toks:=_,os:=s.os}) (its:=vs.toArray) (lo:=none) (hi:=some 24) F5 N5 ?l9 ?p9 ?q9 ?_ ?s9 ?g9 ?z9;(case l9=>exact ⟨ol,F5.keep _ _ (FG.keep _ _ el),rl⟩);(case p9=>kmk_part);(case q9=>kmk_part);(case s9=>with_unfolding_all rfl);(case g9=>intro _;with_unfolding_all rfl);(case z9=>rw [l7];simp;omega);k_whole;intro DB hB FB NB lB;(try dsimp only))
 have eP:slicePick vs.toArray none (some 24) none=(vs.take 24).toArray:=PySem.slicePick_upto' vs.toArray 24
 refine GZ (vs:=slicePick vs.toArray none (some 24) none) (n:=0) (λ_ m₁ nw=>nw=(DB,(⟨.type "list",none,.seq (slicePick vs.toArray none (some 24) none) 0,#[]⟩:av))::news/\ ∃(W:Int) (t:af) (f:ai->Option aa),m₁=λy=>if y=aF "whole_one" then some (.int W t) else f y)
  (by rfl) FB NB (.head _) ⟨rfl,_,_,_,rfl⟩ ?_ ?_
 ·rintro I i v m₁ nw aS cC own ry hI ⟨rfl,W,t9,f9,rfl⟩ oq rb vX
  rw [eP] at ry
  obtain ⟨z,tz,rfl⟩:=XB hi v (vd (et (by simpa using ry)))
  k_steps
  rename Fr _ _ _ _=>F9
  rename aU _ _ _ _=>N9
  exact ⟨rfl,_,_,_,_,rfl,F9,N9,oq,rfl,_,_,_,rfl⟩
 ·rintro h7 Co ou nw rz tU ⟨rfl,W,t9,f9,rfl⟩
  k_steps
  rename_i kF kN Tc kX
  rename _/\AllLt _ _=>l1
  exact gb _ _ _ _ _ _ _ kF (λp hp=>kN p (by rcases bj.mp hp with rfl|hp;exact .head _;exact .tail _ (.tail _ hp))) (AllLt.mem l1.2)
end
section
def M0 (p:aW) (f:Bool) (st:St) (v:SV) (κ:bM->Prop):Prop:=oK (uD v.val) λx=>bK (iC (.str x)) (κ (.str x))
noncomputable def E4 (w:ah):Cfg:=⟨[((407,45),lK w D9),((420,31),K6 w),((426,11),xB w),((445,7),xB w),((452,54),lK w D9),((454,46),xB w),((458,27),xB w),((466,22),xB w),((467,21),xB w),((468,23),xB w),((469,21),xB w),((508,12),Ea w.params),((512,11),Ea w.params),((516,12),K2 w)],
 M0,Cfg.none.iv,[((396,4),zG w),((406,4),KU w),((418,4),zG w),((420,8),D8 w),((427,4),KV w),((509,4),D8 w),((517,4),zG w),((518,8),KY w),((520,8),K1 w)]⟩
theorem XD {w:ah} {NN:Led} {D:Nat} {xs:List ((Nat×Nat)×XS)} {iv:aW->St->Int->Nat} {ss:List ((Nat×Nat)×SS)} (h9:9<=D):mG w NN D ⟨xs,M0,iv,ss⟩:=λ{c b st s v p f} O R hv κ h=>by
 refine aJ h λx e h=> ?_
 refine (wW e).elim λt e=> ?_
 refine bv h λh1 h=> ?_
 exact ⟨.str x,h9,⟨[],e▸Reads.str x t⟩,h1,h⟩
theorem XE {w:ah} {NN:Led} {D:Nat} (h9:9<=D):jh w NN D (E4 w):=⟨XD h9,v8 (bU.mpr ⟨D7,bU.mpr ⟨Tu,bU.mpr ⟨D7,bU.mpr ⟨KZ,bU.mpr ⟨Tx,bU.mpr ⟨KZ,bU.mpr ⟨D7,bU.mpr ⟨TC,eM.mpr TH⟩⟩⟩⟩⟩⟩⟩⟩),
 dZ K3 (dZ TM (dZ qf (dZ qf (dZ K3 (dZ qf (dZ qf (dZ qf (dZ qf (dZ qf (dZ qf (dZ K4 (dZ K4 (dZ TJ km)))))))))))))⟩
noncomputable def fnOf (led:List LE) (r:SV):Option Int:=oB (fi r) λi=>oB led[i]? λe=>bB e.f (oB (tg e.o) λC=>bB (ej C.1 896) (oB led[C.2]? λd=>bB d.f (oB (vE d.o) λes=>oB (jN (aF "number") es.1) λv=>d6 v.val)))
theorem XF {P:aB} {led:List LE} {r:SV} {k:Int} (hr:aX led r) (hl:∀(i:Nat) (e:LE),led[i]? =some e->gr led e.o) (h:fnOf led r=some k):∃x,r.val= .ref x/\ ∀L:Led,(∀p∈bo P (led.filter (·.f)),p∈L)->FN P L x k:=by
 refine cz h λi h1 h=> ?_
 refine cz h λe h2 h=> ?_
 refine gq h λh3 h=> ?_
 refine cz h λC h4 h=> ?_
 refine gq h λh5 h=> ?_
 refine cz h λd h6 h=> ?_
 refine gq h λh7 h=> ?_
 refine cz h λes h8 h=> ?_
 refine cz h λv h9 h=> ?_
 refine (eS h).elim λt h=> ?_
 have ok:=hl i e h2
 have m1:=tR (P:=P) h2 h3
 have m2:=tR (P:=P) h6 h7
 rw [yq h8] at m2
 refine ⟨e.a,by rw [gn h1 h2 hr];rfl,λL hL=>⟨⟨λi=>[d.a,es.2,t].getD i 0,0,[],[],#[],0,[],[],#[],0,[],[],#[],0,.none,.none,.none,ents P es.1⟩,hL _ ?_,hL _ m2,by rw [vM,h9];exact bW (λx=>some (some x)) h⟩⟩
 refine (GC h4).elim λn eo=> ?_
 rw [eo] at m1 ok
 refine sM ok λe' q=> ?_
 cases q.1.symm.trans h6
 cases q.2
 rw [kD h5] at m1
 exact m1
structure Ad (k:Int) (news:Led) (vs:List aa):Prop where
 e:∃(rq row:ac) (nr n0:Nat) (tk ta tb tc td:af),vs=[.int k tk,.ref rq]/\(rq,(⟨.type "list",none,.seq #[.ref row] nr,#[]⟩:av))∈news/\(row,(⟨.type "tuple",none,.seq #[.int 97 ta,.int 5 tb,.int 3 tc,.int 1 td] n0,#[]⟩:av))∈news
def KF (k:Int) (_:Led) (r:SV) (st:St):Prop:=oK (fnOf st.led r) λk'=>k'=k
theorem XG {w:ah} {k:Int}:∀news r (st:St),Sep ((st.led.filter (·.f)).map (·.a)) st.oth->aX st.led r->(∀(i:Nat) (e:LE),st.led[i]? =some e->gr st.led e.o)->KF k news r st-> ∃x,r.val= .ref x/\FN w.params (bo w.params (st.led.filter (·.f))++st.oth) x k:=λz z z z hr hl h=>by
 refine aJ h λk' e h=> ?_
 subst h
 exact (XF hr hl e).imp λx h=>⟨h.1,h.2 _ λp hp=>aq _ hp⟩
theorem M4 {w:ah} {k:Int} {n:Nat} (h:∀row rq n0 nr tk ta tb tc td t,jP (KK w.params) [] (Ev.jf (KK w.params) mJ (E4 w) [] n) 8 (.ref 917) [.lit (.int k tk),.own 1 rq] ⟨[],[⟨row,.tup [.lit (.int 97 ta),.lit (.int 5 tb),.lit (.int 3 tc),.lit (.int 1 td)] n0,false⟩,⟨rq,.lst [.own 0 row] nr,false⟩],[],t⟩ (KF k [])):
  Sp w 917 60 (Ad k) λz tl r=>∃x,r= .ref x/\FN w.params tl x k:=jQ 20 8 n [] (by decide) (K:=KF k) XG λnews vs ⟨hp⟩=>by
 obtain ⟨rq,row,nr,n0,tk,ta,tb,tc,td,rfl,m1,m2⟩:=hp
 refine ⟨mJ,E4 w,_,_,XE (by decide),pN (by decide),rfl, ?_, ?_, ?_, ?_,λt=>h row rq n0 nr tk ta tb tc td t⟩
 ·exact bw m2 (bw m1 dY)
 ·exact ⟨trivial,trivial,trivial⟩
 ·exact lJ (tL rfl)
 ·exact bU.mpr ⟨rfl,eM.mpr rfl⟩
def Ae (w:ah) (row rq:ac) (nr:Nat) (k:Int):Prop:=True/\ ∀(_:af) (d:ac) (o:av),DF w d o []-> ∀(_:af),4<=1000/\DF w d o []/\ ∀(_ _:ac),7<=1000/\((1:Int)<=1/\(1:Int)<=7/\(7:Int)<=((7:Nat):Int))/\ ∀(e:ac),DF w d o []/\ ∀(u:av),DF w d u [(97,SV.own 5 e)]->rq=rq/\SO.lst [SV.own 0 row] nr=SO.lst [SV.own 0 row] nr/\ ∀(_:af),(25:Int)≠0/\ ∀(_ _:af) (_ _:ac),True/\ ∀(_:af),True/\ ∀(_:af),True/\ ∀(_ _:af),True/\ ∀(_ _:af),True/\ ∀(_ _:af),True/\ ∀(_ _:af),True/\ ∀(_ _:af),True/\ ∀(_ _:af),True/\ ∀(_ _:af),True/\ ∀(_ _ _:af),DF w d u [(97,SV.own 5 e)]/\ ∀(_ _:af),True/\ ∀(_ _:af),6<=1000/\6<=1000/\((0:Int)<=4/\(4:Int)<((6:Nat):Int))/\ ∀(_:ac) (_:af),True/\ ∀(_ _:af),True/\ ∀(_ _:af),True/\ ∀(_ _:af),True/\ ∀(_ _:af) (_:ac),True/\ ∀(_:af),True/\ ∀(_:af),d=d/\SO.raw u=SO.raw u/\ ∀(_:af),DF w d u [(97,SV.own 5 e)]/\ ∀(_ _:af) (_:ac),DF w d u [(97,SV.own 5 e)]/\DF w d u [(97,SV.own 5 e)]/\d=d/\SO.raw u=SO.raw u/\ ∀(_ _:af) (_:Nat) (_:ac),DF w d u [(97,SV.own 5 e)]/\ ∀(_:av) (_:ac),k=k
theorem M5 {w:ah} {row rq:ac} {nr:Nat} {k:Int}:Ae w row rq nr k:=by
 unfold Ae
 repeat' first
  |assumption
  |exact trivial
  |exact rfl
  |decide
  |(apply dF)
  |(refineλz=> ?_)
theorem XH (w:ah):Sp w 917 60 (Ad 1) λz tl r=>∃x,r= .ref x/\FN w.params tl x 1:=M4 (n:=90) λrow rq n0 nr tk ta tb tc td t=>fQ (by kernel_rfl:_=Ae w row rq nr 1) M5
theorem XI (w:ah):Sp w 917 60 (Ad 2) λz tl r=>∃x,r= .ref x/\FN w.params tl x 2:=M4 (n:=90) λrow rq n0 nr tk ta tb tc td t=>fQ (by kernel_rfl:_=Ae w row rq nr 2) M5
theorem XJ {w:ah} {p:cP} {loose:List ai} {bH:gp->Option aa} {mg mb:ai->Option aa} {dp un:Nat} {gd:Option (List gN)} {cn:ai} {cs:bD} {a:ac} {bX:aa} {cl:List (ai×ac)} {outer:List cu} {A₀:bZ} {base h₀:bA} {L:ac} {m:ai->Option aa} {news:Led} {s:ak} {Q E:aa->ak->Prop} {rq row:ac} {k:Int} {nr n0:Nat} {tk ta tb tc td:af} (hk:k=1\/k=2) (m1:(rq,(⟨.type "list",none,.seq #[.ref row] nr,#[]⟩:av))∈news) (m2:(row,(⟨.type "tuple",none,.seq #[.int 97 ta,.int 5 tb,.int 3 tc,.int 1 td] n0,#[]⟩:av))∈news) (B:fx A₀ base outer h₀) (F:Fr h₀ L s.heap m) (X:(KK w.params).In h₀) (N:aU h₀ L s.heap news) (T:Top p loose bH mg mb h₀) (XK:cs.kind= .function) (hd:dp+60<recursionLimit) (hu:un+480<cLine)
  (gb:∀x tl h' bQ,Fr h₀ L h' m->aU h₀ L h' (news++tl)->(∀q∈news,∀p∈tl,q.1≠p.1)->FN w.params tl x k->Q (.ref x) {s with heap:=h',toks:=bQ}):
  aC (aG rw_sq0062_01.row.prog w) (gy dp un gd cn cs L a bX cl outer) (call (.ref 917) [.int k tk,.ref rq]) Q E s:=by
 have S:Sp w 917 60 (Ad k) λz tl r=>∃x,r= .ref x/\FN w.params tl x k:=hk.elim (λe=>e▸XH w) λe=>e▸XI w
 exact S p loose bH mg mb dp un gd cn cs a bX cl outer A₀ base h₀ L m news s _ Q E B F X N T XK hd hu ⟨⟨rq,row,nr,n0,tk,ta,tb,tc,td,rfl,m1,m2⟩⟩ λr tl h' bQ F' N' o ⟨x,e,f⟩=>e▸gb x tl h' bQ F' N' o f
end
section
local macro_rules | `(tactic| walk_at "CompSrc") => `(tactic| refine BA ?_)
local macro_rules | `(tactic| k_all) => `(tactic| assumption)
theorem XM {h₀ h:bA} {L:ac} {y:ac×av} {r:Led} {M:List ac} (_:aU h₀ L h (y::r)) (hn:y.1∉M):y∈bT M (y::r):=gG (.head _) hn
theorem News.xk {h₀ h:bA} {L:ac} {news:Led} (N:aU h₀ L h news) {p q:ac×av} (hp:p∈news) (hq:q∈news) (bI:p.2=q.2->False):p∈bT [q.1] news:=gG hp λe=>bI (by rw [News.one N hp hq (bN.mp e)])
inductive xl (P:aB) (i:Nat) (ys:List aa) (nw:Led):Prop
 |mk (fs:List ac) (e:ys=fs.map ae) (l:fs.length=i) (h:∀(j:Nat) (f:ac),fs[j]? =some f->FN P nw f (1+(j:Int))):xl P i ys nw
theorem xl.snoc {P:aB} {i:Nat} {ys:List aa} {nw tl:Led} {x:ac} (I:xl P i ys nw) (q:FN P tl x (1+(i:Int))):xl P (i+1) (ys++[.ref x]) (nw++tl):=by
 obtain ⟨fs,rfl,rfl,E5⟩:=I
 refine ⟨fs++[x],by rw [pd];rfl,ib,λj f hj=> ?_⟩
 rcases Nat.lt_or_ge j fs.length with Af|Af
 ·rw [Av Af] at hj
  exact FN.mono (λp hp=>aq _ hp) (E5 j f hj)
 ·rw [E9 Af] at hj
  have iF:=(iN.mp hj).1
  have hle:j<=fs.length:=Nat.sub_eq_zero_iff_le.mp (Nat.lt_one_iff.mp iF)
  cases Nat.le_antisymm Af hle
  rw [Nat.sub_self] at hj
  cases hj
  exact FN.mono (λp hp=>ay _ hp) q
theorem XN {w:ah} {p:cP} {loose:List ai} {bH:gp->Option aa} {mg mb:ai->Option aa} {dp un:Nat} {gd:Option (List gN)} {cd:aa} {A₀:bZ} {h₀:bA} {L:ac} {s:ak} {R:eK->ak->Prop} {E:aa->ak->Prop} {fa q:ac} {vs:List aa} {ns:List Int} {o1 o2:av} (hl:h₀.IsList q vs.toArray) (hi:qA vs ns) (hz:vs.length<=63) (d1:o1.data= .cell none) (d2:o2.data= .cell none)
  (B:fx A₀ h₀ [] h₀) (F:Fr h₀ L s.heap (λy=>nJ y [(aF "script",.ref q)])) (X:(KK w.params).In h₀) (N:aU h₀ L s.heap [(L+1+1,o2),(L+1,o1)]) (T:Top p loose bH mg mb h₀) (hd:dp+696<recursionLimit) (hu:un+7200<cLine)
  (gb:∀(h':bA) (bQ:Nat) (m':ai->Option aa),Fr h₀ L h' m'->R (.ret (.bool true)) {s with heap:=h',toks:=bQ}):
  aC (aG rw_sq0062_01.row.prog w) (gy dp un gd (aF "law") (sS (dH 92)) L fa cd (cellsFrom (L+1) (sS (dH 92)).names []) []) (d8 (sB (dH 92)) (envOfC (aF "law") (sS (dH 92)) L fa cd)) R E s:=by
 revert X;k_fill;intro X
 k_steps
 unfold Stop
 k_dflt (refine' XC hl hi ?hz (by k_asm) (by k_asm) (by k_asm) (by k_asm) (by k_asm) (by first|exact rfl|assumption) (by ktr_room) (by ktr_units) ?_;(case hz=>exact hz);k_whole;intro ha W0 M6 M7 n0 h0 YU F0 N0 l0;(try dsimp only);(try k_fold))
 k_steps
 rename av=>oh
 rename Fr _ _ _ _=>F5
 rename aU _ _ _ _=>N5
 rename IsRange _ _ _ _ _ _ _ _=>R5
 rename oh.data=_=>dh
 unfold Stop
 refine LCg.CompSrc.range (n:=2) (by rfl) F5 N5 R5 (PySem.small_one (by omega) (by omega) (by omega) (by omega)) ((rangeSize_nat _ _).trans (by omega)) (by rw [l7];omega) ?_
 intro g8
 refine GY (λi ys nw=>(ha,(⟨.type "list",none,.seq #[.int W0 M6,.int 0 M7] n0,#[]⟩:av))∈nw/\(L+1,oh)∈nw/\(L+1+1,o2)∈nw/\xl w.params i ys nw) ?_ ?_ _ ⟨.head _,.tail _ (.tail _ (.head _)),.tail _ (.head _),[],rfl,rfl,λj f h=>by simp at h⟩
 ·rintro i ys nw hi ⟨e1,e2,e3,I9⟩ v I oI C oC D m₂ h tk E' hP hC hx F9 N9 off ne
  obtain ⟨t9,e9⟩:=hP
  rw [Int.zero_add] at e9
  subst e9
  clear F5 N5
  k_steps
  unfold Stop
  k_dflt (refine' XJ ?h1 ?m1 ?m2 (by k_asm) (by k_asm) (by k_asm) (by k_asm) (by k_asm) (by first|exact rfl|assumption) (by ktr_room) (by ktr_units) ?_;(case m1=>exact .head _);(case m2=>exact .tail _ (.head _));(case h1=>omega);k_whole;intro x8 E0 h8 E1 F8 N8 o8 q8;(try dsimp only);(try k_fold))
  k_steps
  refine LCg.CompEnd.intro F8 N8 (nw++E0) (λp hp=> ?_) (LCg.Off3.of λp hp=> ?_) trivial ⟨aq _ e1,aq _ e2,aq _ e3,I9.snoc q8⟩
  ·rcases bj.mp hp with rfl|hp
   ·exact aq _ (.tail _ (.tail _ (.head _)))
   rcases bj.mp hp with rfl|hp
   ·exact aq _ (.tail _ (.tail _ (.tail _ (.head _))))
   rcases bj.mp hp with rfl|hp
   ·exact aq _ (.tail _ (.tail _ (.tail _ (.tail _ (.head _)))))
   rcases aM.mp hp with hp|hp
   ·exact aq _ (.tail _ (.tail _ (.tail _ (.tail _ (.tail _ hp)))))
   ·exact ay _ hp
  ·rcases aM.mp hp with hp|hp
   ·exact off.mem p hp
   ·exact ⟨jb (o8 (I,oI) (.tail _ (.tail _ (.head _))) p hp),jb (o8 (C,oC) (.tail _ (.tail _ (.tail _ (.head _)))) p hp),jb (o8 (D,io ys) (.tail _ (.tail _ (.tail _ (.tail _ (.head _))))) p hp)⟩
 ·rintro ys nw ⟨e1,e2,e3,fs,rfl,E6,E5⟩
  clear F5 N5
  k_steps
  rename aU _ _ _ _=>N9
  rename LCg.Off1 _ _=>o9
  have JZ:=News.pull N9 (.tail _ e3)
  have YV:=DE JZ
  have M8:=Jf o9
  have E7:=News.xk N9 (.tail _ e1) (.tail _ e3) (λe=>by have e':=bW sC e;rw [d2] at e';cases e')
  have YW:=News.xk N9 (.tail _ e2) (.tail _ e3) (λe=>by have e':=bW sC e;rw [d2] at e';dsimp only at e';rw [dh] at e';cases e')
  have XO:=XM N9 (M:=[L+1+1]) (λe=>M8 _ e3 (bN.mp e).symm)
  rename_i D hD tD fD
  have hF:∀p∈nw,(p.2.data=o2.data->False)->p∈bT [L+1+1] ((D,io (fs.map ae))::nw):=λp hp bI=>News.xk N9 (.tail _ hp) (.tail _ e3) (λe=>bI (bW sC e))
  clear N9
  walk1
  rename aU _ _ _ _=>E8
  rename Fr _ _ _ _=>XQ
  rename av=>oN
  rename sC _=Data.cell _=>M9
  rw [d2] at hF
  have Na:=News.pull E8 (.tail _ E7)
  have XR:=DE Na
  have hG:∀p∈nw,(p.2.data=Data.cell none->False)->(p.2.data=cZ #[.int W0 M6,.int 0 M7] n0->False)->p∈bT [ha] ((L+1+1,oN)::bT [L+1+1] ((D,io (fs.map ae))::nw)):=λp hp h1 h2=>News.xk E8 (.tail _ (hF p hp h1)) (.tail _ E7) (λe=>h2 (bW sC e))
  obtain ⟨f0,f1,rfl⟩:∃a b,fs=[a,b]:=by
   rcases fs with _|⟨a,_|⟨b,_|⟨c,r⟩⟩⟩
   ·cases E6
   ·cases E6
   ·exact ⟨a,b,rfl⟩
   ·cases E6
  have hN:∀(j:Nat) (f:ac) (k:Int),[f0,f1][j]? =some f->k=1+(j:Int)->FN w.params (bT [ha] ((L+1+1,oN)::bT [L+1+1] ((D,io (aA ae [f0,f1]))::nw))) f k:=by
   rintro j f k hj rfl
   obtain ⟨d,h1,h2,h3⟩:=E5 j f hj
   exact ⟨d,hG _ h1 (λe=>by cases e) (λe=>by cases e),hG _ h2 (λe=>by cases e) (λe=>by cases e),h3⟩
  exact Xz B X T hd hu dh M9 XQ Na XR (hG _ e2 (λe=>by dsimp only at e;rw [dh] at e;cases e) (λe=>by dsimp only at e;rw [dh] at e;cases e)) (News.xk E8 (.head _) (.tail _ E7) (λe=>by have e':=bW sC e;dsimp only at e';rw [M9] at e';cases e')) ⟨f0,f1,_,gG (.tail _ XO) (λhm=>M8 _ e1 (bN.mp hm).symm),hN 0 f0 1 rfl rfl,hN 1 f1 2 rfl rfl⟩ gb
end
section
theorem XT {a b:Bool} (x:a=true) (y:b=true):(a&&b)=true:=by rw [x,y];rfl
theorem XU:rw_sq0062_01.wellSaid=true:=by
 unfold OpenLaw.wellSaid OpenRow.wellSaid OpenRow.partSaid looksOpen
 repeat' (with_reducible apply XT)
 all_goals decide+kernel
theorem XV:rw_sq0062_01.row.prog.tablesWhole=true:=by decide+kernel
end
section
theorem XW {v:aa} {kd:ai->Option jI} (hk:kd (aF "script")=some .local):bindL kd [(aF "script",v)] (λz=>none)=λy=>nJ y [(aF "script",v)]:=by
 funext y
 unfold bindL bindL
 rw [if_pos hk]
 by_cases h:y=aF "script"
 ·rw [h]
  simp
 ·simp only [d7 h,nJ]
  split
  ·exact absurd (eq_of_beq ‹_›) h
  ·rfl
theorem test:rw_sq0062_01.Holds:=by
 w_on
 refine holds_law XU λXX=>NF XX XV NG ?_
 intro w en s₁ mg mb G Y fa o pm cd doc dV kV ho hd vA hD Nb hg args vals as EX XY XZ X0 nX
 have KX:=NI Y
 have X:=(Ground.X G).1
 have V:=(Ground.X G).2
 refine Ground.open G ?_
 intro T B D TE TW
 try (refine guard_noD D (by decide+kernel) ?_;clear D)
 obtain ⟨_,_,M⟩:=bmod_of_top T
 have TA:=at_of_top T
 try (obtain ⟨_,_,he,B0⟩:=based_of_top T rfl Nb ho hd;have wm:cd=_:=he;subst wm;clear he)
 clear Nb
 wrow_args EX XY XZ X0 nX
 all_goals (
  first|refine callC_kw (enter_call ?_)|refine enter_call ?_|refine callC_kw (enter_callW ?_)|refine enter_callW ?_|w_how
  w_top on
  try refine codeAny_mono ?_ (λ_ _ g=>GoodW.toG g)
  have K0:=below_caller (Top.heap T)
  w_call any ho hd vA hD T F
  clear hd TA
  k_drop
  skip)
 rename Top _ _ _ _ _ _=>TP
 rename qA _ _=>hI
 rename Heap.IsList _ _ _=>hL
 rename ¬_=>hz
 rename fx _ _ _ _=>K0
 rename Fr _ _ _ _=>F1
 rename aU _ _ _ _=>N1
 rename_i YX YY X1 X2 xx
 have F2:=F1
 change Fr _ _ _ (bindL _ [(aF "script",_)] λ_=>none) at F2
 rw [XW (by rfl)] at F2
 refine XN hL hI ?_ X2 X1 K0 F2 KX N1 TP (by decide) (by decide) ?_
 ·have:=IntsAre.length hI
  omega
 ·intro h' bQ m' F9
  exact goodW_bool F9 hg (raisesW_false (by wrow_none_raised)) (by wrow_post)
end
end Mine.Internal
theorem PySem.Challenge.cw_sq0062_01_holds : PySem.Challenge.rw_sq0062_01.Holds :=
  Mine.Internal.test
