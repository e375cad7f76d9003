import PyProof.Rows.All
import Wide.All
import OpenK.AllK
import Wide.FinOn
import Lean
import PySem.Challenge.RW_ok0181_01
set_option autoImplicit false
set_option maxRecDepth 100000
set_option linter.all false
set_option Elab.async false
set_option genSizeOf false
set_option genInjectivity false
set_option backward.match.sparseCases false
open Bool renaming and_eq_true→vJ,and_eq_true_iff→e5,and_false→qX,beq_eq_decide_eq→LX,eq_false_iff→F_,eq_iff_iff→lg,false→C,noConfusion→nR,not_eq_true'→m1,or_eq_false_iff→F',or_eq_true_iff→tw,or_false→Ga,true→I
open Char renaming toNat→B5
open Decidable renaming decide→a6
open Eq renaming trans→lU
open ForInStep renaming yield→mq
open Int renaming ediv_eq_zero_of_lt→LY,emod_emod_of_dvd→Gb,emod_lt_of_pos→vK,emod_nonneg→tx,fdiv_eq_ediv_of_nonneg→Gd,fmod_eq_emod_of_nonneg→Ge,le_of_lt→vL,le_sub_one_of_lt→B6,le_trans→g4,lt_of_le_of_lt→B7,lt_of_lt_of_le→B8,lt_trans→B9,natAbs_neg→Gf,natCast_nonneg→jP,not_lt→oP,ofNat_le→tA,ofNat_lt→pJ,sub_le_self→B_,toNat_of_nonneg→LZ
open Int.ofNat renaming inj→lh
open List renaming all_eq_true→fe,any_cons→tB,any_eq_true→tC,append_assoc→kQ,append_nil→hE,append_toArray→Gg,cons_ne_nil→yD,contains_cons→B',contains_iff_mem→Gh,drop_drop→Gi,drop_eq_nil_iff→Gj,drop_eq_nil_of_le→vM,filterMap_cons_none→Gk,filterMap_cons_some→vN,find?_cons→m3,find?_some→Gl,findIdx?_cons→Gm,findIdx?_eq_some_iff_getElem→L0,foldl_cons→Gn,forIn_cons→Gp,forall_mem_cons→tD,getD_eq_getElem?_getD→vO,getElem?_append→Gq,getElem?_append_left→Ca,getElem?_append_right→yE,getElem?_drop→vP,getElem?_eq_getElem→hT,getElem?_eq_none_iff→Gr,getElem?_eq_some_iff→eg,getElem?_map→jQ,getElem?_of_mem→vQ,getElem?_set_ne→Gs,getElem?_set_self→Cb,getElem?_toArray→Gu,getElem_mem→Cc,isEmpty_iff→yF,isPrefixOf_iff_prefix→L1,length→Cd,length_append→fy,length_cons→Gv,length_drop→lj,length_eq_zero_iff→Ce,length_filterMap_le→L2,length_map→dA,length_reverse→Gw,length_set→yG,length_take→Gx,length_take_le'→L3,length_zipIdx→L4,lookup_cons→pK,map_append→vR,map_cons→pL,map_map→vS,mem_append→Gy,mem_append_left→pM,mem_append_right→Cf,mem_cons→gQ,mem_cons_of_mem→e6,mem_cons_self→dY,mem_filterMap→vT,mem_map→pN,mem_map_of_mem→pO,mem_of_find?_eq_some→Gz,mem_of_getElem? →dZ,mem_of_mem_drop→GA,mem_of_mem_take→GB,mem_range→gc,mem_singleton→m4,mem_toArray→GC,nodup_cons→Cg,nodup_nil→yH,range→de,range'→qY,range'_succ→GD,replicate→Ci,size_toArray→GF,take_append_drop→yI,take_of_length_le→L5
open List.cons renaming inj→m2
open Nat renaming add_assoc→lk,add_comm→lV,add_le_add→km,add_le_add_left→r',add_le_add_right→pP,add_right_comm→GG,add_sub_cancel_left→yJ,beq→bR,beq_refl→vU,ble→gd,blt→eS,blt_eq→Cj,eq_of_beq_eq_true→g5,eq_zero_or_pos→L6,exists_eq_add_of_le→L7,le_add_left→pQ,le_add_right→ho,le_of_ble_eq_true→cF,le_of_eq→ff,le_of_lt→oQ,le_of_lt_succ→Ck,le_refl→df,le_succ→m5,le_succ_of_le→yK,le_total→Cm,le_trans→bt,lt→qZ,lt_irrefl→tE,lt_of_le_of_lt→gR,lt_of_lt_of_le→fg,lt_of_succ_lt_succ→L8,lt_one_iff→GH,lt_succ_of_le→Cn,lt_succ_of_lt→Co,lt_succ_self→pR,lt_trans→lW,min_eq_left→vV,min_eq_right→Cp,mod_lt→jR,mul_le_mul_left→tF,ne_of_gt→pS,ne_of_lt→ll,not_le→yL,not_lt→jS,not_lt_zero→tG,pow_le_pow_right→sa,pow_lt_pow_right→vW,sub_add_cancel→L9,succ→pT,succ_add_eq_add_succ→GI,succ_le_succ→kn,zero_add→q0,zero_le→jT
open Nat.succ renaming inj→yM
open Ne renaming symm→sb
open Option renaming bind_some→q1,isSome_iff_exists→L_,map→i0,map_eq_some_iff→nS,none→U,some→o
open Option.some renaming inj→aJ
open Prod.mk renaming inj→bw
open Pure renaming pure→d6
open PySem renaming Addr→aD,Around→g6,BoolOp→pU,CmpOp→jh,DictEntry→h8,Env→dQ,Expr→a0,FuncData→ep,Heap→eh,NameKind→lp,Obj→cm,Operator→pV,OsState→gf,Params→eC,Pos→bc,Program→m6,PyData→nT,Result→lq,Scope→ir,Shared→aT,Stmt→cX,Str→aq,TriplesOk→tK,Value→aa,World→cJ,assign→oT,assignEach→q5,assignInOrder→vZ,backTo→lX,builtinsNs→m8,call→eT,callEnvC→sf,callWith→v3,call_meets→yR,callerA→pW,cameBackBy→yS,checkBuiltinCall→yT,clipAt→ji,codeAmong→q6,codeAny→kq,codeAny_call_builtin→Me,eval→eD,excClassObj→yU,execs→m9,getItem→sg,getMethod→q7,importedModules→yV,letOwnedTupleGo→v5,mainGlobals→hW,model→c6,notedBy→pX,pyIter→pY,rawInt→q8,seqIndex? →tO,sizeLine→sh,starEach→kT,strKind→m_,strKind_is→yW,swappedStores→pZ,treeTable→e7,wpAny→da,wpAny_Assign_stores→GS,wpAny_Return_some→GU,wpAny_Tuple_spliced→GV,wpAny_bind→bo,wpAny_call→p0,wpAny_comprehension_free→Mf,wpAny_execs_cons→tP,wpAny_execs_nil→GW,wpAny_field→v7,wpAny_holding→mr,wpAny_isSubtype_exc→GX,wpAny_loadName_local→Mg,wpAny_loadPart→yX,wpAny_loadPart_at→tQ,wpAny_mono→gs,wpAny_newObj_type→GY,wpAny_pure→c9,wpAny_standAt→p1,wpAny_truthy_bool→v8
open PySem.Arg renaming arg→hU
open PySem.Builtin.Int renaming intBits→GJ
open PySem.Builtin.Str renaming occurrences→tH,strSliceIndices→GK,subAt→GL
open PySem.Calls renaming Name_function_global→GN,spliced_cons→yN,spliced_nil→tI
open PySem.Challenge renaming rw_ok0181_01→L'
open PySem.F renaming args_str_split_2→Ma,entry_str_split→GO,slot_str_split→Cq
open PySem.Flow renaming next→fL
open PySem.Heap renaming SameBut→vX,get?_push_of_some→gr,get?_push_size→ko,get?_update_ne→Mb,get?_update_of_ne→GP,get?_update_other→GQ,get?_update_self→vY,lt_size→h9
open PySem.NameKind renaming free→Cr
open PySem.Obj renaming mapFields→sd,mapSeq→yO
open PySem.PyData renaming canLayAll0→Cs,depthAll→Ct,eqv→q2,eqvAll→Cu
open PySem.SeqAt renaming shaped→yP
open PySem.Str renaming ofString→se
open PySem.StrLaws renaming occBody→tJ
open PySem.TablesWhole renaming holds→Mc,wModule→Md
open PySem.Unicode renaming isSpace→Cv
open PySem.Value renaming ref→lr
open PySem.Value.ref renaming inj→GR
open PySem.W renaming Frag→di,InstAt→tL,boot_heap→oR,builtinNamed→Cx,dictOf→fY,emptyDict→q3,findIn→hV,getL→gg,handedIn→tM,instObj→i1,looks_findIn→q4,looks_nsIn→yQ,namesMeet→tN,noRoadLSs→m7,piece_app→lz,piecesOf→fZ,restOf→kS,segRunT→lA,segRun_of→lB,tabObj→oS,topFrame→fh,topRun→jU
open PySem.W.Fast renaming te10110043849684766642→lu,te12563942051412417395→lx,te14364793385576792824→kp,te8326940854005059898→Cw,tw10110043849684766642→ly,tw14364793385576792824→kR
namespace Mine
noncomputable section
section
open PySem
inductive i9 where|hL|ur|wH|ut|wG|f5|rx|us|qm deriving DecidableEq
noncomputable def i9.sH:i9→aa|.hL=>.builtin "len"|.ur=>.builtin "abs"|.wH=>.builtin "max"|.ut=>.builtin "sum"|.wG=>.builtin "isinstance"|.f5=>.type "str"|.rx=>.type "int"|.us=>.type "list"|.qm=>.type "range"
inductive bF where|hK|fj|gI|l8|l_|nr|kB|wD|ql|sC|uq|wC|wB|wF|sB|sF|jF|i8|h1|lD|sE|gm|Dp|wE|l9|z6|ob|Dq|Dn|Dr|k3|qk|sD|qj|sG|rt|lC|jE|oa deriving DecidableEq
noncomputable def bF.ru:bF→List Nat|.hK=>[119,104,97,116]|.fj=>[97,116]|.gI=>[99,111,100,101]|.l8=>[100,115,116]|.l_=>[115,114,99]|.nr=>[111,102,102]|.kB=>[105,109,109]|.wD=>[109,111,114,101]|.ql=>[119,111,114,100,115]|.sC=>[108,105,110,101]|.uq=>[111,114,100,101,114,115]|.wC=>[108,105,110,101,115]|.wB=>[103,111,97,108,115]|.wF=>[115,108,111,116,115]|.sB=>[108,97,98,101,108,115]|.sF=>[115,108,111,116]|.jF=>[116,111,108,100]|.i8=>[112,101,101,107]|.h1=>[114,101,102,117,115,101]|.lD=>[116,97,107,101]|.sE=>[115,107,105,112]|.gm=>[110,101,101,100]|.Dp=>[101,110,100]|.wE=>[114,101,103,105,115,116,101,114]|.l9=>[115,97,109,101,95,114,101,103,105,115,116,101,114]|.z6=>[112,108,97,105,110,95,110,117,109,98,101,114]|.ob=>[110,117,109,98,101,114]|.Dq=>[108,97,98,101,108]|.Dn=>[97,100,100]|.Dr=>[108,101,100]|.k3=>[115,112,108,105,116]|.qk=>[115,116,114,105,112]|.sD=>[108,111,119,101,114]|.qj=>[102,105,110,100]|.sG=>[115,116,97,114,116,115,119,105,116,104]|.rt=>[106,111,105,110]|.lC=>[105,110,100,101,120]|.jE=>[97,112,112,101,110,100]|.oa=>[103,101,116]
noncomputable def bF.Do:List bF:=[.hK,.fj,.gI,.l8,.l_,.nr,.kB,.wD,.ql,.sC,.uq,.wC,.wB,.wF,.sB,.sF,.jF,.i8,.h1,.lD,.sE,.gm,.Dp,.wE,.l9,.z6,.ob,.Dq,.Dn,.Dr,.k3,.qk,.sD,.qj,.sG,.rt,.lC,.jE,.oa]
set_option genCtorIdx false
inductive M where|e|g(e:Bool)|b(i:Int)|c(y:List Nat)|j(p:List M)|f(p:List M)|l(p:List (List Nat×M))|k(q:Nat)(p:List (bF×M))|d(i:Nat)|i(e:i9)|m(g e q:Int)deriving Inhabited
inductive aZ where|b(k:M)|c(i:Nat)|v(i:Nat)|f(bH:pV)(g e:aZ)|t(g:aZ)|A(g:aZ)|s(g:aZ)|p(bH:pU)(g e:aZ)|m(q g e:aZ)|i(bH:jh)(g e:aZ)|z(g:aZ)(hs:jh)(e:aZ)(ix:jh)(q:aZ)|g(w aM:aZ)|j(n:aZ)(d:bF)(aM:aZ)|l(n:aZ)(d:bF)|k(n i:aZ)|q(n p ad:aZ)|n(az:aZ)|r(az:aZ)|x(az:aZ)|u(c7 nZ a':aZ)(eG:Bool)|y(b:aZ)(f0:List Nat)|w|e|d(g e:aZ)|D
set_option genCtorIdx true in inductive K where|b(k:M)|c(v:Nat)|d(b:aZ)(eK:List Nat)
set_option genCtorIdx true in inductive eJ where|b(p:List M)|f(p:List (List Nat×M))|e(q:Nat)(p:List (bF×K))|d(d:Option K)|c
noncomputable abbrev af:=List eJ
noncomputable abbrev bJ(V:Type):=Option (Except M V×af)
noncomputable abbrev ea:=Nat→List K→af→bJ K
noncomputable def cW{V:Type}(g:V)(f:af):bJ V:=o (.ok g,f)
noncomputable def cI{V:Type}(g:Option V)(f:af):bJ V:=g.bind fun g=>o (.ok g,f)
noncomputable def bU{V bg:Type}(z:bJ V)(w:V→af→bJ bg):bJ bg:=match z with|none=>U|some t=>(match t with|(u,f)=>(match u with|.error d=>o (.error d,f)|.ok g=>w g f))
inductive dO where|b(i:Nat)|i(i:Nat)|f(n:aZ)(d:bF)|g(n i:aZ)|e(aQ:dO)|d|c(g e:dO)
inductive a5 where|e(s:dO)(b:aZ)|p(aQ:dO)(az:aZ)|j(aQ:dO)(az:aZ)|g(b:aZ)|d(b:aZ)|f(q:aZ)(g e:a5)|k(q:aZ)(e:a5)|i(g':Bool)(s:dO)(a':aZ)(e:a5)|l(aM:aZ)|n|c|b(g e:a5)|m
noncomputable def cK:Nat:=100000
noncomputable def AP:M→Option nT|.e=>o .none|.b i=>o (.int i)|.c y=>if y.all (·<1114112)then o (.str ⟨y.toArray⟩)else U|_=>U
noncomputable def uR:List M→Option (List nT)|[]=>o []|k::t=>(AP k).bind fun F=>(uR t).map (F::·)
noncomputable def JG:M→Option nT|.j p=>(uR p).map .tuple|.f p=>(uR p).map .list|k=>AP k
noncomputable def sY:List M→Option (List nT)|[]=>o []|k::t=>(JG k).bind fun F=>(sY t).map (F::·)
noncomputable def qQ(g e:List M):Option Bool:=(sY g).bind fun d=>(sY e).map fun G=>Cu d G
section
variable{V:Type}
noncomputable def ed(d:K)(w:M→Option V):Option V:=match d with|.b k=>w k|_=>U
noncomputable def vr(k:M)(w:Int→Option V):Option V:=match k with|.b i=>w i|_=>U
noncomputable def px(k:M)(w:List Nat→Option V):Option V:=match k with|.c y=>w y|_=>U
noncomputable def Fw(k:M)(w:List M→Option V):Option V:=match k with|.f p=>w p|_=>U
noncomputable def fc(d:K)(w:Int→Option V):Option V:=ed d fun k=>vr k w
noncomputable def nP(d:K)(w:List Nat→Option V):Option V:=ed d fun k=>px k w
noncomputable def rF(aM:List K)(n:Option V):Option V:=match aM with|[]=>n|_=>U
noncomputable def mb(aM:List K)(w:K→Option V):Option V:=match aM with|d::t=>rF t (w d)|[]=>U
noncomputable def Al(aM:List K)(w:K→K→Option V):Option V:=match aM with|d::t=>mb t (w d)|[]=>U
end
noncomputable def am7(k:M):Option (List M):=match k with|.f p=>o p|_=>U
noncomputable def am5(n:eJ):Option (List M):=match n with|.b p=>o p|_=>U
noncomputable def mN(f:af)(d:K):Option (List M):=match d with|.b k=>am7 k|.c v=>(f[v]?).bind am5|.d _ _=>U
noncomputable def ag1(k:M):Option (List (List Nat×M)):=match k with|.l p=>o p|_=>U
noncomputable def ag0(n:eJ):Option (List (List Nat×M)):=match n with|.f p=>o p|_=>U
noncomputable def AC(f:af)(d:K):Option (List (List Nat×M)):=match d with|.b k=>ag1 k|.c v=>(f[v]?).bind ag0|.d _ _=>U
noncomputable def Fx{V:Type}(k:M)(w:List M→Option V):Option V:=match k with|.j p=>w p|_=>U
noncomputable def ahT(u:M):Option Bool:=match u with|.e=>o I|.b _=>o C|_=>U
noncomputable def ahS(g:Int)(u:M):Option Bool:=match u with|.b e=>o (a6 (g=e))|.e=>o C|_=>U
noncomputable def Qp(k u:M):Option Bool:=match k with|.j g=>Fx u fun e=>qQ g e|.e=>ahT u|.b g=>ahS g u|.c g=>px u fun e=>o (a6 (g=e))|_=>U
noncomputable def pu{V bg:Type}(n:Option V)(w:V→Option bg)(ad:Option bg):Option bg:=match n with|some g=>w g|none=>ad
noncomputable def Jw(f:af)(d G:K):Option Bool:=pu (mN f d) (fun g=>(mN f G).bind (qQ g)) (pu (mN f G) (fun _=>U) (ed d fun k=>ed G fun u=>Qp k u))
noncomputable def mJ(F:List (List Nat×M))(y:List Nat):Option M:=(F.find? fun b=>a6 (b.1=y)).map (·.2)
noncomputable def jf(y s:List Nat):Option Nat:=(tH ⟨y.toArray⟩ ⟨s.toArray⟩ 0 y.length 1).head?
noncomputable def sV(k:M)(p:List M):Option Bool:=(AP k).bind fun F=>(uR p).map fun b2=>b2.any fun G=>q2 G F
noncomputable def alQ(k u:M):Option Bool:=match u with|.j p=>sV k p|.c s=>px k fun y=>o (jf s y).isSome|_=>U
noncomputable def J8(f:af)(d G:K):Option Bool:=pu (mN f G) (fun p=>ed d fun k=>sV k p) (pu (AC f G) (fun F=>nP d fun y=>o (mJ F y).isSome) (ed d fun k=>ed G fun u=>alQ k u))
noncomputable def aoe(k:M):Option Bool:=match k with|.e=>o I|.b _=>o C|.c _=>o C|.j _=>o C|.f _=>o C|.k _ _=>o C|_=>U
noncomputable def aof(d:K):Option Bool:=match d with|.b k=>aoe k|.c _=>o C|.d _ _=>U
noncomputable def al1(d:K)(u:M):Option Bool:=match u with|.e=>aof d|_=>U
noncomputable def Kc(d G:K):Option Bool:=ed G fun u=>al1 d u
noncomputable def bI(bH:jh)(f:af)(d G:K):Option Bool:=match bH with|.Eq=>Jw f d G|.NotEq=>(Jw f d G).map (!·)|.In=>J8 f d G|.NotIn=>(J8 f d G).map (!·)|.Is=>Kc d G|.IsNot=>(Kc d G).map (!·)|.Lt=>fc d fun g=>fc G fun e=>o (a6 (g<e))|.LtE=>fc d fun g=>fc G fun e=>o (a6 (g≤e))|.Gt=>fc d fun g=>fc G fun e=>o (a6 (g>e))|.GtE=>fc d fun g=>fc G fun e=>o (a6 (g≥e))
noncomputable def O6(k u:M):Option M:=match k with|.b g=>vr u fun e=>o (.b (g+e))|.c g=>px u fun e=>if g.length+e.length≤cK then o (.c (g++e))else U|.f g=>Fw u fun e=>if g.length+e.length≤cK then o (.f (g++e))else U|_=>U
noncomputable def fF(bH:pV)(d G:K):Option M:=match bH with|.Add=>ed d fun k=>ed G fun u=>O6 k u|.Sub=>fc d fun g=>fc G fun e=>o (.b (g-e))|.Mult=>fc d fun g=>fc G fun e=>if g.natAbs<2^1000∧e.natAbs<2^1000 then o (.b (g*e))else U|.FloorDiv=>fc d fun g=>fc G fun e=>if e=0∨g.natAbs≥2^128∨e.natAbs≥2^128 then U else o (.b (g.fdiv e))|.Mod=>fc d fun g=>fc G fun e=>if e=0 then U else o (.b (g.fmod e))|.LShift=>fc d fun g=>fc G fun e=>if g.natAbs<2^64∧0≤e∧e≤1000 then o (.b (g*2^e.toNat))else U|.RShift=>fc d fun g=>fc G fun e=>if 0≤e then o (.b (g.fdiv (2^e.toNat)))else U|.BitAnd=>fc d fun g=>fc G fun e=>o (.b (Builtin.bitAnd g e))|_=>U
noncomputable def hA(r:Nat)(i:Int):Option Nat:=if r≤cK then tO i r else U
noncomputable def uL(y:List Nat)(l:M)(F:List (List Nat×M)):List (List Nat×M):=if F.any (fun b=>a6 (b.1=y))then F.map (fun b=>if b.1=y then(b.1,l)else b)else F++[(y,l)]
noncomputable def aqO(k:M)(i:K):Option M:=match k with|.j p=>fc i fun i=>(hA p.length i).bind (p[·]?)|.c p=>fc i fun i=>((hA p.length i).bind (p[·]?)).map fun q=>.c [q]|_=>U
noncomputable def hR(f:af)(d i:K):Option M:=pu (mN f d) (fun p=>fc i fun i=>(hA p.length i).bind (p[·]?)) (pu (AC f d) (fun F=>nP i fun y=>mJ F y) (ed d fun k=>aqO k i))
noncomputable def aoJ(k:M):Option (Option Int):=match k with|.e=>o U|.b i=>o (o i)|_=>U
noncomputable def KZ(d:K):Option (Option Int):=ed d aoJ
noncomputable def ij{V:Type}(p:List V)(g e:Option Int):List V:=(p.drop (g.elim 0 (ji p.length))).take (e.elim p.length (ji p.length)-g.elim 0 (ji p.length))
noncomputable def aqd(k:M)(g e:Option Int):Option M:=match k with|.c p=>if p.length≤cK then o (.c (ij p g e))else U|.f p=>if p.length≤cK then o (.f (ij p g e))else U|_=>U
noncomputable def hQ(d g e:K):Option M:=ed d fun k=>(KZ g).bind fun g=>(KZ e).bind fun e=>aqd k g e
noncomputable def nJ:List K→Option (List M)|[]=>o []|d::t=>ed d fun k=>(nJ t).map (k::·)
noncomputable def Fg:Option (List Nat)→List K→Option (List (List Nat×M))|none,[]=>o []|some _,[]=>U|none,d::t=>nP d fun y=>Fg (o y) t|some y,d::t=>ed d fun l=>(Fg U t).map ((y,l)::·)
noncomputable def Te(p:List K):Option (List (List Nat×M)):=Fg U p
noncomputable def rM(i:Int):List Nat:=(toString i).toList.map B5
noncomputable def Ez:List M→Option (List Int)|[]=>o []|k::t=>vr k fun i=>(Ez t).map (i::·)
noncomputable def Le(g e q:Int):List Int:=if 0<q then(de ((e-g+q-1)/q).toNat).map fun i=>g+q*(i:Nat)else[]
noncomputable def lR(y:List Nat):aq:=⟨y.toArray⟩
noncomputable def Sm(f:af)(d:K):Option K:=pu (mN f d) (fun p=>if p.length≤cK then o (.b (.b p.length))else U) (nP d fun y=>if y.length≤cK then o (.b (.b y.length))else U)
noncomputable def al3(k:M):Option K:=match k with|.c _=>o (.b (.g I))|.f _=>o (.b (.g C))|_=>U
noncomputable def al2(k:M):Option K:=match k with|.f _=>o (.b (.g I))|.k _ _=>o (.b (.g C))|_=>U
noncomputable def RY(e:i9)(k:M):Option K:=match e with|.f5=>al3 k|.us=>al2 k|_=>U
noncomputable def RQ(k:M):Option K:=match k with|.g e=>o (.b (.b (if e then 1 else 0)))|.c y=>if y.length≤640 then(intText? (lR y)).map fun r=>.b (.b r)else U|_=>U
noncomputable def Tz(d:K)(t:List K):Option K:=match t with|[]=>fc d fun e=>if 0≤e∧e≤cK then o (.b (.m 0 e 1))else U|G::t=>mb t fun m=>fc d fun g=>fc G fun e=>fc m fun q=>if 0≤g∧g≤e∧e≤cK∧0<q∧q≤cK then o (.b (.m g e q))else U
noncomputable def ao7(k:M)(w:i9→Option K):Option K:=match k with|.i e=>w e|_=>U
noncomputable def h2(e:i9)(f:af)(aM:List K):Option K:=match e with|.hL=>mb aM fun d=>Sm f d|.ur=>mb aM fun d=>fc d fun i=>o (.b (.b i.natAbs))|.wH=>Al aM fun d G=>fc d fun g=>fc G fun e=>o (.b (.b (if e>g then e else g)))|.ut=>mb aM fun d=>ed d fun k=>Fw k fun p=>(Ez p).map fun l0=>.b (.b l0.sum)|.wG=>Al aM fun d G=>ed G fun s=>ao7 s fun e=>ed d fun k=>RY e k|.f5=>mb aM fun d=>fc d fun i=>if i.natAbs<2^1000 then o (.b (.c (rM i)))else U|.rx=>mb aM fun d=>ed d RQ|.qm=>(match aM with|d::t=>Tz d t|[]=>U)|.us=>U
noncomputable def EH(dl:List Nat):List M→List Nat→Option (List Nat)|[],y=>o y|k::t,y=>px k fun s=>EH dl t (y++dl++s)
noncomputable def EG(dl:List Nat)(p:List M):Option (List Nat):=match p with|[]=>o []|k::t=>px k fun s=>EH dl t s
noncomputable def qB(q:Nat):Nat:=if 65≤q∧q≤90 then q+32 else q
noncomputable def Kb(y:List Nat):M→Bool|.c s=>a6 (s=y)|_=>C
noncomputable def ED(k:M):Bool:=match k with|.c _=>I|_=>C
noncomputable def s2(k:M)(p:List M):Option Nat:=px k fun y=>(if p.all ED then o y else U).bind fun y=>p.findIdx? (Kb y)
noncomputable def r7(d G:aq):List aq:=if a6 (d.length<G.length)||decide (Builtin.Str.strKind d<Builtin.Str.strKind G)then[d]else if(tH d G 0 d.length (d.length+1)).isEmpty then[d]else Builtin.Str.partsBetween d (tH d G 0 d.length (d.length+1)) G.length
noncomputable def FO(p:List aq):M:=.f (p.map fun y=>.c y.cps.toList)
noncomputable def auU(f:af)(v:Nat)(n:eJ):af:=f.set v n
noncomputable abbrev hN:=Nat→bF→Option Nat
noncomputable def fH{V:Type}(d:bF):List (bF×V)→Option V|[]=>U|b::t=>if b.1=d then o b.2 else fH d t
noncomputable def kI{V:Type}(d:bF)(l:V):List (bF×V)→List (bF×V)|[]=>[(d,l)]|b::t=>if b.1=d then(d,l)::t else b::kI d l t
noncomputable def aal(d:bF)(k:M):Option K:=match k with|.k _ p=>(fH d p).map .b|_=>U
noncomputable def Pe(d:bF)(n:eJ):Option K:=match n with|.e _ p=>fH d p|_=>U
noncomputable def DR(f:af)(d:bF)(G:K):Option K:=match G with|.b k=>aal d k|.c v=>(f[v]?).bind (Pe d)|.d _ _=>U
noncomputable def TV(y:List Nat)(aM:List K):Option M:=match aM with|[]=>if y.length≤cK∧(Builtin.Str.spaceWords (lR y) (y.length+1)).length≤cK then o (FO (PySem.wordsOf (lR y)))else U|d::t=>rF t (nP d fun s=>if y.length≤cK∧s≠[]∧(r7 (lR y) (lR s)).length≤cK then o (FO (r7 (lR y) (lR s)))else U)
noncomputable def BQ(y:List Nat)(d:bF)(f:af)(aM:List K):Option M:=match d with|.k3=>TV y aM|.qk=>rF aM (if y.length≤cK then o (.c (stripped Cv I I (lR y)).cps.toList)else U)|.sD=>rF aM (if y.length≤cK∧y.all (·<128)then o (.c (y.map qB))else U)|.qj=>mb aM fun d=>nP d fun s=>o (.b (match jf y s with|some i=>(i:Int)|none=> -1))|.sG=>Al aM fun d G=>nP d fun s=>fc G fun i=>if 0≤i then o (.g (a6 (i.toNat+s.length≤y.length)&&s.isPrefixOf (y.drop i.toNat)))else U|.lC=>mb aM fun d=>nP d fun s=>(jf y s).map fun i=>.b (i:Nat)|.rt=>mb aM fun d=>((mN f d).bind (EG y)).bind fun s=>if s.length+y.length≤cK then o (.c s)else U|_=>U
inductive i' where|b|c|e|d(w:Nat)
noncomputable def FP:List bF:=[.k3,.qk,.sD,.qj,.sG,.lC,.rt]
noncomputable def KG(aB:hN)(q:Nat){V:Type}(p:List (bF×V))(d:bF):Option i':=pu (fH d p) (fun _=>U) ((aB q d).map .d)
noncomputable def Ky(d:bF):Option i':=if d=.lC∨d=.jE then o .c else U
noncomputable def Jp(d:bF):Option i':=if d=.oa then o .e else U
noncomputable def KI(aB:hN)(d:bF)(k:M):Option i':=match k with|.c _=>if d∈FP then o .b else U|.f _=>Ky d|.l _=>Jp d|.k q p=>KG aB q p d|_=>U
noncomputable def KH(aB:hN)(d:bF)(n:eJ):Option i':=match n with|.b _=>Ky d|.f _=>Jp d|.e q p=>KG aB q p d|_=>U
noncomputable def E0(aB:hN)(f:af)(d:bF)(G:K):Option i':=match G with|.b k=>KI aB d k|.c v=>(f[v]?).bind (KH aB d)|.d _ _=>U
noncomputable def DQ(v:Nat)(k:M)(f:af)(n:eJ):bJ K:=match n with|.b p=>if p.length<cK then cW (.b .e) (f.set v (.b (p++[k])))else U|_=>U
noncomputable def Pb(G:K)(k:M)(f:af):bJ K:=match G with|.c v=>(f[v]?).bind (DQ v k f)|_=>U
noncomputable def RK(G:K)(k:M)(f:af):bJ K:=(mN f G).bind fun p=>if p.length≤cK then cI ((s2 k p).map fun i=>.b (.b (i:Nat))) f else U
noncomputable def Kx(d:bF)(G:K)(aM:List K)(f:af):bJ K:=mb aM fun e_=>ed e_ fun k=>match d with|.lC=>RK G k f|.jE=>Pb G k f|_=>U
noncomputable def jM(X:ea)(z:i')(G:K)(d:bF)(aM:List K)(f:af):bJ K:=match z with|.d w=>X w (G::aM) f|.b=>nP G fun y=>cI ((BQ y d f aM).map .b) f|.c=>Kx d G aM f|.e=>Al aM fun v l=>nP v fun y=>ed l fun l=>(AC f G).bind fun F=>cW (.b ((mJ F y).getD l)) f
noncomputable def s9:M→Option (List M)|.f p=>o p|.j p=>o p|.c y=>if y.all (·<128)then o (y.map fun q=>.c [q])else U|.l F=>o (F.map fun b=>.c b.1)|.m g e q=>if 0≤g∧g≤e∧e≤cK∧0<q∧q≤cK then o ((Le g e q).map .b)else U|_=>U
noncomputable def qx:List M→Int→List M|[],_=>[]|k::t,i=>.j [.b i,k]::qx t (i+1)
noncomputable def kN{V:Type}(r:Nat)(g:V):Option V:=if r≤cK then o g else U
noncomputable def ny(w:M→af→bJ (Option M)):List M→List M→af→bJ (List M)|[],aE,f=>cW aE f|k::t,aE,f=>bU (w k f) fun l f=>ny w t (aE++l.toList) f
noncomputable def aqk(p:List M):Option (List (Option K)):=match p with|[]=>U|g::p=>(match p with|[]=>U|e::p=>(match p with|[]=>o [o (.b g),o (.b e)]|_::_=>U))
noncomputable def tn(eG:Bool)(k:M):Option (List (Option K)):=match eG with|false=>o [o (.b k)]|true=>Fx k aqk
noncomputable def u7(p:List M)(f:af):bJ K:=cW (.b (.f p)) f
noncomputable def Fh{V:Type}(f:af)(z:bJ V):bJ V:=z.bind fun t=>o (t.1,f)
noncomputable def uJ(g':Bool)(w:M→af→bJ (Option M))(d:K)(f:af):bJ K:=match g' with|false=>ed d fun k=>(s9 k).bind fun p=>(kN p.length p).bind fun p=>bU (ny w p [] f) u7|true=>(mN f d).bind fun p=>(kN p.length p).bind fun p=>Fh f (bU (ny w (qx p 0) [] []) u7)
noncomputable def arH(k:M):Option Bool:=match k with|.g e=>o e|.b i=>o (a6 (i≠0))|_=>U
noncomputable def ki(d:K):Option Bool:=ed d arH
noncomputable def hS{V:Type}(d:K)(w:Bool→bJ V):bJ V:=(ki d).bind w
noncomputable def Bp(l:K)(f:af):bJ (Option M):=ed l fun k=>cW (o k) f
structure ee where
 b:List (Option K)→List Nat→af→bJ K
 c:List (Option K)→List Nat→af→bJ (List K)
noncomputable def h7:List (Option K)→List Nat→af→bJ (List K):=fun _ _ _=>U
noncomputable def KM:List (Option K)→List Nat→af→bJ K:=fun _ _ _=>U
noncomputable def S7(n:Option K)(f:af):bJ K:=n.bind fun d=>cW d f
noncomputable def yc(n:Option (Option K))(f:af):bJ K:=n.bind fun n=>S7 n f
noncomputable def D1(n:eJ)(f:af):bJ K:=match n with|.d d=>S7 d f|_=>U
noncomputable def PQ(v:Option Nat)(f:af):bJ K:=v.bind fun v=>(f[v]?).bind fun n=>D1 n f
noncomputable def E4(d:K)(f:af):bJ K:=fc d fun i=>cW (.b (.b (-i))) f
noncomputable def RR(d:K)(f:af):bJ K:=fc d fun i=>cW (.b (.b (Builtin.bitNot i))) f
noncomputable def an{V:Type}(s:Bool)(ad l:V):V:=match s with|true=>ad|false=>l
noncomputable def rH(bH:pU)(s:Bool)(ad l:bJ K):bJ K:=match bH with|.And=>an s l ad|.Or=>an s ad l
noncomputable def Fc{V:Type}(n:Option Bool)(ad l:bJ V):bJ V:=n.bind fun s=>an s ad l
noncomputable def Jr(ag:List K)(f:af):bJ K:=(Te ag).bind fun b1=>if b1.length≤15 then cW (.c f.length) (f++[.f (b1.foldl (fun F b=>uL b.1 b.2 F) [])])else U
noncomputable def DZ(X:ea)(aM:af→bJ (List K))(k:M)(f:af):bJ K:=match k with|.d i=>bU (aM f) fun ag f=>X i ag f|.i e=>bU (aM f) fun ag f=>cI (h2 e f ag) f|_=>U
noncomputable def ad3(X:ea)(aM:af→bJ (List K))(E:K)(f:af):bJ K:=ed E fun k=>DZ X aM k f
noncomputable def va(X:ea)(aB:hN)(d:bF)(aM:af→bJ (List K))(G:K)(f:af):bJ K:=(E0 aB f d G).bind fun z=>bU (aM f) fun ag f=>jM X z G d ag f
noncomputable def mY(eG:Bool)(nZ c7:ee)(ax:List Nat)(k:M)(f:af):bJ (Option M):=(tn eG k).bind fun cM=>bU (nZ.b cM ax f) fun G f=>hS G fun s=>an s (bU (c7.b cM ax f) Bp) (cW U f)
noncomputable def RV(n:eJ):Option Unit:=match n with|.c=>o ()|_=>U
noncomputable def ams(b:aZ)(n:Option (List Nat))(f:af):bJ K:=(f[0]?).bind fun m=>(RV m).bind fun _=>n.bind fun eK=>cW (.d b eK) f
section
variable(X:ea)(aB:hN)
noncomputable def ahC(k:M):ee:=⟨fun _ _ f=>cW (.b k) f,h7⟩
noncomputable def ahD(i:Nat):ee:=⟨fun A _ f=>yc A[i]? f,h7⟩
noncomputable def aht(i:Nat):ee:=⟨fun _ ax f=>PQ ax[i]? f,h7⟩
noncomputable def ahq(bH:pV)(_ _:aZ)(g e:ee):ee:=⟨fun A ax f=>bU (g.b A ax f) fun d f=>bU (e.b A ax f) fun G f=>cI ((fF bH d G).map .b) f,h7⟩
noncomputable def ahG(_:aZ)(g:ee):ee:=⟨fun A ax f=>bU (g.b A ax f) E4,h7⟩
noncomputable def ahz(_:aZ)(g:ee):ee:=⟨fun A ax f=>bU (g.b A ax f) RR,h7⟩
noncomputable def ahJ(_:aZ)(g:ee):ee:=⟨fun A ax f=>bU (g.b A ax f) fun d f=>hS d fun s=>cW (.b (.g !s)) f,h7⟩
noncomputable def ahr(bH:pU)(_ _:aZ)(g e:ee):ee:=⟨fun A ax f=>bU (g.b A ax f) fun d f=>hS d fun s=>rH bH s (cW d f) (e.b A ax f),h7⟩
noncomputable def ahA(_ _ _:aZ)(q g e:ee):ee:=⟨fun A ax f=>bU (q.b A ax f) fun d f=>hS d fun s=>an s (g.b A ax f) (e.b A ax f),h7⟩
noncomputable def ahu(bH:jh)(_ _:aZ)(g e:ee):ee:=⟨fun A ax f=>bU (g.b A ax f) fun d f=>bU (e.b A ax f) fun G f=>cI ((bI bH f d G).map fun s=>.b (.g s)) f,h7⟩
noncomputable def ahv(_:aZ)(hs:jh)(_:aZ)(ix:jh)(_:aZ)(g e q:ee):ee:=⟨fun A ax f=>bU (g.b A ax f) fun d f=>bU (e.b A ax f) fun G f=>Fc (bI hs f d G) (bU (q.b A ax f) fun m f=>cI ((bI ix f G m).map fun s=>.b (.g s)) f) (cW (.b (.g C)) f),h7⟩
noncomputable def ahs(_ _:aZ)(w aM:ee):ee:=⟨fun A ax f=>bU (w.b A ax f) (ad3 X (aM.c A ax)),h7⟩
noncomputable def ahF(_:aZ)(d:bF)(_:aZ)(n aM:ee):ee:=⟨fun A ax f=>bU (n.b A ax f) (va X aB d (aM.c A ax)),h7⟩
noncomputable def aho(_:aZ)(d:bF)(n:ee):ee:=⟨fun A ax f=>bU (n.b A ax f) fun G f=>cI (DR f d G) f,h7⟩
noncomputable def ahL(_ _:aZ)(n i:ee):ee:=⟨fun A ax f=>bU (n.b A ax f) fun d f=>bU (i.b A ax f) fun G f=>cI ((hR f d G).map .b) f,h7⟩
noncomputable def ahK(_ _ _:aZ)(n p ad:ee):ee:=⟨fun A ax f=>bU (n.b A ax f) fun d f=>bU (p.b A ax f) fun G f=>bU (ad.b A ax f) fun m f=>cI ((hQ d G m).map .b) f,h7⟩
noncomputable def ahM(_:aZ)(az:ee):ee:=⟨fun A ax f=>bU (az.c A ax f) fun ag f=>cI ((nJ ag).bind fun T=>kN T.length (.b (.j T))) f,h7⟩
noncomputable def ahE(_:aZ)(az:ee):ee:=⟨fun A ax f=>bU (az.c A ax f) fun ag f=>cI ((nJ ag).bind fun T=>kN T.length (.b (.f T))) f,h7⟩
noncomputable def ahy(_:aZ)(az:ee):ee:=⟨fun A ax f=>bU (az.c A ax f) Jr,h7⟩
noncomputable def ahw(_ _ _:aZ)(eG:Bool)(c7 nZ a':ee):ee:=⟨fun A ax f=>bU (a'.b A ax f) fun d f=>uJ eG (mY eG nZ c7 (an eG [] ax)) d f,h7⟩
noncomputable def ahB(b:aZ)(f0:List Nat)(_:ee):ee:=⟨fun _ ax f=>ams b (f0.mapM (ax[·]?)) f,h7⟩
noncomputable def ahH:ee:=⟨fun _ _ f=>cW (.c f.length) (f++[.b []]),h7⟩
noncomputable def ahI:ee:=⟨KM,fun _ _ f=>cW [] f⟩
noncomputable def ahx(_ _:aZ)(g e:ee):ee:=⟨KM,fun A ax f=>bU (g.b A ax f) fun d f=>bU (e.c A ax f) fun ag f=>cW (d::ag) f⟩
noncomputable def ahp:ee:=⟨KM,h7⟩
noncomputable def gz(b:aZ):ee:=aZ.rec (motive:=fun _=>ee) ahC ahD aht ahq ahG ahz ahJ ahr ahA ahu ahv (ahs X) (ahF X aB) aho ahL ahK ahM ahE ahy ahw ahB ahH ahI ahx ahp b
noncomputable def d_(b:aZ):List (Option K)→List Nat→af→bJ K:=(gz X aB b).b
noncomputable def mM(b:aZ):List (Option K)→List Nat→af→bJ (List K):=(gz X aB b).c
end
inductive bV where|b(A:List (Option K))(f:af)|e(A:List (Option K))(f:af)|d(d:K)(f:af)|c(k:M)(f:af)
noncomputable def gy{V:Type}(z:bJ V)(w:V→af→Option bV):Option bV:=match z with|none=>U|some t=>(match t with|(u,f)=>(match u with|.error d=>o (.c d f)|.ok g=>w g f))
noncomputable def fG(z:Option bV)(w:List (Option K)→af→Option bV):Option bV:=match z with|some n=>(match n with|.b A f=>w A f|n=>o n)|none=>U
noncomputable def K8(v:Nat)(d:bF)(l:K)(f:af)(n:eJ):Option af:=match n with|.e q p=>(match l with|.d _ _=>U|l=>if p.length≤50 then o (f.set v (.e q (kI d l p)))else U)|_=>U
noncomputable def Fm(G:K)(d:bF)(l:K)(f:af):Option af:=match G with|.c v=>(f[v]?).bind (K8 v d l f)|_=>U
noncomputable def Tr(v:Nat)(i l:M)(f:af)(n:eJ):Option af:=match n with|.b p=>vr i fun i=>(hA p.length i).map fun Q=>f.set v (.b (p.set Q l))|.f F=>px i fun y=>if F.length<cK then o (f.set v (.f (uL y l F)))else U|_=>U
noncomputable def Bn(G i l:K)(f:af):Option af:=match G with|.c v=>ed i fun i=>ed l fun l=>(f[v]?).bind (Tr v i l f)|_=>U
noncomputable def K9(v:Nat)(l:K)(f:af)(n:eJ):Option af:=match n with|.d _=>(match l with|.d _ _=>U|l=>o (f.set v (.d (o l))))|_=>U
noncomputable def h5:dO→Nat|.c _ e=>h5 e+1|_=>0
structure oj where
 c:K→List (Option K)→af→Option bV
 b:List K→List (Option K)→af→Option bV
noncomputable def x':List K→List (Option K)→af→Option bV:=fun _ _ _=>U
noncomputable def SY:K→List (Option K)→af→Option bV:=fun _ _ _=>U
noncomputable def LE(r:Nat)(w:List K→Option bV)(k:M):Option bV:=match k with|.j T=>if r=T.length then w (T.map .b)else U|_=>U
noncomputable def SW(N:List K)(n:bV):Option bV:=match N with|[]=>o n|_=>U
noncomputable def aeB(N:List K)(w:K→List K→Option bV):Option bV:=match N with|[]=>U|k::T=>w k T
section
variable(X:ea)(aB:hN)(ax:List Nat)
noncomputable def are(i:Nat):oj:=⟨fun l A f=>if i<A.length then o (.b (A.set i (o l)) f)else U,x'⟩
noncomputable def arc(i:Nat):oj:=⟨fun l A f=>(ax[i]?).bind fun v=>(f[v]?).bind fun n=>(K9 v l f n).map (.b A),x'⟩
noncomputable def ara(n:aZ)(d:bF):oj:=⟨fun l A f=>gy (d_ X aB n A ax f) fun G f=>(Fm G d l f).map (.b A),x'⟩
noncomputable def arh(n i:aZ):oj:=⟨fun l A f=>gy (d_ X aB n A ax f) fun G f=>gy (d_ X aB i A ax f) fun Q f=>(Bn G Q l f).map (.b A),x'⟩
noncomputable def arj(aQ:dO)(t:oj):oj:=⟨fun l A f=>ed l (LE (h5 aQ) fun ag=>t.b ag A f),x'⟩
noncomputable def arf:oj:=⟨SY,fun N A f=>SW N (.b A f)⟩
noncomputable def ard(_ _:dO)(s aQ:oj):oj:=⟨SY,fun N A f=>aeB N fun k T=>fG (s.c k A f) (aQ.b T)⟩
noncomputable def w3(s:dO):oj:=dO.rec (motive:=fun _=>oj) are (arc ax) (ara X aB ax) (arh X aB ax) arj arf ard s
noncomputable def g0(s:dO):K→List (Option K)→af→Option bV:=(w3 X aB ax s).c
noncomputable def uF(s:dO):List K→List (Option K)→af→Option bV:=(w3 X aB ax s).b
end
noncomputable def tr(d:K)(w:Bool→Option bV):Option bV:=(ki d).bind w
noncomputable def h6(z:Option bV)(v:List (Option K)→af→Option bV):Option bV:=match z with|some n=>(match n with|.b A f=>v A f|.e A f=>v A f|n=>o n)|none=>U
noncomputable def oK(q:List (Option K)→af→bJ K)(w:List (Option K)→af→Option bV):Nat→List (Option K)→af→Option bV|0,_,_=>U|r+1,A,f=>gy (q A f) fun d f=>tr d fun s=>an s (h6 (w A f) (oK q w r)) (o (.b A f))
noncomputable def jd(w:M→List (Option K)→af→Option bV):List M→List (Option K)→af→Option bV|[],A,f=>o (.b A f)|k::t,A,f=>h6 (w k A f) (jd w t)
noncomputable def tt:Nat:=10000
noncomputable def sZ(g':Bool)(d:K):Option (List M):=ed d fun k=>match g' with|false=>(s9 k).bind fun p=>kN p.length p|true=>Fw k fun p=>kN p.length (qx p 0)
noncomputable def Bt(ag:List K)(f:af):Option bV:=match ag with|[]=>U|d::t=>nP d fun _=>(match t with|[]=>o (.c .e f)|G::t=>rF t (ed G fun k=>o (.c k f)))
noncomputable abbrev j7:=List (Option K)→af→Option bV
section
variable(X:ea)(aB:hN)(ax:List Nat)
noncomputable def asU(s:dO)(b:aZ):j7:=fun A f=>gy (d_ X aB b A ax f) fun l f=>g0 X aB ax s l A f
noncomputable def as1(aQ:dO)(az:aZ):j7:=fun A f=>gy (mM X aB az A ax f) fun N f=>if h5 aQ=N.length∧N.length≤cK then uF X aB ax aQ N A f else U
noncomputable def as0(aQ:dO)(az:aZ):j7:=fun A f=>gy (mM X aB az A ax f) fun N f=>if h5 aQ=N.length∧N.length≤cK then uF X aB ax aQ N.reverse A f else U
noncomputable def asX(b:aZ):j7:=fun A f=>gy (d_ X aB b A ax f) fun _ f=>o (.b A f)
noncomputable def as4(b:aZ):j7:=fun A f=>gy (d_ X aB b A ax f) fun l f=>o (.d l f)
noncomputable def asZ(q:aZ)(_ _:a5)(k u:j7):j7:=fun A f=>gy (d_ X aB q A ax f) fun d f=>tr d fun s=>an s (k A f) (u A f)
noncomputable def as6(q:aZ)(_:a5)(k:j7):j7:=fun A f=>oK (fun A f=>d_ X aB q A ax f) k tt A f
noncomputable def asY(g':Bool)(s:dO)(a':aZ)(_:a5)(k:j7):j7:=fun A f=>gy (d_ X aB a' A ax f) fun d f=>(sZ g' d).bind fun p=>jd (fun dF A f=>fG (g0 X aB ax s (.b dF) A f) k) p A f
noncomputable def as3(aM:aZ):j7:=fun A f=>gy (mM X aB aM A ax f) Bt
noncomputable def asW:j7:=fun A f=>o (.e A f)
noncomputable def as2:j7:=fun A f=>o (.b A f)
noncomputable def as5(_ _:a5)(k u:j7):j7:=fun A f=>fG (k A f) u
noncomputable def asV:j7:=fun _ _=>U
noncomputable def dK(k:a5):j7:=a5.rec (motive:=fun _=>j7) (asU X aB ax) (as1 X aB ax) (as0 X aB ax) (asX X aB ax) (as4 X aB ax) (asZ X aB ax) (as6 X aB ax) (asY X aB ax) (as3 X aB ax) asW as2 as5 asV k
end
structure bn where
 c:Nat
 d:List M
 f:Nat
 b:List (Option Nat)
 e:a5
inductive Iu where|b(F:bn)|c(aub:Nat)(F:bn)(MQ:Bool)|e|d
noncomputable def qw(ev:List K):List (Option Nat)→List eJ|[]=>[]|none::t=>.d U::qw ev t|some i::t=>.d ev[i]?::qw ev t
noncomputable def sR(F:bn)(aM:List K):Option (List K):=if aM.length≤F.c∧F.c≤aM.length+F.d.length then o (aM++(F.d.drop (F.d.length+aM.length-F.c)).map .b)else U
noncomputable def kO(F:bn)(ev:List K):List (Option K):=(ev.zipIdx.map fun d=>if F.b.contains (o d.2)then U else o d.1)++Ci (F.f-F.c) U
noncomputable def ju(X:ea)(aB:hN)(F:bn)(aM:List K)(f:af):Option bV:=(sR F aM).bind fun ev=>dK X aB ((de F.b.length).map (f.length+·)) F.e (kO F ev) (f++qw ev F.b)
noncomputable def Bu(r:Nat)(d:K):Bool:=match d with|.b _=>I|.c v=>a6 (v<r)|.d _ eK=>eK.all fun v=>a6 (v<r)
noncomputable def mO(r:Nat)(n:eJ):Bool:=match n with|.e _ p=>p.all fun b=>Bu r b.2|.d d=>(match d with|some d=>Bu r d|none=>I)|_=>I
noncomputable def x5{V:Type}(r:Nat)(f:af)(g:V):bJ V:=an ((f.take r).all (mO r)) (o (.ok g,f.take r)) U
noncomputable def Ei(n:eJ):Option K:=match n with|.b p=>o (.b (.f p))|.f F=>o (.b (.l F))|_=>U
noncomputable def AQ(r:Nat)(f:af)(d:K):Option K:=match d with|.b k=>o (.b k)|.c v=>if v<r then o (.c v)else(f[v]?).bind Ei|.d _ _=>U
noncomputable def j_(r:Nat)(n:Option bV):bJ K:=match n with|some n=>(match n with|.b _ f=>x5 r f (.b .e)|.d d f=>(AQ r f d).bind (x5 r f)|.c k f=>an ((f.take r).all (mO r)) (o (.error k,f.take r)) U|.e _ _=>U)|none=>U
noncomputable def ph:List K→Bool|[]=>I|d::t=>(match d with|.b _=>ph t|_=>C)
noncomputable def qE(F:bn):Bool:=match F.b with|[]=>I|_=>C
noncomputable def vt(X:ea)(aB:hN)(F:bn)(aM:List K)(f:af):bJ K:=an (ph aM&&qE F) (Fh f (j_ 0 (ju X aB F aM []))) (j_ f.length (ju X aB F aM f))
noncomputable def Bo:List (bF×K)→Option (List (bF×M))|[]=>o []|(d,l)::t=>ed l fun k=>(Bo t).map ((d,k)::·)
noncomputable def JL(f:af)(n:eJ):bJ K:=match n with|.e q p=>(Bo p).bind fun p=>o (.ok (.b (.k q p)),f)|_=>U
noncomputable def u9(gC:Bool)(v:Nat)(aM:List K)(n:bV)(f:af):bJ K:=match n with|.b _ aO=>(match gC with|true=>(an (ph aM) ((aO[0]?).bind (JL f)) U)|false=>cW (.c v) aO)|_=>U
noncomputable def SG(X:ea)(aB:hN)(w:Nat)(F:bn)(MQ:Bool)(aM:List K)(f:af):bJ K:=match MQ with|true=>(ju X aB F (.c 0::aM) [.e w []]).bind fun n=>u9 I 0 aM n f|false=>(ju X aB F (.c f.length::aM) (f++[.e w []])).bind fun n=>u9 C f.length aM n f
noncomputable def sS(X:ea)(aB:hN)(d:K)(f:af):bJ K:=match d with|.d b eK=>bU (d_ X aB b [] eK f) fun d f=>ed d fun k=>cW (.b k) f|_=>U
noncomputable def xU(z:bJ K):bJ K:=match z with|some t=>(match t with|(u,f)=>(match u with|.ok d=>o (.ok d,f)|.error k=>o (.ok (.b (.f [k])),f)))|none=>U
structure lF where
 c:Nat→Iu
 b:hN
noncomputable def pj(R:lF)(X:ea)(w:Nat)(aM:List K)(f:af):bJ K:=match R.c w with|.b F=>vt X R.b F aM f|.c _ F gC=>SG X R.b w F gC aM f|.e=>mb aM fun d=>xU (sS X R.b d f)|.d=>U
noncomputable def bp(R:lF)(r:Nat):ea:=Nat.rec (motive:=fun _=>ea) (fun _ _ _=>U) (fun _ X=>pj R X) r
theorem E3{d:Int}{r:Nat}(aX:0≤d)(c:d<r):d.natAbs<r:=pJ.1 (by rw[Int.natAbs_of_nonneg aX];exact c)
theorem ST{d:Int}{r:Nat}(aX: -(r:Int)<d)(c:d<r):d.natAbs<r:=by
 rcases Int.le_total 0 d with u|u;·exact E3 u c
 ·rw[←Gf];exact E3 (Int.neg_nonneg_of_nonpos u) (Int.neg_lt_of_neg_lt aX)
end
section
open PySem
noncomputable def acE:a5:=(.b (.d (.f .BitAnd (.c 0) (.f .Sub (.f .LShift (.b (.b 1)) (.c 1)) (.b (.b 1))))) .c)
noncomputable def agY:bn:=⟨2,[(.b 64)],2,[],acE⟩
noncomputable def acn:a5:=(.b (.e (.b 2) (.f .BitAnd (.c 0) (.f .Sub (.f .LShift (.b (.b 1)) (.c 1)) (.b (.b 1))))) (.b (.d (.m (.f .RShift (.c 2) (.f .Sub (.c 1) (.b (.b 1)))) (.f .Sub (.c 2) (.f .LShift (.b (.b 1)) (.c 1))) (.c 2))) .c))
noncomputable def agH:bn:=⟨2,[(.b 64)],3,[],acn⟩
noncomputable def abi:a5:=(.b (.d (.z (.t (.f .LShift (.b (.b 1)) (.f .Sub (.c 1) (.b (.b 1))))) .LtE (.c 0) .Lt (.f .LShift (.b (.b 1)) (.f .Sub (.c 1) (.b (.b 1)))))) .c)
noncomputable def afF:bn:=⟨2,[],2,[],abi⟩
noncomputable def abc:a5:=(.b (.e (.b 1) (.f .Mult (.b (.b 5)) (.f .BitAnd (.l (.c 0) .gI) (.b (.b 7))))) (.b (.d (.j (.q (.b (.c [108,100,32,32,32,108,100,120,32,32,115,116,32,32,32,115,116,120,32,32,97,108,117,32,32,106,109,112,32,32,106,109,112,51,50,97,108,117,54,52])) (.c 1) (.f .Add (.c 1) (.b (.b 5)))) .qk .e)) .c))
noncomputable def afA:bn:=⟨1,[],2,[],abc⟩
noncomputable def abl:a5:=(.b (.e (.b 1) (.f .BitAnd (.l (.c 0) .gI) (.b (.b 7)))) (.b (.d (.p .Or (.i .Eq (.c 1) (.b (.b 4))) (.i .Eq (.c 1) (.b (.b 7))))) .c))
noncomputable def afI:bn:=⟨1,[],2,[],abl⟩
noncomputable def abr:a5:=(.b (.e (.b 1) (.f .BitAnd (.l (.c 0) .gI) (.b (.b 7)))) (.b (.d (.p .Or (.i .Eq (.c 1) (.b (.b 5))) (.i .Eq (.c 1) (.b (.b 6))))) .c))
noncomputable def afO:bn:=⟨1,[],2,[],abr⟩
noncomputable def abR:a5:=(.b (.e (.b 1) (.f .RShift (.l (.c 0) .gI) (.b (.b 4)))) (.b (.f (.i .GtE (.c 1) (.b (.b 14))) (.b (.d (.b (.c []))) .c) .c) (.b (.f (.g (.b (.d 8)) (.d (.c 0) .e)) (.b (.d (.j (.q (.b (.c [97,100,100,32,115,117,98,32,109,117,108,32,100,105,118,32,111,114,32,32,97,110,100,32,108,115,104,32,114,115,104,32,110,101,103,32,109,111,100,32,120,111,114,32,109,111,118,32,97,114,115,104,101,110,100,32])) (.f .Mult (.b (.b 4)) (.c 1)) (.f .Add (.f .Mult (.b (.b 4)) (.c 1)) (.b (.b 4)))) .qk .e)) .c) .c) (.b (.f (.g (.b (.d 9)) (.d (.c 0) .e)) (.b (.d (.j (.q (.b (.c [106,97,32,32,101,113,32,32,103,116,32,32,103,101,32,32,115,101,116,32,110,101,32,32,115,103,116,32,115,103,101,32,99,97,108,108,101,120,105,116,108,116,32,32,108,101,32,32,115,108,116,32,115,108,101,32])) (.f .Mult (.b (.b 4)) (.c 1)) (.f .Add (.f .Mult (.b (.b 4)) (.c 1)) (.b (.b 4)))) .qk .e)) .c) .c) (.b (.d (.b (.c []))) .c)))))
noncomputable def agc:bn:=⟨1,[],2,[],abR⟩
noncomputable def abx:a5:=(.b (.d (.i .NotEq (.f .BitAnd (.l (.c 0) .gI) (.b (.b 8))) (.b (.b 0)))) .c)
noncomputable def afT:bn:=⟨1,[],1,[],abx⟩
noncomputable def acA:a5:=(.b (.e (.b 1) (.f .BitAnd (.l (.c 0) .gI) (.b (.b 24)))) (.b (.f (.i .Eq (.c 1) (.b (.b 0))) (.b (.d (.b (.b 4))) .c) .c) (.b (.f (.i .Eq (.c 1) (.b (.b 8))) (.b (.d (.b (.b 2))) .c) .c) (.b (.d (.m (.i .Eq (.c 1) (.b (.b 16))) (.b (.b 1)) (.b (.b 8)))) .c))))
noncomputable def agU:bn:=⟨1,[],2,[],acA⟩
noncomputable def abN:a5:=(.b (.e (.b 1) (.f .BitAnd (.l (.c 0) .gI) (.b (.b 224)))) (.b (.f (.i .Eq (.c 1) (.b (.b 96))) (.b (.d (.b (.c [109,101,109]))) .c) .c) (.b (.f (.i .Eq (.c 1) (.b (.b 192))) (.b (.d (.b (.c [97,116,111,109,105,99]))) .c) .c) (.b (.f (.i .Eq (.c 1) (.b (.b 128))) (.b (.d (.b (.c [109,101,109,115,120]))) .c) .c) (.b (.f (.i .Eq (.c 1) (.b (.b 0))) (.b (.d (.b (.c [105,109,109]))) .c) .c) (.b (.f (.i .Eq (.c 1) (.b (.b 32))) (.b (.d (.b (.c [97,98,115]))) .c) .c) (.b (.d (.m (.i .Eq (.c 1) (.b (.b 64))) (.b (.c [105,110,100])) (.b (.c [])))) .c)))))))
noncomputable def af8:bn:=⟨1,[],2,[],abN⟩
noncomputable def aaZ:a5:=(.b (.e (.b 1) (.f .BitAnd (.l (.c 0) .gI) (.b (.b 7)))) (.b (.d (.m (.p .Or (.i .Eq (.c 1) (.b (.b 4))) (.i .Eq (.c 1) (.b (.b 6)))) (.b (.b 32)) (.b (.b 64)))) .c))
noncomputable def afn:bn:=⟨1,[],2,[],aaZ⟩
noncomputable def abA:a5:=(.b (.d (.i .Eq (.l (.c 0) .gI) (.b (.b 24)))) .c)
noncomputable def afW:bn:=⟨1,[],1,[],abA⟩
noncomputable def abq:a5:=(.b (.d (.p .And (.g (.b (.d 9)) (.d (.c 0) .e)) (.i .Eq (.f .BitAnd (.l (.c 0) .gI) (.b (.b 240))) (.b (.b 0))))) .c)
noncomputable def afN:bn:=⟨1,[],1,[],abq⟩
noncomputable def abo:a5:=(.b (.d (.i .Eq (.l (.c 0) .gI) (.b (.b 133)))) .c)
noncomputable def afL:bn:=⟨1,[],1,[],abo⟩
noncomputable def abu:a5:=(.b (.d (.p .And (.i .Eq (.l (.c 0) .gI) (.b (.b 133))) (.i .Eq (.l (.c 0) .l_) (.b (.b 1))))) .c)
noncomputable def afQ:bn:=⟨1,[],1,[],abu⟩
noncomputable def abp:a5:=(.b (.d (.i .Eq (.l (.c 0) .gI) (.b (.b 149)))) .c)
noncomputable def afM:bn:=⟨1,[],1,[],abp⟩
noncomputable def abn:a5:=(.b (.d (.p .And (.g (.b (.d 9)) (.d (.c 0) .e)) (.p .And (.s (.g (.b (.d 16)) (.d (.c 0) .e))) (.p .And (.s (.g (.b (.d 17)) (.d (.c 0) .e))) (.s (.g (.b (.d 19)) (.d (.c 0) .e))))))) .c)
noncomputable def afK:bn:=⟨1,[],1,[],abn⟩
noncomputable def abt:a5:=(.b (.d (.i .Eq (.f .BitAnd (.l (.c 0) .gI) (.b (.b 7))) (.b (.b 1)))) .c)
noncomputable def afP:bn:=⟨1,[],1,[],abt⟩
noncomputable def abz:a5:=(.b (.e (.b 1) (.f .BitAnd (.l (.c 0) .gI) (.b (.b 7)))) (.b (.d (.p .And (.p .Or (.i .Eq (.c 1) (.b (.b 2))) (.i .Eq (.c 1) (.b (.b 3)))) (.i .Eq (.f .BitAnd (.l (.c 0) .gI) (.b (.b 224))) (.b (.b 96))))) .c))
noncomputable def afV:bn:=⟨1,[],2,[],abz⟩
noncomputable def abm:a5:=(.b (.d (.p .And (.i .Eq (.f .BitAnd (.l (.c 0) .gI) (.b (.b 7))) (.b (.b 3))) (.i .Eq (.f .BitAnd (.l (.c 0) .gI) (.b (.b 224))) (.b (.b 192))))) .c)
noncomputable def afJ:bn:=⟨1,[],1,[],abm⟩
noncomputable def abe:a5:=(.b (.f (.p .Or (.g (.b (.d 18)) (.d (.c 0) .e)) (.i .Eq (.l (.c 0) .gI) (.b (.b 6)))) (.b (.d (.l (.c 0) .kB)) .c) .c) (.b (.d (.l (.c 0) .nr)) .c))
noncomputable def afC:bn:=⟨1,[],1,[],abe⟩
noncomputable def aa4:a5:=(.b (.f (.i .Eq (.l (.c 0) .kB) (.b (.b 225))) (.b (.d (.b (.c [120,99,104,103]))) .c) .c) (.b (.f (.i .Eq (.l (.c 0) .kB) (.b (.b 241))) (.b (.d (.b (.c [99,109,112,120,99,104,103]))) .c) .c) (.b (.e (.b 1) (.f .BitAnd (.l (.c 0) .kB) (.A (.b (.b 1))))) (.b (.e (.b 2) (.b (.c []))) (.b (.f (.i .Eq (.c 1) (.b (.b 0))) (.b (.e (.b 2) (.b (.c [97,100,100]))) .c) (.b (.f (.i .Eq (.c 1) (.b (.b 64))) (.b (.e (.b 2) (.b (.c [111,114]))) .c) (.b (.f (.i .Eq (.c 1) (.b (.b 80))) (.b (.e (.b 2) (.b (.c [97,110,100]))) .c) (.b (.f (.i .Eq (.c 1) (.b (.b 160))) (.b (.e (.b 2) (.b (.c [120,111,114]))) .c) .c) .c)) .c)) .c)) (.b (.f (.i .Eq (.c 2) (.b (.c []))) (.b (.d (.b (.c []))) .c) .c) (.b (.d (.m (.i .NotEq (.f .BitAnd (.l (.c 0) .kB) (.b (.b 1))) (.b (.b 0))) (.f .Add (.b (.c [102,101,116,99,104,95])) (.c 2)) (.c 2))) .c)))))))
noncomputable def afs:bn:=⟨1,[],3,[],aa4⟩
noncomputable def aby:a5:=(.b (.d (.p .And (.g (.b (.d 8)) (.d (.c 0) .e)) (.p .And (.p .Or (.i .Eq (.g (.b (.d 10)) (.d (.c 0) .e)) (.b (.c [100,105,118]))) (.i .Eq (.g (.b (.d 10)) (.d (.c 0) .e)) (.b (.c [109,111,100])))) (.i .Eq (.l (.c 0) .nr) (.b (.b 1)))))) .c)
noncomputable def afU:bn:=⟨1,[],1,[],aby⟩
noncomputable def ao5:a5:=(.b (.f (.i .Eq (.j (.q (.c 0) (.f .Mult (.b (.b 4)) (.c 2)) (.f .Add (.f .Mult (.b (.b 4)) (.c 2)) (.b (.b 4)))) .qk .e) (.c 1)) (.b (.d (.c 2)) .c) .c) .c)
noncomputable def acp:a5:=(.b (.i C (.b 2) (.g (.b (.i .qm)) (.d (.b (.b 14)) .e)) ao5) (.b .m .c))
noncomputable def agJ:bn:=⟨2,[],3,[],acp⟩
noncomputable def abd:a5:=(.b (.d (.f .Add (.f .LShift (.g (.b (.d 27)) (.d (.b (.c [97,100,100,32,115,117,98,32,109,117,108,32,100,105,118,32,111,114,32,32,97,110,100,32,108,115,104,32,114,115,104,32,110,101,103,32,109,111,100,32,120,111,114,32,109,111,118,32,97,114,115,104,101,110,100,32])) (.d (.c 0) .e))) (.b (.b 4))) (.m (.i .Eq (.c 1) (.b (.b 64))) (.b (.b 7)) (.b (.b 4))))) .c)
noncomputable def afB:bn:=⟨2,[],2,[],abd⟩
noncomputable def aa6:a5:=(.b (.f (.p .Or (.i .Eq (.c 0) (.b (.c [106,97]))) (.p .Or (.i .Eq (.c 0) (.b (.c [99,97,108,108]))) (.i .Eq (.c 0) (.b (.c [101,120,105,116]))))) (.b .m .c) .c) (.b (.d (.f .Add (.f .LShift (.g (.b (.d 27)) (.d (.b (.c [106,97,32,32,101,113,32,32,103,116,32,32,103,101,32,32,115,101,116,32,110,101,32,32,115,103,116,32,115,103,101,32,99,97,108,108,101,120,105,116,108,116,32,32,108,101,32,32,115,108,116,32,115,108,101,32])) (.d (.c 0) .e))) (.b (.b 4))) (.m (.i .Eq (.c 1) (.b (.b 64))) (.b (.b 5)) (.b (.b 6))))) .c))
noncomputable def afu:bn:=⟨2,[],2,[],aa6⟩
noncomputable def acz:a5:=(.b (.f (.i .Eq (.c 0) (.b (.b 4))) (.b (.d (.b (.b 0))) .c) .c) (.b (.f (.i .Eq (.c 0) (.b (.b 2))) (.b (.d (.b (.b 8))) .c) .c) (.b (.f (.i .Eq (.c 0) (.b (.b 1))) (.b (.d (.b (.b 16))) .c) .c) (.b (.f (.i .Eq (.c 0) (.b (.b 8))) (.b (.d (.b (.b 24))) .c) .c) (.b .m .c)))))
noncomputable def agT:bn:=⟨1,[],1,[],acz⟩
noncomputable def aaX:a5:=(.b (.d (.g (.b (.d 6)) (.d (.f .Add (.g (.b (.d 28)) (.d (.c 0) (.d (.c 3) .e))) (.b (.b 8))) (.d (.c 1) (.d (.c 2) (.d (.b (.b 0)) (.d (.b (.b 0)) .e))))))) .c)
noncomputable def afl:bn:=⟨4,[(.b 64)],4,[],aaX⟩
noncomputable def aaW:a5:=(.b (.d (.g (.b (.d 6)) (.d (.g (.b (.d 28)) (.d (.c 0) (.d (.c 3) .e))) (.d (.c 1) (.d (.b (.b 0)) (.d (.b (.b 0)) (.d (.c 2) .e))))))) .c)
noncomputable def afk:bn:=⟨4,[(.b 64)],4,[],aaW⟩
noncomputable def ack:a5:=(.b (.d (.g (.b (.d 6)) (.d (.f .Add (.g (.b (.d 28)) (.d (.c 0) (.d (.c 3) .e))) (.b (.b 8))) (.d (.c 1) (.d (.c 2) (.d (.b (.b 1)) (.d (.b (.b 0)) .e))))))) .c)
noncomputable def agF:bn:=⟨4,[(.b 64)],4,[],ack⟩
noncomputable def acj:a5:=(.b (.d (.g (.b (.d 6)) (.d (.g (.b (.d 28)) (.d (.c 0) (.d (.c 3) .e))) (.d (.c 1) (.d (.b (.b 0)) (.d (.b (.b 1)) (.d (.c 2) .e))))))) .c)
noncomputable def agE:bn:=⟨4,[(.b 64)],4,[],acj⟩
noncomputable def abP:a5:=(.b (.d (.g (.b (.d 6)) (.d (.g (.b (.d 28)) (.d (.b (.c [110,101,103])) (.d (.c 1) .e))) (.d (.c 0) (.d (.b (.b 0)) (.d (.b (.b 0)) (.d (.b (.b 0)) .e))))))) .c)
noncomputable def aga:bn:=⟨2,[(.b 64)],2,[],abP⟩
noncomputable def act:a5:=(.b (.f (.i .Eq (.c 0) (.b (.c [115,119,97,112]))) (.b (.d (.g (.b (.d 6)) (.d (.g (.b (.d 28)) (.d (.b (.c [101,110,100])) (.d (.b (.b 64)) .e))) (.d (.c 1) (.d (.b (.b 0)) (.d (.b (.b 0)) (.d (.c 2) .e))))))) .c) .c) (.b (.f (.p .And (.i .NotEq (.c 0) (.b (.c [108,101]))) (.i .NotEq (.c 0) (.b (.c [98,101])))) (.b .m .c) .c) (.b (.d (.g (.b (.d 6)) (.d (.f .Add (.g (.b (.d 28)) (.d (.b (.c [101,110,100])) (.d (.b (.b 32)) .e))) (.m (.i .Eq (.c 0) (.b (.c [98,101]))) (.b (.b 8)) (.b (.b 0)))) (.d (.c 1) (.d (.b (.b 0)) (.d (.b (.b 0)) (.d (.c 2) .e))))))) .c)))
noncomputable def agN:bn:=⟨3,[],3,[],act⟩
noncomputable def abO:a5:=(.b (.d (.g (.b (.d 6)) (.d (.f .Add (.g (.b (.d 28)) (.d (.b (.c [109,111,118])) (.d (.c 3) .e))) (.b (.b 8))) (.d (.c 0) (.d (.c 1) (.d (.c 2) (.d (.b (.b 0)) .e))))))) .c)
noncomputable def af9:bn:=⟨4,[(.b 64)],4,[],abO⟩
noncomputable def abB:a5:=(.b (.d (.g (.b (.d 6)) (.d (.b (.b 5)) (.d (.b (.b 0)) (.d (.b (.b 0)) (.d (.c 0) (.d (.b (.b 0)) .e))))))) .c)
noncomputable def afX:bn:=⟨1,[],1,[],abB⟩
noncomputable def abg:a5:=(.b (.d (.g (.b (.d 6)) (.d (.b (.b 6)) (.d (.b (.b 0)) (.d (.b (.b 0)) (.d (.b (.b 0)) (.d (.c 0) .e))))))) .c)
noncomputable def afD:bn:=⟨1,[],1,[],abg⟩
noncomputable def aa8:a5:=(.b (.d (.g (.b (.d 6)) (.d (.f .Add (.g (.b (.d 29)) (.d (.c 0) (.d (.c 4) .e))) (.b (.b 8))) (.d (.c 1) (.d (.c 2) (.d (.c 3) (.d (.b (.b 0)) .e))))))) .c)
noncomputable def afw:bn:=⟨5,[(.b 64)],5,[],aa8⟩
noncomputable def aa7:a5:=(.b (.d (.g (.b (.d 6)) (.d (.g (.b (.d 29)) (.d (.c 0) (.d (.c 4) .e))) (.d (.c 1) (.d (.b (.b 0)) (.d (.c 3) (.d (.c 2) .e))))))) .c)
noncomputable def afv:bn:=⟨5,[(.b 64)],5,[],aa7⟩
noncomputable def abH:a5:=(.b (.d (.g (.b (.d 6)) (.d (.f .Add (.f .Add (.b (.b 96)) (.g (.b (.d 30)) (.d (.c 0) .e))) (.b (.b 1))) (.d (.c 1) (.d (.c 2) (.d (.c 3) (.d (.b (.b 0)) .e))))))) .c)
noncomputable def af2:bn:=⟨4,[],4,[],abH⟩
noncomputable def abI:a5:=(.b (.d (.g (.b (.d 6)) (.d (.f .Add (.f .Add (.b (.b 128)) (.g (.b (.d 30)) (.d (.c 0) .e))) (.b (.b 1))) (.d (.c 1) (.d (.c 2) (.d (.c 3) (.d (.b (.b 0)) .e))))))) .c)
noncomputable def af3:bn:=⟨4,[],4,[],abI⟩
noncomputable def acq:a5:=(.b (.d (.g (.b (.d 6)) (.d (.f .Add (.f .Add (.b (.b 96)) (.g (.b (.d 30)) (.d (.c 0) .e))) (.b (.b 3))) (.d (.c 1) (.d (.c 3) (.d (.c 2) (.d (.b (.b 0)) .e))))))) .c)
noncomputable def agK:bn:=⟨4,[],4,[],acq⟩
noncomputable def acr:a5:=(.b (.d (.g (.b (.d 6)) (.d (.f .Add (.f .Add (.b (.b 96)) (.g (.b (.d 30)) (.d (.c 0) .e))) (.b (.b 2))) (.d (.c 1) (.d (.b (.b 0)) (.d (.c 2) (.d (.c 3) .e))))))) .c)
noncomputable def agL:bn:=⟨4,[],4,[],acr⟩
noncomputable def aa3:a5:=(.b (.f (.i .Eq (.c 0) (.b (.c [120,99,104,103]))) (.b (.d (.b (.b 225))) .c) .c) (.b (.f (.i .Eq (.c 0) (.b (.c [99,109,112,120,99,104,103]))) (.b (.d (.b (.b 241))) .c) .c) (.b (.e (.b 1) (.m (.i .Eq (.q (.c 0) (.b .e) (.b (.b 6))) (.b (.c [102,101,116,99,104,95]))) (.q (.c 0) (.b (.b 6)) (.b .e)) (.c 0))) (.b (.f (.p .And (.i .NotEq (.c 1) (.b (.c [97,100,100]))) (.p .And (.i .NotEq (.c 1) (.b (.c [111,114]))) (.p .And (.i .NotEq (.c 1) (.b (.c [97,110,100]))) (.i .NotEq (.c 1) (.b (.c [120,111,114])))))) (.b .m .c) .c) (.b (.d (.f .Add (.f .LShift (.g (.b (.d 27)) (.d (.b (.c [97,100,100,32,115,117,98,32,109,117,108,32,100,105,118,32,111,114,32,32,97,110,100,32,108,115,104,32,114,115,104,32,110,101,103,32,109,111,100,32,120,111,114,32,109,111,118,32,97,114,115,104,101,110,100,32])) (.d (.c 1) .e))) (.b (.b 4))) (.m (.i .Eq (.q (.c 0) (.b .e) (.b (.b 6))) (.b (.c [102,101,116,99,104,95]))) (.b (.b 1)) (.b (.b 0))))) .c)))))
noncomputable def afr:bn:=⟨1,[],2,[],aa3⟩
noncomputable def aa2:a5:=(.b (.d (.g (.b (.d 6)) (.d (.f .Add (.f .Add (.b (.b 192)) (.g (.b (.d 30)) (.d (.c 1) .e))) (.b (.b 3))) (.d (.c 2) (.d (.c 4) (.d (.c 3) (.d (.g (.b (.d 46)) (.d (.c 0) .e)) .e))))))) .c)
noncomputable def afq:bn:=⟨5,[],5,[],aa2⟩
noncomputable def acw:a5:=(.b (.d (.g (.b (.d 6)) (.d (.b (.b 24)) (.d (.c 0) (.d (.b (.b 0)) (.d (.b (.b 0)) (.d (.g (.b (.d 4)) (.d (.c 1) (.d (.b (.b 32)) .e))) (.d (.g (.b (.d 4)) (.d (.f .RShift (.c 1) (.b (.b 32))) (.d (.b (.b 32)) .e))) .e)))))))) .c)
noncomputable def agQ:bn:=⟨2,[],2,[],acw⟩
noncomputable def acx:a5:=(.b (.d (.g (.b (.d 6)) (.d (.b (.b 24)) (.d (.c 0) (.d (.b (.b 1)) (.d (.b (.b 0)) (.d (.c 1) .e))))))) .c)
noncomputable def agR:bn:=⟨2,[],2,[],acx⟩
noncomputable def aba:a5:=(.b (.d (.g (.b (.d 6)) (.d (.b (.b 133)) (.d (.b (.b 0)) (.d (.b (.b 0)) (.d (.b (.b 0)) (.d (.c 0) .e))))))) .c)
noncomputable def afy:bn:=⟨1,[],1,[],aba⟩
noncomputable def abK:a5:=(.b (.d (.g (.b (.d 6)) (.d (.b (.b 133)) (.d (.b (.b 0)) (.d (.b (.b 1)) (.d (.b (.b 0)) (.d (.c 0) .e))))))) .c)
noncomputable def af5:bn:=⟨1,[],1,[],abK⟩
noncomputable def abG:a5:=(.b (.d (.g (.b (.d 6)) (.d (.b (.b 149)) (.d (.b (.b 0)) (.d (.b (.b 0)) (.d (.b (.b 0)) (.d (.b (.b 0)) .e))))))) .c)
noncomputable def af1:bn:=⟨0,[],0,[],abG⟩
noncomputable def ao2:a5:=(.b (.e (.g (.c 2) (.k (.c 1) (.c 3))) (.k (.c 1) (.f .Add (.c 3) (.b (.b 1))))) .c)
noncomputable def abS:a5:=(.b (.e (.b 1) (.j (.c 0) .k3 .e)) (.b (.e (.b 2) (.x .e)) (.b (.i C (.b 3) (.g (.b (.i .qm)) (.d (.b (.b 0)) (.d (.g (.b (.i .hL)) (.d (.c 1) .e)) (.d (.b (.b 2)) .e)))) ao2) (.b (.d (.c 2)) .c))))
noncomputable def agd:bn:=⟨1,[],4,[],abS⟩
noncomputable def aaY:a5:=(.b (.d (.g (.b (.d 53)) (.d (.b (.c [97,100,100,32,43,61,32,115,117,98,32,45,61,32,109,117,108,32,42,61,32,100,105,118,32,47,61,32,111,114,32,124,61,32,97,110,100,32,38,61,32,108,115,104,32,60,60,61,32,114,115,104,32,62,62,61,32,109,111,100,32,37,61,32,120,111,114,32,94,61,32,109,111,118,32,61,32,97,114,115,104,32,115,62,62,61])) .e))) .c)
noncomputable def afm:bn:=⟨0,[],0,[],aaY⟩
noncomputable def abD:a5:=(.b (.d (.g (.b (.d 53)) (.d (.b (.c [101,113,32,61,61,32,103,116,32,62,32,103,101,32,62,61,32,115,101,116,32,38,32,110,101,32,33,61,32,115,103,116,32,115,62,32,115,103,101,32,115,62,61,32,108,116,32,60,32,108,101,32,60,61,32,115,108,116,32,115,60,32,115,108,101,32,115,60,61])) .e))) .c)
noncomputable def afZ:bn:=⟨0,[],0,[],abD⟩
noncomputable def aci:a5:=(.b (.d (.f .Add (.m (.i .Eq (.c 1) (.b (.b 64))) (.b (.c [114])) (.b (.c [119]))) (.g (.b (.i .f5)) (.d (.c 0) .e)))) .c)
noncomputable def agD:bn:=⟨2,[],2,[],aci⟩
noncomputable def aco:a5:=(.b (.d (.m (.i .GtE (.c 0) (.b (.b 0))) (.f .Add (.b (.c [43])) (.g (.b (.i .f5)) (.d (.c 0) .e))) (.g (.b (.i .f5)) (.d (.c 0) .e)))) .c)
noncomputable def agI:bn:=⟨1,[],1,[],aco⟩
noncomputable def abT:a5:=(.b (.f (.i .Lt (.c 1) (.b (.b 0))) (.b (.d (.f .Add (.f .Add (.g (.b (.d 56)) (.d (.c 0) (.d (.b (.b 64)) .e))) (.b (.c [32,45,32]))) (.g (.b (.i .f5)) (.d (.t (.c 1)) .e)))) .c) .c) (.b (.d (.f .Add (.f .Add (.g (.b (.d 56)) (.d (.c 0) (.d (.b (.b 64)) .e))) (.b (.c [32,43,32]))) (.g (.b (.i .f5)) (.d (.c 1) .e)))) .c))
noncomputable def age:bn:=⟨2,[],2,[],abT⟩
noncomputable def abM:a5:=(.b (.d (.f .Add (.f .Add (.f .Add (.f .Add (.f .Add (.b (.c [42,40])) (.c 3)) (.g (.b (.i .f5)) (.d (.f .Mult (.b (.b 8)) (.c 2)) .e))) (.b (.c [32,42,41,40]))) (.g (.b (.d 58)) (.d (.c 0) (.d (.c 1) .e)))) (.b (.c [41])))) .c)
noncomputable def af7:bn:=⟨4,[(.c [117])],4,[],abM⟩
noncomputable def Lb:a5:=(.b (.e (.b 1) (.f .Add (.k (.b (.c [48,49,50,51,52,53,54,55,56,57,97,98,99,100,101,102])) (.f .BitAnd (.c 0) (.b (.b 15)))) (.c 1))) (.b (.e (.b 0) (.f .RShift (.c 0) (.b (.b 4)))) .c))
noncomputable def I0:aZ:=(.p .Or (.i .Gt (.c 0) (.b (.b 0))) (.i .Eq (.c 1) (.b (.c []))))
noncomputable def abk:a5:=(.b (.e (.b 1) (.b (.c []))) (.b (.k I0 Lb) (.b (.d (.c 1)) .c)))
noncomputable def afH:bn:=⟨1,[],2,[],abk⟩
noncomputable def acu:a5:=(.b (.e (.b 1) (.g (.b (.d 56)) (.d (.l (.c 0) .l8) (.d (.b (.b 64)) .e)))) (.b (.f (.i .Eq (.g (.b (.d 7)) (.d (.c 0) .e)) (.b (.c [97,108,117,54,52]))) (.b (.e (.b 2) (.b (.c [98,115,119,97,112]))) .c) (.b (.e (.b 2) (.m (.g (.b (.d 11)) (.d (.c 0) .e)) (.b (.c [98,101])) (.b (.c [108,101])))) .c)) (.b (.d (.f .Add (.f .Add (.f .Add (.f .Add (.f .Add (.c 1) (.b (.c [32,61,32]))) (.c 2)) (.g (.b (.i .f5)) (.d (.l (.c 0) .kB) .e))) (.b (.c [32]))) (.c 1))) .c)))
noncomputable def agO:bn:=⟨1,[],3,[],acu⟩
noncomputable def aa1:a5:=(.b (.e (.b 1) (.g (.b (.d 10)) (.d (.c 0) .e))) (.b (.f (.i .Eq (.c 1) (.b (.c [101,110,100]))) (.b (.d (.g (.b (.d 61)) (.d (.c 0) .e))) .c) .c) (.b (.e (.b 2) (.g (.b (.d 14)) (.d (.c 0) .e))) (.b (.e (.b 3) (.g (.b (.d 56)) (.d (.l (.c 0) .l8) (.d (.c 2) .e)))) (.b (.f (.i .Eq (.c 1) (.b (.c [110,101,103]))) (.b (.d (.f .Add (.f .Add (.c 3) (.b (.c [32,61,32,45]))) (.c 3))) .c) .c) (.b (.f (.p .And (.i .Eq (.c 1) (.b (.c [109,111,118]))) (.p .And (.g (.b (.d 11)) (.d (.c 0) .e)) (.i .NotEq (.l (.c 0) .nr) (.b (.b 0))))) (.b (.d (.f .Add (.f .Add (.f .Add (.f .Add (.c 3) (.b (.c [32,61,32,40,115]))) (.g (.b (.i .f5)) (.d (.l (.c 0) .nr) .e))) (.b (.c [41]))) (.g (.b (.d 56)) (.d (.l (.c 0) .l_) (.d (.c 2) .e))))) .c) .c) (.b (.e (.b 4) (.k (.g (.b (.d 54)) .e) (.c 1))) (.b (.f (.g (.b (.d 26)) (.d (.c 0) .e)) (.b (.e (.b 4) (.f .Add (.b (.c [115])) (.c 4))) .c) .c) (.b (.e (.b 5) (.m (.g (.b (.d 11)) (.d (.c 0) .e)) (.g (.b (.d 56)) (.d (.l (.c 0) .l_) (.d (.c 2) .e))) (.g (.b (.i .f5)) (.d (.l (.c 0) .kB) .e)))) (.b (.d (.f .Add (.f .Add (.f .Add (.f .Add (.c 3) (.b (.c [32]))) (.c 4)) (.b (.c [32]))) (.c 5))) .c))))))))))
noncomputable def afp:bn:=⟨1,[],6,[],aa1⟩
noncomputable def abj:a5:=(.b (.d (.m (.i .NotEq (.c 1) (.b (.c []))) (.c 1) (.g (.b (.d 57)) (.d (.g (.b (.d 24)) (.d (.c 0) .e)) .e)))) .c)
noncomputable def afG:bn:=⟨2,[],2,[],abj⟩
noncomputable def aa9:a5:=(.b (.e (.b 2) (.g (.b (.d 65)) (.d (.c 0) .e))) (.b (.e (.b 3) (.m (.g (.b (.d 11)) (.d (.c 0) .e)) (.g (.b (.d 56)) (.d (.l (.c 0) .l_) (.d (.c 2) .e))) (.g (.b (.i .f5)) (.d (.l (.c 0) .kB) .e)))) (.b (.e (.b 4) (.k (.g (.b (.d 55)) .e) (.g (.b (.d 10)) (.d (.c 0) .e)))) (.b (.d (.f .Add (.f .Add (.f .Add (.f .Add (.f .Add (.f .Add (.f .Add (.b (.c [105,102,32])) (.g (.b (.d 56)) (.d (.l (.c 0) .l8) (.d (.c 2) .e)))) (.b (.c [32]))) (.c 4)) (.b (.c [32]))) (.c 3)) (.b (.c [32,103,111,116,111,32]))) (.g (.b (.d 63)) (.d (.c 0) (.d (.c 1) .e))))) .c))))
noncomputable def afx:bn:=⟨2,[],5,[],aa9⟩
noncomputable def aa0:a5:=(.b (.d (.m (.i .Eq (.g (.b (.d 7)) (.d (.c 0) .e)) (.b (.c [106,109,112,51,50]))) (.b (.b 32)) (.b (.b 64)))) .c)
noncomputable def afo:bn:=⟨1,[],1,[],aa0⟩
noncomputable def abb:a5:=(.b (.f (.s (.g (.b (.d 18)) (.d (.c 0) .e))) (.b (.d (.f .Add (.b (.c [99,97,108,108,32])) (.g (.b (.i .f5)) (.d (.l (.c 0) .kB) .e)))) .c) .c) (.b (.f (.i .NotEq (.c 1) (.b (.c []))) (.b (.d (.f .Add (.b (.c [99,97,108,108,32])) (.c 1))) .c) .c) (.b (.d (.f .Add (.b (.c [99,97,108,108,32,112,99])) (.g (.b (.d 57)) (.d (.g (.b (.d 24)) (.d (.c 0) .e)) .e)))) .c)))
noncomputable def afz:bn:=⟨2,[],2,[],abb⟩
noncomputable def abE:a5:=(.b (.f (.g (.b (.d 19)) (.d (.c 0) .e)) (.b (.d (.b (.c [101,120,105,116]))) .c) .c) (.b (.f (.g (.b (.d 17)) (.d (.c 0) .e)) (.b (.d (.g (.b (.d 66)) (.d (.c 0) (.d (.c 1) .e)))) .c) .c) (.b (.f (.g (.b (.d 20)) (.d (.c 0) .e)) (.b (.d (.g (.b (.d 64)) (.d (.c 0) (.d (.c 1) .e)))) .c) .c) (.b (.e (.b 2) (.m (.i .Eq (.g (.b (.d 7)) (.d (.c 0) .e)) (.b (.c [106,109,112,51,50]))) (.b (.c [103,111,116,111,108,32])) (.b (.c [103,111,116,111,32])))) (.b (.d (.f .Add (.c 2) (.g (.b (.d 63)) (.d (.c 0) (.d (.c 1) .e))))) .c)))))
noncomputable def af0:bn:=⟨2,[],3,[],abE⟩
noncomputable def abL:a5:=(.b (.e (.b 3) (.k (.g (.b (.d 54)) .e) (.c 1))) (.b (.d (.f .Add (.f .Add (.f .Add (.f .Add (.f .Add (.b (.c [108,111,99,107,32])) (.g (.b (.d 59)) (.d (.l (.c 0) .l8) (.d (.l (.c 0) .nr) (.d (.c 2) .e))))) (.b (.c [32]))) (.c 3)) (.b (.c [32]))) (.g (.b (.d 56)) (.d (.l (.c 0) .l_) (.d (.f .Mult (.b (.b 8)) (.c 2)) .e))))) .c))
noncomputable def af6:bn:=⟨3,[],4,[],abL⟩
noncomputable def aa5:a5:=(.b (.e (.b 1) (.g (.b (.d 25)) (.d (.c 0) .e))) (.b (.e (.b 2) (.g (.b (.d 12)) (.d (.c 0) .e))) (.b (.e (.b 3) (.f .Mult (.b (.b 8)) (.c 2))) (.b (.e (.b 4) (.g (.b (.d 56)) (.d (.l (.c 0) .l_) (.d (.c 3) .e)))) (.b (.e (.b 5) (.g (.b (.d 58)) (.d (.l (.c 0) .l8) (.d (.l (.c 0) .nr) .e)))) (.b (.f (.i .In (.c 1) (.j (.b (.c [97,100,100,32,111,114,32,97,110,100,32,120,111,114])) .k3 .e)) (.b (.d (.g (.b (.d 68)) (.d (.c 0) (.d (.c 1) (.d (.c 2) .e))))) .c) .c) (.b (.e (.b 6) (.m (.i .Eq (.c 2) (.b (.b 8))) (.b (.c [95,54,52])) (.b (.c [51,50,95,51,50])))) (.b (.f (.i .Eq (.c 1) (.b (.c [120,99,104,103]))) (.b (.d (.f .Add (.f .Add (.f .Add (.f .Add (.f .Add (.f .Add (.f .Add (.c 4) (.b (.c [32,61,32,120,99,104,103]))) (.c 6)) (.b (.c [40]))) (.c 5)) (.b (.c [44,32]))) (.c 4)) (.b (.c [41])))) .c) .c) (.b (.f (.i .Eq (.c 1) (.b (.c [99,109,112,120,99,104,103]))) (.b (.e (.b 7) (.g (.b (.d 56)) (.d (.b (.b 0)) (.d (.c 3) .e)))) (.b (.d (.f .Add (.f .Add (.f .Add (.f .Add (.f .Add (.f .Add (.f .Add (.f .Add (.f .Add (.c 7) (.b (.c [32,61,32,99,109,112,120,99,104,103]))) (.c 6)) (.b (.c [40]))) (.c 5)) (.b (.c [44,32]))) (.c 7)) (.b (.c [44,32]))) (.c 4)) (.b (.c [41])))) .c)) .c) (.b (.d (.f .Add (.f .Add (.f .Add (.f .Add (.f .Add (.f .Add (.f .Add (.f .Add (.f .Add (.c 4) (.b (.c [32,61,32,97,116,111,109,105,99,95]))) (.c 1)) (.b (.c [40,40,117]))) (.g (.b (.i .f5)) (.d (.c 3) .e))) (.b (.c [32,42,41,40]))) (.c 5)) (.b (.c [41,44,32]))) (.c 4)) (.b (.c [41])))) .c))))))))))
noncomputable def aft:bn:=⟨1,[],8,[],aa5⟩
noncomputable def abJ:a5:=(.b (.e (.b 1) (.m (.i .Eq (.g (.b (.d 13)) (.d (.c 0) .e)) (.b (.c [109,101,109,115,120]))) (.b (.c [115])) (.b (.c [117])))) (.b (.d (.f .Add (.f .Add (.g (.b (.d 56)) (.d (.l (.c 0) .l8) (.d (.b (.b 64)) .e))) (.b (.c [32,61,32]))) (.g (.b (.d 59)) (.d (.l (.c 0) .l_) (.d (.l (.c 0) .nr) (.d (.g (.b (.d 12)) (.d (.c 0) .e)) (.d (.c 1) .e))))))) .c))
noncomputable def af4:bn:=⟨1,[],2,[],abJ⟩
noncomputable def acs:a5:=(.b (.e (.b 1) (.m (.i .Eq (.g (.b (.d 7)) (.d (.c 0) .e)) (.b (.c [115,116,120]))) (.g (.b (.d 56)) (.d (.l (.c 0) .l_) (.d (.b (.b 64)) .e))) (.g (.b (.i .f5)) (.d (.l (.c 0) .kB) .e)))) (.b (.d (.f .Add (.f .Add (.g (.b (.d 59)) (.d (.l (.c 0) .l8) (.d (.l (.c 0) .nr) (.d (.g (.b (.d 12)) (.d (.c 0) .e)) .e)))) (.b (.c [32,61,32]))) (.c 1))) .c))
noncomputable def agM:bn:=⟨1,[],2,[],acs⟩
noncomputable def acy:a5:=(.b (.e (.b 1) (.g (.b (.d 56)) (.d (.l (.c 0) .l8) (.d (.b (.b 64)) .e)))) (.b (.f (.i .Eq (.l (.c 0) .l_) (.b (.b 1))) (.b (.d (.f .Add (.f .Add (.f .Add (.c 1) (.b (.c [32,61,32,109,97,112,32]))) (.g (.b (.i .f5)) (.d (.l (.c 0) .kB) .e))) (.b (.c [32,108,108])))) .c) .c) (.b (.e (.b 2) (.f .Add (.g (.b (.d 3)) (.d (.l (.c 0) .kB) (.d (.b (.b 32)) .e))) (.f .LShift (.g (.b (.d 3)) (.d (.l (.c 0) .wD) (.d (.b (.b 32)) .e))) (.b (.b 32))))) (.b (.d (.f .Add (.f .Add (.f .Add (.c 1) (.b (.c [32,61,32,48,120]))) (.g (.b (.d 60)) (.d (.c 2) .e))) (.b (.c [32,108,108])))) .c))))
noncomputable def agS:bn:=⟨1,[],3,[],acy⟩
noncomputable def acF:a5:=(.b (.f (.g (.b (.d 15)) (.d (.c 0) .e)) (.b (.d (.g (.b (.d 72)) (.d (.c 0) .e))) .c) .c) (.b (.f (.g (.b (.d 23)) (.d (.c 0) .e)) (.b (.d (.g (.b (.d 69)) (.d (.c 0) .e))) .c) .c) (.b (.f (.g (.b (.d 21)) (.d (.c 0) .e)) (.b (.d (.g (.b (.d 70)) (.d (.c 0) .e))) .c) .c) (.b (.f (.g (.b (.d 22)) (.d (.c 0) .e)) (.b (.d (.g (.b (.d 71)) (.d (.c 0) .e))) .c) .c) (.b (.f (.i .In (.g (.b (.d 7)) (.d (.c 0) .e)) (.n (.d (.b (.c [106,109,112])) (.d (.b (.c [106,109,112,51,50])) .e)))) (.b (.d (.g (.b (.d 67)) (.d (.c 0) (.d (.c 1) .e)))) .c) .c) (.b (.d (.g (.b (.d 62)) (.d (.c 0) .e))) .c))))))
noncomputable def agZ:bn:=⟨2,[(.c [])],2,[],acF⟩
noncomputable def abv:a5:=(.b (.d (.p .And (.i .NotEq (.c 0) (.b (.c []))) (.i .In (.k (.c 0) (.b (.b 0))) (.b (.c [97,98,99,100,101,102,103,104,105,106,107,108,109,110,111,112,113,114,115,116,117,118,119,120,121,122,65,66,67,68,69,70,71,72,73,74,75,76,77,78,79,80,81,82,83,84,85,86,87,88,89,90,95,46,36]))))) .c)
noncomputable def afR:bn:=⟨1,[],1,[],abv⟩
noncomputable def abw:a5:=(.b (.d (.p .And (.i .NotEq (.c 0) (.b (.c []))) (.i .In (.k (.c 0) (.b (.b 0))) (.b (.c [48,49,50,51,52,53,54,55,56,57]))))) .c)
noncomputable def afS:bn:=⟨1,[],1,[],abw⟩
noncomputable def Bq:a5:=(.b (.f (.j (.c 0) .sG (.d (.c 2) (.d (.c 1) .e))) (.b (.d (.c 2)) .c) .c) .c)
noncomputable def acm:a5:=(.b (.i C (.b 2) (.j (.b (.c [115,62,62,61,32,115,62,61,32,115,60,61,32,115,47,61,32,115,37,61,32,60,60,61,32,62,62,61,32,115,62,32,115,60,32,43,61,32,45,61,32,42,61,32,47,61,32,124,61,32,38,61,32,37,61,32,94,61,32,61,61,32,33,61,32,62,61,32,60,61,32,61,32,62,32,60,32,38,32,40,32,41,32,42,32,43,32,45,32,44,32,58])) .k3 .e) Bq) (.b (.d (.b (.c []))) .c))
noncomputable def agG:bn:=⟨2,[],3,[],acm⟩
noncomputable def Ft:a5:=(.b (.e (.b 1) (.f .Add (.c 1) (.b (.b 1)))) .c)
noncomputable def Ay:aZ:=(.p .And (.i .Lt (.c 1) (.g (.b (.i .hL)) (.d (.c 0) .e))) (.p .Or (.i .In (.k (.c 0) (.c 1)) (.b (.c [97,98,99,100,101,102,103,104,105,106,107,108,109,110,111,112,113,114,115,116,117,118,119,120,121,122,65,66,67,68,69,70,71,72,73,74,75,76,77,78,79,80,81,82,83,84,85,86,87,88,89,90,95,46,36]))) (.i .In (.k (.c 0) (.c 1)) (.b (.c [48,49,50,51,52,53,54,55,56,57])))))
noncomputable def acC:a5:=(.b (.k Ay Ft) (.b (.d (.c 1)) .c))
noncomputable def agW:bn:=⟨2,[],2,[],acC⟩
noncomputable def Br:a5:=(.b (.f (.i .In (.k (.c 0) (.c 3)) (.b (.c [32,9]))) (.b (.e (.b 3) (.f .Add (.c 3) (.b (.b 1)))) (.b .n .c)) .c) (.b (.e (.b 4) (.p .Or (.p .And (.i .In (.k (.c 0) (.c 3)) (.b (.c [97,98,99,100,101,102,103,104,105,106,107,108,109,110,111,112,113,114,115,116,117,118,119,120,121,122,65,66,67,68,69,70,71,72,73,74,75,76,77,78,79,80,81,82,83,84,85,86,87,88,89,90,95,46,36]))) (.i .NotEq (.k (.c 0) (.c 3)) (.b (.c [115])))) (.i .In (.k (.c 0) (.c 3)) (.b (.c [48,49,50,51,52,53,54,55,56,57]))))) (.b (.e (.b 5) (.m (.c 4) (.b (.c [])) (.g (.b (.d 76)) (.d (.c 0) (.d (.c 3) .e))))) (.b (.e (.b 6) (.m (.i .NotEq (.c 5) (.b (.c []))) (.f .Add (.c 3) (.g (.b (.i .hL)) (.d (.c 5) .e))) (.g (.b (.d 77)) (.d (.c 0) (.d (.c 3) .e))))) (.b (.f (.i .Eq (.c 6) (.c 3)) (.b (.l (.d (.b (.c [97,32,115,105,103,110,32,116,104,97,116,32,99,97,110,39,116,32,115,116,97,110,100])) (.d (.c 1) .e))) .c) .c) (.b (.g (.j (.c 2) .jE (.d (.q (.c 0) (.c 3) (.c 6)) .e))) (.b (.e (.b 3) (.c 6)) .c)))))))
noncomputable def DS:aZ:=(.i .Lt (.c 3) (.g (.b (.i .hL)) (.d (.c 0) .e)))
noncomputable def acD:a5:=(.b (.e (.b 2) .w) (.b (.e (.b 3) (.b (.b 0))) (.b (.k DS Br) (.b (.d (.c 2)) .c))))
noncomputable def agX:bn:=⟨2,[],7,[],acD⟩
noncomputable def Fs:a5:=(.b (.e (.b 2) (.j (.c 0) .qj (.d (.c 1) .e))) (.b (.f (.i .GtE (.c 2) (.b (.b 0))) (.b (.e (.b 0) (.q (.c 0) (.b .e) (.c 2))) .c) .c) .c))
noncomputable def abU:a5:=(.b (.i C (.b 1) (.n (.d (.b (.c [35])) (.d (.b (.c [47,47])) .e))) Fs) (.b (.d (.c 0)) .c))
noncomputable def agf:bn:=⟨1,[],3,[],abU⟩
noncomputable def ach:a5:=(.b (.f (.p .Or (.i .NotIn (.q (.c 0) (.b .e) (.b (.b 1))) (.n (.d (.b (.c [114])) (.d (.b (.c [119])) .e)))) (.s (.g (.b (.d 75)) (.d (.q (.c 0) (.b (.b 1)) (.b .e)) .e)))) (.b (.d (.b .e)) .c) .c) (.b (.e (.b 1) (.g (.b (.d 82)) (.d (.q (.c 0) (.b (.b 1)) (.b .e)) .e))) (.b (.f (.p .Or (.i .Is (.c 1) (.b .e)) (.p .Or (.i .Gt (.c 1) (.b (.b 10))) (.i .NotEq (.g (.b (.i .f5)) (.d (.c 1) .e)) (.q (.c 0) (.b (.b 1)) (.b .e))))) (.b (.d (.b .e)) .c) .c) (.b (.d (.n (.d (.c 1) (.d (.m (.i .Eq (.k (.c 0) (.b (.b 0))) (.b (.c [114]))) (.b (.b 64)) (.b (.b 32))) .e)))) .c))))
noncomputable def agC:bn:=⟨1,[],2,[],ach⟩
noncomputable def Fr:a5:=(.b (.e (.b 5) (.j (.b (.c [48,49,50,51,52,53,54,55,56,57,97,98,99,100,101,102])) .qj (.d (.c 4) .e))) (.b (.f (.p .Or (.i .Lt (.c 5) (.b (.b 0))) (.i .GtE (.c 5) (.c 1))) (.b (.d (.b .e)) .c) .c) (.b (.e (.b 3) (.f .Add (.f .Mult (.c 3) (.c 1)) (.c 5))) .c)))
noncomputable def abQ:a5:=(.b (.f (.i .Eq (.q (.c 0) (.b .e) (.b (.b 2))) (.b (.c [48,120]))) (.b (.j (.c (.b 2) (.c (.b 1) .d)) (.d (.b (.b 16)) (.d (.j (.q (.c 0) (.b (.b 2)) (.b .e)) .sD .e) .e))) .c) (.b (.j (.c (.b 2) (.c (.b 1) .d)) (.d (.b (.b 10)) (.d (.c 0) .e))) .c)) (.b (.e (.b 3) (.b (.b 0))) (.b (.i C (.b 4) (.c 2) Fr) (.b (.d (.m (.i .NotEq (.c 2) (.b (.c []))) (.c 3) (.b .e))) .c))))
noncomputable def agb:bn:=⟨1,[],6,[],abQ⟩
noncomputable def ao6:a5:=(.b (.e (.g (.c 1) (.k (.c 0) (.c 2))) (.c 2)) .c)
noncomputable def acv:a5:=(.b (.e (.b 1) (.x .e)) (.b (.i C (.b 2) (.c 0) ao6) (.b (.d (.c 1)) .c)))
noncomputable def agP:bn:=⟨1,[],3,[],acv⟩
noncomputable def acf:a5:=(.b (.e (.b 2) (.j (.c 0) .lD .e)) (.b (.f (.p .Or (.i .NotIn (.q (.c 2) (.b .e) (.b (.b 1))) (.c 1)) (.i .NotIn (.q (.c 2) (.b (.b 1)) (.b .e)) (.n (.d (.b (.c [56])) (.d (.b (.c [49,54])) (.d (.b (.c [51,50])) (.d (.b (.c [54,52])) .e))))))) (.b (.g (.j (.c 0) .h1 (.d (.b (.c [119,97,110,116,101,100,32,97,32,119,105,100,116,104])) .e))) .c) .c) (.b (.d (.n (.d (.k (.c 2) (.b (.b 0))) (.d (.f .FloorDiv (.g (.b (.i .rx)) (.d (.q (.c 2) (.b (.b 1)) (.b .e)) .e)) (.b (.b 8))) .e)))) .c)))
noncomputable def agA:bn:=⟨2,[],3,[],acf⟩
noncomputable def aca:a5:=(.b (.e (.b 1) (.j (.c 0) .l9 (.d (.b (.b 64)) .e))) (.b (.f (.i .NotIn (.j (.c 0) .i8 .e) (.n (.d (.b (.c [43])) (.d (.b (.c [45])) .e)))) (.b (.g (.j (.c 0) .h1 (.d (.b (.c [119,97,110,116,101,100,32,97,110,32,111,102,102,115,101,116])) .e))) .c) .c) (.b (.d (.n (.d (.c 1) (.d (.j (.c 0) .ob (.d (.b (.b 16)) .e)) .e)))) .c)))
noncomputable def agv:bn:=⟨1,[],2,[],aca⟩
noncomputable def ab7:a5:=(.b (.g (.j (.c 0) .gm (.d (.b (.c [42])) .e))) (.b (.g (.j (.c 0) .gm (.d (.b (.c [40])) .e))) (.b (.e (.e (.c (.b 2) (.c (.b 3) .d))) (.g (.b (.d 84)) (.d (.c 0) (.d (.c 1) .e)))) (.b (.g (.j (.c 0) .gm (.d (.b (.c [42])) .e))) (.b (.g (.j (.c 0) .gm (.d (.b (.c [41])) .e))) (.b (.g (.j (.c 0) .gm (.d (.b (.c [40])) .e))) (.b (.e (.e (.c (.b 4) (.c (.b 5) .d))) (.g (.b (.d 85)) (.d (.c 0) .e))) (.b (.g (.j (.c 0) .gm (.d (.b (.c [41])) .e))) (.b (.d (.n (.d (.c 2) (.d (.c 3) (.d (.c 4) (.d (.c 5) .e)))))) .c)))))))))
noncomputable def ags:bn:=⟨2,[],6,[],ab7⟩
noncomputable def ab2:a5:=(.b (.f (.i .In (.j (.c 0) .i8 .e) (.n (.d (.b (.c [43])) (.d (.b (.c [45])) .e)))) (.b (.d (.n (.d (.j (.c 0) .ob (.d (.b (.b 32)) .e)) (.d (.b (.c [])) .e)))) .c) .c) (.b (.f (.s (.g (.b (.d 74)) (.d (.j (.c 0) .i8 .e) .e))) (.b (.g (.j (.c 0) .h1 (.d (.b (.c [119,97,110,116,101,100,32,97,32,100,105,115,116,97,110,99,101,32,111,114,32,97,32,108,97,98,101,108])) .e))) .c) .c) (.b (.d (.n (.d (.b (.b 0)) (.d (.j (.c 0) .lD .e) .e)))) .c)))
noncomputable def agn:bn:=⟨1,[],1,[],ab2⟩
noncomputable def ab3:a5:=(.b (.e (.b 1) (.j (.c 0) .lD .e)) (.b (.e (.e (.c (.b 2) (.c (.b 3) .d))) (.g (.b (.d 87)) (.d (.c 0) .e))) (.b (.f (.i .Eq (.c 1) (.b (.c [103,111,116,111,108]))) (.b (.d (.n (.d (.g (.b (.d 39)) (.d (.c 2) .e)) (.d (.c 3) .e)))) .c) .c) (.b (.f (.s (.g (.b (.d 5)) (.d (.c 2) (.d (.b (.b 16)) .e)))) (.b (.g (.j (.c 0) .h1 (.d (.b (.c [116,111,111,32,102,97,114])) .e))) .c) .c) (.b (.d (.n (.d (.g (.b (.d 38)) (.d (.c 2) .e)) (.d (.c 3) .e)))) .c)))))
noncomputable def ago:bn:=⟨1,[],4,[],ab3⟩
noncomputable def abV:a5:=(.b (.g (.j (.c 0) .gm (.d (.b (.c [105,102])) .e))) (.b (.e (.e (.c (.b 1) (.c (.b 2) .d))) (.j (.c 0) .wE .e)) (.b (.e (.b 3) (.j (.g (.b (.d 83)) (.d (.g (.b (.d 55)) .e) .e)) .oa (.d (.j (.c 0) .lD .e) (.d (.b (.c [])) .e)))) (.b (.f (.i .Eq (.c 3) (.b (.c []))) (.b (.g (.j (.c 0) .h1 (.d (.b (.c [119,97,110,116,101,100,32,97,32,99,111,110,100,105,116,105,111,110])) .e))) .c) .c) (.b (.e (.b 4) (.i .IsNot (.g (.b (.d 81)) (.d (.j (.c 0) .i8 .e) .e)) (.b .e))) (.b (.e (.b 5) (.m (.c 4) (.j (.c 0) .l9 (.d (.c 2) .e)) (.j (.c 0) .ob (.d (.b (.b 32)) .e)))) (.b (.g (.j (.c 0) .gm (.d (.b (.c [103,111,116,111])) .e))) (.b (.e (.e (.c (.b 6) (.c (.b 7) .d))) (.g (.b (.d 87)) (.d (.c 0) .e))) (.b (.f (.s (.g (.b (.d 5)) (.d (.c 6) (.d (.b (.b 16)) .e)))) (.b (.g (.j (.c 0) .h1 (.d (.b (.c [116,111,111,32,102,97,114])) .e))) .c) .c) (.b (.f (.c 4) (.b (.d (.n (.d (.g (.b (.d 40)) (.d (.c 3) (.d (.c 1) (.d (.c 5) (.d (.c 6) (.d (.c 2) .e)))))) (.d (.c 7) .e)))) .c) .c) (.b (.d (.n (.d (.g (.b (.d 41)) (.d (.c 3) (.d (.c 1) (.d (.c 5) (.d (.c 6) (.d (.c 2) .e)))))) (.d (.c 7) .e)))) .c)))))))))))
noncomputable def agg:bn:=⟨1,[],8,[],abV⟩
noncomputable def abW:a5:=(.b (.g (.j (.c 0) .gm (.d (.b (.c [99,97,108,108])) .e))) (.b (.f (.p .And (.i .Eq (.j (.c 0) .i8 .e) (.b (.c [112,99]))) (.i .In (.j (.c 0) .i8 (.d (.b (.b 1)) .e)) (.n (.d (.b (.c [43])) (.d (.b (.c [45])) .e))))) (.b (.g (.j (.c 0) .lD .e)) (.b (.d (.n (.d (.g (.b (.d 51)) (.d (.j (.c 0) .ob (.d (.b (.b 32)) .e)) .e)) (.d (.b (.c [])) .e)))) .c)) .c) (.b (.f (.g (.b (.d 74)) (.d (.j (.c 0) .i8 .e) .e)) (.b (.d (.n (.d (.g (.b (.d 51)) (.d (.b (.b 0)) .e)) (.d (.j (.c 0) .lD .e) .e)))) .c) .c) (.b (.d (.n (.d (.g (.b (.d 50)) (.d (.j (.c 0) .ob (.d (.b (.b 32)) .e)) .e)) (.d (.b (.c [])) .e)))) .c))))
noncomputable def agh:bn:=⟨1,[],1,[],abW⟩
noncomputable def acd:a5:=(.b (.e (.e (.c (.b 1) (.c (.b 2) (.c (.b 3) (.c (.b 4) .d))))) (.g (.b (.d 86)) (.d (.c 0) (.d (.b (.c [117])) .e)))) (.b (.g (.j (.c 0) .gm (.d (.b (.c [61])) .e))) (.b (.f (.i .IsNot (.g (.b (.d 81)) (.d (.j (.c 0) .i8 .e) .e)) (.b .e)) (.b (.d (.g (.b (.d 44)) (.d (.c 2) (.d (.c 3) (.d (.c 4) (.d (.j (.c 0) .l9 (.d (.b (.b 64)) .e)) .e)))))) .c) .c) (.b (.d (.g (.b (.d 45)) (.d (.c 2) (.d (.c 3) (.d (.c 4) (.d (.j (.c 0) .ob (.d (.b (.b 32)) .e)) .e)))))) .c))))
noncomputable def agy:bn:=⟨1,[],5,[],acd⟩
noncomputable def ab5:a5:=(.b (.g (.j (.c 0) .gm (.d (.b (.c [108,111,99,107])) .e))) (.b (.e (.e (.c (.b 1) (.c (.b 2) (.c (.b 3) (.c (.b 4) .d))))) (.g (.b (.d 86)) (.d (.c 0) (.d (.b (.c [117])) .e)))) (.b (.e (.b 5) (.j (.g (.b (.d 83)) (.d (.g (.b (.d 54)) .e) .e)) .oa (.d (.j (.c 0) .lD .e) (.d (.b (.c [])) .e)))) (.b (.f (.p .Or (.i .NotIn (.c 5) (.n (.d (.b (.c [97,100,100])) (.d (.b (.c [111,114])) (.d (.b (.c [97,110,100])) (.d (.b (.c [120,111,114])) .e)))))) (.i .Lt (.c 2) (.b (.b 4)))) (.b (.g (.j (.c 0) .h1 (.d (.b (.c [110,111,32,97,116,111,109,105,99,32,100,101,101,100])) .e))) .c) .c) (.b (.d (.g (.b (.d 47)) (.d (.c 5) (.d (.c 2) (.d (.c 3) (.d (.c 4) (.d (.j (.c 0) .l9 (.d (.f .Mult (.b (.b 8)) (.c 2)) .e)) .e))))))) .c)))))
noncomputable def agq:bn:=⟨1,[],6,[],ab5⟩
noncomputable def ab1:a5:=(.b (.e (.b 3) (.q (.j (.c 0) .lD .e) (.g (.b (.i .hL)) (.d (.b (.c [97,116,111,109,105,99,95])) .e)) (.b .e))) (.b (.g (.j (.c 0) .gm (.d (.b (.c [40])) .e))) (.b (.g (.j (.c 0) .gm (.d (.b (.c [40])) .e))) (.b (.e (.e (.c (.b 4) (.c (.b 5) .d))) (.g (.b (.d 84)) (.d (.c 0) (.d (.b (.c [117])) .e)))) (.b (.g (.j (.c 0) .gm (.d (.b (.c [42])) .e))) (.b (.g (.j (.c 0) .gm (.d (.b (.c [41])) .e))) (.b (.g (.j (.c 0) .gm (.d (.b (.c [40])) .e))) (.b (.e (.e (.c (.b 6) (.c (.b 7) .d))) (.g (.b (.d 85)) (.d (.c 0) .e))) (.b (.g (.j (.c 0) .gm (.d (.b (.c [41])) .e))) (.b (.d (.g (.b (.d 94)) (.d (.c 0) (.d (.c 3) (.d (.c 5) (.d (.c 6) (.d (.c 7) (.d (.c 1) (.d (.c 2) .e))))))))) .c))))))))))
noncomputable def agm:bn:=⟨3,[],8,[],ab1⟩
noncomputable def abh:a5:=(.b (.g (.j (.c 0) .gm (.d (.b (.c [44])) .e))) (.b (.e (.b 7) (.j (.c 0) .l9 (.d (.c 6) .e))) (.b (.g (.j (.c 0) .gm (.d (.b (.c [41])) .e))) (.b (.f (.p .Or (.i .NotEq (.c 7) (.c 5)) (.i .NotEq (.f .Mult (.b (.b 8)) (.c 2)) (.c 6))) (.b (.g (.j (.c 0) .h1 (.d (.b (.c [110,111,32,97,116,111,109,105,99,32,100,101,101,100])) .e))) .c) .c) (.b (.d (.g (.b (.d 47)) (.d (.c 1) (.d (.c 2) (.d (.c 3) (.d (.c 4) (.d (.c 5) .e))))))) .c)))))
noncomputable def afE:bn:=⟨7,[],8,[],abh⟩
noncomputable def ab0:a5:=(.b (.e (.b 3) (.j (.c 0) .lD .e)) (.b (.e (.b 4) (.m (.i .Eq (.q (.c 3) (.b .e) (.b (.b 3))) (.b (.c [99,109,112]))) (.b (.c [99,109,112,120,99,104,103])) (.b (.c [120,99,104,103])))) (.b (.e (.b 5) (.m (.i .Eq (.q (.c 3) (.g (.b (.i .hL)) (.d (.c 4) .e)) (.b .e)) (.b (.c [95,54,52]))) (.b (.b 8)) (.b (.b 4)))) (.b (.g (.j (.c 0) .gm (.d (.b (.c [40])) .e))) (.b (.e (.e (.c (.b 6) (.c (.b 7) .d))) (.g (.b (.d 85)) (.d (.c 0) .e))) (.b (.f (.i .Eq (.c 4) (.b (.c [120,99,104,103]))) (.b (.d (.g (.b (.d 94)) (.d (.c 0) (.d (.c 4) (.d (.c 5) (.d (.c 6) (.d (.c 7) (.d (.c 1) (.d (.c 2) .e))))))))) .c) .c) (.b (.g (.j (.c 0) .gm (.d (.b (.c [44])) .e))) (.b (.f (.p .Or (.i .NotEq (.c 1) (.b (.b 0))) (.p .Or (.i .NotEq (.j (.c 0) .l9 (.d (.c 2) .e)) (.b (.b 0))) (.i .NotEq (.f .Mult (.b (.b 8)) (.c 5)) (.c 2)))) (.b (.g (.j (.c 0) .h1 (.d (.b (.c [99,109,112,120,99,104,103,32,103,111,101,115,32,98,121,32,114,48])) .e))) .c) .c) (.b (.g (.j (.c 0) .gm (.d (.b (.c [44])) .e))) (.b (.e (.b 8) (.j (.c 0) .l9 (.d (.c 2) .e))) (.b (.g (.j (.c 0) .gm (.d (.b (.c [41])) .e))) (.b (.d (.g (.b (.d 47)) (.d (.c 4) (.d (.c 5) (.d (.c 6) (.d (.c 7) (.d (.c 8) .e))))))) .c))))))))))))
noncomputable def agl:bn:=⟨3,[],9,[],ab0⟩
noncomputable def abX:a5:=(.b (.g (.j (.c 0) .gm (.d (.b (.c [40])) .e))) (.b (.e (.e (.c (.b 3) (.c (.b 4) .d))) (.g (.b (.d 84)) (.d (.c 0) (.d (.b (.c [115])) .e)))) (.b (.g (.j (.c 0) .gm (.d (.b (.c [41])) .e))) (.b (.e (.b 5) (.j (.c 0) .l9 (.d (.c 2) .e))) (.b (.f (.i .GtE (.f .Mult (.b (.b 8)) (.c 4)) (.c 2)) (.b (.g (.j (.c 0) .h1 (.d (.b (.c [110,111,32,110,97,114,114,111,119,101,114,32,119,105,100,116,104])) .e))) .c) .c) (.b (.d (.g (.b (.d 37)) (.d (.c 1) (.d (.c 5) (.d (.f .Mult (.b (.b 8)) (.c 4)) (.d (.c 2) .e)))))) .c))))))
noncomputable def agi:bn:=⟨3,[],6,[],abX⟩
noncomputable def ace:a5:=(.b (.e (.b 3) (.j (.c 0) .lD .e)) (.b (.f (.p .Or (.i .NotEq (.c 2) (.b (.b 64))) (.i .NotEq (.j (.c 0) .l9 (.d (.b (.b 64)) .e)) (.c 1))) (.b (.g (.j (.c 0) .h1 (.d (.b (.c [111,110,101,32,114,101,103,105,115,116,101,114,32,105,115,32,116,117,114,110,101,100,32,97,98,111,117,116])) .e))) .c) .c) (.b (.e (.b 4) (.m (.p .And (.i .Eq (.k (.c 3) (.b (.b 0))) (.b (.c [98]))) (.i .Eq (.k (.c 3) (.b (.b 1))) (.b (.c [115])))) (.b (.c [115,119,97,112])) (.q (.c 3) (.b .e) (.b (.b 2))))) (.b (.d (.g (.b (.d 36)) (.d (.c 4) (.d (.c 1) (.d (.g (.b (.i .rx)) (.d (.q (.c 3) (.t (.b (.b 2))) (.b .e)) .e)) .e))))) .c))))
noncomputable def agz:bn:=⟨3,[],5,[],ace⟩
noncomputable def ab8:a5:=(.b (.g (.j (.c 0) .gm (.d (.b (.c [45])) .e))) (.b (.f (.i .NotEq (.j (.c 0) .l9 (.d (.c 2) .e)) (.c 1)) (.b (.g (.j (.c 0) .h1 (.d (.b (.c [111,110,101,32,114,101,103,105,115,116,101,114,32,105,115,32,110,101,103,97,116,101,100])) .e))) .c) .c) (.b (.d (.g (.b (.d 35)) (.d (.c 1) (.d (.c 2) .e)))) .c)))
noncomputable def agt:bn:=⟨3,[],3,[],ab8⟩
noncomputable def ab6:a5:=(.b (.g (.j (.c 0) .gm (.d (.b (.c [109,97,112])) .e))) (.b (.e (.b 3) (.j (.c 0) .ob (.d (.b (.b 32)) .e))) (.b (.g (.j (.c 0) .gm (.d (.b (.c [108,108])) .e))) (.b (.f (.i .NotEq (.c 2) (.b (.b 64))) (.b (.g (.j (.c 0) .h1 (.d (.b (.c [97,32,109,97,112,32,116,97,107,101,115,32,54,52,32,98,105,116,115])) .e))) .c) .c) (.b (.d (.g (.b (.d 49)) (.d (.c 1) (.d (.c 3) .e)))) .c)))))
noncomputable def agr:bn:=⟨3,[],4,[],ab6⟩
noncomputable def abY:a5:=(.b (.e (.b 3) (.l (.c 0) .fj)) (.b (.e (.b 4) (.j (.c 0) .sE (.d (.b (.c [45])) .e))) (.b (.e (.b 5) (.j (.c 0) .z6 .e)) (.b (.f (.j (.c 0) .sE (.d (.b (.c [108,108])) .e)) (.b (.e (.b 5) (.m (.c 4) (.t (.c 5)) (.c 5))) (.b (.f (.p .Or (.i .NotEq (.c 2) (.b (.b 64))) (.p .Or (.i .GtE (.c 5) (.f .LShift (.b (.b 1)) (.b (.b 64)))) (.p .Or (.s (.g (.b (.d 5)) (.d (.c 5) (.d (.b (.b 65)) .e)))) (.i .Lt (.c 5) (.t (.f .LShift (.b (.b 1)) (.b (.b 63)))))))) (.b (.g (.j (.c 0) .h1 (.d (.b (.c [97,32,110,117,109,98,101,114,32,98,101,121,111,110,100,32,54,52,32,98,105,116,115])) .e))) .c) .c) (.b (.d (.g (.b (.d 48)) (.d (.c 1) (.d (.c 5) .e)))) .c))) .c) (.b (.e (.f (.c 0) .fj) (.c 3)) (.b (.d (.g (.b (.d 32)) (.d (.b (.c [109,111,118])) (.d (.c 1) (.d (.j (.c 0) .ob (.d (.b (.b 32)) .e)) (.d (.c 2) .e)))))) .c))))))
noncomputable def agj:bn:=⟨3,[],6,[],abY⟩
noncomputable def acc:a5:=(.b (.e (.b 3) (.j (.c 0) .i8 .e)) (.b (.f (.i .Eq (.c 3) (.b (.c [42]))) (.b (.e (.e (.c (.b 4) (.c (.b 5) (.c (.b 6) (.c (.b 7) .d))))) (.g (.b (.d 86)) (.d (.c 0) (.d (.b (.c [117,115])) .e)))) (.b (.f (.p .Or (.i .NotEq (.c 2) (.b (.b 64))) (.p .And (.i .Eq (.c 4) (.b (.c [115]))) (.i .Eq (.c 5) (.b (.b 8))))) (.b (.g (.j (.c 0) .h1 (.d (.b (.c [110,111,32,108,111,97,100])) .e))) .c) .c) (.b (.d (.m (.i .Eq (.c 4) (.b (.c [115]))) (.g (.b (.d 43)) (.d (.c 5) (.d (.c 1) (.d (.c 6) (.d (.c 7) .e))))) (.g (.b (.d 42)) (.d (.c 5) (.d (.c 1) (.d (.c 6) (.d (.c 7) .e))))))) .c))) .c) (.b (.f (.i .Eq (.c 3) (.b (.c [40]))) (.b (.d (.g (.b (.d 96)) (.d (.c 0) (.d (.c 1) (.d (.c 2) .e))))) .c) .c) (.b (.f (.p .And (.i .Eq (.c 3) (.b (.c [45]))) (.i .IsNot (.g (.b (.d 81)) (.d (.j (.c 0) .i8 (.d (.b (.b 1)) .e)) .e)) (.b .e))) (.b (.d (.g (.b (.d 98)) (.d (.c 0) (.d (.c 1) (.d (.c 2) .e))))) .c) .c) (.b (.f (.i .In (.c 3) (.j (.b (.c [108,101,49,54,32,108,101,51,50,32,108,101,54,52,32,98,101,49,54,32,98,101,51,50,32,98,101,54,52,32,98,115,119,97,112,49,54,32,98,115,119,97,112,51,50,32,98,115,119,97,112,54,52])) .k3 .e)) (.b (.d (.g (.b (.d 97)) (.d (.c 0) (.d (.c 1) (.d (.c 2) .e))))) .c) .c) (.b (.f (.i .In (.c 3) (.j (.b (.c [97,116,111,109,105,99,95,102,101,116,99,104,95,97,100,100,32,97,116,111,109,105,99,95,102,101,116,99,104,95,111,114,32,97,116,111,109,105,99,95,102,101,116,99,104,95,97,110,100,32,97,116,111,109,105,99,95,102,101,116,99,104,95,120,111,114])) .k3 .e)) (.b (.d (.g (.b (.d 93)) (.d (.c 0) (.d (.c 1) (.d (.c 2) .e))))) .c) .c) (.b (.f (.i .In (.c 3) (.n (.d (.b (.c [120,99,104,103,95,54,52])) (.d (.b (.c [120,99,104,103,51,50,95,51,50])) (.d (.b (.c [99,109,112,120,99,104,103,95,54,52])) (.d (.b (.c [99,109,112,120,99,104,103,51,50,95,51,50])) .e)))))) (.b (.d (.g (.b (.d 95)) (.d (.c 0) (.d (.c 1) (.d (.c 2) .e))))) .c) .c) (.b (.f (.i .Eq (.c 3) (.b (.c [109,97,112]))) (.b (.d (.g (.b (.d 99)) (.d (.c 0) (.d (.c 1) (.d (.c 2) .e))))) .c) .c) (.b (.f (.i .IsNot (.g (.b (.d 81)) (.d (.c 3) .e)) (.b .e)) (.b (.d (.g (.b (.d 31)) (.d (.b (.c [109,111,118])) (.d (.c 1) (.d (.j (.c 0) .l9 (.d (.c 2) .e)) (.d (.c 2) .e)))))) .c) .c) (.b (.d (.g (.b (.d 100)) (.d (.c 0) (.d (.c 1) (.d (.c 2) .e))))) .c))))))))))
noncomputable def agx:bn:=⟨3,[],8,[],acc⟩
noncomputable def abZ:a5:=(.b (.e (.e (.c (.b 1) (.c (.b 2) .d))) (.j (.c 0) .wE .e)) (.b (.e (.b 3) (.j (.c 0) .lD .e)) (.b (.f (.i .Eq (.c 3) (.b (.c [61]))) (.b (.d (.g (.b (.d 101)) (.d (.c 0) (.d (.c 1) (.d (.c 2) .e))))) .c) .c) (.b (.e (.b 4) (.i .In (.c 3) (.n (.d (.b (.c [115,47,61])) (.d (.b (.c [115,37,61])) .e))))) (.b (.e (.b 5) (.j (.g (.b (.d 83)) (.d (.g (.b (.d 54)) .e) .e)) .oa (.d (.m (.c 4) (.q (.c 3) (.b (.b 1)) (.b .e)) (.c 3)) (.d (.b (.c [])) .e)))) (.b (.f (.i .Eq (.c 5) (.b (.c []))) (.b (.g (.j (.c 0) .h1 (.d (.b (.c [119,97,110,116,101,100,32,97,32,100,101,101,100])) .e))) .c) .c) (.b (.e (.b 6) (.i .IsNot (.g (.b (.d 81)) (.d (.j (.c 0) .i8 .e) .e)) (.b .e))) (.b (.e (.b 7) (.m (.c 6) (.j (.c 0) .l9 (.d (.c 2) .e)) (.j (.c 0) .ob (.d (.b (.b 32)) .e)))) (.b (.f (.c 4) (.b (.d (.m (.c 6) (.g (.b (.d 33)) (.d (.c 5) (.d (.c 1) (.d (.c 7) (.d (.c 2) .e))))) (.g (.b (.d 34)) (.d (.c 5) (.d (.c 1) (.d (.c 7) (.d (.c 2) .e))))))) .c) .c) (.b (.d (.m (.c 6) (.g (.b (.d 31)) (.d (.c 5) (.d (.c 1) (.d (.c 7) (.d (.c 2) .e))))) (.g (.b (.d 32)) (.d (.c 5) (.d (.c 1) (.d (.c 7) (.d (.c 2) .e))))))) .c))))))))))
noncomputable def agk:bn:=⟨1,[],8,[],abZ⟩
noncomputable def acg:a5:=(.b (.e (.b 1) (.j (.c 0) .i8 .e)) (.b (.e (.b 2) (.b .e)) (.b (.f (.i .In (.c 1) (.n (.d (.b (.c [103,111,116,111])) (.d (.b (.c [103,111,116,111,108])) .e)))) (.b (.e (.b 2) (.g (.b (.d 88)) (.d (.c 0) .e))) .c) (.b (.f (.i .Eq (.c 1) (.b (.c [105,102]))) (.b (.e (.b 2) (.g (.b (.d 89)) (.d (.c 0) .e))) .c) (.b (.f (.i .Eq (.c 1) (.b (.c [99,97,108,108]))) (.b (.e (.b 2) (.g (.b (.d 90)) (.d (.c 0) .e))) .c) (.b (.f (.i .Eq (.c 1) (.b (.c [101,120,105,116]))) (.b (.g (.j (.c 0) .lD .e)) (.b (.e (.b 2) (.n (.d (.g (.b (.d 52)) .e) (.d (.b (.c [])) .e)))) .c)) (.b (.f (.i .Eq (.c 1) (.b (.c [108,111,99,107]))) (.b (.e (.b 2) (.n (.d (.g (.b (.d 92)) (.d (.c 0) .e)) (.d (.b (.c [])) .e)))) .c) (.b (.f (.i .Eq (.c 1) (.b (.c [42]))) (.b (.e (.b 2) (.n (.d (.g (.b (.d 91)) (.d (.c 0) .e)) (.d (.b (.c [])) .e)))) .c) (.b (.e (.b 2) (.n (.d (.g (.b (.d 102)) (.d (.c 0) .e)) (.d (.b (.c [])) .e)))) .c)) .c)) .c)) .c)) .c)) .c)) (.b (.g (.j (.c 0) .Dp .e)) (.b (.d (.c 2)) .c)))))
noncomputable def agB:bn:=⟨1,[],3,[],acg⟩
noncomputable def ab9:a5:=(.b (.e (.e (.c (.b 1) (.c (.b 2) .d))) (.g (.b (.d 103)) (.d (.g (.b (.d 80)) (.d (.g (.b (.d 78)) (.d (.g (.b (.d 79)) (.d (.c 0) .e)) (.d (.b .e) .e))) (.d (.b .e) .e))) .e))) (.b (.f (.i .NotEq (.c 2) (.b (.c []))) (.b (.l (.d (.b (.c [97,32,108,97,98,101,108,32,119,105,116,104,111,117,116,32,97,32,112,114,111,103,114,97,109])) .e)) .c) .c) (.b (.d (.c 1)) .c)))
noncomputable def agu:bn:=⟨1,[],3,[],ab9⟩
noncomputable def acB:a5:=(.b (.f (.i .In (.l (.c 0) .gI) (.n (.d (.b (.b 6)) (.d (.b (.b 133)) .e)))) (.b (.d (.m (.i .Eq (.l (.c 0) .gI) (.b (.b 6))) (.g (.b (.d 39)) (.d (.c 1) .e)) (.g (.b (.d 51)) (.d (.c 1) .e)))) .c) .c) (.b (.f (.s (.g (.b (.d 5)) (.d (.c 1) (.d (.b (.b 16)) .e)))) (.b (.l (.d (.b (.c [116,111,111,32,102,97,114])) (.d (.c 2) .e))) .c) .c) (.b (.f (.i .Eq (.l (.c 0) .gI) (.b (.b 5))) (.b (.d (.g (.b (.d 38)) (.d (.c 1) .e))) .c) .c) (.b (.e (.b 3) (.m (.i .Eq (.f .BitAnd (.l (.c 0) .gI) (.b (.b 7))) (.b (.b 6))) (.b (.b 32)) (.b (.b 64)))) (.b (.e (.b 4) (.k (.g (.b (.d 107)) .e) (.f .RShift (.l (.c 0) .gI) (.b (.b 4))))) (.b (.f (.f .BitAnd (.l (.c 0) .gI) (.b (.b 8))) (.b (.d (.g (.b (.d 40)) (.d (.c 4) (.d (.l (.c 0) .l8) (.d (.l (.c 0) .l_) (.d (.c 1) (.d (.c 3) .e))))))) .c) .c) (.b (.d (.g (.b (.d 41)) (.d (.c 4) (.d (.l (.c 0) .l8) (.d (.l (.c 0) .kB) (.d (.c 1) (.d (.c 3) .e))))))) .c)))))))
noncomputable def agV:bn:=⟨3,[],5,[],acB⟩
noncomputable def abC:a5:=(.b (.d (.j (.b (.c [106,97,32,101,113,32,103,116,32,103,101,32,115,101,116,32,110,101,32,115,103,116,32,115,103,101,32,99,97,108,108,32,101,120,105,116,32,108,116,32,108,101,32,115,108,116,32,115,108,101])) .k3 .e)) .c)
noncomputable def afY:bn:=⟨0,[],0,[],abC⟩
noncomputable def ao3:a5:=(.b (.g (.j (.c 0) .Dq (.d (.j (.c 3) .lD .e) (.d (.c 2) .e)))) (.b (.g (.j (.c 3) .gm (.d (.b (.c [58])) .e))) .c))
noncomputable def ac7:aZ:=(.p .And (.g (.b (.d 74)) (.d (.j (.c 3) .i8 .e) .e)) (.i .Eq (.j (.c 3) .i8 (.d (.b (.b 1)) .e)) (.b (.c [58]))))
noncomputable def ab4:a5:=(.b (.e (.b 3) (.g (.b (.d 80)) (.d (.g (.b (.d 78)) (.d (.g (.b (.d 79)) (.d (.c 1) .e)) (.d (.c 2) .e))) (.d (.c 2) .e)))) (.b (.k ac7 ao3) (.b (.f (.i .NotEq (.j (.c 3) .i8 .e) (.b (.c []))) (.b (.e (.e (.c (.b 4) (.c (.b 5) .d))) (.g (.b (.d 103)) (.d (.c 3) .e))) (.b (.g (.j (.c 0) .Dn (.d (.c 4) (.d (.c 5) (.d (.c 2) .e))))) .c)) .c) .c)))
noncomputable def agp:bn:=⟨3,[],6,[],ab4⟩
noncomputable def ahm:aZ:=(.j (.v 0) .Dr (.d (.c 0) .e))
noncomputable def ao4:a5:=(.b (.g (.g (.b (.d 108)) (.d (.v 0) (.d (.c 3) (.d (.f .Add (.c 2) (.b (.b 1))) .e))))) .c)
noncomputable def acb:a5:=(.b (.e (.b 1) (.m (.g (.b (.i .wG)) (.d (.c 0) (.d (.b (.i .f5)) .e))) (.j (.c 0) .k3 (.d (.b (.c [10])) .e)) (.c 0))) (.b (.e (.i 0) (.g (.b (.d 105)) .e)) (.b (.i I (.e (.c (.b 2) (.c (.b 3) .d))) (.c 1) ao4) (.b (.d (.u ahm (.b (.g I)) (.g (.b (.i .qm)) (.d (.g (.b (.i .hL)) (.d (.l (.v 0) .uq) .e)) .e)) C)) .c))))
noncomputable def agw:bn:=⟨1,[],4,[U],acb⟩
noncomputable def aaK:a5:=(.b (.f (.i .Lt (.c 1) (.g (.b (.i .hL)) (.d (.c 0) .e))) (.b (.d (.f .Mod (.k (.c 0) (.c 1)) (.f .LShift (.b (.b 1)) (.b (.b 64))))) .c) .c) (.b (.d (.f .Mod (.f .Add (.f .Add (.f .Add (.f .Mult (.f .Mult (.b (.b 7129)) (.c 1)) (.c 1)) (.f .Mult (.b (.b 90031)) (.c 1))) (.f .Mult (.b (.b 67)) (.g (.b (.i .hL)) (.d (.c 0) .e)))) (.b (.b 17))) (.b (.b 65063)))) .c))
noncomputable def ae8:bn:=⟨2,[],2,[],aaK⟩
noncomputable def ahl:aZ:=(.j (.c 0) .k3 (.d (.b (.c [32])) .e))
noncomputable def aaS:a5:=(.b (.e (.b 0) (.b (.c [40,32,114,32,126,49,54,32,41]))) (.b (.e (.b 1) (.r (.d (.b (.c [97,108,117,32,114,32,65,32,114])) (.d (.b (.c [97,108,117,32,119,32,65,32,119])) (.d (.b (.c [97,108,105,32,114,32,65,32,35,51,50])) (.d (.b (.c [97,108,105,32,119,32,65,32,35,51,50])) (.d (.b (.c [110,101,103,32,114,32,61,32,45,32,114])) (.d (.b (.c [110,101,103,32,119,32,61,32,45,32,119])) (.d (.b (.c [101,110,100,32,114,32,61,32,79,32,114])) (.d (.b (.c [115,120,32,114,32,61,32,40,32,115,32,41,32,114])) (.d (.b (.c [115,120,32,119,32,61,32,40,32,115,32,41,32,119])) .e))))))))))) (.b (.e (.b 1) (.f .Add (.c 1) (.r (.d (.f .Add (.b (.c [108,100,117,32,114,32,61,32,42,32,40,32,117,32,42,32,41,32])) (.c 0)) (.d (.f .Add (.b (.c [108,100,115,32,114,32,61,32,42,32,40,32,115,32,42,32,41,32])) (.c 0)) (.d (.f .Add (.f .Add (.b (.c [115,116,120,32,42,32,40,32,117,32,42,32,41,32])) (.c 0)) (.b (.c [32,61,32,114]))) (.d (.f .Add (.f .Add (.b (.c [115,116,105,32,42,32,40,32,117,32,42,32,41,32])) (.c 0)) (.b (.c [32,61,32,35,51,50]))) .e))))))) (.b (.e (.b 1) (.f .Add (.c 1) (.r (.d (.f .Add (.f .Add (.b (.c [108,111,99,107,32,108,111,99,107,32,42,32,40,32,117,32,42,32,41,32])) (.c 0)) (.b (.c [32,76,32,114]))) (.d (.f .Add (.f .Add (.b (.c [108,111,99,107,32,108,111,99,107,32,42,32,40,32,117,32,42,32,41,32])) (.c 0)) (.b (.c [32,76,32,119]))) .e))))) (.b (.e (.b 1) (.f .Add (.c 1) (.r (.d (.f .Add (.f .Add (.b (.c [102,101,116,99,104,32,114,32,61,32,70,32,40,32,40,32,117,32,42,32,41,32])) (.c 0)) (.b (.c [32,44,32,114,32,41]))) (.d (.f .Add (.f .Add (.b (.c [102,101,116,99,104,32,119,32,61,32,70,32,40,32,40,32,117,32,42,32,41,32])) (.c 0)) (.b (.c [32,44,32,119,32,41]))) .e))))) (.b (.e (.b 1) (.f .Add (.c 1) (.r (.d (.b (.c [120,99,104,103,32,114,32,61,32,120,99,104,103,95,54,52,32,40,32,114,32,126,49,54,32,44,32,114,32,41])) (.d (.b (.c [120,99,104,103,32,119,32,61,32,120,99,104,103,51,50,95,51,50,32,40,32,114,32,126,49,54,32,44,32,119,32,41])) .e))))) (.b (.e (.b 1) (.f .Add (.c 1) (.r (.d (.b (.c [99,109,112,32,114,32,61,32,99,109,112,120,99,104,103,95,54,52,32,40,32,114,32,126,49,54,32,44,32,114,32,44,32,114,32,41])) (.d (.b (.c [99,109,112,32,119,32,61,32,99,109,112,120,99,104,103,51,50,95,51,50,32,40,32,114,32,126,49,54,32,44,32,119,32,44,32,119,32,41])) .e))))) (.b (.e (.b 1) (.f .Add (.c 1) (.r (.d (.b (.c [119,105,100,101,32,114,32,61,32,35,54,52,32,108,108])) (.d (.b (.c [109,97,112,32,114,32,61,32,109,97,112,32,35,51,50,32,108,108])) (.d (.b (.c [99,97,108,108,32,99,97,108,108,32,35,51,50])) (.d (.b (.c [108,111,99,97,108,32,99,97,108,108,32,112,99,32,126,51,50])) (.d (.b (.c [101,120,105,116,32,101,120,105,116])) (.d (.b (.c [103,111,116,111,32,103,111,116,111,32,126,49,54])) (.d (.b (.c [103,111,116,111,108,32,103,111,116,111,108,32,126,51,50])) .e)))))))))) (.b (.e (.b 1) (.f .Add (.c 1) (.r (.d (.b (.c [105,102,114,32,105,102,32,114,32,67,32,114,32,103,111,116,111,32,126,49,54])) (.d (.b (.c [105,102,114,32,105,102,32,119,32,67,32,119,32,103,111,116,111,32,126,49,54])) (.d (.b (.c [105,102,105,32,105,102,32,114,32,67,32,35,51,50,32,103,111,116,111,32,126,49,54])) (.d (.b (.c [105,102,105,32,105,102,32,119,32,67,32,35,51,50,32,103,111,116,111,32,126,49,54])) .e))))))) (.b (.d (.u ahl (.b (.g I)) (.c 1) C)) .c))))))))))
noncomputable def afg:bn:=⟨0,[],2,[],aaS⟩
noncomputable def aaO:a5:=(.b (.e (.b 1) (.x (.d (.b (.c [65])) (.d (.b (.c [43,61,32,45,61,32,42,61,32,47,61,32,124,61,32,38,61,32,60,60,61,32,62,62,61,32,46,32,37,61,32,94,61,32,61,32,115,62,62,61,32,46,32,46,32,115,47,61,32,115,37,61])) (.d (.b (.c [79])) (.d (.b (.c [108,101,49,54,32,108,101,51,50,32,108,101,54,52,32,98,101,49,54,32,98,101,51,50,32,98,101,54,52,32,98,115,119,97,112,49,54,32,98,115,119,97,112,51,50,32,98,115,119,97,112,54,52])) .e)))))) (.b (.e (.g (.c 1) (.b (.c [76]))) (.b (.c [43,61,32,46,32,46,32,46,32,124,61,32,38,61,32,46,32,46,32,46,32,46,32,94,61]))) (.b (.e (.g (.c 1) (.b (.c [70]))) (.b (.c [97,116,111,109,105,99,95,102,101,116,99,104,95,97,100,100,32,46,32,46,32,46,32,97,116,111,109,105,99,95,102,101,116,99,104,95,111,114,32,97,116,111,109,105,99,95,102,101,116,99,104,95,97,110,100,32,46,32,46,32,46,32,46,32,97,116,111,109,105,99,95,102,101,116,99,104,95,120,111,114]))) (.b (.e (.g (.c 1) (.b (.c [67]))) (.b (.c [46,32,61,61,32,62,32,62,61,32,38,32,33,61,32,115,62,32,115,62,61,32,46,32,46,32,60,32,60,61,32,115,60,32,115,60,61]))) (.b (.p (.c (.g (.c 1) (.b (.c [117]))) (.c (.g (.c 1) (.b (.c [115]))) .d)) (.d (.b (.c [117,56,32,117,49,54,32,117,51,50,32,117,54,52])) (.d (.b (.c [115,56,32,115,49,54,32,115,51,50])) .e))) (.b (.d (.m (.i .In (.c 0) (.c 1)) (.j (.k (.c 1) (.c 0)) .k3 (.d (.b (.c [32])) .e)) (.r .e))) .c))))))
noncomputable def afc:bn:=⟨1,[],2,[],aaO⟩
noncomputable def ahk:aZ:=(.f .Add (.v 0) (.g (.b (.i .f5)) (.d (.c 0) .e)))
noncomputable def aaR:a5:=(.b (.e (.b 1) (.u ahk (.b (.g I)) (.g (.b (.i .qm)) (.d (.b (.b 11)) .e)) C)) (.b (.d (.m (.i .In (.c 0) (.c 1)) (.j (.c 1) .lC (.d (.c 0) .e)) (.t (.b (.b 1))))) .c))
noncomputable def aff:bn:=⟨2,[],2,[o 1],aaR⟩
noncomputable def Fo:a5:=(.b (.f (.i .NotIn (.c 4) (.q (.b (.c [48,49,50,51,52,53,54,55,56,57,97,98,99,100,101,102])) (.b .e) (.c 1))) (.b (.d (.t (.b (.b 1)))) .c) .c) (.b (.e (.b 3) (.f .Add (.f .Mult (.c 1) (.c 3)) (.j (.b (.c [48,49,50,51,52,53,54,55,56,57,97,98,99,100,101,102])) .lC (.d (.c 4) .e)))) .c))
noncomputable def aaQ:a5:=(.b (.j (.c (.b 3) (.c (.b 2) (.c (.b 1) .d))) (.d (.b (.b 10)) (.d (.c 0) (.d (.b (.b 0)) .e)))) (.b (.f (.i .Eq (.q (.c 0) (.b .e) (.b (.b 2))) (.b (.c [48,120]))) (.b (.j (.c (.b 2) (.c (.b 1) .d)) (.d (.b (.b 16)) (.d (.q (.c 0) (.b (.b 2)) (.b .e)) .e))) .c) .c) (.b (.f (.i .Eq (.c 2) (.b (.c []))) (.b (.d (.t (.b (.b 1)))) .c) .c) (.b (.i C (.b 4) (.c 2) Fo) (.b (.d (.c 3)) .c)))))
noncomputable def afe:bn:=⟨1,[],5,[],aaQ⟩
noncomputable def aaJ:a5:=(.b (.f (.i .Eq (.q (.c 0) (.b (.b 1)) (.b .e)) (.b (.c [54,52]))) (.b (.d (.n (.d (.f .Sub (.b (.b 0)) (.f .LShift (.b (.b 1)) (.b (.b 63)))) (.d (.f .Sub (.f .LShift (.b (.b 1)) (.b (.b 64))) (.b (.b 1))) .e)))) .c) .c) (.b (.d (.m (.i .Eq (.q (.c 0) (.b (.b 1)) (.b .e)) (.b (.c [49,54]))) (.n (.d (.f .Sub (.b (.b 0)) (.f .LShift (.b (.b 1)) (.b (.b 15)))) (.d (.f .Sub (.f .LShift (.b (.b 1)) (.b (.b 15))) (.b (.b 1))) .e))) (.n (.d (.f .Sub (.b (.b 0)) (.f .LShift (.b (.b 1)) (.b (.b 31)))) (.d (.f .Sub (.f .LShift (.b (.b 1)) (.b (.b 31))) (.b (.b 1))) .e))))) .c))
noncomputable def ae7:bn:=⟨1,[],1,[],aaJ⟩
noncomputable def aaT:a5:=(.b (.e (.b 2) (.m (.i .NotEq (.c 0) (.r .e)) (.k (.c 0) (.b (.b 0))) (.b (.c [])))) (.b (.e (.b 3) (.m (.i .In (.c 2) (.n (.d (.b (.c [43])) (.d (.b (.c [45])) .e)))) (.c 2) (.b (.c [])))) (.b (.f (.p .Or (.p .And (.i .Eq (.c 3) (.b (.c []))) (.i .Eq (.k (.c 1) (.b (.b 0))) (.b (.c [126])))) (.p .And (.i .Eq (.c 3) (.b (.c [43]))) (.i .Eq (.c 1) (.b (.c [35,54,52]))))) (.b (.d (.n (.d (.b (.b 0)) (.d (.b (.b 0)) .e)))) .c) .c) (.b (.e (.b 4) (.m (.i .NotEq (.c 3) (.b (.c []))) (.q (.c 0) (.b (.b 1)) (.b .e)) (.c 0))) (.b (.e (.b 5) (.m (.i .NotEq (.c 4) (.r .e)) (.g (.b (.d 114)) (.d (.k (.c 4) (.b (.b 0))) .e)) (.t (.b (.b 1))))) (.b (.f (.i .Lt (.c 5) (.b (.b 0))) (.b (.d (.n (.d (.b (.b 0)) (.d (.b (.b 0)) .e)))) .c) .c) (.b (.e (.b 5) (.m (.i .Eq (.c 3) (.b (.c [45]))) (.f .Sub (.b (.b 0)) (.c 5)) (.c 5))) (.b (.e (.e (.c (.b 6) (.c (.b 7) .d))) (.g (.b (.d 115)) (.d (.c 1) .e))) (.b (.d (.m (.z (.c 6) .LtE (.c 5) .LtE (.c 7)) (.n (.d (.c 5) (.d (.f .Add (.b (.b 1)) (.g (.b (.i .rx)) (.d (.i .NotEq (.c 3) (.b (.c []))) .e))) .e))) (.n (.d (.b (.b 0)) (.d (.b (.b 0)) .e))))) .c)))))))))
noncomputable def afh:bn:=⟨2,[],8,[],aaT⟩
noncomputable def Fp:a5:=(.b (.f (.i .In (.k (.c 3) (.b (.b 0))) (.b (.c [35,126]))) (.b (.e (.e (.c (.b 4) (.c (.b 5) .d))) (.g (.b (.d 116)) (.d (.c 0) (.d (.c 3) .e)))) (.b (.f (.i .Eq (.c 5) (.b (.b 0))) (.b (.d (.b .e)) .c) .c) (.b (.g (.j (.c 2) .jE (.d (.c 4) .e))) (.b (.e (.b 0) (.q (.c 0) (.c 5) (.b .e))) (.b .n .c))))) .c) (.b (.e (.b 6) (.m (.i .NotEq (.c 0) (.r .e)) (.k (.c 0) (.b (.b 0))) (.b (.c [])))) (.b (.e (.b 7) (.g (.b (.d 112)) (.d (.c 3) .e))) (.b (.f (.i .In (.c 3) (.n (.d (.b (.c [114])) (.d (.b (.c [119])) .e)))) (.b (.g (.j (.c 2) .jE (.d (.g (.b (.d 113)) (.d (.c 6) (.d (.c 3) .e))) .e))) (.b (.f (.i .Lt (.k (.c 2) (.t (.b (.b 1)))) (.b (.b 0))) (.b (.d (.b .e)) .c) .c) .c)) (.b (.f (.i .NotEq (.c 7) (.r .e)) (.b (.f (.p .Or (.i .Eq (.c 6) (.b (.c [46]))) (.i .NotIn (.c 6) (.c 7))) (.b (.d (.b .e)) .c) .c) (.b (.g (.j (.c 2) .jE (.d (.j (.c 7) .lC (.d (.c 6) .e)) .e))) .c)) (.b (.f (.i .NotEq (.c 6) (.c 3)) (.b (.d (.b .e)) .c) .c) .c)) .c)) (.b (.e (.b 0) (.q (.c 0) (.b (.b 1)) (.b .e))) .c)))))
noncomputable def aaV:a5:=(.b (.e (.b 2) .w) (.b (.i C (.b 3) (.c 1) Fp) (.b (.d (.m (.i .Eq (.c 0) (.r .e)) (.c 2) (.b .e))) .c)))
noncomputable def afj:bn:=⟨2,[],8,[],aaV⟩
noncomputable def ahi:aZ:=(.m (.i .GtE (.c 0) (.f .LShift (.b (.b 1)) (.b (.b 31)))) (.f .Sub (.c 0) (.f .LShift (.b (.b 1)) (.b (.b 32)))) (.c 0))
noncomputable def aaM:a5:=(.b (.j (.c (.b 5) (.c (.b 4) (.c (.b 3) .d))) (.d (.m (.i .Eq (.c 1) (.b (.b 64))) (.b (.b 7)) (.b (.b 4))) (.d (.m (.i .Eq (.c 1) (.b (.b 64))) (.b (.b 24)) (.b (.b 0))) (.d (.r (.d (.b (.b 16)) (.d (.b (.b 8)) (.d (.b (.b 0)) (.d (.b (.b 24)) .e))))) .e)))) (.b (.f (.i .In (.c 0) (.n (.d (.b (.c [97,108,117])) (.d (.b (.c [97,108,105])) .e)))) (.b (.e (.e (.c (.b 6) (.c (.b 7) .d))) (.m (.i .Lt (.k (.c 2) (.b (.b 1))) (.b (.b 14))) (.n (.d (.k (.c 2) (.b (.b 1))) (.d (.b (.b 0)) .e))) (.n (.d (.k (.r (.d (.b (.b 3)) (.d (.b (.b 9)) .e))) (.f .Sub (.k (.c 2) (.b (.b 1))) (.b (.b 15)))) (.d (.b (.b 1)) .e))))) (.b (.d (.m (.i .Eq (.c 0) (.b (.c [97,108,117]))) (.n (.d (.f .Add (.f .Add (.f .Mult (.b (.b 16)) (.c 6)) (.b (.b 8))) (.c 3)) (.d (.k (.c 2) (.b (.b 0))) (.d (.k (.c 2) (.b (.b 2))) (.d (.c 7) (.d (.b (.b 0)) (.d (.b (.b 0)) .e))))))) (.n (.d (.f .Add (.f .Mult (.b (.b 16)) (.c 6)) (.c 3)) (.d (.k (.c 2) (.b (.b 0))) (.d (.b (.b 0)) (.d (.c 7) (.d (.k (.c 2) (.b (.b 2))) (.d (.b (.b 0)) .e))))))))) .c)) .c) (.b (.f (.i .Eq (.c 0) (.b (.c [110,101,103]))) (.b (.d (.m (.i .Eq (.k (.c 2) (.b (.b 0))) (.k (.c 2) (.b (.b 1)))) (.n (.d (.f .Add (.b (.b 128)) (.c 3)) (.d (.k (.c 2) (.b (.b 0))) (.d (.b (.b 0)) (.d (.b (.b 0)) (.d (.b (.b 0)) (.d (.b (.b 0)) .e))))))) (.b .e))) .c) .c) (.b (.f (.i .Eq (.c 0) (.b (.c [101,110,100]))) (.b (.d (.m (.i .Eq (.k (.c 2) (.b (.b 0))) (.k (.c 2) (.b (.b 2)))) (.n (.d (.k (.r (.d (.b (.b 212)) (.d (.b (.b 220)) (.d (.b (.b 215)) .e)))) (.f .FloorDiv (.k (.c 2) (.b (.b 1))) (.b (.b 3)))) (.d (.k (.c 2) (.b (.b 0))) (.d (.b (.b 0)) (.d (.b (.b 0)) (.d (.k (.r (.d (.b (.b 16)) (.d (.b (.b 32)) (.d (.b (.b 64)) .e)))) (.f .Mod (.k (.c 2) (.b (.b 1))) (.b (.b 3)))) (.d (.b (.b 0)) .e))))))) (.b .e))) .c) .c) (.b (.f (.i .Eq (.c 0) (.b (.c [115,120]))) (.b (.d (.m (.p .Or (.i .Eq (.c 1) (.b (.b 64))) (.i .Lt (.k (.c 2) (.b (.b 1))) (.b (.b 2)))) (.n (.d (.f .Add (.b (.b 184)) (.c 3)) (.d (.k (.c 2) (.b (.b 0))) (.d (.k (.c 2) (.b (.b 2))) (.d (.k (.r (.d (.b (.b 8)) (.d (.b (.b 16)) (.d (.b (.b 32)) .e)))) (.k (.c 2) (.b (.b 1)))) (.d (.b (.b 0)) (.d (.b (.b 0)) .e))))))) (.b .e))) .c) .c) (.b (.f (.i .In (.c 0) (.n (.d (.b (.c [108,100,117])) (.d (.b (.c [108,100,115])) .e)))) (.b (.d (.n (.d (.f .Add (.m (.i .Eq (.c 0) (.b (.c [108,100,117]))) (.b (.b 97)) (.b (.b 129))) (.k (.c 5) (.k (.c 2) (.b (.b 1))))) (.d (.k (.c 2) (.b (.b 0))) (.d (.k (.c 2) (.b (.b 2))) (.d (.k (.c 2) (.b (.b 3))) (.d (.b (.b 0)) (.d (.b (.b 0)) .e)))))))) .c) .c) (.b (.f (.i .Eq (.c 0) (.b (.c [115,116,120]))) (.b (.d (.n (.d (.f .Add (.b (.b 99)) (.k (.c 5) (.k (.c 2) (.b (.b 0))))) (.d (.k (.c 2) (.b (.b 1))) (.d (.k (.c 2) (.b (.b 3))) (.d (.k (.c 2) (.b (.b 2))) (.d (.b (.b 0)) (.d (.b (.b 0)) .e)))))))) .c) .c) (.b (.f (.i .Eq (.c 0) (.b (.c [115,116,105]))) (.b (.d (.n (.d (.f .Add (.b (.b 98)) (.k (.c 5) (.k (.c 2) (.b (.b 0))))) (.d (.k (.c 2) (.b (.b 1))) (.d (.b (.b 0)) (.d (.k (.c 2) (.b (.b 2))) (.d (.k (.c 2) (.b (.b 3))) (.d (.b (.b 0)) .e)))))))) .c) .c) (.b (.f (.i .Eq (.c 0) (.b (.c [108,111,99,107]))) (.b (.d (.m (.i .Eq (.k (.c 2) (.b (.b 0))) (.m (.i .Eq (.c 1) (.b (.b 64))) (.b (.b 3)) (.b (.b 2)))) (.n (.d (.f .Add (.b (.b 195)) (.c 4)) (.d (.k (.c 2) (.b (.b 1))) (.d (.k (.c 2) (.b (.b 4))) (.d (.k (.c 2) (.b (.b 2))) (.d (.f .Mult (.b (.b 16)) (.k (.c 2) (.b (.b 3)))) (.d (.b (.b 0)) .e))))))) (.b .e))) .c) .c) (.b (.f (.i .Eq (.c 0) (.b (.c [102,101,116,99,104]))) (.b (.e (.b 8) (.p .And (.i .Eq (.k (.c 2) (.b (.b 0))) (.k (.c 2) (.b (.b 5)))) (.i .Eq (.k (.c 2) (.b (.b 2))) (.m (.i .Eq (.c 1) (.b (.b 64))) (.b (.b 3)) (.b (.b 2)))))) (.b (.d (.m (.c 8) (.n (.d (.f .Add (.b (.b 195)) (.c 4)) (.d (.k (.c 2) (.b (.b 3))) (.d (.k (.c 2) (.b (.b 0))) (.d (.k (.c 2) (.b (.b 4))) (.d (.f .Add (.f .Mult (.b (.b 16)) (.k (.c 2) (.b (.b 1)))) (.b (.b 1))) (.d (.b (.b 0)) .e))))))) (.b .e))) .c)) .c) (.b (.f (.i .Eq (.c 0) (.b (.c [120,99,104,103]))) (.b (.d (.m (.i .Eq (.k (.c 2) (.b (.b 0))) (.k (.c 2) (.b (.b 3)))) (.n (.d (.f .Add (.b (.b 195)) (.c 4)) (.d (.k (.c 2) (.b (.b 1))) (.d (.k (.c 2) (.b (.b 0))) (.d (.k (.c 2) (.b (.b 2))) (.d (.b (.b 225)) (.d (.b (.b 0)) .e))))))) (.b .e))) .c) .c) (.b (.f (.i .Eq (.c 0) (.b (.c [99,109,112]))) (.b (.d (.m (.p .And (.i .Eq (.k (.c 2) (.b (.b 0))) (.b (.b 0))) (.i .Eq (.k (.c 2) (.b (.b 3))) (.b (.b 0)))) (.n (.d (.f .Add (.b (.b 195)) (.c 4)) (.d (.k (.c 2) (.b (.b 1))) (.d (.k (.c 2) (.b (.b 4))) (.d (.k (.c 2) (.b (.b 2))) (.d (.b (.b 241)) (.d (.b (.b 0)) .e))))))) (.b .e))) .c) .c) (.b (.f (.i .Eq (.c 0) (.b (.c [119,105,100,101]))) (.b (.j (.c (.b 10) (.c (.b 9) .d)) (.d (.f .Mod (.k (.c 2) (.b (.b 1))) (.f .LShift (.b (.b 1)) (.b (.b 32)))) (.d (.f .Mod (.f .FloorDiv (.k (.c 2) (.b (.b 1))) (.f .LShift (.b (.b 1)) (.b (.b 32)))) (.f .LShift (.b (.b 1)) (.b (.b 32)))) .e))) (.b (.e (.b 11) (.u ahi (.b (.g I)) (.n (.d (.c 9) (.d (.c 10) .e))) C)) (.b (.d (.n (.d (.b (.b 24)) (.d (.k (.c 2) (.b (.b 0))) (.d (.b (.b 0)) (.d (.b (.b 0)) (.d (.k (.c 11) (.b (.b 0))) (.d (.k (.c 11) (.b (.b 1))) .e)))))))) .c))) .c) (.b (.f (.i .Eq (.c 0) (.b (.c [109,97,112]))) (.b (.d (.n (.d (.b (.b 24)) (.d (.k (.c 2) (.b (.b 0))) (.d (.b (.b 1)) (.d (.b (.b 0)) (.d (.k (.c 2) (.b (.b 1))) (.d (.b (.b 0)) .e)))))))) .c) .c) (.b (.f (.i .In (.c 0) (.n (.d (.b (.c [99,97,108,108])) (.d (.b (.c [108,111,99,97,108])) .e)))) (.b (.d (.n (.d (.b (.b 133)) (.d (.b (.b 0)) (.d (.g (.b (.i .rx)) (.d (.i .Eq (.c 0) (.b (.c [108,111,99,97,108]))) .e)) (.d (.b (.b 0)) (.d (.k (.c 2) (.b (.b 0))) (.d (.b (.b 0)) .e)))))))) .c) .c) (.b (.f (.i .In (.c 0) (.n (.d (.b (.c [101,120,105,116])) (.d (.b (.c [103,111,116,111])) (.d (.b (.c [103,111,116,111,108])) .e))))) (.b (.d (.k (.x (.d (.b (.c [101,120,105,116])) (.d (.n (.d (.b (.b 149)) (.d (.b (.b 0)) (.d (.b (.b 0)) (.d (.b (.b 0)) (.d (.b (.b 0)) (.d (.b (.b 0)) .e))))))) (.d (.b (.c [103,111,116,111])) (.d (.n (.d (.b (.b 5)) (.d (.b (.b 0)) (.d (.b (.b 0)) (.d (.g (.b (.i .ut)) (.d (.c 2) .e)) (.d (.b (.b 0)) (.d (.b (.b 0)) .e))))))) (.d (.b (.c [103,111,116,111,108])) (.d (.n (.d (.b (.b 6)) (.d (.b (.b 0)) (.d (.b (.b 0)) (.d (.b (.b 0)) (.d (.g (.b (.i .ut)) (.d (.c 2) .e)) (.d (.b (.b 0)) .e))))))) .e))))))) (.c 0))) .c) .c) (.b (.e (.b 12) (.f .Add (.f .Mult (.b (.b 16)) (.k (.c 2) (.b (.b 1)))) (.m (.i .Eq (.c 1) (.b (.b 64))) (.b (.b 5)) (.b (.b 6))))) (.b (.d (.m (.i .Eq (.c 0) (.b (.c [105,102,114]))) (.n (.d (.f .Add (.c 12) (.b (.b 8))) (.d (.k (.c 2) (.b (.b 0))) (.d (.k (.c 2) (.b (.b 2))) (.d (.k (.c 2) (.b (.b 3))) (.d (.b (.b 0)) (.d (.b (.b 0)) .e))))))) (.n (.d (.c 12) (.d (.k (.c 2) (.b (.b 0))) (.d (.b (.b 0)) (.d (.k (.c 2) (.b (.b 3))) (.d (.k (.c 2) (.b (.b 2))) (.d (.b (.b 0)) .e))))))))) .c))))))))))))))))))
noncomputable def afa:bn:=⟨3,[],13,[],aaM⟩
noncomputable def aaU:a5:=(.b (.d (.m (.i .In (.b (.c [119])) (.c 0)) (.b (.b 32)) (.b (.b 64)))) .c)
noncomputable def afi:bn:=⟨1,[],1,[],aaU⟩
noncomputable def Fn:a5:=(.b (.f (.p .And (.i .Eq (.k (.c 3) (.b (.b 0))) (.b (.c [97,108,105]))) (.i .Eq (.q (.c 0) (.b (.b 1)) (.b (.b 3))) (.r (.d (.b (.c [61])) (.d (.b (.c [43])) .e))))) (.b .n .c) .c) (.b (.e (.b 4) (.g (.b (.d 117)) (.d (.c 0) (.d (.q (.c 3) (.b (.b 1)) (.b .e)) .e)))) (.b (.f (.i .IsNot (.c 4) (.b .e)) (.b (.e (.b 5) (.g (.b (.d 118)) (.d (.k (.c 3) (.b (.b 0))) (.d (.g (.b (.d 119)) (.d (.q (.c 3) (.b (.b 1)) (.b .e)) .e)) (.d (.c 4) .e))))) (.b (.f (.i .IsNot (.c 5) (.b .e)) (.b (.g (.j (.c 2) .jE (.d (.c 5) .e))) .c) .c) .c)) .c) .c)))
noncomputable def Fu:a5:=(.b (.f (.i .In (.c 1) (.c 0)) (.b (.e (.b 0) (.q (.c 0) (.b .e) (.j (.c 0) .lC (.d (.c 1) .e)))) .c) .c) .c)
noncomputable def aaL:a5:=(.b (.i C (.b 1) (.n (.d (.b (.c [35])) (.d (.b (.c [47,47])) .e))) Fu) (.b (.e (.b 2) .w) (.b (.i C (.b 3) (.g (.b (.d 111)) .e) Fn) (.b (.d (.m (.i .NotEq (.c 2) (.r .e)) (.k (.c 2) (.b (.b 0))) (.b .e))) .c))))
noncomputable def ae9:bn:=⟨1,[],6,[],aaL⟩
noncomputable def ac6:aZ:=(.i .In (.c 1) (.n (.d (.b (.c [117,56])) (.d (.b (.c [117,49,54])) (.d (.b (.c [117,51,50])) (.d (.b (.c [117,54,52])) .e))))))
noncomputable def ahj:aZ:=(.c 0)
noncomputable def ac9:aZ:=(.i .NotEq (.c 0) (.b (.c [46])))
noncomputable def ahn:aZ:=(.c 0)
noncomputable def ao1:a5:=(.b (.j (.c (.b 8) (.c (.b 7) .d)) (.d (.g (.b (.d 110)) (.d (.c 0) (.d (.c 4) .e))) (.d (.u ahn ac9 (.g (.b (.d 112)) (.d (.c 6) .e)) C) .e))) (.b (.e (.b 4) (.f .Add (.c 4) (.b (.b 1)))) (.b (.f (.i .In (.c 6) (.n (.d (.b (.c [114])) (.d (.b (.c [119])) .e)))) (.b (.f (.p .And (.i .In (.k (.c 2) (.b (.b 0))) (.n (.d (.b (.c [110,101,103])) (.d (.b (.c [101,110,100])) (.d (.b (.c [102,101,116,99,104])) (.d (.b (.c [120,99,104,103])) .e)))))) (.p .And (.i .In (.c 6) (.c 5)) (.p .And (.i .NotEq (.f .Add (.k (.c 2) (.b (.b 0))) (.c 6)) (.b (.c [102,101,116,99,104,114]))) (.i .NotEq (.f .Add (.k (.c 2) (.b (.b 0))) (.c 6)) (.b (.c [120,99,104,103,114])))))) (.b (.g (.j (.c 3) .jE (.d (.k (.c 5) (.c 6)) .e))) .c) (.b (.g (.j (.c 3) .jE (.d (.f .Add (.c 6) (.g (.b (.i .f5)) (.d (.m (.p .And (.i .Eq (.k (.c 2) (.b (.b 0))) (.b (.c [99,109,112]))) (.i .In (.g (.b (.i .hL)) (.d (.c 3) .e)) (.n (.d (.b (.b 0)) (.d (.b (.b 8)) .e))))) (.b (.b 0)) (.f .Mod (.c 7) (.b (.b 11)))) .e))) .e))) .c)) (.b (.e (.g (.c 5) (.c 6)) (.j (.c 5) .oa (.d (.c 6) (.d (.k (.c 3) (.t (.b (.b 1)))) .e)))) .c)) (.b (.f (.i .In (.k (.c 6) (.b (.b 0))) (.b (.c [35,126]))) (.b (.e (.e (.c (.b 9) (.c (.b 10) .d))) (.g (.b (.d 115)) (.d (.c 6) .e))) (.b (.e (.b 11) (.k (.r (.d (.b (.b 0)) (.d (.b (.b 1)) (.d (.f .Mod (.c 7) (.b (.b 4096))) (.d (.c 10) (.d (.c 9) (.d (.f .Sub (.c 10) (.b (.b 1))) (.d (.f .Add (.c 9) (.b (.b 1))) (.d (.f .Sub (.b (.b 0)) (.f .Mod (.c 7) (.b (.b 4096)))) .e))))))))) (.f .Mod (.c 7) (.b (.b 8))))) (.b (.f (.p .Or (.i .Eq (.k (.c 6) (.b (.b 0))) (.b (.c [126]))) (.i .Lt (.c 11) (.b (.b 0)))) (.b (.g (.j (.c 3) .jE (.d (.m (.i .Lt (.c 11) (.b (.b 0))) (.b (.c [45])) (.b (.c [43]))) .e))) .c) .c) (.b (.g (.j (.c 3) .jE (.d (.m (.i .Gt (.f .Mod (.f .FloorDiv (.c 7) (.b (.b 8))) (.b (.b 3))) (.b (.b 0))) (.g (.b (.i .f5)) (.d (.g (.b (.i .ur)) (.d (.c 11) .e)) .e)) (.g (.b (.d 122)) (.d (.g (.b (.i .ur)) (.d (.c 11) .e)) .e))) .e))) .c)))) (.b (.e (.b 8) (.m (.p .And (.i .Eq (.k (.c 2) (.b (.b 0))) (.b (.c [115,120]))) (.i .In (.b (.c [119])) (.c 2))) (.q (.c 8) (.b .e) (.b (.b 2))) (.c 8))) (.b (.g (.j (.c 3) .jE (.d (.m (.i .NotEq (.c 8) (.r .e)) (.k (.c 8) (.f .Mod (.c 7) (.g (.b (.i .hL)) (.d (.c 8) .e)))) (.c 6)) .e))) .c))) .c)) .c)))
noncomputable def aaN:a5:=(.b (.e (.b 1) (.g (.b (.d 111)) .e)) (.b (.p (.c (.b 2) (.c (.b 3) (.c (.b 4) (.c (.b 5) .d)))) (.d (.k (.c 1) (.f .Mod (.g (.b (.d 110)) (.d (.c 0) (.d (.b (.b 0)) .e))) (.g (.b (.i .hL)) (.d (.c 1) .e)))) (.d .w (.d (.b (.b 1)) (.d (.x .e) .e))))) (.b (.i C (.b 6) (.q (.c 2) (.b (.b 1)) (.b .e)) ao1) (.b (.f (.p .And (.i .In (.k (.c 2) (.b (.b 0))) (.n (.d (.b (.c [102,101,116,99,104])) (.d (.b (.c [120,99,104,103])) .e)))) (.i .NotIn (.b (.c [119])) (.q (.c 2) (.b (.b 1)) (.b .e)))) (.b (.e (.g (.c 3) (.t (.b (.b 2)))) (.k (.c 3) (.b (.b 0)))) .c) .c) (.b (.f (.i .In (.k (.c 2) (.b (.b 0))) (.n (.d (.b (.c [108,111,99,107])) (.d (.b (.c [102,101,116,99,104])) .e)))) (.b (.e (.b 12) (.k (.u ahj ac6 (.c 3) I) (.b (.b 0)))) (.b (.e (.g (.c 3) (.c 12)) (.m (.i .In (.b (.c [119])) (.q (.c 2) (.b (.b 1)) (.b .e))) (.b (.c [117,51,50])) (.b (.c [117,54,52])))) .c)) .c) (.b (.d (.c 3)) .c))))))
noncomputable def afb:bn:=⟨1,[],13,[],aaN⟩
noncomputable def La:a5:=(.b (.j (.c (.b 0) (.c (.b 1) .d)) (.d (.f .Add (.k (.b (.c [48,49,50,51,52,53,54,55,56,57,97,98,99,100,101,102])) (.f .Mod (.c 0) (.b (.b 16)))) (.c 1)) (.d (.f .FloorDiv (.c 0) (.b (.b 16))) .e))) .c)
noncomputable def IZ:aZ:=(.p .Or (.i .Gt (.c 0) (.b (.b 0))) (.i .Eq (.c 1) (.b (.c []))))
noncomputable def aaP:a5:=(.b (.e (.b 1) (.b (.c []))) (.b (.k IZ La) (.b (.d (.f .Add (.b (.c [48,120])) (.c 1))) .c)))
noncomputable def afd:bn:=⟨1,[],2,[],aaP⟩
noncomputable def aaI:a5:=(.b (.e (.b 3) (.r (.d (.b (.c [114,49])) (.d (.b (.c [119,50])) (.d (.b (.c [114,49,48])) (.d (.b (.c [114,49,49])) (.d (.b (.c [119,48])) (.d (.b (.c [43])) (.d (.b (.c [45])) (.d (.b (.c [61])) (.d (.b (.c [40])) (.d (.b (.c [41])) (.d (.b (.c [42])) (.d (.b (.c [44])) (.d (.b (.c [117,56])) (.d (.b (.c [115,49,54])) (.d (.b (.c [117,51,50])) (.d (.b (.c [117,54,52])) (.d (.b (.c [115,54,52])) (.d (.b (.c [53])) (.d (.b (.c [51,50,55,54,56])) (.d (.b (.c [48,120,56,48,48,48,48,48,48,48])) (.d (.b (.c [48,120])) (.d (.b (.c [103,111,116,111])) (.d (.b (.c [105,102])) (.d (.b (.c [108,108])) (.d (.b (.c [109,97,112])) (.d (.b (.c [108,111,99,107])) (.d (.b (.c [101,120,105,116])) (.d (.b (.c [112,99])) (.d (.b (.c [120,99,104,103,95,54,52])) (.d (.b (.c [43,61])) (.d (.b (.c [115,62])) (.d (.b (.c [115,47,61])) (.d (.b (.c [38])) (.d (.b (.c [61,61])) (.d (.b (.c [110,97,109,101,95,120])) (.d (.b (.c [35])) (.d (.b (.c [47,47])) (.d (.b (.c [98,101,49,54])) (.d (.b (.c [99,97,108,108])) .e))))))))))))))))))))))))))))))))))))))))) (.b (.j (.c (.b 5) (.c (.b 4) .d)) (.d (.f .Mod (.g (.b (.d 110)) (.d (.c 0) (.d (.c 2) .e))) (.b (.b 6))) (.d (.f .Mod (.g (.b (.d 110)) (.d (.c 0) (.d (.f .Add (.c 2) (.b (.b 1))) .e))) (.g (.b (.i .wH)) (.d (.b (.b 1)) (.d (.g (.b (.i .hL)) (.d (.c 1) .e)) .e)))) .e))) (.b (.e (.b 6) (.k (.c 3) (.f .Mod (.g (.b (.d 110)) (.d (.c 0) (.d (.f .Add (.c 2) (.b (.b 2))) .e))) (.g (.b (.i .hL)) (.d (.c 3) .e))))) (.b (.f (.i .Eq (.c 4) (.b (.b 0))) (.b (.d (.f .Add (.q (.c 1) (.b .e) (.c 5)) (.q (.c 1) (.f .Add (.c 5) (.b (.b 1))) (.b .e)))) .c) .c) (.b (.f (.i .Eq (.c 4) (.b (.b 1))) (.b (.d (.f .Add (.f .Add (.q (.c 1) (.b .e) (.c 5)) (.q (.c 1) (.c 5) (.f .Add (.c 5) (.b (.b 1))))) (.q (.c 1) (.c 5) (.b .e)))) .c) .c) (.b (.f (.i .Eq (.c 4) (.b (.b 2))) (.b (.d (.f .Add (.f .Add (.q (.c 1) (.b .e) (.c 5)) (.r (.d (.c 6) .e))) (.q (.c 1) (.c 5) (.b .e)))) .c) .c) (.b (.f (.i .Eq (.c 4) (.b (.b 3))) (.b (.d (.f .Add (.f .Add (.f .Add (.q (.c 1) (.b .e) (.c 5)) (.q (.c 1) (.f .Add (.c 5) (.b (.b 1))) (.f .Add (.c 5) (.b (.b 2))))) (.q (.c 1) (.c 5) (.f .Add (.c 5) (.b (.b 1))))) (.q (.c 1) (.f .Add (.c 5) (.b (.b 2))) (.b .e)))) .c) .c) (.b (.d (.f .Add (.f .Add (.q (.c 1) (.b .e) (.c 5)) (.r (.d (.c 6) .e))) (.q (.c 1) (.f .Add (.c 5) (.b (.b 1))) (.b .e)))) .c))))))))
noncomputable def ae6:bn:=⟨3,[],7,[],aaI⟩
noncomputable def Fq:a5:=(.b (.e (.b 1) (.g (.b (.d 123)) (.d (.c 0) (.d (.c 1) (.d (.f .Add (.b (.b 21)) (.f .Mult (.b (.b 3)) (.c 3))) .e))))) (.b (.e (.b 2) (.g (.b (.d 120)) (.d (.c 1) .e))) (.b (.e (.i 1) (.j (.k (.r (.d (.b (.c [32])) (.d (.b (.c [32,32])) (.d (.b (.c [32,9])) .e)))) (.f .Mod (.g (.b (.d 110)) (.d (.c 0) (.d (.b (.b 31)) .e))) (.b (.b 3)))) .rt (.d (.c 1) .e))) (.b (.e (.b 4) (.g (.b (.d 124)) (.d (.y (.g (.b (.d 104)) (.d (.v 0) .e)) [1]) .e))) (.b (.f (.i .Is (.c 2) (.b .e)) (.b (.e (.b 5) (.p .Or (.i .Eq (.c 1) (.r .e)) (.i .In (.k (.c 1) (.b (.b 0))) (.n (.d (.b (.c [35])) (.d (.b (.c [47,47])) .e)))))) (.b (.f (.p .Or (.i .NotEq (.c 4) (.r (.d (.b .e) .e))) (.p .And (.s (.c 5)) (.i .NotEq (.g (.b (.d 124)) (.d (.y (.g (.b (.d 109)) (.d (.f .Add (.v 0) (.r (.d (.v 1) .e))) .e)) [0,1]) .e)) (.r (.d (.f .Add (.g (.b (.i .hL)) (.d (.v 0) .e)) (.b (.b 1))) .e))))) (.b (.d (.b (.g C))) .c) .c) .c)) (.b (.f (.p .Or (.g (.b (.i .wG)) (.d (.c 4) (.d (.b (.i .us)) .e))) (.p .Or (.i .NotEq (.j (.c 4) .jF .e) (.c 2)) (.i .NotEq (.j (.g (.b (.d 104)) (.d (.g (.b (.d 73)) (.d (.c 4) .e)) .e)) .jF .e) (.c 2)))) (.b (.d (.b (.g C))) .c) .c) .c)) .c)))))
noncomputable def abF:a5:=(.b (.e (.b 1) (.g (.b (.d 121)) (.d (.c 0) .e))) (.b (.e (.b 2) (.g (.b (.d 120)) (.d (.c 1) .e))) (.b (.f (.p .Or (.i .Is (.c 2) (.b .e)) (.i .NotEq (.j (.g (.b (.d 104)) (.d (.j (.b (.c [32])) .rt (.d (.c 1) .e)) .e)) .jF .e) (.c 2))) (.b (.d (.b (.g C))) .c) .c) (.b (.e (.i 0) (.q (.r (.d (.b (.c [101,120,105,116])) (.d (.b (.c [])) .e))) (.b .e) (.f .Mod (.g (.b (.d 110)) (.d (.c 0) (.d (.b (.b 32)) .e))) (.b (.b 3))))) (.b (.i C (.b 3) (.g (.b (.i .qm)) (.d (.f .Add (.f .Mod (.g (.b (.d 110)) (.d (.c 0) (.d (.b (.b 20)) .e))) (.b (.b 2))) (.b (.b 1))) .e)) Fq) (.b (.d (.b (.g I))) .c))))))
noncomputable def Qb:bn:=⟨1,[],6,[U,U],abF⟩
noncomputable def aav:a5:=(.b (.e (.f (.c 0) .gI) (.c 1)) (.b (.e (.f (.c 0) .l8) (.c 2)) (.b (.e (.f (.c 0) .l_) (.c 3)) (.b (.e (.f (.c 0) .nr) (.c 4)) (.b (.e (.f (.c 0) .kB) (.c 5)) (.b (.e (.f (.c 0) .wD) (.c 6)) .c))))))
noncomputable def P':bn:=⟨7,[(.b 0)],7,[],aav⟩
noncomputable def aaw:a5:=(.b (.d (.n (.d (.l (.c 0) .gI) (.d (.l (.c 0) .l8) (.d (.l (.c 0) .l_) (.d (.l (.c 0) .nr) (.d (.l (.c 0) .kB) (.d (.l (.c 0) .wD) .e)))))))) .c)
noncomputable def aeV:bn:=⟨1,[],1,[],aaw⟩
noncomputable def aax:a5:=(.b (.e (.f (.c 0) .ql) (.c 1)) (.b (.e (.f (.c 0) .sC) (.c 2)) (.b (.e (.f (.c 0) .fj) (.b (.b 0))) .c)))
noncomputable def Qa:bn:=⟨3,[],3,[],aax⟩
noncomputable def aaB:a5:=(.b (.e (.b 2) (.f .Add (.l (.c 0) .fj) (.c 1))) (.b (.d (.m (.i .Lt (.c 2) (.g (.b (.i .hL)) (.d (.l (.c 0) .ql) .e))) (.k (.l (.c 0) .ql) (.c 2)) (.b (.c [])))) .c))
noncomputable def aeZ:bn:=⟨2,[(.b 0)],3,[],aaB⟩
noncomputable def aaD:a5:=(.b (.l (.d (.c 1) (.d (.l (.c 0) .sC) .e))) .c)
noncomputable def ae1:bn:=⟨2,[],2,[],aaD⟩
noncomputable def aaH:a5:=(.b (.e (.b 1) (.j (.c 0) .i8 .e)) (.b (.e (.f (.c 0) .fj) (.f .Add (.l (.c 0) .fj) (.b (.b 1)))) (.b (.d (.c 1)) .c)))
noncomputable def ae5:bn:=⟨1,[],2,[],aaH⟩
noncomputable def aaG:a5:=(.b (.f (.i .NotEq (.j (.c 0) .i8 .e) (.c 1)) (.b (.d (.b (.g C))) .c) .c) (.b (.e (.f (.c 0) .fj) (.f .Add (.l (.c 0) .fj) (.b (.b 1)))) (.b (.d (.b (.g I))) .c)))
noncomputable def ae4:bn:=⟨2,[],2,[],aaG⟩
noncomputable def aaz:a5:=(.b (.f (.s (.j (.c 0) .sE (.d (.c 1) .e))) (.b (.g (.j (.c 0) .h1 (.d (.f .Add (.b (.c [119,97,110,116,101,100,32])) (.c 1)) .e))) .c) .c) .c)
noncomputable def aeX:bn:=⟨2,[],2,[],aaz⟩
noncomputable def aay:a5:=(.b (.f (.i .Lt (.l (.c 0) .fj) (.g (.b (.i .hL)) (.d (.l (.c 0) .ql) .e))) (.b (.g (.j (.c 0) .h1 (.d (.b (.c [109,111,114,101,32,116,104,97,110,32,97,110,32,111,114,100,101,114])) .e))) .c) .c) .c)
noncomputable def aeW:bn:=⟨1,[],1,[],aay⟩
noncomputable def aaE:a5:=(.b (.e (.b 1) (.g (.b (.d 81)) (.d (.j (.c 0) .i8 .e) .e))) (.b (.f (.i .Is (.c 1) (.b .e)) (.b (.g (.j (.c 0) .h1 (.d (.b (.c [119,97,110,116,101,100,32,97,32,114,101,103,105,115,116,101,114])) .e))) .c) .c) (.b (.e (.f (.c 0) .fj) (.f .Add (.l (.c 0) .fj) (.b (.b 1)))) (.b (.d (.c 1)) .c))))
noncomputable def ae2:bn:=⟨1,[],2,[],aaE⟩
noncomputable def aaF:a5:=(.b (.e (.e (.c (.b 2) (.c (.b 3) .d))) (.j (.c 0) .wE .e)) (.b (.f (.i .NotEq (.c 3) (.c 1)) (.b (.g (.j (.c 0) .h1 (.d (.b (.c [114,101,103,105,115,116,101,114,115,32,111,102,32,116,119,111,32,115,105,122,101,115])) .e))) .c) .c) (.b (.d (.c 2)) .c)))
noncomputable def ae3:bn:=⟨2,[],4,[],aaF⟩
noncomputable def aaC:a5:=(.b (.e (.b 1) (.g (.b (.d 82)) (.d (.j (.c 0) .i8 .e) .e))) (.b (.f (.i .Is (.c 1) (.b .e)) (.b (.g (.j (.c 0) .h1 (.d (.b (.c [119,97,110,116,101,100,32,97,32,110,117,109,98,101,114])) .e))) .c) .c) (.b (.e (.f (.c 0) .fj) (.f .Add (.l (.c 0) .fj) (.b (.b 1)))) (.b (.d (.c 1)) .c))))
noncomputable def ae0:bn:=⟨1,[],2,[],aaC⟩
noncomputable def aaA:a5:=(.b (.e (.b 2) (.j (.c 0) .sE (.d (.b (.c [45])) .e))) (.b (.f (.s (.c 2)) (.b (.g (.j (.c 0) .sE (.d (.b (.c [43])) .e))) .c) .c) (.b (.e (.b 3) (.j (.c 0) .z6 .e)) (.b (.e (.b 3) (.m (.c 2) (.t (.c 3)) (.c 3))) (.b (.f (.s (.g (.b (.d 5)) (.d (.c 3) (.d (.c 1) .e)))) (.b (.g (.j (.c 0) .h1 (.d (.f .Add (.f .Add (.b (.c [97,32,110,117,109,98,101,114,32,98,101,121,111,110,100,32])) (.g (.b (.i .f5)) (.d (.c 1) .e))) (.b (.c [32,98,105,116,115]))) .e))) .c) .c) (.b (.d (.c 3)) .c))))))
noncomputable def aeY:bn:=⟨2,[],4,[],aaA⟩
noncomputable def aaq:a5:=(.b (.e (.f (.c 0) .uq) .w) (.b (.e (.f (.c 0) .wC) .w) (.b (.e (.f (.c 0) .wB) .w) (.b (.e (.f (.c 0) .wF) .w) (.b (.e (.f (.c 0) .sB) (.x .e)) (.b (.e (.f (.c 0) .sF) (.b (.b 0))) .c))))))
noncomputable def P_:bn:=⟨1,[],1,[],aaq⟩
noncomputable def aas:a5:=(.b (.f (.i .In (.c 1) (.l (.c 0) .sB)) (.b (.l (.d (.b (.c [97,32,108,97,98,101,108,32,116,119,105,99,101])) (.d (.c 2) .e))) .c) .c) (.b (.e (.g (.l (.c 0) .sB) (.c 1)) (.l (.c 0) .sF)) .c))
noncomputable def aeT:bn:=⟨3,[],3,[],aas⟩
noncomputable def aar:a5:=(.b (.g (.j (.l (.c 0) .uq) .jE (.d (.c 1) .e))) (.b (.g (.j (.l (.c 0) .wC) .jE (.d (.c 3) .e))) (.b (.g (.j (.l (.c 0) .wB) .jE (.d (.c 2) .e))) (.b (.g (.j (.l (.c 0) .wF) .jE (.d (.l (.c 0) .sF) .e))) (.b (.e (.f (.c 0) .sF) (.f .Add (.l (.c 0) .sF) (.m (.g (.b (.d 15)) (.d (.c 1) .e)) (.b (.b 2)) (.b (.b 1))))) .c)))))
noncomputable def aeS:bn:=⟨4,[],4,[],aar⟩
noncomputable def aat:a5:=(.b (.j (.c (.b 4) (.c (.b 3) (.c (.b 2) .d))) (.d (.k (.l (.c 0) .uq) (.c 1)) (.d (.k (.l (.c 0) .wB) (.c 1)) (.d (.k (.l (.c 0) .wC) (.c 1)) .e)))) (.b (.f (.i .Eq (.c 3) (.b (.c []))) (.b (.d (.c 2)) .c) .c) (.b (.f (.i .NotIn (.c 3) (.l (.c 0) .sB)) (.b (.l (.d (.b (.c [110,111,32,115,117,99,104,32,108,97,98,101,108])) (.d (.c 4) .e))) .c) .c) (.b (.d (.g (.b (.d 106)) (.d (.c 2) (.d (.f .Sub (.f .Sub (.k (.l (.c 0) .sB) (.c 3)) (.k (.l (.c 0) .wF) (.c 1))) (.b (.b 1))) (.d (.c 4) .e))))) .c))))
noncomputable def aeU:bn:=⟨2,[],5,[],aat⟩
noncomputable def aau:a5:=(.b (.d (.n (.d (.l (.c 0) .hK) (.d (.l (.c 0) .fj) .e)))) .c)
noncomputable def auK:bn:=⟨1,[],1,[],aau⟩
noncomputable def aiO:List Iu:=[.d,.d,.d,.b agY,.b agH,.b afF,.c 126 P' I,.b afA,.b afI,.b afO,.b agc,.b afT,.b agU,.b af8,.b afn,.b afW,.b afN,.b afL,.b afQ,.b afM,.b afK,.b afP,.b afV,.b afJ,.b afC,.b afs,.b afU,.b agJ,.b afB,.b afu,.b agT,.b afl,.b afk,.b agF,.b agE,.b aga,.b agN,.b af9,.b afX,.b afD,.b afw,.b afv,.b af2,.b af3,.b agK,.b agL,.b afr,.b afq,.b agQ,.b agR,.b afy,.b af5,.b af1,.b agd,.b afm,.b afZ,.b agD,.b agI,.b age,.b af7,.b afH,.b agO,.b afp,.b afG,.b afx,.b afo,.b afz,.b af0,.b af6,.b aft,.b af4,.b agM,.b agS,.b agZ,.b afR,.b afS,.b agG,.b agW,.b agX,.b agf,.c 128 Qa C,.b agC,.b agb,.b agP,.b agA,.b agv,.b ags,.b agn,.b ago,.b agg,.b agh,.b agy,.b agq,.b agm,.b afE,.b agl,.b agi,.b agz,.b agt,.b agr,.b agj,.b agx,.b agk,.b agB,.b agu,.c 139 P_ C,.b agV,.b afY,.b agp,.b agw,.b ae8,.b afg,.b afc,.b aff,.b afe,.b ae7,.b afh,.b afj,.b afa,.b afi,.b ae9,.b afb,.b afd,.b ae6,.e,.b Qb,.b P',.b aeV,.b Qa,.b aeZ,.b ae1,.b ae5,.b ae4,.b aeX,.b aeW,.b ae2,.b ae3,.b ae0,.b aeY,.b P_,.b aeT,.b aeS,.b aeU,.d,.d]
noncomputable def pm(i:Nat):Iu:=(aiO[i]?).getD .d
noncomputable def u':List (Nat×bF×Nat):=[(6,.jF,127),(80,.i8,129),(80,.h1,130),(80,.lD,131),(80,.sE,132),(80,.gm,133),(80,.Dp,134),(80,.wE,135),(80,.l9,136),(80,.z6,137),(80,.ob,138),(105,.Dq,140),(105,.Dn,141),(105,.Dr,142)]
noncomputable def dm(q:Nat)(d:bF):Option Nat:=(u'.find? fun b=>a6 (b.1=q)&&a6 (b.2.1=d)).map (·.2.2)
noncomputable def ab:lF:=⟨pm,dm⟩
end
section
open PySem
inductive j6 where|f(w c:Nat)(t:Except M M)|b(w c:Nat)(t:bJ K)|d(n:pV)(k:M)|e(n:jh)(s:Bool)|g(d:i9)(d:K)|j(d:bF)(t:bJ K)|k(k:M)|i(k:M)|m(n:bV)|c(t:bJ K)|l(aO:af)
abbrev Zi(V:Type):=Option (V×List j6×List Prop)
abbrev iF(V:Type):=List j6→List Prop→Zi V
abbrev e'(V:Type):=iF (Except M V×af)
abbrev iG:=iF bV
abbrev l':=Nat→List K→af→e' K
section
variable{V bg:Type}
noncomputable def mi:iF V:=fun _ _=>U
noncomputable def ez(z:Option V):iF V:=fun be O=>z.bind fun t=>o (t,be,O)
noncomputable def gB(z:iF V)(w:V→iF bg):iF bg:=fun be O=>(z be O).bind fun k=>w k.1 k.2.1 k.2.2
def mj(g:V)(f:af):e' V:=ez (cW g f)
noncomputable def aan(w:V→af→e' bg)(t:Except M V×af):e' bg:=match t with|(u,f)=>(match u with|.error d=>ez (o (.error d,f))|.ok g=>w g f)
noncomputable def fs(z:e' V)(w:V→af→e' bg):e' bg:=gB z (aan w)
noncomputable def qN(c:j6→Option V)(n:Option V):iF V:=fun be O=>match be with|[]=>n.bind fun g=>o (g,[],O)|F::be=>match c F with|some g=>o (g,be,(n=o g)::O)|none=>n.bind fun g=>o (g,F::be,O)
noncomputable def ow(s:Bool)(ad l:iF V):iF V:=match s with|true=>ad|false=>l
def auQ(r:Nat)(z:iF V):iF V:=if r≤cK then z else mi
end
noncomputable def alZ(n:pV)(d:K):Bool:=match n with|.Add=>(match d with|.b k=>(match k with|.b _=>I|_=>C)|_=>C)|_=>C
noncomputable def ajD(n:pV)(d:K)(F:j6):Option M:=match alZ n d with|true=>U|false=>(match F with|.d cf k=>if cf=n then o k else U|_=>U)
noncomputable def J3(n:jh)(F:j6):Option Bool:=match F with|.e cf k=>if cf=n then o k else U|_=>U
noncomputable def ajI(e:i9)(F:j6):Option K:=match F with|.g oW k=>if oW=e then o k else U|_=>U
noncomputable def ajO(d:bF)(F:j6):Option (Except M K×af):=match F with|.j G t=>if G=d then t else U|_=>U
noncomputable def akp(F:j6):Option M:=match F with|.k k=>o k|_=>U
noncomputable def ajL(F:j6):Option M:=match F with|.i k=>o k|_=>U
noncomputable def Rp(F:j6):Option (Except M K×af):=match F with|.c t=>t|_=>U
noncomputable def Ru(F:j6):Option bV:=match F with|.m n=>o n|_=>U
noncomputable def akI(F:j6):Option af:=match F with|.l aO=>o aO|_=>U
def vF{V:Type}(d:K)(w:Bool→iF V):iF V:=gB (ez (ki d)) w
def auT(k:M)(f:af):e' K:=mj (.b k) f
def F5(c:j6→Option M)(n:Option M)(f:af):e' K:=gB (qN c n) fun k=>mj (.b k) f
def Ek(w:M→af→e' (Option M)):List M→List M→af→e' (List M)|[],aE,f=>mj aE f|k::t,aE,f=>fs (w k f) fun l f=>Ek w t (aE++l.toList) f
noncomputable def K0{V:Type}(f:af)(z:e' V):e' V:=gB z fun t=>ez (o (t.1,f))
def D7(g':Bool)(w:M→af→e' (Option M))(d:K)(f:af):e' K:=match g' with|false=>gB (ez (ed d fun k=>(s9 k).bind fun p=>kN p.length p)) fun p=>fs (Ek w p [] f) fun p f=>ez (u7 p f)|true=>gB (ez ((mN f d).bind fun p=>kN p.length p)) fun p=>K0 f (fs (Ek w (qx p 0) [] []) fun p f=>ez (u7 p f))
structure eY where
 b:List (Option K)→List Nat→af→e' K
 c:List (Option K)→List Nat→af→e' (List K)
section
variable(cA:l')(X:ea)(aB:hN)
noncomputable def SS:List (Option K)→List Nat→af→e' K:=fun _ _ _=>mi
noncomputable def kc:List (Option K)→List Nat→af→e' (List K):=fun _ _ _=>mi
def uC(b:aZ):eY:=⟨fun A ax f=>ez (d_ X aB b A ax f),kc⟩
def ZH(bH:pV)(_ _:aZ)(g e:eY):eY:=⟨fun A ax f=>fs (g.b A ax f) fun d f=>fs (e.b A ax f) fun G f=>F5 (ajD bH d) (fF bH d G) f,kc⟩
def ZT(_:aZ)(g:eY):eY:=⟨fun A ax f=>fs (g.b A ax f) fun d f=>ez (E4 d f),kc⟩
def ZP(_:aZ)(g:eY):eY:=⟨fun A ax f=>fs (g.b A ax f) fun d f=>ez (RR d f),kc⟩
def ZV(_:aZ)(g:eY):eY:=⟨fun A ax f=>fs (g.b A ax f) fun d f=>vF d fun s=>mj (.b (.g !s)) f,kc⟩
def ZI(bH:pU)(_ _:aZ)(g e:eY):eY:=⟨fun A ax f=>fs (g.b A ax f) fun d f=>vF d fun s=>(match bH with|.And=>ow s (e.b A ax f) (mj d f)|.Or=>ow s (mj d f) (e.b A ax f)),kc⟩
def ZQ(_ _ _:aZ)(q g e:eY):eY:=⟨fun A ax f=>fs (q.b A ax f) fun d f=>vF d fun s=>ow s (g.b A ax f) (e.b A ax f),kc⟩
def ZK(bH:jh)(_ _:aZ)(g e:eY):eY:=⟨fun A ax f=>fs (g.b A ax f) fun d f=>fs (e.b A ax f) fun G f=>gB (qN (J3 bH) (bI bH f d G)) fun s=>mj (.b (.g s)) f,kc⟩
def ZL(_:aZ)(hs:jh)(_:aZ)(ix:jh)(_:aZ)(g e q:eY):eY:=⟨fun A ax f=>fs (g.b A ax f) fun d f=>fs (e.b A ax f) fun G f=>gB (qN (J3 hs) (bI hs f d G)) fun s=>ow s (fs (q.b A ax f) fun m f=>gB (qN (J3 ix) (bI ix f G m)) fun s=>mj (.b (.g s)) f) (mj (.b (.g C)) f),kc⟩
def PO(aM:af→e' (List K))(k:M)(f:af):e' K:=match k with|.d i=>fs (aM f) fun ag f=>cA i ag f|.i e=>fs (aM f) fun ag f=>gB (qN (ajI e) (h2 e f ag)) fun d=>mj d f|_=>mi
def ZJ(_ _:aZ)(w aM:eY):eY:=⟨fun A ax f=>fs (w.b A ax f) fun E f=>gB (ez (ed E o)) fun k=>PO cA (aM.c A ax) k f,kc⟩
def SN(z:i')(G:K)(d:bF)(aM:List K)(f:af):e' K:=match z with|.d w=>cA w (G::aM) f|z=>qN (ajO d) (jM X z G d aM f)
def ZS(_:aZ)(d:bF)(_:aZ)(n aM:eY):eY:=⟨fun A ax f=>fs (n.b A ax f) fun G f=>gB (ez (E0 aB f d G)) fun z=>fs (aM.c A ax f) fun ag f=>SN cA X z G d ag f,kc⟩
def ZG(_:aZ)(d:bF)(n:eY):eY:=⟨fun A ax f=>fs (n.b A ax f) fun G f=>ez (cI (DR f d G) f),kc⟩
def ZX(_ _:aZ)(n i:eY):eY:=⟨fun A ax f=>fs (n.b A ax f) fun d f=>fs (i.b A ax f) fun G f=>F5 akp (hR f d G) f,kc⟩
def ZW(_ _ _:aZ)(n p ad:eY):eY:=⟨fun A ax f=>fs (n.b A ax f) fun d f=>fs (p.b A ax f) fun G f=>fs (ad.b A ax f) fun m f=>F5 ajL (hQ d G m) f,kc⟩
def ZY(_:aZ)(az:eY):eY:=⟨fun A ax f=>fs (az.c A ax f) fun ag f=>ez (cI ((nJ ag).bind fun T=>kN T.length (.b (.j T))) f),kc⟩
def ZR(_:aZ)(az:eY):eY:=⟨fun A ax f=>fs (az.c A ax f) fun ag f=>ez (cI ((nJ ag).bind fun T=>kN T.length (.b (.f T))) f),kc⟩
def ZO(_:aZ)(az:eY):eY:=⟨fun A ax f=>fs (az.c A ax f) fun ag f=>ez (Jr ag f),kc⟩
def LF(eG:Bool)(nZ c7:eY)(ax:List Nat)(k:M)(f:af):e' (Option M):=gB (ez (tn eG k)) fun cM=>fs (nZ.b cM ax f) fun G f=>vF G fun s=>ow s (fs (c7.b cM ax f) fun l f=>ez (Bp l f)) (mj U f)
def ZM(b q i:aZ)(eG:Bool)(c7 nZ a':eY):eY:=⟨fun A ax f be O=>match be with|[]=>fs (a'.b A ax f) (D7 eG (LF eG nZ c7 (an eG [] ax))) be O|F::be=>match Rp F with|some t=>o (t,be,(d_ X aB (.u b q i eG) A ax f=o t)::O)|none=>fs (a'.b A ax f) (D7 eG (LF eG nZ c7 (an eG [] ax))) (F::be) O,kc⟩
def ZU:eY:=⟨SS,fun _ _ f=>mj [] f⟩
def ZN(_ _:aZ)(g e:eY):eY:=⟨SS,fun A ax f=>fs (g.b A ax f) fun d f=>fs (e.c A ax f) fun ag f=>mj (d::ag) f⟩
def kH(b:aZ):eY:=aZ.rec (motive:=fun _=>eY) (fun k=>uC X aB (.b k)) (fun i=>uC X aB (.c i)) (fun i=>uC X aB (.v i)) ZH ZT ZP ZV ZI ZQ ZK ZL (ZJ cA) (ZS cA X aB) ZG ZX ZW ZY ZR ZO (ZM X aB) (fun b f0 _=>uC X aB (.y b f0)) (uC X aB .w) ZU ZN (uC X aB .D) b
end
end
section
open PySem
structure pg where
 b:K→List (Option K)→af→iG
 c:List K→List (Option K)→af→iG
noncomputable def A':List K→List (Option K)→af→iG:=fun _ _ _=>mi
noncomputable def SR:K→List (Option K)→af→iG:=fun _ _ _=>mi
noncomputable def apK{V:Type}(w:V→af→iG)(t:Except M V×af):iG:=match t with|(u,f)=>(match u with|.error d=>ez (o (.c d f))|.ok g=>w g f)
noncomputable def nv{V:Type}(z:e' V)(w:V→af→iG):iG:=gB z (apK w)
noncomputable def aov(w:List (Option K)→af→iG)(n:bV):iG:=match n with|.b A f=>w A f|n=>ez (o n)
noncomputable def At(z:iG)(w:List (Option K)→af→iG):iG:=gB z (aov w)
noncomputable def amr(w:List (Option K)→af→iG)(n:bV):iG:=match n with|.b A f=>w A f|.e A f=>w A f|n=>ez (o n)
noncomputable def Ks(z:iG)(w:List (Option K)→af→iG):iG:=gB z (amr w)
abbrev gx:=List (Option K)→af→iG
section
variable(cA:l')(X:ea)(aB:hN)(ax:List Nat)
def apH(n:aZ)(d:bF):pg:=⟨fun l A f=>nv ((kH cA X aB n).b A ax f) fun G f=>ez ((Fm G d l f).map (.b A)),A'⟩
def apM(n i:aZ):pg:=⟨fun l A f=>nv ((kH cA X aB n).b A ax f) fun G f=>nv ((kH cA X aB i).b A ax f) fun Q f=>gB (qN akI (Bn G Q l f)) fun aO=>ez (o (.b A aO)),A'⟩
def apN(aQ:dO)(t:pg):pg:=⟨fun l A f=>gB (ez (ed l fun k=>Fx k fun T=>if h5 aQ=T.length then o T else U)) fun T=>t.c (T.map .b) A f,A'⟩
def apL:pg:=⟨SR,fun N A f=>ez (SW N (.b A f))⟩
noncomputable def arV(N:List K):Option (K×List K):=match N with|[]=>U|l::N=>o (l,N)
noncomputable def apI(_ _:dO)(s aQ:pg):pg:=⟨SR,fun N A f=>gB (ez (arV N)) fun k=>At (s.b k.1 A f) (aQ.c k.2)⟩
def TI(s:dO):pg:=⟨fun l A f=>ez (g0 X aB ax s l A f),A'⟩
def w2(s:dO):pg:=dO.rec (motive:=fun _=>pg) (fun i=>TI X aB ax (.b i)) (fun i=>TI X aB ax (.i i)) (apH cA X aB ax) (apM cA X aB ax) apN apL apI s
def LP(q:List (Option K)→af→e' K)(w:gx):Nat→gx|0=>fun _ _=>mi|r+1=>fun A f=>nv (q A f) fun d f=>vF d fun s=>ow s (Ks (w A f) (LP q w r)) (ez (o (.b A f)))
noncomputable def JF(w:M→gx):List M→gx|[]=>fun A f=>ez (o (.b A f))|k::t=>fun A f=>Ks (w k A f) (JF w t)
def as9(s:dO)(b:aZ):gx:=fun A f=>nv ((kH cA X aB b).b A ax f) fun l f=>(w2 cA X aB ax s).b l A f
def atg(aQ:dO)(az:aZ):gx:=fun A f=>nv ((kH cA X aB az).c A ax f) fun N f=>if h5 aQ=N.length∧N.length≤cK then(w2 cA X aB ax aQ).c N A f else mi
def atf(aQ:dO)(az:aZ):gx:=fun A f=>nv ((kH cA X aB az).c A ax f) fun N f=>if h5 aQ=N.length∧N.length≤cK then(w2 cA X aB ax aQ).c N.reverse A f else mi
def atc(b:aZ):gx:=fun A f=>nv ((kH cA X aB b).b A ax f) fun _ f=>ez (o (.b A f))
def atj(b:aZ):gx:=fun A f=>nv ((kH cA X aB b).b A ax f) fun l f=>ez (o (.d l f))
def ate(q:aZ)(_ _:a5)(k u:gx):gx:=fun A f=>nv ((kH cA X aB q).b A ax f) fun d f=>vF d fun s=>ow s (k A f) (u A f)
noncomputable def ER(y:a5)(z:gx):gx:=fun A f be O=>match be with|[]=>z A f be O|F::be=>match Ru F with|some n=>o (n,be,(dK X aB ax y A f=o n)::O)|none=>z A f (F::be) O
def atl(q:aZ)(e:a5)(k:gx):gx:=ER X aB ax (.k q e) fun A f=>LP (fun A f=>(kH cA X aB q).b A ax f) k tt A f
def atd(g':Bool)(s:dO)(a':aZ)(e:a5)(k:gx):gx:=ER X aB ax (.i g' s a' e) fun A f=>nv ((kH cA X aB a').b A ax f) fun d f=>gB (ez (sZ g' d)) fun p=>JF (fun dF A f=>At ((w2 cA X aB ax s).b (.b dF) A f) k) p A f
def ati(aM:aZ):gx:=fun A f=>nv ((kH cA X aB aM).c A ax f) fun ag f=>ez (Bt ag f)
noncomputable def atb:gx:=fun A f=>ez (o (.e A f))
noncomputable def ath:gx:=fun A f=>ez (o (.b A f))
noncomputable def atk(_ _:a5)(k u:gx):gx:=fun A f=>At (k A f) u
noncomputable def ata:gx:=fun _ _=>mi
def Ea(k:a5):gx:=a5.rec (motive:=fun _=>gx) (as9 cA X aB ax) (atg cA X aB ax) (atf cA X aB ax) (atc cA X aB ax) (atj cA X aB ax) (ate cA X aB ax) (atl cA X aB ax) (atd cA X aB ax) (ati cA X aB ax) atb ath atk ata k
def Bz(F:bn)(aM:List K)(f:af):iG:=gB (ez (sR F aM)) fun ev=>Ea cA X aB ((de F.b.length).map (f.length+·)) F.e (kO F ev) (f++qw ev F.b)
end
def uz(O:List Prop):Prop:=∀k∈O,k
def a2{V:Type}(w:iF V)(n:Option V):Prop:=∀be O t mo db,w be O=o (t,mo,db)→uz db→n=o t∧uz O
section
variable{V bg:Type}{X:ea}{cA:l'}{aB:hN}{A:List (Option K)}{ax:List Nat}{f:af}
theorem a2.g{n:Option V}:a2 mi n:=fun _ _ _ _ _ b=>nomatch b
theorem a2.b{z:Option V}:a2 (ez z) z:=fun be O t mo db b s=>by
 rcases z with _|u;·exact nomatch b
 ·obtain⟨rfl,c⟩:=bw (aJ b);obtain⟨_,rfl⟩:=bw c;exact⟨rfl,s⟩
theorem a2.d{z:iF V}{eX:Option V}{w:V→iF bg}{E:V→Option bg}(c:a2 z eX)(v:∀g,a2 (w g) (E g)):a2 (gB z w) (eX.bind E):=fun be O t mo db b s=>by
 rcases u:z be O with _|⟨g,Ch,oV⟩;·unfold gB at b;rw[u]at b;exact nomatch b
 ·unfold gB at b;rw[u]at b;obtain⟨H,L⟩:=v g _ _ _ _ _ b s;obtain⟨rfl,bh⟩:=c _ _ _ _ _ u L;exact⟨H,bh⟩
theorem uz.b{k:Prop}{O:List Prop}(c:uz (k::O)):k∧uz O:=⟨c k (dY ..),fun u cw=>c u (e6 _ cw)⟩
theorem a2.j{aI:j6→Option V}{n:Option V}:a2 (qN aI n) n:=fun be O t mo db b s=>by
 have hr:∀Ch,(n.bind fun g=>o (g,Ch,O))=o (t,mo,db)→n=o t∧uz O:=fun Ch b=>a2.b Ch O t mo db b s;rcases be with _|⟨F,be⟩;·exact hr _ b
 ·unfold qN at b;dsimp only at b;rcases u:aI F with _|g;·rw[u]at b;exact hr _ b
  ·rw[u]at b;obtain⟨rfl,c⟩:=bw (aJ b);obtain⟨_,rfl⟩:=bw c;exact s.b
theorem a2.e{w:iF V}{n cf:Option V}(c:a2 w n)(b:n=cf):a2 w cf:=b▸c
theorem acZ{z:bJ V}{E:V→af→bJ bg}:bU z E=z.bind fun t=>(match t with|(u,f)=>(match u with|.error d=>o (.error d,f)|.ok g=>E g f)):=by rcases z with _|⟨u,f⟩<;>rfl
theorem a2.c{z:e' V}{eX:bJ V}{w:V→af→e' bg}{E:V→af→bJ bg}(c:a2 z eX)(v:∀g f,a2 (w g f) (E g f)):a2 (fs z w) (bU eX E):=a2.e (c.d fun k=>by
 obtain⟨u,f⟩:=k;rcases u with d|g;·exact a2.b
 ·exact v g f) acZ.symm
theorem acY{z:bJ V}{E:V→af→Option bV}:gy z E=z.bind fun t=>(match t with|(u,f)=>(match u with|.error d=>o (.c d f)|.ok g=>E g f)):=by rcases z with _|⟨u,f⟩<;>rfl
theorem a2.i{z:e' V}{eX:bJ V}{w:V→af→iG}{E:V→af→Option bV}(c:a2 z eX)(v:∀g f,a2 (w g f) (E g f)):a2 (nv z w) (gy eX E):=a2.e (c.d fun k=>by
 obtain⟨u,f⟩:=k;rcases u with d|g;·exact a2.b
 ·exact v g f) acY.symm
theorem acW{z:Option bV}{E:List (Option K)→af→Option bV}:fG z E=z.bind fun n=>(match n with|.b A f=>E A f|n=>o n):=by rcases z with _|n<;>rfl
theorem a2.m{z:iG}{eX:Option bV}{w:gx}{E:List (Option K)→af→Option bV}(c:a2 z eX)(v:∀g f,a2 (w g f) (E g f)):a2 (At z w) (fG eX E):=a2.e (c.d fun n=>by
 rcases n with⟨A,f⟩|⟨A,f⟩|⟨d,f⟩|⟨k,f⟩;·exact v A f
 ·exact a2.b
 ·exact a2.b
 ·exact a2.b) acW.symm
theorem amY{z:Option bV}{E:List (Option K)→af→Option bV}:h6 z E=z.bind fun n=>(match n with|.b A f=>E A f|.e A f=>E A f|n=>o n):=by rcases z with _|n<;>rfl
theorem a2.r{z:iG}{eX:Option bV}{w:gx}{E:List (Option K)→af→Option bV}(c:a2 z eX)(v:∀g f,a2 (w g f) (E g f)):a2 (Ks z w) (h6 eX E):=a2.e (c.d fun n=>by
 rcases n with⟨A,f⟩|⟨A,f⟩|⟨d,f⟩|⟨k,f⟩;·exact v A f
 ·exact v A f
 ·exact a2.b
 ·exact a2.b) amY.symm
theorem a2.l{d:K}{w:Bool→iF V}{E:Bool→Option V}(v:∀s,a2 (w s) (E s)):a2 (vF d w) ((ki d).bind E):=a2.b.d v
theorem a2.k{s:Bool}{ad l:iF V}{hb f2:Option V}(c:a2 ad hb)(v:a2 l f2):a2 (ow s ad l) (an s hb f2):=by
 rcases s;·exact v
 ·exact c
theorem a2.p{aI:j6→Option M}{n:Option M}:a2 (F5 aI n f) (cI (n.map .b) f):=a2.e (a2.j.d fun k=>a2.b) (by rcases n<;>rfl)
theorem a2.q{w:M→af→e' (Option M)}{E:M→af→bJ (Option M)}(c:∀k f,a2 (w k f) (E k f))(p:List M):∀(aE:List M)(f:af),a2 (Ek w p aE f) (ny E p aE f):=by induction p with|nil=>exact fun aE f=>a2.b (z:=cW aE f)|cons k t ak=>exact fun aE f=>(c k f).c fun l f=>ak _ f
theorem a2.t{w:M→af→e' (Option M)}{E:M→af→bJ (Option M)}(c:∀k f,a2 (w k f) (E k f))(g':Bool)(d:K)(f:af):a2 (D7 g' w d f) (uJ g' E d f):=by
 rcases g';·
  refine a2.e (a2.b.d (E:=fun p=>Mine.bU (ny E p [] f) u7) fun p=>(a2.q c p [] f).c fun p f=>a2.b) ?_;rcases d with k|_|_;·show((s9 k).bind _).bind _=(s9 k).bind _;rw[Option.bind_assoc]
  ·rfl
  ·rfl
 ·refine a2.e (a2.b.d (E:=fun p=>Fh f (Mine.bU (ny E (qx p 0) [] []) u7)) fun p=>((a2.q c _ [] []).c fun p f=>a2.b).d fun t=>a2.b) ?_;show((mN f d).bind _).bind _=(mN f d).bind _;rw[Option.bind_assoc]
end
end
section
open PySem
section
variable{V bg:Type}{X:ea}{cA:l'}{aB:hN}{ax:List Nat}
theorem anJ(hp:∀w ag f,a2 (cA w ag f) (X w ag f))(z:i')(G:K)(d:bF)(aM:List K)(f:af):a2 (SN cA X z G d aM f) (jM X z G d aM f):=by
 rcases z with _|_|_|w;·exact a2.j
 ·exact a2.j
 ·exact a2.j
 ·exact hp w _ _
theorem ad2(hp:∀w ag f,a2 (cA w ag f) (X w ag f)){aM:af→e' (List K)}{q_:af→bJ (List K)}(c:∀f,a2 (aM f) (q_ f))(k:M)(f:af):a2 (PO cA aM k f) (DZ X q_ k f):=by
 rcases k with _|_|_|_|_|_|_|_|i|e|_;all_goals first|exact a2.g|skip
 ·exact(c f).c fun ag f=>hp _ ag f
 ·exact(c f).c fun ag f=>a2.j.d fun d=>a2.b
theorem a2.s(bH:pU){s:Bool}{d:K}{f:af}{ad:e' K}{l:bJ K}(c:a2 ad l):a2 (match bH with|.And=>ow s ad (mj d f)|.Or=>ow s (mj d f) ad) (rH bH s (cW d f) l):=by
 rcases bH;·exact a2.k c a2.b
 ·exact a2.k a2.b c
def hf(g:eY)(e:ee):Prop:=(∀A ax f,a2 (g.b A ax f) (e.b A ax f))∧(∀A ax f,a2 (g.c A ax f) (e.c A ax f))
theorem hf.b{w:List (Option K)→List Nat→af→e' K}{E:List (Option K)→List Nat→af→bJ K}(c:∀A ax f,a2 (w A ax f) (E A ax f)):hf ⟨w,kc⟩ ⟨E,h7⟩:=⟨c,fun _ _ _=>a2.g⟩
theorem hf.c{b:aZ}(c:∀A ax f,(gz X aB b).c A ax f=U):hf (uC X aB b) (gz X aB b):=⟨fun _ _ _=>a2.b,fun A ax f=>c A ax f▸a2.g⟩
theorem a2.u{n:Option Bool}{aI:j6→Option Bool}{w E:e' K}{ad l:bJ K}(c:a2 w ad)(v:a2 E l):a2 (gB (qN aI n) fun s=>ow s w E) (Fc n ad l):=a2.j.d fun _=>a2.k c v
theorem Pu{n:Option Bool}{f:af}:(n.bind fun s=>cW (K.b (.g s)) f)=cI (n.map fun s=>K.b (.g s)) f:=by rcases n<;>rfl
theorem uO(hp:∀w ag f,a2 (cA w ag f) (X w ag f))(b:aZ):hf (kH cA X aB b) (gz X aB b):=by induction b with
 |b k=>exact hf.c fun _ _ _=>rfl
 |c i=>exact hf.c fun _ _ _=>rfl
 |v i=>exact hf.c fun _ _ _=>rfl
 |f bH g e k0 ng=>exact hf.b fun A ax f=>(k0.1 A ax f).c fun d f=>(ng.1 A ax f).c fun G f=>a2.p
 |t g ak=>exact hf.b fun A ax f=>(ak.1 A ax f).c fun d f=>a2.b
 |A g ak=>exact hf.b fun A ax f=>(ak.1 A ax f).c fun d f=>a2.b
 |s g ak=>exact hf.b fun A ax f=>(ak.1 A ax f).c fun d f=>a2.l fun s=>a2.b
 |p bH g e k0 ng=>exact hf.b fun A ax f=>(k0.1 A ax f).c fun d f=>a2.l fun s=>a2.s bH (ng.1 A ax f)
 |m q g e zH k0 ng=>exact hf.b fun A ax f=>(zH.1 A ax f).c fun d f=>a2.l fun s=>a2.k (k0.1 A ax f) (ng.1 A ax f)
 |i bH g e k0 ng=>exact hf.b fun A ax f=>(k0.1 A ax f).c fun d f=>(ng.1 A ax f).c fun G f=>(a2.j.d fun s=>a2.b).e Pu
 |z g hs e ix q k0 ng zH=>exact hf.b fun A ax f=>(k0.1 A ax f).c fun d f=>(ng.1 A ax f).c fun G f=>a2.u ((zH.1 A ax f).c fun m f=>(a2.j.d fun s=>a2.b).e Pu) a2.b
 |g w aM X7 k0=>exact hf.b fun A ax f=>(X7.1 A ax f).c fun d f=>a2.e (a2.b.d (E:=fun k=>DZ X (mM X aB aM A ax) k f) fun k=>ad2 hp (k0.2 A ax) k f) (by rcases d<;>rfl)
 |j n d aM zI k0=>exact hf.b fun A ax f=>(zI.1 A ax f).c fun G f=>a2.b.d fun z=>(k0.2 A ax f).c fun ag f=>anJ hp z G d ag f
 |l n d ak=>exact hf.b fun A ax f=>(ak.1 A ax f).c fun G f=>a2.b
 |k n i zI X8=>exact hf.b fun A ax f=>(zI.1 A ax f).c fun d f=>(X8.1 A ax f).c fun G f=>a2.p
 |q n p ad zI X9 X'=>exact hf.b fun A ax f=>(zI.1 A ax f).c fun d f=>(X9.1 A ax f).c fun G f=>(X'.1 A ax f).c fun m f=>a2.p
 |n az ak=>exact hf.b fun A ax f=>(ak.2 A ax f).c fun ag f=>a2.b
 |r az ak=>exact hf.b fun A ax f=>(ak.2 A ax f).c fun ag f=>a2.b
 |x az ak=>exact hf.b fun A ax f=>(ak.2 A ax f).c fun ag f=>a2.b
 |u c7 nZ a' eG X6 zH X_=>
  refine hf.b fun A ax f=>?_;have ft:a2 (fs ((kH cA X aB a').b A ax f) (D7 eG (LF eG (kH cA X aB nZ) (kH cA X aB c7) (an eG [] ax)))) (d_ X aB (.u c7 nZ a' eG) A ax f):=(X_.1 A ax f).c fun d f=>a2.t (fun k f=>a2.b.d fun cM=>(zH.1 cM _ f).c fun G f=>a2.l fun s=>a2.k ((X6.1 cM _ f).c fun l f=>a2.b) a2.b) eG d f;intro be O t mo db b s;rcases be with _|⟨F,be⟩;·exact ft _ _ _ _ _ b s
  ·dsimp only at b;rcases u:Rp F with _|g;·rw[u]at b;exact ft _ _ _ _ _ b s
   ·rw[u]at b;obtain⟨rfl,c⟩:=bw (aJ b);obtain⟨_,rfl⟩:=bw c;exact s.b
 |y b f0 ak=>exact hf.c fun _ _ _=>rfl
 |w=>exact hf.c fun _ _ _=>rfl
 |e=>exact⟨fun _ _ _=>a2.g,fun _ _ f=>a2.b (z:=cW [] f)⟩
 |d g e k0 ng=>exact⟨fun _ _ _=>a2.g,fun A ax f=>(k0.1 A ax f).c fun d f=>(ng.2 A ax f).c fun ag f=>a2.b⟩
 |D=>exact hf.c fun _ _ _=>rfl
end
end
section
open PySem
section
variable{X:ea}{cA:l'}{aB:hN}{ax:List Nat}
def tv(g:pg)(e:oj):Prop:=(∀l A f,a2 (g.b l A f) (e.c l A f))∧(∀l A f,a2 (g.c l A f) (e.b l A f))
theorem tv.d{w:K→gx}{E:K→List (Option K)→af→Option bV}(c:∀l A f,a2 (w l A f) (E l A f)):tv ⟨w,A'⟩ ⟨E,x'⟩:=⟨c,fun _ _ _=>a2.g⟩
theorem anw{V bg:Type}{n:Option V}{w:V→bg}:(n.bind fun g=>o (w g))=n.map w:=by rcases n<;>rfl
theorem a2.f{V:Type}{k:Prop}[Decidable k]{ad:iF V}{l:Option V}(c:a2 ad l):a2 (if k then ad else mi) (if k then l else U):=by
 by_cases u:k;·rw[if_pos u,if_pos u];exact c
 ·rw[if_neg u];exact a2.g
theorem arL(l:K)(r:Nat)(E:List K→Option bV):((ed l fun k=>Fx k fun T=>if r=T.length then o T else U).bind fun T=>E (T.map .b))=ed l (LE r E):=by
 rcases l with k|_|_;·
  rcases k with _|_|_|_|T|_|_|_|_|_|_;all_goals first|rfl|skip
  show((if r=T.length then o T else U).bind _)=if r=T.length then _ else U;by_cases c:r=T.length;·rw[if_pos c,if_pos c];rfl
  ·rw[if_neg c,if_neg c];rfl
 ·rfl
 ·rfl
theorem Ap(hp:∀w ag f,a2 (cA w ag f) (X w ag f))(s:dO):tv (w2 cA X aB ax s) (w3 X aB ax s):=by induction s with|b i=>exact tv.d fun _ _ _=>a2.b|i i=>exact tv.d fun _ _ _=>a2.b|f n d=>exact tv.d fun l A f=>((uO hp n).1 A ax f).i fun G f=>a2.b|g n i=>exact tv.d fun l A f=>((uO hp n).1 A ax f).i fun G f=>((uO hp i).1 A ax f).i fun Q f=>(a2.j.d fun aO=>a2.b).e anw|e aQ ak=>exact tv.d fun l A f=>(a2.b.d fun T=>ak.2 _ A f).e (arL l (h5 aQ) fun ag=>(w3 X aB ax aQ).b ag A f)|d=>exact⟨fun _ _ _=>a2.g,fun _ _ _=>a2.b⟩|c g e k0 ng=>exact⟨fun _ _ _=>a2.g,fun N A f=>(a2.b.d (E:=fun k:K×List K=>fG ((w3 X aB ax g).c k.1 A f) ((w3 X aB ax e).b k.2)) fun k=>(k0.1 k.1 A f).m fun A f=>ng.2 k.2 A f).e (by rcases N<;>rfl)⟩
theorem aiG{w:M→gx}{E:M→List (Option K)→af→Option bV}(c:∀k A f,a2 (w k A f) (E k A f))(p:List M):∀A f,a2 (JF w p A f) (jd E p A f):=by induction p with|nil=>exact fun A f=>a2.b (z:=o (bV.b A f))|cons k t ak=>exact fun A f=>(c k A f).r ak
theorem asv{q:List (Option K)→af→e' K}{w:gx}{es:List (Option K)→af→bJ K}{E:List (Option K)→af→Option bV}(bf:∀A f,a2 (q A f) (es A f))(c:∀A f,a2 (w A f) (E A f))(r:Nat):∀A f,a2 (LP q w r A f) (oK es E r A f):=by induction r with|zero=>exact fun A f=>a2.g|succ r ak=>exact fun A f=>(bf A f).i fun d f=>a2.l fun s=>a2.k ((c A f).r ak) a2.b
theorem Sx{y:a5}{z:gx}(c:∀A f,a2 (z A f) (dK X aB ax y A f))(A:List (Option K))(f:af):a2 (ER X aB ax y z A f) (dK X aB ax y A f):=fun be O t mo db b s=>by
 rcases be with _|⟨F,be⟩;·exact c _ _ _ _ _ _ _ b s
 ·unfold ER at b;dsimp only at b;rcases u:Ru F with _|g;·rw[u]at b;exact c _ _ _ _ _ _ _ b s
  ·rw[u]at b;obtain⟨rfl,c⟩:=bw (aJ b);obtain⟨_,rfl⟩:=bw c;exact s.b
theorem JA(hp:∀w ag f,a2 (cA w ag f) (X w ag f))(k:a5):∀A f,a2 (Ea cA X aB ax k A f) (dK X aB ax k A f):=by have S:=fun b A f=>(uO (aB:=aB) hp b).1 A ax f;have Gc:=fun b A f=>(uO (aB:=aB) hp b).2 A ax f;induction k with|e s b=>exact fun A f=>(S b A f).i fun l f=>(Ap hp s).1 l A f|p aQ az=>exact fun A f=>(Gc az A f).i fun N f=>a2.f ((Ap hp aQ).2 N A f)|j aQ az=>exact fun A f=>(Gc az A f).i fun N f=>a2.f ((Ap hp aQ).2 _ A f)|g b=>exact fun A f=>(S b A f).i fun l f=>a2.b|d b=>exact fun A f=>(S b A f).i fun l f=>a2.b|f q k u HK HL=>exact fun A f=>(S q A f).i fun d f=>a2.l fun s=>a2.k (HK A f) (HL A f)|k q k ak=>exact Sx fun A f=>asv (S q) ak tt A f|i g' s a' k ak=>exact Sx fun A f=>(S a' A f).i fun d f=>a2.b.d fun p=>aiG (fun dF A f=>((Ap hp s).1 _ A f).m ak) p A f|l aM=>exact fun A f=>(Gc aM A f).i fun ag f=>a2.b|n=>exact fun A f=>a2.b (z:=o (bV.e A f))|c=>exact fun A f=>a2.b (z:=o (bV.b A f))|b k u HK HL=>exact fun A f=>(HK A f).m HL|m=>exact fun A f=>a2.g
theorem FD(hp:∀w ag f,a2 (cA w ag f) (X w ag f))(F:bn)(aM:List K)(f:af):a2 (Bz cA X aB F aM f) (ju X aB F aM f):=a2.b.d fun _=>JA hp _ _ _
end
section
def apE(cA:l')(X:ea)(aB:hN)(F:bn)(aM:List K)(f:af):e' K:=ow (ph aM&&qE F) (K0 f (gB (Bz cA X aB F aM []) fun n=>ez (j_ 0 (o n)))) (gB (Bz cA X aB F aM f) fun n=>ez (j_ f.length (o n)))
def anu(cA:l')(X:ea)(aB:hN)(w:Nat)(F:bn)(gC:Bool)(aM:List K)(f:af):e' K:=match gC with|true=>gB (Bz cA X aB F (.c 0::aM) [.e w []]) fun n=>ez (u9 I 0 aM n f)|false=>gB (Bz cA X aB F (.c f.length::aM) (f++[.e w []])) fun n=>ez (u9 C f.length aM n f)
def PP(cA:l')(X:ea)(aB:hN)(d:K)(f:af):e' K:=match d with|.d b eK=>fs ((kH cA X aB b).b [] eK f) fun d f=>ez (ed d fun k=>cW (.b k) f)|_=>mi
def alH(t:Except M K×af):bJ K:=xU (o t)
def xX(R:lF)(X:ea)(cA:l')(w:Nat)(aM:List K)(f:af):e' K:=match R.c w with|.b F=>apE cA X R.b F aM f|.c _ F gC=>anu cA X R.b w F gC aM f|.e=>gB (ez (mb aM o)) fun d=>gB (PP cA X R.b d f) fun t=>ez (alH t)|.d=>mi
def b_(R:lF)(w v:Nat)(ag:List K)(t:Except M M):Prop:=∀r f,bp R (r+v) w ag f=o (t.map .b,f)
def dH(R:lF)(w v:Nat)(ag:List K)(f:af)(t:bJ K):Prop:=∀r,bp R (r+v) w ag f=t
noncomputable def FY(R:lF)(r w:Nat)(aM:List K)(f:af)(F:j6):Option (bJ K×Prop):=match F with|.f E v t=>if E=w∧v≤r then o (o (t.map .b,f),b_ R w v aM t)else U|.b E v t=>if E=w∧v≤r then o (t,dH R w v aM f t)else U|_=>U
def aqv(R:lF)(X:ea)(r:Nat)(cA:l'):l':=fun w aM f be O=>match be with|[]=>xX R X cA w aM f [] O|F::be=>match FY R r w aM f F with|some u=>u.1.bind fun t=>o (t,be,u.2::O)|none=>xX R X cA w aM f (F::be) O
def lH(R:lF)(z r:Nat):l':=Nat.rec (motive:=fun _=>l') (fun _ _ _=>mi) (fun v cA=>aqv R (bp R (z+v)) (v+1) cA) r
end
theorem arD{R:lF}{z r w:Nat}{aM:List K}{f:af}{F:j6}{u:bJ K×Prop}(b:FY R r w aM f F=o u)(c:u.2):bp R (z+r) w aM f=u.1:=by
 have aS:∀v,v≤r→z+r=z+(r-v)+v:=fun v ar=>by rw[lk,L9 ar]
 rcases F with⟨E,v,t⟩|⟨E,v,t⟩|_|_|_|_|_|_|_|_|_;·
  by_cases q:E=w∧v≤r;·obtain rfl:=aJ ((if_pos q).symm.trans b);rw[aS v q.2];exact c _ f
  ·exact nomatch(if_neg q).symm.trans b
 ·by_cases q:E=w∧v≤r;·obtain rfl:=aJ ((if_pos q).symm.trans b);rw[aS v q.2];exact c _
  ·exact nomatch(if_neg q).symm.trans b
 all_goals exact nomatch b
theorem QN{r:Nat}{n:Option bV}:(n.bind fun n=>j_ r (o n))=j_ r n:=by rcases n<;>rfl
theorem a2.v{z:e' K}{eX:bJ K}{f:af}(c:a2 z eX):a2 (K0 f z) (Fh f eX):=c.d fun _=>a2.b
theorem ad5{cA:l'}{X:ea}{aB:hN}(hp:∀w ag f,a2 (cA w ag f) (X w ag f))(d:K)(f:af):a2 (PP cA X aB d f) (sS X aB d f):=by
 rcases d with _|_|⟨b,eK⟩;·exact a2.g
 ·exact a2.g
 ·exact((uO hp b).1 _ _ _).c fun d f=>a2.b
theorem alP{R:lF}{cA:l'}{X:ea}(hp:∀w ag f,a2 (cA w ag f) (X w ag f))(w:Nat)(aM:List K)(f:af):a2 (xX R X cA w aM f) (pj R X w aM f):=by
 unfold xX pj;rcases R.c w with F|⟨i,F,gC⟩|_|_;·exact a2.k (((FD hp F aM []).d fun n=>a2.b).e QN).v (((FD hp F aM f).d fun n=>a2.b).e QN)
 ·rcases gC;·exact(FD (aB:=R.b) hp F (.c f.length::aM) (f++[.e w []])).d (E:=fun n=>u9 C f.length aM n f) fun n=>a2.b
  ·exact(FD (aB:=R.b) hp F (.c 0::aM) [.e w []]).d (E:=fun n=>u9 I 0 aM n f) fun n=>a2.b
 ·refine(a2.b.d (E:=fun d=>xU (sS X R.b d f)) fun d=>((ad5 hp d f).d fun t=>a2.b).e (by rcases sS X R.b d f<;>rfl)).e ?_;rcases aM with _|⟨d,_|_⟩<;>rfl
 ·exact a2.g
theorem Az(R:lF)(z r:Nat):∀w ag f,a2 (lH R z r w ag f) (bp R (z+r) w ag f):=by induction r with|zero=>exact fun _ _ _=>a2.g|succ r ak=>
 intro w ag f be O t mo db b s;have ft:a2 (xX R (bp R (z+r)) (lH R z r) w ag f) (bp R (z+(r+1)) w ag f):=alP ak w ag f;rcases be with _|⟨F,be⟩;·exact ft _ _ _ _ _ b s
 ·replace b:(match FY R (r+1) w ag f F with|some u=>u.1.bind fun t=>o (t,be,u.2::O)|none=>xX R (bp R (z+r)) (lH R z r) w ag f (F::be) O)=o (t,mo,db):=b;rcases u:FY R (r+1) w ag f F with _|⟨g,k⟩;·rw[u]at b;exact ft _ _ _ _ _ b s
  ·rw[u]at b;obtain⟨ds,rfl,aK⟩:=Option.bind_eq_some_iff.1 b;obtain⟨rfl,c⟩:=bw (aJ aK);obtain⟨_,rfl⟩:=bw c;exact⟨arD (z:=z) u s.b.1,s.b.2⟩
end
section
open PySem
structure B where
 y:j6
 x:Prop
 z:x
theorem ZF(bP:List B):uz (bP.map (·.x)).reverse:=fun k al=>by obtain⟨w,_,rfl⟩:=pN.1 (List.mem_reverse.1 al);exact w.z
abbrev sQ{V:Type}(w:iF V)(bP:List B)(t:V):Prop:=w (bP.map (·.y)) []=o (t,[],(bP.map (·.x)).reverse)
theorem a2.n{V:Type}{w:iF V}{n:Option V}{t:V}(c:a2 w n){bP:List B}(b:sQ w bP t):n=o t:=(c _ _ _ _ _ b (ZF bP)).1
section
variable{R:lF}{w:Nat}{ag:List K}{f:af}{t:Except M K×af}
theorem iX(r:Nat)(bP:List B)(z:Nat)(b:sQ (lH R z r w ag f) bP t):bp R (z+r) w ag f=o t:=(Az R z r w ag f).n b
theorem ck{t:Except M M}(r:Nat)(bP:List B)(b:∀z f,sQ (lH R z r w ag f) bP (t.map .b,f)):b_ R w r ag t:=fun z f=>iX r bP z (b z f)
theorem f'(r:Nat)(bP:List B)(b:∀z,sQ (lH R z r w ag f) bP t):dH R w r ag f (o t):=fun z=>iX r bP z (b z)
end
theorem fX{R:lF}{aB:hN}{ax:List Nat}{s:dO}{k:a5}{dF:M}{A:List (Option K)}{f:af}{n:bV}(r:Nat)(bP:List B)(z:Nat)(b:sQ (At ((w2 (lH R z r) (bp R (z+r)) aB ax s).b (.b dF) A f) (Ea (lH R z r) (bp R (z+r)) aB ax k)) bP n):fG (g0 (bp R (z+r)) aB ax s (.b dF) A f) (dK (bp R (z+r)) aB ax k)=o n:=(((Ap (Az R z r) s).1 _ A f).m fun A f=>JA (Az R z r) k A f).n b
section
variable{R:lF}{w Q:Nat}{ag:List K}{f aO:af}{d G m:K}{X:ea}{aB:hN}{ax:List Nat}{A:List (Option K)}
noncomputable abbrev B.E(c:Bn d G m f=o aO):B:=⟨.l aO,_,c⟩
noncomputable abbrev B.j{t:Except M M}(c:b_ R w Q ag t):B:=⟨.f w Q t,_,c⟩
noncomputable abbrev B.p{t:bJ K}(c:dH R w Q ag f t):B:=⟨.b w Q t,_,c⟩
noncomputable abbrev B.q{n:pV}{k:M}(c:fF n d G=o k):B:=⟨.d n k,_,c⟩
noncomputable abbrev B.i{n:jh}{k:Bool}(c:bI n f d G=o k):B:=⟨.e n k,_,c⟩
noncomputable abbrev B.u{e:i9}{k:K}(c:h2 e f ag=o k):B:=⟨.g e k,_,c⟩
noncomputable abbrev B.s{j3:i'}{g:bF}{t:Except M K×af}(c:jM X j3 G g ag f=o t):B:=⟨.j g (o t),_,c⟩
noncomputable abbrev B.l{k:M}(c:hR f d G=o k):B:=⟨.k k,_,c⟩
noncomputable abbrev B.r{k:M}(c:hQ d G m=o k):B:=⟨.i k,_,c⟩
noncomputable abbrev B.D{b:aZ}{t:Except M K×af}(c:d_ X aB b A ax f=o t):B:=⟨.c (o t),_,c⟩
noncomputable abbrev B.v{k:a5}{n:bV}(c:dK X aB ax k A f=o n):B:=⟨.m n,_,c⟩
end
end
section
open PySem
noncomputable def A3:List (List Nat):=[[43,61],[45,61],[42,61],[47,61],[124,61],[38,61],[60,60,61],[62,62,61],[37,61],[94,61],[61],[115,62,62,61],[115,47,61],[115,37,61],[61,61],[62],[62,61],[38],[33,61],[115,62],[115,62,61],[60],[60,61],[115,60],[115,60,61],[40],[41],[42],[43],[45],[44],[35],[47,47],[108,101,49,54],[108,101,51,50],[108,101,54,52],[98,101,49,54],[98,101,51,50],[98,101,54,52],[98,115,119,97,112,49,54],[98,115,119,97,112,51,50],[98,115,119,97,112,54,52],[97,116,111,109,105,99,95,102,101,116,99,104,95,97,100,100],[97,116,111,109,105,99,95,102,101,116,99,104,95,111,114],[97,116,111,109,105,99,95,102,101,116,99,104,95,97,110,100],[97,116,111,109,105,99,95,102,101,116,99,104,95,120,111,114],[117,56],[117,49,54],[117,51,50],[117,54,52],[115,56],[115,49,54],[115,51,50],[115,54,52],[103,111,116,111],[103,111,116,111,108],[105,102],[108,108],[109,97,112],[108,111,99,107],[101,120,105,116],[112,99],[99,97,108,108],[120,99,104,103,95,54,52],[120,99,104,103,51,50,95,51,50],[99,109,112,120,99,104,103,95,54,52],[99,109,112,120,99,104,103,51,50,95,51,50],[110,97,109,101,95,120],[48,120],[114,49,49]]
def aF:Type:=Nat
namespace aF
noncomputable abbrev H:aF:=(0:Nat)
noncomputable abbrev aO:aF:=(1:Nat)
noncomputable abbrev aC:aF:=(2:Nat)
noncomputable abbrev aj:aF:=(3:Nat)
noncomputable abbrev T:aF:=(4:Nat)
noncomputable abbrev Q:aF:=(5:Nat)
noncomputable abbrev az:aF:=(6:Nat)
noncomputable abbrev aI:aF:=(7:Nat)
noncomputable abbrev aB:aF:=(8:Nat)
noncomputable abbrev Y:aF:=(9:Nat)
noncomputable abbrev c:aF:=(10:Nat)
noncomputable abbrev Z:aF:=(11:Nat)
noncomputable abbrev V:aF:=(12:Nat)
noncomputable abbrev aN:aF:=(13:Nat)
noncomputable abbrev S:aF:=(14:Nat)
noncomputable abbrev ar:aF:=(15:Nat)
noncomputable abbrev ap:aF:=(16:Nat)
noncomputable abbrev P:aF:=(17:Nat)
noncomputable abbrev aG:aF:=(18:Nat)
noncomputable abbrev X:aF:=(19:Nat)
noncomputable abbrev aK:aF:=(20:Nat)
noncomputable abbrev aA:aF:=(21:Nat)
noncomputable abbrev au:aF:=(22:Nat)
noncomputable abbrev aM:aF:=(23:Nat)
noncomputable abbrev aL:aF:=(24:Nat)
noncomputable abbrev d:aF:=(25:Nat)
noncomputable abbrev e:aF:=(26:Nat)
noncomputable abbrev g:aF:=(27:Nat)
noncomputable abbrev f:aF:=(28:Nat)
noncomputable abbrev i:aF:=(29:Nat)
noncomputable abbrev j:aF:=(30:Nat)
noncomputable abbrev m:aF:=(31:Nat)
noncomputable abbrev n:aF:=(32:Nat)
noncomputable abbrev av:aF:=(33:Nat)
noncomputable abbrev aw:aF:=(34:Nat)
noncomputable abbrev ax:aF:=(35:Nat)
noncomputable abbrev R:aF:=(36:Nat)
noncomputable abbrev ad:aF:=(37:Nat)
noncomputable abbrev ae:aF:=(38:Nat)
noncomputable abbrev ag:aF:=(39:Nat)
noncomputable abbrev ah:aF:=(40:Nat)
noncomputable abbrev ai:aF:=(41:Nat)
noncomputable abbrev ak:aF:=(42:Nat)
noncomputable abbrev am:aF:=(43:Nat)
noncomputable abbrev al:aF:=(44:Nat)
noncomputable abbrev ao:aF:=(45:Nat)
noncomputable abbrev F:aF:=(46:Nat)
noncomputable abbrev O:aF:=(47:Nat)
noncomputable abbrev w:aF:=(48:Nat)
noncomputable abbrev x:aF:=(49:Nat)
noncomputable abbrev N:aF:=(50:Nat)
noncomputable abbrev E:aF:=(51:Nat)
noncomputable abbrev J:aF:=(52:Nat)
noncomputable abbrev L:aF:=(53:Nat)
noncomputable abbrev k:aF:=(54:Nat)
noncomputable abbrev q:aF:=(55:Nat)
noncomputable abbrev r:aF:=(56:Nat)
noncomputable abbrev l:aF:=(57:Nat)
noncomputable abbrev v:aF:=(58:Nat)
noncomputable abbrev s:aF:=(59:Nat)
noncomputable abbrev u:aF:=(60:Nat)
noncomputable abbrev t:aF:=(61:Nat)
noncomputable abbrev p:aF:=(62:Nat)
noncomputable abbrev y:aF:=(63:Nat)
noncomputable abbrev D:aF:=(64:Nat)
noncomputable abbrev A:aF:=(65:Nat)
noncomputable abbrev z:aF:=(66:Nat)
noncomputable abbrev aE:aF:=(67:Nat)
noncomputable abbrev G:aF:=(68:Nat)
noncomputable abbrev aH:aF:=(69:Nat)
noncomputable def b(v:aF):List Nat:=A3.getD v []
end aF
noncomputable def eQ:Nat:=70
inductive aV where|fT(x:Bool)(r:Nat)|en(c:Bool)(l:Nat)|b0(v:aF)
def ce(F:Nat):Nat:=an (eS F 10) (48+F) (87+F)
def xb(e:Nat):Nat→Nat→List Nat→List Nat|0,_,aE=>aE|w+1,l,aE=>an (eS l e) (l::aE) (xb e w (l/e) (l%e::aE))
def jJ(e l:Nat):List Nat:=xb e (l+1) l []
def hP(e:Bool):Nat:=an e 16 10
def aV.bT(s:aV):List Nat:=match s with|.fT x r=>an x 119 114::an (bR r 10) [49,48] [48+r]|.en c l=>an c [48,120] []++(jJ (hP c) l).map ce|.b0 v=>v.b
abbrev gn:=Nat→Option aV
def dq(n:Option aV):List Nat:=match n with|some s=>s.bT|none=>[]
def aV.d9(s:aV):Prop:=match s with|.fT _ r=>r≤10|.en _ l=>l<2^70|.b0 v=>qZ v eQ
noncomputable def A2(s:aV):Option aF:=match s with|.b0 v=>o v|_=>U
noncomputable def bd(v:aF)(n:Option aV):Bool:=match n.bind A2 with|some Q=>bR Q v|none=>C
end
section
open PySem
abbrev cY:=Int×Int×Int×Int×Int×Int
abbrev c5(V:Type):=Option V×Nat
noncomputable def cl{V bg:Type}(d:c5 V)(w:V→Nat→c5 bg):c5 bg:=match d with|(n,Q)=>(match n with|some g=>w g Q|none=>(U,Q))
def hj{V:Type}(q:Bool)(g:V)(Q:Nat):c5 V:=an q (o g,Q) (U,Q)
def eo(e:Bool):Int:=an e 32 64
def fV(e:Bool):Int:=an e 4 7
abbrev dt:=Bool×Bool
def qV{V:Type}(g e q F:V)(d:dt):V:=an d.1 (an d.2 F q) (an d.2 e g)
def fK:dt→Int:=qV 16 8 0 24
def eB:dt→Int:=qV 1 2 4 8
noncomputable def Li(s:aV):Option (Bool×Nat):=match s with|.fT x r=>o (x,r)|_=>U
noncomputable def Bc(s:aV):Option Nat:=match s with|.en _ l=>o l|_=>U
noncomputable def py(n:Option aV):Option (Bool×Nat):=n.bind Li
noncomputable def mR(n:Option aV):Option Nat:=n.bind Bc
noncomputable def kL(n:Option aV):Bool:=(py n).isSome
def u1(g e l:Int):Bool:= @a6 (g≤l∧l<e) (Classical.propDecidable _)
theorem s6{g e l:Int}:u1 g e l=I↔g≤l∧l<e:= @decide_eq_true_iff _ (Classical.propDecidable _)
def nx:Int→Bool:=u1 (-32768) 32768
def iS:Int→Bool:=u1 (-2147483648) 2147483648
def uQ:Int→Bool:=u1 (-9223372036854775808) 18446744073709551616
noncomputable def im(n:Option aV):Bool:=bd .f n||bd .i n
noncomputable def St{V:Type}(p:List (aF×V))(v:aF):Option V:=(p.find? fun b=>bR b.1 v).map (·.2)
noncomputable def cZ{V:Type}(p:List (aF×V))(n:Option aV):Option V:=(n.bind A2).bind (St p)
noncomputable def oL:Option aV→Option (Bool×dt):=cZ [(.F,(C,C,C)),(.O,(C,C,I)),(.w,(C,I,C)),(.x,(C,I,I)),(.N,(I,C,C)),(.E,(I,C,I)),(.J,(I,I,C)),(.L,(I,I,I))]
noncomputable def jb:List (aF×Nat):=[(.H,0),(.aO,1),(.aC,2),(.aj,3),(.T,4),(.Q,5),(.az,6),(.aI,7),(.aB,9),(.Y,10),(.c,11),(.Z,12),(.V,15),(.aN,16)]
noncomputable def DO:Option aV→Option Nat:=cZ jb
noncomputable def ii:List (aF×Nat):=[(.S,1),(.ar,2),(.ap,3),(.P,4),(.aG,5),(.X,6),(.aK,7),(.aA,10),(.au,11),(.aM,12),(.aL,13)]
noncomputable def aes:Option aV→Option Nat:=cZ ii
noncomputable def lP:List (aF×Nat):=[(.H,0),(.T,4),(.Q,5),(.Y,10)]
noncomputable def s':Option aV→Option Nat:=cZ lP
noncomputable def iT:List (aF×Nat):=[(.ak,0),(.am,4),(.al,5),(.ao,10)]
noncomputable def JM:Option aV→Option Nat:=cZ iT
noncomputable def jN:List (aF×Nat):=[(.av,0),(.aw,1),(.ax,2),(.R,3),(.ad,4),(.ae,5),(.ag,6),(.ah,7),(.ai,8)]
noncomputable def LA:Option aV→Option Nat:=cZ jN
noncomputable def vH:List (aF×Bool×dt):=[(.y,(C,I,I)),(.D,(C,I,C)),(.A,(I,I,I)),(.z,(I,I,C))]
noncomputable def LT:Option aV→Option (Bool×dt):=cZ vH
noncomputable def nE(q:Nat):Bool:=(gd 65 q&&gd q 90)||(gd 97 q&&gd q 122)||Nat.beq q 95||Nat.beq q 46||Nat.beq q 36
noncomputable def j9(q:Nat):Bool:=gd 48 q&&gd q 57
noncomputable def lN(y:List Nat)(k:Nat→Bool):Bool:=match y with|q::_=>k q|[]=>C
def pt(n:Option aV):Bool:=lN (dq n) nE
def fN(l:Int):Int:=an (a6 (2147483648≤l%4294967296)) (l%4294967296-4294967296) (l%4294967296)
noncomputable def co{V bg:Type}(n:Option V)(w:V→bg)(ad:bg):bg:=match n with|some g=>w g|none=>ad
section
variable(x:gn)
noncomputable def oC(i:Nat):c5 (Bool×Nat):=co (py (x i)) (fun t=>(o t,i+1)) (U,i)
def hk(e:Bool)(i:Nat):c5 Nat:=cl (oC x i) fun t Q=>hj (t.1==e) t.2 Q
noncomputable def ke(i:Nat):c5 Nat:=co (mR (x i)) (fun l=>(o l,i+1)) (U,i)
def fJ(fu:Int→Bool)(i:Nat):c5 Int:=an (bd .i (x i)) (cl (ke x (i+1)) fun l Q=>hj (fu (-(l:Int))) (-(l:Int)) Q) (cl (ke x (an (bd .f (x i)) (i+1) i)) fun l Q=>hj (fu l) (l:Int) Q)
def fo(v:aF)(i:Nat):c5 Unit:=an (bd v (x i)) (o (),i+1) (U,i)
def vm(ad y:Bool)(i:Nat):c5 (Bool×dt):=co (oL (x i)) (fun d=>hj (an d.1 y ad) d (i+1)) (U,i+1)
end
section
variable(x:gn)
def tj(i:Nat):c5 (Nat×Int):=cl (hk x C i) fun r Q=>an (im (x Q)) (cl (fJ x nx Q) fun l v=>(o (r,l),v)) (U,Q)
def nG(y:Bool)(i:Nat):c5 ((Bool×dt)×Nat×Int):=cl (fo x .g i) fun _ i=>cl (fo x .d i) fun _ i=>cl (vm x I y i) fun d i=>cl (fo x .g i) fun _ i=>cl (fo x .e i) fun _ i=>cl (fo x .d i) fun _ i=>cl (tj x i) fun k i=>cl (fo x .e i) fun _ i=>(o (d,k),i)
def yg(i:Nat):c5 (Int×List Nat):=an (im (x i)) (cl (fJ x iS i) fun l Q=>(o (l,[]),Q)) (an (pt (x i)) (o (0,dq (x i)),i+1) (U,i))
def vj(i:Nat):c5 (cY×List Nat):=cl (yg x (i+1)) fun l Q=>an (bd .q (x i)) (o ((6,0,0,0,l.1,0),l.2),Q) (hj (nx l.1) ((5,0,0,l.1,0,0),l.2) Q)
def tk(e:Bool)(i:Nat):c5 (Bool×Int):=an (kL (x i)) (cl (hk x e i) fun r Q=>(o (I,(r:Int)),Q)) (cl (fJ x iS i) fun l Q=>(o (C,l),Q))
def vh(i:Nat):c5 (cY×List Nat):=cl (fo x .r i) fun _ i=>cl (oC x i) fun t i=>co (aes (x i)) (fun q=>cl (tk x t.1 (i+1)) fun y i=>cl (fo x .k i) fun _ i=>cl (yg x i) fun E i=>hj (nx E.1) (an y.1 (16*(q:Int)+an t.1 6 5+8,(t.2:Int),y.2,E.1,0,0) (16*(q:Int)+an t.1 6 5,(t.2:Int),0,E.1,y.2,0),E.2) i) (U,i+1)
def vi(i:Nat):c5 (cY×List Nat):=cl (fo x .p i) fun _ i=>an (bd .t (x i)&&im (x (i+1))) (cl (fJ x iS (i+1)) fun l i=>(o ((133,0,1,0,l,0),[]),i)) (an (pt (x i)) (o ((133,0,1,0,0,0),dq (x i)),i+1) (cl (fJ x iS i) fun l i=>(o ((133,0,0,0,l,0),[]),i)))
def vl(i:Nat):c5 cY:=cl (nG x C i) fun z i=>cl (fo x .c i) fun _ i=>an (kL (x i)) (cl (hk x C i) fun r i=>(o (99+fK z.1.2,(z.2.1:Int),(r:Int),z.2.2,0,0),i)) (cl (fJ x iS i) fun l i=>(o (98+fK z.1.2,(z.2.1:Int),0,z.2.2,l,0),i))
def vk(i:Nat):c5 cY:=cl (fo x .s i) fun _ i=>cl (nG x C i) fun z i=>co (s' (x i)) (fun q=>an (!z.1.2.1) (U,i+1) (cl (hk x (!z.1.2.2) (i+1)) fun r i=>(o (195+fK z.1.2,(z.2.1:Int),(r:Int),z.2.2,16*(q:Int),0),i))) (U,i+1)
def Fe(t':Int)(d:dt)(k:Nat×Int)(r:Nat)(e:Bool)(i:Nat):c5 cY:=cl (fo x .j i) fun _ i=>cl (hk x e i) fun y i=>cl (fo x .e i) fun _ i=>hj (bR y r&&a6 (8*eB d=eo e)) (195+fK d,(k.1:Int),(r:Int),k.2,t',0) i
def Bg(q:Nat)(r:Nat)(e:Bool)(i:Nat):c5 cY:=cl (fo x .d (i+1)) fun _ i=>cl (fo x .d i) fun _ i=>cl (vm x I C i) fun d i=>cl (fo x .g i) fun _ i=>cl (fo x .e i) fun _ i=>cl (fo x .d i) fun _ i=>cl (tj x i) fun k i=>cl (fo x .e i) fun _ i=>Fe x (16*(q:Int)+1) d.2 k r e i
def yi(q:Bool×dt)(r:Nat)(e:Bool)(i:Nat):c5 cY:=cl (fo x .d (i+1)) fun _ i=>cl (tj x i) fun k i=>an q.1 (cl (fo x .j i) fun _ i=>an (bR r 0) (cl (hk x e i) fun y i=>an (bR y 0&&a6 (8*eB q.2=eo e)) (cl (fo x .j i) fun _ i=>cl (hk x e i) fun y i=>cl (fo x .e i) fun _ i=>(o (195+fK q.2,(k.1:Int),(y:Int),k.2,241,0),i)) (U,i)) (U,i)) (Fe x 225 q.2 k r e i)
def Bf(r:Nat)(e:Bool)(i:Nat):c5 cY:=cl (fo x .d i) fun _ i=>cl (vm x C I i) fun d i=>cl (fo x .e i) fun _ i=>cl (hk x e i) fun y i=>hj (!a6 (8*eB d.2≥eo e)) (184+fV e,(r:Int),(y:Int),8*eB d.2,0,0) i
noncomputable def BR(q:Nat):Int:=[212,212,212,220,220,220,215,215,215].getD q 0
noncomputable def BS(q:Nat):Int:=[16,32,64,16,32,64,16,32,64].getD q 0
def Bj(q:Nat)(r:Nat)(e:Bool)(i:Nat):c5 cY:=an e (U,i+1) (cl (hk x C (i+1)) fun y i=>hj (bR y r) (BR q,(r:Int),0,0,BS q,0) i)
def yh(r:Nat)(e:Bool)(i:Nat):c5 cY:=cl (fo x .i i) fun _ i=>cl (hk x e i) fun y i=>hj (bR y r) (128+fV e,(r:Int),0,0,0,0) i
def Bi(r:Nat)(e:Bool)(i:Nat):c5 cY:=cl (fo x .v i) fun _ i=>cl (fJ x iS i) fun l i=>cl (fo x .l i) fun _ i=>hj (!e) (24,(r:Int),1,0,l,0) i
def BH(e:Bool)(l:Nat):Int:=an e (-(l:Int)) l
def qI(r:Nat)(e:Bool)(i:Nat):c5 cY:=cl (ke x (an (bd .i (x i)) (i+1) i)) fun l Q=>an (bd .l (x Q)) (hj (!e&&uQ (BH (bd .i (x i)) l)) (24,(r:Int),0,0,fN (BH (bd .i (x i)) l),fN (BH (bd .i (x i)) l/4294967296)) (Q+1)) (cl (fJ x iS i) fun l i=>(o (176+fV e,(r:Int),0,0,l,0),i))
def r0(r:Nat)(e:Bool)(i:Nat):c5 cY:=an (bd .g (x i)) (cl (nG x I i) fun z i=>hj (!(e||(z.1.1&&(z.1.2.1&&z.1.2.2)))) (an z.1.1 129 97+fK z.1.2,(r:Int),(z.2.1:Int),z.2.2,0,0) i) (an (bd .d (x i)) (Bf x r e i) (an (bd .i (x i)&&kL (x (i+1))) (yh x r e i) (co (LA (x i)) (fun q=>Bj x q r e i) (co (JM (x i)) (fun q=>Bg x q r e i) (co (LT (x i)) (fun q=>yi x q r e i) (an (bd .v (x i)) (Bi x r e i) (an (kL (x i)) (cl (hk x e i) fun y i=>(o (184+fV e,(r:Int),(y:Int),0,0,0),i)) (qI x r e i))))))))
def lJ(q:Nat):Int:=an (eS q 14) (16*(q:Int)) (an (bR q 15) 48 144)
def mK(q:Nat):Int:=an (eS q 14) 0 1
def yf(i:Nat):c5 cY:=cl (oC x i) fun t i=>an (bd .c (x i)) (r0 x t.2 t.1 (i+1)) (co (DO (x i)) (fun q=>cl (tk x t.1 (i+1)) fun y i=>(o (an y.1 (lJ q+fV t.1+8,(t.2:Int),y.2,mK q,0,0) (lJ q+fV t.1,(t.2:Int),0,mK q,y.2,0)),i)) (U,i+1))
noncomputable def la(d:c5 cY):c5 (cY×List Nat):=cl d fun w i=>(o (w,[]),i)
def Bh(i:Nat):c5 (cY×List Nat):=an (bd .k (x i)||bd .q (x i)) (vj x i) (an (bd .r (x i)) (vh x i) (an (bd .p (x i)) (vi x i) (an (bd .u (x i)) (o ((149,0,0,0,0,0),[]),i+1) (an (bd .s (x i)) (la (vk x i)) (an (bd .g (x i)) (la (vl x i)) (la (yf x i)))))))
def qJ(i:Nat):c5 (cY×List Nat):=cl (Bh x i) fun w i=>hj (!(x i).isSome) w i
def fW:Option cY:=match(qJ x 0).1 with|some k=>(match k.2 with|[]=>o k.1|_=>U)|none=>U
end
end
section
open PySem
def d5(J:List aV):M:=.f (J.map fun s=>.c s.bT)
def bv(J:List aV)(Y:M)(i:Nat):af:=[.e 80 [(.ql,.b (d5 J)),(.sC,.b Y),(.fj,.b (.b i))]]
noncomputable def a_(J:List aV):gn:=fun i=>J[i]?
def cp{V:Type}(J:List aV)(Y:M)(E:V→M)(k:c5 V):Except M K×af:=match k with|(n,Q)=>(match n with|some g=>.ok (.b (E g))|none=>.error Y,bv J Y Q)
structure dP(J:List aV):Prop where
 b:J.length≤1000
 c:∀s∈J,s.d9
section
variable{J:List aV}{Y:M}
theorem Sn(c:dP J)(f:af):h2 .hL f [.b (d5 J)]=o (.b (.b J.length)):=by show(if(J.map _).length≤cK then o (K.b (.b (J.map _).length))else U)=_;rw[dA];exact if_pos (bt c.b (by decide))
noncomputable def ox(i:Int)(r:Nat):Int:=if i<0 then i+r else i
theorem s3{r:Nat}(i:Nat)(c:r≤1000)(a4:i<r):hA r (i:Int)=o i:=by refine(if_pos (bt c (by decide))).trans ?_;show(if(a6 (0≤ox (i:Int) r)&&a6 (ox (i:Int) r<r))=I then o (ox (i:Int) r).toNat else U)=o i;have b:ox (i:Int) r=i:=if_neg (oP.2 (jP i));rw[b,decide_eq_true (jP i),decide_eq_true (pJ.2 a4)];rfl
theorem T2(c:dP J){s:aV}{Q:Nat}(b:a_ J Q=o s)(f:af):hR f (.b (d5 J)) (.b (.b Q))=o (.c s.bT):=by show(hA (J.map _).length Q).bind _=_;rw[dA,s3 Q c.b (eg.1 b).1];show(J.map _)[Q]?=_;rw[jQ];exact congrArg (i0 _) b
theorem DW(c:dP J)(i g:Nat):dH ab 129 1 [.c 0,.b (.b g)] (bv J Y i) (o (.ok (.b (.c (dq (a_ J (i+g))))),bv J Y i)):=by
 have aw:=Sn c (bv J Y i);rcases b:a_ J (i+g)with _|s;·have u:bI .Lt (bv J Y i) (.b (.b (i+g))) (.b (.b J.length))=o C:=congrArg o (decide_eq_false fun q=>jS.2 (Gr.1 b) (pJ.1 q));exact f' 1 [B.u aw,B.i u] fun z=>by kernel_rfl
 ·have u:bI .Lt (bv J Y i) (.b (.b (i+g))) (.b (.b J.length))=o I:=congrArg o (decide_eq_true (pJ.2 (eg.1 b).1));exact f' 1 [B.u aw,B.i u,B.l (T2 c b (bv J Y i))] fun z=>by kernel_rfl
variable(Y)
theorem jH(c:dP J)(i:Nat):dH ab 129 1 [.c 0] (bv J Y i) (o (.ok (.b (.c (dq (a_ J i)))),bv J Y i)):=fun r=>lU (by kernel_rfl) (DW c i 0 r)
theorem auJ(y:List Nat)(i:Nat):dH ab 130 1 [.c 0,.b (.c y)] (bv J Y i) (o (.error Y,bv J Y i)):=f' 1 [] fun z=>by kernel_rfl
theorem nw(c:dP J)(i:Nat):dH ab 131 2 [.c 0] (bv J Y i) (o (.ok (.b (.c (dq (a_ J i)))),bv J Y (i+1))):=f' 2 [B.p (jH Y c i)] fun z=>by kernel_rfl
theorem tb{y s:List Nat}{e:Bool}(b:a6 (y=s)=e)(f:af):bI .NotEq f (.b (.c y)) (.b (.c s))=o (!e):=b▸rfl
theorem qy{y s:List Nat}{e:Bool}(b:a6 (y=s)=e)(f:af):bI .Eq f (.b (.c y)) (.b (.c s))=o e:=b▸rfl
theorem w8(c:dP J)(i:Nat){y:List Nat}{e:Bool}(b:a6 (dq (a_ J i)=y)=e):dH ab 132 2 [.c 0,.b (.c y)] (bv J Y i) (o (.ok (.b (.g e)),bv J Y (an e (i+1) i))):=by
 have u:=tb b (bv J Y i);rcases e;·exact f' 2 [B.p (jH Y c i),B.i u] fun z=>by kernel_rfl
 ·exact f' 2 [B.p (jH Y c i),B.i u] fun z=>by kernel_rfl
noncomputable def F3(_:Unit):M:=.e
theorem adF(c:dP J)(i:Nat){y:List Nat}{e:Bool}(aW:y.length≤90)(b:a6 (dq (a_ J i)=y)=e):dH ab 133 3 [.c 0,.b (.c y)] (bv J Y i) (o (cp J Y F3 (an e (o (),i+1) (U,i)))):=by
 have v:=w8 Y c i b;rcases e;·have g:fF .Add (.b (.c [119,97,110,116,101,100,32])) (.b (.c y))=o (.c ([119,97,110,116,101,100,32]++y)):=if_pos (bt (r' aW 7) (by decide));exact f' 3 [B.p v,B.q g] fun z=>by kernel_rfl
 ·exact f' 3 [B.p v] fun z=>by kernel_rfl
theorem adA(c:dP J)(i:Nat){e:Bool}(b:(a_ J i).isSome=e):dH ab 134 2 [.c 0] (bv J Y i) (o (cp J Y F3 (an e (U,i) (o (),i)))):=by
 have aw:=Sn c (bv J Y i);have u:bI .Lt (bv J Y i) (.b (.b i)) (.b (.b J.length))=o e:=by rw[←b];exact congrArg o (lg.2 (by rw[decide_eq_true_iff,pJ,show(a_ J i).isSome=(J[i]?).isSome from rfl,isSome_getElem?]))
 rcases e;·exact f' 2 [B.u aw,B.i u] fun z=>by kernel_rfl
 ·exact f' 2 [B.u aw,B.i u] fun z=>by kernel_rfl
end
end
section
open PySem
def yk(t:Option (Bool×Nat)):M:=match t with|some t=>.j [.b (t.2:Nat),.b (eo t.1)]|none=>.e
noncomputable def KR(t:Option Nat):M:=match t with|some l=>.b (l:Nat)|none=>.e
noncomputable def eI:List aV:=(de eQ).map .b0++(de 11).flatMap fun r=>[.fT C r,.fT I r]
theorem a7{V bg:Type}{w E:V→bg}{p:List V}(c:p.map w=p.map E){g:V}(z:g∈p):w g=E g:=List.map_inj_left.1 c g z
theorem QR(r:Nat)(f:af):eI.map (fun s=>bp ab (r+5) 81 [.b (.c s.bT)] f)=eI.map fun s=>o (.ok (.b (yk (Li s))),f):=by kernel_rfl
theorem QQ(r:Nat)(f:af):eI.map (fun s=>bp ab (r+5) 82 [.b (.c s.bT)] f)=eI.map fun s=>o (.ok (.b (KR (Bc s))),f):=by kernel_rfl
theorem QP(r:Nat)(f:af):eI.map (fun s=>bp ab (r+5) 74 [.b (.c s.bT)] f)=eI.map fun s=>o (.ok (.b (.g (pt (o s)))),f):=by kernel_rfl
end
section
open PySem
noncomputable def ot:List Nat:=[48,49,50,51,52,53,54,55,56,57,97,98,99,100,101,102]
theorem aiA:(de 16).map (fun F=>jf ot [ce F])=(de 16).map o:=by kernel_rfl
theorem QS{F:Nat}(c:F<16):jf ot [ce F]=o F:=a7 aiA (gc.2 c)
noncomputable def x9(x:List Nat)(e:Nat)(bP:List Nat)(l:Nat)(G m:Option K):List (Option K):=[o (.b (.c x)),o (.b (.b e)),o (.b (.c bP)),o (.b (.b l)),G,m]
theorem aot(z:Nat){F e l:Nat}(aI:F<e)(aN:e≤16)(bE:l<2^900)(x bP:List Nat)(G m:Option K):fG (g0 (bp ab z) ab.b [] (.b 4) (.b (.c [ce F])) (x9 x e bP l G m) []) (dK (bp ab z) ab.b [] Fr)=o (.b (x9 x e bP (l*e+F) (o (.b (.c [ce F]))) (o (.b (.b F)))) []):=by
 have H:jM (bp ab z) .b (.b (.c ot)) .qj [.b (.c [ce F])] []=o (.ok (.b (.b F)),[]):=by show cI (((o (M.b (match jf ot [ce F]with|some i=>(i:Int)|none=> -1))).map K.b)) []=_;rw[QS (fg aI aN)];rfl
 have L:bI .Lt [] (.b (.b F)) (.b (.b 0))=o C:=congrArg o (decide_eq_false (oP.2 (jP F)));have aR:bI .GtE [] (.b (.b F)) (.b (.b e))=o C:=congrArg o (decide_eq_false fun q=>yL.2 aI (tA.1 q));have bh:fF .Mult (.b (.b l)) (.b (.b e))=o (.b (l*e:Nat)):=if_pos ⟨lW bE (vW (by decide) (by decide)),gR aN (fg (by decide:16<2^5) (sa (by decide) (by decide)))⟩;exact fX 0 [B.s H,B.i L,B.i aR,B.q bh] z (by kernel_rfl)
def JC(F:Nat):M:=.c [ce F]
noncomputable def pG(e:Nat)(p:List Nat)(l:Nat):Nat:=p.foldl (fun g F=>g*e+F) l
theorem Tn{l e F v:Nat}(aI:F<e)(aN:e≤16)(bE:l<16^v):l*e+F<16^(v+1):=fg (Nat.add_lt_add_left aI _) (bt (ff (Nat.succ_mul l e).symm) (Nat.mul_le_mul bE aN))
theorem aos(z:Nat){e:Nat}(aN:e≤16)(x bP:List Nat)(p:List Nat):∀l v G m,(∀F∈p,F<e)→l<16^v→v+p.length≤90→∃gk ae,jd (fun dF A f=>fG (g0 (bp ab z) ab.b [] (.b 4) (.b dF) A f) (dK (bp ab z) ab.b [] Fr)) (p.map JC) (x9 x e bP l G m) []=o (.b (x9 x e bP (pG e p l) gk ae) []):=by induction p with|nil=>exact fun l v G m _ _ _=>⟨G,m,rfl⟩|cons F p ak=>intro l v G m c bE ar;have aI:=c F (dY ..);obtain⟨gk,ae,b⟩:=ak (l*e+F) (v+1) _ _ (fun d aH=>c d (e6 _ aH)) (Tn aI aN bE) (bt (ff (GI v _)) ar);refine⟨gk,ae,?_⟩;have Ic:l<2^900:=fg bE (bt (sa (by decide) (bt (ho ..) ar)) (bt (ff (Nat.pow_mul 2 4 90).symm) (sa (by decide) (by decide))));exact(congrArg (fun n=>h6 n _) (aot z aI aN Ic x bP G m)).trans b
end
section
open PySem
theorem w_(r v:Nat):ji r (v:Int)=min v r:=by
 refine lh ((clipAt_cast r v).trans ?_);rw[if_neg (oP.2 (jP v)),Int.max_eq_right (Int.le_min.2 ⟨jP v,jP r⟩)];rcases Cm v r with q|q;·exact(Int.min_eq_left (tA.2 q)).trans (congrArg Int.ofNat (vV q).symm)
 ·exact(Int.min_eq_right (tA.2 q)).trans (congrArg Int.ofNat (Cp q).symm)
theorem yp(y:List Nat)(v:Nat)(c:y.length≤1000):hQ (.b (.c y)) (.b .e) (.b (.b v))=o (.c (y.take v)):=by refine(if_pos (bt c (by decide))).trans (congrArg (fun p=>o (M.c p)) ?_);show y.take (ji y.length v-0)=_;rw[w_,Nat.sub_zero,←List.take_eq_take_min]
theorem TR(y:List Nat)(v:Nat)(c:y.length≤1000):hQ (.b (.c y)) (.b (.b v)) (.b .e)=o (.c (y.drop v)):=by
 refine(if_pos (bt c (by decide))).trans (congrArg (fun p=>o (M.c p)) ?_);show(y.drop (ji y.length v)).take (y.length-ji y.length v)=_;rw[←lj,List.take_length,w_];rcases Cm v y.length with q|q;·rw[vV q]
 ·rw[Cp q,vM (df _),vM q]
theorem amZ:(de 16).map (fun F=>(a6 (ce F<128),qB (ce F)))=(de 16).map fun F=>(I,ce F):=by kernel_rfl
theorem Sw{F:Nat}(c:F<16):(a6 (ce F<128),qB (ce F))=(I,ce F):=a7 amZ (gc.2 c)
theorem TT{p:List Nat}(c:∀F∈p,F<16):((p.map ce).all fun q=>a6 (q<128))=I:=fe.2 fun d aH=>by obtain⟨F,aI,rfl⟩:=pN.1 aH;exact(bw (Sw (c F aI))).1
theorem R3{p:List Nat}(c:∀F∈p,F<16)(aw:p.length≤90):sZ C (.b (.c (p.map ce)))=o (p.map JC):=by refine(congrArg (fun n:Option (List M)=>n.bind fun p=>kN p.length p) ((if_pos (TT c)).trans (congrArg o vS))).trans ?_;exact if_pos (bt (ff (dA ..)) (bt aw (by decide)))
theorem rO{X:ea}{aB:hN}{ax:List Nat}{g':Bool}{s:dO}{a':aZ}{e:a5}{A:List (Option K)}{f:af}{d:K}{p:List M}(H:d_ X aB a' A ax f=cW d f)(L:sZ g' d=o p):dK X aB ax (.i g' s a' e) A f=jd (fun dF A f=>fG (g0 X aB ax s (.b dF) A f) (dK X aB ax e)) p A f:=(congrArg (fun z=>gy z fun d f=>(sZ g' d).bind fun p=>jd (fun dF A f=>fG (g0 X aB ax s (.b dF) A f) (dK X aB ax e)) p A f) H).trans (congrArg (fun n=>n.bind fun p=>jd (fun dF A f=>fG (g0 X aB ax s (.b dF) A f) (dK X aB ax e)) p A f) L)
theorem QY(z:Nat){e:Nat}(aN:e≤16)(x:List Nat){p:List Nat}(c:∀F∈p,F<e)(aw:p.length≤90):∃G m,dK (bp ab z) ab.b [] (.i C (.b 4) (.c 2) Fr) (x9 x e (p.map ce) 0 U U) []=o (.b (x9 x e (p.map ce) (pG e p 0) G m) []):=by obtain⟨G,m,b⟩:=aos z aN x (p.map ce) p 0 0 U U c (by decide) (bt (ff (q0 _)) aw);exact⟨G,m,(rO rfl (R3 (fun F aI=>fg (c F aI) aN) aw)).trans b⟩
theorem aop{p:List Nat}(c:∀F∈p,F<10)(aw:p.length≤90)(aX:a6 (p.map ce=[])=C)(aH:a6 ((p.map ce).take 2=[48,120])=C):b_ ab 82 1 [.b (.c (p.map ce))] (.ok (.b (pG 10 p 0:Nat))):=fun z f=>by obtain⟨G,m,b⟩:=QY z (by decide) (p.map ce) c aw;exact iX 1 [B.r (yp (p.map ce) 2 (bt (ff (dA ..)) (bt aw (by decide)))),B.i (qy aH []),B.v b,B.i (tb aX [])] z (by kernel_rfl)
theorem am1{p:List Nat}(c:∀F∈p,F<16):(p.map ce).map qB=p.map ce:=by rw[vS];exact List.map_congr_left fun F aI=>(bw (Sw (c F aI))).2
theorem am0{X:ea}{p:List Nat}(c:∀F∈p,F<16)(aw:p.length≤90):jM X .b (.b (.c (p.map ce))) .sD [] []=o (.ok (.b (.c (p.map ce))),[]):=congrArg (fun n:Option M=>cI (n.map K.b) ([]:af)) ((if_pos ⟨bt (ff (dA ..)) (bt aw (by decide)),TT c⟩).trans (congrArg (fun y=>o (M.c y)) (am1 c)))
theorem aoq{p:List Nat}(c:∀F∈p,F<16)(aw:p.length≤90)(aX:a6 (p.map ce=[])=C):b_ ab 82 1 [.b (.c (48::120::p.map ce))] (.ok (.b (pG 16 p 0:Nat))):=fun z f=>by have jB:(48::120::p.map ce).length≤1000:=bt (ff (congrArg (·+2) (dA ..))) (bt (pP aw 2) (by decide));obtain⟨G,m,b⟩:=QY z (df 16) (48::120::p.map ce) c aw;have jp:=TR (48::120::p.map ce) 2 jB;have Yq:=am0 (X:=bp ab (z+0)) c aw;exact iX 1 [B.r (yp (48::120::p.map ce) 2 jB),B.r jp,B.s Yq,B.v b,B.i (tb aX [])] z (by kernel_rfl)
end
section
open PySem
section
variable{e:Nat}
theorem ag7(R:Nat→List Nat→List Nat→Prop)(aN:2≤e)(aX:∀l aE,l<e→R l aE (l::aE))(H:∀l aE p,e≤l→R (l/e) (l%e::aE) p→R l aE p)(w:Nat):∀l aE,l<w→R l aE (xb e w l aE):=by induction w with|zero=>exact fun l aE c=>absurd c (tG l)|succ w ak=>
 intro l aE c;show R l aE (an (eS l e) (l::aE) (xb e w (l/e) (l%e::aE)));rcases b:eS l e with _|_;·have bE:e≤l:=jS.1 fun q=>nR (b.symm.trans (Cj.symm▸q));exact H l aE _ bE (ak _ _ (fg (Nat.div_lt_self (fg (fg (by decide) aN) bE) aN) (Ck c)))
 ·exact aX l aE (Cj▸b)
theorem AH(R:Nat→List Nat→List Nat→Prop)(aN:2≤e)(aX:∀l aE,l<e→R l aE (l::aE))(H:∀l aE p,e≤l→R (l/e) (l%e::aE) p→R l aE p)(l:Nat):R l [] (jJ e l):=ag7 R aN aX H (l+1) l [] (pR l)
theorem rN(aN:2≤e)(l:Nat):∀F∈jJ e l,F<e:=AH (fun _ aE p=>(∀F∈aE,F<e)→∀F∈p,F<e) aN (fun l aE c aY F aI=>by
 rcases gQ.1 aI with rfl|aI;·exact c
 ·exact aY F aI) (fun l aE p _ ak aY=>ak fun F aI=>by
 rcases gQ.1 aI with rfl|aI;·exact jR _ (fg (by decide) aN)
 ·exact aY F aI) l (fun F aI=>nomatch aI)
theorem Ju(aN:2≤e)(l:Nat):pG e (jJ e l) 0=l:=AH (fun l aE p=>pG e p 0=pG e aE l) aN (fun l aE _=>congrArg (fun d=>pG e aE d) (show 0*e+l=l by rw[Nat.zero_mul,q0])) (fun l aE p _ ak=>ak.trans (congrArg (fun d=>pG e aE d) (show l/e*e+l%e=l by rw[Nat.mul_comm,Nat.div_add_mod]))) l
theorem Qg(aN:2≤e)(l:Nat):jJ e l≠[]:=AH (fun _ _ p=>p≠[]) aN (fun _ _ _=>yD _ _) (fun _ _ _ _ ak=>ak) l
theorem ahd(aN:2≤e)(l:Nat):∀v,l<e^(v+1)→(jJ e l).length≤v+1:=fun v c=>AH (fun l aE p=>∀v,l<e^(v+1)→p.length≤v+1+aE.length) aN (fun l aE _ v _=>by rw[Gv,lV];exact pP (pQ 1 v) _) (fun l aE p bE ak v c=>by
 rcases v with _|v;·exact absurd (fg c (ff (Nat.pow_one e))) (jS.2 bE)
 ·have:=ak v ((Nat.div_lt_iff_lt_mul (fg (by decide) aN)).2 c);rwa[Gv,←lk,GG]at this) l v c
end
end
section
open PySem
theorem mg{v:aF}(c:qZ v eQ):aV.b0 v∈eI:=pM _ (pO (gc.2 c))
theorem mh{e:Bool}{r:Nat}(c:r≤10):aV.fT e r∈eI:=Cf _ (List.mem_flatMap.2 ⟨r,gc.2 (Cn c),by
 rcases e;·exact dY ..
 ·exact e6 _ (dY ..)⟩)
theorem ait:(de 10).map (fun F=>(bR (ce F) 120,j9 (ce F)))=(de 10).map fun _=>(C,I):=by kernel_rfl
theorem Ec{F:Nat}(c:F<10):(bR (ce F) 120,j9 (ce F))=(C,I):=a7 ait (gc.2 c)
theorem mH(e:Bool):2≤hP e:=by rcases e<;>decide
theorem tc(e:Bool){l:Nat}(c:l<2^70):(jJ (hP e) l).length≤90:=bt (ahd (mH e) l 69 (fg c (Nat.pow_le_pow_left (mH e) _))) (by decide)
theorem Ed(e:Bool)(l:Nat):a6 ((jJ (hP e) l).map ce=[])=C:=decide_eq_false fun b=>Qg (mH e) l (List.map_eq_nil_iff.1 b)
theorem Js{p:List Nat}(c:∀F∈p,F<10):a6 ((p.map ce).take 2=[48,120])=C:=decide_eq_false fun b=>by
 rcases p with _|⟨d,_|⟨G,t⟩⟩;·exact nomatch(show(0:Nat)=2 from congrArg Cd b)
 ·exact nomatch(show(1:Nat)=2 from congrArg Cd b)
 ·have aK:ce G=120:=(m2 (m2 b).2).1;have:=(bw (Ec (c G (e6 _ (dY ..))))).1;rw[aK]at this;exact nomatch this
theorem adH{s:aV}(c:s.d9):b_ ab 82 5 [.b (.c s.bT)] (.ok (KR (Bc s))):=fun r f=>by
 rcases s with⟨e,z⟩|⟨e,l⟩|v;·exact a7 (QQ r f) (mh c)
 ·rcases e;·exact(aop (rN (mH C) l) (tc C c) (Ed C l) (Js (rN (mH C) l)) (r+4) f).trans (congrArg (fun d:Nat=>(o (.ok (.b (.b d)),f):bJ K)) (Ju (mH C) l))
  ·exact(aoq (rN (mH I) l) (tc I c) (Ed I l) (r+4) f).trans (congrArg (fun d:Nat=>(o (.ok (.b (.b d)),f):bJ K)) (Ju (mH I) l))
 ·exact a7 (QQ r f) (mg c)
end
section
open PySem
theorem qG(e:Bool)(l:Nat):∃F t,F<10∧(aV.en e l).bT=ce F::t:=by
 rcases e;·
  rcases b:jJ 10 l with _|⟨F,t⟩;·exact absurd b (Qg (by decide) l)
  ·exact⟨F,t.map ce,rN (by decide) l F (b▸dY ..),congrArg (List.map ce) b⟩
 ·exact⟨0,_,by decide,rfl⟩
theorem EN{s:aV}(c:s.d9):s.bT.length≤1000:=by
 rcases s with⟨e,z⟩|⟨e,l⟩|v;·rcases e<;>rcases b:bR z 10<;>exact bt (ff (congrArg (fun e=>(an e [49,48] [48+z]).length+1) b)) (cF rfl)
 ·show(an e [48,120] []++(jJ (hP e) l).map ce).length≤1000;rw[fy,dA];exact bt (km (b:=2) (by rcases e<;>decide) (tc e c)) (by decide)
 ·have:(de eQ).map (fun v=>gd (aF.b v).length 1000)=(de eQ).map fun _=>I:=by kernel_rfl
  exact cF (a7 this (gc.2 c))
noncomputable def TF:M:=.j [.c [114],.c [119]]
noncomputable def EO:List Nat:=[97,98,99,100,101,102,103,104,105,106,107,108,109,110,111,112,113,114,115,116,117,118,119,120,121,122,65,66,67,68,69,70,71,72,73,74,75,76,77,78,79,80,81,82,83,84,85,86,87,88,89,90,95,46,36]
theorem alE:(de 10).map (fun F=>(bI .NotIn [] (.b (.c [ce F])) (.b TF),bI .In [] (.b (.c [ce F])) (.b (.c EO)),nE (ce F)))=(de 10).map fun _=>(o I,o C,C):=by kernel_rfl
theorem Er{F:Nat}(c:F<10):(bI .NotIn [] (.b (.c [ce F])) (.b TF),bI .In [] (.b (.c [ce F])) (.b (.c EO)),nE (ce F))=(o I,o C,C):=a7 alE (gc.2 c)
theorem aqT(q:Nat)(t:List Nat)(c:(q::t).length≤1000):hR [] (.b (.c (q::t))) (.b (.b 0))=o (.c [q]):=congrArg (fun n:Option Nat=>(n.bind ((q::t)[·]?)).map fun q=>M.c [q]) (s3 0 c (Nat.zero_lt_succ _))
theorem adN{s:aV}(c:s.d9):b_ ab 81 5 [.b (.c s.bT)] (.ok (yk (Li s))):=fun r f=>by
 have jB:=EN c;rcases s with⟨e,z⟩|⟨e,l⟩|v;·exact a7 (QR r f) (mh c)
 ·obtain⟨F,t,aI,b⟩:=qG e l;rw[b]at jB⊢;have u:=(bw (Er aI)).1;exact iX (r:=5) [B.r (yp (ce F::t) 1 jB),B.i u] r (by kernel_rfl)
 ·exact a7 (QR r f) (mg c)
theorem PK{s:aV}(c:s.d9):b_ ab 74 5 [.b (.c s.bT)] (.ok (.g (pt (o s)))):=fun r f=>by
 have jB:=EN c;rcases s with⟨e,z⟩|⟨e,l⟩|v;·exact a7 (QP r f) (mh c)
 ·obtain⟨F,t,aI,b⟩:=qG e l;have cD:pt (o (aV.en e l))=C:=(congrArg (fun y=>lN y nE) b).trans (bw (bw (Er aI)).2).2;rw[cD];rw[b]at jB⊢;have u:=(bw (bw (Er aI)).2).1;exact iX (r:=5) [B.l (aqT (ce F) t jB),B.i u] r (by kernel_rfl)
 ·exact a7 (QP r f) (mg c)
end
section
open PySem
theorem aod(r:Nat)(f:af):bp ab (r+5) 81 [.b (.c [])] f=o (.ok (.b .e),f):=by kernel_rfl
theorem aoc(r:Nat)(f:af):bp ab (r+5) 82 [.b (.c [])] f=o (.ok (.b .e),f):=by kernel_rfl
theorem aob(r:Nat)(f:af):bp ab (r+5) 74 [.b (.c [])] f=o (.ok (.b (.g C)),f):=by kernel_rfl
section
variable{J:List aV}(Y:M)
theorem Be(c:dP J){i:Nat}{s:aV}(b:a_ J i=o s):s.d9:=c.c s (dZ b)
theorem uI(c:dP J)(i:Nat):b_ ab 81 5 [.b (.c (dq (a_ J i)))] (.ok (yk (py (a_ J i)))):=by
 rcases b:a_ J i with _|s;·exact aod
 ·exact adN (Be c b)
theorem adG(c:dP J)(i:Nat):b_ ab 82 5 [.b (.c (dq (a_ J i)))] (.ok (KR (mR (a_ J i)))):=by
 rcases b:a_ J i with _|s;·exact aoc
 ·exact adH (Be c b)
theorem I6(c:dP J)(i:Nat):b_ ab 74 5 [.b (.c (dq (a_ J i)))] (.ok (.g (pt (a_ J i)))):=by
 rcases b:a_ J i with _|s;·exact aob
 ·exact PK (Be c b)
def apt(t:Bool×Nat):M:=.j [.b (t.2:Nat),.b (eo t.1)]
noncomputable def SU(r:Nat):M:=.b r
theorem I8(c:dP J)(i:Nat):dH ab 135 6 [.c 0] (bv J Y i) (o (cp J Y apt (oC (a_ J) i))):=by
 have v:=uI c i;unfold oC;generalize py (a_ J i)=n at v⊢;rcases n with _|t;·exact f' 6 [B.p (jH Y c i),B.j v] fun z=>by kernel_rfl
 ·exact f' 6 [B.p (jH Y c i),B.j v] fun z=>by kernel_rfl
theorem DX(c:dP J)(i:Nat):dH ab 137 6 [.c 0] (bv J Y i) (o (cp J Y SU (ke (a_ J) i))):=by
 have v:=adG c i;unfold ke;generalize mR (a_ J i)=n at v⊢;rcases n with _|t;·exact f' 6 [B.p (jH Y c i),B.j v] fun z=>by kernel_rfl
 ·exact f' 6 [B.p (jH Y c i),B.j v] fun z=>by kernel_rfl
theorem md(c:dP J)(e:Bool)(i:Nat):dH ab 136 7 [.c 0,.b (.b (eo e))] (bv J Y i) (o (cp J Y SU (hk (a_ J) e i))):=by
 have v:=I8 Y c i;unfold hk;generalize oC (a_ J) i=k at v⊢;obtain⟨_|⟨q,r⟩,Q⟩:=k;·exact f' 7 [B.p v] fun z=>by kernel_rfl
 ·rcases e<;>rcases q<;>exact f' 7 [B.p v] fun z=>by kernel_rfl
end
end
section
open PySem
theorem Qs:eI.map (fun s=>(de eQ).map fun v=>a6 (s.bT=aF.b v))=eI.map fun s=>(de eQ).map fun v=>bd v (o s):=by kernel_rfl
theorem an8:(de eQ).map (fun v=>a6 (([]:List Nat)=aF.b v))=(de eQ).map fun _=>C:=by kernel_rfl
theorem alG:(de eQ).map (fun v=>an (lN (aF.b v) j9) (bR v aF.G) I)=(de eQ).map fun _=>I:=by kernel_rfl
theorem aor(e:Bool)(l:Nat){v:aF}(c:qZ v eQ):a6 ((aV.en e l).bT=v.b)=C:=decide_eq_false fun b=>by
 obtain⟨F,t,aI,aG⟩:=qG e l;have w:lN (aF.b v) j9=I:=(congrArg (fun y=>lN y j9) (b.symm.trans aG)).trans (bw (Ec aI)).2;have Yj:v=aF.G:=g5 ((congrArg (fun d=>an d (bR v aF.G) I) w).symm.trans (a7 alG (gc.2 c)));have aK:(aV.en e l).bT=[48,120]:=b.trans (congrArg aF.b Yj);rcases e;·exact nomatch(decide_eq_true (congrArg (List.take 2) aK)).symm.trans (Js (rN (mH C) l))
 ·exact nomatch(decide_eq_true (m2 (m2 aK).2).2).symm.trans (Ed I l)
theorem FF{n:Option aV}(aj:∀s,n=o s→s.d9){v:aF}(c:qZ v eQ):a6 (dq n=v.b)=bd v n:=by
 rcases n with _|s;·exact a7 an8 (gc.2 c)
 ·have bu:=aj s rfl;rcases s with⟨e,z⟩|⟨e,l⟩|Q;·exact a7 (a7 Qs (mh bu)) (gc.2 c)
  ·exact aor e l c
  ·exact a7 (a7 Qs (mg bu)) (gc.2 c)
theorem s7{J:List aV}(aW:dP J)(i:Nat){v:aF}(c:qZ v eQ):a6 (dq (a_ J i)=v.b)=bd v (a_ J i):=FF (fun _ b=>Be aW b) c
end
section
open PySem
theorem kM{d G:Int}{y:Bool}(c:a6 (d≤G)=y)(f:af):bI .LtE f (.b (.b d)) (.b (.b G))=o y:=c▸rfl
theorem x8{d G:Int}{y:Bool}(c:a6 (d<G)=y)(f:af):bI .Lt f (.b (.b d)) (.b (.b G))=o y:=c▸rfl
theorem Ey{g e l:Int}:u1 g e l=(a6 (g≤l)&&a6 (l<e)):=lg.2 (by rw[s6,vJ,decide_eq_true_iff,decide_eq_true_iff])
def AO:Int→Bool:=u1 (-18446744073709551616) 18446744073709551616
theorem DV(l:Int):b_ ab 5 1 [.b (.b l),.b (.b 16)] (.ok (.g (nx l))):=by
 unfold nx;rw[Ey];rcases aW:a6 ((-32768:Int)≤l)with _|_;·exact ck 1 [B.i (kM aW [])] fun z f=>by kernel_rfl
 ·rcases bu:a6 (l<(32768:Int))with _|_;·exact ck 1 [B.i (kM aW []),B.i (x8 bu [])] fun z f=>by kernel_rfl
  ·exact ck 1 [B.i (kM aW []),B.i (x8 bu [])] fun z f=>by kernel_rfl
theorem adB(l:Int):b_ ab 5 1 [.b (.b l),.b (.b 32)] (.ok (.g (iS l))):=by
 unfold iS;rw[Ey];rcases aW:a6 ((-2147483648:Int)≤l)with _|_;·exact ck 1 [B.i (kM aW [])] fun z f=>by kernel_rfl
 ·rcases bu:a6 (l<(2147483648:Int))with _|_;·exact ck 1 [B.i (kM aW []),B.i (x8 bu [])] fun z f=>by kernel_rfl
  ·exact ck 1 [B.i (kM aW []),B.i (x8 bu [])] fun z f=>by kernel_rfl
theorem PI(l:Int):b_ ab 5 1 [.b (.b l),.b (.b 65)] (.ok (.g (AO l))):=by
 unfold AO;rw[Ey];rcases aW:a6 ((-18446744073709551616:Int)≤l)with _|_;·exact ck 1 [B.i (kM aW [])] fun z f=>by kernel_rfl
 ·rcases bu:a6 (l<(18446744073709551616:Int))with _|_;·exact ck 1 [B.i (kM aW []),B.i (x8 bu [])] fun z f=>by kernel_rfl
  ·exact ck 1 [B.i (kM aW []),B.i (x8 bu [])] fun z f=>by kernel_rfl
theorem anP{J:List aV}(Y:M)(c:dP J)(i:Nat){v:aF}(ar:qZ v eQ)(aw:v.b.length≤90):dH ab 133 3 [.c 0,.b (.c v.b)] (bv J Y i) (o (cp J Y F3 (fo (a_ J) v i))):=adF Y c i aw (s7 c i ar)
end
section
open PySem
noncomputable def u2(r:Int):M:=.b r
theorem PL{J:List aV}(Y:M)(c:dP J)(i:Nat)(m:Int)(d G:Nat)(fu:Int→Bool)(a8:∀f,h2 .f5 f [.b (.b m)]=o (.b (.c [d,G])))(a3:∀l,b_ ab 5 1 [.b (.b l),.b (.b m)] (.ok (.g (fu l)))):dH ab 138 8 [.c 0,.b (.b m)] (bv J Y i) (o (cp J Y u2 (fJ (a_ J) fu i))):=by
 have dx:=w8 Y c i (s7 c i (v:=aF.i) (cF rfl));have jp:=w8 Y c i (s7 c i (v:=aF.f) (cF rfl));unfold fJ;generalize bd .i (a_ J i)=e at dx⊢;generalize bd .f (a_ J i)=q at jp⊢;rcases e;·
  have v:=DX Y c (an q (i+1) i);show dH _ _ _ _ _ (o (cp J Y u2 (cl (ke (a_ J) (an q (i+1) i)) fun l Q=>hj (fu l) (l:Int) Q)));generalize ke (a_ J) (an q (i+1) i)=k at v⊢;obtain⟨_|l,Q⟩:=k;·exact f' 8 [B.p dx,B.p jp,B.p v] fun z=>by kernel_rfl
  ·have w:=a3 l;show dH _ _ _ _ _ (o (cp J Y u2 (hj (fu l) (l:Int) Q)));generalize fu l=s at w⊢;rcases s;·exact f' 8 [B.p dx,B.p jp,B.p v,B.j w,B.u (a8 (bv J Y Q))] fun z=>by kernel_rfl
   ·exact f' 8 [B.p dx,B.p jp,B.p v,B.j w] fun z=>by kernel_rfl
 ·have v:=DX Y c (i+1);show dH _ _ _ _ _ (o (cp J Y u2 (cl (ke (a_ J) (i+1)) fun l Q=>hj (fu (-(l:Int))) (-(l:Int)) Q)));generalize ke (a_ J) (i+1)=k at v⊢;obtain⟨_|l,Q⟩:=k;·exact f' 8 [B.p dx,B.p v] fun z=>by kernel_rfl
  ·have w:=a3 (-(l:Int));show dH _ _ _ _ _ (o (cp J Y u2 (hj (fu (-(l:Int))) (-(l:Int)) Q)));generalize fu (-(l:Int))=s at w⊢;rcases s;·exact f' 8 [B.p dx,B.p v,B.j w,B.u (a8 (bv J Y Q))] fun z=>by kernel_rfl
   ·exact f' 8 [B.p dx,B.p v,B.j w] fun z=>by kernel_rfl
end
section
open PySem
theorem Pk(g e:Nat):bR g e=bR e g:=lg.2 (by rw[Nat.beq_eq,Nat.beq_eq];exact⟨Eq.symm,Eq.symm⟩)
theorem Qd{V:Type}[DecidableEq V](g e:V):a6 (g=e)=a6 (e=g):=lg.2 (by rw[decide_eq_true_iff,decide_eq_true_iff];exact⟨Eq.symm,Eq.symm⟩)
abbrev jg(n:Option aV):Prop:=∀s,n=o s→s.d9
theorem aha{V:Type}(l:V→M){n:Option aV}(aj:jg n)(p:List (aF×V)):(∀b∈p,qZ b.1 eQ)→mJ (p.map fun b=>(aF.b b.1,l b.2)) (dq n)=(cZ p n).map l:=by induction p with|nil=>exact fun _=>by unfold cZ;rcases n.bind A2<;>rfl|cons b p ak=>
 intro c;have ak:=ak fun d aH=>c d (e6 _ aH);have u:=(Qd _ _).trans (FF aj (c b (dY ..)));show i0 _ (match a6 (aF.b b.1=dq n)with|true=>o (aF.b b.1,l b.2)|false=>(p.map fun b=>(aF.b b.1,l b.2)).find? fun b=>a6 (b.1=dq n))=_;unfold cZ bd at*;rw[u];generalize n.bind A2=d at ak⊢;rcases d with _|Q;·exact ak
 ·show i0 _ (match bR Q b.1 with|true=>o (aF.b b.1,l b.2)|false=>(p.map fun b=>(aF.b b.1,l b.2)).find? fun b=>a6 (b.1=dq n))=i0 l (i0 _ (match bR b.1 Q with|true=>o b|false=>p.find? fun b=>bR b.1 Q));rw[Pk b.1 Q];rcases bR Q b.1;·exact ak
  ·rfl
noncomputable def kP(y:List Nat):Bool:=y.all (·<1114112)
theorem Jx(g e:List Nat):q2 (.str ⟨g.toArray⟩) (.str ⟨e.toArray⟩)=a6 (g=e):=by
 show((⟨g.toArray⟩:aq)==⟨e.toArray⟩)=_;by_cases c:g=e;·rw[c,decide_eq_true rfl];exact beq_self_eq_true _
 ·rw[decide_eq_false c];exact beq_eq_false_iff_ne.2 fun b=>c (congrArg (fun y:aq=>y.cps.toList) b)
theorem aiK(p:List (List Nat)):p.all kP=I→uR (p.map .c)=o (p.map fun y=>.str ⟨y.toArray⟩):=by induction p with|nil=>exact fun _=>rfl|cons y p ak=>intro c;obtain⟨H,L⟩:=e5.1 c;show((if kP y=I then o (PyData.str ⟨y.toArray⟩)else U).bind fun F=>(uR (p.map .c)).map (F::·))=_;rw[ak L,if_pos H];rfl
theorem D_{y:List Nat}(p:List (List Nat))(aW:kP y=I)(aw:p.all kP=I):sV (.c y) (p.map .c)=o (p.any fun s=>a6 (s=y)):=by unfold sV;rw[aiK p aw];show((if kP y=I then o (PyData.str ⟨y.toArray⟩)else U).bind _)=_;rw[if_pos aW];show o (List.any (p.map fun y=>PyData.str ⟨y.toArray⟩) fun G=>q2 G (.str ⟨y.toArray⟩))=_;rw[List.any_map];exact congrArg (fun w=>o (p.any w)) (funext fun s=>Jx s y)
theorem TS:eI.map (fun s=>kP s.bT)=eI.map fun _=>I:=by kernel_rfl
theorem alK:(de 16).map (fun F=>a6 (ce F<1114112))=(de 16).map fun _=>I:=by kernel_rfl
theorem aqo{p:List Nat}(c:∀F∈p,F<16):kP (p.map ce)=I:=fe.2 fun d aH=>by obtain⟨F,aI,rfl⟩:=pN.1 aH;exact a7 alK (gc.2 (c F aI))
theorem w5(e:Bool):hP e≤16:=by rcases e<;>decide
theorem yr{n:Option aV}(aj:jg n):kP (dq n)=I:=by
 rcases n with _|s;·rfl
 ·have c:=aj s rfl;rcases s with⟨e,z⟩|⟨e,l⟩|v;·exact a7 TS (mh c)
  ·have:=aqo fun F aI=>fg (rN (mH e) l F aI) (w5 e);rcases e;·exact this
   ·exact this
  ·exact a7 TS (mg c)
theorem Z'{n:Option aV}(aj:jg n)(p:List aF)(aw:∀v∈p,qZ v eQ):(p.any fun v=>a6 (aF.b v=dq n))=p.any fun v=>bd v n:=by induction p with|nil=>rfl|cons v p ak=>show(a6 (aF.b v=dq n)||p.any fun v=>a6 (aF.b v=dq n))=(bd v n||p.any fun v=>bd v n);rw[ak fun d aH=>aw d (e6 _ aH),Qd,FF aj (aw v (dY ..))]
theorem D9{n:Option aV}(aj:jg n)(p:List aF)(aW:(p.map aF.b).all kP=I)(aw:∀v∈p,qZ v eQ):sV (.c (dq n)) ((p.map aF.b).map .c)=o (p.any fun v=>bd v n):=(D_ _ (yr aj) aW).trans (congrArg o ((List.any_map (f:=aF.b)).trans (Z' aj p aw)))
theorem EI{p:List aF}(c:(p.all fun v=>eS v eQ)=I):∀v∈p,qZ v eQ:=fun v ar=>cF (fe.1 c v ar)
theorem gP{J:List aV}(c:dP J)(i:Nat):jg (a_ J i):=fun _ b=>Be c b
end
section
open PySem
def b9(bP:List B)(w r:Nat)(ag:List K)(f:af)(t:Except M K×af):Prop:=dH ab w r ag f (o t)
section
variable{V bg:Type}{J:List aV}{Y:M}{bP:List B}{w r cB ib:Nat}{ag jD:List K}{f a1:af}{E:bg→M}
theorem b9.b{t:Except M K×af}(b:∀z,sQ (lH ab z r w ag f) bP t):b9 bP w r ag f t:=f' r bP b
theorem cy{d:c5 V}{c:V→Nat→c5 bg}{zi:V→M}(v:dH ab cB ib jD a1 (o (cp J Y zi d)))(H:∀g Q(v:dH ab cB ib jD a1 (o (.ok (.b (zi g)),bv J Y Q))),b9 (bP++[B.p v]) w r ag f (cp J Y E (c g Q)))(aX:∀Q(v:dH ab cB ib jD a1 (o (.error Y,bv J Y Q))),b9 (bP++[B.p v]) w r ag f (.error Y,bv J Y Q)):b9 bP w r ag f (cp J Y E (cl d c)):=by
 obtain⟨_|g,Q⟩:=d;·exact aX Q v
 ·exact H g Q v
theorem ct(q:B){t:Except M K×af}(c:b9 (bP++[q]) w r ag f t):b9 bP w r ag f t:=c
variable{k u:c5 bg}{e:Bool}{bH:jh}{d G:K}
theorem lO(v:bI bH a1 d G=o e)(H:∀v:bI bH a1 d G=o I,b9 (bP++[B.i v]) w r ag f (cp J Y E k))(aX:∀v:bI bH a1 d G=o C,b9 (bP++[B.i v]) w r ag f (cp J Y E u)):b9 bP w r ag f (cp J Y E (an e k u)):=by
 rcases e;·exact aX v
 ·exact H v
theorem kb(v:bI bH a1 d G=o (!e))(H:∀v:bI bH a1 d G=o C,b9 (bP++[B.i v]) w r ag f (cp J Y E k))(aX:∀v:bI bH a1 d G=o I,b9 (bP++[B.i v]) w r ag f (cp J Y E u)):b9 bP w r ag f (cp J Y E (an e k u)):=by
 rcases e;·exact aX v
 ·exact H v
theorem s8(v:b_ ab cB ib jD (.ok (.g e)))(H:∀v:b_ ab cB ib jD (.ok (.g I)),b9 (bP++[B.j v]) w r ag f (cp J Y E k))(aX:∀v:b_ ab cB ib jD (.ok (.g C)),b9 (bP++[B.j v]) w r ag f (cp J Y E u)):b9 bP w r ag f (cp J Y E (an e k u)):=by
 rcases e;·exact aX v
 ·exact H v
theorem x2{n:Option aV}(v:b_ ab cB ib jD (.ok (yk (py n))))(H:∀t(v:b_ ab cB ib jD (.ok (yk (o t)))),b9 (bP++[B.j v]) w r ag f (cp J Y E k))(aX:∀v:b_ ab cB ib jD (.ok (yk U)),b9 (bP++[B.j v]) w r ag f (cp J Y E u)):b9 bP w r ag f (cp J Y E (an (kL n) k u)):=by
 unfold kL;generalize py n=d at v⊢;rcases d with _|t;·exact aX v
 ·exact H t v
end
def BZ(d:Bool×dt):M:=.j [.c [an d.1 115 117],.b (eB d.2)]
noncomputable def B1:List (List Nat×Bool×Bool):=[([117],I,C),([117,115],I,I),([115],C,I)]
def LQ(ad y:Bool)(n:Option aV)(i:Nat):c5 (Bool×dt):=co (oL n) (fun d=>hj (an d.1 y ad) d (i+1)) (U,i+1)
theorem asx(J:List aV)(Y:M)(i z:Nat):B1.map (fun p=>(U::eI.map o).map fun n=>lH ab z 3 84 [.c 0,.b (.c p.1)] (bv J Y i) [.b 131 2 (o (.ok (.b (.c (dq n))),bv J Y (i+1)))] [])=B1.map fun p=>(U::eI.map o).map fun n=>o (cp J Y BZ (LQ p.2.1 p.2.2 n i),[],[dH ab 131 2 [.c 0] (bv J Y i) (o (.ok (.b (.c (dq n))),bv J Y (i+1)))]):=by kernel_rfl
theorem asy(f:af):(de 10).map (fun F=>B1.map fun p=>bI .NotIn f (.b (.c [ce F])) (.b (.c p.1)))=(de 10).map fun _=>B1.map fun _=>o I:=by kernel_rfl
section
variable{J:List aV}(Y:M)(c:dP J)(i:Nat)
include c
theorem DY{p:List Nat×Bool×Bool}(aw:p∈B1):dH ab 84 3 [.c 0,.b (.c p.1)] (bv J Y i) (o (cp J Y BZ (vm (a_ J) p.2.1 p.2.2 i))):=by
 have v:=nw Y c i;have aj:=gP c i;show dH _ _ _ _ _ (o (cp J Y BZ (LQ p.2.1 p.2.2 (a_ J i) i)));generalize a_ J i=n at v aj⊢;have hr:n∈U::eI.map o→dH ab 84 3 [.c 0,.b (.c p.1)] (bv J Y i) (o (cp J Y BZ (LQ p.2.1 p.2.2 n i))):=fun aj=>f' 3 [B.p v] fun z=>a7 (a7 (asx J Y i z) aw) aj;rcases n with _|⟨e,z⟩|⟨e,l⟩|Q;·exact hr (dY ..)
 ·exact hr (e6 _ (pO (mh (aj _ rfl))))
 ·obtain⟨F,t,aI,b⟩:=qG e l;have jB:=EN (aj _ rfl);have dh:dq (o (aV.en e l))=ce F::t:=b;rw[dh]at v;rw[b]at jB;have u:=a7 (a7 (asy (bv J Y (i+1))) (gc.2 aI)) aw;exact f' 3 [B.p v,B.r (yp (ce F::t) 1 jB),B.i u] fun z=>by kernel_rfl
 ·exact hr (e6 _ (pO (mg (aj _ rfl))))
omit c
theorem Fj{n:Option aV}(aj:jg n)(f:af):bI .In f (.b (.c (dq n))) (.b (.j [.c [43],.c [45]]))=o (im n):=(D9 aj [.f,.i] rfl (EI rfl)).trans (congrArg (fun e=>o (bd .f n||e)) (Ga _))
theorem aoS{n:Option aV}(aj:jg n)(f:af):bI .NotIn f (.b (.c (dq n))) (.b (.j [.c [43],.c [45]]))=o (!im n):=congrArg (i0 (!·)) (Fj aj f)
noncomputable def aoO(k:Nat×Int):M:=.j [.b (k.1:Nat),.b k.2]
def anh(z:(Bool×dt)×Nat×Int):M:=.j [.c [an z.1.1 115 117],.b (eB z.1.2),.b (z.2.1:Nat),.b z.2.2]
noncomputable def aju(k:Int×List Nat):M:=.j [.b k.1,.c k.2]
include c
theorem fO{v:aF}(ar:(eS v eQ&&gd v.b.length 90)=I):dH ab 133 3 [.c 0,.b (.c v.b)] (bv J Y i) (o (cp J Y F3 (fo (a_ J) v i))):=anP Y c i (cF (e5.1 ar).1) (cF (e5.1 ar).2)
theorem adE:dH ab 138 8 [.c 0,.b (.b 16)] (bv J Y i) (o (cp J Y u2 (fJ (a_ J) nx i))):=PL Y c i 16 49 54 nx (fun _=>by kernel_rfl) DV
theorem pk:dH ab 138 8 [.c 0,.b (.b 32)] (bv J Y i) (o (cp J Y u2 (fJ (a_ J) iS i))):=PL Y c i 32 51 50 iS (fun _=>by kernel_rfl) adB
theorem w7:b9 [] 85 9 [.c 0] (bv J Y i) (cp J Y aoO (tj (a_ J) i)):=by refine cy (md Y c C i) (fun _ Q _=>ct (B.p (jH Y c Q)) (kb (aoS (gP c Q) (bv J Y Q)) (fun _=>cy (adE Y c Q) ?_ ?_) ?_)) ?_;all_goals(intros;exact b9.b fun z=>by kernel_rfl)
theorem I5(y:Bool):b9 [] 86 10 [.c 0,.b (.c (an y [117,115] [117]))] (bv J Y i) (cp J Y anh (nG (a_ J) y i)):=by
 have cc:∀i,dH ab 84 3 [.c 0,.b (.c (an y [117,115] [117]))] (bv J Y i) (o (cp J Y BZ (vm (a_ J) I y i))):=by
  rcases y;·exact fun i=>DY Y c i (p:=([117],I,C)) (dY ..)
  ·exact fun i=>DY Y c i (p:=([117,115],I,I)) (e6 _ (dY ..))
 refine cy (fO Y c i rfl) (fun _ i _=>cy (fO Y c i rfl) (fun _ i _=>cy (cc i) (fun _ i _=>cy (fO Y c i rfl) (fun _ i _=>cy (fO Y c i rfl) (fun _ i _=>cy (fO Y c i rfl) (fun _ i _=>cy (w7 Y c i) (fun _ i _=>cy (fO Y c i rfl) ?_ ?_) ?_) ?_) ?_) ?_) ?_) ?_) ?_;all_goals(intros;exact b9.b fun z=>by kernel_rfl)
theorem I4:b9 [] 87 9 [.c 0] (bv J Y i) (cp J Y aju (yg (a_ J) i)):=by refine ct (B.p (jH Y c i)) (lO (Fj (gP c i) (bv J Y i)) (fun _=>cy (pk Y c i) ?_ ?_) fun _=>ct (B.p (jH Y c i)) (s8 (I6 c i) (fun _=>ct (B.p (nw Y c i)) ?_) ?_));all_goals(intros;exact b9.b fun z=>by kernel_rfl)
end
end
section
open PySem
noncomputable def eb(w:cY):M:=.k 6 [(.gI,.b w.1),(.l8,.b w.2.1),(.l_,.b w.2.2.1),(.nr,.b w.2.2.2.1),(.kB,.b w.2.2.2.2.1),(.wD,.b w.2.2.2.2.2)]
noncomputable def xh(w:cY×List Nat):M:=.j [eb w.1,.c w.2]
noncomputable def gK(q:Nat):List Nat:=[[97,100,100],[115,117,98],[109,117,108],[100,105,118],[111,114],[97,110,100],[108,115,104],[114,115,104],[],[109,111,100],[120,111,114],[109,111,118],[97,114,115,104],[],[],[100,105,118],[109,111,100]].getD q []
noncomputable def qA(q:Nat):List Nat:=[[],[101,113],[103,116],[103,101],[115,101,116],[110,101],[115,103,116],[115,103,101],[],[],[108,116],[108,101],[115,108,116],[115,108,101]].getD q []
noncomputable def iO:List (aF×Nat):=jb.take 12
noncomputable def oo:List (aF×Nat):=jb.drop 12
noncomputable def BG(cD:Nat→List Nat)(p:List (aF×Nat)):M:=.l (p.map fun b=>(aF.b b.1,.c (cD b.2)))
noncomputable def FJ(cD:Nat→List Nat)(p:List (aF×Nat)):M:=.l (p.map fun b=>(cD b.2,.c (aF.b b.1)))
theorem yx:b_ ab 54 5 [] (.ok (FJ gK iO)):=fun r f=>by kernel_rfl
theorem LJ:b_ ab 55 5 [] (.ok (FJ qA ii)):=fun r f=>by kernel_rfl
theorem LH:b_ ab 83 5 [.b (FJ gK iO)] (.ok (BG gK iO)):=fun r f=>by kernel_rfl
theorem ar6:b_ ab 83 5 [.b (FJ qA ii)] (.ok (BG qA ii)):=fun r f=>by kernel_rfl
theorem iW{V:Type}{p:List (aF×V)}{n:Option aV}{g:V}(b:cZ p n=o g):∃v,(v,g)∈p∧n=o (.b0 v):=by
 rcases n with _|⟨e,z⟩|⟨e,l⟩|Q;·exact nomatch b
 ·exact nomatch b
 ·exact nomatch b
 ·obtain⟨⟨v,v1⟩,H,L⟩:=nS.1 (show i0 _ _=_ from b);obtain rfl:v1=g:=L;have aR:=Gl H;obtain rfl:v=Q:=g5 aR;exact⟨v,Gz H,rfl⟩
theorem ye{P:Option aV→Prop}{n:Option aV}(aj:jg n)(a3:∀n∈U::eI.map o,P n)(ah:∀e l,P (o (.en e l))):P n:=by
 rcases n with _|⟨e,z⟩|⟨e,l⟩|Q;·exact a3 _ (dY ..)
 ·exact a3 _ (e6 _ (pO (mh (aj _ rfl))))
 ·exact ah e l
 ·exact a3 _ (e6 _ (pO (mg (aj _ rfl))))
theorem ajt{cD:Nat→List Nat}{p:List (aF×Nat)}(aw:(p.all fun b=>eS b.1 eQ)=I){n:Option aV}(aj:jg n){X:ea}(f:af):jM X .e (.b (BG cD p)) .oa [.b (.c (dq n)),.b (.c [])] f=o (.ok (.b (.c (co (cZ p n) cD []))),f):=by show cW (K.b ((mJ (p.map fun b=>(aF.b b.1,M.c (cD b.2))) (dq n)).getD (.c []))) f=_;rw[aha (fun q=>M.c (cD q)) aj p fun v ar=>cF (fe.1 aw v ar)];rcases cZ p n<;>rfl
noncomputable def d8:List Bool:=[C,I]
theorem hB(e:Bool):e∈d8:=by rcases e<;>decide
section
variable(F y l g:Int)
noncomputable def fm(q F y n i:Int):M:=eb (q,F,y,n,i,0)
def auL(b:Nat)(e:Bool)(t:Bool):Int:=lJ b+fV e+an t 8 0
theorem Z5(r:Nat)(f:af):iO.map (fun b=>d8.map fun e=>bp ab (r+5) 31 [.b (.c (gK b.2)),.b (.b F),.b (.b y),.b (.b (eo e))] f)=iO.map fun b=>d8.map fun e=>o (.ok (.b (fm (lJ b.2+fV e+8) F y (mK b.2) 0)),f):=by kernel_rfl
theorem Z4(r:Nat)(f:af):iO.map (fun b=>d8.map fun e=>bp ab (r+5) 32 [.b (.c (gK b.2)),.b (.b F),.b (.b l),.b (.b (eo e))] f)=iO.map fun b=>d8.map fun e=>o (.ok (.b (fm (lJ b.2+fV e) F 0 (mK b.2) l)),f):=by kernel_rfl
theorem ac5(r:Nat)(f:af):ii.map (fun b=>d8.map fun e=>bp ab (r+5) 40 [.b (.c (qA b.2)),.b (.b F),.b (.b y),.b (.b g),.b (.b (eo e))] f)=ii.map fun b=>d8.map fun e=>o (.ok (.b (fm (16*(b.2:Int)+an e 6 5+8) F y g 0)),f):=by kernel_rfl
theorem ac4(r:Nat)(f:af):ii.map (fun b=>d8.map fun e=>bp ab (r+5) 41 [.b (.c (qA b.2)),.b (.b F),.b (.b l),.b (.b g),.b (.b (eo e))] f)=ii.map fun b=>d8.map fun e=>o (.ok (.b (fm (16*(b.2:Int)+an e 6 5) F 0 g l)),f):=by kernel_rfl
theorem amN(r:Nat)(f:af):lP.map (fun b=>d8.map fun e=>bp ab (r+5) 47 [.b (.c (gK b.2)),.b (.b (eB (I,e))),.b (.b F),.b (.b g),.b (.b y)] f)=lP.map fun b=>d8.map fun e=>o (.ok (.b (fm (195+fK (I,e)) F y g (16*(b.2:Int)))),f):=by kernel_rfl
end
theorem an6:ii.map (fun b=>a6 (qA b.2=[]))=ii.map fun _=>C:=by kernel_rfl
theorem an4:iO.map (fun b=>a6 (gK b.2=[]))=iO.map fun _=>C:=by kernel_rfl
theorem amO(f:af):(U::eI.map o).map (fun n=>(bI .NotIn f (.b (.c (co (cZ iO n) gK []))) (.b (.j [.c [97,100,100],.c [111,114],.c [97,110,100],.c [120,111,114]])),an (s' n).isSome (co (cZ iO n) gK []) []))=(U::eI.map o).map fun n=>(o (!(s' n).isSome),co (s' n) gK []):=by kernel_rfl
section
variable{v:aF}{q:Nat}(F y l g:Int)(e:Bool)
theorem arW(a9:(v,q)∈iO):b_ ab 31 5 [.b (.c (gK q)),.b (.b F),.b (.b y),.b (.b (eo e))] (.ok (fm (lJ q+fV e+8) F y (mK q) 0)):=fun r f=>a7 (a7 (Z5 F y r f) a9) (hB e)
theorem LI(a9:(v,q)∈iO):b_ ab 32 5 [.b (.c (gK q)),.b (.b F),.b (.b l),.b (.b (eo e))] (.ok (fm (lJ q+fV e) F 0 (mK q) l)):=fun r f=>a7 (a7 (Z4 F l r f) a9) (hB e)
theorem arZ(a9:(v,q)∈ii):b_ ab 40 5 [.b (.c (qA q)),.b (.b F),.b (.b y),.b (.b g),.b (.b (eo e))] (.ok (fm (16*(q:Int)+an e 6 5+8) F y g 0)):=fun r f=>a7 (a7 (ac5 F y g r f) a9) (hB e)
theorem arY(a9:(v,q)∈ii):b_ ab 41 5 [.b (.c (qA q)),.b (.b F),.b (.b l),.b (.b g),.b (.b (eo e))] (.ok (fm (16*(q:Int)+an e 6 5) F 0 g l)):=fun r f=>a7 (a7 (ac4 F l g r f) a9) (hB e)
theorem ar7(a9:(v,q)∈lP){d:dt}(b:d.1=I){cD:List Nat}(aW:cD=gK q):b_ ab 47 5 [.b (.c cD),.b (.b (eB d)),.b (.b F),.b (.b g),.b (.b y)] (.ok (fm (195+fK d) F y g (16*(q:Int)))):=fun r f=>by obtain⟨_,iw⟩:=d;obtain rfl:=b;obtain rfl:=aW;exact a7 (a7 (amN F y g r f) a9) (hB iw)
theorem yz{P:dt→Prop}(c:∀g∈d8,∀e∈d8,P (g,e))(d:dt):P d:=c _ (hB _) _ (hB _)
theorem FM(r:Nat)(f:af):d8.map (fun d=>d8.map fun G=>(bp ab (r+3) 44 [.b (.b (eB (d,G))),.b (.b F),.b (.b g),.b (.b y)] f,bp ab (r+3) 45 [.b (.b (eB (d,G))),.b (.b F),.b (.b g),.b (.b l)] f,bp ab (r+3) 42 [.b (.b (eB (d,G))),.b (.b F),.b (.b y),.b (.b g)] f,bp ab (r+3) 43 [.b (.b (eB (d,G))),.b (.b F),.b (.b y),.b (.b g)] f))=d8.map fun d=>d8.map fun G=>(o (.ok (.b (fm (99+fK (d,G)) F y g 0)),f),o (.ok (.b (fm (98+fK (d,G)) F 0 g l)),f),o (.ok (.b (fm (97+fK (d,G)) F y g 0)),f),o (.ok (.b (fm (129+fK (d,G)) F y g 0)),f)):=by kernel_rfl
theorem asi(d:dt):b_ ab 44 3 [.b (.b (eB d)),.b (.b F),.b (.b g),.b (.b y)] (.ok (fm (99+fK d) F y g 0)):=fun r f=>yz (P:=fun d=>bp ab (r+3) 44 [.b (.b (eB d)),.b (.b F),.b (.b g),.b (.b y)] f=o (.ok (.b (fm (99+fK d) F y g 0)),f)) (fun _ H _ L=>(bw (a7 (a7 (FM F y 0 g r f) H) L)).1) d
theorem asj(d:dt):b_ ab 45 3 [.b (.b (eB d)),.b (.b F),.b (.b g),.b (.b l)] (.ok (fm (98+fK d) F 0 g l)):=fun r f=>yz (P:=fun d=>bp ab (r+3) 45 [.b (.b (eB d)),.b (.b F),.b (.b g),.b (.b l)] f=o (.ok (.b (fm (98+fK d) F 0 g l)),f)) (fun _ H _ L=>(bw (bw (a7 (a7 (FM F 0 l g r f) H) L)).2).1) d
theorem ar8(d:dt):b_ ab 42 3 [.b (.b (eB d)),.b (.b F),.b (.b y),.b (.b g)] (.ok (fm (97+fK d) F y g 0)):=fun r f=>yz (P:=fun d=>bp ab (r+3) 42 [.b (.b (eB d)),.b (.b F),.b (.b y),.b (.b g)] f=o (.ok (.b (fm (97+fK d) F y g 0)),f)) (fun _ H _ L=>(bw (bw (bw (a7 (a7 (FM F y 0 g r f) H) L)).2).2).1) d
theorem asa(d:dt):b_ ab 43 3 [.b (.b (eB d)),.b (.b F),.b (.b y),.b (.b g)] (.ok (fm (129+fK d) F y g 0)):=fun r f=>yz (P:=fun d=>bp ab (r+3) 43 [.b (.b (eB d)),.b (.b F),.b (.b y),.b (.b g)] f=o (.ok (.b (fm (129+fK d) F y g 0)),f)) (fun _ H _ L=>(bw (bw (bw (a7 (a7 (FM F y 0 g r f) H) L)).2).2).2) d
theorem SA{d:dt}{s:Bool}(b:(!d.1)=s)(f:af):bI .Lt f (.b (.b (eB d))) (.b (.b 4))=o s:=by obtain rfl:=b;obtain⟨_|_,_|_⟩:=d<;>rfl
theorem KJ(d:dt):fF .Mult (.b (.b 8)) (.b (.b (eB d)))=o (.b (8*eB d)):=by obtain⟨_|_,_|_⟩:=d<;>kernel_rfl
theorem anM{d:dt}(b:(!d.1)=C):fF .Mult (.b (.b 8)) (.b (.b (eB d)))=o (.b (eo (!d.2))):=by
 obtain⟨_|_,_|_⟩:=d;·exact nomatch b
 ·exact nomatch b
 ·kernel_rfl
 ·kernel_rfl
end
end
section
open PySem
section
variable{V bg:Type}{J:List aV}{Y:M}{bP:List B}{w r cB ib:Nat}{ag jD:List K}{f a1:af}{E:bg→M}{k u:c5 bg}{e:Bool}
theorem vf{p:List (aF×V)}{n:Option aV}{cS:V→c5 bg}(H:∀v g,(v,g)∈p→n=o (.b0 v)→cZ p n=o g→b9 bP w r ag f (cp J Y E (cS g)))(aX:cZ p n=U→b9 bP w r ag f (cp J Y E k)):b9 bP w r ag f (cp J Y E (co (cZ p n) cS k)):=by
 rcases b:cZ p n with _|g;·exact aX b
 ·obtain⟨v,ar,aj⟩:=iW b;exact H v g ar aj b
theorem al8(H:e=I→b9 bP w r ag f (cp J Y E k))(aX:e=C→b9 bP w r ag f (cp J Y E u)):b9 bP w r ag f (cp J Y E (an e k u)):=by
 rcases e;·exact aX rfl
 ·exact H rfl
theorem qu{q:Bool}(c:b9 bP w r ag f (cp J Y E (an e (an q k u) u))):b9 bP w r ag f (cp J Y E (an (e&&q) k u)):=by rcases e<;>exact c
theorem Lu{x:gn}{i:Nat}{cS:Bool×Int→Nat→c5 bg}(c:b9 bP w r ag f (cp J Y E (an (kL (x i)) (cl (hk x e i) fun r Q=>cS (I,(r:Int)) Q) (cl (fJ x iS i) fun l Q=>cS (C,l) Q)))):b9 bP w r ag f (cp J Y E (cl (tk x e i) cS)):=by
 have b:cl (tk x e i) cS=an (kL (x i)) (cl (hk x e i) fun r Q=>cS (I,(r:Int)) Q) (cl (fJ x iS i) fun l Q=>cS (C,l) Q):=by
  unfold tk;rcases kL (x i);·rcases fJ x iS i with⟨_|_,_⟩<;>rfl
  ·rcases hk x e i with⟨_|_,_⟩<;>rfl
 rw[b];exact c
end
noncomputable def SZ:ea:=fun _ _ _=>U
theorem AT{cD:Nat→List Nat}{p:List (aF×Nat)}(aw:(p.all fun b=>eS b.1 eQ)=I){n:Option aV}(aj:jg n)(f:af){t:Option Nat}(b:cZ p n=t):jM SZ .e (.b (BG cD p)) .oa [.b (.c (dq n)),.b (.c [])] f=o (.ok (.b (.c (co t cD []))),f):=b▸ajt aw aj f
theorem Kr{n:Option aV}(aj:jg n)(f:af){t:Option Nat}(b:s' n=t):(bI .NotIn f (.b (.c (co (cZ iO n) gK []))) (.b (.j [.c [97,100,100],.c [111,114],.c [97,110,100],.c [120,111,114]])),an t.isSome (co (cZ iO n) gK []) [])=(o (!t.isSome),co t gK []):=b▸ye (P:=fun n=>(bI .NotIn f (.b (.c (co (cZ iO n) gK []))) (.b (.j [.c [97,100,100],.c [111,114],.c [97,110,100],.c [120,111,114]])),an (s' n).isSome (co (cZ iO n) gK []) [])=(o (!(s' n).isSome),co (s' n) gK [])) aj (fun _ c=>a7 (amO f) c) fun _ _=>by kernel_rfl
section
variable{J:List aV}(Y:M)(c:dP J)(i:Nat)
include c
theorem oy{v:aF}(ar:eS v eQ=I)(i:Nat)(f:af):bI .Eq f (.b (.c (dq (a_ J i)))) (.b (.c v.b))=o (bd v (a_ J i)):=qy (s7 c i (cF ar)) f
theorem adP:b9 [] 88 10 [.c 0] (bv J Y i) (cp J Y xh (vj (a_ J) i)):=by refine ct (B.p (nw Y c i)) (cy (I4 Y c (i+1)) (fun l Q _=>lO (oy c rfl i (bv J Y Q)) ?_ fun _=>s8 (DV l.1) ?_ ?_) ?_);all_goals(intros;exact b9.b fun z=>by kernel_rfl)
theorem adK:b9 [] 90 9 [.c 0] (bv J Y i) (cp J Y xh (vi (a_ J) i)):=by refine cy (fO Y c i rfl) (fun _ i _=>ct (B.p (jH Y c i)) (qu (lO (oy c rfl i (bv J Y i)) (fun _=>ct (B.p (DW (Y:=Y) c i 1)) (lO (Fj (gP c (i+1)) (bv J Y i)) (fun _=>ct (B.p (nw Y c i)) (cy (pk Y c (i+1)) ?_ ?_)) fun _=>ct (B.p (jH Y c i)) (s8 (I6 c i) (fun _=>ct (B.p (nw Y c i)) ?_) fun _=>cy (pk Y c i) ?_ ?_))) fun _=>ct (B.p (jH Y c i)) (s8 (I6 c i) (fun _=>ct (B.p (nw Y c i)) ?_) fun _=>cy (pk Y c i) ?_ ?_)))) ?_;all_goals(intros;exact b9.b fun z=>by kernel_rfl)
theorem adU:b9 [] 91 11 [.c 0] (bv J Y i) (cp J Y eb (vl (a_ J) i)):=by refine cy (I5 Y c i C) (fun z i _=>cy (fO Y c i rfl) (fun _ i _=>ct (B.p (jH Y c i)) (x2 (uI c i) (fun _ _=>cy (md Y c C i) (fun t i _=>ct (B.j (asi z.2.1 t z.2.2 z.1.2)) ?_) ?_) fun _=>cy (pk Y c i) (fun l i _=>ct (B.j (asj z.2.1 l z.2.2 z.1.2)) ?_) ?_)) ?_) ?_;all_goals(intros;exact b9.b fun z=>by kernel_rfl)
theorem adJ:b9 [] 89 11 [.c 0] (bv J Y i) (cp J Y xh (vh (a_ J) i)):=by refine cy (fO Y c i rfl) (fun _ i _=>cy (I8 Y c i) (fun t i _=>ct (B.j LJ) (ct (B.j ar6) (ct (B.p (nw Y c i)) (vf (fun v q ar _ b=>ct (B.s (AT (cD:=qA) rfl (gP c i) (bv J Y (i+1)) b)) (ct (B.i (qy (a7 an6 ar) (bv J Y (i+1)))) (Lu (ct (B.p (jH Y c (i+1))) (x2 (uI c (i+1)) (fun _ _=>cy (md Y c t.1 (i+1)) (fun y i _=>cy (fO Y c i rfl) (fun _ i _=>cy (I4 Y c i) (fun l i _=>s8 (DV l.1) (fun _=>ct (B.j (arZ t.2 y l.1 t.1 ar)) ?_) ?_) ?_) ?_) ?_) fun _=>cy (pk Y c (i+1)) (fun y i _=>cy (fO Y c i rfl) (fun _ i _=>cy (I4 Y c i) (fun l i _=>s8 (DV l.1) (fun _=>ct (B.j (arY t.2 y l.1 t.1 ar)) ?_) ?_) ?_) ?_) ?_))))) fun b=>ct (B.s (AT (cD:=qA) rfl (gP c i) (bv J Y (i+1)) b)) ?_)))) ?_) ?_;all_goals(intros;exact b9.b fun z=>by kernel_rfl)
theorem adQ:b9 [] 92 11 [.c 0] (bv J Y i) (cp J Y eb (vk (a_ J) i)):=by refine cy (fO Y c i rfl) (fun _ i _=>cy (I5 Y c i C) (fun z i _=>ct (B.j yx) (ct (B.j LH) (ct (B.p (nw Y c i)) (ct (B.s (AT (cD:=gK) (p:=iO) rfl (gP c i) (bv J Y (i+1)) rfl)) (vf (fun v q ar _ b=>ct (B.i (bw (Kr (gP c i) (bv J Y (i+1)) b)).1) (al8 (fun d=>ct (B.i (SA d (bv J Y (i+1)))) ?_) fun d=>ct (B.i (SA d (bv J Y (i+1)))) (ct (B.q (anM d)) (cy (md Y c (!z.1.2.2) (i+1)) (fun t Q _=>ct (B.j (ar7 z.2.1 t z.2.2 ar (Bool.not_eq_false' _▸d) (bw (Kr (gP c i) [] b)).2)) ?_) ?_)))) fun b=>ct (B.i (bw (Kr (gP c i) (bv J Y (i+1)) b)).1) ?_))))) ?_) ?_;all_goals(intros;exact b9.b fun z=>by kernel_rfl)
end
end
section
open PySem
section
variable{bg:Type}{J:List aV}{Y:M}{bP:List B}{w r cB ib:Nat}{ag jD:List K}{f a1:af}{E:bg→M}
theorem oz{d:c5 bg}(v:dH ab cB ib jD a1 (o (cp J Y E d)))(H:∀g Q(v:dH ab cB ib jD a1 (o (.ok (.b (E g)),bv J Y Q))),b9 (bP++[B.p v]) w r ag f (.ok (.b (E g)),bv J Y Q))(aX:∀Q(v:dH ab cB ib jD a1 (o (.error Y,bv J Y Q))),b9 (bP++[B.p v]) w r ag f (.error Y,bv J Y Q)):b9 bP w r ag f (cp J Y E d):=by
 obtain⟨_|g,Q⟩:=d;·exact aX Q v
 ·exact H g Q v
end
theorem acL(g e:Nat):a6 ((g:Int)=e)=bR g e:=lg.2 (by rw[decide_eq_true_iff,Int.ofNat_inj,Nat.beq_eq])
theorem vb(g e:Nat)(f:af):bI .NotEq f (.b (.b g)) (.b (.b e))=o (!bR g e):=congrArg (fun e=>o (!e)) (acL g e)
theorem KK(g e:Int)(f:af):bI .NotEq f (.b (.b g)) (.b (.b e))=o (!a6 (g=e)):=rfl
theorem LC(e:Bool)(f:af):bI .NotEq f (.b (.b (eo e))) (.b (.b 64))=o (!!e):=by rcases e<;>rfl
noncomputable def AN(q:Nat):List Nat:=[102,101,116,99,104,95]++gK q
section
variable(F y l g:Int)
theorem ajf(r:Nat)(f:af):iT.map (fun b=>d8.map fun d=>d8.map fun G=>bp ab (r+5) 47 [.b (.c (AN b.2)),.b (.b (eB (d,G))),.b (.b F),.b (.b g),.b (.b y)] f)=iT.map fun b=>d8.map fun d=>d8.map fun G=>o (.ok (.b (fm (195+fK (d,G)) F y g (16*(b.2:Int)+1))),f):=by kernel_rfl
theorem as7(r:Nat)(f:af):d8.map (fun d=>d8.map fun G=>bp ab (r+5) 47 [.b (.c [120,99,104,103]),.b (.b (eB (d,G))),.b (.b F),.b (.b g),.b (.b y)] f)=d8.map fun d=>d8.map fun G=>o (.ok (.b (fm (195+fK (d,G)) F y g 225)),f):=by kernel_rfl
theorem ar0{v:aF}{q:Nat}(a9:(v,q)∈iT)(d:dt)(F y g:Int):b_ ab 47 5 [.b (.c (AN q)),.b (.b (eB d)),.b (.b F),.b (.b g),.b (.b y)] (.ok (fm (195+fK d) F y g (16*(q:Int)+1))):=fun r f=>yz (P:=fun d=>bp ab (r+5) 47 [.b (.c (AN q)),.b (.b (eB d)),.b (.b F),.b (.b g),.b (.b y)] f=o (.ok (.b (fm (195+fK d) F y g (16*(q:Int)+1))),f)) (fun _ H _ L=>a7 (a7 (a7 (ajf F y g r f) a9) H) L) d
theorem Uu(d:dt)(F y g:Int):b_ ab 47 5 [.b (.c [120,99,104,103]),.b (.b (eB d)),.b (.b F),.b (.b g),.b (.b y)] (.ok (fm (195+fK d) F y g 225)):=fun r f=>yz (P:=fun d=>bp ab (r+5) 47 [.b (.c [120,99,104,103]),.b (.b (eB d)),.b (.b F),.b (.b g),.b (.b y)] f=o (.ok (.b (fm (195+fK d) F y g 225)),f)) (fun _ H _ L=>a7 (a7 (as7 F y g r f) H) L) d
theorem asd(e:Bool):b_ ab 37 5 [.b (.b F),.b (.b y),.b (.b g),.b (.b (eo e))] (.ok (fm (184+fV e) F y g 0)):=by rcases e<;>exact fun r f=>by kernel_rfl
theorem asf(e:Bool):b_ ab 35 5 [.b (.b F),.b (.b (eo e))] (.ok (fm (128+fV e) F 0 0 0)):=by rcases e<;>exact fun r f=>by kernel_rfl
theorem Pg:fF .BitAnd (.b (.b l)) (.b (.b 4294967295))=o (.b (l%4294967296)):=congrArg (fun d=>o (M.b d)) (PyProof.Rows.bitAnd_m32 l)
theorem IO(v:Nat):fF .RShift (.b (.b l)) (.b (.b v))=o (.b (l/2^v)):=(if_pos (jP v):(if(0:Int)≤v then o (M.b (l.fdiv (2^(v:Int).toNat)))else U)=_).trans (congrArg (fun d=>o (M.b d)) (Gd _ (Int.pow_nonneg (by decide))))
theorem Uo:b_ ab 4 1 [.b (.b l),.b (.b 32)] (.ok (.b (fN l))):=by
 have ah:0≤l%4294967296:=tx _ (by decide);have aw:l%4294967296<4294967296:=vK _ (by decide);have dS:=Pg l;have cC:fF .RShift (.b (.b (l%4294967296))) (.b (.b 31))=o (.b (an (a6 (2147483648≤l%4294967296)) 1 0)):=(IO (l%4294967296) 31).trans (by
  rcases b:a6 (2147483648≤l%4294967296)with _|_;·exact congrArg (fun d=>o (M.b d)) (LY ah (Int.not_le.1 (of_decide_eq_false b)))
  ·refine congrArg (fun d=>o (M.b d)) (Int.le_antisymm (Int.lt_add_one_iff.1 ((Int.ediv_lt_iff_lt_mul (by decide)).2 aw)) ((Int.le_ediv_iff_mul_le (by decide)).2 (of_decide_eq_true b))));unfold fN;generalize l%4294967296=d at dS cC⊢;generalize a6 (2147483648≤d)=s at cC⊢;rcases s;·exact ck 1 [B.q dS,B.q cC] fun z f=>by kernel_rfl
 ·exact ck 1 [B.q dS,B.q cC] fun z f=>by kernel_rfl
theorem Us:b_ ab 48 3 [.b (.b F),.b (.b l)] (.ok (eb (24,F,0,0,fN l,fN (l/4294967296)))):=ck 3 [B.j (Uo l),B.q (IO l 32),B.j (Uo (l/4294967296))] fun z f=>by kernel_rfl
end
theorem aiE(l:Int):uQ l=(a6 (l<18446744073709551616)&&(AO l&&a6 (-9223372036854775808≤l))):=lg.2 (by unfold uQ AO;rw[vJ,vJ,decide_eq_true_iff,decide_eq_true_iff,s6,s6];exact⟨fun c=>⟨c.2,⟨g4 (by decide) c.1,c.2⟩,c.1⟩,fun c=>⟨c.2.2,c.1⟩⟩)
theorem JP(g e:Int)(f:af):bI .GtE f (.b (.b g)) (.b (.b e))=o (!a6 (g<e)):=congrArg o (lg.2 (by rw[m1,decide_eq_true_iff,decide_eq_false_iff_not];exact oP.symm))
theorem SB(g e:Int)(f:af):bI .Lt f (.b (.b g)) (.b (.b e))=o (!a6 (e≤g)):=congrArg o (lg.2 (by rw[m1,decide_eq_true_iff,decide_eq_false_iff_not];exact Int.not_le.symm))
end
section
open PySem
section
variable{v:aF}{q:Nat}
theorem ajg:iT.map (fun b=>hQ (.b (.c (aF.b b.1))) (.b (.b 7)) (.b .e))=iT.map fun b=>o (.c (AN b.2)):=by kernel_rfl
theorem BB{n:Option aV}(aj:n=o (.b0 v)):dq n=aF.b v:=congrArg dq aj
theorem as8(f:af):vH.map (fun b=>(hQ (.b (.c (aF.b b.1))) (.b .e) (.b (.b 3)),bI .Eq f (.b (.c ((aF.b b.1).take 3))) (.b (.c [99,109,112])),hQ (.b (.c (aF.b b.1))) (.b (.b (an b.2.1 7 4))) (.b .e),bI .Eq f (.b (.c ((aF.b b.1).drop (an b.2.1 7 4)))) (.b (.c [95,54,52])),b.2.2.1))=vH.map fun b=>(o (.c ((aF.b b.1).take 3)),o b.2.1,o (.c ((aF.b b.1).drop (an b.2.1 7 4))),o b.2.2.2,I):=by kernel_rfl
theorem aq5(J:List aV)(Y:M)(i Q z:Nat)(y r:Nat):jN.map (fun b=>lH ab z 8 97 [.c 0,.b (.b r),.b (.b 64)] (bv J Y i) [.b 131 2 (o (.ok (.b (.c (aF.b b.1))),bv J Y (i+1))),.b 136 7 (o (.ok (.b (.b y)),bv J Y Q)),.e .NotEq C] [])=jN.map fun b=>o ((.ok (.b (fm (BR b.2) r 0 0 (BS b.2))),bv J Y Q),[],[bI .NotEq (bv J Y Q) (.b (.b y)) (.b (.b r))=o C,dH ab 136 7 [.c 0,.b (.b 64)] (bv J Y (i+1)) (o (.ok (.b (.b y)),bv J Y Q)),dH ab 131 2 [.c 0] (bv J Y i) (o (.ok (.b (.c (aF.b b.1))),bv J Y (i+1)))]):=by kernel_rfl
end
theorem Qv:(aF.c,11)∈iO:=dZ (i:=10) rfl
theorem R2{bg:Type}{J:List aV}{Y:M}{bP:List B}{w r:Nat}{ag:List K}{f:af}{E:bg→M}{k u:c5 bg}{e:Bool}(b:e=I)(c:b9 bP w r ag f (cp J Y E k)):b9 bP w r ag f (cp J Y E (an e k u)):=b▸c
theorem R0{bg:Type}{J:List aV}{Y:M}{bP:List B}{w r:Nat}{ag:List K}{f:af}{E:bg→M}{k u:c5 bg}{e:Bool}(b:e=C)(c:b9 bP w r ag f (cp J Y E u)):b9 bP w r ag f (cp J Y E (an e k u)):=b▸c
section
variable{bg:Type}{J:List aV}{Y:M}{bP:List B}{w r cB ib nh wl:Nat}{ag jD:List K}{f a1:af}{E:bg→M}{k u:c5 bg}{e:Bool}
theorem R1(v:dH ab cB ib jD a1 (o (.ok (.b (.g e)),bv J Y (an e nh wl))))(H:∀v:dH ab cB ib jD a1 (o (.ok (.b (.g I)),bv J Y nh)),b9 (bP++[B.p v]) w r ag f (cp J Y E k))(aX:∀v:dH ab cB ib jD a1 (o (.ok (.b (.g C)),bv J Y wl)),b9 (bP++[B.p v]) w r ag f (cp J Y E u)):b9 bP w r ag f (cp J Y E (an e k u)):=by
 rcases e;·exact aX v
 ·exact H v
theorem Qz(l:Int)(c:b9 bP w r ag f (cp J Y E (an (a6 (l<18446744073709551616)&&(AO l&&a6 (-9223372036854775808≤l))) k u))):b9 bP w r ag f (cp J Y E (an (uQ l) k u)):=by rw[aiE];exact c
end
section
variable{J:List aV}(Y:M)(c:dP J)(i r:Nat)(e:Bool)
include c
theorem I3(cD:List Nat)(t':Int)(d:dt)(k:Nat×Int)(aY:b_ ab 47 5 [.b (.c cD),.b (.b (eB d)),.b (.b (k.1:Nat)),.b (.b k.2),.b (.b r)] (.ok (fm (195+fK d) (k.1:Nat) r k.2 t'))):b9 [] 94 8 [.c 0,.b (.c cD),.b (.b (eB d)),.b (.b (k.1:Nat)),.b (.b k.2),.b (.b r),.b (.b (eo e))] (bv J Y i) (cp J Y eb (Fe (a_ J) t' d k r e i)):=by refine cy (fO Y c i rfl) (fun _ i _=>cy (md Y c e i) (fun y i _=>cy (fO Y c i rfl) (fun _ i _=>qu (kb (vb y r (bv J Y i)) (fun _=>ct (B.q (KJ d)) (kb (KK (8*eB d) (eo e) (bv J Y i)) (fun _=>ct (B.j aY) ?_) ?_)) ?_)) ?_) ?_) ?_;all_goals(intros;exact b9.b fun z=>by kernel_rfl)
theorem adO{v:aF}{q:Nat}(ar:(v,q)∈iT)(aj:a_ J i=o (.b0 v)):b9 [] 93 11 [.c 0,.b (.b r),.b (.b (eo e))] (bv J Y i) (cp J Y eb (Bg (a_ J) q r e i)):=by have cC:=a7 ajg ar;have dS:=nw Y c i;rw[BB aj]at dS;refine ct (B.p dS) (ct (B.r cC) (cy (fO Y c (i+1) rfl) (fun _ i _=>cy (fO Y c i rfl) (fun _ i _=>cy (DY Y c i (p:=([117],I,C)) (dY ..)) (fun d i _=>cy (fO Y c i rfl) (fun _ i _=>cy (fO Y c i rfl) (fun _ i _=>cy (fO Y c i rfl) (fun _ i _=>cy (w7 Y c i) (fun k i _=>cy (fO Y c i rfl) (fun _ i _=>oz (I3 Y c i r e (AN q) (16*(q:Int)+1) d.2 k (ar0 ar d.2 (k.1:Nat) r k.2)) ?_ ?_) ?_) ?_) ?_) ?_) ?_) ?_) ?_) ?_));all_goals(intros;exact b9.b fun z=>by kernel_rfl)
theorem adW{v:aF}{q:Bool×dt}(ar:(v,q)∈vH)(aj:a_ J i=o (.b0 v)):b9 [] 95 11 [.c 0,.b (.b r),.b (.b (eo e))] (bv J Y i) (cp J Y eb (yi (a_ J) q r e i)):=by
 have dS:=nw Y c i;rw[BB aj]at dS;obtain⟨cC,L⟩:=bw (a7 (as8 (bv J Y (i+1))) ar);obtain⟨c',aR⟩:=bw L;obtain⟨fM,bh⟩:=bw aR;obtain⟨zg,cT⟩:=bw bh;obtain⟨g9,a4,iw⟩:=q;obtain rfl:=cT;refine ct (B.p dS) (ct (B.r cC) (ct (B.i c') (ct (B.r fM) (ct (B.i zg) ?_))));generalize(aF.b (v,g9,I,iw).1).take 3=gY at cC c'⊢;generalize(aF.b (v,g9,I,iw).1).drop (an g9 7 4)=dc at fM zg⊢;rcases g9;·
  rcases iw;·refine cy (fO Y c (i+1) rfl) (fun _ i _=>cy (w7 Y c i) (fun k i _=>R0 rfl (oz (I3 Y c i r e _ 225 (I,C) k (Uu (I,C) (k.1:Nat) r k.2)) ?_ ?_)) ?_) ?_;all_goals(intros;exact b9.b fun z=>by kernel_rfl)
  ·refine cy (fO Y c (i+1) rfl) (fun _ i _=>cy (w7 Y c i) (fun k i _=>R0 rfl (oz (I3 Y c i r e _ 225 (I,I) k (Uu (I,I) (k.1:Nat) r k.2)) ?_ ?_)) ?_) ?_;all_goals(intros;exact b9.b fun z=>by kernel_rfl)
 ·rcases iw;·refine cy (fO Y c (i+1) rfl) (fun _ i _=>cy (w7 Y c i) (fun k i _=>R2 rfl (cy (fO Y c i rfl) (fun _ i _=>kb (vb r 0 (bv J Y i)) (fun _=>cy (md Y c e i) (fun y i _=>qu (kb (vb y 0 (bv J Y i)) (fun _=>kb (KK 32 (eo e) (bv J Y i)) (fun _=>cy (fO Y c i rfl) (fun _ i _=>cy (md Y c e i) (fun y i _=>cy (fO Y c i rfl) ?_ ?_) ?_) ?_) ?_) ?_)) ?_) ?_) ?_)) ?_) ?_;all_goals(intros;exact b9.b fun z=>by kernel_rfl)
  ·refine cy (fO Y c (i+1) rfl) (fun _ i _=>cy (w7 Y c i) (fun k i _=>R2 rfl (cy (fO Y c i rfl) (fun _ i _=>kb (vb r 0 (bv J Y i)) (fun _=>cy (md Y c e i) (fun y i _=>qu (kb (vb y 0 (bv J Y i)) (fun _=>kb (KK 64 (eo e) (bv J Y i)) (fun _=>cy (fO Y c i rfl) (fun _ i _=>cy (md Y c e i) (fun y i _=>cy (fO Y c i rfl) ?_ ?_) ?_) ?_) ?_) ?_)) ?_) ?_) ?_)) ?_) ?_;all_goals(intros;exact b9.b fun z=>by kernel_rfl)
theorem adL:b9 [] 96 8 [.c 0,.b (.b r),.b (.b (eo e))] (bv J Y i) (cp J Y eb (Bf (a_ J) r e i)):=by refine cy (fO Y c i rfl) (fun _ i _=>cy (DY Y c i (p:=([115],C,I)) (e6 _ (e6 _ (dY ..)))) (fun d i _=>cy (fO Y c i rfl) (fun _ i _=>cy (md Y c e i) (fun y i _=>ct (B.q (KJ d.2)) (kb (bH:=.GtE) (d:=.b (.b (8*eB d.2))) (G:=.b (.b (eo e))) (a1:=bv J Y i) (congrArg o (Bool.not_not _).symm) (fun _=>ct (B.q (KJ d.2)) (ct (B.j (asd r y (8*eB d.2) e)) ?_)) ?_)) ?_) ?_) ?_) ?_;all_goals(intros;exact b9.b fun z=>by kernel_rfl)
theorem adV{v:aF}{q:Nat}(ar:(v,q)∈jN)(aj:a_ J i=o (.b0 v)):b9 [] 97 8 [.c 0,.b (.b r),.b (.b (eo e))] (bv J Y i) (cp J Y eb (Bj (a_ J) q r e i)):=by
 have dS:=nw Y c i;rw[BB aj]at dS;rcases e;·
  refine ct (B.p dS) (cy (md Y c C (i+1)) (fun y Q eu=>kb (vb y r (bv J Y Q)) (fun gi=>?_) ?_) ?_);·exact b9.b fun z=>lU (by kernel_rfl) ((a7 (aq5 J Y i Q z y r) ar).trans (by kernel_rfl))
  all_goals(intros;exact b9.b fun z=>by kernel_rfl)
 ·exact ct (B.p dS) (b9.b fun z=>by kernel_rfl)
theorem adS:b9 [] 98 8 [.c 0,.b (.b r),.b (.b (eo e))] (bv J Y i) (cp J Y eb (yh (a_ J) r e i)):=by refine cy (fO Y c i rfl) (fun _ i _=>cy (md Y c e i) (fun y i _=>kb (vb y r (bv J Y i)) (fun _=>ct (B.j (asf r e)) ?_) ?_) ?_) ?_;all_goals(intros;exact b9.b fun z=>by kernel_rfl)
theorem adR:b9 [] 99 9 [.c 0,.b (.b r),.b (.b (eo e))] (bv J Y i) (cp J Y eb (Bi (a_ J) r e i)):=by refine cy (fO Y c i rfl) (fun _ i _=>cy (pk Y c i) (fun l i _=>cy (fO Y c i rfl) (fun _ i _=>kb (LC e (bv J Y i)) ?_ ?_) ?_) ?_) ?_;all_goals(intros;exact b9.b fun z=>by kernel_rfl)
theorem PM:b9 [] 100 9 [.c 0,.b (.b r),.b (.b (eo e))] (bv J Y i) (cp J Y eb (qI (a_ J) r e i)):=by
 have dx:=w8 Y c i (s7 c i (v:=aF.i) (cF rfl));unfold qI;generalize bd .i (a_ J i)=Yu at dx⊢;rcases Yu;·refine ct (B.p dx) (cy (DX Y c i) (fun l Q _=>R1 (w8 Y c Q (s7 c Q (v:=aF.l) (cF rfl))) (fun _=>qu (kb (LC e (bv J Y (Q+1))) (fun _=>Qz _ (qu (kb (JP _ _ (bv J Y (Q+1))) (fun _=>qu (s8 (PI _) (fun _=>kb (SB _ _ (bv J Y (Q+1))) (fun _=>ct (B.j (Us r l)) ?_) ?_) ?_)) ?_))) ?_)) fun _=>cy (pk Y c i) (fun l i _=>ct (B.j (LI r l e Qv)) ?_) ?_) ?_);all_goals(intros;exact b9.b fun z=>by kernel_rfl)
 ·refine ct (B.p dx) (cy (DX Y c (i+1)) (fun l Q _=>R1 (w8 Y c Q (s7 c Q (v:=aF.l) (cF rfl))) (fun _=>qu (kb (LC e (bv J Y (Q+1))) (fun _=>Qz _ (qu (kb (JP _ _ (bv J Y (Q+1))) (fun _=>qu (s8 (PI _) (fun _=>kb (SB _ _ (bv J Y (Q+1))) (fun _=>ct (B.j (Us r (-(l:Int)))) ?_) ?_) ?_)) ?_))) ?_)) fun _=>cy (pk Y c i) (fun l i _=>ct (B.j (LI r l e Qv)) ?_) ?_) ?_);all_goals(intros;exact b9.b fun z=>by kernel_rfl)
end
end
section
open PySem
theorem amU{V:Type}(Q:aF)(p:List (aF×V)):(p.map (·.1)).any (fun v=>bR Q v)=(St p Q).isSome:=by induction p with|nil=>rfl|cons b p ak=>show(bR Q b.1||(p.map (·.1)).any fun v=>bR Q v)=Option.isSome (i0 _ (match bR b.1 Q with|true=>o b|false=>p.find? fun b=>bR b.1 Q));rw[Pk b.1 Q,ak];rcases bR Q b.1<;>rfl
theorem amV{V:Type}(p:List (aF×V))(n:Option aV):((p.map (·.1)).any fun v=>bd v n)=(cZ p n).isSome:=by
 unfold bd cZ;rcases n.bind A2 with _|Q;·exact List.any_eq_false.2 fun _ _ b=>nomatch b
 ·exact amU Q p
theorem RN{V:Type}{p:List (aF×V)}(aw:(((p.map (·.1)).map aF.b).all kP&&(p.map (·.1)).all fun v=>eS v eQ)=I){n:Option aV}(aj:jg n){t:Option V}(b:cZ p n=t):sV (.c (dq n)) (((p.map (·.1)).map aF.b).map .c)=o t.isSome:=(D9 aj _ (e5.1 aw).1 (EI (e5.1 aw).2)).trans (congrArg o ((amV p n).trans (congrArg Option.isSome b)))
noncomputable def qC{V:Type}(p:List (aF×V)):List M:=((p.map (·.1)).map aF.b).map .c
section
variable{V bg:Type}{J:List aV}{Y:M}{bP:List B}{w r cB ib:Nat}{ag jD:List K}{f a1:af}{E:bg→M}{k u:c5 bg}{e q F:Bool}{bH:jh}{d G:K}
theorem aoi(c:b9 bP w r ag f (cp J Y E (an e u (an q (an F u k) k)))):b9 bP w r ag f (cp J Y E (an (!(e||(q&&F))) k u)):=by
 rcases e;·
  rcases q;·exact c
  ·rcases F<;>exact c
 ·exact c
theorem al7(v:bI bH a1 d G=o e)(H:e=I→∀v:bI bH a1 d G=o I,b9 (bP++[B.i v]) w r ag f (cp J Y E k))(aX:e=C→∀v:bI bH a1 d G=o C,b9 (bP++[B.i v]) w r ag f (cp J Y E u)):b9 bP w r ag f (cp J Y E (an e k u)):=by
 rcases e;·exact aX rfl v
 ·exact H rfl v
theorem Z8{cS:Nat→c5 bg}{n:Option aV}(aj:jg n)(c:b9 bP w r ag f (cp J Y E (co (cZ oo n) cS (co (cZ iO n) cS k)))):b9 bP w r ag f (cp J Y E (co (DO n) cS k)):=by
 have aS:(U::eI.map o).map (fun n=>co (DO n) cS k)=(U::eI.map o).map fun n=>co (cZ oo n) cS (co (cZ iO n) cS k):=by kernel_rfl
 rw[ye (P:=fun n=>co (DO n) cS k=co (cZ oo n) cS (co (cZ iO n) cS k)) aj (fun _ c=>a7 aS c) fun _ _=>rfl];exact c
theorem w4{k u:c5 V}{bC:V→Nat→c5 bg}(c:b9 bP w r ag f (cp J Y E (an e (cl k bC) (cl u bC)))):b9 bP w r ag f (cp J Y E (cl (an e k u) bC)):=by rcases e<;>exact c
theorem IU{d:c5 cY}{bC:cY×List Nat→Nat→c5 bg}(c:b9 bP w r ag f (cp J Y E (cl d fun g i=>bC (g,[]) i))):b9 bP w r ag f (cp J Y E (cl (la d) bC)):=by obtain⟨_|g,Q⟩:=d<;>exact c
theorem acI{g:V}{Q:Nat}{bC:V→Nat→c5 bg}(c:b9 bP w r ag f (cp J Y E (bC g Q))):b9 bP w r ag f (cp J Y E (cl (o g,Q) bC)):=c
end
section
variable{v:aF}{q:Nat}(F y l g:Int)(e:Bool)
theorem TL(r:Nat)(f:af):oo.map (fun b=>d8.map fun e=>(bp ab (r+5) 33 [.b (.c (gK b.2)),.b (.b F),.b (.b y),.b (.b (eo e))] f,bp ab (r+5) 34 [.b (.c (gK b.2)),.b (.b F),.b (.b l),.b (.b (eo e))] f))=oo.map fun b=>d8.map fun e=>(o (.ok (.b (fm (lJ b.2+fV e+8) F y (mK b.2) 0)),f),o (.ok (.b (fm (lJ b.2+fV e) F 0 (mK b.2) l)),f)):=by kernel_rfl
theorem ash(a9:(v,q)∈oo):b_ ab 33 5 [.b (.c (gK q)),.b (.b F),.b (.b y),.b (.b (eo e))] (.ok (fm (lJ q+fV e+8) F y (mK q) 0)):=fun r f=>(bw (a7 (a7 (TL F y 0 r f) a9) (hB e))).1
theorem asg(a9:(v,q)∈oo):b_ ab 34 5 [.b (.c (gK q)),.b (.b F),.b (.b l),.b (.b (eo e))] (.ok (fm (lJ q+fV e) F 0 (mK q) l)):=fun r f=>(bw (a7 (a7 (TL F 0 l r f) a9) (hB e))).2
theorem ase:b_ ab 31 5 [.b (.c [109,111,118]),.b (.b F),.b (.b y),.b (.b (eo e))] (.ok (fm (184+fV e) F y 0 0)):=by rcases e<;>exact fun r f=>by kernel_rfl
theorem TM(f:af):oo.map (fun b=>(hQ (.b (.c (aF.b b.1))) (.b (.b 1)) (.b .e),jM SZ .e (.b (BG gK iO)) .oa [.b (.c ((aF.b b.1).drop 1)),.b (.c [])] f))=oo.map fun b=>(o (.c ((aF.b b.1).drop 1)),o (.ok (.b (.c (gK b.2))),f)):=by kernel_rfl
theorem an5:oo.map (fun b=>a6 (gK b.2=[]))=oo.map fun _=>C:=by kernel_rfl
theorem apP(e:Bool)(f:af):bI .Eq f (.b (.c [an e 115 117])) (.b (.c [115]))=o e:=by rcases e<;>rfl
theorem asn(d:dt)(f:af):bI .Eq f (.b (.b (eB d))) (.b (.b 8))=o (d.1&&d.2):=by obtain⟨_|_,_|_⟩:=d<;>rfl
theorem aq9(e:Bool)(f:af):bI .NotEq f (.b (.b (eo e))) (.b (.b 64))=o e:=by rcases e<;>rfl
end
theorem jL{v:aF}{n:Option aV}(b:bd v n=I):n=o (.b0 v):=by
 rcases n with _|⟨e,z⟩|⟨e,l⟩|Q;·exact nomatch b
 ·exact nomatch b
 ·exact nomatch b
 ·exact congrArg (fun v=>o (aV.b0 v)) (g5 b)
end
section
open PySem
section
variable{V:Type}{p:List (aF×V)}{n:Option aV}{t:Option V}
theorem Ex(aw:(((p.map (·.1)).map aF.b).all kP&&(p.map (·.1)).all fun v=>eS v eQ)=I)(aj:jg n)(b:cZ p n=t)(f:af):bI .In f (.b (.c (dq n))) (.b (.f (qC p)))=o t.isSome:=RN aw aj b
theorem AX(aw:(((p.map (·.1)).map aF.b).all kP&&(p.map (·.1)).all fun v=>eS v eQ)=I)(aj:jg n)(b:cZ p n=t)(f:af):bI .In f (.b (.c (dq n))) (.b (.j (qC p)))=o t.isSome:=RN aw aj b
end
theorem apQ{v:aF}{q:Nat}{n:Option aV}(ar:(v,q)∈oo)(aj:n=o (.b0 v)):hQ (.b (.c (dq n))) (.b (.b 1)) (.b .e)=o (.c ((aF.b v).drop 1)):=by rw[BB aj];exact(bw (a7 (TM []) ar)).1
theorem ar9(F y g:Int){p:Bool}(d:dt)(b:p=C):b_ ab 42 3 [.b (.b (eB d)),.b (.b F),.b (.b y),.b (.b g)] (.ok (fm (an p 129 97+fK d) F y g 0)):=b▸ar8 F y g d
theorem asb(F y g:Int){p:Bool}(d:dt)(b:p=I):b_ ab 43 3 [.b (.b (eB d)),.b (.b F),.b (.b y),.b (.b g)] (.ok (fm (an p 129 97+fK d) F y g 0)):=b▸asa F y g d
section
variable{bg:Type}{J:List aV}{Y:M}{bP:List B}{w r cB ib nh wl:Nat}{ag jD:List K}{f a1:af}{E:bg→M}{k u:c5 bg}{e q:Bool}
theorem Z_(b:e=C)(c:b9 bP w r ag f (cp J Y E u)):b9 bP w r ag f (cp J Y E (an (e&&q) k u)):=by obtain rfl:=b;exact c
end
section
variable{J:List aV}(Y:M)(c:dP J)(i r:Nat)(e:Bool)
include c
theorem adT:b9 [] 101 12 [.c 0,.b (.b r),.b (.b (eo e))] (bv J Y i) (cp J Y eb (r0 (a_ J) r e i)):=by
 have dS:=jH Y c i;rcases b:bd .i (a_ J i);·refine ct (B.p dS) (lO (oy c rfl i (bv J Y i)) (fun _=>cy (I5 Y c i I) (fun z i _=>aoi (lO (aq9 e (bv J Y i)) ?_ fun _=>al7 (apP z.1.1 (bv J Y i)) (fun b v=>lO (asn z.1.2 (bv J Y i)) ?_ fun _=>ct (B.i v) (ct (B.j (asb r (z.2.1:Nat) z.2.2 z.1.2 b)) ?_)) (fun b v=>ct (B.i v) (ct (B.j (ar9 r (z.2.1:Nat) z.2.2 z.1.2 b)) ?_)))) ?_) fun _=>lO (oy c rfl i (bv J Y i)) (fun _=>oz (adL Y c i r e) ?_ ?_) fun _=>ct (B.i ((oy c (v:=aF.i) rfl i (bv J Y i)).trans (congrArg o b))) (Z_ b (vf (fun _ _ ar aj b=>ct (B.i (Ex rfl (gP c i) b (bv J Y i))) (oz (adV Y c i r e ar aj) ?_ ?_)) fun b=>ct (B.i (Ex rfl (gP c i) b (bv J Y i))) (vf (fun _ _ ar aj b=>ct (B.i (Ex rfl (gP c i) b (bv J Y i))) (oz (adO Y c i r e ar aj) ?_ ?_)) fun b=>ct (B.i (Ex rfl (gP c i) b (bv J Y i))) (vf (fun _ _ ar aj b=>ct (B.i (AX rfl (gP c i) b (bv J Y i))) (oz (adW Y c i r e ar aj) ?_ ?_)) fun b=>ct (B.i (AX rfl (gP c i) b (bv J Y i))) (lO (oy c rfl i (bv J Y i)) (fun _=>oz (adR Y c i r e) ?_ ?_) fun _=>x2 (uI c i) (fun _ _=>cy (md Y c e i) (fun y i _=>ct (B.j (ase r y e)) ?_) ?_) fun _=>oz (PM Y c i r e) ?_ ?_))))));all_goals(intros;exact b9.b fun z=>by kernel_rfl)
 ·have aj:=jL b;rw[BB aj]at dS;have S:r0 (a_ J) r e i=an (kL (a_ J (i+1))) (yh (a_ J) r e i) (qI (a_ J) r e i):=by unfold r0;rw[aj];kernel_rfl
  rw[S];refine ct (B.p dS) (ct (B.p (DW (Y:=Y) c i 1)) (x2 (uI c (i+1)) (fun _ _=>oz (adS Y c i r e) ?_ ?_) fun _=>oz (PM Y c i r e) ?_ ?_));all_goals(intros;exact b9.b fun z=>by kernel_rfl)
theorem adM:b9 [] 102 13 [.c 0] (bv J Y i) (cp J Y eb (yf (a_ J) i)):=by refine cy (I8 Y c i) (fun t i _=>ct (B.p (nw Y c i)) (lO (oy c rfl i (bv J Y (i+1))) (fun _=>oz (adT Y c (i+1) t.2 t.1) ?_ ?_) fun _=>Z8 (gP c i) (vf (fun _ _ ar aj b=>ct (B.i (AX rfl (gP c i) b (bv J Y (i+1)))) (ct (B.j yx) (ct (B.j LH) (ct (B.r (apQ ar aj)) (ct (B.s (bw (a7 (TM (bv J Y (i+1))) ar)).2) (ct (B.i (qy (a7 an5 ar) (bv J Y (i+1)))) (Lu (ct (B.p (jH Y c (i+1))) (x2 (uI c (i+1)) (fun _ _=>cy (md Y c t.1 (i+1)) (fun y i _=>ct (B.j (ash t.2 y t.1 ar)) ?_) ?_) fun _=>cy (pk Y c (i+1)) (fun y i _=>ct (B.j (asg t.2 y t.1 ar)) ?_) ?_))))))))) fun b=>ct (B.i (AX rfl (gP c i) b (bv J Y (i+1)))) (ct (B.j yx) (ct (B.j LH) (vf (fun _ _ ar aj b=>ct (B.s (AT (cD:=gK) rfl (gP c i) (bv J Y (i+1)) b)) (ct (B.i (qy (a7 an4 ar) (bv J Y (i+1)))) (Lu (ct (B.p (jH Y c (i+1))) (x2 (uI c (i+1)) (fun _ _=>cy (md Y c t.1 (i+1)) (fun y i _=>ct (B.j (arW t.2 y t.1 ar)) ?_) ?_) fun _=>cy (pk Y c (i+1)) (fun y i _=>ct (B.j (LI t.2 y t.1 ar)) ?_) ?_))))) fun b=>ct (B.s (AT (cD:=gK) rfl (gP c i) (bv J Y (i+1)) b)) ?_)))))) ?_;all_goals(intros;exact b9.b fun z=>by kernel_rfl)
end
end
section
open PySem
section
variable{bg:Type}{J:List aV}{Y:M}{bP:List B}{w r:Nat}{ag:List K}{f:af}{E:bg→M}
theorem uN(c:dP J){g:bg}{i:Nat}(H:∀v:dH ab 134 2 [.c 0] (bv J Y i) (o (.ok (.b .e),bv J Y i)),b9 (bP++[B.p v]) w r ag f (.ok (.b (E g)),bv J Y i))(aX:∀v:dH ab 134 2 [.c 0] (bv J Y i) (o (.error Y,bv J Y i)),b9 (bP++[B.p v]) w r ag f (.error Y,bv J Y i)):b9 bP w r ag f (cp J Y E (hj (!(a_ J i).isSome) g i)):=by
 have v:=adA Y c i rfl;generalize(a_ J i).isSome=e at v⊢;rcases e;·exact H v
 ·exact aX v
end
section
variable{J:List aV}(Y:M)(c:dP J)(i:Nat)
include c
theorem PN:b9 [] 103 14 [.c 0] (bv J Y i) (cp J Y xh (qJ (a_ J) i)):=by have t0:∀f,bI .In f (.b (.c (dq (a_ J i)))) (.b (.j [.c [103,111,116,111],.c [103,111,116,111,108]]))=o (bd .k (a_ J i)||bd .q (a_ J i)):=fun f=>(D9 (gP c i) [.k,.q] rfl (EI rfl)).trans (congrArg (fun e=>o (bd .k (a_ J i)||e)) (Ga _));refine ct (B.p (jH Y c i)) (w4 (lO (t0 (bv J Y i)) (fun _=>cy (adP Y c i) (fun w i _=>uN c ?_ ?_) ?_) fun _=>w4 (lO (oy c rfl i (bv J Y i)) (fun _=>cy (adJ Y c i) (fun w i _=>uN c ?_ ?_) ?_) fun _=>w4 (lO (oy c rfl i (bv J Y i)) (fun _=>cy (adK Y c i) (fun w i _=>uN c ?_ ?_) ?_) fun _=>w4 (lO (oy c rfl i (bv J Y i)) (fun _=>ct (B.p (nw Y c i)) (acI (uN c ?_ ?_))) fun _=>w4 (lO (oy c rfl i (bv J Y i)) (fun _=>IU (cy (adQ Y c i) (fun w i _=>uN c ?_ ?_) ?_)) fun _=>w4 (lO (oy c rfl i (bv J Y i)) (fun _=>IU (cy (adU Y c i) (fun w i _=>uN c ?_ ?_) ?_)) fun _=>IU (cy (adM Y c i) (fun w i _=>uN c ?_ ?_) ?_))))))));all_goals(intros;exact b9.b fun z=>by kernel_rfl)
end
end
section
open PySem
noncomputable def lb{V bg:Type}(d:c5 V)(bC:V→Nat→Option bg):Option bg:=match d with|(n,Q)=>(match n with|some g=>bC g Q|none=>U)
inductive dJ where|b(v:aF)|c(e:Bool)|e(q:Nat)(p:List (aF×Nat))|d(z:Bool)(m:Nat)
def fa(m:Nat):Int→Bool:=an (bR m 64) uQ (an (bR m 16) nx iS)
section
variable(x:gn)
def c8{dk:Type}:List dJ→Nat→(List Int→Option dk)→Option dk|[],i,w=>an (x i).isSome U (w [])|k::T,i,w=>(match k with|.b v=>lb (fo x v i) fun _ Q=>c8 T Q w|.c e=>lb (hk x e i) fun r Q=>c8 T Q fun br=>w ((r:Int)::br)|.e _ p=>co (cZ p (x i)) (fun q=>c8 T (i+1) fun br=>w ((q:Int)::br)) U|.d z m=>an (z&&!im (x i)) U (an (bR m 64&&bd .f (x i)) U (lb (fJ x (fa m) i) fun l Q=>c8 T Q fun br=>w (l::br))))
structure dp where
 c:List Nat
 e:Bool
 f:Bool
 b:List dJ
 d:List Int→Option cY
def eA(y:dp):Option cY:=an (y.e&&(bd .c (x 1)&&bd .f (x 2))) U (c8 x y.b 0 y.d)
noncomputable def Fd{V:Type}(g e:Option V):Option V:=match g with|some d=>o d|none=>e
def rQ(p:List dp):Option cY:=p.foldr (fun y t=>Fd (eA x y) t) U
end
noncomputable def A4{V:Type}(w:Int→Option V)(s:List Int):Option V:=match s with|[]=>U|g::s=>(match s with|[]=>w g|_::_=>U)
noncomputable def EK{V:Type}(w:Int→Int→Option V)(s:List Int):Option V:=match s with|[]=>U|g::s=>A4 (w g) s
noncomputable def A5{V:Type}(w:Int→Int→Int→Option V)(s:List Int):Option V:=match s with|[]=>U|g::s=>EK (w g) s
noncomputable def s_{V:Type}(w:Int→Int→Int→Int→Option V)(s:List Int):Option V:=match s with|[]=>U|g::s=>A5 (w g) s
noncomputable def Ke{V:Type}(w:Int→Int→Int→Int→Int→Option V)(s:List Int):Option V:=match s with|[]=>U|g::s=>s_ (w g) s
noncomputable def amq{V:Type}(w:Int→Int→Int→Int→Int→Int→Option V)(s:List Int):Option V:=match s with|[]=>U|g::s=>Ke (w g) s
noncomputable def ef:List (aF×Nat):=[(.F,0),(.O,1),(.w,2),(.x,3)]
noncomputable def hl:List (aF×Nat):=[(.N,0),(.E,1),(.J,2)]
noncomputable def r_(d:Int):Int:=[16,8,0,24].getD d.toNat 0
noncomputable def uV:dJ:=.e 65 jb
noncomputable def LV:dJ:=.e 79 jN
noncomputable def JN:dJ:=.e 76 lP
noncomputable def LU:dJ:=.e 70 iT
noncomputable def xg:dJ:=.e 67 ii
noncomputable def kJ:dJ:=.e 117 ef
noncomputable def uW:dJ:=.e 115 hl
noncomputable def Tm(t:List dJ):List dJ:=.b .d::.c C::.d I 16::.b .e::t
noncomputable def rZ(E:dJ)(t:List dJ):List dJ:=.b .g::.b .d::E::.b .g::.b .e::Tm t
noncomputable def qP(e:Bool)(p:List dJ):List dJ:=.c e::.b .c::p
def iQ{V:Type}(s:Bool)(g:V):Option V:=an s (o g) U
def nN(e:Bool):Int:=an e 0 24
def kl(e:Bool):Int:=an e 2 3
def qR(e:Bool):dp:=⟨[97,108,117],C,e,[.c e,uV,.c e],A5 fun t F y=>o (lJ F.toNat+fV e+8,t,y,mK F.toNat,0,0)⟩
def pA(e:Bool):dp:=⟨[97,108,105],I,e,[.c e,uV,.d C 32],A5 fun t F l=>o (lJ F.toNat+fV e,t,0,mK F.toNat,l,0)⟩
def pC(e:Bool):dp:=⟨[110,101,103],C,e,qP e [.b .i,.c e],EK fun t y=>iQ (a6 (t=y)) (128+fV e,t,0,0,0,0)⟩
def r4:dp:=⟨[101,110,100],C,C,qP C [LV,.c C],A5 fun t n y=>iQ (a6 (t=y)) (BR n.toNat,t,0,0,BS n.toNat,0)⟩
def r5(e:Bool):dp:=⟨[115,120],C,e,qP e [.b .d,uW,.b .e,.c e],A5 fun t d y=>iQ (!e||decide (d<2)) (184+fV e,t,y,[8,16,32].getD d.toNat 0,0,0)⟩
noncomputable def vy:dp:=⟨[108,100,117],C,C,qP C (rZ kJ []),s_ fun t d y n=>o (97+r_ d,t,y,n,0,0)⟩
noncomputable def vx:dp:=⟨[108,100,115],C,C,qP C (rZ uW []),s_ fun t d y n=>o (129+r_ d,t,y,n,0,0)⟩
noncomputable def vA:dp:=⟨[115,116,120],C,C,rZ kJ [.b .c,.c C],s_ fun d t n y=>o (99+r_ d,t,y,n,0,0)⟩
noncomputable def vz:dp:=⟨[115,116,105],C,C,rZ kJ [.b .c,.d C 32],s_ fun d t n l=>o (98+r_ d,t,0,n,l,0)⟩
def pB(e:Bool):dp:=⟨[108,111,99,107],C,e,.b .s::rZ kJ [JN,.c e],Ke fun d t n F y=>iQ (a6 (d=kl e)) (195+nN e,t,y,n,16*F,0)⟩
def nL(e:Bool):dp:=⟨[102,101,116,99,104],C,e,qP e (LU::.b .d::.b .d::kJ::.b .g::.b .e::Tm [.b .j,.c e,.b .e]),amq fun t F d k n y=>iQ (a6 (t=y)&&a6 (d=kl e)) (195+nN e,k,t,n,16*F+1,0)⟩
def pD(e:Bool):dp:=⟨[120,99,104,103],C,e,qP e [.b (an e .D .y),.b .d,.c C,.d I 16,.b .j,.c e,.b .e],s_ fun t k n y=>iQ (a6 (t=y)) (195+nN e,k,t,n,225,0)⟩
def nK(e:Bool):dp:=⟨[99,109,112],C,e,qP e [.b (an e .z .A),.b .d,.c C,.d I 16,.b .j,.c e,.b .j,.c e,.b .e],Ke fun t k n m y=>iQ (a6 (t=0)&&a6 (m=0)) (195+nN e,k,y,n,241,0)⟩
def BO:dp:=⟨[119,105,100,101],C,C,qP C [.d C 64,.b .l],EK fun t l=>o (24,t,0,0,fN l,fN (l/4294967296))⟩
noncomputable def BN:dp:=⟨[109,97,112],C,C,qP C [.b .v,.d C 32,.b .l],EK fun t l=>o (24,t,1,0,l,0)⟩
noncomputable def BI:dp:=⟨[99,97,108,108],C,C,[.b .p,.d C 32],A4 fun l=>o (133,0,0,0,l,0)⟩
noncomputable def BM:dp:=⟨[108,111,99,97,108],C,C,[.b .p,.b .t,.d I 32],A4 fun l=>o (133,0,1,0,l,0)⟩
noncomputable def BJ:dp:=⟨[101,120,105,116],C,C,[.b .u],fun s=>match s with|[]=>o (149,0,0,0,0,0)|_::_=>U⟩
noncomputable def BK:dp:=⟨[103,111,116,111],C,C,[.b .k,.d I 16],A4 fun l=>o (5,0,0,l,0,0)⟩
noncomputable def BL:dp:=⟨[103,111,116,111,108],C,C,[.b .q,.d I 32],A4 fun l=>o (6,0,0,0,l,0)⟩
def EF(e:Bool):Int:=an e 6 5
def vw(e:Bool):dp:=⟨[105,102,114],C,e,[.b .r,.c e,xg,.c e,.b .k,.d I 16],s_ fun t q y n=>o (16*q+EF e+8,t,y,n,0,0)⟩
def vv(e:Bool):dp:=⟨[105,102,105],C,e,[.b .r,.c e,xg,.d C 32,.b .k,.d I 16],s_ fun t q l n=>o (16*q+EF e,t,0,n,l,0)⟩
def e1:List dp:=[qR C,qR I,pA C,pA I,pC C,pC I,r4,r5 C,r5 I,vy,vx,vA,vz,pB C,pB I,nL C,nL I,pD C,pD I,nK C,nK I,BO,BN,BI,BM,BJ,BK,BL,vw C,vw I,vv C,vv I]
def mL(x:gn):Option cY:=rQ x e1
end
section
open PySem
section
variable{V bg:Type}{R:Prop}{d:c5 V}{q:bg}
theorem K5{bC:V→Nat→Option bg}(c:lb d bC=o q)(v:∀g Q,d=(o g,Q)→bC g Q=o q→R):R:=by
 obtain⟨_|g,Q⟩:=d;·exact nomatch c
 ·exact v g Q rfl c
theorem vg{n:Option V}{bC:V→Option bg}(c:co n bC U=o q)(v:∀g,n=o g→bC g=o q→R):R:=by
 rcases n with _|g;·exact nomatch c
 ·exact v g rfl c
theorem x0{e:Bool}{G:Option bg}(c:an e U G=o q)(v:e=C→G=o q→R):R:=by
 rcases e;·exact v rfl c
 ·exact nomatch c
theorem kG{e:Bool}{G:bg}(c:iQ e G=o q)(v:e=I→G=q→R):R:=by
 rcases e;·exact nomatch c
 ·exact v rfl (aJ c)
theorem dW{bC:V→Nat→c5 bg}{v:Nat}(c:cl d bC=(o q,v))(u:∀g Q,d=(o g,Q)→bC g Q=(o q,v)→R):R:=by
 obtain⟨_|g,Q⟩:=d;·exact nomatch c
 ·exact u g Q rfl c
theorem mT{s:Bool}{G:bg}{Q v:Nat}(c:hj s G Q=(o q,v))(u:s=I→G=q→Q=v→R):R:=by
 rcases s;·exact nomatch c
 ·obtain⟨H,L⟩:=bw c;exact u rfl (aJ H) L
theorem yd{n:Option V}{bC:V→c5 bg}{i v:Nat}(c:co n bC (U,i)=(o q,v))(u:∀g,n=o g→bC g=(o q,v)→R):R:=by
 rcases n with _|g;·exact nomatch c
 ·exact u g rfl c
theorem iV{s:Bool}{G m:c5 bg}{v:Nat}(c:an s G m=(o q,v))(u:s=I→G=(o q,v)→R)(j4:s=C→m=(o q,v)→R):R:=by
 rcases s;·exact j4 rfl c
 ·exact u rfl c
theorem RZ{s:Bool}{m:c5 bg}{Q v:Nat}(c:an s (U,Q) m=(o q,v))(u:s=C→m=(o q,v)→R):R:=iV c (fun _ b=>nomatch b) u
theorem x1{s:Bool}{m:c5 bg}{Q v:Nat}(c:an s m (U,Q)=(o q,v))(u:s=I→m=(o q,v)→R):R:=iV c u (fun _ b=>nomatch b)
theorem ip{g e:bg}{Q v:Nat}(c:(o g,Q)=(o e,v))(u:g=e→Q=v→R):R:=by obtain⟨H,L⟩:=bw c;exact u (aJ H) L
theorem cn{bC:V→Nat→c5 bg}{g:V}{Q:Nat}{t:c5 bg}(b:d=(o g,Q))(c:bC g Q=t):cl d bC=t:=by obtain rfl:=b;exact c
theorem K6{bC:V→Nat→Option bg}{g:V}{Q:Nat}{t:Option bg}(b:d=(o g,Q))(c:bC g Q=t):lb d bC=t:=by obtain rfl:=b;exact c
theorem ti{dk:Type}{n:Option V}{bC:V→dk}{ad t:dk}{g:V}(b:n=o g)(c:bC g=t):co n bC ad=t:=by obtain rfl:=b;exact c
theorem k_{dk:Type}{e:Bool}{k u t:dk}(b:e=C)(c:u=t):an e k u=t:=by obtain rfl:=b;exact c
theorem e0{dk:Type}{e:Bool}{k u t:dk}(b:e=I)(c:k=t):an e k u=t:=by obtain rfl:=b;exact c
end
section
variable{x:gn}{i Q:Nat}{R:Prop}
theorem fx{v:aF}(b:x i=o (.b0 v)):fo x v i=(o (),i+1):=by unfold fo;rw[b];exact e0 (vU v) rfl
theorem oB{v:aF}{ad:Unit}(b:fo x v i=(o ad,Q))(u:x i=o (.b0 v)→Q=i+1→R):R:=x1 b fun c b=>ip b fun _ bZ=>u (jL c) bZ.symm
theorem mm{e:Bool}{r:Nat}(b:x i=o (.fT e r)):hk x e i=(o r,i+1):=by unfold hk oC py;rw[b];exact e0 (beq_self_eq_true e) rfl
theorem Lh{t:Bool×Nat}(b:oC x i=(o t,Q))(u:x i=o (.fT t.1 t.2)→Q=i+1→R):R:=by
 unfold oC py at b;generalize x i=n at b u;refine yd b fun g aY b=>ip b fun aG aK=>?_;obtain rfl:=aG;rcases n with _|⟨e,z⟩|⟨e,l⟩|v;·exact nomatch aY
 ·exact u (congrArg (fun t:Bool×Nat=>o (aV.fT t.1 t.2)) (aJ aY)) aK.symm
 ·exact nomatch aY
 ·exact nomatch aY
theorem BC{e:Bool}{r:Nat}(b:hk x e i=(o r,Q))(u:x i=o (.fT e r)→Q=i+1→R):R:=dW b fun t Q b c=>mT c fun H L aR=>Lh b fun aG aK=>u (by rw[aG,←L,eq_of_beq H]) (aR.symm.trans aK)
theorem Bv{e:Bool}{r:Nat}(b:x i=o (.fT e r)):oC x i=(o (e,r),i+1):=by unfold oC py;rw[b];rfl
theorem mV{w:cY}(b:Bh x 0=(o (w,[]),Q))(c:(x Q).isSome=C):fW x=o w:=by have:qJ x 0=(o (w,[]),Q):=cn b (e0 (congrArg (!·) c) rfl);unfold fW;rw[this]
theorem aoI{w:cY}(c:fW x=o w)(u:∀Q,Bh x 0=(o (w,[]),Q)→(x Q).isSome=C→R):R:=by
 unfold fW at c;rcases b:qJ x 0 with⟨_|⟨g,_|_⟩,Q⟩;·rw[b]at c;exact nomatch c
 ·rw[b]at c;obtain rfl:=aJ c;exact dW b fun cB ew aG c=>mT c fun H L aR=>by obtain rfl:=L;obtain rfl:=aR;exact u _ aG (by rcases aU:(x ew).isSome with _|_;exact rfl;rw[aU]at H;exact nomatch H)
 ·rw[b]at c;exact nomatch c
theorem vc{d:c5 cY}{w:cY}(b:d=(o w,Q)):la d=(o (w,[]),Q):=cn b rfl
theorem KN{d:c5 cY}{w:cY}{E:List Nat}(b:la d=(o (w,E),Q))(u:d=(o w,Q)→R):R:=dW b fun g v aG c=>ip c fun H L=>u (by rw[aG,←(bw H).1,L])
def kk:dt→Nat:=qV 0 1 2 3
noncomputable def hC(q:Nat):dt:=[(C,C),(C,I),(I,C),(I,I)].getD q (C,C)
theorem arU:ef.map (fun b=>(oL (o (.b0 b.1)),kk (hC b.2)))=ef.map fun b=>(o (C,hC b.2),b.2):=by kernel_rfl
theorem apO:hl.map (fun b=>(oL (o (.b0 b.1)),kk (hC b.2),(hC b.2).1&&(hC b.2).2))=hl.map fun b=>(o (I,hC b.2),b.2,C):=by kernel_rfl
theorem arS{n:Option aV}{q:Nat}(b:cZ ef n=o q)(u:∀d,oL n=o (C,d)→q=kk d→R):R:=by obtain⟨v,ar,rfl⟩:=iW b;obtain⟨H,L⟩:=bw (a7 arU ar);exact u _ H L.symm
theorem apJ{n:Option aV}{q:Nat}(b:cZ hl n=o q)(u:∀d,oL n=o (I,d)→q=kk d→(d.1&&d.2)=C→R):R:=by obtain⟨v,ar,rfl⟩:=iW b;obtain⟨H,L⟩:=bw (a7 apO ar);exact u _ H (bw L).1.symm (bw L).2
noncomputable def F7:List (aF×Bool×dt):=[(.F,(C,C,C)),(.O,(C,C,I)),(.w,(C,I,C)),(.x,(C,I,I)),(.N,(I,C,C)),(.E,(I,C,I)),(.J,(I,I,C)),(.L,(I,I,I))]
theorem Uw:F7.map (fun b=>an b.2.1 (an (b.2.2.1&&b.2.2.2) (o 9) (cZ hl (o (.b0 b.1)))) (cZ ef (o (.b0 b.1))))=F7.map fun b=>an b.2.1 (an (b.2.2.1&&b.2.2.2) (o 9) (o (kk b.2.2))) (o (kk b.2.2)):=by kernel_rfl
theorem Ue{n:Option aV}{d:dt}(b:oL n=o (C,d)):cZ ef n=o (kk d):=by obtain⟨v,ar,rfl⟩:=iW (p:=F7) b;exact a7 Uw ar
theorem TK{n:Option aV}{d:dt}(b:oL n=o (I,d))(aH:(d.1&&d.2)=C):cZ hl n=o (kk d):=by obtain⟨v,ar,rfl⟩:=iW (p:=F7) b;have:an (d.1&&d.2) (o 9) (cZ hl (o (.b0 v)))=an (d.1&&d.2) (o 9) (o (kk d)):=a7 Uw ar;rwa[aH]at this
end
end
section
open PySem
section
variable{dk:Type}{x:gn}{i Q:Nat}{R:Prop}{t:List dJ}{w:List Int→Option dk}{q:dk}
theorem vo{e:Bool}(c:(I&&!e)=C):e=I:=by
 rcases e;·exact nomatch c
 ·rfl
theorem lf{v:aF}(c:c8 x (.b v::t) i w=o q)(u:x i=o (.b0 v)→c8 x t (i+1) w=o q→R):R:=K5 (show lb (fo x v i) (fun _ Q=>c8 x t Q w)=o q from c) fun _ Q b c=>oB b fun aG aK=>u aG (aK▸c)
theorem yu{e:Bool}(c:c8 x (.c e::t) i w=o q)(u:∀r,x i=o (.fT e r)→c8 x t (i+1) (fun br=>w ((r:Int)::br))=o q→R):R:=K5 (show lb (hk x e i) (fun r Q=>c8 x t Q fun br=>w ((r:Int)::br))=o q from c) fun r Q b c=>BC b fun aG aK=>u r aG (aK▸c)
theorem FW{nY:Nat}{p:List (aF×Nat)}(c:c8 x (.e nY p::t) i w=o q)(u:∀r,cZ p (x i)=o r→c8 x t (i+1) (fun br=>w ((r:Int)::br))=o q→R):R:=vg (show co (cZ p (x i)) (fun r=>c8 x t (i+1) fun br=>w ((r:Int)::br)) U=o q from c) fun r b c=>u r b c
theorem FX{z:Bool}{m:Nat}(c:c8 x (.d z m::t) i w=o q)(u:∀l Q,(z&&!im (x i))=C→(bR m 64&&bd .f (x i))=C→fJ x (fa m) i=(o l,Q)→c8 x t Q (fun br=>w (l::br))=o q→R):R:=x0 (show an (z&&!im (x i)) U (an (bR m 64&&bd .f (x i)) U (lb (fJ x (fa m) i) fun l Q=>c8 x t Q fun br=>w (l::br)))=o q from c) fun aG c=>x0 c fun aK c=>K5 c fun l Q b c=>u l Q aG aK b c
theorem FV(c:c8 x [] i w=o q)(u:(x i).isSome=C→w []=o q→R):R:=x0 (show an (x i).isSome U (w [])=o q from c) u
def Dz{dk:Type}(x:gn)(q:dk)(R:Prop)(T:List dJ):Nat→(List Int→Option dk)→Prop:=T.rec (fun i w=>(x i).isSome=C→w []=o q→R) fun k _ ak i w=>match k with|.b v=>x i=o (.b0 v)→ak (i+1) w|.c e=>∀r,x i=o (.fT e r)→ak (i+1) fun br=>w ((r:Int)::br)|.e _ p=>∀r,cZ p (x i)=o r→ak (i+1) fun br=>w ((r:Int)::br)|.d z m=>∀l Q,(z&&!im (x i))=C→(bR m 64&&bd .f (x i))=C→fJ x (fa m) i=(o l,Q)→ak Q fun br=>w (l::br)
theorem e2{T:List dJ}:∀{i:Nat}{w:List Int→Option dk},c8 x T i w=o q→Dz x q R T i w→R:=by induction T with|nil=>exact fun c v=>FV c v|cons k t ak=>
 intro i w c v;rcases k with g|e|⟨_,p⟩|⟨z,m⟩;·exact lf c fun b c=>ak c (v b)
 ·exact yu c fun r b c=>ak c (v r b)
 ·exact FW c fun r b c=>ak c (v r b)
 ·exact FX c fun l Q aG aK b c=>ak c (v l Q aG aK b)
theorem k'{v:aF}(b:x i=o (.b0 v)):c8 x (.b v::t) i w=c8 x t (i+1) w:=show lb (fo x v i) (fun _ Q=>c8 x t Q w)=_ from K6 (fx b) rfl
theorem nD{e:Bool}{r:Nat}(b:x i=o (.fT e r)):c8 x (.c e::t) i w=c8 x t (i+1) (fun br=>w ((r:Int)::br)):=show lb (hk x e i) (fun r Q=>c8 x t Q fun br=>w ((r:Int)::br))=_ from K6 (mm b) rfl
theorem s4{nY r:Nat}{p:List (aF×Nat)}(b:cZ p (x i)=o r):c8 x (.e nY p::t) i w=c8 x t (i+1) (fun br=>w ((r:Int)::br)):=show co (cZ p (x i)) (fun r=>c8 x t (i+1) fun br=>w ((r:Int)::br)) U=_ from ti b rfl
theorem s5{z:Bool}{m:Nat}{l:Int}(aG:(z&&!im (x i))=C)(aK:(bR m 64&&bd .f (x i))=C)(b:fJ x (fa m) i=(o l,Q)):c8 x (.d z m::t) i w=c8 x t Q (fun br=>w (l::br)):=show an (z&&!im (x i)) U (an (bR m 64&&bd .f (x i)) U (lb (fJ x (fa m) i) fun l Q=>c8 x t Q fun br=>w (l::br)))=_ from k_ aG (k_ aK (K6 b rfl))
theorem pp(b:(x i).isSome=C):c8 x [] i w=w []:=show an (x i).isSome U (w [])=_ from k_ b rfl
theorem K1{r:Nat}{l:Int}(aG:x i=o (.fT C r))(aK:(I&&!im (x (i+1)))=C)(bA:fJ x nx (i+1)=(o l,Q)):tj x i=(o (r,l),Q):=cn (mm aG) (e0 (vo aK) (cn bA rfl))
theorem arp(c:c8 x (.c C::.d I 16::t) i w=o q)(u:∀k Q,tj x i=(o k,Q)→c8 x t Q (fun br=>w ((k.1:Int)::k.2::br))=o q→R):R:=yu c fun r aG c=>FX c fun l v aK _ bA c=>u (r,l) v (cn (mm aG) (e0 (vo aK) (cn bA rfl))) c
theorem T_{T:List dJ}:∀{i:Nat}{w:List Int→Option dk},(c8 x T i w=o q→R)→Dz x q R T i w:=by induction T with|nil=>exact fun u b c=>u ((pp b).trans c)|cons k t ak=>
 intro i w u;rcases k with g|e|⟨_,p⟩|⟨z,m⟩;·exact fun b=>ak fun c=>u ((k' b).trans c)
 ·exact fun r b=>ak fun c=>u ((nD b).trans c)
 ·exact fun r b=>ak fun c=>u ((s4 b).trans c)
 ·exact fun l Q aG aK b=>ak fun c=>u ((s5 aG aK b).trans c)
theorem aoQ{k:Nat×Int}(b:tj x i=(o k,Q)):c8 x (.c C::.d I 16::t) i w=c8 x t Q (fun br=>w ((k.1:Int)::k.2::br)):=dW b fun r v aG c=>x1 c fun L c=>dW c fun l p bA c=>ip c fun bh cT=>BC aG fun b6 f3=>by obtain rfl:=bh;obtain rfl:=cT;obtain rfl:=f3;exact(nD b6).trans (s5 (congrArg (fun e=>I&&!e) L) rfl bA)
theorem LR{ad y s:Bool}{d:dt}(b:oL (x i)=o (s,d))(c:an s y ad=I):vm x ad y i=(o (s,d),i+1):=ti b (e0 c rfl)
theorem F9{ad y:Bool}{d:Bool×dt}(b:vm x ad y i=(o d,Q))(u:oL (x i)=o d→an d.1 y ad=I→Q=i+1→R):R:=yd b fun g aY b=>mT b fun H L aR=>by obtain rfl:=L;exact u aY H aR.symm
abbrev ID(p:List (aF×Nat))(s:Bool):Prop:=∀(n:Option aV)(q:Nat),cZ p n=o q→∃d,oL n=o (s,d)∧q=kk d∧(s&&(d.1&&d.2))=C
theorem BU:ID ef C:=fun _ _ b=>arS b fun d H L=>⟨d,H,L,rfl⟩
theorem T6:ID hl I:=fun _ _ b=>apJ b fun d H L aR=>⟨d,H,L,aR⟩
theorem A8{p:List (aF×Nat)}{s y:Bool}{nY:Nat}(aH:ID p s)(aW:an s y I=I)(c:c8 x (rZ (.e nY p) t) i w=o q)(u:∀d k Q,nG x y i=(o ((s,d),k),Q)→(s&&(d.1&&d.2))=C→c8 x t Q (fun br=>w ((kk d:Int)::(k.1:Int)::k.2::br))=o q→R):R:=lf c fun aG c=>lf c fun aK c=>FW c fun q bA c=>lf c fun dN c=>lf c fun hY c=>lf c fun jk c=>arp c fun k NS oZ c=>lf c fun sk c=>by obtain⟨d,H,rfl,aR⟩:=aH _ _ bA;exact u d k _ (cn (fx aG) (cn (fx aK) (cn (LR H aW) (cn (fx dN) (cn (fx hY) (cn (fx jk) (cn oZ (cn (fx sk) rfl)))))))) aR c
theorem asz{s:Bool}{d:dt}{n:Option aV}(b:oL n=o (s,d))(c:(s&&(d.1&&d.2))=C):cZ (an s hl ef) n=o (kk d):=by
 rcases s;·exact Ue b
 ·exact TK b c
def ajB(s:Bool):dJ:=.e (an s 115 117) (an s hl ef)
theorem SJ{y:Bool}{z:(Bool×dt)×Nat×Int}(b:nG x y i=(o z,Q))(a9:(z.1.1&&(z.1.2.1&&z.1.2.2))=C):c8 x (rZ (ajB z.1.1) t) i w=c8 x t Q (fun br=>w ((kk z.1.2:Int)::(z.2.1:Int)::z.2.2::br)):=dW b fun _ XU aG c=>dW c fun _ XW aK c=>dW c fun d XX bA c=>dW c fun _ XY dN c=>dW c fun _ zG hY c=>dW c fun _ XZ jk c=>dW c fun k NS oZ c=>dW c fun _ X0 sk c=>ip c fun H L=>by obtain rfl:=H;obtain rfl:=L;exact F9 bA fun bA _ aR=>oB aG fun aG cx=>oB aK fun aK cU=>oB dN fun dN qe=>oB hY fun hY ws=>oB jk fun jk Dc=>oB sk fun sk H2=>by rw[cx]at aK cU;rw[cU]at bA aR;rw[aR]at dN qe;rw[qe]at hY ws;rw[ws]at jk Dc;rw[Dc]at oZ;rw[H2];exact(k' aG).trans ((k' aK).trans ((s4 (asz bA a9)).trans ((k' dN).trans ((k' hY).trans ((k' jk).trans ((aoQ oZ).trans (k' sk)))))))
theorem anB{y:Bool}{z:(Bool×dt)×Nat×Int}(b:nG x y i=(o z,Q)):an z.1.1 y I=I:=dW b fun _ XU aG c=>dW c fun _ XW aK c=>dW c fun d XX bA c=>dW c fun _ XY dN c=>dW c fun _ zG hY c=>dW c fun _ XZ jk c=>dW c fun k NS oZ c=>dW c fun _ X0 sk c=>ip c fun H L=>by obtain rfl:=H;exact F9 bA fun _ c _=>c
inductive mE(x:gn)(fu:Int→Bool)(i:Nat):Int→Nat→Prop where|c(c:Bool)(g:Nat):x i=o (.b0 .i)→x (i+1)=o (.en c g)→fu (-(g:Int))=I→mE x fu i (-(g:Int)) (i+2)|d(c:Bool)(g:Nat):x i=o (.b0 .f)→x (i+1)=o (.en c g)→fu g=I→mE x fu i g (i+2)|b(c:Bool)(g:Nat):x i=o (.en c g)→fu g=I→mE x fu i g (i+1)
theorem K3{l:Nat}(b:ke x i=(o l,Q))(u:∀c,x i=o (.en c l)→Q=i+1→R):R:=by
 unfold ke mR at b;generalize x i=n at b u;refine yd b fun g aY b=>ip b fun aG aK=>?_;obtain rfl:=aG;rcases n with _|⟨e,z⟩|⟨e,l⟩|v;·exact nomatch aY
 ·exact nomatch aY
 ·exact u e (congrArg (fun t:Nat=>o (aV.en e t)) (aJ aY)) aK.symm
 ·exact nomatch aY
theorem vn{c:Bool}{l:Nat}(b:x i=o (.en c l)):ke x i=(o l,i+1):=by unfold ke mR;rw[b];rfl
theorem mQ{fu:Int→Bool}{l:Int}(b:fJ x fu i=(o l,Q)):mE x fu i l Q:=iV b (fun aG b=>dW b fun g v aK b=>mT b fun bA H L=>K3 aK fun e dN aR=>by obtain rfl:=H;rw[←L,aR];exact .c e g (jL aG) dN bA) (fun _ b=>dW b fun g v aK b=>mT b fun bA H L=>K3 aK fun e dN aR=>by
 obtain rfl:=H;rw[←L,aR];rcases aG:bd .f (x i);·rw[aG]at dN;exact .b e g dN bA
 ·rw[aG]at dN;exact .d e g (jL aG) dN bA)
theorem ve{fu:Int→Bool}{l:Int}(c:mE x fu i l Q):fJ x fu i=(o l,Q):=by
 unfold fJ;rcases c with⟨e,g,aG,aK,bA⟩|⟨e,g,aG,aK,bA⟩|⟨e,g,aG,bA⟩;·rw[aG];exact cn (vn aK) (e0 bA rfl)
 ·rw[aG];exact cn (vn aK) (e0 bA rfl)
 ·rw[aG];exact cn (vn aG) (e0 bA rfl)
end
end
section
open PySem
def TN{V:Type}(n:Option aV)(aS hX X be S bC ft:V):V:=an (bd .k n||bd .q n) aS (an (bd .r n) hX (an (bd .p n) X (an (bd .u n) be (an (bd .s n) S (an (bd .g n) bC ft)))))
def Ln{V:Type}(n:Option aV)(n8:Bool)(aS hX X:V)(be S:Nat→V)(bC:Bool×dt→V)(ft cS D:V):V:=an (bd .g n) aS (an (bd .d n) hX (an (bd .i n&&n8) X (co (LA n) be (co (JM n) S (co (LT n) bC (an (bd .v n) ft (an (kL n) cS D)))))))
section
variable{x:gn}{i Q:Nat}{R:Prop}{w:cY}{fu:Int→Bool}{l:Int}
theorem KS(c:mE x fu i l Q){P:Option aV→Prop}(H:P (o (.b0 .i)))(L:P (o (.b0 .f)))(aR:∀e g,P (o (.en e g))):P (x i):=by
 rcases c with⟨e,g,aG,aK,bA⟩|⟨e,g,aG,aK,bA⟩|⟨e,g,aG,bA⟩;·rw[aG];exact H
 ·rw[aG];exact L
 ·rw[aG];exact aR e g
theorem Bb(c:mE x fu i l Q):fu l=I:=by
 rcases c with⟨e,g,aG,aK,bA⟩|⟨e,g,aG,aK,bA⟩|⟨e,g,aG,bA⟩;·exact bA
 ·exact bA
 ·exact bA
theorem aon{MP:Int→Bool}(a3:∀l,fu l=I→MP l=I)(c:mE x fu i l Q):mE x MP i l Q:=by
 rcases c with⟨e,g,aG,aK,bA⟩|⟨e,g,aG,aK,bA⟩|⟨e,g,aG,bA⟩;·exact .c e g aG aK (a3 _ bA)
 ·exact .d e g aG aK (a3 _ bA)
 ·exact .b e g aG (a3 _ bA)
theorem aic(l:Int)(c:nx l=I):iS l=I:=s6.2 ⟨g4 (by decide) (s6.1 c).1,B8 (s6.1 c).2 (by decide)⟩
theorem anQ(e:Bool)(g:Nat):pt (o (.en e g))=C:=by obtain⟨F,t,aI,b⟩:=qG e g;exact(congrArg (fun y=>lN y nE) b).trans (bw (bw (Er aI)).2).2
theorem Rg(aG:im (x i)=I)(aK:fJ x iS i=(o l,Q)):yg x i=(o (l,[]),Q):=e0 aG (cn aK rfl)
theorem JW(aG:im (x i)=I)(aK:fJ x nx i=(o l,Q)):yg x i=(o (l,[]),Q):=Rg aG (ve (aon aic (mQ aK)))
theorem iY{y:dp}(c:eA x y=o w)(u:(y.e&&(bd .c (x 1)&&bd .f (x 2)))=C→c8 x y.b 0 y.d=o w→R):R:=x0 c u
theorem J'{e:Bool}{r:Nat}(b:x i=o (.fT e r)):kL (x i)=I:=by rw[b];rfl
theorem TY{e:Bool}{r:Nat}(b:x i=o (.fT e r)):tk x e i=(o (I,(r:Int)),i+1):=e0 (J' b) (cn (mm b) rfl)
theorem S4(c:mE x fu i l Q):kL (x i)=C:=KS c (P:=fun n=>kL n=C) rfl rfl fun _ _=>rfl
theorem TX{e:Bool}(b:fJ x iS i=(o l,Q)):tk x e i=(o (C,l),Q):=k_ (S4 (mQ b)) (cn b rfl)
theorem po{v:aF}{G:c5 (cY×List Nat)}(b:x 0=o (.b0 v))(c:TN (o (.b0 v)) (vj x 0) (vh x 0) (vi x 0) (o ((149,0,0,0,0,0),[]),0+1) (la (vk x 0)) (la (vl x 0)) (la (yf x 0))=G):Bh x 0=G:=by rw[←c,←b];rfl
theorem J6{e:Bool}{r:Nat}(b:x 0=o (.fT e r)):Bh x 0=la (yf x 0):=by show TN (x 0) (vj x 0) (vh x 0) (vi x 0) (o ((149,0,0,0,0,0),[]),0+1) (la (vk x 0)) (la (vl x 0)) (la (yf x 0))=_;rw[b];rfl
theorem uM{i:Nat}{g:cY}(c:o g=o w):(o (g,([]:List Nat)),i)=(o (w,[]),i):=by rw[aJ c]
theorem lK{i:Nat}{g:cY}(c:o g=o w):(o g,i)=(o w,i):=by rw[c]
theorem OX(c:eA x BK=o w):fW x=o w:=iY c fun _ c=>e2 c fun bs l Q aG _ aK bA c=>mV ((po (G:=vj x 0) bs rfl).trans (cn (JW (vo aG) aK) (k_ (congrArg (bd .q) bs) (e0 (Bb (mQ aK)) (uM c))))) bA
theorem OY(c:eA x BL=o w):fW x=o w:=iY c fun _ c=>e2 c fun bs l Q aG _ aK bA c=>mV ((po (G:=vj x 0) bs rfl).trans (cn (Rg (vo aG) aK) (e0 (congrArg (bd .q) bs) (uM c)))) bA
theorem OW(c:eA x BJ=o w):fW x=o w:=iY c fun _ c=>e2 c fun bs bA c=>mV (po bs (uM c)) bA
theorem OU(c:eA x BI=o w):fW x=o w:=iY c fun _ c=>e2 c fun bs l Q aG _ aK bA c=>mV ((po (G:=vi x 0) bs rfl).trans (cn (fx bs) (k_ (congrArg (fun e=>e&&im (x 2)) (KS (mQ aK) (P:=fun n=>bd .t n=C) rfl rfl fun _ _=>rfl)) (k_ (KS (mQ aK) (P:=fun n=>pt n=C) rfl rfl anQ) (cn aK (uM c)))))) bA
theorem O1(c:eA x BM=o w):fW x=o w:=iY c fun _ c=>e2 c fun bs aG l Q aK _ bA dN c=>mV ((po (G:=vi x 0) bs rfl).trans (cn (fx bs) (e0 (show(bd .t (x 1)&&im (x 2))=I from e5.2 ⟨congrArg (bd .t) aG,vo aK⟩) (cn bA (uM c))))) dN
theorem DH(e:Bool)(c:eA x (vw e)=o w):fW x=o w:=iY c fun _ c=>e2 c fun bs t aG q aK y bA dN l Q hY _ jk oZ c=>mV ((po (G:=vh x 0) bs rfl).trans (cn (fx bs) (cn (Bv aG) (ti aK (cn (TY bA) (cn (fx dN) (cn (JW (vo hY) jk) (e0 (Bb (mQ jk)) (uM c))))))))) oZ
theorem DG(e:Bool)(c:eA x (vv e)=o w):fW x=o w:=iY c fun _ c=>e2 c fun bs t aG q aK y i _ _ bA dN l Q hY _ jk oZ c=>mV ((po (G:=vh x 0) bs rfl).trans (cn (fx bs) (cn (Bv aG) (ti aK (cn (TX bA) (cn (fx dN) (cn (JW (vo hY) jk) (e0 (Bb (mQ jk)) (uM c))))))))) oZ
theorem ts(d:dt):r_ (kk d:Nat)=fK d:=by obtain⟨_|_,_|_⟩:=d<;>rfl
theorem O4(c:eA x vA=o w):fW x=o w:=iY c fun _ c=>A8 BU (y:=C) rfl c fun d k Q bs _ c=>e2 c fun aG y aK bA c=>mV ((po (v:=.g) (G:=la (vl x 0)) (dW bs fun _ _ b _=>oB b fun b _=>b) rfl).trans (vc (cn bs (cn (fx aG) (e0 (J' aK) (cn (mm aK) (lK (ts d▸c)))))))) bA
theorem O3(c:eA x vz=o w):fW x=o w:=iY c fun _ c=>A8 BU (y:=C) rfl c fun d k Q bs _ c=>e2 c fun aG l v _ _ aK bA c=>mV ((po (v:=.g) (G:=la (vl x 0)) (dW bs fun _ _ b _=>oB b fun b _=>b) rfl).trans (vc (cn bs (cn (fx aG) (k_ (S4 (mQ aK)) (cn aK (lK (ts d▸c)))))))) bA
theorem UP{d:dt}{e:Bool}(c:a6 ((kk d:Int)=kl e)=I):d=(I,!e):=by obtain⟨_|_,_|_⟩:=d<;>rcases e<;>first|rfl|exact nomatch c
theorem DI(e:Bool)(c:eA x (pB e)=o w):fW x=o w:=iY c fun _ c=>lf c fun bs c=>A8 BU (y:=C) rfl c fun d k Q aG _ c=>e2 c fun q aK y bA dN c=>kG c fun H L=>by
 obtain rfl:=UP H;obtain rfl:=L;rcases e;·exact mV ((po (G:=la (vk x 0)) bs rfl).trans (vc (cn (fx bs) (cn aG (ti aK (cn (mm bA) rfl)))))) dN
 ·exact mV ((po (G:=la (vk x 0)) bs rfl).trans (vc (cn (fx bs) (cn aG (ti aK (cn (mm bA) rfl)))))) dN
end
end
section
open PySem
section
variable{x:gn}{i Q r:Nat}{R:Prop}{w:cY}{e:Bool}{l:Int}
theorem oH(bs:x 0=o (.fT e r))(aG:x 1=o (.b0 .c))(b:r0 x r e 2=(o w,Q))(c:(x Q).isSome=C):fW x=o w:=mV ((J6 bs).trans (vc (cn (Bv bs) (e0 (congrArg (bd .c) aG) b)))) c
abbrev apS(x:gn)(r:Nat)(e:Bool)(i:Nat)(n:Option aV)(n8:Bool):c5 cY:=Ln n n8 (cl (nG x I i) fun z i=>hj (!(e||(z.1.1&&(z.1.2.1&&z.1.2.2)))) (an z.1.1 129 97+fK z.1.2,(r:Int),(z.2.1:Int),z.2.2,0,0) i) (Bf x r e i) (yh x r e i) (fun q=>Bj x q r e i) (fun q=>Bg x q r e i) (fun q=>yi x q r e i) (Bi x r e i) (cl (hk x e i) fun y i=>(o (184+fV e,(r:Int),(y:Int),0,0,0),i)) (qI x r e i)
theorem mX{n:Option aV}{n8:Bool}{G:c5 cY}(b:x i=n)(b4:kL (x (i+1))=n8)(c:apS x r e i n n8=G):r0 x r e i=G:=by obtain rfl:=b;obtain rfl:=b4;exact c
theorem auR(e:Bool)(d:Int×Int×Int×Int):((184+fV e,d):Int×Int×Int×Int×Int)=(lJ 11+fV e+8,d):=by rcases e<;>rfl
theorem Qt{q:Nat}(u:bd .c (x i)=I)(b:cZ jb (x i)=o q):q=11:=by rw[jL u]at b;exact(aJ b).symm
theorem an9(c:(x Q).isSome=C):bd .l (x Q)=C:=by
 rcases b:x Q with _|s;·rfl
 ·rw[b]at c;exact nomatch c
theorem DD(e:Bool)(c:eA x (qR e)=o w):fW x=o w:=iY c fun _ c=>e2 c fun r bs q aG y aK bA c=>by
 rcases u:bd .c (x 1);·exact mV ((J6 bs).trans (vc (cn (Bv bs) (k_ u (ti aG (cn (TY aK) (lK c))))))) bA
 ·obtain rfl:=Qt u aG;refine oH bs (jL u) ((mX (G:=cl (hk x e 2) fun y i=>(o (184+fV e,(r:Int),(y:Int),0,0,0),i)) aK rfl rfl).trans (cn (mm aK) (lK (lU ?_ c)))) bA;rcases e<;>rfl
theorem aeH(aK:mE x iS i l Q)(bA:bd .l (x Q)=C)(kw:bd .f (x i)=C):r0 x r e i=(o (176+fV e,(r:Int),0,0,l,0),Q):=by
 have c:=ve aK;rcases aK with⟨s,g,b6,f3,iC⟩|⟨s,g,b6,f3,iC⟩|⟨s,g,b6,iC⟩;·exact(mX (G:=qI x r e i) b6 (congrArg kL f3) rfl).trans (cn (Q:=i+1+1) ((congrArg (ke x) (e0 (congrArg (bd .i) b6) rfl)).trans (vn f3)) (k_ bA (cn c rfl)))
 ·rw[b6]at kw;exact nomatch kw
 ·exact(mX (G:=qI x r e i) b6 rfl rfl).trans (cn (Q:=i+1) ((congrArg (ke x) (k_ (congrArg (bd .i) b6) rfl)).trans (vn b6)) (k_ bA (cn c rfl)))
theorem DC(e:Bool)(c:eA x (pA e)=o w):fW x=o w:=iY c fun aY c=>e2 c fun r bs q aG l Q _ _ aK bA c=>by
 rcases u:bd .c (x 1);·exact mV ((J6 bs).trans (vc (cn (Bv bs) (k_ u (ti aG (cn (TX aK) (lK c))))))) bA
 ·obtain rfl:=Qt u aG;have aY:(bd .c (x 1)&&bd .f (x 2))=C:=aY;rw[u]at aY;exact oH bs (jL u) ((aeH (mQ aK) (an9 bA) aY).trans (lK c)) bA
theorem DJ(e:Bool)(c:eA x (pC e)=o w):fW x=o w:=iY c fun _ c=>e2 c fun r bs aG aK y bA dN c=>kG c fun H L=>by obtain rfl:=lh (of_decide_eq_true H);exact oH bs aG ((mX (G:=yh x r e 2) aK (J' bA) rfl).trans (cn (fx aK) (cn (mm bA) (e0 (vU r) (lK (congrArg o L)))))) dN
section
variable{V:Type}(n8:Bool)(aS hX X:V)(be S:Nat→V)(bC:Bool×dt→V)(ft cS D:V)
theorem apU:jN.map (fun b=>Ln (o (.b0 b.1)) n8 aS hX X be S bC ft cS D)=jN.map fun b=>be b.2:=by kernel_rfl
theorem apT:iT.map (fun b=>Ln (o (.b0 b.1)) n8 aS hX X be S bC ft cS D)=iT.map fun b=>S b.2:=by kernel_rfl
end
theorem OV(c:eA x r4=o w):fW x=o w:=iY c fun _ c=>e2 c fun r bs aG n aK y bA dN c=>kG c fun H L=>by obtain rfl:=lh (of_decide_eq_true H);obtain⟨v,ar,aK⟩:=iW aK;exact oH bs aG ((mX (G:=Bj x n r C 2) aK rfl (a7 (apU _ _ _ _ _ _ _ _ _ _) ar)).trans (cn (mm bA) (e0 (vU r) (lK (congrArg o L))))) dN
theorem DK(e:Bool)(c:eA x (r5 e)=o w):fW x=o w:=iY c fun _ c=>e2 c fun r bs aG aK q bA dN y hY jk c=>kG c fun H L=>by
 obtain⟨d,iC,rfl,aH⟩:=T6 _ _ bA;refine oH bs aG ((mX (G:=Bf x r e 2) aK rfl rfl).trans (cn (fx aK) (cn (LR (ad:=C) (y:=I) iC rfl) (cn (fx dN) (cn (mm hY) (e0 ?_ (lK ((congrArg o ?_).trans (congrArg o L))))))))) jk;·obtain⟨_|_,_|_⟩:=d<;>rcases e<;>first|rfl|exact nR (show I=C from aH)|exact nR (show C=I from H)
 ·obtain⟨_|_,_|_⟩:=d<;>first|rfl|exact nR (show I=C from aH)
theorem O0(c:eA x vy=o w):fW x=o w:=iY c fun _ c=>yu c fun r bs c=>lf c fun aG c=>A8 BU (y:=I) rfl c fun d k Q aK _ c=>FV c fun bA c=>oH bs aG ((mX (G:=cl (nG x I 2) fun z i=>hj (!(C||(z.1.1&&(z.1.2.1&&z.1.2.2)))) (an z.1.1 129 97+fK z.1.2,(r:Int),(z.2.1:Int),z.2.2,0,0) i) (dW aK fun _ _ b _=>oB b fun b _=>b) rfl rfl).trans (cn aK (e0 rfl (lK (ts d▸c))))) bA
theorem OZ(c:eA x vx=o w):fW x=o w:=iY c fun _ c=>yu c fun r bs c=>lf c fun aG c=>A8 T6 (y:=I) rfl c fun d k Q aK aH c=>FV c fun bA c=>oH bs aG ((mX (G:=cl (nG x I 2) fun z i=>hj (!(C||(z.1.1&&(z.1.2.1&&z.1.2.2)))) (an z.1.1 129 97+fK z.1.2,(r:Int),(z.2.1:Int),z.2.2,0,0) i) (dW aK fun _ _ b _=>oB b fun b _=>b) rfl rfl).trans (cn aK (e0 (congrArg (fun e=>!e) aH) (lK (ts d▸c))))) bA
theorem DF(e:Bool)(c:eA x (nL e)=o w):fW x=o w:=iY c fun _ c=>e2 c fun r bs aG q aK bA dN es hY jk oZ sk l3 b6 gF Q gl _ qi Vy za y zb zc zd c=>kG c fun H L=>by
 have rb:=K1 b6 gl qi;obtain⟨aR,bh⟩:=e5.1 H;obtain rfl:=lh (of_decide_eq_true aR);obtain⟨d,Zb,rfl,aH⟩:=BU _ _ hY;obtain rfl:=UP bh;obtain⟨v,ar,f3⟩:=iW aK;refine oH bs aG ((mX (G:=Bg x q r e 2) f3 rfl (a7 (apT _ _ _ _ _ _ _ _ _ _) ar)).trans (cn (fx bA) (cn (fx dN) (cn (LR (ad:=I) (y:=C) Zb rfl) (cn (fx jk) (cn (fx oZ) (cn (fx sk) (cn rb (cn (fx Vy) (cn (fx za) (cn (mm zb) (cn (fx zc) (e0 (e5.2 ⟨vU r,?_⟩) (lK ((congrArg o ?_).trans (congrArg o L)))))))))))))))) zd;·rcases e<;>rfl
 ·rcases e<;>rfl
theorem DL(e:Bool)(c:eA x (pD e)=o w):fW x=o w:=iY c fun _ c=>e2 c fun r bs aG aK bA rn f3 hw Q hd _ i7 za y zb zc zd c=>kG c fun H L=>by
 have rb:=K1 f3 hd i7;obtain rfl:=lh (of_decide_eq_true H);refine oH bs aG (mX (G:=yi x (C,I,!e) r e 2) aK rfl ?_|>.trans (cn (fx bA) (cn rb (k_ rfl (cn (fx za) (cn (mm zb) (cn (fx zc) (e0 (e5.2 ⟨vU r,?_⟩) (lK ((congrArg o ?_).trans (congrArg o L))))))))))) zd;·rcases e<;>rfl
 ·rcases e<;>rfl
 ·rcases e<;>rfl
theorem DE(e:Bool)(c:eA x (nK e)=o w):fW x=o w:=iY c fun _ c=>e2 c fun r bs aG aK bA C5 iC Ou Q o' _ z5 za m zb zc y zd Vz V0 c=>kG c fun H L=>by
 have rb:=K1 iC o' z5;obtain⟨aR,bh⟩:=e5.1 H;obtain rfl:r=0:=lh (of_decide_eq_true aR);obtain rfl:m=0:=lh (of_decide_eq_true bh);refine oH bs aG (mX (G:=yi x (I,I,!e) 0 e 2) aK rfl ?_|>.trans (cn (fx bA) (cn rb (e0 rfl (cn (fx za) (e0 rfl (cn (mm zb) (e0 ?_ (cn (fx zc) (cn (mm zd) (cn (fx Vz) (lK ((congrArg o ?_).trans (congrArg o L)))))))))))))) V0;·rcases e<;>rfl
 ·rcases e<;>rfl
 ·rcases e<;>rfl
theorem asB(aK:mE x uQ i l Q)(bA:x Q=o (.b0 .l))(kw:bd .f (x i)=C):r0 x r C i=(o (24,(r:Int),0,0,fN l,fN (l/4294967296)),Q+1):=by
 rcases aK with⟨s,g,b6,f3,iC⟩|⟨s,g,b6,f3,iC⟩|⟨s,g,b6,iC⟩;·exact(mX (G:=qI x r C i) b6 (congrArg kL f3) rfl).trans (cn (Q:=i+1+1) ((congrArg (ke x) (e0 (congrArg (bd .i) b6) rfl)).trans (vn f3)) (e0 (congrArg (bd .l) bA) (by rw[b6];exact e0 iC rfl)))
 ·rw[b6]at kw;exact nomatch kw
 ·exact(mX (G:=qI x r C i) b6 rfl rfl).trans (cn (Q:=i+1) ((congrArg (ke x) (k_ (congrArg (bd .i) b6) rfl)).trans (vn b6)) (e0 (congrArg (bd .l) bA) (by rw[b6];exact e0 iC rfl)))
theorem O5(c:eA x BO=o w):fW x=o w:=iY c fun _ c=>e2 c fun r bs aG l Q _ aK bA dN hY c=>oH bs aG ((asB (mQ bA) dN aK).trans (lK c)) hY
theorem O2(c:eA x BN=o w):fW x=o w:=iY c fun _ c=>e2 c fun r bs aG aK l Q _ _ bA dN hY c=>oH bs aG ((mX (G:=Bi x r C 2) aK rfl rfl).trans (cn (fx aK) (cn bA (cn (fx dN) (lK c))))) hY
end
end
section
open PySem
section
variable{x:gn}{i:Nat}{R bg:Type}{P:Prop}{q:bg}{v:Nat}
theorem je{d:aF}{bC:Unit→Nat→c5 bg}(b:cl (fo x d i) bC=(o q,v))(u:x i=o (.b0 d)→bC () (i+1)=(o q,v)→P):P:=dW b fun _ _ bs b=>oB bs fun G c=>u G (c▸b)
theorem r6{e:Bool}{bC:Nat→Nat→c5 bg}(b:cl (hk x e i) bC=(o q,v))(u:∀r,x i=o (.fT e r)→bC r (i+1)=(o q,v)→P):P:=dW b fun r _ bs b=>BC bs fun G c=>u r G (c▸b)
end
section
variable{x:gn}{i Q r:Nat}{R:Prop}{w:cY}{e:Bool}{l:Int}
def i_(x:gn)(w:cY):Prop:=∃y,y∈e1∧eA x y=o w
theorem J7{z:Bool}{t:List dJ}{E:List Int→Option cY}(aG:(z&&!im (x i))=C)(b:fJ x iS i=(o l,Q)):c8 x (.d z 32::t) i E=c8 x t Q (fun br=>E (l::br)):=s5 aG rfl b
theorem uY(v:Nat){y:dp}(ar:e1[v]?=o y)(aY:(y.e&&(bd .c (x 1)&&bd .f (x 2)))=C)(c:c8 x y.b 0 y.d=o w):i_ x w:=⟨y,dZ ar,k_ aY c⟩
theorem xV(v:Nat)(E:Bool→dp)(e:Bool)(aX:e1[v]?=o (E C))(H:e1[v+1]?=o (E I))(aY:((E e).e&&(bd .c (x 1)&&bd .f (x 2)))=C)(c:c8 x (E e).b 0 (E e).d=o w):i_ x w:=by
 rcases e;·exact uY v aX aY c
 ·exact uY (v+1) H aY c
theorem s1(v:Nat){y:dp}(ar:e1[v]?=o y)(aY:(y.e&&(bd .c (x 1)&&bd .f (x 2)))=C):Dz x w (i_ x w) y.b 0 y.d:=T_ fun c=>uY v ar aY c
theorem uZ(v:Nat)(E:Bool→dp)(e:Bool)(aX:e1[v]?=o (E C))(H:e1[v+1]?=o (E I))(aY:((E e).e&&(bd .c (x 1)&&bd .f (x 2)))=C):Dz x w (i_ x w) (E e).b 0 (E e).d:=T_ fun c=>xV v E e aX H aY c
theorem r1{k:Nat×Int}(b:tj x i=(o k,Q)):x i=o (.fT C k.1)∧(I&&!im (x (i+1)))=C∧fJ x nx (i+1)=(o k.2,Q):=dW b fun r v aG c=>x1 c fun L c=>dW c fun l p bA c=>ip c fun bh cT=>BC aG fun b6 f3=>by
 repeat clear b
 obtain rfl:=bh;obtain rfl:=cT;obtain rfl:=f3;exact⟨b6,congrArg (fun e=>I&&!e) L,bA⟩
theorem JX{l:Int×List Nat}(b:yg x i=(o l,Q))(bE:l.2=[])(u:im (x i)=I→fJ x iS i=(o l.1,Q)→R):R:=iV b (fun c b=>dW b fun g v aG b=>ip b fun H L=>by
 repeat clear b
 obtain rfl:=H;obtain rfl:=L;exact u c aG) fun _ b=>x1 b fun c b=>ip b fun H L=>by have:dq (x i)=[]:=(congrArg Prod.snd H).trans bE;unfold pt at c;rw[this]at c;exact nomatch c
theorem TW{y:Bool×Int}(b:tk x e i=(o y,Q))(u:∀z,x i=o (.fT e z)→y=(I,(z:Int))→Q=i+1→R)(j4:∀l,kL (x i)=C→fJ x iS i=(o l,Q)→y=(C,l)→R):R:=iV b (fun c b=>dW b fun g v aG b=>ip b fun H L=>BC aG fun aR bh=>u g aR H.symm (L.symm.trans bh)) (fun c b=>dW b fun g v aG b=>ip b fun H L=>by obtain rfl:=L;exact j4 g c aG H.symm)
theorem Bl{e:Bool}(c:e=I):(I&&!e)=C:=by rw[c];rfl
theorem uU{g e:cY}{E zi:List Nat}(c:(g,E)=(e,zi)):o g=o e:=congrArg (fun k:cY×List Nat=>o k.1) c
theorem KQ{l:Int}(b:fJ x iS i=(o l,Q))(c:nx l=I):fJ x (fa 16) i=(o l,Q):=ve (by
 rcases mQ b with⟨s,g,b6,f3,iC⟩|⟨s,g,b6,f3,iC⟩|⟨s,g,b6,iC⟩;·exact .c s g b6 f3 c
 ·exact .d s g b6 f3 c
 ·exact .b s g b6 c)
theorem atw(s:(bd .k (x 0)||bd .q (x 0))=I)(b:vj x 0=(o (w,[]),Q))(bZ:(x Q).isSome=C):i_ x w:=dW b fun l nh aG b=>iV b (fun c b=>ip b fun H L=>JX aG (congrArg Prod.snd H) fun e4 fC=>by
 repeat clear b
 obtain rfl:=L;exact s1 27 rfl rfl (jL c) _ _ (Bl e4) rfl fC bZ (uU H)) (fun c b=>mT b fun aX H L=>JX aG (congrArg Prod.snd H) fun e4 fC=>by
 repeat clear b
 obtain rfl:=L;rw[c,Ga]at s;exact s1 26 rfl rfl (jL s) _ _ (Bl e4) rfl (KQ fC aX) bZ (uU H))
theorem atp(b:vh x 0=(o (w,[]),Q))(bZ:(x Q).isSome=C):i_ x w:=je b fun hx b=>dW b fun t nh aG b=>Lh aG fun gl cx=>yd b fun q aK b=>dW b fun y aud bA b=>je b fun OB b=>dW b fun l aue hY b=>mT b fun aX H L=>JX hY (congrArg Prod.snd H) fun e4 fC=>by
 repeat clear b
 obtain rfl:=cx;obtain rfl:=L;refine TW bA (fun z b6 f3 iC=>?_) (fun ad b6 f3 iC=>?_);·obtain rfl:=f3;obtain rfl:=iC;exact xV 28 vw t.1 rfl rfl rfl ((k' hx).trans ((nD gl).trans ((s4 aK).trans ((nD b6).trans ((k' OB).trans ((s5 (Bl e4) rfl (KQ fC aX)).trans ((pp bZ).trans (uU H))))))))
 ·obtain rfl:=iC;exact xV 30 vv t.1 rfl rfl rfl ((k' hx).trans ((nD gl).trans ((s4 aK).trans ((J7 rfl f3).trans ((k' OB).trans ((s5 (Bl e4) rfl (KQ fC aX)).trans ((pp bZ).trans (uU H))))))))
theorem atq (b : vi x 0 = (o (w, []), Q)) (bZ : (x Q).isSome = C) : i_ x w := je b fun hx b => by
  exact iV b (fun c b => dW b fun l nh aG b => ip b fun H L => by
      repeat clear b
      obtain rfl := L
      obtain ⟨b6, f3⟩ := e5.1 c
      exact s1 24 rfl rfl hx (jL b6) _ _ (Bl f3) rfl aG bZ (uU H))
    fun _ b => iV b (fun c b => ip b fun H L => by
      have : dq (x 1) = [] := congrArg Prod.snd H
      unfold pt at c
      rw [this] at c
      exact nomatch c)
    fun _ b => dW b fun l nh aG b => ip b fun H L => by
      repeat clear b
      obtain rfl := L
      exact s1 23 rfl rfl hx _ _ rfl rfl aG bZ (uU H)
theorem atu(s:bd .u (x 0)=I)(b:(o (((149,0,0,0,0,0):cY),([]:List Nat)),0+1)=(o (w,[]),Q))(bZ:(x Q).isSome=C):i_ x w:=ip b fun H L=>by
 repeat clear b
 obtain rfl:=L;exact s1 25 rfl rfl (jL s) bZ (uU H)
theorem KC{z:(Bool×dt)×Nat×Int}(b:nG x C i=(o z,Q)):z.1.1=C:=by
 have:=anB b;rcases c:z.1.1;·rfl
 ·rw[c]at this;exact nomatch this
theorem KB{z:(Bool×dt)×Nat×Int}{t:List dJ}{E:List Int→Option cY}{s:Bool}(b:nG x s i=(o z,Q))(c:z.1.1=C):c8 x (rZ kJ t) i E=c8 x t Q (fun br=>E ((kk z.1.2:Int)::(z.2.1:Int)::z.2.2::br)):=by have:=SJ (t:=t) (w:=E) b (by rw[c];rfl);rw[c]at this;exact this
theorem atE (b : vl x 0 = (o w, Q)) (bZ : (x Q).isSome = C) : i_ x w := dW b fun z wl bs b => je b fun gl b => by
  exact iV b (fun c b => r6 b fun y hd b => ip b fun H L => by
      repeat clear b
      obtain rfl := L
      exact uY 11 rfl rfl ((KB bs (KC bs)).trans ((k' gl).trans ((nD hd).trans ((pp bZ).trans (congrArg o ((congrArg (fun d => (99 + d, _)) (ts z.1.2)).trans H)))))))
    fun _ b => dW b fun y Yb aK b => ip b fun H L => by
      repeat clear b
      obtain rfl := L
      exact uY 12 rfl rfl ((KB bs (KC bs)).trans ((k' gl).trans ((J7 rfl aK).trans ((pp bZ).trans (congrArg o ((congrArg (fun d => (98 + d, _)) (ts z.1.2)).trans H))))))
theorem LM(e:Bool):nN e=fK (I,!e):=by rcases e<;>rfl
theorem aty(b:vk x 0=(o w,Q))(bZ:(x Q).isSome=C):i_ x w:=je b fun hx b=>dW b fun z nh aG b=>yd b fun q aK b=>RZ b fun c b=>r6 b fun y iC b=>ip b fun H L=>by
 repeat clear b
 obtain rfl:=L;have cu:=KC aG;obtain⟨⟨p,a4,iw⟩,k⟩:=z;obtain rfl:a4=I:=by
  rcases a4;·exact nomatch c
  ·rfl
 refine xV 13 pB (!iw) rfl rfl rfl ((k' hx).trans ((KB aG cu).trans ((s4 aK).trans ((nD iC).trans ((pp bZ).trans (e0 ?_ (congrArg o (lU ?_ H))))))));·rcases iw<;>rfl
 ·rcases iw<;>rfl
end
end
section
open PySem
section
variable{x:gn}{i Q r:Nat}{R:Prop}{w:cY}{e:Bool}{l:Int}
theorem KV{V:Type}{n:Option V}{bC:V→c5 cY}{m:c5 cY}(c:co n bC m=(o w,Q))(u:∀g,n=o g→bC g=(o w,Q)→R)(j4:m=(o w,Q)→R):R:=by
 rcases n with _|g;·exact j4 c
 ·exact u g rfl c
theorem T4{d:dt}(c:a6 (8*eB d=eo e)=I):d=(I,!e):=by
 repeat clear e
 obtain⟨_|_,_|_⟩:=d<;>rcases e<;>first|rfl|exact nR (show C=I from c)
theorem asT(e:Bool):a6 (((kk (I,!e):Nat):Int)=kl e)=I:=by rcases e<;>rfl
theorem tm(r:Nat):a6 ((r:Int)=(r:Int))=I:=decide_eq_true rfl
theorem QM{t':Int}{d:dt}{k:Nat×Int}(b:Fe x t' d k r e i=(o w,Q))(u:x i=o (.b0 .j)→x (i+1)=o (.fT e r)→x (i+1+1)=o (.b0 .e)→d=(I,!e)→Q=i+1+1+1→(195+fK d,(k.1:Int),(r:Int),k.2,t',0)=w→R):R:=je b fun ch b=>r6 b fun y b6 b=>je b fun f3 b=>mT b fun aX H L=>by
 repeat clear b
 obtain⟨aR,bh⟩:=e5.1 aX;obtain rfl:=g5 aR;exact u ch b6 f3 (T4 bh) L.symm H
theorem UR{v:aF}{q:Bool×dt}(c:(v,q)∈vH)(bf:q.2=(I,!e)):v=an q.1 (an e .z .A) (an e .D .y):=by
 have aS:vH.map (fun b=>(b.1:Nat))=vH.map fun b=>an b.2.1 (an b.2.2.2 aF.A aF.z) (an b.2.2.2 aF.y aF.D):=by kernel_rfl
 have:=a7 aS c;rw[bf]at this;rcases e<;>exact this
theorem Qr(b6:x 1=o (.b0 .c)):cZ jb (x 1)=o 11:=by rw[b6];rfl
theorem Jb(d:dt)(e:Bool)(c:(!a6 (8*eB d≥eo e))=I):(d.1&&d.2)=C∧(!e||decide (((kk d:Nat):Int)<2))=I∧[8,16,32].getD ((kk d:Nat):Int).toNat 0=8*eB d:=by
 repeat clear e
 obtain⟨_|_,_|_⟩:=d<;>rcases e<;>first|exact⟨rfl,rfl,rfl⟩|exact nR (show C=I from c)
section
variable(ch:x 0=o (.fT e r))(b6:x 1=o (.b0 .c))(bZ:(x Q).isSome=C)
include ch b6 bZ
theorem atx(b:(cl (nG x I 2) fun z i=>hj (!(e||(z.1.1&&(z.1.2.1&&z.1.2.2)))) (an z.1.1 129 97+fK z.1.2,(r:Int),(z.2.1:Int),z.2.2,0,0) i)=((o w,Q):c5 cY)):i_ x w:=dW b fun z wl bs b=>mT b fun aX H L=>by
 repeat clear b
 obtain rfl:=L;rcases e;·
  have a9:(z.1.1&&(z.1.2.1&&z.1.2.2))=C:=m1 _▸aX;have aS:=fun t(E:List Int→Option cY)=>SJ (t:=t) (w:=E) bs a9;rcases aw:z.1.1;·rw[aw]at aS H;exact uY 9 rfl rfl ((nD ch).trans ((k' b6).trans ((aS _ _).trans ((pp bZ).trans (congrArg o ((congrArg (fun d=>(97+d,_)) (ts z.1.2)).trans H))))))
  ·rw[aw]at aS H;exact uY 10 rfl rfl ((nD ch).trans ((k' b6).trans ((aS _ _).trans ((pp bZ).trans (congrArg o ((congrArg (fun d=>(129+d,_)) (ts z.1.2)).trans H))))))
 ·exact nomatch aX
theorem atr(b:Bf x r e 2=(o w,Q)):i_ x w:=je b fun hx b=>dW b fun d nh aG b=>F9 aG fun gl gY cx=>je b fun hd b=>r6 b fun y o' b=>mT b fun aX H L=>by
 repeat clear b
 obtain rfl:=cx;obtain rfl:=L;obtain⟨p,d⟩:=d;rcases p;·exact nomatch gY
 ·have aH:=(Jb d e aX).1;refine uZ 7 r5 e rfl rfl rfl _ ch b6 hx _ (TK gl aH) hd _ o' bZ (e0 ?_ (congrArg o (lU ?_ H)));·exact(Jb d e aX).2.1
  ·exact congrArg (fun G:Int=>((184+fV e,(r:Int),(y:Int),G,0,0):cY)) (Jb d e aX).2.2
theorem atC(b:yh x r e 2=(o w,Q)):i_ x w:=je b fun hx b=>r6 b fun y gl b=>mT b fun aX H L=>by
 repeat clear b
 obtain rfl:=L;obtain rfl:=g5 aX;exact uZ 4 pC e rfl rfl rfl _ ch b6 hx _ gl bZ (e0 (tm _) (congrArg o H))
theorem atF{q:Nat}(ze:LA (x 2)=o q)(b:Bj x q r e 2=(o w,Q)):i_ x w:=RZ b fun aN b=>r6 b fun y gl b=>mT b fun aX H L=>by
 repeat clear b
 obtain rfl:=aN;obtain rfl:=L;obtain rfl:=g5 aX;exact s1 6 rfl rfl _ ch b6 _ ze _ gl bZ (e0 (tm _) (congrArg o H))
theorem atv{q:Nat}(ze:JM (x 2)=o q)(b:Bg x q r e 2=(o w,Q)):i_ x w:=je b fun hx b=>je b fun gl b=>dW b fun d Yb aK b=>F9 aK fun hd dc cU=>je b fun o' b=>je b fun Id b=>je b fun Ie b=>dW b fun k auf jk b=>je b fun Zf b=>QM b fun If qi i7 z5 Ig Ih=>by
 repeat clear b
 obtain rfl:=cU;obtain rfl:=Ig;obtain⟨p,d⟩:=d;obtain rfl:=z5;rcases p;·exact uZ 15 nL e rfl rfl rfl _ ch b6 _ ze hx gl _ (Ue hd) o' Id Ie _ (r1 jk).1 _ _ (r1 jk).2.1 rfl (r1 jk).2.2 Zf If _ qi i7 bZ (e0 (e5.2 ⟨tm _,asT e⟩) (congrArg o ((congrArg (fun d=>(195+d,_)) (LM e)).trans Ih)))
 ·exact nomatch dc
theorem atH{q:Bool×dt}(ze:LT (x 2)=o q)(b:yi x q r e 2=(o w,Q)):i_ x w:=je b fun hx b=>dW b fun k nh aG rb=>by
 repeat clear b
 obtain⟨v,ar,c2⟩:=iW ze;obtain⟨g9,d⟩:=q;exact iV rb (fun c b=>je b fun hd b=>x1 b fun L b=>r6 b fun y o' b=>x1 b fun aR b=>je b fun Id b=>r6 b fun am Ie b=>je b fun Ze b=>ip b fun jC k2=>by
  repeat clear b
  clear rb;obtain rfl:=k2;obtain rfl:g9=I:=c;obtain⟨bh,cT⟩:=e5.1 aR;obtain rfl:=g5 bh;obtain rfl:=g5 L;obtain rfl:=T4 cT;obtain rfl:=UR ar rfl;exact uZ 19 nK e rfl rfl rfl _ ch b6 c2 hx _ (r1 aG).1 _ _ (r1 aG).2.1 rfl (r1 aG).2.2 hd _ o' Id _ Ie Ze bZ (congrArg o ((congrArg (fun d=>(195+d,_)) (LM e)).trans jC))) (fun c b=>QM b fun If qi i7 z5 Ig Ih=>by
  repeat clear b
  clear rb;obtain rfl:g9=C:=c;obtain rfl:=z5;obtain rfl:=Ig;obtain rfl:=UR ar rfl;exact uZ 17 pD e rfl rfl rfl _ ch b6 c2 hx _ (r1 aG).1 _ _ (r1 aG).2.1 rfl (r1 aG).2.2 If _ qi i7 bZ (e0 (tm _) (congrArg o ((congrArg (fun d=>(195+d,_)) (LM e)).trans Ih))))
theorem atA(b:Bi x r e 2=(o w,Q)):i_ x w:=je b fun hx b=>dW b fun l nh aG b=>je b fun hd b=>mT b fun aX H L=>by
 repeat clear b
 obtain rfl:=L;rcases e;·exact s1 22 rfl rfl _ ch b6 hx _ _ rfl rfl aG hd bZ (congrArg o H)
 ·exact nomatch aX
theorem atB(b:(cl (hk x e 2) fun y i=>(o ((184+fV e,(r:Int),(y:Int),0,0,0):cY),i))=(o w,Q)):i_ x w:=r6 b fun y hx b=>ip b fun H L=>by
 repeat clear b
 obtain rfl:=L;refine uZ 0 qR e rfl rfl rfl _ ch _ (Qr b6) _ hx bZ (congrArg o (lU ?_ H));rcases e<;>rfl
theorem ats(b:qI x r e 2=(o w,Q)):i_ x w:=dW b fun l v bs b=>K3 bs fun s hx dG=>by
 have kw:bd .f (x 2)=C:=by
  rcases z:bd .i (x 2);·rw[z]at hx;exact congrArg (bd .f) hx
  ·exact congrArg (bd .f) (jL z)
 exact iV b (fun c b=>mT b fun aX H L=>by
  repeat clear b
  obtain rfl:=L;obtain⟨aN,a3⟩:=e5.1 aX;rcases e;·
   have cO:mE x (fa 64) 2 (BH (bd .i (x 2)) l) v:=by
    rw[dG];rcases z:bd .i (x 2);·rw[z]at hx a3;exact .b s l hx a3
    ·rw[z]at hx a3;exact .c s l (jL z) hx a3
   exact s1 21 rfl rfl _ ch b6 _ _ rfl kw (ve cO) (jL c) bZ (congrArg o H)
  ·exact nomatch aN) (fun c b=>dW b fun l nh aG b=>ip b fun H L=>by
  repeat clear b
  obtain rfl:=L;exact uZ 2 pA e rfl rfl (show(bd .c (x 1)&&bd .f (x 2))=C by rw[kw];exact qX _) _ ch _ (Qr b6) _ _ rfl rfl aG bZ (congrArg o H))
theorem atD(b:r0 x r e 2=(o w,Q)):i_ x w:=iV b (fun _ b=>atx ch b6 bZ b) fun _ b=>iV b (fun _ b=>atr ch b6 bZ b) fun _ b=>iV b (fun _ b=>atC ch b6 bZ b) fun _ b=>KV b (fun _ c b=>atF ch b6 bZ c b) fun b=>KV b (fun _ c b=>atv ch b6 bZ c b) fun b=>KV b (fun _ c b=>atH ch b6 bZ c b) fun b=>iV b (fun _ b=>atA ch b6 bZ b) fun _ b=>iV b (fun _ b=>atB ch b6 bZ b) fun _ b=>ats ch b6 bZ b
end
theorem att(b:yf x 0=(o w,Q))(bZ:(x Q).isSome=C):i_ x w:=dW b fun t wl bs b=>Lh bs fun ch dG=>by obtain rfl:=dG;exact iV b (fun c b=>atD ch (jL c) bZ b) fun c b=>yd b fun q aG b=>dW b fun y nh aK b=>ip b fun H L=>TW aK (fun z gl hd o'=>by
 repeat clear b
 obtain rfl:=hd;obtain rfl:=L;obtain rfl:=o';exact xV 0 qR t.1 rfl rfl rfl ((nD ch).trans ((s4 aG).trans ((nD gl).trans ((pp bZ).trans (congrArg o H)))))) (fun l gl hd o'=>by
 repeat clear b
 obtain rfl:=o';obtain rfl:=L;exact xV 2 pA t.1 rfl rfl (show(bd .c (x 1)&&bd .f (x 2))=C by rw[show bd .c (x 1)=C from c];rfl) ((nD ch).trans ((s4 aG).trans ((J7 rfl hd).trans ((pp bZ).trans (congrArg o H))))))
theorem atn(c:fW x=o w):i_ x w:=aoI c fun Q b bZ=>iV b (fun c b=>atw c b bZ) fun _ b=>iV b (fun c b=>atp b bZ) fun _ b=>iV b (fun c b=>atq b bZ) fun _ b=>iV b (fun c b=>atu c b bZ) fun _ b=>iV b (fun c b=>KN b fun b=>aty b bZ) fun _ b=>iV b (fun c b=>KN b fun b=>atE b bZ) fun _ b=>KN b fun b=>att b bZ
theorem aje{y:dp}{p:List dp}(aW:y∈p)(c:eA x y=o w):∃E,rQ x p=o E:=by induction p with|nil=>exact nomatch aW|cons g p ak=>
 show∃E,Fd (eA x g) (rQ x p)=o E;rcases gQ.1 aW with rfl|aW;·exact⟨w,by rw[c];rfl⟩
 ·obtain⟨E,cN⟩:=ak aW;rcases eA x g with _|d;·exact⟨E,cN⟩
  ·exact⟨d,rfl⟩
theorem f9{g:dp}{p:List dp}(c:rQ x (g::p)=o w)(u:eA x g=o w→R)(j4:rQ x p=o w→R):R:=by
 have c:Fd (eA x g) (rQ x p)=o w:=c;rcases b:eA x g with _|d;·rw[b]at c;exact j4 c
 ·rw[b]at c;exact u (b.trans c)
theorem ahg(c:mL x=o w):fW x=o w:=f9 c (DD _) fun c=>f9 c (DD _) fun c=>f9 c (DC _) fun c=>f9 c (DC _) fun c=>f9 c (DJ _) fun c=>f9 c (DJ _) fun c=>f9 c OV fun c=>f9 c (DK _) fun c=>f9 c (DK _) fun c=>f9 c O0 fun c=>f9 c OZ fun c=>f9 c O4 fun c=>f9 c O3 fun c=>f9 c (DI _) fun c=>f9 c (DI _) fun c=>f9 c (DF _) fun c=>f9 c (DF _) fun c=>f9 c (DL _) fun c=>f9 c (DL _) fun c=>f9 c (DE _) fun c=>f9 c (DE _) fun c=>f9 c O5 fun c=>f9 c O2 fun c=>f9 c OU fun c=>f9 c O1 fun c=>f9 c OW fun c=>f9 c OX fun c=>f9 c OY fun c=>f9 c (DH _) fun c=>f9 c (DH _) fun c=>f9 c (DG _) fun c=>f9 c (DG _) fun c=>nomatch c
theorem KY(x:gn):fW x=mL x:=by
 rcases b:mL x with _|w;·
  rcases dh:fW x with _|w;·rfl
  ·obtain⟨y,aW,c⟩:=atn dh;obtain⟨E,cN⟩:=aje aW c;exact nomatch b.symm.trans cN
 ·exact ahg b
end
end
section
open PySem
def atm(m:Nat):List Nat:=an (bR m 64) [54,52] (an (bR m 16) [49,54] [51,50])
def kf(k:dJ):List Nat:=match k with|.b v=>v.b|.c e=>[an e 119 114]|.e q _=>[q]|.d z m=>an z 126 35::atm m
def kh(y:dp):M:=.f (.c y.c::y.b.map fun k=>.c (kf k))
theorem Ur:b_ ab 111 10 [] (.ok (.f (e1.map kh))):=fun r f=>by kernel_rfl
noncomputable def rW(t:Option Nat):M:=.b (co t (fun l=>(l:Int)) (-1))
theorem QO(r:Nat)(f:af):eI.map (fun s=>bp ab (r+5) 114 [.b (.c s.bT)] f)=eI.map fun s=>o (.ok (.b (rW (Bc s))),f):=by kernel_rfl
theorem aoa(r:Nat)(f:af):bp ab (r+5) 114 [.b (.c [])] f=o (.ok (.b (.b (-1))),f):=by kernel_rfl
noncomputable def x6(x:List Nat)(e:Nat)(bP:List Nat)(l:Nat)(G:Option K):List (Option K):=[o (.b (.c x)),o (.b (.b e)),o (.b (.c bP)),o (.b (.b l)),G]
theorem anX:(de 10).map (fun F=>bI .NotIn [] (.b (.c [ce F])) (.b (.c (ot.take 10))))=(de 10).map fun _=>o C:=by kernel_rfl
theorem anY:(de 16).map (fun F=>bI .NotIn [] (.b (.c [ce F])) (.b (.c (ot.take 16))))=(de 16).map fun _=>o C:=by kernel_rfl
theorem anZ(c:Bool){F:Nat}(aI:F<hP c):bI .NotIn [] (.b (.c [ce F])) (.b (.c (ot.take (hP c))))=o C:=by
 rcases c;·exact a7 anX (gc.2 aI)
 ·exact a7 anY (gc.2 aI)
theorem amQ(z:Nat)(c:Bool){F l:Nat}(aI:F<hP c)(bE:l<2^900)(x bP:List Nat)(G:Option K):fG (g0 (bp ab z) ab.b [] (.b 4) (.b (.c [ce F])) (x6 x (hP c) bP l G) []) (dK (bp ab z) ab.b [] Fo)=o (.b (x6 x (hP c) bP (l*hP c+F) (o (.b (.c [ce F])))) []):=by
 have H:jM (bp ab z) .b (.b (.c ot)) .lC [.b (.c [ce F])] []=o (.ok (.b (.b F)),[]):=by show cI ((((jf ot [ce F]).map fun i=>M.b (i:Nat)).map K.b)) []=_;rw[QS (fg aI (w5 c))];rfl
 have bh:fF .Mult (.b (.b (hP c))) (.b (.b l))=o (.b (l*hP c:Nat)):=(if_pos ⟨gR (w5 c) (fg (by decide:16<2^5) (sa (by decide) (by decide))),lW bE (vW (by decide) (by decide))⟩).trans (congrArg (fun d:Nat=>o (M.b d)) (Nat.mul_comm ..));exact fX 0 [B.r (yp ot (hP c) (by decide)),B.i (anZ c aI),B.q bh,B.s H] z (by kernel_rfl)
theorem amP(z:Nat)(c:Bool)(x bP:List Nat)(p:List Nat):∀l v G,(∀F∈p,F<hP c)→l<16^v→v+p.length≤90→∃gk,jd (fun dF A f=>fG (g0 (bp ab z) ab.b [] (.b 4) (.b dF) A f) (dK (bp ab z) ab.b [] Fo)) (p.map JC) (x6 x (hP c) bP l G) []=o (.b (x6 x (hP c) bP (pG (hP c) p l) gk) []):=by induction p with|nil=>exact fun l v G _ _ _=>⟨G,rfl⟩|cons F p ak=>intro l v G aw bE ar;have aI:=aw F (dY ..);obtain⟨gk,b⟩:=ak (l*hP c+F) (v+1) _ (fun d aH=>aw d (e6 _ aH)) (Tn aI (w5 c) bE) (bt (ff (GI v _)) ar);refine⟨gk,?_⟩;have Ic:l<2^900:=fg bE (bt (sa (by decide) (bt (ho ..) ar)) (bt (ff (Nat.pow_mul 2 4 90).symm) (sa (by decide) (by decide))));exact(congrArg (fun n=>h6 n _) (amQ z c aI Ic x bP G)).trans b
theorem amI(z:Nat)(c:Bool)(x:List Nat){p:List Nat}(aI:∀F∈p,F<hP c)(aw:p.length≤90):∃G,dK (bp ab z) ab.b [] (.i C (.b 4) (.c 2) Fo) (x6 x (hP c) (p.map ce) 0 U) []=o (.b (x6 x (hP c) (p.map ce) (pG (hP c) p 0) G) []):=by obtain⟨G,b⟩:=amP z c x (p.map ce) p 0 0 U aI (by decide) (bt (ff (q0 _)) aw);exact⟨G,(rO rfl (R3 (fun F aH=>fg (aI F aH) (w5 c)) aw)).trans b⟩
theorem adC{s:aV}(c:s.d9):b_ ab 114 5 [.b (.c s.bT)] (.ok (rW (Bc s))):=fun r f=>by
 rcases s with⟨e,z⟩|⟨e,l⟩|v;·exact a7 (QO r f) (mh c)
 ·have aw:=tc e c;obtain⟨G,b⟩:=amI (r+4) e (aV.en e l).bT (rN (mH e) l) aw;rw[Ju (mH e) l]at b;have jB:=EN (s:=.en e l) c;have dG:=qy (Ed e l) [];have jp:=yp (aV.en e l).bT 2 jB;rcases e;·have cx:=qy (Js (rN (mH C) l)) [];exact iX 5 [B.r jp,B.i cx,B.i dG,B.v b] r (by kernel_rfl)
  ·have ul:=TR (aV.en I l).bT 2 jB;exact iX 5 [B.r jp,B.r ul,B.i dG,B.v b] r (by kernel_rfl)
 ·exact a7 (QO r f) (mg c)
theorem PJ{n:Option aV}(c:jg n):b_ ab 114 5 [.b (.c (dq n))] (.ok (rW (mR n))):=by
 rcases n with _|s;·exact aoa
 ·exact adC (c s rfl)
def vs(e:Bool)(n:Option aV):Option Nat:=(py n).bind fun t=>an (t.1==e) (o t.2) U
theorem JD(r:Nat)(p:List M):d8.map (fun e=>(U::eI.map o).map fun n=>bp ab (r+5) 113 [.b (.c (dq n)),.b (.c [an e 119 114])] [.b p])=d8.map fun e=>(U::eI.map o).map fun n=>o (.ok (.b (rW (vs e n))),[.b p]):=by kernel_rfl
def Bs(e:Bool):List (List Nat):=(de 11).map fun r=>(aV.fT e r).bT
theorem apf:d8.map (fun e=>(Bs e).map fun y=>lN y j9)=d8.map fun e=>(Bs e).map fun _=>C:=by kernel_rfl
theorem apg:d8.map (fun e=>(Bs e).all kP)=d8.map fun _=>I:=by kernel_rfl
theorem S5(e c:Bool)(l:Nat){f:af}(e9:aV.d9 (.en c l)):bI .In f (.b (.c (aV.en c l).bT)) (.b (.f ((Bs e).map .c)))=o C:=by refine(D_ (Bs e) (yr (n:=o (.en c l)) fun _ b=>aJ b▸e9) (a7 apg (hB e))).trans (congrArg o (List.any_eq_false.2 fun y aW b=>?_));obtain⟨F,t,aI,aG⟩:=qG c l;have aK:lN y j9=I:=(congrArg (fun y=>lN y j9) ((of_decide_eq_true b).trans aG)).trans (bw (Ec aI)).2;exact nR (aK.symm.trans (a7 (a7 apf (hB e)) aW))
theorem adD(e:Bool){n:Option aV}(c:jg n)(p:List M):dH ab 113 5 [.b (.c (dq n)),.b (.c [an e 119 114])] [.b p] (o (.ok (.b (rW (vs e n))),[.b p])):=fun r=>by
 rcases n with _|⟨oW,z⟩|⟨s,l⟩|v;·exact a7 (a7 (JD r p) (hB e)) (dY ..)
 ·exact a7 (a7 (JD r p) (hB e)) (e6 _ (pO (mh (c _ rfl))))
 ·rcases e;·exact iX 5 [B.i (S5 C s l (f:=[.b p,.d (o (.b (.c [114])))]) (c _ rfl))] r (by kernel_rfl)
  ·exact iX 5 [B.i (S5 I s l (f:=[.b p,.d (o (.b (.c [119])))]) (c _ rfl))] r (by kernel_rfl)
 ·exact a7 (a7 (JD r p) (hB e)) (e6 _ (pO (mg (c _ rfl))))
end
section
open PySem
section
variable{J:List aV}
theorem QU(p:List (List Nat)):p.all kP=I→sY (p.map .c)=o (p.map fun y=>.str ⟨y.toArray⟩):=by induction p with|nil=>exact fun _=>rfl|cons y p ak=>intro c;obtain⟨H,L⟩:=e5.1 c;show((if kP y=I then o (PyData.str ⟨y.toArray⟩)else U).bind fun F=>(sY (p.map .c)).map (F::·))=_;rw[ak L,if_pos H];rfl
def pI(J:List aV)(i:Nat):M:=d5 (J.drop i)
theorem LO(i:Nat):(J.drop i)[0]?=a_ J i:=vP
theorem UK(p:List aV):d5 p=.f ((p.map aV.bT).map .c):=congrArg M.f vS.symm
theorem TU(c:dP J)(i:Nat):((J.drop i).map aV.bT).all kP=I:=fe.2 fun y aW=>by obtain⟨s,bu,rfl⟩:=pN.1 aW;exact yr (n:=o s) fun _ b=>aJ b▸c.c s (GA bu)
theorem LN(c:dP J)(i:Nat)(f:af):bI .Eq f (.b (pI J i)) (.b (.f []))=o (!(a_ J i).isSome):=by have b:=QU _ (TU c i);show qQ ((J.drop i).map fun s=>.c s.bT) []=_;unfold qQ;rw[←LO,show((J.drop i).map fun s=>M.c s.bT)=((J.drop i).map aV.bT).map .c from vS.symm,b];rcases J.drop i with _|⟨s,p⟩<;>rfl
theorem B2(c:dP J)(i:Nat)(f:af):bI .NotEq f (.b (pI J i)) (.b (.f []))=o (a_ J i).isSome:=(congrArg (i0 (!·)) (LN c i f)).trans (congrArg o (Bool.not_not _))
theorem yB(c:dP J){i:Nat}{s:aV}(b:a_ J i=o s)(f:af):hR f (.b (pI J i)) (.b (.b 0))=o (.c s.bT):=by have aW:dP (J.drop i):=⟨bt (ff lj) (bt (Nat.sub_le ..) c.b),fun s bu=>c.c s (GA bu)⟩;exact T2 aW (Q:=0) ((LO i).trans b) f
theorem aeK{V:Type}(p:List V)(v:Nat):ij p (o (v:Int)) U=p.drop v:=by
 show(p.drop (ji p.length v)).take (p.length-ji p.length v)=_;rw[←lj,List.take_length,w_];rcases Cm v p.length with q|q;·rw[vV q]
 ·rw[Cp q,vM (df _),vM q]
theorem yC(c:dP J)(i v:Nat):hQ (.b (pI J i)) (.b (.b v)) (.b .e)=o (pI J (i+v)):=by have jB:((J.drop i).map fun s=>M.c s.bT).length≤1000:=bt (ff (dA ..)) (bt (ff lj) (bt (Nat.sub_le ..) c.b));refine(if_pos (bt jB (by decide))).trans (congrArg (fun p=>o (M.f p)) ?_);show ij ((J.drop i).map fun s=>M.c s.bT) (o (v:Int)) U=_;rw[aeK,←List.map_drop,Gi]
end
def qF(x:gn)(z:Bool)(m i:Nat):Option (Int×Nat):=an (bd .i (x i)) (co (mR (x (i+1))) (fun l=>iQ (fa m (-(l:Int))) (-(l:Int),2)) U) (an (bd .f (x i)) (an (bR m 64) U (co (mR (x (i+1))) (fun l=>iQ (fa m l) ((l:Int),2)) U)) (an z U (co (mR (x i)) (fun l=>iQ (fa m l) ((l:Int),1)) U)))
noncomputable def FI(n:Option (Int×Nat)):M:=.j [.b (co n (·.1) 0),.b (co n (fun k=>((k.2:Nat):Int)) 0)]
noncomputable def gO:List (Bool×Nat):=[(I,16),(I,32),(C,32),(C,64)]
def nF(m:Nat):Int:=an (bR m 64) (-9223372036854775808) (an (bR m 16) (-32768) (-2147483648))
def nA(m:Nat):Int:=an (bR m 64) 18446744073709551615 (an (bR m 16) 32767 2147483647)
theorem Pj(r:Nat)(f:af):gO.map (fun k=>bp ab (r+5) 115 [.b (.c (kf (.d k.1 k.2)))] f)=gO.map fun k=>o (.ok (.b (.j [.b (nF k.2),.b (nA k.2)])),f):=by kernel_rfl
theorem SO:gO.map (fun k=>(hR [] (.b (.c (kf (.d k.1 k.2)))) (.b (.b 0)),bI .Eq [] (.b (.c [an k.1 126 35])) (.b (.c [126])),bI .Eq [] (.b (.c (kf (.d k.1 k.2)))) (.b (.c [35,54,52]))))=gO.map fun k=>(o (.c [an k.1 126 35]),o k.1,o (bR k.2 64)):=by kernel_rfl
theorem JE{k:Bool×Nat}(al:k∈gO)(l:Int):fa k.2 l=(a6 (nF k.2≤l)&&a6 (l≤nA k.2)):=by
 have aS:∀{g e q:Int},e=q+1→u1 g e l=(a6 (g≤l)&&a6 (l≤q)):=fun{g e q}b=>by rw[Ey,b];exact congrArg (fun d=>a6 (g≤l)&&d) (lg.2 (by rw[decide_eq_true_iff,decide_eq_true_iff];exact Int.lt_add_one_iff))
 rcases gQ.1 al with rfl|al;·exact aS rfl
 rcases gQ.1 al with rfl|al;·exact aS rfl
 rcases gQ.1 al with rfl|al;·exact aS rfl
 rcases gQ.1 al with rfl|al;·exact aS rfl
 exact nomatch al
theorem ta(l:Nat)(f:af):bI .Lt f (.b (.b l)) (.b (.b 0))=o C:=congrArg o (decide_eq_false (oP.2 (jP l)))
theorem T1(l:Nat):fF .Sub (.b (.b 0)) (.b (.b l))=o (.b (-(l:Int))):=congrArg (fun d=>o (M.b d)) (Int.zero_sub _)
section
variable{J:List aV}(c:dP J)(i:Nat){k:Bool×Nat}(al:k∈gO)
include c al
theorem adY:b_ ab 116 8 [.b (pI J i),.b (.c (kf (.d k.1 k.2)))] (.ok (FI (qF (a_ J) k.1 k.2 i))):=by
 obtain⟨cC,L⟩:=bw (a7 SO al);obtain⟨c',fM⟩:=bw L;have v9:b_ ab 115 5 [.b (.c (kf (.d k.1 k.2)))] (.ok (.j [.b (nF k.2),.b (nA k.2)])):=fun r f=>a7 (Pj r f) al;have fu:=JE al;have dG:=B2 c i [];have cx:=B2 c (i+1) [];have fB:=yC c i 1;have aI:=fun s(b:a_ J i=o s)=>yB c b [];have p':=fun s(b:a_ J (i+1)=o s)=>yB c b [];have zN:=PJ (gP c i);have l3:=PJ (gP c (i+1));have sv:=Fj (gP c i) [];have rc:bI .NotEq [] (.b (.c [])) (.b (.c []))=o C:=rfl;have aG:bI .Eq [] (.b (.c [43])) (.b (.c []))=o C:=rfl;have aK:bI .Eq [] (.b (.c [43])) (.b (.c [43]))=o I:=rfl;unfold qF;generalize pI J i=U' at*;generalize pI J (i+1)=atL at*;generalize kf (.d k.1 k.2)=HZ at*;obtain⟨z,m⟩:=k;rcases bs:a_ J i with _|s;·
  rw[bs]at dG;rcases z;·exact ck 8 [B.i dG,B.l cC,B.i c',B.i rc,B.i dG] fun z f=>by kernel_rfl
  ·exact ck 8 [B.i dG,B.l cC,B.i c'] fun z f=>by kernel_rfl
 ·have aI:=aI s bs;rw[bs]at dG zN sv;rcases eu:bd .i (o s);·
   rcases gi:bd .f (o s);·
    have sv:bI .In [] (.b (.c s.bT)) (.b (.j [.c [43],.c [45]]))=o C:=sv.trans (by unfold im;rw[eu,gi];rfl);rcases z;·
     generalize mR (o s)=zO at zN⊢;rcases zO with _|l;·exact ck 8 [B.i dG,B.l aI,B.i sv,B.l cC,B.i c',B.i rc,B.i dG,B.l aI,B.j zN] fun z f=>by kernel_rfl
     ·show b_ _ _ _ _ (.ok (FI (iQ (fa m l) ((l:Int),1))));rw[fu];rcases g:a6 (nF m≤(l:Int));·exact ck 8 [B.i dG,B.l aI,B.i sv,B.l cC,B.i c',B.i rc,B.i dG,B.l aI,B.j zN,B.i (ta l []),B.j v9,B.i (kM g [])] fun z f=>by kernel_rfl
      ·rcases e:a6 ((l:Int)≤nA m)<;>exact ck 8 [B.i dG,B.l aI,B.i sv,B.l cC,B.i c',B.i rc,B.i dG,B.l aI,B.j zN,B.i (ta l []),B.j v9,B.i (kM g []),B.i (kM e [])] fun z f=>by kernel_rfl
    ·exact ck 8 [B.i dG,B.l aI,B.i sv,B.l cC,B.i c'] fun z f=>by kernel_rfl
   ·obtain rfl:=aJ (jL gi);rcases Dm:bR m 64;·
     rw[Dm]at fM;rcases b6:a_ J (i+1)with _|hv;·rw[b6]at cx;exact ck 8 [B.i dG,B.l aI,B.i aG,B.i aK,B.i fM,B.r fB,B.i cx] fun z f=>by kernel_rfl
     ·have p':=p' hv b6;rw[b6]at cx l3;generalize mR (o hv)=zO at l3⊢;rcases zO with _|l;·exact ck 8 [B.i dG,B.l aI,B.i aG,B.i aK,B.i fM,B.r fB,B.i cx,B.l p',B.j l3] fun z f=>by kernel_rfl
      ·show b_ _ _ _ _ (.ok (FI (iQ (fa m l) ((l:Int),2))));rw[fu];rcases g:a6 (nF m≤(l:Int));·exact ck 8 [B.i dG,B.l aI,B.i aG,B.i aK,B.i fM,B.r fB,B.i cx,B.l p',B.j l3,B.i (ta l []),B.j v9,B.i (kM g [])] fun z f=>by kernel_rfl
       ·rcases e:a6 ((l:Int)≤nA m)<;>exact ck 8 [B.i dG,B.l aI,B.i aG,B.i aK,B.i fM,B.r fB,B.i cx,B.l p',B.j l3,B.i (ta l []),B.j v9,B.i (kM g []),B.i (kM e [])] fun z f=>by kernel_rfl
    ·rw[Dm]at fM;exact ck 8 [B.i dG,B.l aI,B.i aG,B.i aK,B.i fM] fun z f=>by kernel_rfl
  ·obtain rfl:=aJ (jL eu);rcases b6:a_ J (i+1)with _|hv;·rw[b6]at cx;exact ck 8 [B.i dG,B.l aI,B.r fB,B.i cx] fun z f=>by kernel_rfl
   ·have p':=p' hv b6;rw[b6]at cx l3;generalize mR (o hv)=zO at l3⊢;rcases zO with _|l;·exact ck 8 [B.i dG,B.l aI,B.r fB,B.i cx,B.l p',B.j l3] fun z f=>by kernel_rfl
    ·show b_ _ _ _ _ (.ok (FI (iQ (fa m (-(l:Int))) (-(l:Int),2))));rw[fu];rcases g:a6 (nF m≤-(l:Int));·exact ck 8 [B.i dG,B.l aI,B.r fB,B.i cx,B.l p',B.j l3,B.i (ta l []),B.q (T1 l),B.j v9,B.i (kM g [])] fun z f=>by kernel_rfl
     ·rcases e:a6 (-(l:Int)≤nA m)<;>exact ck 8 [B.i dG,B.l aI,B.r fB,B.i cx,B.l p',B.j l3,B.i (ta l []),B.q (T1 l),B.j v9,B.i (kM g []),B.i (kM e [])] fun z f=>by kernel_rfl
end
end
section
open PySem
noncomputable def h4:List (Nat×List (aF×Nat)×Nat):=[(65,jb,17),(79,jN,9),(76,lP,11),(70,iT,11),(67,ii,14),(117,ef,4),(115,hl,3)]
noncomputable def j'(b:Nat×List (aF×Nat)×Nat):List (List Nat):=(de b.2.2).map fun i=>match b.2.1.find? fun v=>bR v.2 i with|some v=>aF.b v.1|none=>[46]
noncomputable def x7:List aF:=[.d,.e,.g,.c,.j,.i,.s,.k,.q,.r,.l,.v,.u,.p,.t,.y,.D,.A,.z]
noncomputable def Jo(g e:List (aF×Nat)):Decidable (g=e):=(inferInstance:DecidableEq (List (Nat×Nat))) g e
def pe(k:dJ):Prop:=match k with|.b v=>v∈x7|.c _=>True|.e q p=>∃r,(q,p,r)∈h4|.d z m=>(z,m)∈gO
noncomputable def E'(k:dJ):Bool:=match k with|.b v=>x7.any fun Q=>bR Q v|.c _=>I|.e q p=>h4.any fun b=>bR b.1 q&& @a6 _ (Jo b.2.1 p)|.d z m=>gO.any fun b=>(b.1==z)&&bR b.2 m
theorem aoA:e1.map (fun y=>y.b.all E')=e1.map fun _=>I:=by kernel_rfl
theorem S_{k:dJ}(c:E' k=I):pe k:=by
 rcases k with v|e|⟨q,p⟩|⟨z,m⟩;·obtain⟨Q,bZ,b⟩:=tC.1 (show(x7.any fun Q=>bR Q v)=I from c);exact g5 b▸bZ
 ·exact trivial
 ·obtain⟨⟨es,cG,r⟩,bZ,b⟩:=tC.1 (show(h4.any fun b=>bR b.1 q&& @a6 _ (Jo b.2.1 p))=I from c);obtain⟨aG,aK⟩:=e5.1 b;obtain rfl:es=q:=g5 aG;obtain rfl:cG=p:= @of_decide_eq_true _ (Jo cG p) aK;exact⟨r,bZ⟩
 ·obtain⟨⟨eX,ae⟩,bZ,b⟩:=tC.1 (show(gO.any fun b=>(b.1==z)&&bR b.2 m)=I from c);obtain⟨aG,aK⟩:=e5.1 b;obtain rfl:eX=z:=eq_of_beq aG;obtain rfl:ae=m:=g5 aK;exact bZ
theorem Fa{y:dp}(aW:y∈e1):∀k∈y.b,pe k:=fun k al=>S_ (fe.1 (a7 aoA aW) k al)
noncomputable def FE:M:=.j [.c [114],.c [119]]
theorem EQ(r:Nat)(f:af):x7.map (fun v:aF=>(bp ab (r+6) 112 [.b (.c v.b)] f,(hR f (.b (.c v.b)) (.b (.b 0)),bI .In f (.b (.c (v.b.take 1))) (.b (.c [35,126]))),bI .In f (.b (.c v.b)) (.b FE),eS v eQ))=x7.map fun v:aF=>(o (.ok (.b (.f [])),f),(o (.c (v.b.take 1)),o C),o C,I):=by kernel_rfl
theorem Lj(r:Nat)(f:af):d8.map (fun e=>(bp ab (r+6) 112 [.b (.c [an e 119 114])] f,bI .In f (.b (.c [an e 119 114])) (.b (.c [35,126])),bI .In f (.b (.c [an e 119 114])) (.b FE)))=d8.map fun e=>(o (.ok (.b (.f [])),f),o C,o I):=by kernel_rfl
theorem JY(r:Nat)(f:af):h4.map (fun b=>(bp ab (r+6) 112 [.b (.c [b.1])] f,bI .In f (.b (.c [b.1])) (.b (.c [35,126])),bI .In f (.b (.c [b.1])) (.b FE),bI .NotEq f (.b (.f ((j' b).map .c))) (.b (.f []))))=h4.map fun b=>(o (.ok (.b (.f ((j' b).map .c))),f),o C,o C,o I):=by kernel_rfl
theorem aoo:gO.map (fun k=>bI .In [] (.b (.c [an k.1 126 35])) (.b (.c [35,126])))=gO.map fun _=>o I:=by kernel_rfl
theorem ahe:(U::eI.map o).map (fun n=>a6 (dq n=[46]))=(U::eI.map o).map fun _=>C:=by kernel_rfl
theorem Rh:h4.map (fun b=>(U::eI.map o).map fun n=>(bI .NotIn [] (.b (.c (dq n))) (.b (.f ((j' b).map .c))),s2 (.c (dq n)) ((j' b).map .c)))=h4.map fun b=>(U::eI.map o).map fun n=>(o (!(cZ b.2.1 n).isSome),cZ b.2.1 n):=by kernel_rfl
theorem ajA:h4.map (fun b=>((j' b).all kP,(j' b).all fun y=>!lN y j9))=h4.map fun _=>(I,I):=by kernel_rfl
theorem KT(c:Bool)(l:Nat):lN (aV.en c l).bT j9=I:=by obtain⟨F,t,aI,aG⟩:=qG c l;exact(congrArg (fun y=>lN y j9) aG).trans (bw (Ec aI)).2
theorem ahf{n:Option aV}(aj:jg n)(f:af):bI .Eq f (.b (.c (dq n))) (.b (.c [46]))=o C:=qy (ye (P:=fun n=>a6 (dq n=[46])=C) aj (fun _ c=>a7 ahe c) fun e l=>decide_eq_false fun b=>by have:=KT e l;rw[show(aV.en e l).bT=[46]from b]at this;exact nomatch this) f
theorem ajz{b:Nat×List (aF×Nat)×Nat}(aU:b∈h4){n:Option aV}(aj:jg n)(f:af):bI .NotIn f (.b (.c (dq n))) (.b (.f ((j' b).map .c)))=o (!(cZ b.2.1 n).isSome):=ye (P:=fun n=>jg n→bI .NotIn f (.b (.c (dq n))) (.b (.f ((j' b).map .c)))=o (!(cZ b.2.1 n).isSome)) aj (fun _ c _=>(bw (a7 (a7 Rh aU) c)).1) (fun e l aj=>by obtain⟨H,L⟩:=bw (a7 ajA aU);refine congrArg (i0 (!·)) ((D_ (j' b) (yr aj) H).trans (congrArg o (List.any_eq_false.2 fun y aW u=>?_)));have aR:=fe.1 L y aW;rw[show y=(aV.en e l).bT from of_decide_eq_true u,KT e l]at aR;exact nomatch aR) aj
theorem ajy{b:Nat×List (aF×Nat)×Nat}(aU:b∈h4){n:Option aV}(aj:jg n){q:Nat}(c:cZ b.2.1 n=o q):s2 (.c (dq n)) ((j' b).map .c)=o q:=ye (P:=fun n=>cZ b.2.1 n=o q→s2 (.c (dq n)) ((j' b).map .c)=o q) aj (fun _ a9 c=>(bw (a7 (a7 Rh aU) a9)).2.trans c) (fun _ _ c=>nomatch c) c
end
section
open PySem
def oJ(x:gn)(k:dJ)(i:Nat):Option (List Int×Nat):=match k with|.b v=>an (bd v (x i)) (o ([],1)) U|.c e=>co (vs e (x i)) (fun r=>o ([(r:Int)],1)) U|.e _ p=>co (cZ p (x i)) (fun q=>o ([(q:Int)],1)) U|.d z m=>co (qF x z m i) (fun u=>o ([u.1],u.2)) U
theorem aol{x:gn}{z:Bool}{m i:Nat}{u:Int×Nat}(b:qF x z m i=o u):u.2=1∨u.2=2:=by
 unfold qF at b;generalize bd .i (x i)=e at b;generalize bd .f (x i)=q at b;rcases e;·
  rcases q;·exact x0 b fun _ b=>vg b fun l _ b=>kG b fun _ b=>Or.inl (b▸rfl)
  ·exact x0 b fun _ b=>vg b fun l _ b=>kG b fun _ b=>Or.inr (b▸rfl)
 ·exact vg b fun l _ b=>kG b fun _ b=>Or.inr (b▸rfl)
def tq(J:List aV)(i:Nat)(dT:M)(k G m ad l:Option K):List (Option K):=[o (.b (pI J i)),o (.b dT),o (.c 0),k,G,m,ad,l]
theorem Ao(X:ea){aE:List M}(d:M)(c:aE.length<10000):jM X .c (.c 0) .jE [.b d] [.b aE]=o (.ok (.b .e),[.b (aE++[d])]):=(if_pos (lW c (by decide)):(if aE.length<cK then cW (K.b .e) ([eJ.b aE].set 0 (.b (aE++[d])))else U)=_)
theorem amx{aE:List M}(d:M)(c:aE.length<900):hR [.b (aE++[d])] (.c 0) (.b (.b (-1)))=o d:=by
 have b:(aE++[d]).length=aE.length+1:=fy;have aG:ox (-1) (aE++[d]).length=(aE.length:Nat):=by rw[b];show-1+((aE.length+1:Nat):Int)=_;rw[Int.natCast_add,Int.add_comm,Int.add_assoc];exact Int.add_zero _
 have aK:hA (aE++[d]).length (-1)=o aE.length:=(if_pos (by rw[b];exact bt (kn (oQ c)) (by decide))).trans (by show(if(a6 (0≤ox (-1) (aE++[d]).length)&&a6 (ox (-1) (aE++[d]).length<(aE++[d]).length))=I then o (ox (-1) (aE++[d]).length).toNat else U)=_;rw[aG,b,decide_eq_true (jP _),decide_eq_true (pJ.2 (pR _))];rfl);show(hA (aE++[d]).length (-1)).bind ((aE++[d])[·]?)=o d;rw[aK];exact List.getElem?_concat_length
abbrev vE(z:Nat)(k:dJ)(J:List aV)(i:Nat)(dT:M)(g G m ad l:Option K)(aE:List M):Option bV:=fG (g0 (bp ab (z+8)) ab.b [] (.b 3) (.b (.c (kf k))) (tq J i dT g G m ad l) [.b aE]) (dK (bp ab (z+8)) ab.b [] Fp)
noncomputable def Pa(aE:List M)(p:List Int):List M:=match p with|[]=>aE|d::p=>aE++(d::p).map .b
theorem aab(aE:List M)(p:List Int):Pa aE p=aE++p.map .b:=by
 rcases p with _|_;·exact(hE _).symm
 ·rfl
def rE(J:List aV)(i:Nat)(dT:M)(aE:List M)(t:Option (List Int×Nat))(n:Option bV):Prop:=match t with|some u=>∃g G m ad l s,n=o (an s bV.e bV.b (tq J (i+u.2) dT g G m ad l) [.b (Pa aE u.1)])|none=>∃aO,n=o (.d (.b .e) aO)
section
variable{J:List aV}(c:dP J)(i z:Nat)(dT:M)(g G m ad l:Option K){aE:List M}(aY:aE.length<900)
include c aY
theorem aru{ku:Bool}{sz:Nat}(al:(ku,sz)∈gO):rE J i dT aE (oJ (a_ J) (.d ku sz) i) (vE z (.d ku sz) J i dT g G m ad l aE):=by
 obtain⟨cC,_⟩:=bw (a7 SO al);have c':=a7 aoo al;have fM:=adY c i al;have tW:=yC c i;have MF:∀u,qF (a_ J) ku sz i=o u→u.2=1∨u.2=2:=fun _=>aol;show rE J i dT aE (co (qF (a_ J) ku sz i) (fun u=>o ([u.1],u.2)) U) _;generalize qF (a_ J) ku sz i=n at fM MF⊢;unfold tq at*;generalize pI J i=U' at*;generalize kf (.d ku sz)=HZ at*;rcases n with _|⟨d,q⟩;·exact⟨[.b aE],fX 8 [B.l cC,B.i c',B.j fM] z (by kernel_rfl)⟩
 ·have p7:=Ao (bp ab (z+8)) (.b d) (fg aY (by decide));rcases MF _ rfl with b|b;·obtain rfl:q=1:=b;exact⟨o (.b (.c HZ)),o (.b (.b d)),o (.b (.b 1)),ad,l,I,fX 8 [B.l cC,B.i c',B.j fM,B.s p7,B.r (tW 1)] z (by kernel_rfl)⟩
  ·obtain rfl:q=2:=b;exact⟨o (.b (.c HZ)),o (.b (.b d)),o (.b (.b 2)),ad,l,I,fX 8 [B.l cC,B.i c',B.j fM,B.s p7,B.r (tW 2)] z (by kernel_rfl)⟩
theorem arw(e:Bool):rE J i dT aE (oJ (a_ J) (.c e) i) (vE z (.c e) J i dT g G m ad l aE):=by
 have mu:b_ ab 112 6 [.b (.c [an e 119 114])] (.ok (.f [])):=fun r f=>(bw (a7 (Lj r f) (hB e))).1;obtain⟨cC,c'⟩:=bw (bw (a7 (Lj 0 [.b aE]) (hB e))).2;have dG:=B2 c i [.b aE];have aI:=fun s(b:a_ J i=o s)=>yB c b [.b aE];have uj:=adD e (gP c i) aE;have fB:=yC c i 1;have p7:=fun d=>Ao (bp ab (z+8)) (aE:=aE) (rW d) (fg aY (by decide));have tW:=fun d=>amx (aE:=aE) (rW d) aY;show rE J i dT aE (co (vs e (a_ J i)) (fun r=>o ([(r:Int)],1)) U) _;generalize vs e (a_ J i)=n at uj⊢;rcases bs:a_ J i with _|s;·
  rw[bs]at dG uj;rcases n with _|r;·exact⟨[.b (aE++[rW U])],fX 8 [B.i cC,B.i dG,B.j mu,B.i c',B.p uj,B.s (p7 U),B.l (tW U)] z (by kernel_rfl)⟩
  ·exact⟨o (.b (.c [an e 119 114])),G,m,o (.b (.c [])),o (.b (.f [])),C,fX 8 [B.i cC,B.i dG,B.j mu,B.i c',B.p uj,B.s (p7 (o r)),B.l (tW (o r)),B.i (ta r [.b (aE++[.b r])]),B.r fB] z (by kernel_rfl)⟩
 ·have aI:=aI s bs;rw[bs]at dG uj;rcases n with _|r;·exact⟨[.b (aE++[rW U])],fX 8 [B.i cC,B.i dG,B.l aI,B.j mu,B.i c',B.p uj,B.s (p7 U),B.l (tW U)] z (by kernel_rfl)⟩
  ·exact⟨o (.b (.c [an e 119 114])),G,m,o (.b (.c s.bT)),o (.b (.f [])),C,fX 8 [B.i cC,B.i dG,B.l aI,B.j mu,B.i c',B.p uj,B.s (p7 (o r)),B.l (tW (o r)),B.i (ta r [.b (aE++[.b r])]),B.r fB] z (by kernel_rfl)⟩
theorem ars{v:aF}(al:v∈x7):rE J i dT aE (oJ (a_ J) (.b v) i) (vE z (.b v) J i dT g G m ad l aE):=by
 have mu:b_ ab 112 6 [.b (.c v.b)] (.ok (.f [])):=fun r f=>(bw (a7 (EQ r f) al)).1;obtain⟨H,L⟩:=bw (bw (a7 (EQ 0 [.b aE]) al)).2;obtain⟨dS,cC⟩:=bw H;obtain⟨c',ar⟩:=bw L;have dG:=B2 c i [.b aE];have aI:=fun s(b:a_ J i=o s)=>yB c b [.b aE];have fB:=yC c i 1;have rc:bI .NotEq [.b aE] (.b (.f [])) (.b (.f []))=o C:=rfl;have ug:=tb (s7 c i (cF ar)) [.b aE];show rE J i dT aE (an (bd v (a_ J i)) (o ([],1)) U) _;generalize bd v (a_ J i)=n at ug⊢;rcases bs:a_ J i with _|s;·
  rw[bs]at dG ug;rcases n;·exact⟨[.b aE],fX 8 [B.l dS,B.i cC,B.i dG,B.j mu,B.i c',B.i rc,B.i ug] z (by kernel_rfl)⟩
  ·exact⟨o (.b (.c v.b)),G,m,o (.b (.c [])),o (.b (.f [])),C,fX 8 [B.l dS,B.i cC,B.i dG,B.j mu,B.i c',B.i rc,B.i ug,B.r fB] z (by kernel_rfl)⟩
 ·have aI:=aI s bs;rw[bs]at dG ug;rcases n;·exact⟨[.b aE],fX 8 [B.l dS,B.i cC,B.i dG,B.l aI,B.j mu,B.i c',B.i rc,B.i ug] z (by kernel_rfl)⟩
  ·exact⟨o (.b (.c v.b)),G,m,o (.b (.c s.bT)),o (.b (.f [])),C,fX 8 [B.l dS,B.i cC,B.i dG,B.l aI,B.j mu,B.i c',B.i rc,B.i ug,B.r fB] z (by kernel_rfl)⟩
theorem arr{q:Nat}{p:List (aF×Nat)}(al:pe (.e q p)):rE J i dT aE (oJ (a_ J) (.e q p) i) (vE z (.e q p) J i dT g G m ad l aE):=by
 obtain⟨r,al⟩:=al;have mu:b_ ab 112 6 [.b (.c [q])] (.ok (.f ((j' (q,p,r)).map .c))):=fun r f=>(bw (a7 (JY r f) al)).1;obtain⟨cC,L⟩:=bw (bw (a7 (JY 0 [.b aE]) al)).2;obtain⟨c',fM⟩:=bw L;have dG:=B2 c i [.b aE];have aI:=fun s(b:a_ J i=o s)=>yB c b [.b aE];have fB:=yC c i 1;have wt:=ahf (gP c i) [.b aE];have lv:=ajz al (gP c i) [.b aE];have Wi:=fun d(b:cZ p (a_ J i)=o d)=>ajy al (gP c i) b;have p7:=fun d=>Ao (bp ab (z+8)) (aE:=aE) (.b d) (fg aY (by decide));show rE J i dT aE (co (cZ p (a_ J i)) (fun q=>o ([(q:Int)],1)) U) _;have zl:∀d,cZ p (a_ J i)=o d→jM (bp ab (z+8)) .c (.b (.f ((j' (q,p,r)).map .c))) .lC [.b (.c (dq (a_ J i)))] [.b aE]=o (.ok (.b (.b d)),[.b aE]):=fun d b=>by
  show((if((j' (q,p,r)).map M.c).length≤cK then cI ((s2 (.c (dq (a_ J i))) ((j' (q,p,r)).map .c)).map fun i=>K.b (.b (i:Nat))) [.b aE]else U))=_;rw[Wi d b];refine if_pos ?_;have:h4.map (fun b=>gd ((j' b).map M.c).length 100000)=h4.map fun _=>I:=by kernel_rfl
  exact cF (a7 this al)
 have lv:bI .NotIn [.b aE] (.b (.c (dq (a_ J i)))) (.b (.f ((j' (q,p,r)).map .c)))=o (!(cZ p (a_ J i)).isSome):=lv;generalize cZ p (a_ J i)=n at lv zl⊢;generalize(j' (q,p,r)).map M.c=ft at*;rcases bs:a_ J i with _|s;·
  rw[bs]at dG wt lv zl;rcases n with _|d;·exact⟨[.b aE],fX 8 [B.i cC,B.i dG,B.j mu,B.i c',B.i fM,B.i wt,B.i lv] z (by kernel_rfl)⟩
  ·exact⟨o (.b (.c [q])),G,m,o (.b (.c [])),o (.b (.f ft)),C,fX 8 [B.i cC,B.i dG,B.j mu,B.i c',B.i fM,B.i wt,B.i lv,B.s (zl d rfl),B.s (p7 d),B.r fB] z (by kernel_rfl)⟩
 ·have aI:=aI s bs;rw[bs]at dG wt lv zl;rcases n with _|d;·exact⟨[.b aE],fX 8 [B.i cC,B.i dG,B.l aI,B.j mu,B.i c',B.i fM,B.i wt,B.i lv] z (by kernel_rfl)⟩
  ·exact⟨o (.b (.c [q])),G,m,o (.b (.c s.bT)),o (.b (.f ft)),C,fX 8 [B.i cC,B.i dG,B.l aI,B.j mu,B.i c',B.i fM,B.i wt,B.i lv,B.s (zl d rfl),B.s (p7 d),B.r fB] z (by kernel_rfl)⟩
end
end
section
open PySem
def rY(x:gn):List dJ→Nat→Option (List Int×Nat)|[],i=>o ([],i)|k::T,i=>co (oJ x k i) (fun u=>co (rY x T (i+u.2)) (fun t=>o (u.1++t.1,t.2)) U) U
def r9(x:gn)(T:List dJ)(i:Nat):Option (List Int):=co (rY x T i) (fun t=>an (x t.2).isSome U (o t.1)) U
section
variable{dk:Type}{x:gn}{i:Nat}
theorem aom(y:Nat→Int)(q:Nat→Bool)(Q F:Nat)(bC:Int→Nat→Option dk)(cS:List Int×Nat→Option dk)(c:∀d,bC d (Q+1)=cS ([d],F)):lb (cl (ke x Q) fun l v=>hj (q l) (y l) v) bC=co (co (co (mR (x Q)) (fun l=>iQ (q l) (y l,F)) U) (fun u=>o ([u.1],u.2)) U) cS U:=by
 unfold ke;rcases mR (x Q)with _|l;·rfl
 ·show lb (hj (q l) (y l) (Q+1)) bC=co (co (iQ (q l) (y l,F)) _ U) cS U;rcases q l;·rfl
  ·exact c _
theorem aqC(k:dJ)(T:List dJ)(w:List Int→Option dk):c8 x (k::T) i w=co (oJ x k i) (fun u=>c8 x T (i+u.2) fun br=>w (u.1++br)) U:=by
 rcases k with v|e|⟨q,p⟩|⟨z,m⟩;·show lb (fo x v i) (fun _ Q=>c8 x T Q w)=co (an (bd v (x i)) (o ([],1)) U) _ U;unfold fo;rcases bd v (x i)<;>rfl
 ·show lb (hk x e i) (fun r Q=>c8 x T Q fun br=>w ((r:Int)::br))=co (co (vs e (x i)) (fun r=>o ([(r:Int)],1)) U) _ U;unfold hk oC vs;rcases py (x i)with _|⟨oW,r⟩;·rfl
  ·show lb (hj (oW==e) r (i+1)) _=co (co (an (oW==e) (o r) U) _ U) _ U;rcases oW==e<;>rfl
 ·show co (cZ p (x i)) (fun r=>c8 x T (i+1) fun br=>w ((r:Int)::br)) U=co (co (cZ p (x i)) (fun q=>o ([(q:Int)],1)) U) _ U;rcases cZ p (x i)<;>rfl
 ·show an (z&&!im (x i)) U (an (bR m 64&&bd .f (x i)) U (lb (fJ x (fa m) i) fun l Q=>c8 x T Q fun br=>w (l::br)))=co (co (qF x z m i) (fun u=>o ([u.1],u.2)) U) _ U;have cO:=fun(y:Nat→Int)Q F(c:∀d:Int,(c8 x T (Q+1) fun br=>w (d::br))=c8 x T (i+F) fun br=>w (d::br))=>aom (x:=x) y (fun l=>fa m (y l)) Q F (fun l Q=>c8 x T Q fun br=>w (l::br)) (fun u=>c8 x T (i+u.2) fun br=>w (u.1++br)) c;unfold fJ qF im;rcases eu:bd .i (x i);·
   rcases bd .f (x i);·
    rcases z;·
     rcases bR m 64;·exact lU (by kernel_rfl) ((cO (fun l=>(l:Int)) i 1 fun _=>rfl).trans (by kernel_rfl))
     ·exact lU (by kernel_rfl) ((cO (fun l=>(l:Int)) i 1 fun _=>rfl).trans (by kernel_rfl))
    ·rfl
   ·rcases bR m 64;·rcases z<;>exact lU (by kernel_rfl) ((cO (fun l=>(l:Int)) (i+1) 2 fun _=>rfl).trans (by kernel_rfl))
    ·rcases z<;>rfl
  ·have b:bd .f (x i)=C:=congrArg (bd .f) (jL eu);rw[b];rcases z<;>rcases bR m 64<;>exact lU (by kernel_rfl) ((cO (fun l=> -(l:Int)) (i+1) 2 fun _=>rfl).trans (by kernel_rfl))
theorem T9(T:List dJ):∀(i:Nat)(w:List Int→Option dk),c8 x T i w=co (r9 x T i) w U:=by induction T with|nil=>intro i w;show an (x i).isSome U (w [])=co (an (x i).isSome U (o [])) w U;rcases(x i).isSome<;>rfl|cons k T ak=>
 intro i w;rw[aqC];unfold r9;show _=co (co (co (oJ x k i) (fun u=>co (rY x T (i+u.2)) (fun t=>o (u.1++t.1,t.2)) U) U) _ U) w U;rcases oJ x k i with _|u;·rfl
 ·refine(ak (i+u.2) fun br=>w (u.1++br)).trans ?_;unfold r9;show _=co (co (co (rY x T (i+u.2)) (fun t=>o (u.1++t.1,t.2)) U) _ U) w U;rcases rY x T (i+u.2)with _|t;·rfl
  ·show co (an (x t.2).isSome U (o t.1)) _ U=co (an (x t.2).isSome U (o (u.1++t.1))) w U;rcases(x t.2).isSome<;>rfl
theorem aqD{k:dJ}{u:List Int×Nat}(b:oJ x k i=o u):u.1.length≤1:=by
 rcases k with v|e|⟨q,p⟩|⟨z,m⟩;·exact kG (e:=bd v (x i)) (G:=(([],1):List Int×Nat)) b fun _ c=>c▸jT 1
 ·exact vg b fun _ _ c=>aJ c▸df 1
 ·exact vg b fun _ _ c=>aJ c▸df 1
 ·exact vg b fun _ _ c=>aJ c▸df 1
end
section
variable{J:List aV}(c:dP J)(z:Nat)(dT:M)
include c
theorem arx(i:Nat)(g G m ad l:Option K){aE:List M}(aY:aE.length<900){k:dJ}(al:pe k):rE J i dT aE (oJ (a_ J) k i) (vE z k J i dT g G m ad l aE):=by
 rcases k with v|e|⟨q,p⟩|⟨ku,sz⟩;·exact ars c i z dT g G m ad l aY al
 ·exact arw c i z dT g G m ad l aY e
 ·exact arr c i z dT g G m ad l aY al
 ·exact aru c i z dT g G m ad l aY al
def IA(J:List aV)(dT:M)(aE:List M)(t:Option (List Int×Nat))(n:Option bV):Prop:=match t with|some u=>∃g G m ad l,n=o (.b (tq J u.2 dT g G m ad l) [.b (aE++u.1.map .b)])|none=>∃aO,n=o (.d (.b .e) aO)
theorem art(T:List dJ):∀(i:Nat)(g G m ad l:Option K)(aE:List M),(∀k∈T,pe k)→aE.length+T.length<900→IA J dT aE (rY (a_ J) T i) (jd (fun dF A f=>fG (g0 (bp ab (z+8)) ab.b [] (.b 3) (.b dF) A f) (dK (bp ab (z+8)) ab.b [] Fp)) (T.map fun k=>.c (kf k)) (tq J i dT g G m ad l) [.b aE]):=by induction T with|nil=>exact fun i g G m ad l aE _ _=>⟨g,G,m,ad,l,congrArg (fun p=>o (bV.b _ [eJ.b p])) (hE _).symm⟩|cons k T ak=>
 intro i g G m ad l aE al aw;have aB:=arx c z dT i g G m ad l (gR (ho ..) aw) (al k (dY ..));show IA J dT aE (co (oJ (a_ J) k i) _ U) (h6 (vE z k J i dT g G m ad l aE) _);generalize vE z k J i dT g G m ad l aE=n at aB⊢;rcases b:oJ (a_ J) k i with _|u;·rw[b]at aB;obtain⟨aO,rfl⟩:=aB;exact⟨aO,rfl⟩
 ·rw[b]at aB;obtain⟨v1,gk,ae,hb,f2,s,rfl⟩:=aB;rw[aab];have O:=ak (i+u.2) v1 gk ae hb f2 (aE++u.1.map .b) (fun d aH=>al d (e6 _ aH)) (by rw[fy,dA,lk];exact gR (r' (bt (pP (aqD b) _) (ff (lV 1 _))) _) aw);have bk:∀v,h6 (o (an s bV.e bV.b (tq J (i+u.2) dT v1 gk ae hb f2) [.b (aE++u.1.map .b)])) v=v (tq J (i+u.2) dT v1 gk ae hb f2) [.b (aE++u.1.map .b)]:=fun v=>by rcases s<;>rfl
  rw[bk];show IA J dT aE (co (rY (a_ J) T (i+u.2)) (fun t=>o (u.1++t.1,t.2)) U) _;rcases aK:rY (a_ J) T (i+u.2)with _|t;·rw[aK]at O;exact O
  ·rw[aK]at O;obtain⟨e3,hd,i7,Oq,hw,bA⟩:=O;exact⟨e3,hd,i7,Oq,hw,bA.trans (congrArg (fun p=>o (bV.b _ [eJ.b p])) (by rw[kQ,vR]))⟩
noncomputable def LD(n:Option (List Int)):M:=co n (fun N=>.f (N.map .b)) .e
theorem adZ(T:List dJ)(al:∀k∈T,pe k)(aw:T.length<800)(i:Nat):b_ ab 117 9 [.b (pI J i),.b (.f (T.map fun k=>.c (kf k)))] (.ok (LD (r9 (a_ J) T i))):=fun z f=>by
 have O:=art c z (.f (T.map fun k=>.c (kf k))) T i U U U U U [] al (by rw[List.length_nil,q0];exact lW aw (by decide));have D:sZ C (.b (.f (T.map fun k=>.c (kf k))))=o (T.map fun k=>.c (kf k)):=if_pos (by rw[dA];exact bt (oQ aw) (by decide));have S:=rO (X:=bp ab (z+8)) (aB:=ab.b) (ax:=[]) (g':=C) (s:=.b 3) (a':=.c 1) (e:=Fp) (A:=tq J i (.f (T.map fun k=>.c (kf k))) U U U U U) (f:=[.b []]) rfl D;unfold r9;rcases b:rY (a_ J) T i with _|t;·rw[b]at O;obtain⟨aO,aK⟩:=O;exact iX 9 [B.v (S.trans aK)] z (by kernel_rfl)
 ·rw[b]at O;obtain⟨g,G,m,ad,l,aK⟩:=O;have u:=LN c t.2 [.b ([]++t.1.map .b)];show _=o (Except.map K.b (.ok (LD (an (a_ J t.2).isSome U (o t.1)))),f);generalize(a_ J t.2).isSome=s at u⊢;rcases s;·exact iX 9 [B.v (S.trans aK),B.i u] z (by kernel_rfl)
  ·exact iX 9 [B.v (S.trans aK),B.i u] z (by kernel_rfl)
end
end
section
open PySem
noncomputable def jc(w:cY):M:=.j [.b w.1,.b w.2.1,.b w.2.2.1,.b w.2.2.2.1,.b w.2.2.2.2.1,.b w.2.2.2.2.2]
noncomputable def pl(n:Option cY):M:=co n jc .e
def iJ(y:dp):Prop:=∀(x:gn)(N:List Int),c8 x y.b 0 o=o N→b_ ab 118 3 [.b (.c y.c),.b (.b (eo y.f)),.b (.f (N.map .b))] (.ok (pl (y.d N)))
abbrev uP(y:dp)(N:List Int)(r:Nat)(f:af):bJ K:=bp ab (r+3) 118 [.b (.c y.c),.b (.b (eo y.f)),.b (.f (N.map .b))] f
noncomputable abbrev uT(y:dp)(N:List Int)(f:af):bJ K:=o (.ok (.b (pl (y.d N))),f)
section
variable(g e q F:Int)(r:Nat)(f:af)
theorem ajm:d8.map (fun e=>jb.map fun b=>uP (qR e) [g,(b.2:Int),q] r f)=d8.map fun e=>jb.map fun b=>uT (qR e) [g,(b.2:Int),q] f:=by kernel_rfl
theorem ajl:d8.map (fun e=>jb.map fun b=>uP (pA e) [g,(b.2:Int),q] r f)=d8.map fun e=>jb.map fun b=>uT (pA e) [g,(b.2:Int),q] f:=by kernel_rfl
theorem ajs:d8.map (fun e=>hl.map fun b=>uP (r5 e) [g,(b.2:Int),q] r f)=d8.map fun e=>hl.map fun b=>uT (r5 e) [g,(b.2:Int),q] f:=by kernel_rfl
theorem ajp:ef.map (fun b=>uP vy [g,(b.2:Int),e,q] r f)=ef.map fun b=>uT vy [g,(b.2:Int),e,q] f:=by kernel_rfl
theorem ajo:hl.map (fun b=>uP vx [g,(b.2:Int),e,q] r f)=hl.map fun b=>uT vx [g,(b.2:Int),e,q] f:=by kernel_rfl
theorem ajr:ef.map (fun b=>uP vA [(b.2:Int),g,e,q] r f)=ef.map fun b=>uT vA [(b.2:Int),g,e,q] f:=by kernel_rfl
theorem ajq:ef.map (fun b=>uP vz [(b.2:Int),g,e,q] r f)=ef.map fun b=>uT vz [(b.2:Int),g,e,q] f:=by kernel_rfl
theorem fU{d G:Int}{s:Bool}(c:a6 (d=G)=s)(f:af):bI .Eq f (.b (.b d)) (.b (.b G))=o s:=c▸rfl
end
def qS(e:Bool):B:=B.i (n:=.Eq) (f:=[]) (d:=.b (.b (eo e))) (G:=.b (.b 64)) (k:=!e) (by rcases e<;>rfl)
noncomputable def amm(cD y:List Nat):B:=B.i (n:=.Eq) (f:=[]) (d:=.b (.c cD)) (G:=.b (.c y)) (k:=a6 (cD=y)) rfl
noncomputable def amn:List (List Nat):=[[110,101,103],[101,110,100],[115,120],[115,116,120],[115,116,105],[108,111,99,107],[102,101,116,99,104],[120,99,104,103],[99,109,112]]
def hD(e:Bool)(cD:List Nat)(v:Nat):List B:=qS e::qS e::(amn.take v).map (amm cD)
theorem ajn(g e:Int){s:Bool}(c:bI .Eq [] (.b (.b g)) (.b (.b e))=o s)(r:Nat)(f:af):jN.map (fun b=>lH ab r 3 118 [.b (.c r4.c),.b (.b (eo C)),.b (.f [.b g,.b (b.2:Int),.b e])] f ((hD C r4.c 2++[B.i c]).map (·.y)) [])=jN.map fun b=>o ((.ok (.b (pl (iQ s (BR b.2,g,0,0,BS b.2,0)))),f),[],((hD C r4.c 2++[B.i c]).map (·.x)).reverse):=by rcases s<;>kernel_rfl
theorem ac8:((jb++ii++lP++iT++ef).map fun b=>gd b.2 20)=(jb++ii++lP++iT++ef).map fun _=>I:=by kernel_rfl
theorem E1{v:aF}{q:Nat}(c:(v,q)∈jb++ii++lP++iT++ef):fF .Mult (.b (.b 16)) (.b (.b q))=o (.b (16*q)):=if_pos ⟨by decide,gR (cF (a7 ac8 c)) (fg (by decide:20<2^5) (sa (by decide) (by decide)))⟩
section
variable(e:Bool)
theorem QB:iJ (qR e):=fun x N c=>e2 c fun t bs q aG y aK _ c=>by obtain⟨v,ar,_⟩:=iW aG;obtain rfl:=aJ c;intro r f;have aS:=a7 (a7 (ajm t y r f) (hB e)) ar;exact aS
theorem QA:iJ (pA e):=fun x N c=>e2 c fun t bs q aG l Q _ _ aK _ c=>by obtain⟨v,ar,_⟩:=iW aG;obtain rfl:=aJ c;intro r f;have aS:=a7 (a7 (ajl t l r f) (hB e)) ar;exact aS
theorem QH:iJ (pC e):=fun x N c=>e2 c fun t bs _ _ y aK _ c=>by
 obtain rfl:=aJ c;show b_ _ _ _ _ (.ok (pl (iQ (a6 ((t:Int)=y)) (128+fV e,(t:Int),0,0,0,0))));rcases b:a6 ((t:Int)=y)<;>rcases e;·exact ck 3 (hD C (pC C).c 1++[B.i (fU b [])]) fun z f=>by kernel_rfl
 ·exact ck 3 (hD I (pC I).c 1++[B.i (fU b [])]) fun z f=>by kernel_rfl
 ·exact ck 3 (hD C (pC C).c 1++[B.i (fU b [])]) fun z f=>by kernel_rfl
 ·exact ck 3 (hD I (pC I).c 1++[B.i (fU b [])]) fun z f=>by kernel_rfl
theorem aif:iJ r4:=fun x N c=>e2 c fun t bs _ q aG y aK _ c=>by obtain⟨v,ar,_⟩:=iW aG;obtain rfl:=aJ c;refine ck 3 (hD C r4.c 2++[B.i (fU (d:=(t:Int)) (G:=(y:Int)) rfl [])]) fun z f=>?_;have aS:=a7 (ajn t y (fU rfl []) z f) ar;exact aS
theorem QI:iJ (r5 e):=fun x N c=>e2 c fun t bs _ _ q aG _ y aK _ c=>by obtain⟨v,ar,_⟩:=iW aG;obtain rfl:=aJ c;intro r f;have aS:=a7 (a7 (ajs t y r f) (hB e)) ar;exact aS
theorem auX{dk R:Type}{P:Prop}{x:gn}{i:Nat}{nY:Nat}{p:List (aF×Nat)}{t:List dJ}{w:List Int→Option dk}{q:dk}(c:c8 x (rZ (.e nY p) t) i w=o q)(u:∀v(d:Nat)(r n:Int)Q,(v,d)∈p→c8 x t Q (fun br=>w ((d:Int)::r::n::br))=o q→P):P:=lf c fun _ c=>lf c fun _ c=>FW c fun d b c=>lf c fun _ c=>lf c fun _ c=>lf c fun _ c=>yu c fun r _ c=>FX c fun l Q _ _ _ c=>lf c fun _ c=>by obtain⟨v,ar,_⟩:=iW b;exact u v d r l _ ar c
theorem aik:iJ vy:=fun x N c=>e2 c fun t bs _ _ _ d qe _ _ _ r _ n Q _ _ _ _ _ c=>by obtain⟨v,ar,_⟩:=iW qe;obtain rfl:=aJ c;intro z f;have aS:=a7 (ajp t r n z f) ar;exact aS
theorem aij:iJ vx:=fun x N c=>e2 c fun t bs _ _ _ d ws _ _ _ r _ n Q _ _ _ _ _ c=>by obtain⟨v,ar,_⟩:=iW ws;obtain rfl:=aJ c;intro z f;have aS:=a7 (ajo t r n z f) ar;exact aS
theorem aio:iJ vA:=fun x N c=>e2 c fun _ _ d Dc _ _ _ r _ n Q _ _ _ _ _ y _ _ c=>by obtain⟨v,ar,_⟩:=iW Dc;obtain rfl:=aJ c;intro z f;have aS:=a7 (ajr r n y z f) ar;exact aS
theorem ain:iJ vz:=fun x N c=>e2 c fun _ _ d YN _ _ _ r _ n Q _ _ _ _ _ l Q _ _ _ _ c=>by obtain⟨v,ar,_⟩:=iW YN;obtain rfl:=aJ c;intro z f;have aS:=a7 (ajq r n l z f) ar;exact aS
theorem QG:iJ (pB e):=fun x N c=>e2 c fun _ _ _ d H2 _ _ _ r _ n Q _ _ _ _ q aG y _ _ c=>by
 obtain⟨v,ar,_⟩:=iW H2;obtain⟨fq,Hq,_⟩:=iW aG;obtain rfl:=aJ c;have ku:=E1 (pM _ (pM _ (Cf _ Hq)));show b_ _ _ _ _ (.ok (pl (iQ (a6 ((d:Int)=kl e)) (195+nN e,r,(y:Int),n,16*(q:Int),0))));rcases b:a6 ((d:Int)=kl e);·
  rcases e;·exact ck 3 (hD C (pB C).c 6++[qS C,B.i (fU b [])]) fun z f=>by kernel_rfl
  ·exact ck 3 (hD I (pB I).c 6++[qS I,B.i (fU b [])]) fun z f=>by kernel_rfl
 ·rcases e;·exact ck 3 (hD C (pB C).c 6++[qS C,B.i (fU b []),B.q ku]) fun z f=>by kernel_rfl
  ·exact ck 3 (hD I (pB I).c 6++[qS I,B.i (fU b []),B.q ku]) fun z f=>by kernel_rfl
theorem QD:iJ (nL e):=fun x N c=>e2 c fun t _ _ q aG _ _ d _ _ _ _ r _ n Q _ _ _ _ _ y _ _ _ c=>by
 obtain⟨v,ar,_⟩:=iW aG;obtain rfl:=aJ c;have ku:=E1 (pM _ (Cf _ ar));show b_ _ _ _ _ (.ok (pl (iQ (a6 ((t:Int)=y)&&a6 ((d:Int)=kl e)) (195+nN e,(r:Int),(t:Int),n,16*(q:Int)+1,0))));rcases b:a6 ((t:Int)=y);·
  rcases e;·exact ck 3 (hD C (nL C).c 7++[B.i (fU b [])]) fun z f=>by kernel_rfl
  ·exact ck 3 (hD I (nL I).c 7++[B.i (fU b [])]) fun z f=>by kernel_rfl
 ·rcases aK:a6 ((d:Int)=kl e);·
   rcases e;·exact ck 3 (hD C (nL C).c 7++[B.i (fU b []),qS C,B.i (fU aK [])]) fun z f=>by kernel_rfl
   ·exact ck 3 (hD I (nL I).c 7++[B.i (fU b []),qS I,B.i (fU aK [])]) fun z f=>by kernel_rfl
  ·rcases e;·exact ck 3 (hD C (nL C).c 7++[B.i (fU b []),qS C,B.i (fU aK []),B.q ku]) fun z f=>by kernel_rfl
   ·exact ck 3 (hD I (nL I).c 7++[B.i (fU b []),qS I,B.i (fU aK []),B.q ku]) fun z f=>by kernel_rfl
theorem QJ:iJ (pD e):=fun x N c=>e2 c fun t _ _ _ _ r _ n Q _ _ _ _ y _ _ _ c=>by
 obtain rfl:=aJ c;show b_ _ _ _ _ (.ok (pl (iQ (a6 ((t:Int)=y)) (195+nN e,(r:Int),(t:Int),n,225,0))));rcases b:a6 ((t:Int)=y)<;>rcases e;·exact ck 3 (hD C (pD C).c 8++[B.i (fU b [])]) fun z f=>by kernel_rfl
 ·exact ck 3 (hD I (pD I).c 8++[B.i (fU b [])]) fun z f=>by kernel_rfl
 ·exact ck 3 (hD C (pD C).c 8++[B.i (fU b [])]) fun z f=>by kernel_rfl
 ·exact ck 3 (hD I (pD I).c 8++[B.i (fU b [])]) fun z f=>by kernel_rfl
theorem QC:iJ (nK e):=fun x N c=>e2 c fun t _ _ _ _ r _ n Q _ _ _ _ m _ _ y _ _ _ c=>by
 obtain rfl:=aJ c;show b_ _ _ _ _ (.ok (pl (iQ (a6 ((t:Int)=0)&&a6 ((m:Int)=0)) (195+nN e,(r:Int),(y:Int),n,241,0))));rcases b:a6 ((t:Int)=0);·
  rcases e;·exact ck 3 (hD C (nK C).c 9++[B.i (fU b [])]) fun z f=>by kernel_rfl
  ·exact ck 3 (hD I (nK I).c 9++[B.i (fU b [])]) fun z f=>by kernel_rfl
 ·rcases aK:a6 ((m:Int)=0)<;>rcases e;·exact ck 3 (hD C (nK C).c 9++[B.i (fU b []),B.i (fU aK [])]) fun z f=>by kernel_rfl
  ·exact ck 3 (hD I (nK I).c 9++[B.i (fU b []),B.i (fU aK [])]) fun z f=>by kernel_rfl
  ·exact ck 3 (hD C (nK C).c 9++[B.i (fU b []),B.i (fU aK [])]) fun z f=>by kernel_rfl
  ·exact ck 3 (hD I (nK I).c 9++[B.i (fU b []),B.i (fU aK [])]) fun z f=>by kernel_rfl
theorem Ph(l:Int):fF .Mod (.b (.b l)) (.b (.b 4294967296))=o (.b (l%4294967296)):=congrArg (fun d=>o (M.b d)) (Ge _ (by decide))
theorem abf{l:Int}(c:uQ l=I):fF .FloorDiv (.b (.b l)) (.b (.b 4294967296))=o (.b (l/4294967296)):=by have bE:=s6.1 c;have:l.natAbs<2^128:=ST (B8 (by decide) bE.1) (B9 bE.2 (by decide));exact(if_neg (not_or.2 ⟨by decide,not_or.2 ⟨yL.2 this,by decide⟩⟩)).trans (congrArg (fun d=>o (M.b d)) (Gd _ (by decide)))
theorem JQ{d G:Int}{s:Bool}(c:a6 (G≤d)=s)(f:af):bI .GtE f (.b (.b d)) (.b (.b G))=o s:=c▸rfl
theorem aip:iJ BO:=fun x N c=>e2 c fun t _ _ l Q _ _ b _ _ c=>by obtain rfl:=aJ c;have st:=Ph l;have na:=abf (Bb (mQ b));have rm:=Ph (l/4294967296);show b_ _ _ _ _ (.ok (pl (o (24,(t:Int),0,0,fN l,fN (l/4294967296)))));unfold fN;generalize l%4294967296=d at*;generalize l/4294967296=G at*;generalize G%4294967296=gk at*;rcases aG:a6 (2147483648≤d)<;>rcases aK:a6 (2147483648≤gk)<;>exact ck 3 [B.q st,B.q na,B.q rm,B.i (JQ aG []),B.i (JQ aK [])] fun z f=>by kernel_rfl
theorem aim:iJ BN:=fun x N c=>e2 c fun t _ _ _ l Q _ _ b _ _ c=>by obtain rfl:=aJ c;exact fun z f=>by kernel_rfl
theorem aie:iJ BI:=fun x N c=>e2 c fun _ l Q _ _ b _ c=>by obtain rfl:=aJ c;exact fun z f=>by kernel_rfl
theorem ail:iJ BM:=fun x N c=>e2 c fun _ _ l Q _ _ b _ c=>by obtain rfl:=aJ c;exact fun z f=>by kernel_rfl
theorem aig:iJ BJ:=fun x N c=>e2 c fun _ _ c=>by obtain rfl:=aJ c;exact fun z f=>by kernel_rfl
theorem FS(l:Int)(f:af):h2 .ut f [.b (.f [.b l])]=o (.b (.b l)):=congrArg (fun d=>o (K.b (.b d))) (Int.add_zero l)
theorem aih:iJ BK:=fun x N c=>e2 c fun _ l Q _ _ b _ c=>by obtain rfl:=aJ c;exact ck 3 [B.u (FS l []),B.u (FS l [])] fun z f=>by kernel_rfl
theorem aii:iJ BL:=fun x N c=>e2 c fun _ l Q _ _ b _ c=>by obtain rfl:=aJ c;exact ck 3 [B.u (FS l []),B.u (FS l [])] fun z f=>by kernel_rfl
theorem QF:iJ (vw e):=fun x N c=>e2 c fun _ t _ q aG y _ _ l Q _ _ b _ c=>by obtain⟨v,ar,_⟩:=iW aG;obtain rfl:=aJ c;have ku:=E1 (pM _ (pM _ (pM _ (Cf _ ar))));rcases e<;>exact ck 3 [B.q ku] fun z f=>by kernel_rfl
theorem QE:iJ (vv e):=fun x N c=>e2 c fun _ t _ q aG y _ _ _ _ _ l Q _ _ b _ c=>by obtain⟨v,ar,_⟩:=iW aG;obtain rfl:=aJ c;have ku:=E1 (pM _ (pM _ (pM _ (Cf _ ar))));rcases e<;>exact ck 3 [B.q ku] fun z f=>by kernel_rfl
end
theorem bO{R:dp→Prop}{g:dp}{p:List dp}(c:R g)(v:∀y∈p,R y):∀y∈g::p,R y:=tD.2 ⟨c,v⟩
theorem aid:∀y∈e1,iJ y:=bO (QB _) (bO (QB _) (bO (QA _) (bO (QA _) (bO (QH _) (bO (QH _) (bO aif (bO (QI _) (bO (QI _) (bO aik (bO aij (bO aio (bO ain (bO (QG _) (bO (QG _) (bO (QD _) (bO (QD _) (bO (QJ _) (bO (QJ _) (bO (QC _) (bO (QC _) (bO aip (bO aim (bO aie (bO ail (bO aig (bO aih (bO aii (bO (QF _) (bO (QF _) (bO (QE _) (bO (QE _) (fun _ c=>nomatch c))))))))))))))))))))))))))))))))
end
section
open PySem
noncomputable def mI(v:aF)(J:List aV):List aV:=match J.findIdx? (fun s=>bd v (o s))with|some Q=>J.take Q|none=>J
noncomputable def fl(J:List aV):List aV:=mI .n (mI .m J)
theorem aqp{J:List aV}(c:dP J)(Q:Nat):dP (J.take Q):=⟨bt (L3 ..) c.b,fun s bu=>c.c s (GB bu)⟩
theorem yq{J:List aV}(c:dP J)(v:aF):dP (mI v J):=by
 unfold mI;rcases J.findIdx? (fun s=>bd v (o s))with _|Q;·exact c
 ·exact aqp c Q
theorem QT{V:Type}{k u:V→Bool}(p:List V):(∀s∈p,k s=u s)→p.findIdx? k=p.findIdx? u:=by induction p with|nil=>exact fun _=>rfl|cons s p ak=>exact fun c=>by rw[Gm,Gm,c s (dY ..),ak fun d aH=>c d (e6 _ aH)]
section
variable{J:List aV}(c:dP J){v:aF}(ar:eS v eQ=I)
include c ar
theorem EB:∀s∈J,a6 (s.bT=v.b)=bd v (o s):=fun s bu=>FF (n:=o s) (fun _ b=>aJ b▸c.c s bu) (cF ar)
theorem aeM(f:af):bI .In f (.b (.c v.b)) (.b (d5 J))=o (J.findIdx? fun s=>bd v (o s)).isSome:=by have b:sV (.c v.b) ((J.map aV.bT).map .c)=o ((J.map aV.bT).any fun s=>a6 (s=v.b)):=D_ _ (yr (n:=o (.b0 v)) fun _ b=>aJ b▸cF ar) (TU c 0);rw[UK];refine b.trans (congrArg o ?_);rw[List.any_map,←List.findIdx?_isSome];exact congrArg Option.isSome (QT J (EB c ar))
theorem aeN{Q:Nat}(b:(J.findIdx? fun s=>bd v (o s))=o Q)(X:ea)(f:af):jM X .c (.b (d5 J)) .lC [.b (.c v.b)] f=o (.ok (.b (.b Q)),f):=by
 have aK:s2 (.c v.b) (J.map fun s=>M.c s.bT)=o Q:=by
  have g:(J.map fun s=>M.c s.bT).all ED=I:=fe.2 fun k al=>by obtain⟨s,_,rfl⟩:=pN.1 al;rfl
  show((if(J.map fun s=>M.c s.bT).all ED=I then o v.b else U).bind _)=_;rw[if_pos g];show(J.map fun s=>M.c s.bT).findIdx? (Kb v.b)=_;rw[List.findIdx?_map];exact(QT J (EB c ar)).trans b
 show(if(J.map fun s=>M.c s.bT).length≤cK then cI ((s2 (.c v.b) (J.map fun s=>M.c s.bT)).map fun i=>K.b (.b (i:Nat))) f else U)=_;rw[aK];exact if_pos (by rw[dA];exact bt c.b (by decide))
end
theorem Jm{V:Type}(p:List V)(v:Nat):ij p U (o (v:Int))=p.take v:=by show p.take (ji p.length v-0)=_;rw[w_,Nat.sub_zero,←List.take_eq_take_min]
theorem UO{J:List aV}(c:dP J)(Q:Nat):hQ (.b (d5 J)) (.b .e) (.b (.b Q))=o (d5 (J.take Q)):=by refine(if_pos (by rw[dA];exact bt c.b (by decide))).trans (congrArg (fun p=>o (M.f p)) ?_);show ij (J.map fun s=>M.c s.bT) U (o (Q:Int))=_;rw[Jm,←List.map_take]
noncomputable def rL(cc:M)(j3:Option K)(ai:Option K)(dT l5 i4:Option K):List (Option K):=[o (.b cc),j3,ai,dT,l5,i4]
theorem SI(z:Nat){J:List aV}(c:dP J){v:aF}(ar:eS v eQ=I)(j3:Option K):fG (g0 (bp ab (z+10)) ab.b [] (.b 1) (.b (.c v.b)) (rL (d5 J) j3 U U U U) []) (dK (bp ab (z+10)) ab.b [] Fu)=o (.b (rL (d5 (mI v J)) (o (.b (.c v.b))) U U U U) []):=by
 have cC:=aeM c ar [];have c':=fun Q b=>aeN c ar (Q:=Q) b (bp ab (z+10)) [];unfold mI;rcases b:J.findIdx? (fun s=>bd v (o s))with _|Q;·rw[b]at cC;exact fX 10 [B.i cC] z (by kernel_rfl)
 ·rw[b]at cC;exact fX 10 [B.i cC,B.s (c' Q b),B.r (UO c Q)] z (by kernel_rfl)
theorem Jl{V:Type}(p:List V){g e:Nat}(at4:g≤e):ij p (o (g:Int)) (o (e:Int))=(p.drop g).take (e-g):=by
 show(p.drop (ji p.length g)).take (ji p.length e-ji p.length g)=_;rw[w_,w_];rcases Cm g p.length with q|q;·
  rw[vV q];rcases Cm e p.length with F|F;·rw[vV F]
  ·rw[Cp F,←lj,List.take_length,L5 (by rw[lj];exact Nat.sub_le_sub_right F g)]
 ·rw[Cp q,vM (df _),vM q,List.take_nil,List.take_nil]
theorem asm{J:List aV}(c:dP J):hQ (.b (d5 J)) (.b (.b 1)) (.b (.b 3))=o (d5 ((J.drop 1).take 2)):=by refine(if_pos (by rw[dA];exact bt c.b (by decide))).trans (congrArg (fun p=>o (M.f p)) ?_);show ij (J.map fun s=>M.c s.bT) (o ((1:Nat):Int)) (o ((3:Nat):Int))=_;rw[Jl _ (by decide),←List.map_drop,←List.map_take]
theorem aqn{J:List aV}(c:dP J){s:aV}(bu:s∈J):kP s.bT=I:=yr (n:=o s) fun _ b=>aJ b▸c.c s bu
theorem asl{J:List aV}(c:dP J)(f:af):bI .Eq f (.b (d5 ((J.drop 1).take 2))) (.b (.f [.c [61],.c [43]]))=o (bd .c (a_ J 1)&&bd .f (a_ J 2)):=by
 have aG:a_ J 1=(J.drop 1)[0]?:=(LO 1).symm;have aK:a_ J 2=(J.drop 1)[1]?:=show J[1+1]?=(J.drop 1)[1]?from vP.symm;rw[aG,aK];have e9:∀s∈J.drop 1,s∈J:=fun s bu=>GA bu;generalize J.drop 1=F at e9⊢;show qQ ((F.take 2).map fun s=>.c s.bT) _=_;unfold qQ;have U0:∀s∈F,q2 (.str ⟨s.bT.toArray⟩) (.str ⟨[61].toArray⟩)=bd .c (o s):=fun s bu=>(Jx _ _).trans (EB c (v:=.c) rfl s (e9 s bu));have U1:∀s∈F,q2 (.str ⟨s.bT.toArray⟩) (.str ⟨[43].toArray⟩)=bd .f (o s):=fun s bu=>(Jx _ _).trans (EB c (v:=.f) rfl s (e9 s bu));have bC:=fun(p:List aV)(aw:∀s∈p,s∈F)=>QU (p.map aV.bT) (fe.2 fun y aW=>by obtain⟨s,bu,rfl⟩:=pN.1 aW;exact aqn c (e9 s (aw s bu)));rcases F with _|⟨g,_|⟨e,p⟩⟩;·rfl
 ·rw[show(([g].take 2).map fun s=>M.c s.bT)=([g].map aV.bT).map .c from rfl,bC [g] fun _ c=>c];exact congrArg o ((qX _).trans (qX _).symm)
 ·have aY:g∈g::e::p:=dY ..;have aN:e∈g::e::p:=e6 _ (dY ..);rw[show(((g::e::p).take 2).map fun s=>M.c s.bT)=([g,e].map aV.bT).map .c from rfl,bC [g,e] fun s bu=>by
   rcases gQ.1 bu with rfl|bu;·exact aY
   ·exact m4.1 bu▸aN];show o (q2 (.str ⟨g.bT.toArray⟩) (.str ⟨[61].toArray⟩)&&(q2 (.str ⟨e.bT.toArray⟩) (.str ⟨[43].toArray⟩)&&I))=_;rw[U0 g aY,U1 e aN,Bool.and_true];rfl
end
section
open PySem
def Fl(y:dp):M:=.f (y.b.map fun k=>.c (kf k))
theorem ap5(r:Nat)(f:af):e1.map (fun y=>(bp ab (r+2) 119 [.b (Fl y)] f,hR f (.b (kh y)) (.b (.b 0)),bI .Eq f (.b (.c y.c)) (.b (.c [97,108,105])),hQ (.b (kh y)) (.b (.b 1)) (.b .e),eS y.b.length 800))=e1.map fun y=>(o (.ok (.b (.b (eo y.f))),f),o (.c y.c),o y.e,o (Fl y),I):=by kernel_rfl
abbrev aeR(z:Nat)(cc:M)(j3 dT l5 i4:Option K)(aE:List M)(y:dp):Option bV:=fG (g0 (bp ab (z+10)) ab.b [] (.b 3) (.b (kh y)) (rL cc j3 (o (.c 0)) dT l5 i4) [.b aE]) (dK (bp ab (z+10)) ab.b [] Fn)
def B4(cc:M)(j3:Option K)(aE:List M)(n:Option bV):Prop:=∃dT l5 i4 s,n=o (an s bV.e bV.b (rL cc j3 (o (.c 0)) dT l5 i4) [.b aE])
section
variable{J:List aV}(c:dP J)(z:Nat)(j3:Option K)
include c
theorem ap8{y:dp}(aW:y∈e1)(dT l5 i4:Option K){aE:List M}(aY:aE.length<900):B4 (d5 J) j3 (aE++(eA (a_ J) y).toList.map jc) (aeR z (d5 J) j3 dT l5 i4 aE y):=by
 have aS:=fun r f=>bw (a7 (ap5 r f) aW);have nb:b_ ab 119 2 [.b (Fl y)] (.ok (.b (eo y.f))):=fun r f=>(aS r f).1;obtain⟨cC,L⟩:=bw (aS 0 [.b aE]).2;obtain⟨c',aR⟩:=bw L;obtain⟨fM,bh⟩:=bw aR;have tY:b_ ab 117 9 [.b (d5 J),.b (Fl y)] (.ok (LD (r9 (a_ J) y.b 0))):=adZ c y.b (Fa aW) (cF bh) 0;have gV:=fun N(b:c8 (a_ J) y.b 0 o=o N)=>aid y aW (a_ J) N b;have dg:=fun w=>Ao (bp ab (z+10)) (aE:=aE) (jc w) (fg aY (by decide));have zL:=asm c;have wr:=asl c [.b aE];have S:c8 (a_ J) y.b 0 y.d=co (r9 (a_ J) y.b 0) y.d U:=T9 y.b 0 y.d;have yY:c8 (a_ J) y.b 0 o=co (r9 (a_ J) y.b 0) o U:=T9 y.b 0 o;unfold eA;rw[S];rw[yY]at gV;generalize r9 (a_ J) y.b 0=Op at tY gV⊢;generalize(bd .c (a_ J 1)&&bd .f (a_ J 2))=V' at wr⊢;generalize d5 ((J.drop 1).take 2)=atM at zL wr;generalize d5 J=cc at*;generalize y.e=GZ at c'⊢;have cO:∀{n:Option bV},B4 cc j3 aE n→B4 cc j3 (aE++((U:Option cY).toList.map jc)) n:=fun{n}b=>by rw[show aE++((U:Option cY).toList.map jc)=aE from hE aE];exact b
 rcases GZ;·
  rcases Op with _|N;·exact cO ⟨o (.b (kh y)),o (.b .e),i4,C,fX 10 [B.l cC,B.i c',B.r fM,B.j tY] z (by kernel_rfl)⟩
  ·have gV:=gV N rfl;show B4 cc j3 (aE++(y.d N).toList.map jc) _;generalize y.d N=jl at gV⊢;rcases jl with _|w;·exact cO ⟨o (.b (kh y)),o (.b (.f (N.map .b))),o (.b .e),C,fX 10 [B.l cC,B.i c',B.r fM,B.j tY,B.l cC,B.r fM,B.j nb,B.j gV] z (by kernel_rfl)⟩
   ·exact⟨o (.b (kh y)),o (.b (.f (N.map .b))),o (.b (jc w)),C,fX 10 [B.l cC,B.i c',B.r fM,B.j tY,B.l cC,B.r fM,B.j nb,B.j gV,B.s (dg w)] z (by kernel_rfl)⟩
 ·rcases V';·
   rcases Op with _|N;·exact cO ⟨o (.b (kh y)),o (.b .e),i4,C,fX 10 [B.l cC,B.i c',B.r zL,B.i wr,B.r fM,B.j tY] z (by kernel_rfl)⟩
   ·have gV:=gV N rfl;show B4 cc j3 (aE++(y.d N).toList.map jc) _;generalize y.d N=jl at gV⊢;rcases jl with _|w;·exact cO ⟨o (.b (kh y)),o (.b (.f (N.map .b))),o (.b .e),C,fX 10 [B.l cC,B.i c',B.r zL,B.i wr,B.r fM,B.j tY,B.l cC,B.r fM,B.j nb,B.j gV] z (by kernel_rfl)⟩
    ·exact⟨o (.b (kh y)),o (.b (.f (N.map .b))),o (.b (jc w)),C,fX 10 [B.l cC,B.i c',B.r zL,B.i wr,B.r fM,B.j tY,B.l cC,B.r fM,B.j nb,B.j gV,B.s (dg w)] z (by kernel_rfl)⟩
  ·exact cO ⟨o (.b (kh y)),l5,i4,I,fX 10 [B.l cC,B.i c',B.r zL,B.i wr] z (by kernel_rfl)⟩
theorem ap6(p:List dp):∀(dT l5 i4:Option K)(aE:List M),(∀y∈p,y∈e1)→aE.length+p.length<900→∃YS YZ Wa,jd (fun dF A f=>fG (g0 (bp ab (z+10)) ab.b [] (.b 3) (.b dF) A f) (dK (bp ab (z+10)) ab.b [] Fn)) (p.map kh) (rL (d5 J) j3 (o (.c 0)) dT l5 i4) [.b aE]=o (.b (rL (d5 J) j3 (o (.c 0)) YS YZ Wa) [.b (aE++(p.filterMap (eA (a_ J))).map jc)]):=by induction p with|nil=>exact fun dT l5 i4 aE _ _=>⟨dT,l5,i4,congrArg (fun p=>o (bV.b _ [eJ.b p])) (hE _).symm⟩|cons y p ak=>
 intro dT l5 i4 aE aw ah;obtain⟨YT,Y0,Wb,s,b⟩:=ap8 c z j3 (aw y (dY ..)) dT l5 i4 (gR (ho ..) ah);obtain⟨YU,Y1,Wc,aK⟩:=ak YT Y0 Wb (aE++(eA (a_ J) y).toList.map jc) (fun d aH=>aw d (e6 _ aH)) (by
  rw[fy,dA,lk];refine gR (r' (bt (pP (m:=1) ?_ _) (ff (lV 1 _))) _) ah;rcases eA (a_ J) y with _|_;·exact jT 1
  ·exact df 1);refine⟨YU,Y1,Wc,?_⟩;refine(congrArg (fun n=>h6 n _) b).trans (lU (b:=_) (by rcases s<;>rfl) (aK.trans (congrArg (fun p=>o (bV.b _ [eJ.b p])) ?_)));rw[kQ,List.filterMap_cons,←vR];rcases eA (a_ J) y<;>rfl
end
theorem ajc(x:gn)(p:List dp):rQ x p=(p.filterMap (eA x)).head? :=by induction p with|nil=>rfl|cons y p ak=>show Fd (eA x y) (rQ x p)=_;rw[ak,List.filterMap_cons];rcases eA x y<;>rfl
theorem aiH(p:List cY):∃b2,sY (p.map jc)=o b2∧b2.length=p.length:=by induction p with|nil=>exact⟨[],rfl,rfl⟩|cons w p ak=>obtain⟨b2,b,r⟩:=ak;refine⟨.tuple [.int w.1,.int w.2.1,.int w.2.2.1,.int w.2.2.2.1,.int w.2.2.2.2.1,.int w.2.2.2.2.2]::b2,?_,congrArg (·+1) r⟩;show(JG (jc w)).bind (fun F=>(sY (p.map jc)).map (F::·))=_;rw[b];rfl
theorem aiI(p:List cY)(f:af):bI .NotEq [.b (p.map jc)] (.c 0) (.b (.f []))=o (!p.isEmpty):=by
 obtain⟨b2,b,r⟩:=aiH p;show(qQ (p.map jc) []).map (!·)=_;unfold qQ;rw[b];rcases p with _|⟨w,p⟩;·
  rcases b2 with _|_;·rfl
  ·exact nomatch r
 ·rcases b2 with _|_;·exact nomatch r
  ·rfl
theorem aqP(p:List cY)(w:cY)(c:p.length<900):hR [.b ((w::p).map jc)] (.c 0) (.b (.b 0))=o (jc w):=by show(hA ((w::p).map jc).length ((0:Nat):Int)).bind _=_;rw[s3 0 (by rw[dA];exact bt (kn (oQ c)) (by decide)) (by rw[dA];exact Nat.zero_lt_succ _)];rfl
theorem PH{J:List aV}(c:dP J):b_ ab 120 11 [.b (d5 J)] (.ok (pl (mL (a_ (fl J))))):=fun z f=>by
 have gY:=SI z c (v:=.m) rfl U;have H:=yq c .m;have dc:=SI z H (v:=.n) rfl (o (.b (.c [35])));have L:dP (fl J):=yq H .n;let bC:=fun dF A f=>fG (g0 (bp ab (z+10)) ab.b [] (.b 1) (.b dF) A f) (dK (bp ab (z+10)) ab.b [] Fu);have Mi:dK (bp ab (z+10)) ab.b [] (.i C (.b 1) (.n (.d (.b (.c [35])) (.d (.b (.c [47,47])) .e))) Fu) (rL (d5 J) U U U U U) []=o (.b (rL (d5 (fl J)) (o (.b (.c [47,47]))) U U U U) []):=(rO (d:=.b (.j [.c [35],.c [47,47]])) (p:=[.c [35],.c [47,47]]) rfl rfl).trans ((congrArg (fun n=>h6 n (jd bC [.c [47,47]])) gY).trans ((congrArg (fun n=>h6 n (jd bC [])) dc).trans rfl));obtain⟨dT,l5,i4,aK⟩:=ap6 L z (o (.b (.c [47,47]))) e1 U U U [] (fun _ c=>c) (by decide);have Mj:=(rO (X:=bp ab (z+10)) (aB:=ab.b) (ax:=[]) (g':=C) (s:=.b 3) (a':=.g (.b (.d 111)) .e) (e:=Fn) (A:=rL (d5 (fl J)) (o (.b (.c [47,47]))) (o (.c 0)) U U U) (f:=[.b []]) (d:=.b (.f (e1.map kh))) (p:=e1.map kh) (Ur z [.b []]) rfl).trans aK;have u:=aiI (e1.filterMap (eA (a_ (fl J)))) [];unfold mL;rw[ajc];have Y:(e1.filterMap (eA (a_ (fl J)))).length≤32:=L2 ..;generalize e1.filterMap (eA (a_ (fl J)))=p at*;rcases p with _|⟨w,p⟩;·exact iX 11 [B.v Mi,B.v Mj,B.i u] z (by kernel_rfl)
 ·exact iX 11 [B.v Mi,B.v Mj,B.i u,B.l (aqP p w (fg (Nat.lt_of_succ_le Y) (by decide)))] z (by kernel_rfl)
end
section
open PySem
section
variable{R:lF}{aB:hN}{ax:List Nat}{A:List (Option K)}{f:af}
theorem oG{b:aZ}{t:Except M K×af}(r:Nat)(bP:List B)(z:Nat)(c:sQ ((kH (lH R z r) (bp R (z+r)) aB b).b A ax f) bP t):d_ (bp R (z+r)) aB b A ax f=o t:=((uO (Az R z r) b).1 A ax f).n c
theorem pz{k:a5}{n:bV}(r:Nat)(bP:List B)(z:Nat)(c:sQ (Ea (lH R z r) (bp R (z+r)) aB ax k A f) bP n):dK (bp R (z+r)) aB ax k A f=o n:=(JA (Az R z r) k A f).n c
end
theorem aoz(y hu:aq)(a4:Nat)(p:List Nat):∀(i w:Nat),(forIn p (#[i],w) (tJ y hu a4 1)).run.fst= #[i]:=by induction p with|nil=>exact fun _ _=>rfl|cons g p ak=>intro i w;rw[Gp];unfold tJ;rw[if_neg fun c=>absurd c.1.1.1 (by decide:¬(1:Nat)<1)];exact ak i w
theorem aoy(y hu:aq)(a4:Nat)(z:Nat):∀(ln w:Nat),w≤ln→(forIn (qY ln z) (#[],w) (tJ y hu a4 1)).run.fst.toList.head? =(qY ln z).find? fun i=>a6 (i+hu.length≤a4)&&GL y hu i:=by induction z with|zero=>exact fun _ _ _=>rfl|succ z ak=>
 intro ln w a3;rw[GD,Gp,m3];by_cases c:ln+hu.length≤a4∧GL y hu ln=I;·
  rw[decide_eq_true c.1,c.2];have G6:tJ y hu a4 1 ln (#[],w)=d6 (mq (#[ln],ln+hu.length)):=by unfold tJ;rw[if_pos ⟨⟨⟨Nat.zero_lt_one,a3⟩,c.1⟩,c.2⟩];rfl
  rw[G6];show(forIn (qY (ln+1) z) (#[ln],ln+hu.length) (tJ y hu a4 1)).run.fst.toList.head? =_;rw[aoz];rfl
 ·have b:(a6 (ln+hu.length≤a4)&&GL y hu ln)=C:=F_.2 fun q=>c ⟨of_decide_eq_true (e5.1 q).1,(e5.1 q).2⟩;rw[b];have G6:tJ y hu a4 1 ln (#[],w)=d6 (mq (#[],w)):=by unfold tJ;rw[if_neg (fun bl=>c ⟨bl.1.2,bl.2⟩)]
  rw[G6];exact ak (ln+1) w (yK a3)
noncomputable def uG(y s:List Nat)(i:Nat):Bool:=a6 (i+s.length≤y.length∧(y.drop i).take s.length=s)
theorem LW(y s:List Nat):jf y s=(qY 0 (y.length+1)).find? (uG y s):=by unfold jf;rw[StrLaws.occ_eq,aoy _ _ _ _ _ _ (df _)];refine congrArg (fun k=>List.find? k _) (funext fun i=>?_);rw[StrLaws.subAt_eq];exact lg.2 (by unfold uG;rw[vJ,decide_eq_true_iff,decide_eq_true_iff];exact and_congr Iff.rfl beq_iff_eq)
theorem aiD(k:Nat→Bool)(r:Nat):∀v,(qY (v+1) r).find? k=((qY v r).find? fun i=>k (i+1)).map (·+1):=by induction r with|zero=>exact fun _=>rfl|succ r ak=>intro v;rw[GD,GD,m3,m3,ak (v+1)];rcases k (v+1)<;>rfl
theorem aox(g:Nat)(s:List Nat):jf [] (g::s)=U:=by rw[LW];rfl
theorem aow(q:Nat)(y:List Nat)(s:List Nat):jf (q::y) s=an (uG (q::y) s 0) (o 0) ((jf y s).map (·+1)):=by
 rw[LW,LW];show(qY 0 (y.length+1+1)).find? _=_;rw[GD,m3,aiD];rcases uG (q::y) s 0;·refine congrArg (fun k=>((qY 0 (y.length+1)).find? k).map (·+1)) (funext fun i=>?_);unfold uG;rw[GG];exact lg.2 (by rw[decide_eq_true_iff,decide_eq_true_iff];exact and_congr Nat.succ_le_succ_iff Iff.rfl)
 ·rfl
noncomputable def sO:List (List Nat):=[[115,62,62,61],[115,62,61],[115,60,61],[115,47,61],[115,37,61],[60,60,61],[62,62,61],[115,62],[115,60],[43,61],[45,61],[42,61],[47,61],[124,61],[38,61],[37,61],[94,61],[61,61],[33,61],[62,61],[60,61],[61],[62],[60],[38],[40],[41],[42],[43],[45],[44],[58]]
noncomputable def pE(t:List Nat):List Nat:=(sO.find? (·.isPrefixOf t)).getD []
noncomputable def oM(q:Nat):Bool:=nE q||j9 q
def mn:List Nat→Nat|[]=>0|q::t=>an (oM q) (mn t+1) 0
theorem aei(f:af):(de 128).map (fun q=>(bI .In f (.b (.c [q])) (.b (.c EO)),bI .In f (.b (.c [q])) (.b (.c [48,49,50,51,52,53,54,55,56,57])),bI .In f (.b (.c [q])) (.b (.c [32,9]))))=(de 128).map fun q=>(o (nE q),o (j9 q),o (bR q 32||Nat.beq q 9)):=by kernel_rfl
theorem Jd{q:Nat}(c:q<128)(f:af):(bI .In f (.b (.c [q])) (.b (.c EO)),bI .In f (.b (.c [q])) (.b (.c [48,49,50,51,52,53,54,55,56,57])),bI .In f (.b (.c [q])) (.b (.c [32,9])))=(o (nE q),o (j9 q),o (bR q 32||Nat.beq q 9)):=a7 (aei f) (gc.2 c)
theorem FR{y:List Nat}{i q:Nat}(c:y.length≤9000)(bf:y[i]?=o q)(f:af):hR f (.b (.c y)) (.b (.b i))=o (.c [q]):=by have a4:i<y.length:=(eg.1 bf).1;have b:hA y.length (i:Int)=o i:=(if_pos (bt c (by decide))).trans (by have b:ox (i:Int) y.length=i:=if_neg (oP.2 (jP i));show(if(a6 (0≤ox (i:Int) y.length)&&a6 (ox (i:Int) y.length<y.length))=I then o (ox (i:Int) y.length).toNat else U)=o i;rw[b,decide_eq_true (jP i),decide_eq_true (pJ.2 a4)];rfl);show((hA y.length (i:Int)).bind (y[·]?)).map _=_;rw[b];show(y[i]?).map _=_;rw[bf];rfl
theorem Kp{y:List Nat}(c:y.length≤9000)(f:af):h2 .hL f [.b (.c y)]=o (.b (.b y.length)):=if_pos (bt c (by decide))
theorem aqy{y s:List Nat}{i:Nat}(a4:i≤y.length)(X:ea)(f:af):jM X .b (.b (.c y)) .sG [.b (.c s),.b (.b i)] f=o (.ok (.b (.g (s.isPrefixOf (y.drop i)))),f):=by
 have b:(a6 (i+s.length≤y.length)&&s.isPrefixOf (y.drop i))=s.isPrefixOf (y.drop i):=by
  rcases u:s.isPrefixOf (y.drop i);·exact qX _
  ·have:=(L1.1 u).length_le;rw[lj]at this;rw[decide_eq_true (Nat.add_le_of_le_sub' a4 this)];rfl
 show cI (((if(0:Int)≤(i:Int)then o (M.g (a6 (i+s.length≤y.length)&&s.isPrefixOf (y.drop i)))else U)).map K.b) f=_;rw[if_pos (jP i),b];rfl
noncomputable def ym(y:List Nat)(i:Nat)(d:Option K):List (Option K):=[o (.b (.c y)),o (.b (.b i)),d]
theorem ap4(z:Nat){y:List Nat}{i:Nat}(a4:i≤y.length)(p:List (List Nat)):∀d,∃e_,jd (fun dF A f=>fG (g0 (bp ab z) ab.b [] (.b 2) (.b dF) A f) (dK (bp ab z) ab.b [] Bq)) (p.map .c) (ym y i d) []=o (co (p.find? (·.isPrefixOf (y.drop i))) (fun s=>.d (.b (.c s)) []) (.b (ym y i e_) [])):=by induction p with|nil=>exact fun d=>⟨d,rfl⟩|cons s p ak=>
 intro d;have w:=aqy (s:=s) a4 (bp ab (z+0)) [];obtain⟨e_,b⟩:=ak (o (.b (.c s)));rw[m3];rcases u:s.isPrefixOf (y.drop i);·rw[u]at w;refine⟨e_,(congrArg (fun n=>h6 n _) (?_:fG (g0 (bp ab z) ab.b [] (.b 2) (.b (.c s)) (ym y i d) []) (dK (bp ab z) ab.b [] Bq)=o (.b (ym y i (o (.b (.c s)))) []))).trans b⟩;exact fX 0 [B.s w] z (by kernel_rfl)
 ·rw[u]at w;refine⟨d,(congrArg (fun n=>h6 n _) (?_:fG (g0 (bp ab z) ab.b [] (.b 2) (.b (.c s)) (ym y i d) []) (dK (bp ab z) ab.b [] Bq)=o (.d (.b (.c s)) []))).trans rfl⟩;exact fX 0 [B.s w] z (by kernel_rfl)
theorem adX{y:List Nat}{i:Nat}(a4:i≤y.length):b_ ab 76 1 [.b (.c y),.b (.b i)] (.ok (.c (pE (y.drop i)))):=fun z f=>by
 obtain⟨e_,b⟩:=ap4 z a4 sO U;have YW:d_ (bp ab z) ab.b (.j (.b (.c [115,62,62,61,32,115,62,61,32,115,60,61,32,115,47,61,32,115,37,61,32,60,60,61,32,62,62,61,32,115,62,32,115,60,32,43,61,32,45,61,32,42,61,32,47,61,32,124,61,32,38,61,32,37,61,32,94,61,32,61,61,32,33,61,32,62,61,32,60,61,32,61,32,62,32,60,32,38,32,40,32,41,32,42,32,43,32,45,32,44,32,58])) .k3 .e) (ym y i U) [] []=cW (.b (.f (sO.map .c))) []:=by kernel_rfl
 have S:=(rO (g':=C) (s:=.b 2) (e:=Bq) YW (p:=sO.map .c) rfl).trans b;unfold pE;generalize sO.find? (·.isPrefixOf (y.drop i))=n at S⊢;rcases n with _|s;·exact iX 1 [B.v S] z (by kernel_rfl)
 ·exact iX 1 [B.v S] z (by kernel_rfl)
end
section
open PySem
section
variable{q:List (Option K)→af→bJ K}{w:List (Option K)→af→Option bV}{r:Nat}{A:List (Option K)}{f:af}
theorem F8(c:q A f=cW (.b (.g C)) f):oK q w (r+1) A f=o (.b A f):=by show gy (q A f) _=_;rw[c];rfl
theorem B0{n:Option bV}(c:q A f=cW (.b (.g I)) f)(v:h6 (w A f) (oK q w r)=n):oK q w (r+1) A f=n:=by show gy (q A f) _=_;rw[c];exact v
end
theorem xc{y t:List Nat}{i q:Nat}(c:y.drop i=q::t):y[i]?=o q∧i<y.length∧y.drop (i+1)=t:=by have H:y[i]?=o q:=(vP (xs:=y) (i:=i) (j:=0)).symm.trans (by rw[c];rfl);refine⟨H,(eg.1 H).1,?_⟩;rw[←Gi,c];rfl
structure DA(y:List Nat):Prop where
 b:y.length≤9000
 e:∀e∈y,e<128
section
variable{y:List Nat}(c:DA y)
include c
theorem Je{i q:Nat}(b:y[i]?=o q):q<128:=c.e q (dZ b)
theorem KA(i:Nat){e:Bool}(b:a6 (i<y.length)=e)(f:af):bI .Lt f (.b (.b i)) (.b (.b y.length))=o e:=congrArg o ((lg.2 (by rw[decide_eq_true_iff,decide_eq_true_iff,pJ])).trans b)
theorem Uy(z i:Nat){t:List Nat}(b4:y.drop i=t)(a4:i≤y.length):d_ (bp ab z) ab.b Ay [o (.b (.c y)),o (.b (.b i))] [] []=cW (.b (.g (lN t oM))) []:=by
 have dS:=Kp c.b [];rcases t with _|⟨q,t⟩;·have b:y.length≤i:=Gj.1 b4;exact oG 0 [B.u dS,B.i (KA c i (decide_eq_false (jS.2 b)) [])] z (by kernel_rfl)
 ·obtain⟨aG,aK,_⟩:=xc b4;have cC:=KA c i (decide_eq_true aK) [];have c':=FR c.b aG [];obtain⟨fM,bh⟩:=bw (Jd (Je c aG) []);obtain⟨zg,_⟩:=bw bh;show _=cW (K.b (.g (nE q||j9 q))) [];generalize nE q=g at fM⊢;generalize j9 q=e at zg⊢;rcases g;·exact oG 0 [B.u dS,B.i cC,B.l c',B.i fM,B.l c',B.i zg] z (by kernel_rfl)
  ·exact oG 0 [B.u dS,B.i cC,B.l c',B.i fM] z (by kernel_rfl)
theorem ast(z:Nat)(t:List Nat):∀(i e8:Nat),y.drop i=t→i≤y.length→t.length<e8→oK (fun A f=>d_ (bp ab z) ab.b Ay A [] f) (dK (bp ab z) ab.b [] Ft) e8 [o (.b (.c y)),o (.b (.b i))] []=o (.b [o (.b (.c y)),o (.b (.b (i+mn t:Nat)))] []):=by induction t with
 |nil=>
  intro i e8 b4 a4 a3;rcases e8 with _|e8;·exact absurd a3 (tG _)
  ·refine F8 ?_;exact Uy c z i b4 a4
 |cons q t ak=>
  intro i e8 b4 a4 a3;rcases e8 with _|e8;·exact absurd a3 (tG _)
  ·have cc:=Uy c z i b4 a4;obtain⟨_,aK,bA⟩:=xc b4;have D:=ak (i+1) e8 bA aK (L8 a3);unfold mn;have cc:d_ (bp ab z) ab.b Ay [o (.b (.c y)),o (.b (.b i))] [] []=cW (.b (.g (oM q))) []:=cc;generalize oM q=e at cc⊢;rcases e;·refine F8 ?_;exact cc
   ·have bS:dK (bp ab (z+0)) ab.b [] Ft [o (.b (.c y)),o (.b (.b i))] []=o (.b [o (.b (.c y)),o (.b (.b (i+1:Nat)))] []):=pz 0 [] z (by kernel_rfl);refine B0 ?_ ?_;·exact cc
    ·refine(congrArg (fun n=>h6 n _) bS).trans (D.trans (congrArg (fun v:Nat=>o (bV.b [o (.b (.c y)),o (.b (.b v))] [])) ?_));show i+1+mn t=i+(mn t+1);rw[lk,lV 1]
theorem ad0(i:Nat)(a4:i≤y.length):b_ ab 77 1 [.b (.c y),.b (.b i)] (.ok (.b (i+mn (y.drop i):Nat))):=fun z f=>by have O:=ast c z (y.drop i) i tt rfl a4 (gR (bt (ff lj) (bt (Nat.sub_le ..) c.b)) (by decide));exact iX 1 [B.v (k:=.k Ay Ft) O] z (by kernel_rfl)
end
noncomputable def h3(q:Nat):Bool:=bR q 32||Nat.beq q 9
noncomputable def K2(q:Nat):Bool:=(nE q&&!bR q 115)||j9 q
def pF(t:List Nat):Nat:=an (lN t K2) (mn t) (an (bR (pE t).length 0) (mn t) (pE t).length)
inductive ok:List Nat→List (List Nat)→Prop where|e:ok [] []|b(q:Nat)(t:List Nat)(p:List (List Nat)):h3 q=I→ok t p→ok (q::t) p|g(q:Nat)(t:List Nat)(p:List (List Nat))(r:Nat):h3 q=C→pF (q::t)=r+1→r≤t.length→ok (t.drop r) p→ok (q::t) ((q::t).take (r+1)::p)
noncomputable def vI(y:List Nat)(Y:M)(i:Nat)(d G m:Option K):List (Option K):=[o (.b (.c y)),o (.b Y),o (.c 0),o (.b (.b i)),d,G,m]
theorem anS(i r:Nat)(f:af):bI .Eq f (.b (.b (i+(r+1):Nat))) (.b (.b i))=o C:=congrArg o (decide_eq_false fun b=>by have:=lh b;exact absurd this (pS (Nat.lt_add_of_pos_right (Nat.succ_pos r))))
theorem aqg{y:List Nat}(c:y.length≤9000)(i r:Nat)(f:af):hQ (.b (.c y)) (.b (.b i)) (.b (.b (i+r:Nat)))=o (.c ((y.drop i).take r)):=by refine(if_pos (bt c (by decide))).trans (congrArg (fun p=>o (M.c p)) ?_);rw[Jl y (ho i r),yJ]
theorem amE(p:List Nat):a6 (p=[])=bR p.length 0:=by rcases p<;>rfl
section
variable{y:List Nat}(c:DA y)(z:Nat)(Y:M)(i:Nat)(d G m:Option K){fA:List M}(a3:fA.length<900){q:Nat}{t:List Nat}(b4:y.drop i=q::t)
include c a3 b4
theorem ato(aN:h3 q=I):dK (bp ab (z+1)) ab.b [] Br (vI y Y i d G m) [.b fA]=o (.e (vI y Y (i+1) d G m) [.b fA]):=by obtain⟨aG,aK,_⟩:=xc b4;have dS:=FR c.b aG [.b fA];obtain⟨_,bh⟩:=bw (Jd (Je c aG) [.b fA]);have cC:bI .In [.b fA] (.b (.c [q])) (.b (.c [32,9]))=o I:=(bw bh).2.trans (congrArg o aN);exact pz 1 [B.l dS,B.i cC] z (by kernel_rfl)
theorem atG{r:Nat}(aN:h3 q=C)(ah:pF (q::t)=r+1):∃e_ gk ae,dK (bp ab (z+1)) ab.b [] Br (vI y Y i d G m) [.b fA]=o (.b (vI y Y (i+(r+1)) e_ gk ae) [.b (fA++[.c ((q::t).take (r+1))])]):=by
 obtain⟨aG,aK,_⟩:=xc b4;have dS:=FR c.b aG [.b fA];obtain⟨jX,bh⟩:=bw (Jd (Je c aG) [.b fA]);obtain⟨gV,cC⟩:=bw bh;have cC:bI .In [.b fA] (.b (.c [q])) (.b (.c [32,9]))=o C:=cC.trans (congrArg o aN);have tX:bI .NotEq [.b fA] (.b (.c [q])) (.b (.c [115]))=o (!bR q 115):=tb (lg.2 (by rw[decide_eq_true_iff,Nat.beq_eq];exact⟨fun b=>(m2 b).1,fun b=>by rw[b]⟩)) _;have kY:=ad0 c i (oQ aK);have f0:=adX (oQ aK);rw[b4]at kY f0;have jW:=anS i r [.b fA];have bP:=aqg c.b i (r+1) [.b fA];rw[b4]at bP;have dg:=Ao (bp ab (z+1)) (aE:=fA) (.c ((q::t).take (r+1))) (lW a3 (by decide));have nb:bI .NotEq [.b fA] (.b (.c (pE (q::t)))) (.b (.c []))=o (!bR (pE (q::t)).length 0):=tb (amE _) _;unfold pF at ah;have ah:an ((nE q&&!bR q 115)||j9 q) (mn (q::t)) (an (bR (pE (q::t)).length 0) (mn (q::t)) (pE (q::t)).length)=r+1:=ah;have YO:(pE (q::t)).length≤9000:=by
  unfold pE;generalize b:sO.find? (·.isPrefixOf (q::t))=n;rcases n with _|s;·exact jT _
  ·have:sO.map (fun s=>gd s.length 9000)=sO.map fun _=>I:=by kernel_rfl
   exact cF (a7 this (Gz b))
 have i4:=Kp YO [.b fA];generalize nE q=iv at jX ah;generalize j9 q=zh at gV ah;generalize bR q 115=dx at tX ah;generalize mn (q::t)=z3 at kY ah;generalize pE (q::t)=iB at*;generalize(q::t).take (r+1)=cz at*;have cO:∀{g:Nat},g=r+1→b_ ab 77 1 [.b (.c y),.b (.b i)] (.ok (.b (i+g:Nat)))→b_ ab 77 1 [.b (.c y),.b (.b i)] (.ok (.b (i+(r+1):Nat))):=fun b v=>b▸v;rcases iv;·
  rcases zh;·
   rcases u:bR iB.length 0;·rw[u]at nb ah;rw[show iB.length=r+1 from ah]at i4;exact⟨o (.b (.g C)),o (.b (.c iB)),o (.b (.b (i+(r+1):Nat))),pz 1 [B.l dS,B.i cC,B.l dS,B.i jX,B.l dS,B.i gV,B.j f0,B.i nb,B.u i4,B.i jW,B.r bP,B.s dg] z (by kernel_rfl)⟩
   ·rw[u]at nb ah;have kY:=cO ah kY;exact⟨o (.b (.g C)),o (.b (.c iB)),o (.b (.b (i+(r+1):Nat))),pz 1 [B.l dS,B.i cC,B.l dS,B.i jX,B.l dS,B.i gV,B.j f0,B.i nb,B.j kY,B.i jW,B.r bP,B.s dg] z (by kernel_rfl)⟩
  ·have kY:=cO ah kY;exact⟨o (.b (.g I)),o (.b (.c [])),o (.b (.b (i+(r+1):Nat))),pz 1 [B.l dS,B.i cC,B.l dS,B.i jX,B.l dS,B.i gV,B.j kY,B.i jW,B.r bP,B.s dg] z (by kernel_rfl)⟩
 ·rcases dx;·have kY:=cO ah kY;exact⟨o (.b (.g I)),o (.b (.c [])),o (.b (.b (i+(r+1):Nat))),pz 1 [B.l dS,B.i cC,B.l dS,B.i jX,B.l dS,B.i tX,B.j kY,B.i jW,B.r bP,B.s dg] z (by kernel_rfl)⟩
  ·rcases zh;·
    rcases u:bR iB.length 0;·rw[u]at nb ah;rw[show iB.length=r+1 from ah]at i4;exact⟨o (.b (.g C)),o (.b (.c iB)),o (.b (.b (i+(r+1):Nat))),pz 1 [B.l dS,B.i cC,B.l dS,B.i jX,B.l dS,B.i tX,B.l dS,B.i gV,B.j f0,B.i nb,B.u i4,B.i jW,B.r bP,B.s dg] z (by kernel_rfl)⟩
    ·rw[u]at nb ah;have kY:=cO ah kY;exact⟨o (.b (.g C)),o (.b (.c iB)),o (.b (.b (i+(r+1):Nat))),pz 1 [B.l dS,B.i cC,B.l dS,B.i jX,B.l dS,B.i tX,B.l dS,B.i gV,B.j f0,B.i nb,B.j kY,B.i jW,B.r bP,B.s dg] z (by kernel_rfl)⟩
   ·have kY:=cO ah kY;exact⟨o (.b (.g I)),o (.b (.c [])),o (.b (.b (i+(r+1):Nat))),pz 1 [B.l dS,B.i cC,B.l dS,B.i jX,B.l dS,B.i tX,B.l dS,B.i gV,B.j kY,B.i jW,B.r bP,B.s dg] z (by kernel_rfl)⟩
end
theorem atz{y:List Nat}(c:DA y)(z:Nat)(Y:M){t:List Nat}{p:List (List Nat)}(s:ok t p):∀(i e8:Nat)(d G m:Option K)(fA:List M),y.drop i=t→i≤y.length→t.length<e8→fA.length+p.length<900→∃qb e_ gk ae,oK (fun A f=>d_ (bp ab (z+1)) ab.b DS A [] f) (dK (bp ab (z+1)) ab.b [] Br) e8 (vI y Y i d G m) [.b fA]=o (.b (vI y Y qb e_ gk ae) [.b (fA++p.map .c)]):=by have X:∀i d G m(fA:List M)(e:Bool),a6 (i<y.length)=e→d_ (bp ab (z+1)) ab.b DS (vI y Y i d G m) [] [.b fA]=cW (.b (.g e)) [.b fA]:=fun i d G m fA e aN=>oG 1 [B.u (Kp c.b [.b fA]),B.i (KA c i aN [.b fA])] z (by kernel_rfl);induction s with
 |e=>
  intro i e8 d G m fA b4 a4 a3 ah;rcases e8 with _|e8;·exact absurd a3 (tG _)
  ·refine⟨i,d,G,m,(F8 ?_).trans (congrArg (fun p=>o (bV.b _ [eJ.b p])) (hE _).symm)⟩;exact X i d G m fA C (decide_eq_false (jS.2 (Gj.1 b4)))
 |b q t p aN _ ak=>
  intro i e8 d G m fA b4 a4 a3 ah;rcases e8 with _|e8;·exact absurd a3 (tG _)
  ·obtain⟨_,aK,bA⟩:=xc b4;obtain⟨qb,e_,gk,ae,b⟩:=ak (i+1) e8 d G m fA bA aK (L8 a3) ah;refine⟨qb,e_,gk,ae,B0 ?_ ((congrArg (fun n=>h6 n _) (ato c z Y i d G m (gR (ho ..) ah) b4 aN)).trans b)⟩;exact X i d G m fA I (decide_eq_true aK)
 |g q t p r aN aW aw _ ak=>
  intro i e8 d G m fA b4 a4 a3 ah;rcases e8 with _|e8;·exact absurd a3 (tG _)
  ·obtain⟨_,aK,bA⟩:=xc b4;obtain⟨b6,gl,qi,aG⟩:=atG c z Y i d G m (gR (ho ..) ah) b4 aN aW;have dN:y.drop (i+(r+1))=t.drop r:=by rw[←Gi,b4];rfl
   have g9:i+(r+1)≤y.length:=by have:y.length-i=t.length+1:=lj.symm.trans (congrArg Cd b4);exact Nat.add_le_of_le_sub' a4 (bt (kn aw) (ff this.symm))
   obtain⟨qb,e_,gk,ae,b⟩:=ak (i+(r+1)) e8 b6 gl qi (fA++[.c ((q::t).take (r+1))]) dN g9 (gR (bt (ff lj) (Nat.sub_le ..)) (L8 a3)) (by rw[fy,lk];show fA.length+(1+p.length)<900;rw[lV 1];exact ah);refine⟨qb,e_,gk,ae,B0 ?_ ((congrArg (fun n=>h6 n _) aG).trans (b.trans (congrArg (fun p=>o (bV.b _ [eJ.b p])) (kQ ..))))⟩;exact X i d G m fA I (decide_eq_true aK)
theorem ad1{y:List Nat}(c:DA y)(Y:M){p:List (List Nat)}(s:ok y p)(aw:p.length<900):b_ ab 78 2 [.b (.c y),.b Y] (.ok (.f (p.map .c))):=fun z f=>by obtain⟨qb,e_,gk,ae,b⟩:=atz c z Y s 0 tt U U U [] rfl (jT _) (gR c.b (by decide)) (by rw[List.length_nil,q0];exact aw);exact iX 2 [B.v (k:=.k DS Br) b] z (by kernel_rfl)
end
section
open PySem
abbrev f6:=aV×List Nat
def eP:List f6→List Nat|[]=>[]|k::p=>k.1.bT++(k.2++eP p)
noncomputable def iU(t:List Nat):Nat:=match t with|q::_=>q|[]=>32
noncomputable def ld:List Nat:=[32,9,40,41,44,43,45]
noncomputable def FH:List aF:=[.d,.e,.g,.f,.i,.j]
noncomputable def DT:List Nat:=[48,49,50,51,52,53,54,55,56,57,114,119,117,115]
noncomputable def mS(s:aV)(q:Nat):Bool:=ld.any (bR q)||(DT.any (bR q)&&FH.any fun v=>bd v (o s))
noncomputable def g3(s:aV):Bool:=bd .m (o s)||bd .n (o s)
def Aj:List f6→Prop|[]=>True|k::p=>mS k.1 (iU (k.2++eP p))=I∧Aj p
structure rz(bm:List f6):Prop where
 c:∀k∈bm,∀q∈k.2,h3 q=I
 b:∀k∈bm,k.1.d9
theorem aqG(t:List Nat):ld.map (fun q=>eI.map fun s=>an (g3 s) 0 (pF (s.bT++q::t)))=ld.map fun _=>eI.map fun s=>an (g3 s) 0 s.bT.length:=by kernel_rfl
theorem aqw:eI.map (fun s=>an (g3 s) 0 (pF (s.bT++[])))=eI.map fun s=>an (g3 s) 0 s.bT.length:=by kernel_rfl
theorem ap3(t:List Nat):DT.map (fun q=>FH.map fun v=>pF (aF.b v++q::t))=DT.map fun _=>FH.map fun v=>(aF.b v).length:=by kernel_rfl
theorem alF:eI.map (fun s=>lN s.bT fun q=>!h3 q)=eI.map fun _=>I:=by kernel_rfl
theorem Eu:(de 16).map (fun F=>(oM (ce F),bR (ce F) 35,bR (ce F) 47,eS (ce F) 128))=(de 16).map fun _=>(I,C,C,I):=by kernel_rfl
theorem RE:(de 10).map (fun F=>(K2 (ce F),h3 (ce F)))=(de 10).map fun _=>(I,C):=by kernel_rfl
theorem asC(ad t:List Nat):(∀q∈ad,oM q=I)→mn t=0→mn (ad++t)=ad.length:=by induction ad with|nil=>exact fun _ c=>c|cons q ad ak=>intro c b4;show an (oM q) (mn (ad++t)+1) 0=_;rw[c q (dY ..),ak (fun d aH=>c d (e6 _ aH)) b4];rfl
theorem E_(R:Nat→Bool)(c:∀F,F<16→R (ce F)=I)(aX:R 120=I)(e:Bool)(l:Nat):∀q∈(aV.en e l).bT,R q=I:=by
 have aS:∀q∈(jJ (hP e) l).map ce,R q=I:=fun q bf=>by obtain⟨F,aI,rfl⟩:=pN.1 bf;exact c F (fg (rN (mH e) l F aI) (w5 e))
 rcases e;·exact aS
 ·intro q bf;rcases gQ.1 bf with rfl|bf;·exact c 0 (by decide)
  ·rcases gQ.1 bf with rfl|bf;·exact aX
   ·exact aS q bf
theorem aso{t:List Nat}(c:oM (iU t)=C):mn t=0:=by
 rcases t with _|⟨q,t⟩;·rfl
 ·show an (oM q) _ 0=0;rw[show oM q=C from c];rfl
theorem aqx:ld.map oM=ld.map fun _=>C:=by kernel_rfl
theorem An{p:List Nat}{q:Nat}(c:p.any (bR q)=I):q∈p:=by obtain⟨d,aH,b⟩:=tC.1 c;exact g5 b▸aH
theorem aou{e:Bool}{l q:Nat}(c:mS (.en e l) q=I):q∈ld:=by
 rcases b:ld.any (bR q);·unfold mS at c;rw[b]at c;exact nomatch(e5.1 c).2
 ·exact An b
theorem arC{s:aV}(bu:s.d9)(a9:g3 s=C){t:List Nat}(c:mS s (iU t)=I):pF (s.bT++t)=s.bT.length:=by
 have hr:s∈eI→pF (s.bT++t)=s.bT.length:=fun a3=>by
  have bC:iU t∈ld→pF (s.bT++t)=s.bT.length:=fun aW=>by
   rcases t with _|⟨q,t⟩;·have:=a7 aqw a3;rwa[a9]at this
   ·have:=a7 (a7 (aqG t) aW) a3;rwa[a9]at this
  unfold mS at c;rcases b:ld.any (bR (iU t));·
   rw[b]at c;obtain⟨H,L⟩:=e5.1 (show(DT.any (bR (iU t))&&FH.any fun v=>bd v (o s))=I from c);obtain⟨v,ar,aK⟩:=tC.1 L;obtain rfl:=aJ (jL aK);rcases t with _|⟨q,t⟩;·exact nomatch b
   ·exact a7 (a7 (ap3 t) (An H)) ar
  ·exact bC (An b)
 rcases s with⟨e,z⟩|⟨e,l⟩|v;·exact hr (mh bu)
 ·obtain⟨F,ad,aI,b⟩:=qG e l;have x:=asC _ t (E_ oM (fun F aI=>(bw (a7 Eu (gc.2 aI))).1) (by decide) e l) (aso (a7 aqx (aou c)));unfold pF;have k:lN ((aV.en e l).bT++t) K2=I:=by rw[b];exact(bw (a7 RE (gc.2 aI))).1
  rw[k];exact x
 ·exact hr (mg bu)
theorem Ua{s:aV}(bu:s.d9):∃q ad,s.bT=q::ad∧h3 q=C:=by
 have hr:s∈eI→∃q ad,s.bT=q::ad∧h3 q=C:=fun a3=>by
  have:=a7 alF a3;rcases b:s.bT with _|⟨q,ad⟩;·rw[b]at this;exact nomatch this
  ·rw[b]at this;exact⟨q,ad,rfl,(m1 _▸this:h3 q=C)⟩
 rcases s with⟨e,z⟩|⟨e,l⟩|v;·exact hr (mh bu)
 ·obtain⟨F,ad,aI,b⟩:=qG e l;exact⟨_,ad,b,(bw (a7 RE (gc.2 aI))).2⟩
 ·exact hr (mg bu)
theorem arQ{t:List Nat}{p:List (List Nat)}(c:ok t p)(E:List Nat):(∀q∈E,h3 q=I)→ok (E++t) p:=by induction E with|nil=>exact fun _=>c|cons q E ak=>exact fun cN=>.b q _ _ (cN q (dY ..)) (ak fun d aH=>cN d (e6 _ aH))
noncomputable def dr(bm:List f6):List aV:=bm.map (·.1)
theorem arR(bm:List f6):rz bm→Aj bm→(∀k∈bm,g3 k.1=C)→ok (eP bm) ((dr bm).map aV.bT):=by induction bm with|nil=>exact fun _ _ _=>.e|cons k bm ak=>intro cN aW a9;obtain⟨s,E⟩:=k;have Ny:=cN.b _ (dY ..);obtain⟨q,ad,b,aN⟩:=Ua Ny;have dj:=arC Ny (a9 _ (dY ..)) aW.1;have D:=arQ (ak ⟨fun k al=>cN.c k (e6 _ al),fun k al=>cN.b k (e6 _ al)⟩ aW.2 fun k al=>a9 k (e6 _ al)) E (cN.c _ (dY ..));show ok (s.bT++(E++eP bm)) (s.bT::(dr bm).map aV.bT);generalize E++eP bm=t at dj D⊢;have dj:pF (s.bT++t)=s.bT.length:=dj;rw[b]at dj⊢;have be:(ad++t).drop ad.length=t:=List.drop_left;have U9:(q::(ad++t)).take (ad.length+1)=q::ad:=congrArg (q::·) List.take_left;have bk:=ok.g q (ad++t) ((dr bm).map aV.bT) ad.length aN dj (by rw[fy];exact ho ..) (by rw[be];exact D);rw[U9]at bk;exact bk
end
section
open PySem
def jI(s y:List Nat):List Nat:=co (jf y s) (fun i=>y.take i) y
theorem Jj(s y:List Nat):(jI s y).length≤y.length:=by
 unfold jI;rcases jf y s with _|i;·exact df _
 ·exact L3 ..
noncomputable def KX(y:List Nat)(G m:Option K):List (Option K):=[o (.b (.c y)),G,m]
noncomputable def K4(n:Option Nat):Int:=co n (fun i=>(i:Int)) (-1)
theorem Tk(z:Nat){y:List Nat}(c:y.length≤9000)(s:List Nat)(G m:Option K):fG (g0 (bp ab z) ab.b [] (.b 1) (.b (.c s)) (KX y G m) []) (dK (bp ab z) ab.b [] Fs)=o (.b (KX (jI s y) (o (.b (.c s))) (o (.b (.b (K4 (jf y s)))))) []):=by
 have w:jM (bp ab (z+0)) .b (.b (.c y)) .qj [.b (.c s)] []=o (.ok (.b (.b (K4 (jf y s)))),[]):=by show cI ((o (M.b (match jf y s with|some i=>(i:Int)|none=> -1))).map K.b) []=_;rcases jf y s<;>rfl
 unfold jI;generalize jf y s=n at w⊢;rcases n with _|i;·exact fX 0 [B.s w] z (by kernel_rfl)
 ·have p:hQ (.b (.c y)) (.b .e) (.b (.b i))=o (.c (y.take i)):=(if_pos (bt c (by decide))).trans (congrArg (fun p=>o (M.c p)) (Jm y i));exact fX 0 [B.s w,B.i (JQ (decide_eq_true (jP i)) []),B.r p] z (by kernel_rfl)
theorem adI{y:List Nat}(c:y.length≤9000):b_ ab 79 1 [.b (.c y)] (.ok (.c (jI [47,47] (jI [35] y)))):=fun z f=>by have gY:=Tk z c [35] U U;have dc:=Tk z (bt (Jj [35] y) c) [47,47] (o (.b (.c [35]))) (o (.b (.b (K4 (jf y [35])))));let bC:=fun dF A f=>fG (g0 (bp ab z) ab.b [] (.b 1) (.b dF) A f) (dK (bp ab z) ab.b [] Fs);have S:=(rO (X:=bp ab (z+0)) (aB:=ab.b) (ax:=[]) (g':=C) (s:=.b 1) (a':=.n (.d (.b (.c [35])) (.d (.b (.c [47,47])) .e))) (e:=Fs) (A:=KX y U U) (f:=[]) (d:=.b (.j [.c [35],.c [47,47]])) (p:=[.c [35],.c [47,47]]) rfl rfl).trans ((congrArg (fun n=>h6 n (jd bC [.c [47,47]])) gY).trans ((congrArg (fun n=>h6 n (jd bC [])) dc).trans rfl));exact iX 1 [B.v S] z (by kernel_rfl)
theorem aoW(y s:List Nat):uG y s 0=s.isPrefixOf y:=lg.2 (by unfold uG;rw[decide_eq_true_iff,L1,List.prefix_iff_eq_take,q0];exact⟨fun c=>c.2.symm,fun c=>⟨by rw[c];exact L3 ..,c.symm⟩⟩)
theorem aeJ(g:Nat)(s:List Nat):jI (g::s) []=[]:=by unfold jI;rw[aox];rfl
theorem P6(q:Nat)(y s:List Nat):jI s (q::y)=an (s.isPrefixOf (q::y)) [] (q::jI s y):=by
 unfold jI;rw[aow,aoW];rcases s.isPrefixOf (q::y);·rcases jf y s<;>rfl
 ·rfl
def td(s:List Nat):List Nat→Prop|[]=>True|q::ad=>(∀t,s.isPrefixOf (q::(ad++t))=C)∧td s ad
theorem P5{s ad:List Nat}(t:List Nat):td s ad→jI s (ad++t)=ad++jI s t:=by induction ad with|nil=>exact fun _=>rfl|cons q ad ak=>intro c;show jI s (q::(ad++t))=q::(ad++jI s t);rw[P6,c.1 t,ak c.2];rfl
noncomputable def E2(ad:List Nat):Bool:=ad.all fun q=>!bR q 35
noncomputable def A_:List Nat→Bool|[]=>I|q::ad=>(!bR q 47||(match ad with|F::_=>!bR F 47|[]=>C))&&A_ ad
theorem IV{q v:Nat}(c:(!bR q v)=I):(v==q)=C:=by
 rcases b:v==q;·rfl
 ·rw[eq_of_beq b,vU]at c;exact nomatch c
theorem S0(ad:List Nat):E2 ad=I→td [35] ad:=by induction ad with|nil=>exact fun _=>trivial|cons q ad ak=>intro c;obtain⟨H,L⟩:=e5.1 (show(!bR q 35&&E2 ad)=I from c);exact⟨fun t=>by show((35:Nat)==q&&_)=C;rw[IV H];rfl,ak L⟩
theorem S1(ad:List Nat):A_ ad=I→td [47,47] ad:=by induction ad with|nil=>exact fun _=>trivial|cons q ad ak=>
 intro c;obtain⟨H,L⟩:=e5.1 c;refine⟨fun t=>?_,ak L⟩;rcases b:bR q 47;·show((47:Nat)==q&&_)=C;rw[IV (by rw[b];rfl)];rfl
 ·rw[b]at H;rcases ad with _|⟨F,ad⟩;·exact nomatch H
  ·have H:(!bR F 47)=I:=H;show((47:Nat)==q&&((47:Nat)==F&&_))=C;rw[IV H];exact qX _
theorem EU:eI.map (fun s=>(an (bd .m (o s)) I (E2 s.bT),an (bd .n (o s)) I (A_ s.bT)))=eI.map fun _=>(I,I):=by kernel_rfl
theorem SQ(ad:List Nat):(∀q∈ad,bR q 47=C)→A_ ad=I:=by induction ad with|nil=>exact fun _=>rfl|cons q ad ak=>intro c;show((!bR q 47||_)&&A_ ad)=I;rw[c q (dY ..),ak fun d aH=>c d (e6 _ aH)];rfl
theorem SP{ad:List Nat}(c:∀q∈ad,bR q 35=C):E2 ad=I:=fe.2 fun q bf=>by rw[c q bf];rfl
theorem arA{s:aV}(bu:s.d9)(c:bd .m (o s)=C):td [35] s.bT:=S0 _ (by
 rcases s with⟨e,z⟩|⟨e,l⟩|v;·exact(bw (a7 EU (mh (e:=e) bu))).1
 ·exact SP fun q bf=>by have:=E_ (fun q=>!bR q 35) (fun F aI=>by rw[(bw (bw (a7 Eu (gc.2 aI))).2).1];rfl) (by decide) e l q bf;exact m1 _▸this
 ·have:=(bw (a7 EU (mg bu))).1;rwa[c]at this)
theorem arB{s:aV}(bu:s.d9)(c:bd .n (o s)=C):td [47,47] s.bT:=S1 _ (by
 rcases s with⟨e,z⟩|⟨e,l⟩|v;·exact(bw (a7 EU (mh (e:=e) bu))).2
 ·exact SQ _ fun q bf=>by have:=E_ (fun q=>!bR q 47) (fun F aI=>by rw[(bw (bw (bw (a7 Eu (gc.2 aI))).2).2).1];rfl) (by decide) e l q bf;exact m1 _▸this
 ·have:=(bw (a7 EU (mg bu))).2;rwa[c]at this)
def me(v:aF):List f6→List f6|[]=>[]|k::p=>an (bd v (o k.1)) [] (k::me v p)
theorem Pq{q:Nat}(c:h3 q=I):bR q 35=C∧bR q 47=C:=by
 rcases b:bR q 32;·unfold h3 at c;rw[b]at c;obtain rfl:q=9:=g5 c;exact⟨rfl,rfl⟩
 ·obtain rfl:q=32:=g5 b;exact⟨rfl,rfl⟩
theorem P8(v:aF)(s:List Nat)(cz:∀{ad:aV},ad.d9→bd v (o ad)=C→td s ad.bT)(Wj:∀E:List Nat,(∀q∈E,h3 q=I)→td s E)(eW:aF.b v=s)(ah:∀t,s.isPrefixOf (s++t)=I)(c3:s≠[])(bm:List f6):rz bm→jI s (eP bm)=eP (me v bm):=by induction bm with
 |nil=>
  intro _;rcases s with _|⟨g,s⟩;·exact absurd rfl c3
  ·exact aeJ g s
 |cons k bm ak=>
  intro cN;have D:=ak ⟨fun k al=>cN.c k (e6 _ al),fun k al=>cN.b k (e6 _ al)⟩;show jI s (k.1.bT++(k.2++eP bm))=eP (an (bd v (o k.1)) [] (k::me v bm));rcases b:bd v (o k.1);·rw[P5 _ (cz (cN.b k (dY ..)) b),P5 _ (Wj _ (cN.c k (dY ..))),D];rfl
  ·have:k.1.bT=s:=(congrArg dq (jL b)).trans eW;rw[this];generalize k.2++eP bm=t;have ah:=ah t;rcases s with _|⟨g,s⟩;·exact absurd rfl c3
   ·show jI (g::s) (g::(s++t))=[];rw[P6];exact e0 ah rfl
end
section
open PySem
def rK(bm:List f6):List f6:=me .n (me .m bm)
theorem uK(v:aF)(bm:List f6):∀k∈me v bm,k∈bm∧bd v (o k.1)=C:=by induction bm with|nil=>exact fun k c=>nomatch c|cons u bm ak=>
 intro k c;have c:k∈an (bd v (o u.1)) [] (u::me v bm):=c;rcases b:bd v (o u.1);·
  rw[b]at c;rcases gQ.1 c with rfl|c;·exact⟨dY ..,b⟩
  ·exact⟨e6 _ (ak k c).1,(ak k c).2⟩
 ·rw[b]at c;exact nomatch c
theorem P4(v:aF)(bm:List f6):(me v bm).length≤bm.length:=by induction bm with|nil=>exact df _|cons u bm ak=>
 show(an (bd v (o u.1)) [] (u::me v bm)).length≤_;rcases bd v (o u.1);·exact kn ak
 ·exact jT _
theorem Ji(v:aF)(s:aV)(aQ:List aV):mI v (s::aQ)=an (bd v (o s)) [] (s::mI v aQ):=by
 unfold mI;rw[Gm];rcases bd v (o s);·rcases aQ.findIdx? (fun s=>bd v (o s))<;>rfl
 ·rfl
theorem T'(v:aF)(bm:List f6):dr (me v bm)=mI v (dr bm):=by induction bm with|nil=>rfl|cons k bm ak=>show dr (an (bd v (o k.1)) [] (k::me v bm))=mI v (k.1::dr bm);rw[Ji,←ak];rcases bd v (o k.1)<;>rfl
theorem AR{bm p:List f6}(c:rz bm)(aW:∀k∈p,k∈bm):rz p:=⟨fun k al=>c.c k (aW k al),fun k al=>c.b k (aW k al)⟩
structure Ai(bm:List f6):Prop where
 b:rz bm
 f:Aj (rK bm)
 d:(eP bm).length≤9000
 e:bm.length<900
theorem PT:eI.map (fun s=>s.bT.all fun q=>eS q 128)=eI.map fun _=>I:=by kernel_rfl
theorem acV{q:Nat}(c:h3 q=I):q<128:=by
 rcases b:bR q 32;·unfold h3 at c;rw[b]at c;obtain rfl:q=9:=g5 c;decide
 ·obtain rfl:q=32:=g5 b;decide
theorem arz{s:aV}(bu:s.d9):∀q∈s.bT,q<128:=by
 rcases s with⟨e,z⟩|⟨e,l⟩|v;·exact fun q bf=>cF (fe.1 (a7 PT (mh (e:=e) bu)) q bf)
 ·exact fun q bf=>cF (E_ (fun q=>eS q 128) (fun F aI=>(bw (bw (bw (a7 Eu (gc.2 aI))).2).2).2) rfl e l q bf)
 ·exact fun q bf=>cF (fe.1 (a7 PT (mg bu)) q bf)
theorem amC(bm:List f6):rz bm→∀q∈eP bm,q<128:=by induction bm with|nil=>exact fun _ q c=>nomatch c|cons k bm ak=>
 intro cN q bf;rcases Gy.1 bf with c|c;·exact arz (cN.b k (dY ..)) q c
 ·rcases Gy.1 c with c|c;·exact acV (cN.c k (dY ..) q c)
  ·exact ak (AR cN fun k al=>e6 _ al) q c
theorem aoU(t:List Nat):List.isPrefixOf [35] ([35]++t)=I:=rfl
theorem aoV(t:List Nat):List.isPrefixOf [47,47] ([47,47]++t)=I:=rfl
section
variable{bm:List f6}(c:Ai bm)
include c
theorem TG:jI [47,47] (jI [35] (eP bm))=eP (rK bm):=by rw[P8 .m [35] arA (fun E cN=>S0 E (SP fun q bf=>(Pq (cN q bf)).1)) rfl aoU (yD _ _) bm c.b];exact P8 .n [47,47] arB (fun E cN=>S1 E (SQ E fun q bf=>(Pq (cN q bf)).2)) rfl aoV (yD _ _) _ (AR c.b fun k al=>(uK _ _ k al).1)
theorem apG:∀k∈rK bm,k∈bm:=fun k al=>(uK _ _ k (uK _ _ k al).1).1
theorem BA:dr (rK bm)=fl (dr bm):=(T' _ _).trans (congrArg (mI .n) (T' _ _))
theorem TH:dP (fl (dr bm)):=by have y:dP (dr bm):=⟨bt (ff (dA ..)) (bt (oQ c.e) (by decide)),fun s bu=>by obtain⟨k,al,rfl⟩:=pN.1 bu;exact c.b.b k al⟩;exact yq (yq y _) _
theorem I7:b_ ab 79 1 [.b (.c (eP bm))] (.ok (.c (eP (rK bm)))):=TG c▸adI c.d
theorem I_(Y:M):b_ ab 78 2 [.b (.c (eP (rK bm))),.b Y] (.ok (d5 (fl (dr bm)))):=by
 have E:=AR c.b (apG c);have jB:(eP (rK bm)).length≤9000:=by rw[←TG c];exact bt (Jj ..) (bt (Jj ..) c.d)
 have m:=arR _ E c.f fun k al=>by obtain⟨H,L⟩:=uK _ _ k al;show(bd .m (o k.1)||bd .n (o k.1))=C;rw[(uK _ _ k H).2,L];rfl
 have bk:=ad1 ⟨jB,amC _ E⟩ Y m (by rw[dA,BA c,←BA c];exact gR (ff (dA ..)) (gR (bt (P4 ..) (P4 ..)) c.e));rw[←BA c,UK];exact bk
noncomputable def apy(n:Option cY):Except M M:=match n with|some w=>.ok (eb w)|none=>.error .e
theorem I9:b_ ab 104 15 [.b (.c (eP bm))] (apy (mL (a_ (fl (dr bm))))):=by
 have v:=PN .e (TH c) 0;have k:=I7 c;have x:=I_ c .e;rw[←KY];unfold fW;generalize qJ (a_ (fl (dr bm))) 0=t at v⊢;obtain⟨_|⟨w,_|⟨q,E⟩⟩,Q⟩:=t;·exact ck 15 [B.j k,B.j x,B.p v] fun z f=>by kernel_rfl
 ·exact ck 15 [B.j k,B.j x,B.p v] fun z f=>by kernel_rfl
 ·have u:bI .NotEq (bv (fl (dr bm)) .e Q) (.b (.c (q::E))) (.b (.c []))=o I:=tb (decide_eq_false (yD q E)) _;exact ck 15 [B.j k,B.j x,B.p v,B.i u] fun z f=>by kernel_rfl
end
end
section
open PySem
theorem ag8:(de 10).map (fun F=>(Nat.digitChar F).toNat)=(de 10).map ce:=by kernel_rfl
theorem T7(w:Nat):∀l(aE:List Nat)(tS:List Char),l<w→tS.map B5=aE.map ce→(Nat.toDigitsCore 10 w l tS).map B5=(xb 10 w l aE).map ce:=by induction w with|zero=>exact fun l aE tS c _=>absurd c (tG l)|succ w ak=>
 intro l aE tS c b;show(if l/10=0 then Nat.digitChar (l%10)::tS else Nat.toDigitsCore 10 w (l/10) (Nat.digitChar (l%10)::tS)).map B5=(an (eS l 10) (l::aE) (xb 10 w (l/10) (l%10::aE))).map ce;have F:=a7 ag8 (gc.2 (jR l (by decide:10>0)));rcases u:eS l 10;·have bE:10≤l:=jS.1 fun q=>nR (u.symm.trans (Cj.symm▸q));rw[if_neg (pS (Nat.div_pos bE (by decide)))];exact ak _ _ _ (fg (Nat.div_lt_self (fg (by decide) bE) (by decide)) (Ck c)) (by rw[pL,pL,F,b])
 ·have bE:l<10:=Cj▸u;rw[if_pos (Nat.div_eq_of_lt bE)];show _::tS.map B5=ce l::aE.map ce;rw[F,b,Nat.mod_eq_of_lt bE]
def jt(l:Nat):List Nat:=(aV.en C l).bT
theorem ag3(l:Nat):rM (l:Int)=jt l:=by have:(toString (l:Int))=String.ofList (Nat.toDigits 10 l):=rfl;unfold rM;rw[this,String.toList_ofList];exact T7 _ _ _ _ (pR l) rfl
theorem ag4(l:Nat)(c:0<l):rM (-(l:Int))=45::jt l:=by obtain⟨v,rfl⟩:∃v,l=v+1:=⟨l-1,(Nat.succ_pred_eq_of_pos c).symm⟩;have b:(toString (-((v+1:Nat):Int)))="-"++String.ofList (Nat.toDigits 10 (v+1)):=rfl;unfold rM;rw[b,String.toList_append,vR];refine congrArg (45::·) ?_;rw[String.toList_ofList];exact T7 _ _ [] _ (pR _) rfl
theorem Td{l:Nat}(c:l<2^70):l<2^1000:=lW c (vW (by decide) (by decide))
structure fk where
 e:Bool
 c:Nat
 f:c<2^70
 g:e=I→0<c
def fk.b(d:fk):Int:=BH d.e d.c
def Ev(d:fk):List Nat:=an d.e (45::jt d.c) (jt d.c)
def TJ(d:fk):List Nat:=an d.e 45 43::jt d.c
theorem FQ{l:Nat}(c:l<2^70)(f:af):h2 .f5 f [.b (.b l)]=o (.b (.c (jt l))):=(if_pos (Td c)).trans (congrArg (fun y=>o (K.b (.c y))) (ag3 l))
theorem ys(d:fk)(f:af):h2 .f5 f [.b (.b d.b)]=o (.b (.c (Ev d))):=by
 obtain⟨_|_,z,c,k⟩:=d;·exact FQ c f
 ·exact(if_pos (by rw[show(fk.mk I z c k).b= -(z:Int)from rfl,Gf];exact Td c)).trans (congrArg (fun y=>o (K.b (.c y))) (ag4 z (k rfl)))
theorem E5(l:Int)(c:l.natAbs<2^70):∃d:fk,d.b=l:=by
 rcases Int.natAbs_eq l with b|b;·exact⟨⟨C,l.natAbs,c,fun b=>nomatch b⟩,b.symm⟩
 ·rcases L6 l.natAbs with m|m;·exact⟨⟨C,l.natAbs,c,fun b=>nomatch b⟩,(congrArg Int.ofNat m).trans (Int.natAbs_eq_zero.1 m).symm⟩
  ·exact⟨⟨I,l.natAbs,c,fun _=>m⟩,b.symm⟩
abbrev hg:={y:List Nat//y.length≤400}
noncomputable def x3(g:List Nat)(p:List hg):List Nat:=p.foldl (fun g k=>g++k.1) g
theorem IL{g e:List Nat}{v:Nat}(aY:g.length≤400*v)(aN:e.length≤400):(g++e).length≤400*(v+1):=by rw[fy];exact km aY aN
theorem amh(p:List hg):∀{g:List Nat}{v:Nat},g.length≤400*v→(x3 g p).length≤400*(v+p.length):=by induction p with|nil=>exact fun c=>c|cons k p ak=>intro g v c;have:=ak (IL c k.2);rw[Gv,lV p.length,←lk];exact this
theorem w9{g e:List Nat}{v:Nat}(aY:g.length≤400*v)(aN:e.length≤400)(ar:v<200):fF .Add (.b (.c g)) (.b (.c e))=o (.c (g++e)):=if_pos (bt (km aY aN) (bt (tF 400 ar:400*(v+1)≤400*200) (by decide)))
noncomputable def US(g:List Nat)(v:Nat)(aY:g.length≤400*v)(p:List hg)(c:v+p.length≤200):List B:=match p with|[]=>[]|k::p=>B.q (n:=.Add) (d:=.b (.c g)) (G:=.b (.c k.1)) (k:=.c (g++k.1)) (w9 aY k.2 (fg (Nat.lt_add_of_pos_right (Nat.zero_lt_succ _)) c))::US (g++k.1) (v+1) (IL aY k.2) p (bt (ff (GI v _)) c)
noncomputable def f8(g:hg)(CF Oo:List hg)(c:gd (CF.length+Oo.length) 190=I):List B:=US (x3 g.1 CF) (1+CF.length) (amh CF (bt g.2 (ff (Nat.mul_one 400).symm))) Oo (bt (ff (lk ..)) (bt (r' (cF c) 1) (by decide)))
theorem amg(m:hg)(p:List hg):∀g:List Nat,x3 g (p++[m])=g++p.foldr (fun k t=>k.1++t) m.1:=by induction p with|nil=>exact fun g=>rfl|cons k p ak=>exact fun g=>(ak (g++k.1)).trans (kQ ..)
noncomputable def b3(y:List Nat)(c:gd y.length 400=I):hg:=⟨y,cF c⟩
def ec(e:Bool)(r:Nat):List Nat:=(aV.fT e r).bT
theorem Ld(e:Bool)(r:Nat):(ec e r).length≤400:=by
 show(an (bR r 10) [49,48] [48+r]).length+1≤400;rcases bR r 10;·exact cF rfl
 ·exact cF rfl
theorem x_{l:Nat}(c:l<2^70):(jt l).length≤90:=by show(List.map ce (jJ 10 l)).length≤90;rw[dA];exact tc C c
theorem alM(d:fk):(Ev d).length≤91:=by
 have:=x_ d.f;unfold Ev;rcases d.e;·exact yK this
 ·exact kn this
def dy(e:Bool)(r:Nat):hg:=⟨ec e r,Ld e r⟩
def pv(d:fk):hg:=⟨Ev d,bt (alM d) (by decide)⟩
def qL(d:fk):hg:=⟨TJ d,bt (kn (x_ d.f)) (by decide)⟩
def oD(r:Nat)(d:fk):List Nat:=ec C r++(32::an d.e 45 43::32::jt d.c)
theorem aoE(r:Nat)(d:fk):(oD r d).length≤400:=by
 unfold oD;rw[fy];have c:(ec C r).length≤10:=by
  show(an (bR r 10) [49,48] [48+r]).length+1≤10;rcases bR r 10;·exact cF rfl
  ·exact cF rfl
 exact bt (km c (pP (x_ d.f) 3)) (by decide)
def qK(r:Nat)(d:fk):hg:=⟨oD r d,aoE r d⟩
theorem apo(v:Nat)(f:af):d8.map (fun e=>(de 11).map fun r=>bp ab (v+5) 56 [.b (.b (r:Nat)),.b (.b (eo e))] f)=d8.map fun e=>(de 11).map fun r=>o (.ok (.b (.c (ec e r))),f):=by kernel_rfl
theorem iZ(e:Bool){r:Nat}(c:r≤10):b_ ab 56 5 [.b (.b r),.b (.b (eo e))] (.ok (.c (ec e r))):=fun v f=>a7 (a7 (apo v f) (hB e)) (gc.2 (Cn c))
theorem Lp(d:fk):a6 (d.b<0)=d.e:=by
 obtain⟨_|_,z,c,k⟩:=d;·exact decide_eq_false (oP.2 (jP z))
 ·exact decide_eq_true (Int.neg_neg_of_pos (Int.natCast_pos.2 (k rfl)))
theorem BY(d:fk):b_ ab 57 1 [.b (.b d.b)] (.ok (.c (TJ d))):=by
 have u:=JP d.b 0 [];rw[Lp]at u;have w:=ys d [];obtain⟨_|_,z,c,k⟩:=d;·exact ck 1 [B.i u,B.u w,B.q (w9 (v:=1) (g:=[43]) (e:=jt z) (by decide) (bt (x_ c) (by decide)) (by decide))] fun z f=>by kernel_rfl
 ·exact ck 1 [B.i u,B.u w] fun z f=>by kernel_rfl
theorem yy{r:Nat}(ah:r≤10)(d:fk):b_ ab 58 6 [.b (.b r),.b (.b d.b)] (.ok (.c (oD r d))):=by
 have u:bI .Lt [] (.b (.b d.b)) (.b (.b 0))=o d.e:=congrArg o (Lp d);obtain⟨y,z,c,k⟩:=d;have aS:∀(ad:List Nat)(cu:ad.length≤400),ec C r++ad++jt z=ec C r++(ad++jt z):=fun ad _=>kQ ..;have q:=fun(ad:List Nat)(cu:ad.length≤400)=>w9 (v:=1) (g:=ec C r) (e:=ad) (Ld C r) cu (by decide);have mt:=fun(ad:List Nat)(cu:ad.length≤400)=>w9 (v:=2) (g:=ec C r++ad) (e:=jt z) (IL (v:=1) (Ld C r) cu) (bt (x_ c) (by decide)) (by decide);rcases y;·show b_ _ _ _ _ (.ok (.c (ec C r++([32,43,32]++jt z))));rw[←aS _ (by decide)];exact ck 6 [B.i u,B.j (iZ C ah),B.q (q [32,43,32] (by decide)),B.u (FQ c []),B.q (mt [32,43,32] (by decide))] fun z f=>by kernel_rfl
 ·have w:h2 .f5 [] [.b (.b (-(-(z:Int))))]=o (.b (.c (jt z))):=by rw[Int.neg_neg];exact FQ c []
  show b_ _ _ _ _ (.ok (.c (ec C r++([32,45,32]++jt z))));rw[←aS _ (by decide)];exact ck 6 [B.i u,B.j (iZ C ah),B.q (q [32,45,32] (by decide)),B.u w,B.q (mt [32,45,32] (by decide))] fun z f=>by kernel_rfl
end
section
open PySem
structure ex where
 b:dJ
 c:List Nat
 d:List Nat
 e:Bool
structure jG where
 b:Nat
 e:Nat
 c:aF
 d:fk
def wS(k:dJ)(x:jG):Prop:=match k with|.b v=>eS v eQ=I|.c _=>x.b≤10|.e _ p=>(x.c,x.e)∈p∧cZ p (o (.b0 x.c))=o x.e∧eS x.c eQ=I|.d _ m=>fa m x.d.b=I
def ask(k:dJ)(x:jG):List Int:=match k with|.b _=>[]|.c _=>[(x.b:Int)]|.e _ _=>[(x.e:Int)]|.d _ _=>[x.d.b]
def ap2(z:Bool)(d:fk)(iB:List Nat):List f6:=an d.e [(.b0 .i,iB)] (an z [(.b0 .f,iB)] [])
def u4(p:ex)(x:jG):List f6:=match p.b with|.b v=>[(.b0 v,p.c)]|.c e=>[(.fT e x.b,p.c)]|.e _ _=>[(.b0 x.c,p.c)]|.d z m=>ap2 z x.d p.d++[(.en p.e x.d.c,p.c)]
def oc:List dJ→List jG→Prop|[],J=>J=[]|k::T,J=>∃x br,J=x::br∧wS k x∧oc T br
def pH:List dJ→List jG→List Int|[],_=>[]|k::T,J=>match J with|[]=>[]|x::J=>ask k x++pH T J
def gq:List ex→List jG→List f6|[],_=>[]|p::wo,J=>match J with|[]=>[]|x::J=>u4 p x++gq wo J
noncomputable def nQ:fk:=⟨C,0,by decide,fun b=>nomatch b⟩
theorem an3{x:gn}(c2:∀i s,x i=o s→s.d9){fu:Int→Bool}{i Q:Nat}{l:Int}(c:mE x fu i l Q):∃d:fk,d.b=l:=by
 rcases c with⟨s,g,b6,f3,iC⟩|⟨s,g,b6,f3,iC⟩|⟨s,g,b6,iC⟩;·exact E5 _ (by rw[Gf];exact c2 _ _ f3)
 ·exact E5 _ (c2 _ _ f3)
 ·exact E5 _ (c2 _ _ b6)
theorem ary{dk:Type}{x:gn}(c2:∀i s,x i=o s→s.d9){q:dk}(T:List dJ):∀(i:Nat)(w:List Int→Option dk),(∀k∈T,pe k)→c8 x T i w=o q→∃J,oc T J∧w (pH T J)=o q:=by induction T with|nil=>exact fun i w _ c=>FV c fun _ c=>⟨[],rfl,c⟩|cons k T ak=>
 intro i w al c;have t9:∀k∈T,pe k:=fun u cw=>al u (e6 _ cw);rcases k with v|e|⟨q,p⟩|⟨z,m⟩;·exact lf c fun b c=>by obtain⟨J,H,L⟩:=ak _ _ t9 c;exact⟨⟨0,0,aF.c,nQ⟩::J,⟨_,_,rfl,(bw (bw (bw (a7 (EQ 0 []) (al _ (dY ..)))).2).2).2,H⟩,L⟩
 ·exact yu c fun r b c=>by obtain⟨J,H,L⟩:=ak _ _ t9 c;exact⟨⟨r,0,aF.c,nQ⟩::J,⟨_,_,rfl,c2 _ _ b,H⟩,L⟩
 ·exact FW c fun r b c=>by obtain⟨J,H,L⟩:=ak _ _ t9 c;obtain⟨v,ar,aK⟩:=iW b;rw[aK]at b;exact⟨⟨0,r,v,nQ⟩::J,⟨_,_,rfl,⟨ar,b,Nat.ble_eq_true_of_le (c2 _ _ aK)⟩,H⟩,L⟩
 ·exact FX c fun l Q _ _ b c=>by obtain⟨J,H,L⟩:=ak _ _ t9 c;obtain⟨d,rfl⟩:=an3 c2 (mQ b);exact⟨⟨0,0,aF.c,d⟩::J,⟨_,_,rfl,Bb (mQ b),H⟩,L⟩
theorem yA(fD:List aV)(s:aV)(p:List aV):a_ (fD++s::p) fD.length=o s:=by show(fD++s::p)[fD.length]?=_;rw[yE (df _),Nat.sub_self];rfl
theorem Uz(fD:List aV)(s ad:aV)(p:List aV):a_ (fD++s::ad::p) (fD.length+1)=o ad:=by show(fD++s::ad::p)[fD.length+1]?=_;rw[yE (m5 _)];show(s::ad::p)[fD.length+1-fD.length]?=_;rw[yJ];rfl
theorem anO:gO.map (fun k=>k.1&&bR k.2 64)=gO.map fun _=>C:=by kernel_rfl
theorem arv{dk:Type}(O:List ex):∀(J:List jG)(fD:List aV)(w:List Int→Option dk),(∀k∈O.map (·.b),pe k)→oc (O.map (·.b)) J→c8 (a_ (fD++dr (gq O J))) (O.map (·.b)) fD.length w=w (pH (O.map (·.b)) J):=by induction O with|nil=>intro J fD w _ _;show c8 (a_ (fD++[])) [] fD.length w=w [];rw[hE];exact pp (by rw[show a_ fD fD.length=U from Gr.2 (df _)];rfl)|cons p O ak=>
 intro J fD w al aY;obtain⟨x,br,rfl,c2,aY⟩:=aY;have t9:∀k∈O.map (·.b),pe k:=fun u cw=>al u (e6 _ cw);have aS:=fun(s:aV)(w:List Int→Option dk)=>show c8 (a_ (fD++s::dr (gq O br))) (O.map (·.b)) (fD.length+1) w=w (pH (O.map (·.b)) br)by have:=ak br (fD++[s]) w t9 aY;rwa[←List.append_cons,fy]at this
 have Mh:=fun(s ad:aV)(w:List Int→Option dk)=>show c8 (a_ (fD++s::ad::dr (gq O br))) (O.map (·.b)) (fD.length+2) w=w (pH (O.map (·.b)) br)by have:=ak br (fD++[s,ad]) w t9 aY;rwa[kQ,fy]at this
 obtain⟨k,E,iB,aH⟩:=p;rcases k with v|e|⟨q,p⟩|⟨z,m⟩;·exact(k' (yA ..)).trans (aS _ w)
 ·exact(nD (yA ..)).trans (aS _ _)
 ·exact(s4 (by rw[show a_ (fD++dr (gq (⟨.e q p,E,iB,aH⟩::O) (x::br))) fD.length=o (.b0 x.c)from yA ..];exact c2.2.1)).trans (aS _ _)
 ·have Yw:(z&&bR m 64)=C:=a7 anO (al _ (dY ..));have c2:fa m x.d.b=I:=c2;obtain⟨r,q,v,y,g,aY,aW⟩:=x;rcases y;·
   rcases z;·have b:a_ (fD++dr (gq (⟨.d C m,E,iB,aH⟩::O) (⟨r,q,v,C,g,aY,aW⟩::br))) fD.length=o (.en aH g):=yA ..;exact(s5 (l:=(g:Int)) rfl ((congrArg (fun n=>bR m 64&&bd .f n) b).trans (qX _)) (ve (.b _ g b c2))).trans (aS _ _)
   ·have Dm:bR m 64=C:=Yw;have b:a_ (fD++dr (gq (⟨.d I m,E,iB,aH⟩::O) (⟨r,q,v,C,g,aY,aW⟩::br))) fD.length=o (.b0 .f):=yA ..;exact(s5 (l:=(g:Int)) (congrArg (fun n=>I&&!im n) b) (congrArg (fun e=>e&&bd .f (a_ (fD++dr (gq (⟨.d I m,E,iB,aH⟩::O) (⟨r,q,v,C,g,aY,aW⟩::br))) fD.length)) Dm) (ve (.d _ g b (Uz ..) c2))).trans (Mh _ _ _)
  ·have b:a_ (fD++dr (gq (⟨.d z m,E,iB,aH⟩::O) (⟨r,q,v,I,g,aY,aW⟩::br))) fD.length=o (.b0 .i):=yA ..;exact(s5 (l:= -(g:Int)) ((congrArg (fun n=>z&&!im n) b).trans (qX _)) ((congrArg (fun n=>bR m 64&&bd .f n) b).trans (qX _)) (ve (.c _ g b (Uz ..) c2))).trans (Mh _ _ _)
def Es(k:dJ):List Nat:=match k with|.b v=>[iU v.b]|.c e=>[an e 119 114]|.e _ p=>p.map fun b=>iU (aF.b b.1)|.d z _=>an z [45,43] [45,48,49,50,51,52,53,54,55,56,57]
noncomputable def KU(k:dJ)(q:Nat):Bool:=match k with|.b v=>mS (.b0 v) q|.c _=>ld.any (bR q)|.e _ p=>p.all fun b=>mS (.b0 b.1) q|.d _ _=>ld.any (bR q)
def IH:List ex→Bool|[]=>I|p::O=>p.c.all h3&&p.d.all h3&&(match O with|[]=>I|cG::_=>!p.c.isEmpty||(Es cG.b).all (KU p.b))&&(match p.b with|.b v=>!g3 (.b0 v)|.e _ s=>s.all fun b=>!g3 (.b0 b.1)|_=>I)&&IH O
theorem tf(s:aV){q:Nat}(c:q∈ld):mS s q=I:=by unfold mS;rw[show ld.any (bR q)=I from tC.2 ⟨q,c,vU q⟩];rfl
theorem S3(c:Bool)(g:Nat)(t:List Nat):∃F,F<10∧iU ((aV.en c g).bT++t)=ce F:=by obtain⟨F,ad,aI,b⟩:=qG c g;exact⟨F,aI,by rw[b];rfl⟩
theorem Qf:(de 10).map (fun F=>((Es (.d C 0)).any (bR (ce F)),mS (.b0 .i) (ce F),mS (.b0 .f) (ce F)))=(de 10).map fun _=>(I,I,I):=by kernel_rfl
theorem R8(v:aF)(ar:eS v eQ=I)(t:List Nat):iU (v.b++t)=iU v.b:=by
 have:(de eQ).map (fun v=>(aF.b v).isEmpty)=(de eQ).map fun _=>C:=by kernel_rfl
 have b:=a7 this (gc.2 (cF ar));rcases u:v.b with _|⟨q,ad⟩;·rw[u]at b;exact nomatch b
 ·rfl
theorem al5{p:ex}{x:jG}(c:wS p.b x)(t:List f6):iU (eP (u4 p x++t))∈Es p.b:=by
 obtain⟨k,E,iB,aH⟩:=p;rcases k with v|e|⟨q,s⟩|⟨z,m⟩;·show iU (v.b++_)∈[iU v.b];rw[R8 v c];exact dY ..
 ·exact dY ..
 ·show iU (x.c.b++_)∈_;rw[R8 x.c c.2.2];exact pO (f:=fun b:aF×Nat=>iU (aF.b b.1)) c.1
 ·obtain⟨r,q,v,y,g,aY,aW⟩:=x;rcases y;·
   rcases z;·obtain⟨F,aI,b⟩:=S3 aH g (E++eP t);show iU ((aV.en aH g).bT++(E++eP t))∈_;rw[b];obtain⟨d,aH,aK⟩:=tC.1 (bw (a7 Qf (gc.2 aI))).1;exact g5 aK▸aH
   ·exact e6 _ (dY ..)
  ·rcases z;·exact dY ..
   ·exact dY ..
theorem Pr{q:Nat}(c:h3 q=I):q∈ld:=by
 rcases b:bR q 32;·unfold h3 at c;rw[b]at c;obtain rfl:q=9:=g5 c;exact e6 _ (dY ..)
 ·obtain rfl:q=32:=g5 b;exact dY ..
end
section
open PySem
theorem R9:eI.map (fun s=>gd s.bT.length 100)=eI.map fun _=>I:=by kernel_rfl
theorem amF{s:aV}(c:s.d9):s.bT.length≤100:=by
 rcases s with⟨e,z⟩|⟨e,l⟩|v;·exact cF (a7 R9 (mh (e:=e) c))
 ·show(an e [48,120] []++(jJ (hP e) l).map ce).length≤100;rw[fy,dA];exact bt (km (b:=2) (by rcases e<;>decide) (tc e c)) (by decide)
 ·exact cF (a7 R9 (mg c))
theorem Sj(bm:List f6):(∀k∈bm,k.1.d9∧k.2.length≤10)→(eP bm).length≤110*bm.length:=by induction bm with|nil=>exact fun _=>df _|cons k bm ak=>intro c;obtain⟨H,L⟩:=c k (dY ..);show(k.1.bT++(k.2++eP bm)).length≤110*(bm.length+1);rw[fy,fy,Nat.mul_add,lV (110*bm.length),←lk];exact km (bt (km (amF H) L) (df (100+10)):k.1.bT.length+k.2.length≤110*1) (ak fun u cw=>c u (e6 _ cw))
structure rB(bm:List f6):Prop where
 b:rz bm
 c:∀k∈bm,g3 k.1=C
 e:Aj bm
 d:∀k∈bm,k.2.length≤10
theorem aoL:rB []:=⟨⟨fun _ c=>(nomatch c),fun _ c=>(nomatch c)⟩,fun _ c=>(nomatch c),trivial,fun _ c=>(nomatch c)⟩
theorem Bk{s:aV}{E:List Nat}{bm:List f6}(H:s.d9)(L:g3 s=C)(aR:∀q∈E,h3 q=I)(bh:mS s (iU (E++eP bm))=I)(cT:E.length≤10)(c:rB bm):rB ((s,E)::bm):=⟨⟨tD.2 ⟨aR,c.b.c⟩,tD.2 ⟨H,c.b.b⟩⟩,tD.2 ⟨L,c.c⟩,⟨bh,c.e⟩,tD.2 ⟨cT,c.d⟩⟩
theorem uE{E:List Nat}(c:E.all h3=I):∀q∈E,h3 q=I:=fe.1 c
theorem J5{E:List Nat}(c:E.all h3=I)(cN:E.isEmpty=C)(t:List Nat):iU (E++t)∈ld:=by
 rcases E with _|⟨q,E⟩;·exact nomatch cN
 ·exact Pr (uE c q (dY ..))
theorem aoM(O:List ex):∀J,IH O=I→(∀p∈O,p.c.length≤10∧p.d.length≤10)→(∀k∈O.map (·.b),pe k)→oc (O.map (·.b)) J→rB (gq O J):=by induction O with|nil=>exact fun J _ _ _ _=>aoL|cons p O ak=>
 intro J aN cN al aY;obtain⟨x,br,rfl,c2,aY⟩:=aY;obtain⟨aN,CC⟩:=e5.1 aN;obtain⟨aN,y5⟩:=e5.1 aN;obtain⟨aN,fp⟩:=e5.1 aN;obtain⟨dw,dM⟩:=e5.1 aN;have D:=ak br CC (fun u cw=>cN u (e6 _ cw)) (fun u cw=>al u (e6 _ cw)) aY;have cO:KU p.b (iU (p.c++eP (gq O br)))=I∨iU (p.c++eP (gq O br))∈ld:=by
  rcases b:p.c.isEmpty;·exact Or.inr (J5 dw b _)
  ·rcases O with _|⟨cG,O⟩;·rw[yF.1 b];exact Or.inr (dY ..)
   ·obtain⟨Y5,auC,rfl,XL,_⟩:=aY;have fp:(!p.c.isEmpty||(Es cG.b).all (KU p.b))=I:=fp;rw[b]at fp;rw[yF.1 b];exact Or.inl (fe.1 fp _ (al5 XL _))
 have ft:=cN p (dY ..);clear fp cN al aY ak CC;obtain⟨k,E,iB,aH⟩:=p;rcases k with v|e|⟨q,s⟩|⟨z,m⟩;·exact Bk (s:=.b0 v) (cF c2) (m1 _▸(y5:(!g3 (.b0 v))=I)) (uE dw) (cO.elim id (tf _)) ft.1 D
 ·exact Bk (s:=.fT e x.b) c2 (by rfl) (uE dw) (cO.elim (fun c=>tf _ (An c)) (tf _)) ft.1 D
 ·exact Bk (s:=.b0 x.c) (cF c2.2.2) (m1 _▸(fe.1 (show(s.all fun b=>!g3 (.b0 b.1))=I from y5) _ c2.1:(!g3 (.b0 x.c))=I)) (uE dw) (cO.elim (fun c=>fe.1 c _ c2.1) (tf _)) ft.1 D
 ·have j:rB ((.en aH x.d.c,E)::gq O br):=Bk x.d.f rfl (uE dw) (cO.elim (fun c=>tf _ (An c)) (tf _)) ft.1 D;have kV:∀v:aF,eS v eQ=I→g3 (.b0 v)=C→(∀F,F<10→mS (.b0 v) (ce F)=I)→rB ((.b0 v,iB)::(.en aH x.d.c,E)::gq O br):=fun v ar a9 aI=>Bk (s:=.b0 v) (cF ar) a9 (uE dM) (by
   rcases b:iB.isEmpty;·exact tf _ (J5 dM b _)
   ·rw[yF.1 b];obtain⟨F,H,L⟩:=S3 aH x.d.c (E++eP (gq O br));show mS (.b0 v) (iU ((aV.en aH x.d.c).bT++(E++eP (gq O br))))=I;rw[L];exact aI F H) ft.2 j;have be:=fun(F:Nat)(aI:F<10)=>bw (bw (a7 Qf (gc.2 aI))).2;have Mv:=kV .i rfl rfl fun F aI=>(be F aI).1;have U7:=kV .f rfl rfl fun F aI=>(be F aI).2;clear be kV cO ft dw dM y5 D c2;obtain⟨r,q,v,y,g,aY,aW⟩:=x;rcases y;·
   clear Mv;rcases z;·exact j
   ·exact U7
  ·exact Mv
theorem P7(v:aF)(bm:List f6):(∀k∈bm,bd v (o k.1)=C)→me v bm=bm:=by induction bm with|nil=>exact fun _=>rfl|cons k bm ak=>intro c;show an (bd v (o k.1)) [] (k::me v bm)=_;rw[c k (dY ..),ak fun u cw=>c u (e6 _ cw)];rfl
theorem EZ{s:aV}(c:g3 s=C):bd .m (o s)=C∧bd .n (o s)=C:=F'.1 c
theorem Jh{bm:List f6}(c:∀k∈bm,g3 k.1=C):rK bm=bm:=by unfold rK;rw[P7 .m bm fun k al=>(EZ (c k al)).1,P7 .n bm fun k al=>(EZ (c k al)).2]
theorem Ti{bm:List f6}(c:rB bm)(ah:bm.length≤80):Ai bm:=⟨c.b,by rw[Jh c.c];exact c.e,bt (Sj bm fun k al=>⟨c.b.b k al,c.d k al⟩) (bt (tF 110 ah) (by decide)),gR ah (by decide)⟩
theorem Tq(O:List ex):∀J,(gq O J).length≤2*O.length:=by induction O with|nil=>exact fun _=>df _|cons p O ak=>
 intro J;rcases J with _|⟨x,J⟩;·exact jT _
 ·show(u4 p x++gq O J).length≤2*(O.length+1);rw[fy,Nat.mul_add,lV (2*O.length)];refine km ?_ (ak J);obtain⟨k,E,iB,aH⟩:=p;rcases k with v|e|⟨q,s⟩|⟨z,m⟩;·exact m5 1
  ·exact m5 1
  ·exact m5 1
  ·obtain⟨r,q,v,y,g,aY,aW⟩:=x;rcases y;·
    rcases z;·exact m5 1
    ·exact df 2
   ·exact df 2
end
section
open PySem
theorem R6(m:hg)(p:List hg)(g:List Nat):x3 g (p++[m])=g++p.foldr (fun k t=>k.1++t) (m.1++[]):=(amg m p g).trans (congrArg (fun t=>g++p.foldr (fun(k:hg)t=>k.1++t) t) (hE _).symm)
theorem lc{un:Type}(O:List un)(w v:Nat)(ag:un→List K)(g:un→hg)(p:un→List hg)(m:un→hg)(bP:un→List B)(b:∀z f,O.map (fun d=>lH ab z v w (ag d) f ((bP d).map (·.y)) [])=O.map fun d=>o ((.ok (.b (.c (x3 (g d).1 (p d++[m d])))),f),[],((bP d).map (·.x)).reverse)){d:un}(aH:d∈O){s:List Nat}(bu:(g d).1++(p d).foldr (fun k t=>k.1++t) ((m d).1++[])=s):b_ ab w v (ag d) (.ok (.c s)):=by rw[←bu,←R6];exact ck v (bP d) fun z f=>a7 (b z f) aH
theorem yl(w v:Nat)(ag:List K)(g:hg)(p:List hg)(m:hg)(bP:List B){s:List Nat}(b:∀z f,lH ab z v w ag f (bP.map (·.y)) []=o ((.ok (.b (.c (x3 g.1 (p++[m])))),f),[],(bP.map (·.x)).reverse))(bu:g.1++p.foldr (fun k t=>k.1++t) (m.1++[])=s):b_ ab w v ag (.ok (.c s)):=by rw[←bu,←R6];exact ck v bP b
theorem Zz(v:aF):v.b.length≤400:=by
 have c:∀v:Nat,(A3.getD v []).length≤400:=fun v=>by
  rw[vO];rcases b:A3[v]?with _|y;·exact jT _
  ·have:A3.map (fun y=>gd y.length 400)=A3.map fun _=>I:=by kernel_rfl
   exact cF (a7 this (dZ b))
 exact c v
noncomputable def nI(v:aF):hg:=⟨v.b,Zz v⟩
def iq(y:dp)(O:List ex):Prop:=∀J w,oc y.b J→y.d (pH y.b J)=o w→∃Dk,oc y.b Dk∧y.d (pH y.b Dk)=o w∧b_ ab 73 20 [.b (eb w)] (.ok (.c (eP (gq O Dk))))
noncomputable def d1(k:dJ):ex:=⟨k,[32],[],C⟩
noncomputable def eR(k:dJ):ex:=⟨k,[],[],C⟩
noncomputable def Tl(E:List Nat):List ex:=[eR (.b .d),d1 (.c C),⟨.d I 16,[],[32],C⟩,⟨.b .e,E,[],C⟩]
noncomputable def EW(k:dJ)(E:List Nat):List ex:=[eR (.b .g),eR (.b .d),d1 k,eR (.b .g),eR (.b .e)]++Tl E
noncomputable def Kg(e:Bool):List ex:=[d1 (.c e),d1 uV,eR (.c e)]
noncomputable def Kf(e:Bool):List ex:=[d1 (.c e),d1 uV,eR (.d C 32)]
noncomputable def Km(e:Bool):List ex:=[d1 (.c e),d1 (.b .c),eR (.b .i),eR (.c e)]
noncomputable def R':List ex:=[d1 (.c C),d1 (.b .c),d1 LV,eR (.c C)]
noncomputable def Kn(e:Bool):List ex:=[d1 (.c e),d1 (.b .c),eR (.b .d),eR uW,eR (.b .e),eR (.c e)]
noncomputable def EL(k:dJ):List ex:=d1 (.c C)::d1 (.b .c)::EW k []
noncomputable def Sg:List ex:=EW kJ [32]++[d1 (.b .c),eR (.c C)]
noncomputable def Sf:List ex:=EW kJ [32]++[d1 (.b .c),eR (.d C 32)]
noncomputable def Kl(e:Bool):List ex:=d1 (.b .s)::EW kJ [32]++[d1 JN,eR (.c e)]
noncomputable def Ki(e:Bool):List ex:=[d1 (.c e),d1 (.b .c),eR LU,eR (.b .d),eR (.b .d),d1 kJ,eR (.b .g),eR (.b .e)]++Tl []++[d1 (.b .j),eR (.c e),eR (.b .e)]
def Ko(e:Bool):List ex:=[d1 (.c e),d1 (.b .c),eR (.b (an e .D .y)),eR (.b .d),d1 (.c C),⟨.d I 16,[],[32],C⟩,d1 (.b .j),eR (.c e),eR (.b .e)]
def Kh(e:Bool):List ex:=[d1 (.c e),d1 (.b .c),eR (.b (an e .z .A)),eR (.b .d),d1 (.c C),⟨.d I 16,[],[32],C⟩,d1 (.b .j),eR (.c e),d1 (.b .j),eR (.c e),eR (.b .e)]
noncomputable def Sh:List ex:=[d1 (.c C),d1 (.b .c),⟨.d C 64,[32],[],I⟩,eR (.b .l)]
noncomputable def Se:List ex:=[d1 (.c C),d1 (.b .c),d1 (.b .v),d1 (.d C 32),eR (.b .l)]
noncomputable def R_:List ex:=[d1 (.b .p),eR (.d C 32)]
noncomputable def Sd:List ex:=[d1 (.b .p),eR (.b .t),eR (.d I 32)]
noncomputable def Sa:List ex:=[eR (.b .u)]
noncomputable def Sb:List ex:=[d1 (.b .k),eR (.d I 16)]
noncomputable def Sc:List ex:=[d1 (.b .q),eR (.d I 32)]
noncomputable def Kk(e:Bool):List ex:=[d1 (.b .r),d1 (.c e),d1 xg,d1 (.c e),d1 (.b .k),eR (.d I 16)]
noncomputable def Kj(e:Bool):List ex:=[d1 (.b .r),d1 (.c e),d1 xg,d1 (.d C 32),d1 (.b .k),eR (.d I 16)]
def am4:List (List ex):=[Kg C,Kg I,Kf C,Kf I,Km C,Km I,R',Kn C,Kn I,EL kJ,EL uW,Sg,Sf,Kl C,Kl I,Ki C,Ki I,Ko C,Ko I,Kh C,Kh I,Sh,Se,R_,Sd,Sa,Sb,Sc,Kk C,Kk I,Kj C,Kj I]
def vB:List (dp×List ex):=e1.zip am4
theorem aql:vB.map (fun b=>(IH b.2,b.2.all fun p=>gd p.c.length 10&&gd p.d.length 10,gd b.2.length 30))=vB.map fun _=>(I,I,I):=by kernel_rfl
theorem aqm:vB.map (fun b=>b.2.map (·.b))=vB.map fun b=>b.1.b:=by kernel_rfl
theorem Ls:vB.map (·.1)=e1:=by kernel_rfl
def qD(y:Bool)(d:dt)(r:Nat)(l:fk):List Nat:=[42,40,an y 115 117]++(qV [56] [49,54] [51,50] [54,52] d++([32,42,41,40]++(oD r l++([41]++[]))))
def yj(d:dt):hg:=⟨qV [56] [49,54] [51,50] [54,52] d,by obtain⟨_|_,_|_⟩:=d<;>decide⟩
noncomputable def Il:List dt:=[(C,C),(C,I),(I,C),(I,I)]
theorem SK(d:dt):d∈Il:=by obtain⟨_|_,_|_⟩:=d<;>decide
theorem LK{r:Nat}(ah:r≤10)(l:fk)(d:dt):b_ ab 59 10 [.b (.b r),.b (.b l.b),.b (.b (eB d))] (.ok (.c (qD C d r l))):=lc Il 59 10 (fun d=>[.b (.b r),.b (.b l.b),.b (.b (eB d))]) (fun _=>b3 [42,40,117] rfl) (fun d=>[yj d,b3 [32,42,41,40] rfl,qK r l]) (fun _=>b3 [41] rfl) (fun d=>[]++(f8 (b3 [42,40] rfl) [] [b3 [117] rfl,yj d,b3 [32,42,41,40] rfl] rfl++(B.j (yy ah l)::f8 (b3 [42,40] rfl) [b3 [117] rfl,yj d,b3 [32,42,41,40] rfl] [qK r l,b3 [41] rfl] rfl))) (fun z f=>by kernel_rfl) (SK d) rfl
end
section
open PySem
def OF(T:List dJ):(List jG→Prop)→Prop:=T.rec (fun R=>R []) fun k _ ak R=>∀x,wS k x→ak fun br=>R (x::br)
theorem Z3{T:List dJ}:∀{R:List jG→Prop}{J:List jG},oc T J→OF T R→R J:=by induction T with|nil=>exact fun c v=>c.symm▸v|cons k T ak=>intro R J c v;obtain⟨x,br,rfl,H,L⟩:=c;exact ak (R:=fun br=>R (x::br)) L (v x H)
theorem jv{y:dp}{O:List ex}(c:OF y.b fun J=>∀w,y.d (pH y.b J)=o w→b_ ab 73 20 [.b (eb w)] (.ok (.c (eP (gq O J))))):iq y O:=fun J w aY a3=>⟨J,aY,a3,Z3 aY c w a3⟩
theorem Ff(r:Nat)(d:fk)(t:List Nat):oD r d++t=ec C r++(32::an d.e 45 43::32::(jt d.c++t)):=kQ ..
theorem Um:ef.map (fun b=>aF.b b.1)=ef.map fun b=>117::qV [56] [49,54] [51,50] [54,52] (hC b.2):=by kernel_rfl
theorem aq0:hl.map (fun b=>aF.b b.1)=hl.map fun b=>115::qV [56] [49,54] [51,50] [54,52] (hC b.2):=by kernel_rfl
theorem SC(y:Bool)(d:dt)(r:Nat)(l:fk)(t:List Nat):qD y d r l++t=42::40::an y 115 117::(qV [56] [49,54] [51,50] [54,52] d++([32,42,41,40]++(ec C r++(32::an l.e 45 43::32::(jt l.c++(41::t)))))):=by unfold qD;rw[kQ,kQ,kQ,kQ,Ff];rfl
theorem Uq{r:Nat}(ah:r≤10)(l:fk)(d:dt)(y:Bool):b_ ab 59 10 [.b (.b r),.b (.b l.b),.b (.b (eB d)),.b (.c [an y 115 117])] (.ok (.c (qD y d r l))):=by have aS:=fun y(aW:y∈d8)=>lc Il 59 10 (fun d=>[.b (.b r),.b (.b l.b),.b (.b (eB d)),.b (.c [an y 115 117])]) (fun _=>b3 [42,40,an y 115 117] rfl) (fun d=>[yj d,b3 [32,42,41,40] rfl,qK r l]) (fun _=>b3 [41] rfl) (fun d=>[]++(f8 (b3 [42,40] rfl) [] [b3 [an y 115 117] rfl,yj d,b3 [32,42,41,40] rfl] rfl++(B.j (yy ah l)::f8 (b3 [42,40] rfl) [b3 [an y 115 117] rfl,yj d,b3 [32,42,41,40] rfl] [qK r l,b3 [41] rfl] rfl))) (fun z f=>by kernel_rfl) (SK d) (s:=qD y d r l) rfl;exact aS y (hB y)
noncomputable def auY(x:jG)(r:Nat)(d:fk):List jG:=[⟨0,0,aF.c,nQ⟩,⟨0,0,aF.c,nQ⟩,x,⟨0,0,aF.c,nQ⟩,⟨0,0,aF.c,nQ⟩,⟨0,0,aF.c,nQ⟩,⟨r,0,aF.c,nQ⟩,⟨0,0,aF.c,d⟩,⟨0,0,aF.c,nQ⟩]
noncomputable def sN{V:Type}(O:List V):List (Bool×V):=d8.flatMap fun e=>O.map fun b=>(e,b)
theorem u_{V:Type}{O:List V}(e:Bool){b:V}(c:b∈O):(e,b)∈sN O:=List.mem_flatMap.2 ⟨e,hB e,pO c⟩
theorem UD(e:Bool):iq (qR e) (Kg e):=jv<|by rintro cd aX eH H hc L w a3;obtain rfl:=aJ a3;exact lc (sN jb) 73 20 (fun b=>[.b (eb (lJ b.2.2+fV b.1+8,(cd.b:Int),(hc.b:Int),mK b.2.2,0,0))]) (fun b=>dy b.1 cd.b) (fun b=>[b3 [32] rfl,nI b.2.1,b3 [32] rfl]) (fun b=>dy b.1 hc.b) (fun b=>[B.j (iZ b.1 aX),B.j yx,B.j (iZ b.1 L)]++f8 (dy b.1 cd.b) [] [b3 [32] rfl,nI b.2.1,b3 [32] rfl,dy b.1 hc.b] rfl) (fun z f=>by kernel_rfl) (u_ e H.1) (by kernel_rfl)
theorem UC(e:Bool):iq (pA e) (Kf e):=jv<|by rintro cd aX eH H⟨_,_,_,d⟩L w a3;obtain rfl:=aJ a3;refine lc (sN jb) 73 20 (fun b=>[.b (eb (lJ b.2.2+fV b.1,(cd.b:Int),0,mK b.2.2,d.b,0))]) (fun b=>dy b.1 cd.b) (fun b=>[b3 [32] rfl,nI b.2.1,b3 [32] rfl]) (fun b=>pv d) (fun b=>[B.j (iZ b.1 aX),B.j yx,B.u (ys d [])]++f8 (dy b.1 cd.b) [] [b3 [32] rfl,nI b.2.1,b3 [32] rfl,pv d] rfl) (fun z f=>by kernel_rfl) (u_ e H.1) ?_;obtain⟨_|_,_,_,_⟩:=d<;>kernel_rfl
theorem UJ(e:Bool):iq (pC e) (Km e):=jv<|by rintro cd aX eH H hc L gG aR w a3;refine kG a3 fun u a3=>?_;obtain rfl:=a3;have b:cd.b=gG.b:=lh (of_decide_eq_true u);refine lc d8 73 20 (fun e=>[.b (eb (128+fV e,(cd.b:Int),0,0,0,0))]) (fun e=>dy e cd.b) (fun _=>[b3 [32,61,32,45] rfl]) (fun e=>dy e cd.b) (fun e=>[B.j (iZ e aX)]++f8 (dy e cd.b) [] [b3 [32,61,32,45] rfl,dy e cd.b] rfl) (fun z f=>by kernel_rfl) (hB e) ?_;rw[b];show ec e gG.b++_=ec e cd.b++_;rw[b];kernel_rfl
def B3(q:Nat):List Nat:=an (eS q 3) [108,101] (an (eS q 6) [98,101] [98,115,119,97,112])
def AF(b:aF×Nat):List Nat:=(aF.b b.1).drop (B3 b.2).length
theorem auW:jN.map (fun b=>aF.b b.1)=jN.map fun b=>B3 b.2++AF b:=by kernel_rfl
theorem auV:jN.map (fun b=>gd (AF b).length 400)=jN.map fun _=>I:=by kernel_rfl
noncomputable def ml(y:List Nat):hg:=⟨y.take 400,List.length_take_le ..⟩
theorem asH:iq r4 R':=jv<|by
 rintro cd aX eH H hc L gG aR w a3;refine kG a3 fun u a3=>?_;obtain rfl:=a3;have b:cd.b=gG.b:=lh (of_decide_eq_true u);refine lc jN 73 20 (fun n=>[.b (eb (BR n.2,(cd.b:Int),0,0,BS n.2,0))]) (fun n=>dy C cd.b) (fun n=>[b3 [32,61,32] rfl,ml (B3 n.2),ml (AF n),b3 [32] rfl]) (fun n=>dy C cd.b) (fun n=>[B.j (iZ C aX)]++f8 (dy C cd.b) [] [b3 [32,61,32] rfl,ml (B3 n.2),ml (AF n),b3 [32] rfl,dy C cd.b] rfl) (fun z f=>by kernel_rfl) L.1 ?_;have aS:jN.map (fun n=>(B3 n.2).take 400++((AF n).take 400++([32]++(ec C cd.b++[]))))=jN.map fun n=>aF.b n.1++([32]++(ec C cd.b++[])):=by kernel_rfl
 refine(congrArg (fun t=>ec C cd.b++([32,61,32]++t)) (a7 aS L.1)).trans ?_;exact lU (b:=ec C cd.b++([32,61,32]++(aF.b hc.c++([32]++(ec C gG.b++[]))))) (by rw[b]) (by kernel_rfl)
theorem UL(e:Bool):iq (r5 e) (Kn e):=jv<|by
 rintro cd aX eH H hc L gG aR rr bh l7 cT w a3;refine kG a3 fun u a3=>?_;obtain rfl:=a3;refine lc (sN hl) 73 20 (fun n=>[.b (eb (184+fV n.1,(cd.b:Int),(l7.b:Int),[8,16,32].getD n.2.2 0,0,0))]) (fun n=>dy n.1 cd.b) (fun n=>[b3 [32,61,32,40,115] rfl,ml ((aF.b n.2.1).drop 1),b3 [41] rfl]) (fun n=>dy n.1 l7.b) (fun n=>[B.j (iZ n.1 aX)]++(f8 (dy n.1 cd.b) [] [b3 [32,61,32,40,115] rfl,ml ((aF.b n.2.1).drop 1),b3 [41] rfl] rfl++(B.j (iZ n.1 cT)::f8 (dy n.1 cd.b) [b3 [32,61,32,40,115] rfl,ml ((aF.b n.2.1).drop 1),b3 [41] rfl] [dy n.1 l7.b] rfl))) (fun z f=>by kernel_rfl) (u_ e aR.1) ?_;have aS:hl.map (fun n=>[32,61,32,40,115]++(((aF.b n.1).drop 1).take 400++([41]++(ec e l7.b++[]))))=hl.map fun n=>[32,61,32,40]++(aF.b n.1++([41]++(ec e l7.b++[]))):=by kernel_rfl
 exact(congrArg (fun t=>ec e cd.b++t) (a7 aS aR.1)).trans (by kernel_rfl)
end
section
open PySem
theorem aoF(r:Nat)(d:fk):(oD r d).length≤110:=by
 unfold oD;rw[fy];have c:(ec C r).length≤10:=by
  show(an (bR r 10) [49,48] [48+r]).length+1≤10;rcases bR r 10;·exact cF rfl
  ·exact cF rfl
 exact bt (km c (pP (x_ d.f) 3)) (by decide)
theorem ani(y:Bool)(d:dt)(r:Nat)(l:fk):(qD y d r l).length≤400:=by
 unfold qD;rw[fy,fy,fy,fy];have c:(qV [56] [49,54] [51,50] [54,52] d:List Nat).length≤2:=by obtain⟨_|_,_|_⟩:=d<;>decide
 exact bt (km (df 3) (km c (km (df 4) (km (aoF r l) (df 1))))) (by decide)
def pw(y:Bool)(d:dt)(r:Nat)(l:fk):hg:=⟨qD y d r l,ani y d r l⟩
def EV(y:List Nat)(r:Nat)(d:fk)(t:List Nat):List Nat:=42::40::(y++([32,42,41,40]++(ec C r++(32::an d.e 45 43::32::(jt d.c++(41::t))))))
theorem ET{b:aF×Nat}(c:b∈ef)(r:Nat)(d:fk)(t:List Nat):qD C (hC b.2) r d++t=EV (aF.b b.1) r d t:=(SC ..).trans (congrArg (fun y=>EV y r d t) (a7 Um c).symm)
theorem anj{b:aF×Nat}(c:b∈hl)(r:Nat)(d:fk)(t:List Nat):qD I (hC b.2) r d++t=EV (aF.b b.1) r d t:=(SC ..).trans (congrArg (fun y=>EV y r d t) (a7 aq0 c).symm)
theorem asM:iq vy (EL kJ):=jv<|by rintro cd aX eH H hc L gG aR rr bh l7 cT z0 dB z1 d2 hJ et⟨_,_,_,d⟩hH Dj gh w a3;obtain rfl:=aJ a3;refine lc ef 73 20 (fun b=>[.b (eb (97+r_ b.2,(cd.b:Int),(hJ.b:Int),d.b,0,0))]) (fun _=>dy C cd.b) (fun _=>[b3 [32,61,32] rfl]) (fun b=>pw C (hC b.2) hJ.b d) (fun b=>[B.j (iZ C aX)]++(f8 (dy C cd.b) [] [b3 [32,61,32] rfl] rfl++(B.j (Uq et d (hC b.2) C)::f8 (dy C cd.b) [b3 [32,61,32] rfl] [pw C (hC b.2) hJ.b d] rfl))) (fun z f=>by kernel_rfl) bh.1 ?_;refine(congrArg (fun t=>ec C cd.b++([32,61,32]++t)) (ET bh.1 hJ.b d [])).trans ?_;obtain⟨_|_,_,_,_⟩:=d<;>kernel_rfl
theorem asL:iq vx (EL uW):=jv<|by rintro cd aX eH H hc L gG aR rr bh l7 cT z0 dB z1 d2 hJ et⟨_,_,_,d⟩hH Dj gh w a3;obtain rfl:=aJ a3;refine lc hl 73 20 (fun b=>[.b (eb (129+r_ b.2,(cd.b:Int),(hJ.b:Int),d.b,0,0))]) (fun _=>dy C cd.b) (fun _=>[b3 [32,61,32] rfl]) (fun b=>pw I (hC b.2) hJ.b d) (fun b=>[B.j (iZ C aX)]++(f8 (dy C cd.b) [] [b3 [32,61,32] rfl] rfl++(B.j (Uq et d (hC b.2) I)::f8 (dy C cd.b) [b3 [32,61,32] rfl] [pw I (hC b.2) hJ.b d] rfl))) (fun z f=>by kernel_rfl) bh.1 ?_;refine(congrArg (fun t=>ec C cd.b++([32,61,32]++t)) (anj bh.1 hJ.b d [])).trans ?_;obtain⟨_|_,_,_,_⟩:=d<;>kernel_rfl
theorem asQ:iq vA Sg:=jv<|by rintro hc L gG aR rr bh l7 cT z0 dB z1 d2 hJ et⟨_,_,_,d⟩hH Dj gh cd aX eH H w a3;obtain rfl:=aJ a3;refine lc ef 73 20 (fun b=>[.b (eb (99+r_ b.2,(hJ.b:Int),(eH.b:Int),d.b,0,0))]) (fun b=>pw C (hC b.2) hJ.b d) (fun _=>[b3 [32,61,32] rfl]) (fun _=>dy C eH.b) (fun b=>[B.j (iZ C H),B.j (LK et d (hC b.2))]++f8 (pw C (hC b.2) hJ.b d) [] [b3 [32,61,32] rfl,dy C eH.b] rfl) (fun z f=>by kernel_rfl) bh.1 ?_;refine(ET bh.1 hJ.b d _).trans ?_;obtain⟨_|_,_,_,_⟩:=d<;>kernel_rfl
theorem asP:iq vz Sf:=jv<|by rintro hc L gG aR rr bh l7 cT z0 dB z1 d2 hJ et⟨_,_,_,d⟩hH Dj gh cd aX⟨_,_,_,G⟩H w a3;obtain rfl:=aJ a3;refine lc ef 73 20 (fun b=>[.b (eb (98+r_ b.2,(hJ.b:Int),0,d.b,G.b,0))]) (fun b=>pw C (hC b.2) hJ.b d) (fun _=>[b3 [32,61,32] rfl]) (fun _=>pv G) (fun b=>[B.u (ys G []),B.j (LK et d (hC b.2))]++f8 (pw C (hC b.2) hJ.b d) [] [b3 [32,61,32] rfl,pv G] rfl) (fun z f=>by kernel_rfl) bh.1 ?_;refine(ET bh.1 hJ.b d _).trans ?_;obtain⟨_|_,_,_,_⟩:=d<;>obtain⟨_|_,_,_,_⟩:=G<;>kernel_rfl
theorem S6{q:Nat}{v:aF}(c:(v,q)∈ef){e:Bool}(u:a6 ((q:Int)=kl e)=I):hC q=(I,!e):=by
 have aS:ef.map (fun b=>(a6 ((b.2:Int)=kl C),a6 ((b.2:Int)=kl I),an (a6 ((b.2:Int)=kl C)) (hC b.2) (an (a6 ((b.2:Int)=kl I)) (hC b.2) (I,I))))=ef.map fun b=>(a6 ((b.2:Int)=kl C),a6 ((b.2:Int)=kl I),an (a6 ((b.2:Int)=kl C)) (I,I) (an (a6 ((b.2:Int)=kl I)) (I,C) (I,I))):=by kernel_rfl
 have hX:=(bw (bw (a7 aS c)).2).2;rcases e;·rw[show a6 (((v,q).2:Int)=kl C)=I from u]at hX;exact hX
 ·have b:(q:Int)=2:=of_decide_eq_true u;obtain rfl:q=2:=lh b;rfl
theorem UI(e:Bool):iq (pB e) (Kl e):=jv<|by rintro z3 aw hc L gG aR rr bh l7 cT z0 dB z1 d2 hJ et⟨_,_,_,d⟩hH Dj gh cd aX eH H w a3;refine kG a3 fun u a3=>?_;obtain rfl:=a3;refine lc (sN lP) 73 20 (fun b=>[.b (eb (195+nN b.1,(hJ.b:Int),(eH.b:Int),d.b,16*(b.2.2:Int),0))]) (fun _=>b3 [108,111,99,107,32] rfl) (fun b=>[pw C (I,!b.1) hJ.b d,b3 [32] rfl,nI b.2.1,b3 [32] rfl]) (fun b=>dy b.1 eH.b) (fun b=>[B.j (iZ b.1 H),B.j (yy et d),B.j yx,B.j (LK et d (I,!b.1))]++(f8 (b3 [108,111,99,107,32] rfl) [] [pw C (I,!b.1) hJ.b d,b3 [32] rfl,nI b.2.1,b3 [32] rfl] rfl++(B.j (iZ b.1 H)::f8 (b3 [108,111,99,107,32] rfl) [pw C (I,!b.1) hJ.b d,b3 [32] rfl,nI b.2.1,b3 [32] rfl] [dy b.1 eH.b] rfl))) (fun z f=>by kernel_rfl) (u_ e aX.1) ?_;have cO:=ET bh.1 hJ.b d ([32]++(aF.b cd.c++([32]++(ec e eH.b++[]))));rw[show hC (rr.c,rr.e).2=(I,!e)from S6 bh.1 u]at cO;refine(congrArg (fun t=>[108,111,99,107,32]++t) cO).trans ?_;obtain⟨_|_,_,_,_⟩:=d<;>kernel_rfl
end
section
open PySem
def yt(e:Bool):List Nat:=an e [51,50] [54,52]
theorem UF(e:Bool):iq (nL e) (Ki e):=jv<|by
 rintro cd aX eH H hc L gG aR rr bh l7 cT z0 dB z1 d2 hJ et kA hH⟨_,_,_,d⟩gh auE jm Ox h_ o_ h' Oy lZ w a3;refine kG a3 fun u a3=>?_;obtain rfl:=a3;obtain⟨cx,cU⟩:=e5.1 u;have b:cd.b=o_.b:=lh (of_decide_eq_true cx);refine lc (sN iT) 73 20 (fun b=>[.b (eb (195+nN b.1,(kA.b:Int),(cd.b:Int),d.b,16*(b.2.2:Int)+1,0))]) (fun b=>dy b.1 cd.b) (fun b=>[b3 [32,61,32,97,116,111,109,105,99,95] rfl,ml ((aF.b b.2.1).drop 7),b3 [40,40,117] rfl,ml (yt b.1),b3 [32,42,41,40] rfl,qK kA.b d,b3 [41,44,32] rfl,dy b.1 cd.b]) (fun _=>b3 [41] rfl) (fun b=>[B.j (iZ b.1 aX),B.j (yy hH d)]++f8 (dy b.1 cd.b) [] [b3 [32,61,32,97,116,111,109,105,99,95] rfl,ml ((aF.b b.2.1).drop 7),b3 [40,40,117] rfl,ml (yt b.1),b3 [32,42,41,40] rfl,qK kA.b d,b3 [41,44,32] rfl,dy b.1 cd.b,b3 [41] rfl] rfl) (fun z f=>by kernel_rfl) (u_ e L.1) ?_;have aS:iT.map (fun n=>[32,61,32,97,116,111,109,105,99,95]++(((aF.b n.1).drop 7).take 400++([40,40,117]++((yt e).take 400++([32,42,41,40]++(oD kA.b d++([41,44,32]++(ec e cd.b++([41]++[])))))))))=iT.map fun n=>[32,61,32]++(aF.b n.1++([40,40]++((117::yt e)++([32,42,41,40]++(oD kA.b d++([41,44,32]++(ec e cd.b++([41]++[])))))))):=by rcases e<;>kernel_rfl
 have U_:117::yt e=aF.b l7.c:=(show 117::yt e=117::qV [56] [49,54] [51,50] [54,52] (hC (l7.c,l7.e).2)by rw[S6 cT.1 cU];rcases e<;>rfl).trans (a7 Um cT.1).symm;refine(congrArg (fun t=>ec e cd.b++t) (a7 aS L.1)).trans ?_;rw[Ff,U_];exact lU (b:=ec e cd.b++([32,61,32]++(aF.b hc.c++([40,40]++(aF.b l7.c++([32,42,41,40]++(ec C kA.b++(32::an d.e 45 43::32::(jt d.c++([41,44,32]++(ec e o_.b++([41]++[])))))))))))) (by rw[b]) (by obtain⟨_|_,_,_,_⟩:=d<;>kernel_rfl)
def sW(e:Bool):List Nat:=an e [51,50,95,51,50] [95,54,52]
theorem UM(e:Bool):iq (pD e) (Ko e):=jv<|by rintro cd aX eH H hc L gG aR kA hH⟨_,_,_,d⟩gh Ox h_ o_ h' Oy lZ w a3;refine kG a3 fun u a3=>?_;obtain rfl:=a3;have b:cd.b=o_.b:=lh (of_decide_eq_true u);refine lc d8 73 20 (fun e=>[.b (eb (195+nN e,(kA.b:Int),(cd.b:Int),d.b,225,0))]) (fun e=>dy e cd.b) (fun e=>[b3 [32,61,32,120,99,104,103] rfl,ml (sW e),b3 [40] rfl,qK kA.b d,b3 [44,32] rfl,dy e cd.b]) (fun _=>b3 [41] rfl) (fun e=>[B.j (iZ e aX),B.j (yy hH d)]++f8 (dy e cd.b) [] [b3 [32,61,32,120,99,104,103] rfl,ml (sW e),b3 [40] rfl,qK kA.b d,b3 [44,32] rfl,dy e cd.b,b3 [41] rfl] rfl) (fun z f=>by kernel_rfl) (hB e) ?_;show ec e cd.b++([32,61,32,120,99,104,103]++((sW e).take 400++([40]++(oD kA.b d++([44,32]++(ec e cd.b++([41]++[])))))))=_;rw[Ff];exact lU (b:=ec e cd.b++([32,61,32,120,99,104,103]++((sW e).take 400++([40]++(ec C kA.b++(32::an d.e 45 43::32::(jt d.c++([44,32]++(ec e o_.b++([41]++[])))))))))) (by rw[b]) (by rcases e<;>obtain⟨_|_,_,_,_⟩:=d<;>kernel_rfl)
theorem UE(e:Bool):iq (nK e) (Kh e):=jv<|by rintro cd aX eH H hc L gG aR kA hH⟨_,_,_,d⟩gh Ox h_ OA mx auF MT o_ h' Oy lZ w a3;refine kG a3 fun u a3=>?_;obtain rfl:=a3;obtain⟨cx,cU⟩:=e5.1 u;have b:cd.b=0:=lh (of_decide_eq_true cx);have aK:OA.b=0:=lh (of_decide_eq_true cU);have m:(0:Nat)≤10:=jT _;refine lc d8 73 20 (fun e=>[.b (eb (195+nN e,(kA.b:Int),(o_.b:Int),d.b,241,0))]) (fun e=>dy e 0) (fun e=>[b3 [32,61,32,99,109,112,120,99,104,103] rfl,ml (sW e),b3 [40] rfl,qK kA.b d,b3 [44,32] rfl,dy e 0,b3 [44,32] rfl,dy e o_.b]) (fun _=>b3 [41] rfl) (fun e=>[B.j (iZ e h'),B.j (yy hH d),B.j (iZ e m)]++f8 (dy e 0) [] [b3 [32,61,32,99,109,112,120,99,104,103] rfl,ml (sW e),b3 [40] rfl,qK kA.b d,b3 [44,32] rfl,dy e 0,b3 [44,32] rfl,dy e o_.b,b3 [41] rfl] rfl) (fun z f=>by kernel_rfl) (hB e) ?_;show ec e 0++([32,61,32,99,109,112,120,99,104,103]++((sW e).take 400++([40]++(oD kA.b d++([44,32]++(ec e 0++([44,32]++(ec e o_.b++([41]++[])))))))))=_;rw[Ff];exact lU (b:=ec e cd.b++([32,61,32,99,109,112,120,99,104,103]++((sW e).take 400++([40]++(ec C kA.b++(32::an d.e 45 43::32::(jt d.c++([44,32]++(ec e OA.b++([44,32]++(ec e o_.b++([41]++[])))))))))))) (by rw[b,aK]) (by rcases e<;>obtain⟨_|_,_,_,_⟩:=d<;>kernel_rfl)
theorem asO:iq BN Se:=jv<|by rintro cd aX eH H hc L⟨_,_,_,d⟩aR rr bh w a3;obtain rfl:=aJ a3;refine yl 73 20 [.b (eb (24,(cd.b:Int),1,0,d.b,0))] (dy C cd.b) [b3 [32,61,32,109,97,112,32] rfl,pv d] (b3 [32,108,108] rfl) ([B.j (iZ C aX)]++(f8 (dy C cd.b) [] [b3 [32,61,32,109,97,112,32] rfl] rfl++(B.u (ys d [])::f8 (dy C cd.b) [b3 [32,61,32,109,97,112,32] rfl] [pv d,b3 [32,108,108] rfl] rfl))) (fun z f=>by kernel_rfl) ?_;obtain⟨_|_,_,_,_⟩:=d<;>kernel_rfl
theorem asG:iq BI R_:=jv<|by rintro cd aX⟨_,_,_,d⟩aR w a3;obtain rfl:=aJ a3;refine yl 73 20 [.b (eb (133,0,0,0,d.b,0))] (b3 [99,97,108,108,32] rfl) [] (pv d) (B.u (ys d [])::f8 (b3 [99,97,108,108,32] rfl) [] [pv d] rfl) (fun z f=>by kernel_rfl) ?_;obtain⟨_|_,_,_,_⟩:=d<;>kernel_rfl
theorem asN:iq BM Sd:=jv<|by rintro cd aX eH H⟨_,_,_,d⟩aR w a3;obtain rfl:=aJ a3;refine yl 73 20 [.b (eb (133,0,1,0,d.b,0))] (b3 [99,97,108,108,32,112,99] rfl) [] (qL d) (B.j (BY d)::f8 (b3 [99,97,108,108,32,112,99] rfl) [] [qL d] rfl) (fun z f=>by kernel_rfl) ?_;obtain⟨_|_,_,_,_⟩:=d<;>kernel_rfl
theorem asI:iq BJ Sa:=jv<|by rintro cd aX w a3;obtain rfl:=aJ a3;exact ck 20 [] fun z f=>by kernel_rfl
theorem asJ:iq BK Sb:=jv<|by rintro cd aX⟨_,_,_,d⟩aR w a3;obtain rfl:=aJ a3;refine yl 73 20 [.b (eb (5,0,0,d.b,0,0))] (b3 [103,111,116,111,32] rfl) [] (qL d) (B.j (BY d)::f8 (b3 [103,111,116,111,32] rfl) [] [qL d] rfl) (fun z f=>by kernel_rfl) ?_;obtain⟨_|_,_,_,_⟩:=d<;>kernel_rfl
theorem asK:iq BL Sc:=jv<|by rintro cd aX⟨_,_,_,d⟩aR w a3;obtain rfl:=aJ a3;refine yl 73 20 [.b (eb (6,0,0,0,d.b,0))] (b3 [103,111,116,111,108,32] rfl) [] (qL d) (B.j (BY d)::f8 (b3 [103,111,116,111,108,32] rfl) [] [qL d] rfl) (fun z f=>by kernel_rfl) ?_;obtain⟨_|_,_,_,_⟩:=d<;>kernel_rfl
noncomputable def xW:hg:=b3 [105,102,32] rfl
noncomputable def xi:hg:=b3 [32,103,111,116,111,32] rfl
noncomputable def oI:hg:=b3 [32] rfl
theorem UH(e:Bool):iq (vw e) (Kk e):=jv<|by rintro Y9 a4 cd aX eH H hc L Y7 cN⟨_,_,_,d⟩aR w a3;obtain rfl:=aJ a3;refine lc (sN ii) 73 20 (fun b=>[.b (eb (16*(b.2.2:Int)+EF b.1+8,(cd.b:Int),(hc.b:Int),d.b,0,0))]) (fun _=>xW) (fun b=>[dy b.1 cd.b,oI,nI b.2.1,oI,dy b.1 hc.b,xi]) (fun _=>qL d) (fun b=>[B.j (iZ b.1 L),B.j LJ,B.j (iZ b.1 aX)]++(f8 xW [] [dy b.1 cd.b,oI,nI b.2.1,oI,dy b.1 hc.b,xi] rfl++(B.j (BY d)::f8 xW [dy b.1 cd.b,oI,nI b.2.1,oI,dy b.1 hc.b,xi] [qL d] rfl))) (fun z f=>by kernel_rfl) (u_ e H.1) ?_;obtain⟨_|_,_,_,_⟩:=d<;>kernel_rfl
theorem UG(e:Bool):iq (vv e) (Kj e):=jv<|by rintro Y9 a4 cd aX eH H⟨_,_,_,G⟩L Y7 cN⟨_,_,_,d⟩aR w a3;obtain rfl:=aJ a3;refine lc (sN ii) 73 20 (fun b=>[.b (eb (16*(b.2.2:Int)+EF b.1,(cd.b:Int),0,d.b,G.b,0))]) (fun _=>xW) (fun b=>[dy b.1 cd.b,oI,nI b.2.1,oI,pv G,xi]) (fun _=>qL d) (fun b=>[B.u (ys G []),B.j LJ,B.j (iZ b.1 aX)]++(f8 xW [] [dy b.1 cd.b,oI,nI b.2.1,oI,pv G,xi] rfl++(B.j (BY d)::f8 xW [dy b.1 cd.b,oI,nI b.2.1,oI,pv G,xi] [qL d] rfl))) (fun z f=>by kernel_rfl) (u_ e H.1) ?_;obtain⟨_|_,_,_,_⟩:=d<;>obtain⟨_|_,_,_,_⟩:=G<;>kernel_rfl
end
section
open PySem
theorem RG{q:List (Option K)→af→bJ K}{w:List (Option K)→af→Option bV}(dj:Nat→List Nat→List (Option K))(f:af)(M5:∀l aE,(0<l∨aE=[])→q (dj l aE) f=cW (.b (.g I)) f)(WW:∀F aE,q (dj 0 (F::aE)) f=cW (.b (.g C)) f)(aN:∀l aE,l<2^70→aE.length≤90→w (dj l aE) f=o (.b (dj (l/16) (l%16::aE)) f))(l:Nat):∀v e8,l<2^70→l<16^(v+1)→v≤90→v+2≤e8→oK q w e8 (dj l []) f=o (.b (dj 0 (jJ 16 l)) f):=by
 have D:=AH (e:=16) (fun l aE p=>∀v e8,(0<l∨aE=[])→l<2^70→l<16^(v+1)→aE.length+v≤90→v+2≤e8→oK q w e8 (dj l aE) f=o (.b (dj 0 p) f)) (by decide) (fun l aE bE v e8 c rf ar aw a3=>by obtain⟨e8,rfl⟩:∃E,e8=E+2:=⟨e8-2,(L9 (bt (pQ 2 v) a3)).symm⟩;refine B0 (M5 l aE c) ?_;rw[aN l aE rf (bt (ho ..) aw),Nat.div_eq_of_lt bE,Nat.mod_eq_of_lt bE];exact F8 (WW l aE)) (fun l aE p bE ak v e8 c rf ar aw a3=>by
  obtain⟨e8,rfl⟩:∃E,e8=E+1:=⟨e8-1,(L9 (bt (bt (by decide:1≤2) (pQ 2 v)) a3)).symm⟩;rcases v with _|v;·exact absurd bE (yL.2 ar)
  ·refine B0 (M5 l aE c) ?_;rw[aN l aE rf (bt (ho ..) aw)];exact ak v e8 (Or.inl (Nat.div_pos bE (by decide))) (gR (Nat.div_le_self ..) rf) ((Nat.div_lt_iff_lt_mul (by decide)).2 ar) (bt (ff (GI aE.length v)) aw) (Nat.le_of_succ_le_succ a3)) l;exact fun v e8 rf ar aw a3=>D v e8 (Or.inr rfl) rf ar (by rw[List.length_nil,q0];exact aw) a3
theorem alL:(de 16).map (fun F=>ot[F]?)=(de 16).map fun F=>o (ce F):=by kernel_rfl
theorem RH(l:Nat)(f:af):hR f (.b (.c ot)) (.b (.b (l%16:Nat)))=o (.c [ce (l%16)]):=FR (by decide) (a7 alL (gc.2 (jR l (by decide)))) f
theorem RF{aE:List Nat}(c:aE.length≤90)(F:Nat):fF .Add (.b (.c [ce F])) (.b (.c (aE.map ce)))=o (.c ((F::aE).map ce)):=w9 (v:=1) (by show 1≤400;decide) (by rw[dA];exact bt c (by decide)) (by decide)
theorem Ri{l:Nat}(c:0<l)(f:af):bI .Gt f (.b (.b l)) (.b (.b 0))=o I:=congrArg o (decide_eq_true (Int.natCast_pos.2 c))
def Rr(l:Nat)(aE:List Nat):List (Option K):=[o (.b (.b l)),o (.b (.c (aE.map ce)))]
theorem Tc{l:Nat}(c:l<2^70):l<16^(17+1):=fg c (by rw[show 16=2^4 from rfl,←Nat.pow_mul];exact sa (by decide) (by decide))
theorem ar4{l:Nat}(c:l<2^70):b_ ab 60 1 [.b (.b l)] (.ok (.c ((jJ 16 l).map ce))):=fun z f=>by
 have O:=RG (q:=fun A f=>d_ (bp ab z) ab.b I0 A [] f) (w:=dK (bp ab z) ab.b [] Lb) Rr [] (fun l aE c=>by
  rcases L6 l with rfl|bE;·obtain rfl:=c.resolve_left (tE 0);exact oG (R:=ab) 0 [] z (by kernel_rfl)
  ·exact oG (R:=ab) 0 [B.i (Ri bE [])] z (by kernel_rfl)) (fun F aE=>oG (R:=ab) 0 [] z (by kernel_rfl)) (fun l aE rf aw=>by have dw:fF .BitAnd (.b (.b l)) (.b (.b 15))=o (.b (l%16:Nat)):=congrArg (fun d=>o (M.b d)) (PyProof.Rows.bitAnd_m4 l);have dM:fF .RShift (.b (.b l)) (.b (.b 4))=o (.b (l/16:Nat)):=IO l 4;exact pz (R:=ab) 0 [B.q dw,B.l (RH l []),B.q (RF aw (l%16)),B.q dM] z (by kernel_rfl)) l 17 tt c (Tc c) (by decide) (by decide);exact iX 1 [B.v (k:=.k I0 Lb) O] z (by kernel_rfl)
theorem asc{l:Nat}(c:l<2^70):b_ ab 122 1 [.b (.b l)] (.ok (.c (aV.en I l).bT)):=fun z f=>by
 have O:=RG (q:=fun A f=>d_ (bp ab z) ab.b IZ A [] f) (w:=dK (bp ab z) ab.b [] La) Rr [] (fun l aE c=>by
  rcases L6 l with rfl|bE;·obtain rfl:=c.resolve_left (tE 0);exact oG (R:=ab) 0 [] z (by kernel_rfl)
  ·exact oG (R:=ab) 0 [B.i (Ri bE [])] z (by kernel_rfl)) (fun F aE=>oG (R:=ab) 0 [] z (by kernel_rfl)) (fun l aE rf aw=>by have dw:fF .Mod (.b (.b l)) (.b (.b 16))=o (.b (l%16:Nat)):=congrArg (fun d=>o (M.b d)) (Ge _ (by decide));have dM:fF .FloorDiv (.b (.b l)) (.b (.b 16))=o (.b (l/16:Nat)):=(if_neg (not_or.2 ⟨by decide,not_or.2 ⟨yL.2 (lW rf (vW (by decide) (by decide)):l<2^128),by decide⟩⟩)).trans (congrArg (fun d=>o (M.b d)) (Gd _ (by decide)));exact pz (R:=ab) 0 [B.q dw,B.l (RH l []),B.q (RF aw (l%16)),B.q dM] z (by kernel_rfl)) l 17 tt c (Tc c) (by decide) (by decide);have q:fF .Add (.b (.c [48,120])) (.b (.c ((jJ 16 l).map ce)))=o (.c (aV.en I l).bT):=w9 (v:=1) (by decide) (by rw[dA];exact bt (tc I c) (by decide)) (by decide);exact iX 1 [B.v (k:=.k IZ La) O,B.q q] z (by kernel_rfl)
end
section
open PySem
theorem Ut(l:Int):b_ ab 3 1 [.b (.b l),.b (.b 32)] (.ok (.b (l%4294967296))):=ck 1 [B.q (Pg l)] fun z f=>by kernel_rfl
theorem ass{l t y u s:Int}(H:t+4294967296*u=l)(L:y+4294967296*s=u):l=t+y*4294967296+18446744073709551616*s:=by rw[←H,←L,Int.mul_add,←Int.mul_assoc,←Int.add_assoc,Int.mul_comm y];rfl
theorem Ux(l:Int):l%4294967296+l/4294967296%4294967296*4294967296=l%18446744073709551616:=by have b:=ass (Int.emod_add_mul_ediv l 4294967296) (Int.emod_add_mul_ediv (l/4294967296) 4294967296);have MA:=tx l (show(4294967296:Int)≠0 by decide);have kr:=tx (l/4294967296) (show(4294967296:Int)≠0 by decide);have c_:=vK l (show(0:Int)<4294967296 by decide);have dw:=vK (l/4294967296) (show(0:Int)<4294967296 by decide);generalize l%4294967296=t at b MA c_⊢;generalize l/4294967296%4294967296=y at b kr dw⊢;generalize l/4294967296/4294967296=s at b;rw[b,Int.add_mul_emod_self_left];exact(Int.emod_eq_of_lt (Int.add_nonneg MA (Int.mul_nonneg kr (by decide))) (Int.add_lt_add_of_lt_of_le c_ (Int.mul_le_mul_of_nonneg_right (B6 dw) (by decide)))).symm
theorem asq(l:Int):l%18446744073709551616%4294967296=l%4294967296:=Gb l ⟨4294967296,rfl⟩
theorem asr(l:Int):l%18446744073709551616/4294967296%4294967296=l/4294967296%4294967296:=by rw[←Ux,Int.add_mul_ediv_right _ _ (by decide),LY (tx _ (by decide)) (vK _ (by decide)),Int.zero_add,Gb _ (Int.dvd_refl _)]
theorem acl(l:Int):fF .LShift (.b (.b (l%4294967296))) (.b (.b 32))=o (.b (l%4294967296*4294967296)):=if_pos ⟨E3 (tx l (by decide)) (B9 (vK l (by decide)) (by decide)),by decide,by decide⟩
theorem RB(l:Int):fN l%4294967296=l%4294967296:=by
 unfold fN;rcases a6 (2147483648≤l%4294967296);·exact Gb _ (Int.dvd_refl _)
 ·show(l%4294967296-4294967296)%4294967296=_;rw[Int.sub_emod_right,Gb _ (Int.dvd_refl _)]
theorem RA{l ad:Int}(c:l%4294967296=ad%4294967296):fN l=fN ad:=by unfold fN;rw[c]
noncomputable def mZ(l:Int):Nat:=(l%18446744073709551616).toNat
theorem UB(l:Int):(mZ l:Int)=l%18446744073709551616:=LZ (tx _ (by decide))
theorem UA(l:Int):(mZ l:Int)<18446744073709551616:=by rw[UB];exact vK _ (by decide)
theorem asA(l:Int):mZ l<2^70:=fg (pJ.1 (UA l):mZ l<18446744073709551616) (by decide)
theorem asR:iq BO Sh:=fun J w aY a3=>by
 obtain⟨cd,_,rfl,aX,eH,_,rfl,H,⟨Y',Y6,Y_,d⟩,_,rfl,L,gG,_,rfl,aR,rfl⟩:=aY;obtain rfl:=aJ a3;have G5:=UB d.b;have HQ:=asA d.b;have aG:fN (mZ d.b:Int)=fN d.b:=RA (by rw[G5];exact asq _);have aK:fN ((mZ d.b:Int)/4294967296)=fN (d.b/4294967296):=RA (by rw[G5];exact asr _);have WK:fN d.b%4294967296+fN (d.b/4294967296)%4294967296*4294967296=(mZ d.b:Int):=by rw[RB,RB,G5];exact Ux _
 refine⟨[cd,eH,⟨Y',Y6,Y_,⟨C,mZ d.b,HQ,fun b=>nomatch b⟩⟩,gG],⟨_,_,rfl,aX,_,_,rfl,H,_,_,rfl,s6.2 ⟨g4 (by decide) (jP _),UA d.b⟩,_,_,rfl,aR,rfl⟩,?_,?_⟩;·show o ((24:Int),(cd.b:Int),(0:Int),(0:Int),fN (mZ d.b:Int),fN ((mZ d.b:Int)/4294967296))=o (24,(cd.b:Int),0,0,fN d.b,fN (d.b/4294967296));rw[aG,aK]
 ·have d0:b_ ab 60 1 [.b (.b (fN d.b%4294967296+fN (d.b/4294967296)%4294967296*4294967296))] (.ok (.c ((jJ 16 (mZ d.b)).map ce))):=WK▸ar4 HQ;have i6:((jJ 16 (mZ d.b)).map ce).length≤400:=by rw[dA];exact bt (tc I HQ) (by decide)
  exact yl 73 20 [.b (eb (24,(cd.b:Int),0,0,fN d.b,fN (d.b/4294967296)))] (dy C cd.b) [b3 [32,61,32,48,120] rfl,⟨(jJ 16 (mZ d.b)).map ce,i6⟩] (b3 [32,108,108] rfl) ([B.j (iZ C aX),B.j (Ut (fN d.b)),B.j (Ut (fN (d.b/4294967296))),B.q (acl (fN (d.b/4294967296)))]++(f8 (dy C cd.b) [] [b3 [32,61,32,48,120] rfl] rfl++(B.j d0::f8 (dy C cd.b) [b3 [32,61,32,48,120] rfl] [⟨(jJ 16 (mZ d.b)).map ce,i6⟩,b3 [32,108,108] rfl] rfl))) (fun z f=>by kernel_rfl) (by kernel_rfl)
theorem gp{R:dp×List ex→Prop}{g:dp×List ex}{p:List (dp×List ex)}(c:R g)(v:∀y∈p,R y):∀y∈g::p,R y:=tD.2 ⟨c,v⟩
theorem asF:∀b∈vB,iq b.1 b.2:=gp (UD _) (gp (UD _) (gp (UC _) (gp (UC _) (gp (UJ _) (gp (UJ _) (gp asH (gp (UL _) (gp (UL _) (gp asM (gp asL (gp asQ (gp asP (gp (UI _) (gp (UI _) (gp (UF _) (gp (UF _) (gp (UM _) (gp (UM _) (gp (UE _) (gp (UE _) (gp asR (gp asO (gp asG (gp asN (gp asI (gp asJ (gp asK (gp (UH _) (gp (UH _) (gp (UG _) (gp (UG _) (fun _ c=>nomatch c))))))))))))))))))))))))))))))))
def Ik(y:dp):Prop:=∀(O:List ex)J,O.map (·.b)=y.b→oc y.b J→(y.e&&bd .f (a_ (dr (gq O J)) 2))=C
theorem Pc(e:Bool):Ik (pA e):=fun O J b aY=>by
 obtain⟨cd,_,rfl,aX,eH,_,rfl,H,⟨_,_,_,⟨y,_,_,_⟩⟩,_,rfl,L,rfl⟩:=aY;rcases O with _|⟨⟨YJ,_,_,_⟩,_|⟨⟨e4,_,_,_⟩,_|⟨⟨fC,_,_,_⟩,O⟩⟩⟩;·exact nomatch b
 ·exact nomatch(m2 b).2
 ·exact nomatch(m2 (m2 b).2).2
 ·obtain rfl:YJ=.c e:=(m2 b).1;obtain rfl:e4=uV:=(m2 (m2 b).2).1;obtain rfl:fC=.d C 32:=(m2 (m2 (m2 b).2).2).1;rcases y<;>rfl
theorem gJ{y:dp}(c:y.e=C):Ik y:=fun O J _ _=>by rw[c];rfl
theorem aad:∀y∈e1,Ik y:=bO (gJ rfl) (bO (gJ rfl) (bO (Pc _) (bO (Pc _) (bO (gJ rfl) (bO (gJ rfl) (bO (gJ rfl) (bO (gJ rfl) (bO (gJ rfl) (bO (gJ rfl) (bO (gJ rfl) (bO (gJ rfl) (bO (gJ rfl) (bO (gJ rfl) (bO (gJ rfl) (bO (gJ rfl) (bO (gJ rfl) (bO (gJ rfl) (bO (gJ rfl) (bO (gJ rfl) (bO (gJ rfl) (bO (gJ rfl) (bO (gJ rfl) (bO (gJ rfl) (bO (gJ rfl) (bO (gJ rfl) (bO (gJ rfl) (bO (gJ rfl) (bO (gJ rfl) (bO (gJ rfl) (bO (gJ rfl) (bO (gJ rfl) (fun _ c=>nomatch c))))))))))))))))))))))))))))))))
theorem ajd{x:gn}{w:cY}(p:List dp):rQ x p=o w→∃y,y∈p∧eA x y=o w:=by induction p with|nil=>exact fun c=>nomatch c|cons g p ak=>refine fun c=>f9 c (fun c=>⟨g,dY ..,c⟩) fun c=>?_;obtain⟨y,H,L⟩:=ak c;exact⟨y,e6 _ H,L⟩
theorem ZZ{x:gn}{w:cY}:∀y∈e1,eA x y=o w→fW x=o w:=bO (DD _) (bO (DD _) (bO (DC _) (bO (DC _) (bO (DJ _) (bO (DJ _) (bO OV (bO (DK _) (bO (DK _) (bO O0 (bO OZ (bO O4 (bO O3 (bO (DI _) (bO (DI _) (bO (DF _) (bO (DF _) (bO (DL _) (bO (DL _) (bO (DE _) (bO (DE _) (bO O5 (bO O2 (bO OU (bO O1 (bO OW (bO OX (bO OY (bO (DH _) (bO (DH _) (bO (DG _) (bO (DG _) (fun _ c=>nomatch c))))))))))))))))))))))))))))))))
theorem Qj{y:dp}(aW:y∈e1){O:List ex}(T:O.map (·.b)=y.b){J:List jG}(aY:oc y.b J){w:cY}(a3:y.d (pH y.b J)=o w):mL (a_ (dr (gq O J)))=o w:=by have e9:=Fa aW;have aB:=arv O J [] y.d (T▸e9) (T▸aY);rw[T,a3]at aB;have P:=aad y aW O J T aY;exact(KY _).symm.trans (ZZ y aW (k_ (by
 rcases u:y.e;·rfl
 ·rw[u]at P;show(_&&bd .f (a_ (dr (gq O J)) 2))=C;rw[show bd .f (a_ (dr (gq O J)) 2)=C from P];exact qX _) aB))
theorem ahh{b:dp×List ex}(aU:b∈vB){J:List jG}(aY:oc b.1.b J){w:cY}(a3:b.1.d (pH b.1.b J)=o w):mL (a_ (dr (gq b.2 J)))=o w∧rB (gq b.2 J)∧(gq b.2 J).length≤60:=by have T:b.2.map (·.b)=b.1.b:=a7 aqm aU;have aW:b.1∈e1:=Ls▸pO aU;have e9:=Fa aW;obtain⟨c_,Vb⟩:=bw (a7 aql aU);obtain⟨e3,gT⟩:=bw Vb;refine⟨Qj aW T aY a3,aoM b.2 J c_ (fun p aw=>?_) (T▸e9) (T▸aY),bt (Tq b.2 J) (tF 2 (cF gT))⟩;obtain⟨dw,dM⟩:=e5.1 (fe.1 e3 p aw);exact⟨cF dw,cF dM⟩
theorem asE{x:gn}(c2:∀i s,x i=o s→s.d9){w:cY}(c:mL x=o w):∃bm,rB bm∧bm.length≤60∧b_ ab 73 20 [.b (eb w)] (.ok (.c (eP bm)))∧mL (a_ (dr bm))=o w:=by obtain⟨y,aW,c⟩:=ajd e1 c;rw[←Ls]at aW;obtain⟨b,aU,rfl⟩:=pN.1 aW;have aW:b.1∈e1:=Ls▸pO aU;exact iY c fun _ c=>by obtain⟨J,aY,a3⟩:=ary c2 b.1.b 0 b.1.d (Fa aW) c;obtain⟨Dk,WM,W',bE⟩:=asF b aU J w aY a3;obtain⟨H,L,aR⟩:=ahh aU WM W';exact⟨_,L,aR,bE,H⟩
end
section
open PySem
noncomputable def vu(aC:List Int):M:=.f (aC.map .b)
noncomputable def cj(aC:List Int)(i:Nat):Nat:=co aC[i]? (fun d=>(d%18446744073709551616).toNat) ((7129*i*i+90031*i+67*aC.length+17)%65063)
theorem E6{g e:Nat}(aY:g<2^500)(aN:e<2^500):fF .Mult (.b (.b g)) (.b (.b e))=o (.b (g*e:Nat)):=if_pos ⟨lW aY (vW (by decide) (by decide)),lW aN (vW (by decide) (by decide))⟩
theorem mP(g e:Nat)(aN:0<e):fF .Mod (.b (.b g)) (.b (.b e))=o (.b (g%e:Nat)):=(if_neg (fun b=>pS aN (lh b))).trans (congrArg (fun d=>o (M.b d)) (Ge _ (jP e)))
theorem anR{g e:Nat}(aY:g<2^128)(aN:0<e)(WR:e<2^128):fF .FloorDiv (.b (.b g)) (.b (.b e))=o (.b (g/e:Nat)):=(if_neg (not_or.2 ⟨fun b=>pS aN (lh b),not_or.2 ⟨yL.2 aY,yL.2 WR⟩⟩)).trans (congrArg (fun d=>o (M.b d)) (Gd _ (jP e)))
theorem aec(aC:List Int)(i:Nat):cj aC i<18446744073709551616:=by
 unfold cj;rcases aC[i]?with _|d;·exact lW (jR _ (by decide)) (by decide)
 ·have H:=vK d (by decide:(0:Int)<18446744073709551616);have L:=tx d (by decide:(18446744073709551616:Int)≠0);exact(Int.toNat_lt L).2 H
section
variable{aC:List Int}(ah:aC.length≤63)
include ah
theorem qv{i:Nat}(a4:i≤100):b_ ab 110 1 [.b (vu aC),.b (.b i)] (.ok (.b (cj aC i))):=by
 have jX:h2 .hL [] [.b (vu aC)]=o (.b (.b aC.length)):=by show(if(aC.map M.b).length≤cK then o (K.b (.b (aC.map M.b).length))else U)=_;rw[dA];exact if_pos (bt ah (by decide))
 have n7:∀{e},a6 (i<aC.length)=e→bI .Lt [] (.b (.b i)) (.b (.b aC.length))=o e:=fun b=>congrArg o ((lg.2 (by rw[decide_eq_true_iff,decide_eq_true_iff,pJ])).trans b);unfold cj;rcases b:aC[i]?with _|d;·have u:=n7 (decide_eq_false (jS.2 (Gr.1 b)));have zG:i<2^500:=gR a4 (fg (by decide:100<2^7) (sa (by decide) (by decide)));have y6:∀{g:Nat},g<2^32→g<2^500:=fun c=>lW c (vW (by decide) (by decide));have st:=E6 (g:=7129) (e:=i) (y6 (by decide)) zG;have rm:=E6 (g:=7129*i) (e:=i) (y6 (gR (tF 7129 a4) (by decide))) zG;have HR:=E6 (g:=90031) (e:=i) (y6 (by decide)) zG;have HS:=E6 (g:=67) (e:=aC.length) (y6 (by decide)) (y6 (gR ah (by decide)));exact ck 1 [B.u jX,B.i u,B.q st,B.q rm,B.q HR,B.u jX,B.q HS,B.q (mP (7129*i*i+90031*i+67*aC.length+17) 65063 (by decide))] fun z f=>by kernel_rfl
 ·have aw:=(eg.1 b).1;have u:=n7 (decide_eq_true aw);have y:hR [] (.b (vu aC)) (.b (.b i))=o (.b d):=by show(hA (aC.map M.b).length i).bind ((aC.map M.b)[·]?)=_;rw[dA,s3 i (bt ah (by decide)) aw];show(aC.map M.b)[i]?=_;rw[jQ,b];rfl
  have l2:fF .Mod (.b (.b d)) (.b (.b 18446744073709551616))=o (.b ((d%18446744073709551616).toNat:Nat)):=(congrArg (fun d=>o (M.b d)) (Ge _ (by decide):d.fmod 18446744073709551616=_)).trans (congrArg (fun d=>o (M.b d)) (LZ (tx _ (by decide))).symm);exact ck 1 [B.u jX,B.i u,B.l y,B.q l2] fun z f=>by kernel_rfl
end
def AE(r:Nat):List Nat:=an (bR r 10) [49,48] [48+r]
theorem ag9(f:af):(de 11).map (fun r=>h2 .f5 f [.b (.b (r:Nat))])=(de 11).map fun r=>o (.b (.c (AE r))):=by kernel_rfl
theorem aph(e:Bool)(r:Nat):fF .Add (.b (.c [an e 119 114])) (.b (.c (AE r)))=o (.c (ec e r)):=by
 show(if 1+(an (bR r 10) [49,48] [48+r]).length≤cK then o (M.c (an e 119 114::AE r))else U)=_;unfold AE ec;rcases b:bR r 10;·exact(if_pos (cF rfl)).trans (by show _=o (M.c (an e 119 114::an (bR r 10) [49,48] [48+r]));rw[b])
 ·exact(if_pos (cF rfl)).trans (by show _=o (M.c (an e 119 114::an (bR r 10) [49,48] [48+r]));rw[b])
theorem ajx(r:Nat)(f:af):gO.map (fun k=>bp ab (r+6) 112 [.b (.c (kf (.d k.1 k.2)))] f)=gO.map fun _=>o (.ok (.b (.f [])),f):=by kernel_rfl
noncomputable def kK(p:List (aF×Nat))(q:Nat):aF×Nat:=p.getD (q%p.length) (aF.c,0)
theorem k5{p:List (aF×Nat)}(c:0<p.length)(q:Nat):kK p q∈p:=by unfold kK;rw[vO,hT (jR q c)];exact Cc ..
theorem ajC{p:List (aF×Nat)}(c:0<p.length)(L:p.length≤1000)(q:Nat):hR [] (.b (.f (qC p))) (.b (.b (q%p.length:Nat)))=o (.c (aF.b (kK p q).1)):=by
 have jB:(qC p).length=p.length:=by unfold qC;rw[dA,dA,dA]
 show(hA (qC p).length (q%p.length:Nat)).bind ((qC p)[·]?)=_;rw[jB,s3 _ L (jR q c)];show(qC p)[q%p.length]?=_;unfold qC kK;rw[jQ,jQ,jQ,vO,hT (jR q c)];rfl
def qW(m:Nat)(q:Nat):List Int:=[0,1,(q%4096:Nat),nA m,nF m,nA m-1,nF m+1,0-(q%4096:Nat)]
def vG(m:Nat)(q:Nat):Int:=(qW m q).getD (q%8) 0
theorem asD(m q:Nat):hR [] (.b (.f ((qW m q).map .b))) (.b (.b (q%8:Nat)))=o (.b (vG m q)):=by have c:q%8<(qW m q).length:=jR q (by decide);show(hA ((qW m q).map M.b).length (q%8:Nat)).bind (((qW m q).map M.b)[·]?)=_;rw[dA,s3 _ (cF rfl) c];show((qW m q).map M.b)[q%8]?=_;unfold vG;rw[jQ,vO,hT c];rfl
theorem EX{p l c:Int}(fB:p≤-4095)(l1:4095≤c)(g: -4095≤l)(e:l≤4095):p≤l∧l≤c:=⟨g4 fB g,g4 e l1⟩
theorem jO{k:Bool×Nat}(al:k∈gO)(q:Nat):fa k.2 (vG k.2 q)=I:=by
 have aS:gO.map (fun k=>(a6 (nF k.2≤-4095)&&a6 (4095≤nA k.2)))=gO.map fun _=>I:=by kernel_rfl
 obtain⟨fB,l1⟩:=e5.1 (a7 aS al);have fB:=of_decide_eq_true fB;have l1:=of_decide_eq_true l1;have C2:nF k.2<nA k.2:=B7 fB (B8 (by decide) l1);have z:(q%4096:Nat)<4096:=jR q (by decide);have hX:∀l∈qW k.2 q,nF k.2≤l∧l≤nA k.2:=fun l bE=>by
  unfold qW at bE;rcases bE with _|⟨_,_|⟨_,_|⟨_,_|⟨_,_|⟨_,_|⟨_,_|⟨_,_|⟨_,bE⟩⟩⟩⟩⟩⟩⟩⟩;·exact EX fB l1 (by decide) (by decide)
  ·exact EX fB l1 (by decide) (by decide)
  ·exact EX fB l1 (g4 (by decide) (jP _)) (tA.2 (Ck z))
  ·exact⟨vL C2,Int.le_refl _⟩
  ·exact⟨Int.le_refl _,vL C2⟩
  ·exact⟨B6 C2,B_ _ (by decide)⟩
  ·exact⟨vL (Int.lt_succ _),C2⟩
  ·exact EX fB l1 (Int.sub_le_sub_left (tA.2 (Ck z)) 0) (g4 (B_ 0 (jP _)) (by decide))
  ·exact nomatch bE
 have c:q%8<(qW k.2 q).length:=jR q (by decide);have D:vG k.2 q∈qW k.2 q:=by unfold vG;rw[vO,hT c];exact Cc ..
 obtain⟨H,L⟩:=hX _ D;rw[JE al,decide_eq_true H,decide_eq_true L];rfl
theorem aiF{k:Bool×Nat}(al:k∈gO){l:Int}(c:fa k.2 l=I):l.natAbs<2^70:=by
 have aS:gO.map (fun k=>(a6 (-9223372036854775808≤nF k.2)&&a6 (nA k.2≤18446744073709551615)))=gO.map fun _=>I:=by kernel_rfl
 obtain⟨fB,l1⟩:=e5.1 (a7 aS al);rw[JE al]at c;obtain⟨H,L⟩:=e5.1 c;exact ST (B8 (by decide) (g4 (of_decide_eq_true fB) (of_decide_eq_true H))) (B7 (g4 (of_decide_eq_true L) (of_decide_eq_true l1)) (by decide))
end
section
open PySem
section
variable{aC:List Int}(ah:aC.length≤63)
theorem ar2{v:aF}(c:E' (.b v)=I):b_ ab 112 6 [.b (.c v.b)] (.ok (.f [])):=fun r f=>(bw (a7 (EQ r f) (S_ c))).1
theorem Un(e:Bool):b_ ab 112 6 [.b (.c [an e 119 114])] (.ok (.f [])):=fun r f=>(bw (a7 (Lj r f) (hB e))).1
theorem ar1{b:Nat×List (aF×Nat)×Nat}(aU:b∈h4):b_ ab 112 6 [.b (.c [b.1])] (.ok (.f ((j' b).map .c))):=fun r f=>(bw (a7 (JY r f) aU)).1
theorem ar3{k:Bool×Nat}(al:k∈gO):b_ ab 112 6 [.b (.c (kf (.d k.1 k.2)))] (.ok (.f [])):=fun r f=>a7 (ajx r f) al
theorem arX{k:Bool×Nat}(al:k∈gO):b_ ab 115 5 [.b (.c (kf (.d k.1 k.2)))] (.ok (.j [.b (nF k.2),.b (nA k.2)])):=fun r f=>a7 (Pj r f) al
noncomputable def x4(i:Nat)(a4:gd i 100=I):B:=B.j (qv ah (cF a4))
noncomputable def cQ(i:Nat)(v:aF)(a4:gd i 100=I)(c:E' (.b v)=I):List B:=[x4 ah i a4,B.j (ar2 c)]
def xf(i:Nat)(e:Bool)(a4:gd i 100=I):List B:=[x4 ah i a4,B.j (Un e)]
theorem aqK{r:Nat}(c:r<11):h2 .f5 [] [.b (.b (r:Nat))]=o (.b (.c (AE r))):=a7 (ag9 []) (gc.2 c)
def gA(i:Nat)(e:Bool)(a4:gd i 100=I):List B:=[x4 ah i a4,B.j (Un e),B.q (mP (cj aC i) 11 (by decide)),B.u (aqK (jR (cj aC i) (by decide:0<11))),B.q (aph e (cj aC i%11))]
noncomputable def mf(i:Nat){b:Nat×List (aF×Nat)×Nat}(aU:b∈h4)(p:List (aF×Nat))(c:0<p.length)(L:p.length≤1000)(a4:gd i 100=I):List B:=[x4 ah i a4,B.j (ar1 aU),B.q (mP (cj aC i) p.length c),B.l (ajC c L (cj aC i))]
theorem Z0(d:fk):h2 .ur [] [.b (.b d.b)]=o (.b (.b d.c)):=by
 have:(d.b.natAbs:Int)=d.c:=by
  obtain⟨_|_,z,_,_⟩:=d;·rfl
  ·exact congrArg Int.ofNat (Gf z)
 exact congrArg (fun l=>o (K.b (.b l))) this
theorem Fy(d:fk):bI .Lt [] (.b (.b d.b)) (.b (.b 0))=o d.e:=congrArg o (Lp d)
theorem ao8{r:Nat}{s:Bool}(b:eS 0 r=s):bI .Gt [] (.b (.b r)) (.b (.b 0))=o s:=congrArg o ((lg.2 (by rw[decide_eq_true_iff,Cj];exact Int.natCast_pos)).trans b)
def j8(i:Nat){k:Bool×Nat}(al:k∈gO)(d:fk)(aH:Bool)(MM:d.b=vG k.2 (cj aC i))(V_:eS 0 (cj aC i/8%3)=!aH)(a4:gd i 100=I):List B:=[x4 ah i a4,B.j (ar3 al),B.j (arX al),B.q (mP (cj aC i) 4096 (by decide)),B.q (mP (cj aC i) 4096 (by decide)),B.q (mP (cj aC i) 8 (by decide)),B.l (k:=.b d.b) (MM▸asD k.2 (cj aC i))]++(an k.1 [B.i (Fy d)] (an d.e [B.i (Fy d),B.i (Fy d)] [B.i (Fy d)])++([B.q (anR (g:=cj aC i) (e:=8) (lW (aec aC i) (by decide)) (by decide) (by decide)),B.q (mP (cj aC i/8) 3 (by decide)),B.i (ao8 V_),B.u (Z0 d)]++an aH [B.j (asc d.f)] [B.u (FQ d.f [])]))
theorem kd(i:Nat){k:Bool×Nat}(al:k∈gO):∃d:fk,d.b=vG k.2 (cj aC i):=E5 _ (aiF al (jO al _))
theorem ka(i:Nat):∃aH,eS 0 (cj aC i/8%3)=!aH:=⟨!eS 0 (cj aC i/8%3),(Bool.not_not _).symm⟩
def iK(aC:List Int)(y:dp):Prop:=e1[cj aC 0%32]?=o y→∃O J w,O.map (·.b)=y.b∧oc y.b J∧y.d (pH y.b J)=o w∧O.length≤30∧b_ ab 121 12 [.b (vu aC)] (.ok (d5 (dr (gq O J))))
theorem ap7{aC:List Int}{y:dp}(b:e1[cj aC 0%32]?=o y):hR [] (.b (.f (e1.map kh))) (.b (.b (cj aC 0%32:Nat)))=o (kh y):=by show(hA (e1.map kh).length (cj aC 0%32:Nat)).bind ((e1.map kh)[·]?)=_;rw[dA];show(hA 32 (cj aC 0%32:Nat)).bind _=_;rw[s3 _ (by decide) (jR _ (by decide))];show(e1.map kh)[cj aC 0%32]?=_;rw[jQ,b];rfl
def iR{y:dp}(b:e1[cj aC 0%32]?=o y):List B:=[B.j Ur,x4 ah 0 rfl,B.q (mP (cj aC 0) 32 (by decide)),B.l (ap7 b)]
noncomputable def ga(r:Nat):jG:=⟨r,0,aF.c,nQ⟩
noncomputable def cR:jG:=⟨0,0,aF.c,nQ⟩
noncomputable def lT(b:aF×Nat):jG:=⟨0,b.2,b.1,nQ⟩
noncomputable def kj(d:fk):jG:=⟨0,0,aF.c,d⟩
noncomputable def bz(k:dJ)(aH:Bool):ex:=⟨k,[],[],aH⟩
theorem fI(q:Nat):q%11≤10:=Ck (jR q (by decide))
theorem z7:(65,jb,17)∈h4:=dZ (i:=0) rfl
theorem Sr:h4.map (fun b=>b.2.1.map fun v=>(cZ b.2.1 (o (.b0 v.1)),eS v.1 eQ))=h4.map fun b=>b.2.1.map fun v=>(o v.2,I):=by kernel_rfl
theorem mU{b:Nat×List (aF×Nat)×Nat}(aU:b∈h4){v:aF×Nat}(ar:v∈b.2.1):wS (.e b.1 b.2.1) (lT v):=⟨ar,(bw (a7 (a7 Sr aU) ar)).1,(bw (a7 (a7 Sr aU) ar)).2⟩
include ah
theorem Q5(e:Bool):iK aC (qR e):=fun b=>by
 refine⟨[bz (.c e) C,bz uV C,bz (.c e) C],[ga (cj aC 1%11),lT (kK jb (cj aC 2)),ga (cj aC 3%11)],_,rfl,⟨_,_,rfl,fI _,_,_,rfl,mU z7 (k5 (by decide) _),_,_,rfl,fI _,rfl⟩,rfl,cF rfl,?_⟩;rcases e;·exact ck 12 (iR ah b++(gA ah 1 C rfl++(mf ah 2 z7 jb (by decide) (by decide) rfl++gA ah 3 C rfl))) fun z f=>by kernel_rfl
 ·exact ck 12 (iR ah b++(gA ah 1 I rfl++(mf ah 2 z7 jb (by decide) (by decide) rfl++gA ah 3 I rfl))) fun z f=>by kernel_rfl
end
end
section
open PySem
theorem w'{V:Type}{s:Bool}{g:V}(c:s=I):iQ s g=o g:=e0 c rfl
theorem OS:(79,jN,9)∈h4:=dZ (i:=1) rfl
theorem OO:(76,lP,11)∈h4:=dZ (i:=2) rfl
theorem OM:(70,iT,11)∈h4:=dZ (i:=3) rfl
theorem Ds:(67,ii,14)∈h4:=dZ (i:=4) rfl
theorem qT:(117,ef,4)∈h4:=dZ (i:=5) rfl
theorem FG:(115,hl,3)∈h4:=dZ (i:=6) rfl
theorem f7:(I,16)∈gO:=dZ (i:=0) rfl
theorem wQ:(I,32)∈gO:=dZ (i:=1) rfl
theorem ma:(C,32)∈gO:=dZ (i:=2) rfl
theorem IB:(C,64)∈gO:=dZ (i:=3) rfl
def tp(e:Bool):List (aF×Nat):=an e (hl.take 2) hl
theorem LB(e:Bool):0<(tp e).length:=by rcases e<;>decide
theorem aq6(e:Bool):(tp e).length≤1000:=by rcases e<;>decide
theorem aq7(e:Bool)(q:Nat):kK (tp e) q∈hl:=by
 have:=k5 (LB e) q;rcases e;·exact this
 ·exact GB this
theorem aq8(e:Bool)(q:Nat):(!e||decide (((kK (tp e) q).2:Int)<2))=I:=by
 have aS:d8.map (fun e=>(tp e).map fun b=>(!e||decide ((b.2:Int)<2)))=d8.map fun e=>(tp e).map fun _=>I:=by kernel_rfl
 exact a7 (a7 aS (hB e)) (k5 (LB e) q)
theorem UQ(e:Bool):a6 (((an e ((aF.w,2):aF×Nat) (aF.x,3)).2:Int)=kl e)=I:=by rcases e<;>rfl
theorem Ta(e:Bool):wS kJ (lT (an e (aF.w,2) (aF.x,3))):=by
 rcases e;·exact mU qT (v:=(aF.x,3)) (dZ (i:=3) rfl)
 ·exact mU qT (v:=(aF.w,2)) (dZ (i:=2) rfl)
noncomputable def arT:List M:=qC ef
theorem yw{s:aV}(bu:s.d9){t:Option Nat}(b:cZ ef (o s)=t):bI .In [] (.b (.c s.bT)) (.b (.j arT))=o t.isSome:=AX (n:=o s) rfl (fun _ b=>aJ b▸bu) b []
def BW(e:Bool){r:Nat}(c:r≤10):B:=B.i (yw (s:=.fT e r) c rfl)
def lS(v:aF)(c:eS v eQ=I):B:=B.i (yw (s:=.b0 v) (cF c) rfl)
theorem amD:lP.map (fun b=>(cZ ef (o (.b0 b.1)),eS b.1 eQ))=lP.map fun _=>(U,I):=by kernel_rfl
theorem ajh:iT.map (fun b=>(cZ ef (o (.b0 b.1)),eS b.1 eQ))=iT.map fun _=>(U,I):=by kernel_rfl
theorem Uf:ef.map (fun b=>(cZ ef (o (.b0 b.1)),eS b.1 eQ))=ef.map fun b=>(o b.2,I):=by kernel_rfl
def Ui{p:List (aF×Nat)}(c:p.map (fun b=>(cZ ef (o (.b0 b.1)),eS b.1 eQ))=p.map fun _=>(U,I)){b:aF×Nat}(aU:b∈p):B:=B.i (yw (s:=.b0 b.1) (cF (bw (a7 c aU)).2) (bw (a7 c aU)).1)
def Ul{b:aF×Nat}(aU:b∈ef):B:=B.i (yw (s:=.b0 b.1) (cF (bw (a7 Uf aU)).2) (bw (a7 Uf aU)).1)
def Uk(d:fk):B:=B.i (k:=C) (yw (s:=an d.e (.b0 .i) (.b0 .f)) (by rcases d.e<;>exact cF rfl) (t:=U) (by rcases d.e<;>rfl))
def Uj(s:Bool)(d:fk):B:=B.i (yw (s:=.en s d.c) d.f rfl)
theorem apd:bI .In [] (.b (.c [41])) (.b FE)=o C:=by kernel_rfl
theorem ape:bI .In [] (.b (.c [41])) (.b (.c [35,126]))=o C:=by kernel_rfl
theorem apb:bI .In [] (.b (.c [108,111,99,107])) (.b (.j [.c [102,101,116,99,104],.c [120,99,104,103]]))=o C:=by kernel_rfl
theorem apc:bI .In [] (.b (.c [108,111,99,107])) (.b (.j [.c [108,111,99,107],.c [102,101,116,99,104]]))=o I:=by kernel_rfl
theorem ao9:bI .In [] (.b (.c [102,101,116,99,104])) (.b (.j [.c [102,101,116,99,104],.c [120,99,104,103]]))=o I:=by kernel_rfl
theorem apa:bI .In [] (.b (.c [102,101,116,99,104])) (.b (.j [.c [108,111,99,107],.c [102,101,116,99,104]]))=o I:=by kernel_rfl
section
variable{aC:List Int}(ah:aC.length≤63)
include ah
theorem Q4(e:Bool):iK aC (pA e):=fun b=>by obtain⟨ch,bs⟩:=kd (aC:=aC) 3 ma;obtain⟨c3,aX⟩:=ka (aC:=aC) 3;refine⟨[bz (.c e) C,bz uV C,bz (.d C 32) c3],[ga (cj aC 1%11),lT (kK jb (cj aC 2)),kj ch],_,rfl,⟨_,_,rfl,fI _,_,_,rfl,mU z7 (k5 (by decide) _),_,_,rfl,(congrArg (fa 32) bs).trans (jO ma _),rfl⟩,rfl,cF rfl,ck 12 (iR ah b++(gA ah 1 e rfl++(mf ah 2 z7 jb (by decide) (by decide) rfl++(j8 ah 3 ma ch c3 bs aX rfl)))) fun z f=>?_⟩;obtain⟨_|_,_,_,_⟩:=ch<;>rcases c3<;>rcases e<;>kernel_rfl
theorem Q'(e:Bool):iK aC (pC e):=fun b=>by refine⟨[bz (.c e) C,bz (.b .c) C,bz (.b .i) C,bz (.c e) C],[ga (cj aC 1%11),cR,cR,ga (cj aC 1%11)],_,rfl,⟨_,_,rfl,fI _,_,_,rfl,rfl,_,_,rfl,rfl,_,_,rfl,fI _,rfl⟩,w' (tm _),cF rfl,ck 12 (iR ah b++(gA ah 1 e rfl++(cQ ah 2 .c rfl rfl++(cQ ah 3 .i rfl rfl++(xf ah 4 e rfl))))) fun z f=>?_⟩;rcases e<;>kernel_rfl
theorem ai1:iK aC r4:=fun b=>by refine⟨[bz (.c C) C,bz (.b .c) C,bz LV C,bz (.c C) C],[ga (cj aC 1%11),cR,lT (kK jN (cj aC 3)),ga (cj aC 1%11)],_,rfl,⟨_,_,rfl,fI _,_,_,rfl,rfl,_,_,rfl,mU OS (k5 (by decide) _),_,_,rfl,fI _,rfl⟩,w' (tm _),cF rfl,ck 12 (iR ah b++(gA ah 1 C rfl++(cQ ah 2 .c rfl rfl++(mf ah 3 OS jN (by decide) (by decide) rfl++(xf ah 4 C rfl))))) fun z f=>?_⟩;kernel_rfl
theorem ai6:iK aC vy:=fun b=>by obtain⟨ch,bs⟩:=kd (aC:=aC) 10 f7;obtain⟨c3,aX⟩:=ka (aC:=aC) 10;refine⟨[bz (.c C) C,bz (.b .c) C,bz (.b .g) C,bz (.b .d) C,bz kJ C,bz (.b .g) C,bz (.b .e) C,bz (.b .d) C,bz (.c C) C,bz (.d I 16) c3,bz (.b .e) C],[ga (cj aC 1%11),cR,cR,cR,lT (kK ef (cj aC 5)),cR,cR,cR,ga (cj aC 9%11),kj ch,cR],_,rfl,⟨_,_,rfl,fI _,_,_,rfl,rfl,_,_,rfl,rfl,_,_,rfl,rfl,_,_,rfl,mU qT (k5 (by decide) _),_,_,rfl,rfl,_,_,rfl,rfl,_,_,rfl,rfl,_,_,rfl,fI _,_,_,rfl,(congrArg (fa 16) bs).trans (jO f7 _),_,_,rfl,rfl,rfl⟩,rfl,cF rfl,ck 12 (iR ah b++(gA ah 1 C rfl++(cQ ah 2 .c rfl rfl++(cQ ah 3 .g rfl rfl++(cQ ah 4 .d rfl rfl++(mf ah 5 qT ef (by decide) (by decide) rfl++(cQ ah 6 .g rfl rfl++(cQ ah 7 .e rfl rfl++(cQ ah 8 .d rfl rfl++(gA ah 9 C rfl++(j8 ah 10 f7 ch c3 bs aX rfl++(cQ ah 11 .e rfl rfl)))))))))))) fun z f=>?_⟩;obtain⟨_|_,_,_,_⟩:=ch<;>rcases c3<;>kernel_rfl
theorem ai5:iK aC vx:=fun b=>by obtain⟨ch,bs⟩:=kd (aC:=aC) 10 f7;obtain⟨c3,aX⟩:=ka (aC:=aC) 10;refine⟨[bz (.c C) C,bz (.b .c) C,bz (.b .g) C,bz (.b .d) C,bz uW C,bz (.b .g) C,bz (.b .e) C,bz (.b .d) C,bz (.c C) C,bz (.d I 16) c3,bz (.b .e) C],[ga (cj aC 1%11),cR,cR,cR,lT (kK hl (cj aC 5)),cR,cR,cR,ga (cj aC 9%11),kj ch,cR],_,rfl,⟨_,_,rfl,fI _,_,_,rfl,rfl,_,_,rfl,rfl,_,_,rfl,rfl,_,_,rfl,mU FG (k5 (by decide) _),_,_,rfl,rfl,_,_,rfl,rfl,_,_,rfl,rfl,_,_,rfl,fI _,_,_,rfl,(congrArg (fa 16) bs).trans (jO f7 _),_,_,rfl,rfl,rfl⟩,rfl,cF rfl,ck 12 (iR ah b++(gA ah 1 C rfl++(cQ ah 2 .c rfl rfl++(cQ ah 3 .g rfl rfl++(cQ ah 4 .d rfl rfl++(mf ah 5 FG hl (by decide) (by decide) rfl++(cQ ah 6 .g rfl rfl++(cQ ah 7 .e rfl rfl++(cQ ah 8 .d rfl rfl++(gA ah 9 C rfl++(j8 ah 10 f7 ch c3 bs aX rfl++(cQ ah 11 .e rfl rfl)))))))))))) fun z f=>?_⟩;obtain⟨_|_,_,_,_⟩:=ch<;>rcases c3<;>kernel_rfl
theorem aja:iK aC vA:=fun b=>by obtain⟨ch,bs⟩:=kd (aC:=aC) 8 f7;obtain⟨c3,aX⟩:=ka (aC:=aC) 8;refine⟨[bz (.b .g) C,bz (.b .d) C,bz kJ C,bz (.b .g) C,bz (.b .e) C,bz (.b .d) C,bz (.c C) C,bz (.d I 16) c3,bz (.b .e) C,bz (.b .c) C,bz (.c C) C],[cR,cR,lT (kK ef (cj aC 3)),cR,cR,cR,ga (cj aC 7%11),kj ch,cR,cR,ga (cj aC 11%11)],_,rfl,⟨_,_,rfl,rfl,_,_,rfl,rfl,_,_,rfl,mU qT (k5 (by decide) _),_,_,rfl,rfl,_,_,rfl,rfl,_,_,rfl,rfl,_,_,rfl,fI _,_,_,rfl,(congrArg (fa 16) bs).trans (jO f7 _),_,_,rfl,rfl,_,_,rfl,rfl,_,_,rfl,fI _,rfl⟩,rfl,cF rfl,ck 12 (iR ah b++(cQ ah 1 .g rfl rfl++(cQ ah 2 .d rfl rfl++(mf ah 3 qT ef (by decide) (by decide) rfl++(cQ ah 4 .g rfl rfl++(cQ ah 5 .e rfl rfl++(cQ ah 6 .d rfl rfl++(gA ah 7 C rfl++(j8 ah 8 f7 ch c3 bs aX rfl++(cQ ah 9 .e rfl rfl++(cQ ah 10 .c rfl rfl++(gA ah 11 C rfl)))))))))))) fun z f=>?_⟩;obtain⟨_|_,_,_,_⟩:=ch<;>rcases c3<;>kernel_rfl
theorem ai9:iK aC vz:=fun b=>by obtain⟨ch,bs⟩:=kd (aC:=aC) 8 f7;obtain⟨c3,aX⟩:=ka (aC:=aC) 8;obtain⟨b6,aG⟩:=kd (aC:=aC) 11 ma;obtain⟨gY,H⟩:=ka (aC:=aC) 11;refine⟨[bz (.b .g) C,bz (.b .d) C,bz kJ C,bz (.b .g) C,bz (.b .e) C,bz (.b .d) C,bz (.c C) C,bz (.d I 16) c3,bz (.b .e) C,bz (.b .c) C,bz (.d C 32) gY],[cR,cR,lT (kK ef (cj aC 3)),cR,cR,cR,ga (cj aC 7%11),kj ch,cR,cR,kj b6],_,rfl,⟨_,_,rfl,rfl,_,_,rfl,rfl,_,_,rfl,mU qT (k5 (by decide) _),_,_,rfl,rfl,_,_,rfl,rfl,_,_,rfl,rfl,_,_,rfl,fI _,_,_,rfl,(congrArg (fa 16) bs).trans (jO f7 _),_,_,rfl,rfl,_,_,rfl,rfl,_,_,rfl,(congrArg (fa 32) aG).trans (jO ma _),rfl⟩,rfl,cF rfl,ck 12 (iR ah b++(cQ ah 1 .g rfl rfl++(cQ ah 2 .d rfl rfl++(mf ah 3 qT ef (by decide) (by decide) rfl++(cQ ah 4 .g rfl rfl++(cQ ah 5 .e rfl rfl++(cQ ah 6 .d rfl rfl++(gA ah 7 C rfl++(j8 ah 8 f7 ch c3 bs aX rfl++(cQ ah 9 .e rfl rfl++(cQ ah 10 .c rfl rfl++(j8 ah 11 ma b6 gY aG H rfl)))))))))))) fun z f=>?_⟩;obtain⟨_|_,_,_,_⟩:=ch<;>rcases c3<;>obtain⟨_|_,_,_,_⟩:=b6<;>rcases gY<;>kernel_rfl
end
end
section
open PySem
section
variable{aC:List Int}(ah:aC.length≤63)
include ah
theorem ajb:iK aC BO:=fun b=>by obtain⟨ch,bs⟩:=kd (aC:=aC) 3 IB;obtain⟨c3,aX⟩:=ka (aC:=aC) 3;refine⟨[bz (.c C) C,bz (.b .c) C,bz (.d C 64) c3,bz (.b .l) C],[ga (cj aC 1%11),cR,kj ch,cR],_,rfl,⟨_,_,rfl,fI _,_,_,rfl,rfl,_,_,rfl,(congrArg (fa 64) bs).trans (jO IB _),_,_,rfl,rfl,rfl⟩,rfl,cF rfl,ck 12 (iR ah b++(gA ah 1 C rfl++(cQ ah 2 .c rfl rfl++(j8 ah 3 IB ch c3 bs aX rfl++(cQ ah 4 .l rfl rfl))))) fun z f=>?_⟩;obtain⟨_|_,_,_,_⟩:=ch<;>rcases c3<;>kernel_rfl
theorem ai8:iK aC BN:=fun b=>by obtain⟨ch,bs⟩:=kd (aC:=aC) 4 ma;obtain⟨c3,aX⟩:=ka (aC:=aC) 4;refine⟨[bz (.c C) C,bz (.b .c) C,bz (.b .v) C,bz (.d C 32) c3,bz (.b .l) C],[ga (cj aC 1%11),cR,cR,kj ch,cR],_,rfl,⟨_,_,rfl,fI _,_,_,rfl,rfl,_,_,rfl,rfl,_,_,rfl,(congrArg (fa 32) bs).trans (jO ma _),_,_,rfl,rfl,rfl⟩,rfl,cF rfl,ck 12 (iR ah b++(gA ah 1 C rfl++(cQ ah 2 .c rfl rfl++(cQ ah 3 .v rfl rfl++(j8 ah 4 ma ch c3 bs aX rfl++(cQ ah 5 .l rfl rfl)))))) fun z f=>?_⟩;obtain⟨_|_,_,_,_⟩:=ch<;>rcases c3<;>kernel_rfl
theorem ai0:iK aC BI:=fun b=>by obtain⟨ch,bs⟩:=kd (aC:=aC) 2 ma;obtain⟨c3,aX⟩:=ka (aC:=aC) 2;refine⟨[bz (.b .p) C,bz (.d C 32) c3],[cR,kj ch],_,rfl,⟨_,_,rfl,rfl,_,_,rfl,(congrArg (fa 32) bs).trans (jO ma _),rfl⟩,rfl,cF rfl,ck 12 (iR ah b++(cQ ah 1 .p rfl rfl++(j8 ah 2 ma ch c3 bs aX rfl))) fun z f=>?_⟩;obtain⟨_|_,_,_,_⟩:=ch<;>rcases c3<;>kernel_rfl
theorem ai7:iK aC BM:=fun b=>by obtain⟨ch,bs⟩:=kd (aC:=aC) 3 wQ;obtain⟨c3,aX⟩:=ka (aC:=aC) 3;refine⟨[bz (.b .p) C,bz (.b .t) C,bz (.d I 32) c3],[cR,cR,kj ch],_,rfl,⟨_,_,rfl,rfl,_,_,rfl,rfl,_,_,rfl,(congrArg (fa 32) bs).trans (jO wQ _),rfl⟩,rfl,cF rfl,ck 12 (iR ah b++(cQ ah 1 .p rfl rfl++(cQ ah 2 .t rfl rfl++(j8 ah 3 wQ ch c3 bs aX rfl)))) fun z f=>?_⟩;obtain⟨_|_,_,_,_⟩:=ch<;>rcases c3<;>kernel_rfl
theorem ai2:iK aC BJ:=fun b=>by refine⟨[bz (.b .u) C],[cR],_,rfl,⟨_,_,rfl,rfl,rfl⟩,rfl,cF rfl,ck 12 (iR ah b++(cQ ah 1 .u rfl rfl)) fun z f=>?_⟩;kernel_rfl
theorem ai3:iK aC BK:=fun b=>by obtain⟨ch,bs⟩:=kd (aC:=aC) 2 f7;obtain⟨c3,aX⟩:=ka (aC:=aC) 2;refine⟨[bz (.b .k) C,bz (.d I 16) c3],[cR,kj ch],_,rfl,⟨_,_,rfl,rfl,_,_,rfl,(congrArg (fa 16) bs).trans (jO f7 _),rfl⟩,rfl,cF rfl,ck 12 (iR ah b++(cQ ah 1 .k rfl rfl++(j8 ah 2 f7 ch c3 bs aX rfl))) fun z f=>?_⟩;obtain⟨_|_,_,_,_⟩:=ch<;>rcases c3<;>kernel_rfl
theorem ai4:iK aC BL:=fun b=>by obtain⟨ch,bs⟩:=kd (aC:=aC) 2 wQ;obtain⟨c3,aX⟩:=ka (aC:=aC) 2;refine⟨[bz (.b .q) C,bz (.d I 32) c3],[cR,kj ch],_,rfl,⟨_,_,rfl,rfl,_,_,rfl,(congrArg (fa 32) bs).trans (jO wQ _),rfl⟩,rfl,cF rfl,ck 12 (iR ah b++(cQ ah 1 .q rfl rfl++(j8 ah 2 wQ ch c3 bs aX rfl))) fun z f=>?_⟩;obtain⟨_|_,_,_,_⟩:=ch<;>rcases c3<;>kernel_rfl
theorem Q9(e:Bool):iK aC (vw e):=fun b=>by obtain⟨ch,bs⟩:=kd (aC:=aC) 6 f7;obtain⟨c3,aX⟩:=ka (aC:=aC) 6;refine⟨[bz (.b .r) C,bz (.c e) C,bz xg C,bz (.c e) C,bz (.b .k) C,bz (.d I 16) c3],[cR,ga (cj aC 2%11),lT (kK ii (cj aC 3)),ga (cj aC 4%11),cR,kj ch],_,rfl,⟨_,_,rfl,rfl,_,_,rfl,fI _,_,_,rfl,mU Ds (k5 (by decide) _),_,_,rfl,fI _,_,_,rfl,rfl,_,_,rfl,(congrArg (fa 16) bs).trans (jO f7 _),rfl⟩,rfl,cF rfl,ck 12 (iR ah b++(cQ ah 1 .r rfl rfl++(gA ah 2 e rfl++(mf ah 3 Ds ii (by decide) (by decide) rfl++(gA ah 4 e rfl++(cQ ah 5 .k rfl rfl++(j8 ah 6 f7 ch c3 bs aX rfl))))))) fun z f=>?_⟩;obtain⟨_|_,_,_,_⟩:=ch<;>rcases c3<;>rcases e<;>kernel_rfl
theorem Q8(e:Bool):iK aC (vv e):=fun b=>by obtain⟨ch,bs⟩:=kd (aC:=aC) 4 ma;obtain⟨c3,aX⟩:=ka (aC:=aC) 4;obtain⟨b6,aG⟩:=kd (aC:=aC) 6 f7;obtain⟨gY,H⟩:=ka (aC:=aC) 6;refine⟨[bz (.b .r) C,bz (.c e) C,bz xg C,bz (.d C 32) c3,bz (.b .k) C,bz (.d I 16) gY],[cR,ga (cj aC 2%11),lT (kK ii (cj aC 3)),kj ch,cR,kj b6],_,rfl,⟨_,_,rfl,rfl,_,_,rfl,fI _,_,_,rfl,mU Ds (k5 (by decide) _),_,_,rfl,(congrArg (fa 32) bs).trans (jO ma _),_,_,rfl,rfl,_,_,rfl,(congrArg (fa 16) aG).trans (jO f7 _),rfl⟩,rfl,cF rfl,ck 12 (iR ah b++(cQ ah 1 .r rfl rfl++(gA ah 2 e rfl++(mf ah 3 Ds ii (by decide) (by decide) rfl++(j8 ah 4 ma ch c3 bs aX rfl++(cQ ah 5 .k rfl rfl++(j8 ah 6 f7 b6 gY aG H rfl))))))) fun z f=>?_⟩;obtain⟨_|_,_,_,_⟩:=ch<;>rcases c3<;>obtain⟨_|_,_,_,_⟩:=b6<;>rcases gY<;>rcases e<;>kernel_rfl
end
end
section
open PySem
section
variable{aC:List Int}(ah:aC.length≤63)
include ah
theorem Ra(e:Bool):iK aC (r5 e):=fun b=>by refine⟨[bz (.c e) C,bz (.b .c) C,bz (.b .d) C,bz uW C,bz (.b .e) C,bz (.c e) C],[ga (cj aC 1%11),cR,cR,lT (kK (tp e) (cj aC 4)),cR,ga (cj aC 6%11)],_,rfl,⟨_,_,rfl,fI _,_,_,rfl,rfl,_,_,rfl,rfl,_,_,rfl,mU FG (aq7 e _),_,_,rfl,rfl,_,_,rfl,fI _,rfl⟩,w' (aq8 e _),cF rfl,ck 12 (iR ah b++(gA ah 1 e rfl++(cQ ah 2 .c rfl rfl++(cQ ah 3 .d rfl rfl++(mf ah 4 FG (tp e) (LB e) (aq6 e) rfl++(cQ ah 5 .e rfl rfl++(gA ah 6 e rfl))))))) fun z f=>?_⟩;rcases e<;>kernel_rfl
theorem Q_(e:Bool):iK aC (pB e):=fun b=>by obtain⟨ch,bs⟩:=kd (aC:=aC) 9 f7;obtain⟨c3,aX⟩:=ka (aC:=aC) 9;refine⟨[bz (.b .s) C,bz (.b .g) C,bz (.b .d) C,bz kJ C,bz (.b .g) C,bz (.b .e) C,bz (.b .d) C,bz (.c C) C,bz (.d I 16) c3,bz (.b .e) C,bz JN C,bz (.c e) C],[cR,cR,cR,lT (an e (aF.w,2) (aF.x,3)),cR,cR,cR,ga (cj aC 8%11),kj ch,cR,lT (kK lP (cj aC 11)),ga (cj aC 12%11)],_,rfl,⟨_,_,rfl,rfl,_,_,rfl,rfl,_,_,rfl,rfl,_,_,rfl,Ta e,_,_,rfl,rfl,_,_,rfl,rfl,_,_,rfl,rfl,_,_,rfl,fI _,_,_,rfl,(congrArg (fa 16) bs).trans (jO f7 _),_,_,rfl,rfl,_,_,rfl,mU OO (k5 (by decide) _),_,_,rfl,fI _,rfl⟩,w' (UQ e),cF rfl,ck 12 (iR ah b++(cQ ah 1 .s rfl rfl++(cQ ah 2 .g rfl rfl++(cQ ah 3 .d rfl rfl++(mf ah 4 qT ef (by decide) (by decide) rfl++(cQ ah 5 .g rfl rfl++(cQ ah 6 .e rfl rfl++(cQ ah 7 .d rfl rfl++(gA ah 8 C rfl++(j8 ah 9 f7 ch c3 bs aX rfl++(cQ ah 10 .e rfl rfl++(mf ah 11 OO lP (by decide) (by decide) rfl++(gA ah 12 e rfl++([B.i apb,B.i apc,lS .s rfl,lS .g rfl,lS .d rfl,Ul (k5 (p:=ef) (by decide) (cj aC 4)),lS .g rfl,lS .e rfl,lS .d rfl,BW C (fI (cj aC 8)),Uk ch,Uj c3 ch,lS .e rfl,Ui amD (k5 (p:=lP) (by decide) (cj aC 11)),BW e (fI (cj aC 12))])))))))))))))) fun z f=>?_⟩;obtain⟨_|_,_,_,_⟩:=ch<;>rcases c3<;>rcases e<;>kernel_rfl
theorem Rb(e:Bool):iK aC (pD e):=fun b=>by obtain⟨ch,bs⟩:=kd (aC:=aC) 6 f7;obtain⟨c3,aX⟩:=ka (aC:=aC) 6;refine⟨[bz (.c e) C,bz (.b .c) C,bz (.b (an e .D .y)) C,bz (.b .d) C,bz (.c C) C,bz (.d I 16) c3,bz (.b .j) C,bz (.c e) C,bz (.b .e) C],[ga (cj aC 1%11),cR,cR,cR,ga (cj aC 5%11),kj ch,cR,ga (cj aC 1%11),cR],_,rfl,⟨_,_,rfl,fI _,_,_,rfl,rfl,_,_,rfl,(by rcases e<;>rfl),_,_,rfl,rfl,_,_,rfl,fI _,_,_,rfl,(congrArg (fa 16) bs).trans (jO f7 _),_,_,rfl,rfl,_,_,rfl,fI _,_,_,rfl,rfl,rfl⟩,w' (tm _),cF rfl,ck 12 (iR ah b++(gA ah 1 e rfl++(cQ ah 2 .c rfl rfl++(cQ ah 3 (an e .D .y) rfl (by rcases e<;>rfl)++(cQ ah 4 .d rfl rfl++(gA ah 5 C rfl++(j8 ah 6 f7 ch c3 bs aX rfl++(cQ ah 7 .j rfl rfl++((an e (xf ah 8 e rfl) (gA ah 8 e rfl))++(cQ ah 9 .e rfl rfl)))))))))) fun z f=>?_⟩;obtain⟨_|_,_,_,_⟩:=ch<;>rcases c3<;>rcases e<;>kernel_rfl
theorem Q6(e:Bool):iK aC (nK e):=fun b=>by obtain⟨ch,bs⟩:=kd (aC:=aC) 6 f7;obtain⟨c3,aX⟩:=ka (aC:=aC) 6;refine⟨[bz (.c e) C,bz (.b .c) C,bz (.b (an e .z .A)) C,bz (.b .d) C,bz (.c C) C,bz (.d I 16) c3,bz (.b .j) C,bz (.c e) C,bz (.b .j) C,bz (.c e) C,bz (.b .e) C],[ga 0,cR,cR,cR,ga (cj aC 5%11),kj ch,cR,ga 0,cR,ga (cj aC 10%11),cR],_,rfl,⟨_,_,rfl,jT _,_,_,rfl,rfl,_,_,rfl,(by rcases e<;>rfl),_,_,rfl,rfl,_,_,rfl,fI _,_,_,rfl,(congrArg (fa 16) bs).trans (jO f7 _),_,_,rfl,rfl,_,_,rfl,jT _,_,_,rfl,rfl,_,_,rfl,fI _,_,_,rfl,rfl,rfl⟩,rfl,cF rfl,ck 12 (iR ah b++(xf ah 1 e rfl++(cQ ah 2 .c rfl rfl++(cQ ah 3 (an e .z .A) rfl (by rcases e<;>rfl)++(cQ ah 4 .d rfl rfl++(gA ah 5 C rfl++(j8 ah 6 f7 ch c3 bs aX rfl++(cQ ah 7 .j rfl rfl++(xf ah 8 e rfl++(cQ ah 9 .j rfl rfl++(gA ah 10 e rfl++(cQ ah 11 .e rfl rfl)))))))))))) fun z f=>?_⟩;obtain⟨_|_,_,_,_⟩:=ch<;>rcases c3<;>rcases e<;>kernel_rfl
theorem Q7(e:Bool):iK aC (nL e):=fun b=>by obtain⟨ch,bs⟩:=kd (aC:=aC) 11 f7;obtain⟨c3,aX⟩:=ka (aC:=aC) 11;refine⟨[bz (.c e) C,bz (.b .c) C,bz LU C,bz (.b .d) C,bz (.b .d) C,bz kJ C,bz (.b .g) C,bz (.b .e) C,bz (.b .d) C,bz (.c C) C,bz (.d I 16) c3,bz (.b .e) C,bz (.b .j) C,bz (.c e) C,bz (.b .e) C],[ga (cj aC 1%11),cR,lT (kK iT (cj aC 3)),cR,cR,lT (an e (aF.w,2) (aF.x,3)),cR,cR,cR,ga (cj aC 10%11),kj ch,cR,cR,ga (cj aC 1%11),cR],_,rfl,⟨_,_,rfl,fI _,_,_,rfl,rfl,_,_,rfl,mU OM (k5 (by decide) _),_,_,rfl,rfl,_,_,rfl,rfl,_,_,rfl,Ta e,_,_,rfl,rfl,_,_,rfl,rfl,_,_,rfl,rfl,_,_,rfl,fI _,_,_,rfl,(congrArg (fa 16) bs).trans (jO f7 _),_,_,rfl,rfl,_,_,rfl,rfl,_,_,rfl,fI _,_,_,rfl,rfl,rfl⟩,w' (e5.2 ⟨tm _,UQ e⟩),cF rfl,ck 12 (iR ah b++(gA ah 1 e rfl++(cQ ah 2 .c rfl rfl++(mf ah 3 OM iT (by decide) (by decide) rfl++(cQ ah 4 .d rfl rfl++(cQ ah 5 .d rfl rfl++(mf ah 6 qT ef (by decide) (by decide) rfl++(cQ ah 7 .g rfl rfl++(cQ ah 8 .e rfl rfl++(cQ ah 9 .d rfl rfl++(gA ah 10 C rfl++(j8 ah 11 f7 ch c3 bs aX rfl++(cQ ah 12 .e rfl rfl++(cQ ah 13 .j rfl rfl++((an e (xf ah 14 e rfl) (gA ah 14 e rfl))++(cQ ah 15 .e rfl rfl++([B.i apd,B.i ape,B.i ao9,B.i apa,BW e (fI (cj aC 1)),lS .c rfl,Ui ajh (k5 (p:=iT) (by decide) (cj aC 3)),lS .d rfl,lS .d rfl,Ul (k5 (p:=ef) (by decide) (cj aC 6)),lS .g rfl,lS .e rfl,lS .d rfl,BW C (fI (cj aC 10)),Uk ch,Uj c3 ch,lS .e rfl,lS .j rfl,BW e (fI (cj aC 1)),lS .e rfl]))))))))))))))))) fun z f=>?_⟩;obtain⟨_|_,_,_,_⟩:=ch<;>rcases c3<;>rcases e<;>kernel_rfl
end
end
section
open PySem
noncomputable def KO(k:dJ):Bool:=match k with|.b v=>!g3 (.b0 v)|.c _=>I|.e _ s=>s.all fun b=>!g3 (.b0 b.1)|.d _ _=>I
theorem an7:e1.map (fun y=>y.b.all KO)=e1.map fun _=>I:=by kernel_rfl
def wX(s:aV):Prop:=s.d9∧g3 s=C
theorem BV{s:aV}(c:s.d9)(z:g3 s=C):∀ad∈[s],wX ad:=fun ad cu=>by obtain rfl:=m4.1 cu;exact⟨c,z⟩
theorem T8{s l:aV}(c:s.d9)(z:g3 s=C)(L:l.d9)(rm:g3 l=C):∀ad∈[s,l],wX ad:=tD.2 ⟨⟨c,z⟩,BV L rm⟩
theorem al6{p:ex}{x:jG}(c:wS p.b x)(z:KO p.b=I):∀s∈dr (u4 p x),wX s:=by
 obtain⟨k,E,iB,aH⟩:=p;rcases k with v|e|⟨q,s⟩|⟨d,m⟩;·exact BV (cF c) (m1 _▸(z:(!g3 (.b0 v))=I))
 ·exact BV c rfl
 ·exact BV (cF c.2.2) (m1 _▸(fe.1 (show(s.all fun b=>!g3 (.b0 b.1))=I from z) _ c.1:(!g3 (.b0 x.c))=I))
 ·obtain⟨r,q,v,y,g,aY,aW⟩:=x;have aS:aV.d9 (.en aH g):=aY;rcases y;·
   rcases d;·exact BV aS rfl
   ·exact T8 (s:=.b0 .f) (cF rfl) rfl aS rfl
  ·exact T8 (s:=.b0 .i) (cF rfl) rfl aS rfl
theorem aoX(O:List ex):∀J,(O.map (·.b)).all KO=I→oc (O.map (·.b)) J→∀s∈dr (gq O J),wX s:=by induction O with|nil=>exact fun J _ _ _ c=>nomatch c|cons p O ak=>intro J aN aY;obtain⟨x,br,rfl,c2,aY⟩:=aY;obtain⟨dw,dM⟩:=e5.1 aN;show∀s∈dr (u4 p x++gq O br),wX s;rw[show dr (u4 p x++gq O br)=dr (u4 p x)++dr (gq O br)from vR];exact List.forall_mem_append.2 ⟨al6 c2 dw,ak br dM aY⟩
section
variable{aC:List Int}(ah:aC.length≤63)
include ah
theorem aiZ:∀y∈e1,iK aC y:=bO (Q5 ah _) (bO (Q5 ah _) (bO (Q4 ah _) (bO (Q4 ah _) (bO (Q' ah _) (bO (Q' ah _) (bO (ai1 ah) (bO (Ra ah _) (bO (Ra ah _) (bO (ai6 ah) (bO (ai5 ah) (bO (aja ah) (bO (ai9 ah) (bO (Q_ ah _) (bO (Q_ ah _) (bO (Q7 ah _) (bO (Q7 ah _) (bO (Rb ah _) (bO (Rb ah _) (bO (Q6 ah _) (bO (Q6 ah _) (bO (ajb ah) (bO (ai8 ah) (bO (ai0 ah) (bO (ai7 ah) (bO (ai2 ah) (bO (ai3 ah) (bO (ai4 ah) (bO (Q9 ah _) (bO (Q9 ah _) (bO (Q8 ah _) (bO (Q8 ah _) (fun _ c=>nomatch c))))))))))))))))))))))))))))))))
theorem aiu:∃J w,(∀s∈J,wX s)∧J.length≤60∧mL (a_ J)=o w∧b_ ab 121 12 [.b (vu aC)] (.ok (d5 J)):=by have n7:cj aC 0%32<e1.length:=jR _ (by decide);have b:=hT n7;have aW:=dZ b;obtain⟨O,J,w,T,aY,a3,aw,bE⟩:=aiZ ah _ aW b;exact⟨_,w,aoX O J (T▸a7 an7 aW) (T▸aY),bt (ff (dA ..)) (bt (Tq O J) (tF 2 aw)),Qj aW T aY a3,bE⟩
end
end
section
open PySem
def kg(dl:List Nat):List aV→List f6|[]=>[]|s::aQ=>(s,an aQ.isEmpty [] dl)::kg dl aQ
noncomputable def BD:List (List Nat):=[[32],[32,32],[32,9]]
theorem BE:BD.map (fun y=>(y.all h3,y.isEmpty,gd y.length 10))=BD.map fun _=>(I,C,I):=by kernel_rfl
variable(dl:List Nat)
theorem amk(aQ:List aV):∀y,EH dl (aQ.map fun s=>.c s.bT) y=o (y++(an aQ.isEmpty [] dl++eP (kg dl aQ))):=by induction aQ with|nil=>exact fun y=>congrArg o (hE y).symm|cons s aQ ak=>exact fun y=>(ak (y++dl++s.bT)).trans (congrArg o ((kQ ..).trans (kQ ..)))
theorem ami(aQ:List aV):EG dl (aQ.map fun s=>.c s.bT)=o (eP (kg dl aQ)):=by
 rcases aQ with _|⟨s,aQ⟩;·rfl
 ·exact amk dl aQ s.bT
theorem yv(aQ:List aV):dr (kg dl aQ)=aQ:=by induction aQ with|nil=>rfl|cons s aQ ak=>exact congrArg (s::·) ak
theorem By(aQ:List aV):∀k∈kg dl aQ,k.1∈aQ∧(k.2=[]∨k.2=dl):=by induction aQ with|nil=>exact fun k c=>nomatch c|cons s aQ ak=>exact tD.2 ⟨⟨dY ..,by show an aQ.isEmpty [] dl=[]∨_=dl;rcases aQ.isEmpty<;>simp[an]⟩,fun k al=>⟨e6 _ (ak k al).1,(ak k al).2⟩⟩
def wP:List f6→Prop|[]=>True|k::p=>(p=[]∨∀t,iU (k.2++t)∈ld)∧wP p
theorem So(v:aF)(bm:List f6):wP bm→wP (me v bm):=by induction bm with|nil=>exact fun c=>c|cons k bm ak=>
 intro c;show wP (an (bd v (o k.1)) [] (k::me v bm));rcases bd v (o k.1);·refine⟨c.1.imp (fun b=>?_) id,ak c.2⟩;rw[b];rfl
 ·trivial
theorem amJ(bm:List f6):rz bm→wP bm→Aj bm:=by induction bm with|nil=>exact fun _ _=>trivial|cons k bm ak=>
 intro E c;refine⟨tf _ ?_,ak (AR E fun u cw=>e6 _ cw) c.2⟩;rcases c.1 with rfl|c;·
  have ft:=E.c k (dY ..);obtain⟨s,_|⟨q,y⟩⟩:=k;·exact dY ..
  ·exact Pr (ft q (dY ..))
 ·exact c _
variable{dl}(aW:dl∈BD)
include aW
theorem apC(aQ:List aV):wP (kg dl aQ):=by induction aQ with|nil=>trivial|cons s aQ ak=>
 refine⟨?_,ak⟩;rcases aQ with _|⟨ad,aQ⟩;·exact Or.inl rfl
 ·exact Or.inr (J5 (bw (a7 BE aW)).1 (bw (bw (a7 BE aW)).2).1)
theorem apB{aQ:List aV}(c:∀s∈aQ,s.d9):rz (kg dl aQ):=⟨fun k al=>by
 rcases(By dl aQ k al).2 with b|b;·rw[b];exact fun q c=>nomatch c
 ·rw[b];exact uE (bw (a7 BE aW)).1,fun k al=>c _ (By dl aQ k al).1⟩
theorem TD{aQ:List aV}(c:∀s∈aQ,s.d9)(aw:aQ.length≤80):(eP (kg dl aQ)).length≤8800:=by
 refine bt (Sj _ fun k al=>⟨c _ (By dl aQ k al).1,?_⟩) (tF 110 (show(kg dl aQ).length≤80 from ?_));·
  rcases(By dl aQ k al).2 with b|b;·rw[b];exact jT _
  ·rw[b];exact cF (bw (bw (a7 BE aW)).2).2
 ·have:=congrArg Cd (yv dl aQ);rw[show(dr (kg dl aQ)).length=(kg dl aQ).length from dA ..]at this;rw[this];exact aw
theorem Lm{aQ:List aV}(c:∀s∈aQ,s.d9)(aw:aQ.length≤80):Ai (kg dl aQ):=by have E:=apB aW c;refine⟨E,amJ _ (AR E fun k al=>(uK _ _ k (uK _ _ k al).1).1) (So _ _ (So _ _ (apC aW aQ))),bt (TD aW c aw) (by decide),?_⟩;have:=congrArg Cd (yv dl aQ);rw[show(dr (kg dl aQ)).length=(kg dl aQ).length from dA ..]at this;rw[this];exact gR aw (by decide)
theorem apV:dl.length≤10:=cF (bw (bw (a7 BE aW)).2).2
theorem SD{aQ:List aV}(c:∀s∈aQ,s.d9)(aw:aQ.length≤80)(X:ea)(f:af):jM X .b (.b (.c dl)) .rt [.b (d5 aQ)] f=o (.ok (.b (.c (eP (kg dl aQ)))),f):=by show cI ((((EG dl (aQ.map fun s=>.c s.bT))).bind fun s=>if s.length+dl.length≤cK then o (M.c s)else U).map K.b) f=_;rw[ami];show cI ((if _ then _ else _:Option M).map K.b) f=_;rw[if_pos (bt (km (TD aW c aw) (apV aW)) (by decide))];rfl
end
section
open PySem
noncomputable def rG:List aV:=[.fT C 1,.fT I 2,.fT C 10,.b0 .aH,.fT I 0,.b0 .f,.b0 .i,.b0 .c,.b0 .d,.b0 .e,.b0 .g,.b0 .j,.b0 .F,.b0 .E,.b0 .w,.b0 .x,.b0 .L,.en C 5,.en C 32768,.en I 2147483648,.b0 .G,.b0 .k,.b0 .r,.b0 .l,.b0 .v,.b0 .s,.b0 .u,.b0 .t,.b0 .y,.b0 .H,.b0 .X,.b0 .V,.b0 .P,.b0 .S,.b0 .aE,.b0 .m,.b0 .n,.b0 .R,.b0 .p]
noncomputable def S'(s:aV):Bool:=match s with|.fT _ r=>gd r 10|.en _ l=>eS l 1180591620717411303424|.b0 v=>eS v eQ
theorem aoB{s:aV}(c:S' s=I):s.d9:=by
 rcases s with⟨e,r⟩|⟨e,l⟩|v;·exact cF c
 ·exact cF c
 ·exact cF c
theorem acK:rG.map S'=rG.map fun _=>I:=by kernel_rfl
noncomputable def Au(q:Nat):aV:=rG.getD (q%39) (.b0 .c)
theorem aao(q:Nat):(Au q).d9:=by have c:q%39<rG.length:=jR q (by decide);unfold Au;rw[vO,hT c];exact aoB (a7 acK (Cc ..))
theorem aap(q:Nat):hR [] (.b (d5 rG)) (.b (.b (q%39:Nat)))=o (.c (Au q).bT):=by have c:q%39<rG.length:=jR q (by decide);show(hA (rG.map fun s=>M.c s.bT).length (q%39:Nat)).bind ((rG.map fun s=>M.c s.bT)[·]?)=_;rw[dA,s3 _ (by decide) c];show(rG.map fun s=>M.c s.bT)[q%39]?=_;unfold Au;rw[jQ,vO,hT c];rfl
section
variable{J:List aV}
theorem LS(c:dP J)(v:Nat):hQ (.b (d5 J)) (.b (.b v)) (.b .e)=o (d5 (J.drop v)):=(yC c 0 v).trans (by rw[q0];rfl)
theorem UN(c:dP J)(v:Nat):hQ (.b (d5 J)) (.b (.b v)) (.b (.b (v+1:Nat)))=o (d5 ((J.drop v).take 1)):=by refine(if_pos (by rw[dA];exact bt c.b (by decide))).trans (congrArg (fun p=>o (M.f p)) ?_);show ij (J.map fun s=>M.c s.bT) (o (v:Int)) (o ((v+1:Nat):Int))=_;rw[Jl _ (ho v 1),←List.map_drop,←List.map_take,yJ]
theorem asS{g e:List aV}(aY:g.length≤1000)(aN:e.length≤1000):fF .Add (.b (d5 g)) (.b (d5 e))=o (d5 (g++e)):=by have b:d5 (g++e)=.f ((g.map fun s=>M.c s.bT)++e.map fun s=>M.c s.bT):=congrArg M.f vR;rw[b];exact if_pos (by rw[dA,dA];exact bt (km aY aN) (by decide))
theorem amH(aw:J.length≤1000):h2 .hL [] [.b (d5 J)]=o (.b (.b J.length)):=by show(if(J.map fun s=>M.c s.bT).length≤cK then o (K.b (.b (J.map fun s=>M.c s.bT).length))else U)=_;rw[dA];exact if_pos (bt aw (by decide))
theorem anA(r:Nat):∃z:Nat,0<z∧h2 .wH [] [.b (.b 1),.b (.b r)]=o (.b (.b z)):=by
 by_cases c:(r:Int)>1;·exact⟨r,lW (by decide) (pJ.1 c),congrArg (fun d=>o (K.b (.b d))) (if_pos c)⟩
 ·exact⟨1,by decide,congrArg (fun d=>o (K.b (.b d))) (if_neg c)⟩
theorem arq(p:List aV):(p.take 1).length≤1:=List.length_take_le 1 p
theorem D8(y:Nat):(J.take y).length+(J.drop y).length=J.length:=by rw[←fy,yI]
theorem Qh(y:Nat):((J.drop y).take 1).length+(J.drop (y+1)).length=(J.drop y).length:=by rw[←fy,←Gi,yI]
theorem Io(y:Nat):(J.drop (y+1)).length≤(J.drop y).length:=bt (pQ ..) (ff (Qh y))
theorem pq{V:Type}{g e:List V}{d G:Nat}(aY:g.length≤d)(aN:e.length≤G):(g++e).length≤d+G:=by rw[fy];exact km aY aN
theorem EY{k:Nat}{bS CA:List aV}(p_:bS.length≤1)(WL:CA.length≤(J.drop k).length):((J.take k++bS)++CA).length≤J.length+1:=bt (pq (pq (df _) p_) WL) (ff ((GG ..).trans (congrArg (·+1) (D8 k))))
theorem oN{g e:List aV}(d:Nat)(aY:g.length≤d)(aN:e.length≤80)(aH:gd d 900=I):fF .Add (.b (d5 g)) (.b (d5 e))=o (d5 (g++e)):=asS (bt aY (bt (cF aH) (by decide))) (bt aN (by decide))
end
theorem acJ{aC:List Int}(ah:aC.length≤63){J:List aV}(c:∀s∈J,s.d9)(aw:J.length≤79){E:Nat}(cN:E≤90):∃br,((∀s∈br,s.d9)∧br.length≤J.length+1)∧b_ ab 123 3 [.b (vu aC),.b (d5 J),.b (.b E)] (.ok (d5 br)):=by
 have y:dP J:=⟨bt aw (by decide),c⟩;have C6:cj aC E%6<6:=jR _ (by decide);have kr:=mP (cj aC E) 6 (by decide);obtain⟨z,Yr,Wf⟩:=anA J.length;have Vn:=qv ah (i:=E) (bt cN (by decide));have g9:=qv ah (i:=E+1) (bt (kn cN) (by decide));have mt:=qv ah (i:=E+2) (bt (pP cN 2) (by decide));have dw:=mP (cj aC (E+1)) z Yr;have dM:=mP (cj aC (E+2)) 39 (by decide);have jp:=aap (cj aC (E+2));have Oa:=aao (cj aC (E+2));have jX:=amH (J:=J) y.b;generalize cj aC E%6=r at C6 kr;generalize Au (cj aC (E+2))=x at jp Oa;generalize cj aC (E+1)%z=k at dw;have i3:(J.take k).length≤80:=bt (bt (ho ..) (ff (D8 k))) (yK aw);have oV:∀v,(J.drop v).length≤80:=fun v=>bt (bt (pQ ..) (ff (D8 v))) (yK aw);have gY:∀v,((J.drop v).take 1).length≤1:=fun v=>arq (J.drop v);have m0:∀v,((J.drop v).take 1).length≤80:=fun v=>bt (gY v) (by decide);have li:[x].length≤80:=(by decide:1≤80);have su:∀s∈J.take k,s.d9:=fun s bu=>c s (GB bu);have hs:∀v,∀s∈J.drop v,s.d9:=fun v s bu=>c s (GA bu);have ix:∀v,∀s∈(J.drop v).take 1,s.d9:=fun v s bu=>hs v s (GB bu);have N9:∀s∈[x],s.d9:=fun s bu=>m4.1 bu▸Oa;have dG:=UO y k;have cx:=LS y (k+1);have cU:=UN y k;have gE:=LS y k;have qe:=UN y (k+1);have ws:=LS y (k+2);let aI:List B:=[B.j Vn,B.q kr,B.j g9,B.u jX,B.u Wf,B.q dw,B.j mt,B.q dM,B.l jp];have j:=fun{g e:List aV}(aY:∀s∈g,s.d9)(aN:∀s∈e,s.d9)=>List.forall_mem_append.2 ⟨aY,aN⟩;have cc:∃br,((∀s∈br,s.d9)∧br.length≤J.length+1)∧br=(J.take k++[x])++J.drop (k+1):=⟨_,⟨j (j su N9) (hs _),EY (df 1) (Io k)⟩,rfl⟩;rcases r with _|_|_|_|_|_|r;·exact⟨J.take k++J.drop (k+1),⟨j su (hs _),yK (bt (pq (df _) (Io k)) (ff (D8 k)))⟩,ck 3 (aI++[B.r dG,B.r cx,B.q (oN 80 i3 (oV (k+1)) rfl)]) fun z f=>by kernel_rfl⟩
 ·exact⟨_,⟨j (j su (ix k)) (hs k),EY (gY k) (df _)⟩,ck 3 (aI++[B.r dG,B.r cU,B.q (oN 80 i3 (m0 k) rfl),B.r gE,B.q (oN 160 (pq i3 (m0 k)) (oV k) rfl)]) fun z f=>by kernel_rfl⟩
 ·exact⟨_,⟨j (j su N9) (hs k),EY (df 1) (df _)⟩,ck 3 (aI++[B.r dG,B.q (oN 80 i3 li rfl),B.r gE,B.q (oN 160 (pq i3 li) (oV k) rfl)]) fun z f=>by kernel_rfl⟩
 ·refine⟨((J.take k++(J.drop (k+1)).take 1)++(J.drop k).take 1)++J.drop (k+2),⟨j (j (j su (ix _)) (ix k)) (hs _),?_⟩,ck 3 (aI++[B.r dG,B.r qe,B.q (oN 80 i3 (m0 (k+1)) rfl),B.r cU,B.q (oN 160 (pq i3 (m0 (k+1))) (m0 k) rfl),B.r ws,B.q (oN 240 (pq (pq i3 (m0 (k+1))) (m0 k)) (oV (k+2)) rfl)]) fun z f=>by kernel_rfl⟩;rw[kQ];exact EY (gY (k+1)) (bt (pq (df _) (Io (k+1))) (ff (Qh k)))
 ·obtain⟨br,c,rfl⟩:=cc;exact⟨_,c,ck 3 (aI++[B.r dG,B.q (oN 80 i3 li rfl),B.r cx,B.q (oN 160 (pq i3 li) (oV (k+1)) rfl)]) fun z f=>by kernel_rfl⟩
 ·obtain⟨br,c,rfl⟩:=cc;exact⟨_,c,ck 3 (aI++[B.r dG,B.q (oN 80 i3 li rfl),B.r cx,B.q (oN 160 (pq i3 li) (oV (k+1)) rfl)]) fun z f=>by kernel_rfl⟩
 ·exact absurd C6 (jS.2 (pQ 6 r))
end
section
open PySem
noncomputable def qH(p:List (bF×M)):eJ:=.e 80 (p.map fun b=>(b.1,.b b.2))
variable(aO:af)
noncomputable abbrev dz(p:List (bF×M)):af:=[qH p]
noncomputable abbrev c0(p:List (bF×M)):af:=aO++[qH p]
noncomputable def g1(O:List (Option M)):List (Option K):=o (.c 0)::O.map (i0 .b)
noncomputable def g2(O:List (Option M)):List (Option K):=o (.c aO.length)::O.map (i0 .b)
theorem lQ{V:Type}{g:V}{R:Prop}(c:(U:Option V)=o g):R:=by injection c
theorem gL{R:Prop}(c:C=I):R:=nR c
theorem JT(p:List (bF×M)):(c0 aO p)[aO.length]?=o (qH p):=by rw[yE (df _),Nat.sub_self];rfl
theorem aqb(p cG:List (bF×M)):(c0 aO p).set aO.length (qH cG)=c0 aO cG:=by rw[List.set_append_right _ _ (df _),Nat.sub_self];rfl
theorem air(d:bF)(p:List (bF×M)):fH d (p.map fun b=>(b.1,K.b b.2))=(fH d p).map .b:=by induction p with|nil=>rfl|cons b p ak=>
 show(if b.1=d then o (K.b b.2)else fH d (p.map fun b=>(b.1,K.b b.2)))=(if b.1=d then o b.2 else fH d p).map .b;by_cases c:b.1=d;·rw[if_pos c,if_pos c];rfl
 ·rw[if_neg c,if_neg c,ak]
theorem aiT(d:bF)(k:M)(p:List (bF×M)):kI d (.b k) (p.map fun b=>(b.1,K.b b.2))=(kI d k p).map fun b=>(b.1,K.b b.2):=by induction p with|nil=>rfl|cons b p ak=>
 show(if b.1=d then(d,K.b k)::p.map (fun b=>(b.1,K.b b.2))else(b.1,K.b b.2)::kI d (.b k) (p.map fun b=>(b.1,K.b b.2)))=(if b.1=d then(d,k)::p else b::kI d k p).map fun b=>(b.1,K.b b.2);by_cases c:b.1=d;·rw[if_pos c,if_pos c];rfl
 ·rw[if_neg c,if_neg c,ak];rfl
theorem ao0(T:List M):nJ (T.map .b)=o T:=by induction T with|nil=>rfl|cons k T ak=>exact congrArg (i0 (k::·)) ak
def bK{V bg:Type}(Q ew:bg→V)(z eX:bJ V):Prop:=∀t,z=o t→∃(d:Except M bg)(p:List (bF×M)),t=(d.map Q,dz p)∧eX=o (d.map ew,c0 aO p)
section
variable{aO}{V bg dk ek:Type}{Q ew:bg→V}{i qb:ek→dk}
theorem bK.b{z eX:bJ V}{w cB:V→af→bJ dk}(c:bK aO Q ew z eX)(v:∀e p,bK aO i qb (w (Q e) (dz p)) (cB (ew e) (c0 aO p))):bK aO i qb (bU z w) (bU eX cB):=fun t b=>by
 rcases z with _|z;·exact lQ b
 ·obtain⟨d,p,rfl,dh⟩:=c z rfl;rw[dh];rcases d with k|e;·exact⟨.error k,p,(aJ b).symm,rfl⟩
  ·exact v e p t b
theorem bK.d(e:bg)(p:List (bF×M)):bK aO Q ew (cW (Q e) (dz p)) (cW (ew e) (c0 aO p)):=fun _ b=>⟨.ok e,p,(aJ b).symm,rfl⟩
theorem bK.c{eX:bJ V}:bK aO Q ew U eX:=fun _ b=>lQ b
theorem bK.f{u:Option dk}{w cB:dk→bJ V}(v:∀q,u=o q→bK aO Q ew (w q) (cB q)):bK aO Q ew (u.bind w) (u.bind cB):=by
 rcases u with _|q;·exact bK.c
 ·exact v q rfl
theorem bK.e(u:Option bg)(p:List (bF×M)):bK aO Q ew (cI (u.map Q) (dz p)) (cI (u.map ew) (c0 aO p)):=by
 rcases u with _|e;·exact bK.c
 ·exact bK.d e p
theorem bK.m(u:Option dk)(w:dk→bg)(p:List (bF×M)):bK aO Q ew (cI (u.map fun q=>Q (w q)) (dz p)) (cI (u.map fun q=>ew (w q)) (c0 aO p)):=by
 rcases u with _|e;·exact bK.c
 ·exact bK.d _ p
end
noncomputable def A0(b:aZ):Bool:=match b with|.c i=>bR i 0|_=>C
noncomputable def u0(E:Nat):Bool:=(gd 84 E&&gd E 103)||(gd 129 E&&gd E 138)
def Bm(E:Nat):Bool:=match ab.c E with|.b F=>qE F|_=>C
noncomputable def IN(e:i9):Bool:=match e with|.hL=>I|.f5=>I|.rx=>I|_=>C
def S9(w:aZ)(g e:Bool):Bool:=match w with|.b k=>(match k with|.d E=>(Bm E&&g)||(u0 E&&e)|.i q=>IN q&&g|_=>C)|_=>C
noncomputable def AZ(d:bF):Bool:=a6 (d=.oa)||decide (d=.k3)
def fb:aZ→Bool×Bool|.b _=>(I,C)|.c i=>(eS 0 i,C)|.f _ g e=>((fb g).1&&(fb e).1,C)|.t g=>((fb g).1,C)|.s g=>((fb g).1,C)|.p _ g e=>((fb g).1&&(fb e).1,C)|.m q g e=>((fb q).1&&((fb g).1&&(fb e).1),C)|.i _ g e=>((fb g).1&&(fb e).1,C)|.g w aM=>(S9 w (fb aM).1 (fb aM).2,C)|.j n d aM=>((A0 n||((fb n).1&&AZ d))&&(fb aM).1,C)|.l n _=>(A0 n,C)|.k g e=>((fb g).1&&(fb e).1,C)|.q g e q=>((fb g).1&&((fb e).1&&(fb q).1),C)|.n az=>((fb az).1,C)|.e=>(I,C)|.d g e=>((fb g).1&&(fb e).1,A0 g&&(fb e).1)|_=>(C,C)
noncomputable def ya:dO→Bool|.b i=>eS 0 i|.f n _=>A0 n|.e aQ=>ya aQ|.d=>I|.c g e=>ya g&&ya e|_=>C
def yb:a5→Bool|.e s b=>ya s&&(fb b).1|.g b=>(fb b).1|.d b=>(fb b).1|.f q g e=>(fb q).1&&(yb g&&yb e)|.l aM=>(fb aM).1|.c=>I|.b g e=>yb g&&yb e|_=>C
def UT(w:Nat):Bool:=match ab.c w with|.b F=>qE F&&gd 1 F.c&&yb F.e|_=>C
noncomputable def Iw:List Nat:=(qY 84 20)++qY 129 10
theorem Zu:Iw.map UT=Iw.map fun _=>I:=by kernel_rfl
end
section
open PySem
theorem PU(bH:jh)(f:af)(k u:M):bI bH f (.b k) (.b u)=bI bH [] (.b k) (.b u):=by rcases bH<;>rfl
theorem EJ{b:aZ}(c:A0 b=I):b=.c 0:=by
 rcases b with _|i;·exact gL c
 ·exact congrArg aZ.c (g5 c)
 all_goals exact gL c
noncomputable def aoN(d:K):Bool:=match d with|.b _=>I|_=>C
noncomputable def Fi(u:Option K):Bool:=match u with|some d=>aoN d|none=>I
theorem Tj(q:Prop)[Decidable q](k:M):Fi (if q then o (.b k)else U)=I:=by
 by_cases c:q;·rw[if_pos c];rfl
 ·rw[if_neg c];rfl
theorem aoP{V:Type}(u:Option V)(w:V→M):Fi (u.map fun g=>.b (w g))=I:=by rcases u<;>rfl
theorem acO(e:i9)(c:IN e=I)(T:List M):Fi (h2 e [] (T.map .b))=I:=by
 rcases e;case hL=>
  rcases T with _|⟨k,_|⟨u,t⟩⟩;·rfl
  ·rcases k;all_goals first|rfl|exact Tj _ _
  ·rfl
 case f5=>
  rcases T with _|⟨k,_|⟨u,t⟩⟩;·rfl
  ·rcases k;all_goals first|rfl|exact Tj _ _
  ·rfl
 case rx=>
  rcases T with _|⟨k,_|⟨u,t⟩⟩;·rfl
  ·rcases k;case c y=>
    show Fi (if y.length≤640 then _ else U)=I;by_cases c:y.length≤640;·rw[if_pos c];exact aoP _ _
    ·rw[if_neg c];rfl
   all_goals rfl
  ·rfl
 all_goals exact gL c
theorem Pl(e:i9)(f:af)(T:List M):h2 e f (T.map .b)=h2 e [] (T.map .b):=by
 rcases e;case hL=>rcases T with _|⟨k,t⟩<;>rfl
 all_goals rfl
section
variable{aO:af}{V bg:Type}{Q ew:bg→V}
theorem bK.k{e:i9}(c:IN e=I)(T:List M)(p:List (bF×M)):bK aO K.b K.b (cI (h2 e (dz p) (T.map .b)) (dz p)) (cI (h2 e (c0 aO p) (T.map .b)) (c0 aO p)):=by
 have:=acO e c T;rw[Pl e (dz p),Pl e (c0 aO p)];generalize h2 e [] (T.map .b)=u at this⊢;rcases u with _|d;·exact bK.c
 ·rcases d with k|v|v;·exact bK.d (Q:=K.b) (ew:=K.b) k p
  ·exact gL this
  ·exact gL this
theorem bK.n{k:M}{w cB:Int→bJ V}(v:∀q,bK aO Q ew (w q) (cB q)):bK aO Q ew (vr k w) (vr k cB):=by
 rcases k;case b i=>exact v i
 all_goals exact bK.c
theorem bK.j{k:M}{w cB:List Nat→bJ V}(v:∀q,bK aO Q ew (w q) (cB q)):bK aO Q ew (px k w) (px k cB):=by
 rcases k;case c i=>exact v i
 all_goals exact bK.c
theorem bK.g(s:Bool){ad l hb f2:bJ V}(H:bK aO Q ew ad hb)(L:bK aO Q ew l f2):bK aO Q ew (an s ad l) (an s hb f2):=by
 rcases s;·exact L
 ·exact H
theorem bK.l(bH:pU)(s:Bool){ad l hb f2:bJ K}(H:bK aO K.b K.b ad hb)(L:bK aO K.b K.b l f2):bK aO K.b K.b (rH bH s ad l) (rH bH s hb f2):=by
 rcases bH;·exact bK.g s L H
 ·exact bK.g s H L
theorem bK.i{k:M}{w cB:Bool→bJ V}(v:∀s,bK aO Q ew (w s) (cB s)):bK aO Q ew (hS (.b k) w) (hS (.b k) cB):=bK.f fun s _=>v s
end
theorem anb:u'.map (fun b=>!a6 (b.1=80)||u0 b.2.2)=u'.map fun _=>I:=by kernel_rfl
theorem ane:u'.map (fun b=>AZ b.2.1)=u'.map fun _=>C:=by kernel_rfl
theorem SE{q:Nat}{d:bF}{w:Nat}(c:dm q d=o w):∃b∈u',b.1=q∧b.2.1=d∧b.2.2=w:=by
 unfold dm at c;rcases b:u'.find? (fun b=>a6 (b.1=q)&&a6 (b.2.1=d))with _|g;·rw[b]at c;exact lQ c
 ·rw[b]at c;have u:=Gl b;obtain⟨H,L⟩:=e5.1 u;exact⟨g,Gz b,of_decide_eq_true H,of_decide_eq_true L,aJ c⟩
theorem ana{d:bF}{w:Nat}(c:dm 80 d=o w):u0 w=I:=by obtain⟨b,aU,H,_,rfl⟩:=SE c;have u:=a7 anb aU;rw[H]at u;exact u
theorem anc{q:Nat}{d:bF}(E:AZ d=I):dm q d=U:=by
 rcases b:dm q d with _|w;·rfl
 ·obtain⟨b,aU,_,rfl,_⟩:=SE b;exact gL ((a7 ane aU).symm.trans E)
noncomputable def EC(z:Option i'):Bool:=match z with|some z=>(match z with|.d _=>I|_=>C)|none=>C
theorem KW(q:Prop)[Decidable q](z:i')(c:EC (o z)=C):EC (if q then o z else U)=C:=by
 by_cases u:q;·rw[if_pos u];exact c
 ·rw[if_neg u];rfl
theorem aoD{d:bF}(E:AZ d=I)(k:M):EC (KI ab.b d k)=C:=by
 rcases k;case c=>exact KW _ _ rfl
 case f=>exact KW _ _ rfl
 case l=>exact KW _ _ rfl
 case k q p=>show EC (pu (fH d p) (fun _=>U) ((dm q d).map .d))=C;rw[anc E];rcases fH d p<;>rfl
 all_goals rfl
end
section
open PySem
noncomputable abbrev dL(T:List M):List K:=T.map .b
variable{aO:af}{X:ea}(zo:∀E,u0 E=I→∀T p,bK aO K.b K.b (X E (.c 0::dL T) (dz p)) (X E (.c aO.length::dL T) (c0 aO p)))(jz:∀E,Bm E=I→∀T p,bK aO K.b K.b (X E (dL T) (dz p)) (X E (dL T) (c0 aO p)))
structure hh(aO:af)(X:ea)(b:aZ):Prop where
 d:(fb b).1=I→∀O g,bK aO K.b K.b (d_ X ab.b b (g1 O) [] (dz g)) (d_ X ab.b b (g2 aO O) [] (c0 aO g))
 g:(fb b).1=I→∀O g,bK aO dL dL (mM X ab.b b (g1 O) [] (dz g)) (mM X ab.b b (g2 aO O) [] (c0 aO g))
 i:(fb b).2=I→∀O g,bK aO (fun T=>.c 0::dL T) (fun T=>.c aO.length::dL T) (mM X ab.b b (g1 O) [] (dz g)) (mM X ab.b b (g2 aO O) [] (c0 aO g))
theorem hh.e{b:aZ}(c:(fb b).1=I→∀O p,bK aO K.b K.b (d_ X ab.b b (g1 O) [] (dz p)) (d_ X ab.b b (g2 aO O) [] (c0 aO p)))(aw:mM X ab.b b=h7)(aY:(fb b).2=C):hh aO X b:=⟨c,fun _ O p=>by rw[aw];exact bK.c,fun c=>gL (aY.symm.trans c)⟩
theorem hh.f{b:aZ}(c:(fb b).1=C)(aY:(fb b).2=C):hh aO X b:=⟨fun bl=>gL (c.symm.trans bl),fun bl=>gL (c.symm.trans bl),fun c=>gL (aY.symm.trans c)⟩
theorem ih{g e:Bool}(c:(g&&e)=I):g=I:=(e5.1 c).1
theorem hO{g e:Bool}(c:(g&&e)=I):e=I:=(e5.1 c).2
theorem atI(Q:Nat)(O:List (Option M))(p:List (bF×M)):bK aO K.b K.b (yc (g1 O)[Q+1]? (dz p)) (yc (g2 aO O)[Q+1]? (c0 aO p)):=by
 show bK aO K.b K.b (yc (O.map (i0 .b))[Q]? (dz p)) (yc (O.map (i0 .b))[Q]? (c0 aO p));rw[jQ];rcases O[Q]?with _|_|k;·exact bK.c
 ·exact bK.c
 ·exact bK.d (Q:=K.b) (ew:=K.b) k p
include zo in theorem apv(d:bF){aM q_:af→bJ (List K)}(c:∀p,bK aO dL dL (aM (dz p)) (q_ (c0 aO p)))(p:List (bF×M)):bK aO K.b K.b (va X ab.b d aM (.c 0) (dz p)) (va X ab.b d q_ (.c aO.length) (c0 aO p)):=by
 show bK aO K.b K.b ((KH ab.b d (qH p)).bind fun z=>bU (aM (dz p)) fun ag f=>jM X z (.c 0) d ag f) (((c0 aO p)[aO.length]?.bind (KH ab.b d)).bind fun z=>bU (q_ (c0 aO p)) fun ag f=>jM X z (.c aO.length) d ag f);rw[JT];refine bK.f fun z a9=>(c p).b fun T cG=>?_;have a9:pu (fH d (p.map fun b=>(b.1,K.b b.2))) (fun _=>U) ((dm 80 d).map i'.d)=o z:=a9;generalize fH d (p.map fun b=>(b.1,K.b b.2))=l at a9;rcases l with _|l;·
  rcases u:dm 80 d with _|w;·rw[u]at a9;exact lQ a9
  ·rw[u]at a9;obtain rfl:=aJ (show o (i'.d w)=o z from a9);exact zo w (ana u) T cG
 ·exact lQ a9
theorem apw{d:bF}(E:AZ d=I){aM q_:af→bJ (List K)}(c:∀p,bK aO dL dL (aM (dz p)) (q_ (c0 aO p)))(k:M)(p:List (bF×M)):bK aO K.b K.b (va X ab.b d aM (.b k) (dz p)) (va X ab.b d q_ (.b k) (c0 aO p)):=by
 refine bK.f fun z a9=>(c p).b fun T cG=>?_;have N8:=aoD E k;rw[show KI ab.b d k=o z from a9]at N8;rcases z with _|_|_|w;·
  refine bK.j fun y=>?_;have b:BQ y d (dz cG) (dL T)=BQ y d (c0 aO cG) (dL T):=by
   rcases tw.1 E with c|c;·rw[of_decide_eq_true c];rfl
   ·rw[of_decide_eq_true c];rfl
  rw[b];exact bK.e _ cG
 ·have b:∀f,Kx d (.b k) (dL T) f=U:=fun f=>by
   rcases T with _|⟨u,_|⟨t,y⟩⟩;·rfl
   ·rcases tw.1 E with c|c;·rw[of_decide_eq_true c];rfl
    ·rw[of_decide_eq_true c];rfl
   ·rfl
  show bK aO K.b K.b (Kx d (.b k) (dL T) (dz cG)) _;rw[b];exact bK.c
 ·rcases T with _|⟨u,_|⟨t,_|⟨y,s⟩⟩⟩;·exact bK.c
  ·exact bK.c
  ·exact bK.j fun y=>bK.f fun F _=>bK.d (Q:=K.b) (ew:=K.b) ((mJ F y).getD t) cG
  ·exact bK.c
 ·exact gL N8.symm
theorem aoZ(w:List M→M)(T:List M)(p:List (bF×M)):bK aO K.b K.b (cI ((nJ (dL T)).bind fun T=>kN T.length (.b (w T))) (dz p)) (cI ((nJ (dL T)).bind fun T=>kN T.length (.b (w T))) (c0 aO p)):=by
 rw[ao0];show bK aO K.b K.b (cI (if T.length≤cK then o (.b (w T))else U) (dz p)) (cI (if T.length≤cK then o (.b (w T))else U) (c0 aO p));by_cases c:T.length≤cK;·rw[if_pos c];exact bK.d (Q:=K.b) (ew:=K.b) (w T) p
 ·rw[if_neg c];exact bK.c
include zo jz in theorem apR(b:aZ):hh aO X b:=by induction b with
 |b k=>exact hh.e (fun _ O p=>bK.d (Q:=K.b) (ew:=K.b) k p) rfl rfl
 |c i=>
  refine hh.e (fun c O p=>?_) rfl rfl;rcases i with _|Q;·exact gL c
  ·exact atI Q O p
 |v i=>exact hh.f rfl rfl
 |f bH g e aY aN=>exact hh.e (fun c O p=>bK.b (w:=fun d f=>bU (d_ X ab.b e (g1 O) [] f) fun G f=>cI ((fF bH d G).map K.b) f) (cB:=fun d f=>bU (d_ X ab.b e (g2 aO O) [] f) fun G f=>cI ((fF bH d G).map K.b) f) (aY.d (ih c) O p) fun k p=>bK.b (w:=fun G f=>cI ((fF bH (K.b k) G).map K.b) f) (cB:=fun G f=>cI ((fF bH (K.b k) G).map K.b) f) (aN.d (hO c) O p) fun u p=>bK.e _ p) rfl rfl
 |t g aY=>exact hh.e (fun c O p=>bK.b (w:=E4) (cB:=E4) (aY.d c O p) fun k p=>bK.n fun i=>bK.d (Q:=K.b) (ew:=K.b) (.b (-i)) p) rfl rfl
 |A g aY=>exact hh.f rfl rfl
 |s g aY=>exact hh.e (fun c O p=>bK.b (w:=fun d f=>hS d fun s=>cW (K.b (.g !s)) f) (cB:=fun d f=>hS d fun s=>cW (K.b (.g !s)) f) (aY.d c O p) fun k p=>bK.i fun s=>bK.d (Q:=K.b) (ew:=K.b) (.g !s) p) rfl rfl
 |p bH g e aY aN=>exact hh.e (fun c O p=>bK.b (w:=fun d f=>hS d fun s=>rH bH s (cW d f) (d_ X ab.b e (g1 O) [] f)) (cB:=fun d f=>hS d fun s=>rH bH s (cW d f) (d_ X ab.b e (g2 aO O) [] f)) (aY.d (ih c) O p) fun k p=>bK.i fun s=>bK.l bH s (bK.d (Q:=K.b) (ew:=K.b) k p) (aN.d (hO c) O p)) rfl rfl
 |m q g e bf aY aN=>exact hh.e (fun c O p=>bK.b (w:=fun d f=>hS d fun s=>an s (d_ X ab.b g (g1 O) [] f) (d_ X ab.b e (g1 O) [] f)) (cB:=fun d f=>hS d fun s=>an s (d_ X ab.b g (g2 aO O) [] f) (d_ X ab.b e (g2 aO O) [] f)) (bf.d (ih c) O p) fun k p=>bK.i fun s=>bK.g s (aY.d (ih (hO c)) O p) (aN.d (hO (hO c)) O p)) rfl rfl
 |i bH g e aY aN=>exact hh.e (fun c O p=>bK.b (w:=fun d f=>bU (d_ X ab.b e (g1 O) [] f) fun G f=>cI ((bI bH f d G).map fun s=>K.b (.g s)) f) (cB:=fun d f=>bU (d_ X ab.b e (g2 aO O) [] f) fun G f=>cI ((bI bH f d G).map fun s=>K.b (.g s)) f) (aY.d (ih c) O p) fun k p=>bK.b (w:=fun G f=>cI ((bI bH f (K.b k) G).map fun s=>K.b (.g s)) f) (cB:=fun G f=>cI ((bI bH f (K.b k) G).map fun s=>K.b (.g s)) f) (aN.d (hO c) O p) fun u p=>by show bK aO K.b K.b (cI ((bI bH (dz p) (.b k) (.b u)).map fun s=>K.b (.g s)) (dz p)) (cI ((bI bH (c0 aO p) (.b k) (.b u)).map fun s=>K.b (.g s)) (c0 aO p));rw[PU bH (dz p),PU bH (c0 aO p)];exact bK.m _ M.g p) rfl rfl
 |z g hs e ix q=>exact hh.f rfl rfl
 |g w aM _ zp=>
  refine hh.e (fun(c:S9 w (fb aM).1 (fb aM).2=I)O p=>?_) rfl rfl;rcases w;case b k _=>
   rcases k;case d E _=>
    rcases tw.1 c with c|c;·exact bK.b (w:=fun ag f=>X E ag f) (cB:=fun ag f=>X E ag f) (zp.g (hO c) O p) fun T p=>jz E (ih c) T p
    ·exact bK.b (w:=fun ag f=>X E ag f) (cB:=fun ag f=>X E ag f) (zp.i (hO c) O p) fun T p=>zo E (ih c) T p
   case i e _=>exact bK.b (w:=fun ag f=>cI (h2 e f ag) f) (cB:=fun ag f=>cI (h2 e f ag) f) (zp.g (hO c) O p) fun T p=>bK.k (ih c) T p
   all_goals exact gL c
  all_goals exact gL c
 |j n d aM aj zp=>
  refine hh.e (fun c O p=>?_) rfl rfl;have aS:=fun p=>zp.g (hO c) O p;rcases tw.1 (ih c)with E|E;·obtain rfl:=EJ E;exact apv zo d aS p
  ·exact bK.b (w:=va X ab.b d (mM X ab.b aM (g1 O) [])) (cB:=va X ab.b d (mM X ab.b aM (g2 aO O) [])) (aj.d (ih E) O p) fun k p=>apw (hO E) aS k p
 |l n d aj=>refine hh.e (fun c O p=>?_) rfl rfl;obtain rfl:=EJ c;show bK aO K.b K.b (cI (fH d (p.map fun b=>(b.1,K.b b.2))) (dz p)) (cI ((c0 aO p)[aO.length]?.bind (Pe d)) (c0 aO p));rw[JT];show bK aO K.b K.b _ (cI (fH d (p.map fun b=>(b.1,K.b b.2))) (c0 aO p));rw[air];exact bK.e _ p
 |k g e aY aN=>exact hh.e (fun c O p=>bK.b (w:=fun d f=>bU (d_ X ab.b e (g1 O) [] f) fun G f=>cI ((hR f d G).map K.b) f) (cB:=fun d f=>bU (d_ X ab.b e (g2 aO O) [] f) fun G f=>cI ((hR f d G).map K.b) f) (aY.d (ih c) O p) fun k p=>bK.b (w:=fun G f=>cI ((hR f (K.b k) G).map K.b) f) (cB:=fun G f=>cI ((hR f (K.b k) G).map K.b) f) (aN.d (hO c) O p) fun u p=>bK.e (hR [] (.b k) (.b u)) p) rfl rfl
 |q g e q aY aN bf=>exact hh.e (fun c O p=>bK.b (w:=fun d f=>bU (d_ X ab.b e (g1 O) [] f) fun G f=>bU (d_ X ab.b q (g1 O) [] f) fun m f=>cI ((hQ d G m).map K.b) f) (cB:=fun d f=>bU (d_ X ab.b e (g2 aO O) [] f) fun G f=>bU (d_ X ab.b q (g2 aO O) [] f) fun m f=>cI ((hQ d G m).map K.b) f) (aY.d (ih c) O p) fun k p=>bK.b (w:=fun G f=>bU (d_ X ab.b q (g1 O) [] f) fun m f=>cI ((hQ (K.b k) G m).map K.b) f) (cB:=fun G f=>bU (d_ X ab.b q (g2 aO O) [] f) fun m f=>cI ((hQ (K.b k) G m).map K.b) f) (aN.d (ih (hO c)) O p) fun u p=>bK.b (w:=fun m f=>cI ((hQ (K.b k) (K.b u) m).map K.b) f) (cB:=fun m f=>cI ((hQ (K.b k) (K.b u) m).map K.b) f) (bf.d (hO (hO c)) O p) fun t p=>bK.e _ p) rfl rfl
 |n az aU=>exact hh.e (fun c O p=>bK.b (w:=fun ag f=>cI ((nJ ag).bind fun T=>kN T.length (K.b (M.j T))) f) (cB:=fun ag f=>cI ((nJ ag).bind fun T=>kN T.length (K.b (M.j T))) f) (aU.g c O p) fun T p=>aoZ M.j T p) rfl rfl
 |r az aU=>exact hh.f rfl rfl
 |x az aU=>exact hh.f rfl rfl
 |u b q i eG=>exact hh.f rfl rfl
 |y b f0=>exact hh.f rfl rfl
 |w=>exact hh.f rfl rfl
 |e=>exact⟨fun _ O p=>bK.c,fun _ O p=>bK.d (Q:=dL) (ew:=dL) [] p,fun c=>gL c⟩
 |d g e aY aN=>have ao:=fun(c:(fb e).1=I)O p k=>bK.b (w:=fun ag f=>cW (K.b k::ag) f) (cB:=fun ag f=>cW (K.b k::ag) f) (aN.g c O p) fun T p=>bK.d (Q:=dL) (ew:=dL) (k::T) p;exact⟨fun _ O p=>bK.c,fun c O p=>bK.b (w:=fun d f=>bU (mM X ab.b e (g1 O) [] f) fun ag f=>cW (d::ag) f) (cB:=fun d f=>bU (mM X ab.b e (g2 aO O) [] f) fun ag f=>cW (d::ag) f) (aY.d (ih c) O p) fun k p=>ao (hO c) O p k,fun c O p=>by have L:(fb e).1=I:=hO c;obtain rfl:=EJ (ih c);exact bK.b (w:=fun ag f=>cW (K.c 0::ag) f) (cB:=fun ag f=>cW (K.c aO.length::ag) f) (aN.g L O p) fun T p=>bK.d (Q:=fun T=>.c 0::dL T) (ew:=fun T=>.c aO.length::dL T) T p⟩
 |D=>exact hh.f rfl rfl
end
section
open PySem
variable{aO:af}{X:ea}
def ig(aO:af)(z eX:Option bV):Prop:=∀n,z=o n→∃p,(∃O,n=.b (g1 O) (dz p)∧eX=o (.b (g2 aO O) (c0 aO p)))∨(∃k,n=.d (.b k) (dz p)∧eX=o (.d (.b k) (c0 aO p)))∨∃k,n=.c k (dz p)∧eX=o (.c k (c0 aO p))
theorem mW{eX:Option bV}:ig aO U eX:=fun _ b=>lQ b
theorem Bx(O:List (Option M))(p:List (bF×M)):ig aO (o (.b (g1 O) (dz p))) (o (.b (g2 aO O) (c0 aO p))):=fun _ b=>⟨p,.inl ⟨O,(aJ b).symm,rfl⟩⟩
theorem TC(k:M)(p:List (bF×M)):ig aO (o (.d (.b k) (dz p))) (o (.d (.b k) (c0 aO p))):=fun _ b=>⟨p,.inr (.inl ⟨k,(aJ b).symm,rfl⟩)⟩
theorem FC(k:M)(p:List (bF×M)):ig aO (o (.c k (dz p))) (o (.c k (c0 aO p))):=fun _ b=>⟨p,.inr (.inr ⟨k,(aJ b).symm,rfl⟩)⟩
theorem Bw{V bg:Type}{Q ew:bg→V}{z eX:bJ V}{w cB:V→af→Option bV}(c:bK aO Q ew z eX)(v:∀e p,ig aO (w (Q e) (dz p)) (cB (ew e) (c0 aO p))):ig aO (gy z w) (gy eX cB):=fun t b=>by
 rcases z with _|z;·exact lQ b
 ·obtain⟨d,p,rfl,dh⟩:=c z rfl;rw[dh];rcases d with k|e;·exact FC k p t b
  ·exact v e p t b
theorem TB{z eX:Option bV}{w cB:List (Option K)→af→Option bV}(c:ig aO z eX)(v:∀O p,ig aO (w (g1 O) (dz p)) (cB (g2 aO O) (c0 aO p))):ig aO (fG z w) (fG eX cB):=fun t b=>by
 rcases z with _|z;·exact lQ b
 ·obtain⟨p,⟨O,rfl,dh⟩|⟨k,rfl,dh⟩|⟨k,rfl,dh⟩⟩:=c z rfl;·rw[dh];exact v O p t b
  ·rw[dh];exact TC k p t b
  ·rw[dh];exact FC k p t b
theorem apz{dk:Type}(u:Option dk){w cB:dk→Option bV}(v:∀q,ig aO (w q) (cB q)):ig aO (u.bind w) (u.bind cB):=by
 rcases u with _|q;·exact mW
 ·exact v q
theorem apA(s:Bool){ad l hb f2:Option bV}(H:ig aO ad hb)(L:ig aO l f2):ig aO (an s ad l) (an s hb f2):=by
 rcases s;·exact L
 ·exact H
theorem Ll(q:Prop)[Decidable q]{ad hb:Option bV}(c:ig aO ad hb):ig aO (if q then ad else U) (if q then hb else U):=by
 by_cases u:q;·rw[if_pos u,if_pos u];exact c
 ·rw[if_neg u];exact mW
structure ZE(aO:af)(X:ea)(s:dO):Prop where
 b:ya s=I→∀k O c,ig aO (g0 X ab.b [] s (.b k) (g1 O) (dz c)) (g0 X ab.b [] s (.b k) (g2 aO O) (c0 aO c))
 c:ya s=I→∀T O c,ig aO (uF X ab.b [] s (dL T) (g1 O) (dz c)) (uF X ab.b [] s (dL T) (g2 aO O) (c0 aO c))
theorem aqu(s:dO):ZE aO X s:=by induction s with
 |b i=>
  refine⟨fun c k O p=>?_,fun _ _ _ _=>mW⟩;rcases i with _|Q;·exact gL c
  ·have b:(O.map (i0 K.b)).set Q (o (K.b k))=(O.set Q (o k)).map (i0 K.b):=(List.map_set (f:=i0 K.b) (l:=O) (i:=Q) (a:=o k)).symm;refine Ll (Q+1<(g1 O).length) ?_;show ig aO (o (.b (o (.c 0)::(O.map (i0 K.b)).set Q (o (K.b k))) (dz p))) (o (.b (o (.c aO.length)::(O.map (i0 K.b)).set Q (o (K.b k))) (c0 aO p)));rw[b];exact Bx _ p
 |i i=>exact⟨fun c=>gL c,fun c=>gL c⟩
 |f n d=>
  refine⟨fun c k O p=>?_,fun _ _ _ _=>mW⟩;obtain rfl:=EJ c;show ig aO ((K8 0 d (.b k) (dz p) (qH p)).map (.b (g1 O))) (((c0 aO p)[aO.length]?.bind (K8 aO.length d (.b k) (c0 aO p))).map (.b (g2 aO O)));rw[JT];have b:=aiT d k p;show ig aO ((if(p.map fun b=>(b.1,K.b b.2)).length≤50 then o ((dz p).set 0 (.e 80 (kI d (.b k) (p.map fun b=>(b.1,K.b b.2)))))else U).map (.b (g1 O))) ((if(p.map fun b=>(b.1,K.b b.2)).length≤50 then o ((c0 aO p).set aO.length (.e 80 (kI d (.b k) (p.map fun b=>(b.1,K.b b.2)))))else U).map (.b (g2 aO O)));rw[b];by_cases u:(p.map fun b=>(b.1,K.b b.2)).length≤50;·rw[if_pos u,if_pos u];show ig aO _ (o (.b (g2 aO O) ((c0 aO p).set aO.length (qH (kI d k p)))));rw[aqb];exact Bx O _
  ·rw[if_neg u];exact mW
 |g n i=>exact⟨fun c=>gL c,fun c=>gL c⟩
 |e aQ c=>
  refine⟨fun E k O p=>?_,fun _ _ _ _=>mW⟩;rcases k;case j T=>exact Ll (h5 aQ=T.length) (c.c E T O p)
  all_goals exact mW
 |d=>
  refine⟨fun _ _ _ _=>mW,fun _ T O p=>?_⟩;rcases T with _|⟨k,T⟩;·exact Bx O p
  ·exact mW
 |c g e aY aN=>
  refine⟨fun _ _ _ _=>mW,fun E T O p=>?_⟩;rcases T with _|⟨k,T⟩;·exact mW
  ·exact TB (w:=uF X ab.b [] e (dL T)) (cB:=uF X ab.b [] e (dL T)) (aY.b (ih E) k O p) fun O p=>aN.c (hO E) T O p
section
variable(zo:∀E,u0 E=I→∀T p,bK aO K.b K.b (X E (.c 0::dL T) (dz p)) (X E (.c aO.length::dL T) (c0 aO p)))(jz:∀E,Bm E=I→∀T p,bK aO K.b K.b (X E (dL T) (dz p)) (X E (dL T) (c0 aO p)))
include zo jz
theorem aqt(k:a5):yb k=I→∀O p,ig aO (dK X ab.b [] k (g1 O) (dz p)) (dK X ab.b [] k (g2 aO O) (c0 aO p)):=by have S:=fun b=>apR zo jz b;induction k with
 |e s b=>exact fun c O p=>Bw (w:=fun l f=>g0 X ab.b [] s l (g1 O) f) (cB:=fun l f=>g0 X ab.b [] s l (g2 aO O) f) ((S b).d (hO c) O p) fun k p=>(aqu s).b (ih c) k O p
 |g b=>exact fun c O p=>Bw (w:=fun _ f=>o (.b (g1 O) f)) (cB:=fun _ f=>o (.b (g2 aO O) f)) ((S b).d c O p) fun k p=>Bx O p
 |d b=>exact fun c O p=>Bw (w:=fun l f=>o (.d l f)) (cB:=fun l f=>o (.d l f)) ((S b).d c O p) fun k p=>TC k p
 |f q g e aY aN=>exact fun c O p=>Bw (w:=fun d f=>tr d fun s=>an s (dK X ab.b [] g (g1 O) f) (dK X ab.b [] e (g1 O) f)) (cB:=fun d f=>tr d fun s=>an s (dK X ab.b [] g (g2 aO O) f) (dK X ab.b [] e (g2 aO O) f)) ((S q).d (ih c) O p) fun k p=>apz _ fun s=>apA s (aY (ih (hO c)) O p) (aN (hO (hO c)) O p)
 |l aM=>
  refine fun c O p=>Bw (w:=Bt) (cB:=Bt) ((S aM).g c O p) fun T p=>?_;rcases T with _|⟨k,T⟩;·exact mW
  ·rcases k;case c y=>
    rcases T with _|⟨u,_|⟨t,T⟩⟩;·exact FC .e p
    ·exact FC u p
    ·exact mW
   all_goals exact mW
 |c=>exact fun _ O p=>Bx O p
 |b g e aY aN=>exact fun c O p=>TB (w:=dK X ab.b [] e) (cB:=dK X ab.b [] e) (aY (ih c) O p) fun O p=>aN (hO c) O p
 |p aQ az=>exact fun c=>gL c
 |j aQ az=>exact fun c=>gL c
 |k q e=>exact fun c=>gL c
 |i g' s a' e=>exact fun c=>gL c
 |n=>exact fun c=>gL c
 |m=>exact fun c=>gL c
end
end
section
open PySem
theorem SL(r:Nat)(p:List (bF×M)):mO r (qH p)=I:=by show(p.map fun b=>(b.1,K.b b.2)).all (fun b=>Bu r b.2)=I;rw[List.all_map];exact fe.2 fun _ _=>rfl
theorem aix(n:Option bV)(t:Except M K×af)(c:j_ 0 n=o t):∃d:Except M M,t.1=d.map .b:=by
 rcases n with _|n;·exact lQ c
 ·rcases n with⟨A,f⟩|⟨A,f⟩|⟨l,f⟩|⟨k,f⟩;·obtain rfl:=aJ (show o ((.ok (.b .e),[]):Except M K×af)=o t from c);exact⟨.ok .e,rfl⟩
  ·exact lQ c
  ·have ao:∀k:M,x5 0 f (K.b k)=o t→∃d:Except M M,t.1=d.map .b:=fun k c=>by obtain rfl:=aJ (show o ((.ok (.b k),[]):Except M K×af)=o t from c);exact⟨.ok k,rfl⟩
   have c:(AQ 0 f l).bind (x5 0 f)=o t:=c;rcases l with k|v|b;·exact ao k c
   ·have c:((f[v]?).bind Ei).bind (x5 0 f)=o t:=c;generalize f[v]?=u at c;rcases u with _|n;·exact lQ c
    ·rcases n;case b g=>exact ao _ c
     case f g=>exact ao _ c
     all_goals exact lQ c
   ·exact lQ c
  ·obtain rfl:=aJ (show o ((.error k,[]):Except M K×af)=o t from c);exact⟨.error k,rfl⟩
theorem Z7(T:List M):ph (dL T)=I:=by induction T with|nil=>rfl|cons k T ak=>exact ak
theorem aqa(aO:af)(r E:Nat)(c:Bm E=I)(T:List M)(p:List (bF×M)):bK aO K.b K.b (bp ab r E (dL T) (dz p)) (bp ab r E (dL T) (c0 aO p)):=by
 rcases r with _|r;·exact bK.c
 ·have b:∀f,bp ab (r+1) E (dL T) f=pj ab (bp ab r) E (dL T) f:=fun _=>rfl;rw[b,b];unfold pj;unfold Bm at c;generalize ab.c E=F at c⊢;rcases F with F|_|_|_;·
   show bK aO K.b K.b (vt (bp ab r) ab.b F (dL T) (dz p)) (vt (bp ab r) ab.b F (dL T) (c0 aO p));unfold vt;rw[Z7,show qE F=I from c];intro t b4;have b4:(j_ 0 (ju (bp ab r) ab.b F (dL T) [])).bind (fun t=>o (t.1,dz p))=o t:=b4;show∃(d:Except M M)(cG:List (bF×M)),t=(d.map K.b,dz cG)∧(j_ 0 (ju (bp ab r) ab.b F (dL T) [])).bind (fun t=>o (t.1,c0 aO p))=o (d.map K.b,c0 aO cG);rcases u:j_ 0 (ju (bp ab r) ab.b F (dL T) [])with _|y;·rw[u]at b4;exact lQ b4
   ·obtain⟨d,aH⟩:=aix _ y u;rw[u]at b4;obtain rfl:=aJ (show o (y.1,dz p)=o t from b4);exact⟨d,p,congrArg (·,dz p) aH,congrArg (fun G=>o (G,c0 aO p)) aH⟩
  all_goals exact gL c
theorem amT(F:bn)(c:F.b=[])(g:K)(zS:List M):kO F (g::dL zS)=o g::(zS.map o++Ci (F.f-F.c) U).map (i0 .b):=by unfold kO;rw[c];show((g::dL zS).zipIdx.map fun d=>o d.1)++_=_;rw[show((g::dL zS).zipIdx.map fun d=>o d.1)=((g::dL zS).zipIdx.map Prod.fst).map o from vS.symm,List.zipIdx_map_fst,vR,List.map_replicate,vS,pL,vS];rfl
theorem TE(X:ea)(F:bn)(bf:F.b=[])(g:K)(T:List M)(f:af):ju X ab.b F (g::dL T) f=if(T.length+1≤F.c∧F.c≤T.length+1+F.d.length)then dK X ab.b [] F.e (o g::((T++F.d.drop (F.d.length+(T.length+1)-F.c)).map o++Ci (F.f-F.c) U).map (i0 .b)) f else U:=by
 unfold ju sR;rw[Gv,dA];by_cases q:T.length+1≤F.c∧F.c≤T.length+1+F.d.length;·rw[if_pos q,if_pos q];show dK X ab.b ((de F.b.length).map _) F.e (kO F (g::dL T++dL _)) (f++qw _ F.b)=_;rw[List.cons_append,←vR,amT F bf,bf];show dK X ab.b [] F.e _ (f++[])=_;rw[hE]
 ·rw[if_neg q,if_neg q];rfl
section
variable{aO:af}(bu:aO.all (mO (aO.length+1))=I)
include bu
theorem aiz{z eX:Option bV}(c:ig aO z eX)(p:List (bF×M)):bK aO K.b K.b (j_ 1 z) (j_ (c0 aO p).length eX):=fun t b=>by
 have Y:∀p,(c0 aO p).length=aO.length+1:=fun p=>fy;have cz:∀cG,(c0 aO cG).take (c0 aO p).length=c0 aO cG:=fun cG=>L5 (by rw[Y,Y];exact df _);have GZ:∀cG,(c0 aO cG).all (mO (c0 aO p).length)=I:=fun cG=>by rw[Y,List.all_append,bu];show(mO _ (qH cG)&&I)=I;rw[SL];rfl
 have Ve:∀cG,((dz cG).take 1).all (mO 1)=I:=fun cG=>by show(mO _ (qH cG)&&I)=I;rw[SL];rfl
 rcases z with _|z;·exact lQ b
 ·have HO:∀(cG)(d:Except M K),an (((dz cG).take 1).all (mO 1)) (o (d,(dz cG).take 1)) U=o (d,dz cG):=fun cG d=>by rw[Ve];rfl
  have HP:∀(cG)(d:Except M K),an (((c0 aO cG).take (c0 aO p).length).all (mO (c0 aO p).length)) (o (d,(c0 aO cG).take (c0 aO p).length)) U=o (d,c0 aO cG):=fun cG d=>by rw[cz,GZ];rfl
  obtain⟨cG,⟨O,rfl,dh⟩|⟨k,rfl,dh⟩|⟨k,rfl,dh⟩⟩:=c z rfl;·rw[dh];exact⟨.ok .e,cG,(aJ ((HO cG (.ok (.b .e))).symm.trans b)).symm,HP cG (.ok (.b .e))⟩
  ·rw[dh];exact⟨.ok k,cG,(aJ ((HO cG (.ok (.b k))).symm.trans b)).symm,HP cG (.ok (.b k))⟩
  ·rw[dh];exact⟨.error k,cG,(aJ ((HO cG (.error k)).symm.trans b)).symm,HP cG (.error k)⟩
theorem ap9(r:Nat):∀E,u0 E=I→∀T p,bK aO K.b K.b (bp ab r E (.c 0::dL T) (dz p)) (bp ab r E (.c aO.length::dL T) (c0 aO p)):=by induction r with|zero=>exact fun _ _ _ _=>bK.c|succ r ak=>
 intro E cN T p;have z:E∈Iw:=Gy.2 ((tw.1 cN).imp (fun c=>List.mem_range'_1.2 ⟨cF (ih c),Cn (cF (hO c))⟩) fun c=>List.mem_range'_1.2 ⟨cF (ih c),Cn (cF (hO c))⟩);have e9:=a7 Zu z;have b:∀aM f,bp ab (r+1) E aM f=pj ab (bp ab r) E aM f:=fun _ _=>rfl;rw[b,b];unfold pj;unfold UT at e9;generalize ab.c E=F at e9⊢;rcases F with F|_|_|_;·
  have bf:F.b=[]:=by
   have:=ih (ih e9);unfold qE at this;generalize F.b=q at this⊢;rcases q with _|_;·rfl
   ·exact gL this
  show bK aO K.b K.b (j_ 1 (ju (bp ab r) ab.b F (.c 0::dL T) (dz p))) (j_ (c0 aO p).length (ju (bp ab r) ab.b F (.c aO.length::dL T) (c0 aO p)));refine aiz bu ?_ p;rw[TE _ F bf,TE _ F bf];exact Ll _ (aqt ak (aqa aO r) F.e (hO e9) _ p)
 all_goals exact gL e9
theorem dH.b{E v:Nat}(cN:u0 E=I)(T:List M)(p:List (bF×M)){t:Except M K×af}(c:dH ab E v (.c 0::dL T) (dz p) (o t)):dH ab E v (.c aO.length::dL T) (c0 aO p) (o (t.1,aO++t.2)):=fun z=>by obtain⟨d,cG,aG,aK⟩:=ap9 bu (z+v) E cN T p _ (c z);rw[aG];exact aK
end
end
section
open PySem
theorem aev:(U::eI.map o).map (fun n=>a6 (dq n=[58]))=(U::eI.map o).map fun _=>C:=by kernel_rfl
noncomputable def xa(g e:M)(av wo mv Dg:List M)(r:Int):af:=[.c,.d (o (.b g)),.d (o (.b e)),.d (o (.c 4)),.e 105 [(.uq,.c 5),(.wC,.c 6),(.wB,.c 7),(.wF,.c 8),(.sB,.c 9),(.sF,.b (.b r))],.b av,.b wo,.b mv,.b Dg,.f []]
variable(g e:M)
noncomputable def AL:cY:=(149,0,0,0,0,0)
noncomputable def Eb:List Nat:=[101,120,105,116]
theorem FB:dH ab 108 20 [.c 4,.b (.c Eb),.b (.b 1)] (xa g e [] [] [] [] 0) (o (.ok (.b .e),xa g e [eb AL] [.b 1] [.c []] [.b 0] 1)):=fun z=>by kernel_rfl
theorem Tx(av wo mv Dg:List M)(r Y:Int):dH ab 108 20 [.c 4,.b (.c []),.b (.b Y)] (xa g e av wo mv Dg r) (o (.ok (.b .e),xa g e av wo mv Dg r)):=fun z=>by kernel_rfl
theorem ar5(w:cY):b_ ab 15 1 [.b (eb w)] (.ok (.g (a6 (w.1=24)))):=fun z f=>by kernel_rfl
theorem aew{n:Option aV}(aj:jg n)(f:af):bI .Eq f (.b (.c (dq n))) (.b (.c [58]))=o C:=qy (ye (P:=fun n=>a6 (dq n=[58])=C) aj (fun _ c=>a7 aev c) fun e l=>decide_eq_false fun b=>by have:=KT e l;rw[show(aV.en e l).bT=[58]from b]at this;exact gL this) f
def oq(b:Bool):af:=xa g e (an b [eb AL] []) (an b [.b 1] []) (an b [.c []] []) (an b [.b 0] []) (an b 1 0)
def aeQ(b:Bool)(w:cY)(E:List Nat)(r:Int)(x:Bool):af:=xa g e (an b [eb AL,eb w] [eb w]) (an b [.b 1,.b r] [.b r]) (an b [.c [],.c E] [.c E]) (an b [.b 0,.b 1] [.b 0]) (an b 1 0+an x 2 1)
theorem Jn(b:Bool):(oq g e b).all (mO ((oq g e b).length+1))=I:=by rcases b<;>rfl
theorem aeP(b:Bool):(oq g e b).length=10:=by rcases b<;>rfl
section
variable{bm:List f6}(c:Ai bm)(r:Int)(b:Bool){s:aV}(aX:a_ (fl (dr bm)) 0=o s)
include c aX
theorem Ty:∃q:Bool,b_ ab 74 5 [.b (.c s.bT)] (.ok (.g q))∧dH ab 129 1 [.c 10] (oq g e b++bv (fl (dr bm)) (.b r) 0) (o (.ok (.b (.c s.bT)),oq g e b++bv (fl (dr bm)) (.b r) 0))∧dH ab 129 1 [.c 10,.b (.b 1)] (oq g e b++bv (fl (dr bm)) (.b r) 0) (o (.ok (.b (.c (dq (a_ (fl (dr bm)) 1)))),oq g e b++bv (fl (dr bm)) (.b r) 0))∧(∀f,bI .Eq f (.b (.c (dq (a_ (fl (dr bm)) 1)))) (.b (.c [58]))=o C)∧(∀f,bI .NotEq f (.b (.c s.bT)) (.b (.c []))=o I)∧dH ab 103 14 [.c 10] (oq g e b++bv (fl (dr bm)) (.b r) 0) (o ((cp (fl (dr bm)) (.b r) xh (qJ (a_ (fl (dr bm))) 0)).1,oq g e b++(cp (fl (dr bm)) (.b r) xh (qJ (a_ (fl (dr bm))) 0)).2)):=by have y:=TH c;have e9:s.d9:=y.c s (dZ aX);have k:=dH.b (Jn g e b) (E:=129) rfl [] [(.ql,d5 (fl (dr bm))),(.sC,.b r),(.fj,.b (0:Nat))] (jH (.b r) y 0);have e4:=dH.b (Jn g e b) (E:=129) rfl [.b (1:Nat)] [(.ql,d5 (fl (dr bm))),(.sC,.b r),(.fj,.b (0:Nat))] (DW (Y:=.b r) y 0 1);have t:=dH.b (Jn g e b) (E:=103) rfl [] [(.ql,d5 (fl (dr bm))),(.sC,.b r),(.fj,.b (0:Nat))] (PN (.b r) y 0);rw[aeP]at k e4 t;rw[aX]at k;obtain⟨q,ad,bf,_⟩:=Ua e9;exact⟨pt (o s),PK e9,k,e4,fun f=>aew (gP y 1) f,fun f=>tb (decide_eq_false (by rw[bf];exact yD q ad)) f,t⟩
theorem apu{Q:Nat}(al:qJ (a_ (fl (dr bm))) 0=(U,Q)):dH ab 108 20 [.c 4,.b (.c (eP bm)),.b (.b r)] (oq g e b) (o (.error (.b r),oq g e b)):=by obtain⟨q,g9,k,e4,cx,cU,t⟩:=Ty g e c r b aX;rw[al]at t;refine f' 20 ([B.j (I7 c),B.j (I_ c (.b r)),B.p k,B.j g9]++(an q [B.p e4,B.i (cx [])] []++[B.p k,B.i (cU []),B.p t])) fun z=>?_;rcases b<;>rcases q<;>kernel_rfl
theorem Lk{Q:Nat}{w:cY}{E:List Nat}(al:qJ (a_ (fl (dr bm))) 0=(o (w,E),Q)):∃x,dH ab 108 20 [.c 4,.b (.c (eP bm)),.b (.b r)] (oq g e b) (o (.ok (.b .e),aeQ g e b w E r x)):=by obtain⟨q,g9,k,e4,cx,cU,t⟩:=Ty g e c r b aX;rw[al]at t;have y:=ar5 w;generalize a6 (w.1=24)=m at y;refine⟨m,f' 20 ([B.j (I7 c),B.j (I_ c (.b r)),B.p k,B.j g9]++(an q [B.p e4,B.i (cx [])] []++[B.p k,B.i (cU []),B.p t,B.j y])) fun z=>?_⟩;rcases b<;>rcases q<;>rcases m<;>kernel_rfl
end
end
section
open PySem
noncomputable def DN(q:Nat):List M:=[M.c Eb,.c []].take q
variable(g e:M)
theorem apD{bm:List f6}(c:Ai bm){s:aV}(aX:a_ (fl (dr bm)) 0=o s)(aI:mL (a_ (fl (dr bm)))=U){q:Nat}(bf:q<3):dH ab 109 26 [.b (.f (DN q++[.c (eP bm)]))] [.c,.d (o (.b g)),.d (o (.b e))] (o (.error (.b (q+1:Nat)),[.c,.d (o (.b g)),.d (o (.b e))])):=by
 rw[←KY]at aI;unfold fW at aI;rcases u:qJ (a_ (fl (dr bm))) 0 with⟨_|⟨w,E⟩,Q⟩;·
  have t:=fun r b=>apu g e c r b aX u;rcases q with _|_|_|q;·exact f' 26 [B.p (t 1 C)] fun z=>by kernel_rfl
  ·exact f' 26 [B.p (FB g e),B.p (t 2 I)] fun z=>by kernel_rfl
  ·exact f' 26 [B.p (FB g e),B.p (Tx g e [eb AL] [.b 1] [.c []] [.b 0] 1 2),B.p (t 3 I)] fun z=>by kernel_rfl
  ·exact absurd bf (jS.2 (pQ 3 q))
 ·rw[u]at aI;rcases E with _|⟨d,E⟩;·exact lQ aI.symm
  ·have bs:bI .Eq [] (.b (.c [])) (.b (.c []))=o I:=rfl;have aG:bI .Eq [] (.b (.c (d::E))) (.b (.c []))=o C:=qy (decide_eq_false (yD d E)) [];rcases q with _|_|_|q;·obtain⟨x,t⟩:=Lk g e c 1 C aX u;refine f' 26 [B.p t,B.i aG] fun z=>?_;rcases x<;>kernel_rfl
   ·obtain⟨x,t⟩:=Lk g e c 2 I aX u;refine f' 26 [B.p (FB g e),B.p t,B.i bs,B.i aG] fun z=>?_;rcases x<;>kernel_rfl
   ·obtain⟨x,t⟩:=Lk g e c 3 I aX u;refine f' 26 [B.p (FB g e),B.p (Tx g e [eb AL] [.b 1] [.c []] [.b 0] 1 2),B.p t,B.i bs,B.i aG] fun z=>?_;rcases x<;>kernel_rfl
   ·exact absurd bf (jS.2 (pQ 3 q))
end
section
open PySem
theorem xd(g:Int)(p t:List nT):Cu (.int g::p) (.int g::t)=Cu p t:=by show(a6 (g=g)&&Cu p t)=_;rw[decide_eq_true rfl];rfl
theorem JB(w:cY):bI .NotEq [] (.b (jc w)) (.b (jc w))=o C:=by show(o (Cu [.int w.1,.int w.2.1,.int w.2.2.1,.int w.2.2.2.1,.int w.2.2.2.2.1,.int w.2.2.2.2.2] [.int w.1,.int w.2.1,.int w.2.2.1,.int w.2.2.2.1,.int w.2.2.2.2.1,.int w.2.2.2.2.2])).map (!·)=_;rw[xd,xd,xd,xd,xd,xd];rfl
def F4(aC:List Int)(cc:M)(F i G m:Option K):List (Option K):=[o (.b (vu aC)),o (.b cc),F,i,G,m]
noncomputable def BX(q:Nat)(d:Option K):af:=[.c,.d (o (.b (.f (DN q)))),.d d]
theorem anG{s:aV}(c:s.d9):bI .In [] (.b (.c s.bT)) (.b (.j [.c [35],.c [47,47]]))=o (g3 s):=(D9 (n:=o s) (fun _ b=>aJ b▸c) [.m,.n] rfl (EI rfl)).trans (congrArg (fun e=>o (bd .m (o s)||e)) (Ga _))
theorem aeI{s:aV}{br:List aV}(c:g3 s=C):a_ (fl (s::br)) 0=o s:=by unfold fl;rw[Ji,(EZ c).1];show a_ (mI .n (s::mI .m br)) 0=o s;rw[Ji,(EZ c).2];rfl
theorem apW{u:Nat}(c:u<3):∃dl∈BD,hR [] (.b (.f [.c [32],.c [32,32],.c [32,9]])) (.b (.b u))=o (.c dl):=by
 rcases u with _|_|_|u;·exact⟨[32],dZ (i:=0) rfl,by kernel_rfl⟩
 ·exact⟨[32,32],dZ (i:=1) rfl,by kernel_rfl⟩
 ·exact⟨[32,9],dZ (i:=2) rfl,by kernel_rfl⟩
 ·exact absurd c (jS.2 (pQ 3 u))
theorem Uc{aC:List Int}(ah:aC.length≤63)(z:Nat){J:List aV}(e9:∀s∈J,s.d9)(aw:J.length≤79){q:Nat}(bf:q<3)(i:Bool)(F Q G m d:Option K):∃br y9 gk ae e_,((∀s∈br,s.d9)∧br.length≤J.length+1)∧fG (g0 (bp ab (z+29)) ab.b [1,2] (.b 3) (.b (.b (an i 1 0))) (F4 aC (d5 J) F Q G m) (BX q d)) (dK (bp ab (z+29)) ab.b [1,2] Fq)=o (.b (F4 aC (d5 br) y9 (o (.b (.b (an i 1 0)))) gk ae) (BX q e_)):=by
 obtain⟨br,⟨H,L⟩,aN⟩:=acJ ah e9 aw (E:=an i 24 21) (by rcases i<;>decide);have rj:br.length≤80:=bt L (kn aw);have y:dP br:=⟨bt rj (by decide),H⟩;have ra:=PH y;have kr:=mP (cj aC 31) 3 (by decide);have gE:cj aC 31%3<3:=jR _ (by decide);generalize cj aC 31%3=u at kr gE;obtain⟨dl,aW,ht⟩:=apW gE;have C3:=fun X=>SD aW H rj X (BX q d);have bk:=I9 (Lm aW H rj);rw[yv]at bk;refine⟨br,o (.b (pl (mL (a_ (fl br))))),?_⟩;rcases aI:mL (a_ (fl br))with _|w;·
  rw[aI]at ra bk;rcases br with _|⟨s,br⟩;·refine⟨o (.b (.f [.e])),o (.b (.g I)),o (.b (.c (eP (kg dl [])))),⟨H,L⟩,?_⟩;refine fX 29 [B.j aN,B.j ra,B.j (qv ah (i:=31) (by decide)),B.q kr,B.l ht,B.s (C3 (bp ab z)),B.j bk] z ?_;rcases i<;>kernel_rfl
  ·have aG:=LN y 0 [];have aK:=yB y (i:=0) (s:=s) rfl [];have bA:=anG (H s (dY ..));refine⟨o (.b (.f [.e])),o (.b (.g (g3 s))),o (.b (.c (eP (kg dl (s::br))))),⟨H,L⟩,?_⟩;rcases u:g3 s;·
    rw[u]at bA;have aX:=aeI (br:=br) u;rw[←yv dl (s::br)]at aX aI;have R:=apD (.f (DN q)) (.c (eP (kg dl (s::br)))) (Lm aW H rj) aX aI bf;refine fX 29 [B.j aN,B.j ra,B.j (qv ah (i:=31) (by decide)),B.q kr,B.l ht,B.s (C3 (bp ab z)),B.j bk,B.i aG,B.l aK,B.i bA,B.p R] z ?_;rcases q with _|_|_|q;·rcases i<;>kernel_rfl
    ·rcases i<;>kernel_rfl
    ·rcases i<;>kernel_rfl
    ·exact absurd bf (jS.2 (pQ 3 q))
   ·rw[u]at bA;refine fX 29 [B.j aN,B.j ra,B.j (qv ah (i:=31) (by decide)),B.q kr,B.l ht,B.s (C3 (bp ab z)),B.j bk,B.i aG,B.l aK,B.i bA] z ?_;rcases i<;>kernel_rfl
 ·rw[aI]at ra bk;obtain⟨bm,H0,NU,Za,lw⟩:=asE (fun i s b=>(yq (yq y _) _).c s (dZ b)) aI;have Mu:=I9 (Ti H0 (bt NU (by decide)));rw[show fl (dr bm)=dr bm from by rw[←BA (Ti H0 (bt NU (by decide))),Jh H0.c],lw]at Mu;refine⟨o (.b (eb w)),m,o (.b (.c (eP (kg dl br)))),⟨H,L⟩,?_⟩;refine fX 29 [B.j aN,B.j ra,B.j (qv ah (i:=31) (by decide)),B.q kr,B.l ht,B.s (C3 (bp ab z)),B.j bk,B.i (JB w),B.j Za,B.j Mu,B.i (JB w)] z ?_;rcases i<;>kernel_rfl
end
section
open PySem
theorem amA{aC:List Int}(ah:aC.length≤63)(z:Nat){J:List aV}(e9:∀s∈J,s.d9)(aw:J.length≤60){q:Nat}(bf:q<3)(F:Option K):∃br y9 ew gk ae e_,dK (bp ab (z+29)) ab.b [1,2] (.i C (.b 3) (.g (.b (.i .qm)) (.d (.f .Add (.f .Mod (.g (.b (.d 110)) (.d (.c 0) (.d (.b (.b 20)) .e))) (.b (.b 2))) (.b (.b 1))) .e)) Fq) (F4 aC (d5 J) F U U U) (BX q U)=o (.b (F4 aC (d5 br) y9 ew gk ae) (BX q e_)):=by
 have kr:=mP (cj aC 20) 2 (by decide);have cU:cj aC 20%2<2:=jR _ (by decide);have nY:=qv ah (i:=20) (by decide);generalize cj aC 20%2=u at kr cU;obtain⟨br,na,gl,qi,b6,⟨hs,fB⟩,Mw⟩:=Uc ah z e9 (bt aw (by decide)) bf C F U U U U;obtain⟨N,p6,hd,i7,f3,_,U8⟩:=Uc ah z hs (bt fB (bt (kn aw) (by decide))) bf I na (o (.b (.b 0))) gl qi b6;let bC:=fun dF A f=>fG (g0 (bp ab (z+29)) ab.b [1,2] (.b 3) (.b dF) A f) (dK (bp ab (z+29)) ab.b [1,2] Fq);rcases u with _|_|u;·exact⟨br,na,_,gl,qi,b6,(rO (d:=.b (.m 0 1 1)) (p:=[.b 0]) (oG 29 [B.j nY,B.q kr] z (by kernel_rfl)) (by kernel_rfl)).trans (congrArg (fun n=>h6 n (jd bC [])) Mw)⟩
 ·exact⟨N,p6,_,hd,i7,f3,(rO (d:=.b (.m 0 2 1)) (p:=[.b 0,.b 1]) (oG 29 [B.j nY,B.q kr] z (by kernel_rfl)) (by kernel_rfl)).trans ((congrArg (fun n=>h6 n (jd bC [.b 1])) Mw).trans (congrArg (fun n=>h6 n (jd bC [])) U8))⟩
 ·exact absurd cU (jS.2 (pQ 2 u))
theorem aoR{aC:List Int}(ah:aC.length≤63)(z:Nat):bp ab (z+30) 125 [.b (.f (aC.map .b))] [.c]=o (.ok (.b (.g I)),[.c]):=by
 obtain⟨J,w,On,z3,lw,o0⟩:=aiu ah;have e9:∀s∈J,s.d9:=fun s bu=>(On s bu).1;have aw:J.length≤80:=bt z3 (by decide);have y:dP J:=⟨bt z3 (by decide),e9⟩;have aW:[32]∈BD:=dY ..;have Oj:=Lm aW e9 aw;have b:fl J=J:=by have:=BA Oj;rw[Jh fun k al=>(On _ (By [32] J k al).1).2,yv]at this;exact this.symm
 have ra:=PH y;have bk:=I9 Oj;rw[yv,b,lw]at bk;rw[b,lw]at ra;have kr:=mP (cj aC 32) 3 (by decide);have gE:cj aC 32%3<3:=jR _ (by decide);have nY:=qv ah (i:=32) (by decide);generalize cj aC 32%3=q at kr gE;have p:hQ (.b (.f [.c Eb,.c []])) (.b .e) (.b (.b q))=o (.f (DN q)):=by show(if 2≤cK then o (M.f (ij [M.c Eb,.c []] U (o (q:Int))))else U)=_;rw[Jm];exact if_pos (by decide)
 obtain⟨br,y9,ew,gk,ae,e_,S⟩:=amA ah z e9 z3 gE (o (.b (jc w)));exact iX 30 [B.j o0,B.j ra,B.s (SD aW e9 aw (bp ab z) [.c,.d U,.d U]),B.j bk,B.i (JB w),B.j nY,B.q kr,B.r p,B.v S] z (by kernel_rfl)
theorem auS{aC:List Int}(ah:aC.length≤63):bp ab 60 125 [.b (.f (aC.map .b))] [.c]=o (.ok (.b (.g I)),[.c]):=aoR ah 30
end
section
set_option genInjectivity true
set_option genSizeOf true
open PySem PySem.W
section
noncomputable abbrev cb:m6:=L'.row.toRowW.1
noncomputable def Rl:aq:="/claim/cut.py"
noncomputable def rU(N:List aa):cm:={cls:=.type "tuple",data:=.seq N.toArray}
noncomputable def AU(N:List aa):cm:={cls:=.none,data:=.fields N.toArray}
noncomputable def Eo:List aq→Nat→List aa|[],_=>[]|y::t,v=>.str y v::Eo t (v+1)
noncomputable def Rj:a0→Nat→aa×Nat|.Constant (.int i) _ _,v=>(.int i v,v+1)|.Constant (.str y) _ _,v=>(.str y v,v+1)|_,v=>(.none,v)
noncomputable def Rk:List a0→Nat→List aa×Nat|[],v=>([],v)|b::t,v=>match Rj b v with|(l,eu)=>match Rk t eu with|(N,gi)=>(l::N,gi)
noncomputable def Em(c1 uh:aq)(v n6 Vh We kX:Nat)(tX:Bool)(rq:Nat)(gF hw Ou:aa)(gi:Nat):cm:={cls:=.type "code",data:=.fields #[.str c1 v,.str uh (v+1),.str Rl (v+2),.int n6 0,.int Vh 0,.int 0 0,.int 0 0,.int We 0,.ref kX,.bool tX,.int 181 0,.ref rq,.none,gF,hw,Ou,.int gi 0,.int n6 0,.str Rl (gi+1)]}
noncomputable def Rn(l2:aa)(c1 lv:aq)(fQ:Arguments)(bY:List cX)(bN:ir)(n6:Nat)(su:List cm)(G4:aa)(g v:Nat):List cm×Nat:=match localNames fQ bN (.stmts bY)with|some (fB,l1)=>(su++[rU [],AU [],rU (Eo fB (v+3)),rU (Eo l1 (v+3+fB.length)),{cls:=.none,data:=.func {name:=c1,qualname:=lv,params:=fQ,body:=.stmts bY,scope:=bN,globals:=0,closure:=[],defaults:=.none,kwdefaults:=.none}},Em c1 lv v n6 fQ.args.length 3 g I (g+1) (.ref (g+2)) (.ref (g+3)) (.ref (g+4)) (v+3+fB.length+l1.length),{cls:=.type "function",data:=.func {name:=c1,qualname:=lv,params:=fQ,body:=.stmts bY,scope:=bN,globals:=3,closure:=[],defaults:=G4,kwdefaults:=.none,pyModule:=l2,code:=.ref (g+5)}}],v+5+fB.length+l1.length)|none=>(su++[rU [],AU [],{cls:=.none,data:=.func {name:=c1,qualname:=lv,params:=fQ,body:=.stmts bY,scope:=bN,globals:=0,closure:=[],defaults:=.none,kwdefaults:=.none}},Em c1 lv v n6 fQ.args.length 3 g I (g+1) .none .none (.ref (g+2)) (v+3),{cls:=.type "function",data:=.func {name:=c1,qualname:=lv,params:=fQ,body:=.stmts bY,scope:=bN,globals:=3,closure:=[],defaults:=G4,kwdefaults:=.none,pyModule:=l2,code:=.ref (g+3)}}],v+5)
noncomputable def Rm(l2:aa)(u:aq)(c1:aq)(fQ:Arguments)(bY:List cX)(bN:ir)(ap:bc)(g v:Nat):List cm×Nat:=match Rk fQ.defaults v with|([],eu)=>Rn l2 c1 (u++c1) fQ bY bN ap.line [] .none g eu|(l::N,eu)=>Rn l2 c1 (u++c1) fQ bY bN ap.line [rU (l::N)] (.ref g) (g+1) eu
noncomputable def lM(R:eC)(y:aq)(v:Nat)(l:aa):h8:=⟨PyData.keyHash R y,.str y v,l⟩
noncomputable def J2(R:eC)(l2:aa)(u:aq):List cX→Nat→Nat→List cm×List h8×List aa×Nat
 |.FunctionDef c1 fQ bY _ _ _ bN _ _ ap::t,g,v=>match Rm l2 u c1 fQ bY bN ap g v with|(av,eu)=>match J2 R l2 u t (g+av.length) (eu+1)with|(YH,az,aQ,gi)=>(av++YH,lM R c1 eu (.ref (g+av.length-1))::az,.int ap.line 0::.int ap.col 0::.ref (g+av.length-2)::aQ,gi)
 |_::t,g,v=>J2 R l2 u t g v
 |[],_,v=>([],[],[],v)
noncomputable def J0(R:eC)(l2:aa)(c1:aq)(n6:Nat)(bY:List cX)(MD:List aq)(wm:Nat)(YX:List aa)(g v:Nat):List cm×Nat×Nat×Nat:=match J2 R l2 (c1++".") bY (g+7) (v+12)with|(N2,az,aQ,eu)=>let n5:=eu+MD.length;let e:=g+7+N2.length;let q:=e+2;let ro:=az++[lM R "__static_attributes__" n5 (.ref e)];let zV:List h8×List cm×Nat:=match wm with|0=>([lM R "__weakref__" (n5+2) (.ref (q+1))],[{cls:=.type "getset_descriptor",data:=.fields #[.str "__weakref__" (n5+1),.ref q,.builtin "ExceptionGroup.__weakref__",.none]}],n5+3)|1=>([],[],n5+1)|_=>([lM R "__dict__" (n5+2) (.ref (q+1)),lM R "__weakref__" (n5+4) (.ref (q+2))],[{cls:=.type "getset_descriptor",data:=.fields #[.str "__dict__" (n5+1),.ref q,.builtin "function.__dict__",.builtin "function.__dict__#set"]},{cls:=.type "getset_descriptor",data:=.fields #[.str "__weakref__" (n5+3),.ref q,.builtin "ExceptionGroup.__weakref__",.none]}],n5+5);let aC:=lM R "__module__" (v+7) l2;let jX:=lM R "__firstlineno__" (v+11) (.int n6 (v+10));let MN:List aa:=[.type "Exception",.type "BaseException",.type "object"];let b:=zV.2.1.length;let Vj:aa:=match wm with|0=>.type "Exception"|1=>.ref 39|_=>.type "object";let kW:List aa:=match wm with|0=>[.type "Exception"]|1=>[.ref 39]|_=>[];let uc:List aa:=match wm with|0=>.ref q::MN|1=>.ref q::.ref 39::MN|_=>[.ref q,.type "object"];let YV:Option aa:=match wm with|0=>o (.ref g)|1=>o (.ref g)|_=>U;let YA:aa:=match wm with|0=>.builtin "Exception.__new__"|1=>.builtin "Exception.__new__"|_=>.builtin "object.__new__";([rU kW,{cls:=.type "builtin_function_or_method",data:=.fields #[.builtin "type.__prepare__",.type "type"]},{cls:=.type "dict",data:=.dict (aC::lM R "__qualname__" (v+9) (.str c1 (v+8))::jX::ro).toArray (az.length+4)},rU [],AU aQ,Em c1 c1 (v+2) n6 0 0 (g+3) C (g+4) .none .none .none (v+5),{cls:=.type "frame",slots:= #[o (.ref (g+5)),o (.ref 3),o (.ref (g+2)),U,o l2,U,o (.ref 0)]}]++N2++[rU (Eo MD eu),{cls:=.type "dict",data:=.dict (aC::jX::ro++zV.1++[lM R "__doc__" zV.2.2 .none]).toArray (b+2)},{cls:=.type "type",data:=.cls {name:=c1,bases:=[Vj],mro:=uc,ns:=e+1,qualname:=c1,subclasses:=YX},slots:= #[YV,U,o (.str c1 v),o (.str c1 (v+8)),o YA,o (.bool I)]}]++zV.2.1++[{cls:=.type "super",data:=.fields #[.ref q,.ref q,.ref q]},{cls:=.type "builtin_function_or_method",data:=.fields #[.builtin "object.__init_subclass__",.ref q]}],q,g+5,zV.2.2)
structure iL where
 c:Nat
 b:Nat
 g:BT
 e:List h8
 f:aa
 i:List aa
 d:Nat
noncomputable def xk:BT→Nat→List cm→BT|s,_,[]=>s|s,r,n::t=>xk (s.ins r n) (r+1) t
noncomputable def JZ(c1:aq):List aq:=if c1==("GateError":aq)then["at","what"]else if c1==("Order":aq)then["code","dst","imm","more","off","src"]else if c1==("Words":aq)then["at","line","words"]else if c1==("Draft":aq)then["goals","labels","lines","orders","slot","slots"]else[]
noncomputable def ajK:List a0→Nat|[]=>2|.Name d _::_=>if d==("Exception":aq)then 0 else 1|_=>2
noncomputable def akq(R:eC)(v:Nat):cm:={cls:=.none,data:=.dict #[lM R "type.__subclasses__.Exception.0" (v+1) (.int 39 0),lM R "type.__subclasses__.Exception.n" (v+2) (.int 1 0)] 2}
noncomputable def ajF(l:aa)(n:cm):cm:=match n with|⟨q,F,.cls eU,b'⟩=>⟨q,F,.cls {eU with subclasses:=eU.subclasses++[l]},b'⟩|n=>n
noncomputable def k9(R:eC)(y:iL)(dj:cX):iL:=match y with|⟨r,v,s,t1,cD,rq,tZ⟩=>match dj with
 |.Assign (.Name d _::_) b _=>match Rj b v with|(l,eu)=>match(d==("__name__":aq))with|true=>⟨r,eu+1,s,t1,l,rq,tZ⟩|false=>⟨r,eu+1,s,t1++[lM R d eu l],cD,rq,tZ+1⟩
 |.FunctionDef c1 fQ bY _ _ _ bN _ _ ap=>match Rm cD Str.empty c1 fQ bY bN ap r v with|(av,eu)=>⟨r+av.length,eu+1,xk s r av,t1++[lM R c1 eu (.ref (r+av.length-1))],cD,rq++[.int ap.line 0,.int ap.col 0,.ref (r+av.length-2)],tZ+1⟩
 |.ClassDef c1 Vk _ bY _ _ _ _ _ _ ap=>match ajK Vk with
  |0=>match J0 R cD c1 ap.line bY (JZ c1) 0 [] r v with|(av,q,eU,h0)=>⟨r+av.length,h0+5,(xk s r av).set 2 (fun _=>akq R h0),t1++[lM R c1 (h0+4) (.ref q)],cD,rq++[.int ap.line 0,.int ap.col 0,.ref eU],tZ+1⟩
  |1=>match J0 R cD c1 ap.line bY (JZ c1) 1 [] r v with|(av,q,eU,h0)=>⟨r+av.length,h0+3,(xk s r av).set 39 (ajF (.ref q)),t1++[lM R c1 (h0+2) (.ref q)],cD,rq++[.int ap.line 0,.int ap.col 0,.ref eU],tZ+1⟩
  |_=>match J0 R cD c1 ap.line bY (JZ c1) 2 [] r v with|(av,q,eU,h0)=>⟨r+av.length,h0+3,xk s r av,t1++[lM R c1 (h0+2) (.ref q)],cD,rq++[.int ap.line 0,.int ap.col 0,.ref eU],tZ+1⟩
 |_=>⟨r,v,s,t1,cD,rq,tZ⟩
def ajG(R:eC)(y:iL):cm:=match boot_o_3 R with
 |⟨q,F,.dict az _,b'⟩=>match az.toList with|bs::t=>⟨q,F,.dict ({bs with val:=y.f}::t++y.e).toArray y.d,b'⟩|[]=>⟨q,F,.plain,b'⟩
 |n=>n
def xT(R:eC)(y:iL):BT:=(y.g.set 3 (fun _=>ajG R y)).set 12 (fun _=>AU y.i)
noncomputable def El:List cX:=behindTheImports cb
noncomputable def fn:dQ:={scope:=cb.main.scope,locals:=mainNs,globals:=mainNs,cells:=[],code:=.ref 13,frame:=o 14}
noncomputable def cP:Code:=.body El fn
end
end
section
open PySem PySem.W
section
def En(R:eC):List cm:=[boot_o_0 R,boot_o_1 R,boot_o_2 R,boot_o_3 R,boot_o_4 R,boot_o_5 R,boot_o_6 R,boot_o_7 R,boot_o_8 R,boot_o_9 R,boot_o_10 R,rU [],AU [],Em "<module>" "<module>" 182 1 0 0 11 C 12 .none .none .none 185,{cls:=.type "frame",slots:= #[o (.ref 13),o (.ref 3),o (.ref 3),U,o (.str "__main__" 164),U,o (.ref 0)]}]
def xC(R:eC):iL:=⟨15,187,xk .nil 0 (En R),[],.str "__main__" 164,[],9⟩
noncomputable abbrev du:Option aa:=o (.ref 6)
noncomputable abbrev ey:bc:=⟨0,0,0,0⟩
abbrev cv(R:eC)(y:iL)(r v:Nat)(av:gf):SharedT:={tree:=xT R y,n:=r,life:={},gens:= #[],drawn:={},toks:=v,os:=av}
theorem alu:∀x:cJ,(fun av=>topGo e7 cb x 11 du 12 {heap:=oR x.params,drawn:=boot_drawn,toks:=boot_toks,os:=av} (topStub cb))=fun av=>o (({heap:=⟨(En x.params).toArray,{}⟩,toks:=187,os:=av}:aT),(⟨denote e7 cP,cP,ey,[fh ey]⟩:Thread)):=by rw[Fast.te15667345088766844465,kp,Fast.te11892475500146522536];intro x;kernel_rfl
theorem akL(x:cJ):(fun av=>Fast.tw14374325043358763698 kR cb x 11 du 1 1 {heap:=⟨(En x.params).toArray,{}⟩,toks:=187,os:=av} (blockOf El fn cP ey [fh ey]))=fun av=>o (fL,(cv x.params (xC x.params) 15 187 av).abs,cP,ey):=by kernel_rfl
theorem akK:∀x:cJ,(fun av=>segRun e7 cb x 11 du 1 1 {heap:=⟨(En x.params).toArray,{}⟩,toks:=187,os:=av} (blockOf El fn cP ey [fh ey]))=fun av=>o (fL,(cv x.params (xC x.params) 15 187 av).abs,cP,ey):=by rw[Fast.te14374325043358763698,kp];exact akL
abbrev k7(p:List cX)(k:bc):Thread:=⟨(Fast.tw12563942051412417395 p fn).wrap doneF deadEnd id id,cP,k,[fh ey]⟩
noncomputable def xl:List cX:=El
noncomputable def xm:List cX:=xl.drop 2
def xD(R:eC):iL:={(xl.take 2).foldl (k9 R) (xC R)with c:=43,b:=227}
theorem akr(x:cJ):(fun av=>ly kR cb x 11 du 1 272 (cv x.params (xC x.params) 15 187 av) (k7 (xl.take 2) ⟨0,0,0,0⟩))=fun av=>o (fL,cv x.params (xD x.params) 43 227 av,cP,(⟨2,0,10,35⟩:bc)):=by kernel_rfl
noncomputable def xu:List cX:=xm.drop 1
def xL(R:eC):iL:={(xm.take 1).foldl (k9 R) (xD R)with c:=55,b:=243}
theorem akA(x:cJ):(fun av=>ly kR cb x 11 du 1 214 (cv x.params (xD x.params) 43 227 av) (k7 (xm.take 1) ⟨2,0,10,35⟩))=fun av=>o (fL,cv x.params (xL x.params) 55 243 av,cP,(⟨11,0,12,8⟩:bc)):=by kernel_rfl
noncomputable def xv:List cX:=xu.drop 14
def xM(R:eC):iL:={(xu.take 14).foldl (k9 R) (xL R)with c:=90,b:=306}
theorem akB(x:cJ):(fun av=>ly kR cb x 11 du 1 399 (cv x.params (xL x.params) 55 243 av) (k7 (xu.take 14) ⟨11,0,12,8⟩))=fun av=>o (fL,cv x.params (xM x.params) 90 306 av,cP,(⟨31,0,31,4⟩:bc)):=by kernel_rfl
noncomputable def xw:List cX:=xv.drop 16
def xN(R:eC):iL:={(xv.take 16).foldl (k9 R) (xM R)with c:=119,b:=383}
theorem akC(x:cJ):(fun av=>ly kR cb x 11 du 1 401 (cv x.params (xM x.params) 90 306 av) (k7 (xv.take 16) ⟨31,0,31,4⟩))=fun av=>o (fL,cv x.params (xN x.params) 119 383 av,cP,(⟨47,0,58,77⟩:bc)):=by kernel_rfl
noncomputable def xx:List cX:=xw.drop 13
def xO(R:eC):iL:={(xw.take 13).foldl (k9 R) (xN R)with c:=210,b:=481}
theorem akD(x:cJ):(fun av=>ly kR cb x 11 du 1 385 (cv x.params (xN x.params) 119 383 av) (k7 (xw.take 13) ⟨47,0,58,77⟩))=fun av=>o (fL,cv x.params (xO x.params) 210 481 av,cP,(⟨110,0,111,29⟩:bc)):=by kernel_rfl
noncomputable def xy:List cX:=xx.drop 13
def xP(R:eC):iL:={(xx.take 13).foldl (k9 R) (xO R)with c:=303,b:=587}
theorem akE(x:cJ):(fun av=>ly kR cb x 11 du 1 395 (cv x.params (xO x.params) 210 481 av) (k7 (xx.take 13) ⟨110,0,111,29⟩))=fun av=>o (fL,cv x.params (xP x.params) 303 587 av,cP,(⟨168,0,169,53⟩:bc)):=by kernel_rfl
noncomputable def xz:List cX:=xy.drop 12
def xQ(R:eC):iL:={(xy.take 12).foldl (k9 R) (xP R)with c:=393,b:=706}
theorem akF(x:cJ):(fun av=>ly kR cb x 11 du 1 390 (cv x.params (xP x.params) 303 587 av) (k7 (xy.take 12) ⟨168,0,169,53⟩))=fun av=>o (fL,cv x.params (xQ x.params) 393 706 av,cP,(⟨196,0,197,70⟩:bc)):=by kernel_rfl
noncomputable def xA:List cX:=xz.drop 16
def xR(R:eC):iL:={(xz.take 16).foldl (k9 R) (xQ R)with c:=477,b:=809}
theorem akG(x:cJ):(fun av=>ly kR cb x 11 du 1 396 (cv x.params (xQ x.params) 393 706 av) (k7 (xz.take 16) ⟨196,0,197,70⟩))=fun av=>o (fL,cv x.params (xR x.params) 477 809 av,cP,(⟨235,0,236,53⟩:bc)):=by kernel_rfl
noncomputable def xB:List cX:=xA.drop 12
def xS(R:eC):iL:={(xA.take 12).foldl (k9 R) (xR R)with c:=562,b:=917}
theorem akH(x:cJ):(fun av=>ly kR cb x 11 du 1 374 (cv x.params (xR x.params) 477 809 av) (k7 (xA.take 12) ⟨235,0,236,53⟩))=fun av=>o (fL,cv x.params (xS x.params) 562 917 av,cP,(⟨297,0,299,118⟩:bc)):=by kernel_rfl
noncomputable def xn:List cX:=xB.drop 18
def xE(R:eC):iL:={(xB.take 18).foldl (k9 R) (xS R)with c:=633,b:=1025}
theorem aks(x:cJ):(fun av=>ly kR cb x 11 du 1 386 (cv x.params (xS x.params) 562 917 av) (k7 (xB.take 18) ⟨297,0,299,118⟩))=fun av=>o (fL,cv x.params (xE x.params) 633 1025 av,cP,(⟨360,0,374,16⟩:bc)):=by kernel_rfl
noncomputable def xo:List cX:=xn.drop 1
def xF(R:eC):iL:={(xn.take 1).foldl (k9 R) (xE R)with c:=640,b:=1034}
theorem akt(x:cJ):(fun av=>ly kR cb x 11 du 1 32 (cv x.params (xE x.params) 633 1025 av) (k7 (xn.take 1) ⟨360,0,374,16⟩))=fun av=>o (fL,cv x.params (xF x.params) 640 1034 av,cP,(⟨375,0,380,15⟩:bc)):=by kernel_rfl
noncomputable def xp:List cX:=xo.drop 1
def xG(R:eC):iL:={(xo.take 1).foldl (k9 R) (xF R)with c:=732,b:=1151}
theorem aku(x:cJ):(fun av=>ly kR cb x 11 du 1 552 (cv x.params (xF x.params) 640 1034 av) (k7 (xo.take 1) ⟨375,0,380,15⟩))=fun av=>o (fL,cv x.params (xG x.params) 732 1151 av,cP,(⟨381,0,442,20⟩:bc)):=by kernel_rfl
noncomputable def xq:List cX:=xp.drop 12
def xH(R:eC):iL:={(xp.take 12).foldl (k9 R) (xG R)with c:=816,b:=1270}
theorem akv(x:cJ):(fun av=>ly kR cb x 11 du 1 384 (cv x.params (xG x.params) 732 1151 av) (k7 (xp.take 12) ⟨381,0,442,20⟩))=fun av=>o (fL,cv x.params (xH x.params) 816 1270 av,cP,(⟨530,0,536,75⟩:bc)):=by kernel_rfl
noncomputable def xr:List cX:=xq.drop 11
def xI(R:eC):iL:={(xq.take 11).foldl (k9 R) (xH R)with c:=893,b:=1404}
theorem akw(x:cJ):(fun av=>ly kR cb x 11 du 1 377 (cv x.params (xH x.params) 816 1270 av) (k7 (xq.take 11) ⟨530,0,536,75⟩))=fun av=>o (fL,cv x.params (xI x.params) 893 1404 av,cP,(⟨643,0,662,16⟩:bc)):=by kernel_rfl
noncomputable def xs:List cX:=xr.drop 3
def xJ(R:eC):iL:={(xr.take 3).foldl (k9 R) (xI R)with c:=949,b:=1487}
theorem akx(x:cJ):(fun av=>ly kR cb x 11 du 1 393 (cv x.params (xI x.params) 893 1404 av) (k7 (xr.take 3) ⟨643,0,662,16⟩))=fun av=>o (fL,cv x.params (xJ x.params) 949 1487 av,cP,(⟨697,0,708,65⟩:bc)):=by kernel_rfl
noncomputable def xt:List cX:=xs.drop 14
def xK(R:eC):iL:={(xs.take 14).foldl (k9 R) (xJ R)with c:=1032,b:=1600}
theorem aky(x:cJ):(fun av=>ly kR cb x 11 du 1 399 (cv x.params (xJ x.params) 949 1487 av) (k7 (xs.take 14) ⟨697,0,708,65⟩))=fun av=>o (fL,cv x.params (xK x.params) 1032 1600 av,cP,(⟨840,0,841,37⟩:bc)):=by kernel_rfl
noncomputable def Rs:List cX:=xt.drop 6
def rT(R:eC):iL:={(xt.take 6).foldl (k9 R) (xK R)with c:=1072,b:=1661}
theorem akz(x:cJ):(fun av=>ly kR cb x 11 du 1 192 (cv x.params (xK x.params) 1032 1600 av) (k7 (xt.take 6) ⟨840,0,841,37⟩))=fun av=>o (fL,cv x.params (rT x.params) 1072 1661 av,cP,(⟨906,0,923,15⟩:bc)):=by kernel_rfl
end
end
section
open PySem PySem.W
section
def k6(R:eC):eh:=absHeap (xT R (rT R)) 1072 {}
abbrev il(x:cJ)(av:gf):aT:=⟨k6 x.params,#[],{},1661,av⟩
theorem ajE(x:cJ)(av:gf):jU e7 cb x 11 du 2 (cv x.params (rT x.params) 1072 1661 av).abs ⟨doneF .next,cP,⟨906,0,923,15⟩,[fh ey]⟩=o (il x av):=by kernel_rfl
theorem ajQ(x:cJ):(fun av=>lA e7 cb x 11 du 1 272 (cv x.params (xC x.params) 15 187 av) (fZ (xl.take 2) fn cP ⟨0,0,0,0⟩ [fh ey]))=fun av=>o (fL,cv x.params (xD x.params) 43 227 av,cP,(⟨2,0,10,35⟩:bc)):=by rw[lu,kp];unfold fZ;rw[lx];exact akr x
theorem ajZ(x:cJ):(fun av=>lA e7 cb x 11 du 1 214 (cv x.params (xD x.params) 43 227 av) (fZ (xm.take 1) fn cP ⟨2,0,10,35⟩ [fh ey]))=fun av=>o (fL,cv x.params (xL x.params) 55 243 av,cP,(⟨11,0,12,8⟩:bc)):=by rw[lu,kp];unfold fZ;rw[lx];exact akA x
theorem aj0(x:cJ):(fun av=>lA e7 cb x 11 du 1 399 (cv x.params (xL x.params) 55 243 av) (fZ (xu.take 14) fn cP ⟨11,0,12,8⟩ [fh ey]))=fun av=>o (fL,cv x.params (xM x.params) 90 306 av,cP,(⟨31,0,31,4⟩:bc)):=by rw[lu,kp];unfold fZ;rw[lx];exact akB x
theorem aj1(x:cJ):(fun av=>lA e7 cb x 11 du 1 401 (cv x.params (xM x.params) 90 306 av) (fZ (xv.take 16) fn cP ⟨31,0,31,4⟩ [fh ey]))=fun av=>o (fL,cv x.params (xN x.params) 119 383 av,cP,(⟨47,0,58,77⟩:bc)):=by rw[lu,kp];unfold fZ;rw[lx];exact akC x
theorem aj2(x:cJ):(fun av=>lA e7 cb x 11 du 1 385 (cv x.params (xN x.params) 119 383 av) (fZ (xw.take 13) fn cP ⟨47,0,58,77⟩ [fh ey]))=fun av=>o (fL,cv x.params (xO x.params) 210 481 av,cP,(⟨110,0,111,29⟩:bc)):=by rw[lu,kp];unfold fZ;rw[lx];exact akD x
theorem aj3(x:cJ):(fun av=>lA e7 cb x 11 du 1 395 (cv x.params (xO x.params) 210 481 av) (fZ (xx.take 13) fn cP ⟨110,0,111,29⟩ [fh ey]))=fun av=>o (fL,cv x.params (xP x.params) 303 587 av,cP,(⟨168,0,169,53⟩:bc)):=by rw[lu,kp];unfold fZ;rw[lx];exact akE x
theorem aj4(x:cJ):(fun av=>lA e7 cb x 11 du 1 390 (cv x.params (xP x.params) 303 587 av) (fZ (xy.take 12) fn cP ⟨168,0,169,53⟩ [fh ey]))=fun av=>o (fL,cv x.params (xQ x.params) 393 706 av,cP,(⟨196,0,197,70⟩:bc)):=by rw[lu,kp];unfold fZ;rw[lx];exact akF x
theorem aj5(x:cJ):(fun av=>lA e7 cb x 11 du 1 396 (cv x.params (xQ x.params) 393 706 av) (fZ (xz.take 16) fn cP ⟨196,0,197,70⟩ [fh ey]))=fun av=>o (fL,cv x.params (xR x.params) 477 809 av,cP,(⟨235,0,236,53⟩:bc)):=by rw[lu,kp];unfold fZ;rw[lx];exact akG x
theorem aj6(x:cJ):(fun av=>lA e7 cb x 11 du 1 374 (cv x.params (xR x.params) 477 809 av) (fZ (xA.take 12) fn cP ⟨235,0,236,53⟩ [fh ey]))=fun av=>o (fL,cv x.params (xS x.params) 562 917 av,cP,(⟨297,0,299,118⟩:bc)):=by rw[lu,kp];unfold fZ;rw[lx];exact akH x
theorem ajR(x:cJ):(fun av=>lA e7 cb x 11 du 1 386 (cv x.params (xS x.params) 562 917 av) (fZ (xB.take 18) fn cP ⟨297,0,299,118⟩ [fh ey]))=fun av=>o (fL,cv x.params (xE x.params) 633 1025 av,cP,(⟨360,0,374,16⟩:bc)):=by rw[lu,kp];unfold fZ;rw[lx];exact aks x
theorem ajS(x:cJ):(fun av=>lA e7 cb x 11 du 1 32 (cv x.params (xE x.params) 633 1025 av) (fZ (xn.take 1) fn cP ⟨360,0,374,16⟩ [fh ey]))=fun av=>o (fL,cv x.params (xF x.params) 640 1034 av,cP,(⟨375,0,380,15⟩:bc)):=by rw[lu,kp];unfold fZ;rw[lx];exact akt x
theorem ajT(x:cJ):(fun av=>lA e7 cb x 11 du 1 552 (cv x.params (xF x.params) 640 1034 av) (fZ (xo.take 1) fn cP ⟨375,0,380,15⟩ [fh ey]))=fun av=>o (fL,cv x.params (xG x.params) 732 1151 av,cP,(⟨381,0,442,20⟩:bc)):=by rw[lu,kp];unfold fZ;rw[lx];exact aku x
theorem ajU(x:cJ):(fun av=>lA e7 cb x 11 du 1 384 (cv x.params (xG x.params) 732 1151 av) (fZ (xp.take 12) fn cP ⟨381,0,442,20⟩ [fh ey]))=fun av=>o (fL,cv x.params (xH x.params) 816 1270 av,cP,(⟨530,0,536,75⟩:bc)):=by rw[lu,kp];unfold fZ;rw[lx];exact akv x
theorem ajV(x:cJ):(fun av=>lA e7 cb x 11 du 1 377 (cv x.params (xH x.params) 816 1270 av) (fZ (xq.take 11) fn cP ⟨530,0,536,75⟩ [fh ey]))=fun av=>o (fL,cv x.params (xI x.params) 893 1404 av,cP,(⟨643,0,662,16⟩:bc)):=by rw[lu,kp];unfold fZ;rw[lx];exact akw x
theorem ajW(x:cJ):(fun av=>lA e7 cb x 11 du 1 393 (cv x.params (xI x.params) 893 1404 av) (fZ (xr.take 3) fn cP ⟨643,0,662,16⟩ [fh ey]))=fun av=>o (fL,cv x.params (xJ x.params) 949 1487 av,cP,(⟨697,0,708,65⟩:bc)):=by rw[lu,kp];unfold fZ;rw[lx];exact akx x
theorem ajX(x:cJ):(fun av=>lA e7 cb x 11 du 1 399 (cv x.params (xJ x.params) 949 1487 av) (fZ (xs.take 14) fn cP ⟨697,0,708,65⟩ [fh ey]))=fun av=>o (fL,cv x.params (xK x.params) 1032 1600 av,cP,(⟨840,0,841,37⟩:bc)):=by rw[lu,kp];unfold fZ;rw[lx];exact aky x
theorem ajY(x:cJ):(fun av=>lA e7 cb x 11 du 1 192 (cv x.params (xK x.params) 1032 1600 av) (fZ (xt.take 6) fn cP ⟨840,0,841,37⟩ [fh ey]))=fun av=>o (fL,cv x.params (rT x.params) 1072 1661 av,cP,(⟨906,0,923,15⟩:bc)):=by rw[lu,kp];unfold fZ;rw[lx];exact akz x
theorem k8(F:Nat)(p:List cX):p=p.take F++p.drop F:=(yI F p).symm
theorem akg(x:cJ)(av:gf):jU e7 cb x 11 du 2 (cv x.params (rT x.params) 1072 1661 av).abs (kS Rs fn cP ⟨906,0,923,15⟩ [fh ey])=o (il x av):=by
 have b:Rs=[]:=by kernel_rfl
 rw[b];exact piece_nil (ajE x av)
theorem akf(x:cJ)(av:gf):jU e7 cb x 11 du 194 (cv x.params (xK x.params) 1032 1600 av).abs (kS xt fn cP ⟨840,0,841,37⟩ [fh ey])=o (il x av):=by have b:=lB (congrFun (ajY x) av);rw[k8 6 xt];exact lz (n:=192) (N:=2) b (akg x av)
theorem ake(x:cJ)(av:gf):jU e7 cb x 11 du 593 (cv x.params (xJ x.params) 949 1487 av).abs (kS xs fn cP ⟨697,0,708,65⟩ [fh ey])=o (il x av):=by have b:=lB (congrFun (ajX x) av);rw[k8 14 xs];exact lz (n:=399) (N:=194) b (akf x av)
theorem akd(x:cJ)(av:gf):jU e7 cb x 11 du 986 (cv x.params (xI x.params) 893 1404 av).abs (kS xr fn cP ⟨643,0,662,16⟩ [fh ey])=o (il x av):=by have b:=lB (congrFun (ajW x) av);rw[k8 3 xr];exact lz (n:=393) (N:=593) b (ake x av)
theorem akc(x:cJ)(av:gf):jU e7 cb x 11 du 1363 (cv x.params (xH x.params) 816 1270 av).abs (kS xq fn cP ⟨530,0,536,75⟩ [fh ey])=o (il x av):=by have b:=lB (congrFun (ajV x) av);rw[k8 11 xq];exact lz (n:=377) (N:=986) b (akd x av)
theorem akb(x:cJ)(av:gf):jU e7 cb x 11 du 1747 (cv x.params (xG x.params) 732 1151 av).abs (kS xp fn cP ⟨381,0,442,20⟩ [fh ey])=o (il x av):=by have b:=lB (congrFun (ajU x) av);rw[k8 12 xp];exact lz (n:=384) (N:=1363) b (akc x av)
theorem aka(x:cJ)(av:gf):jU e7 cb x 11 du 2299 (cv x.params (xF x.params) 640 1034 av).abs (kS xo fn cP ⟨375,0,380,15⟩ [fh ey])=o (il x av):=by have b:=lB (congrFun (ajT x) av);rw[k8 1 xo];exact lz (n:=552) (N:=1747) b (akb x av)
theorem aj9(x:cJ)(av:gf):jU e7 cb x 11 du 2331 (cv x.params (xE x.params) 633 1025 av).abs (kS xn fn cP ⟨360,0,374,16⟩ [fh ey])=o (il x av):=by have b:=lB (congrFun (ajS x) av);rw[k8 1 xn];exact lz (n:=32) (N:=2299) b (aka x av)
theorem ako(x:cJ)(av:gf):jU e7 cb x 11 du 2717 (cv x.params (xS x.params) 562 917 av).abs (kS xB fn cP ⟨297,0,299,118⟩ [fh ey])=o (il x av):=by have b:=lB (congrFun (ajR x) av);rw[k8 18 xB];exact lz (n:=386) (N:=2331) b (aj9 x av)
theorem akn(x:cJ)(av:gf):jU e7 cb x 11 du 3091 (cv x.params (xR x.params) 477 809 av).abs (kS xA fn cP ⟨235,0,236,53⟩ [fh ey])=o (il x av):=by have b:=lB (congrFun (aj6 x) av);rw[k8 12 xA];exact lz (n:=374) (N:=2717) b (ako x av)
theorem akm(x:cJ)(av:gf):jU e7 cb x 11 du 3487 (cv x.params (xQ x.params) 393 706 av).abs (kS xz fn cP ⟨196,0,197,70⟩ [fh ey])=o (il x av):=by have b:=lB (congrFun (aj5 x) av);rw[k8 16 xz];exact lz (n:=396) (N:=3091) b (akn x av)
theorem akl(x:cJ)(av:gf):jU e7 cb x 11 du 3877 (cv x.params (xP x.params) 303 587 av).abs (kS xy fn cP ⟨168,0,169,53⟩ [fh ey])=o (il x av):=by have b:=lB (congrFun (aj4 x) av);rw[k8 12 xy];exact lz (n:=390) (N:=3487) b (akm x av)
theorem akk(x:cJ)(av:gf):jU e7 cb x 11 du 4272 (cv x.params (xO x.params) 210 481 av).abs (kS xx fn cP ⟨110,0,111,29⟩ [fh ey])=o (il x av):=by have b:=lB (congrFun (aj3 x) av);rw[k8 13 xx];exact lz (n:=395) (N:=3877) b (akl x av)
theorem akj(x:cJ)(av:gf):jU e7 cb x 11 du 4657 (cv x.params (xN x.params) 119 383 av).abs (kS xw fn cP ⟨47,0,58,77⟩ [fh ey])=o (il x av):=by have b:=lB (congrFun (aj2 x) av);rw[k8 13 xw];exact lz (n:=385) (N:=4272) b (akk x av)
theorem aki(x:cJ)(av:gf):jU e7 cb x 11 du 5058 (cv x.params (xM x.params) 90 306 av).abs (kS xv fn cP ⟨31,0,31,4⟩ [fh ey])=o (il x av):=by have b:=lB (congrFun (aj1 x) av);rw[k8 16 xv];exact lz (n:=401) (N:=4657) b (akj x av)
theorem akh(x:cJ)(av:gf):jU e7 cb x 11 du 5457 (cv x.params (xL x.params) 55 243 av).abs (kS xu fn cP ⟨11,0,12,8⟩ [fh ey])=o (il x av):=by have b:=lB (congrFun (aj0 x) av);rw[k8 14 xu];exact lz (n:=399) (N:=5058) b (aki x av)
theorem aj8(x:cJ)(av:gf):jU e7 cb x 11 du 5671 (cv x.params (xD x.params) 43 227 av).abs (kS xm fn cP ⟨2,0,10,35⟩ [fh ey])=o (il x av):=by have b:=lB (congrFun (ajZ x) av);rw[k8 1 xm];exact lz (n:=214) (N:=5457) b (akh x av)
theorem aj7(x:cJ)(av:gf):jU e7 cb x 11 du 5943 (cv x.params (xC x.params) 15 187 av).abs (kS xl fn cP ⟨0,0,0,0⟩ [fh ey])=o (il x av):=by have b:=lB (congrFun (ajQ x) av);rw[k8 2 xl];exact lz (n:=272) (N:=5671) b (aj8 x av)
theorem Rt(x:cJ)(av:gf):jU e7 cb x 11 du 5956 ⟨oR x.params,#[],boot_drawn,boot_toks,av⟩ (topStub cb)=o (il x av):=by exact go_top (n:=12) (N:=5944) (congrFun (alu x) av) (piece_block (n:=1) (N:=5943) (congrFun (akK x) av) (aj7 x av))
end
end
section
open PySem PySem.W
section
noncomputable def ajP:cX→List aq|.Assign (.Name d _::_) _ _=>[d]|.FunctionDef d ..=>[d]|.ClassDef d ..=>[d]|_=>[]
noncomputable def nz:m6:={cb with main:={cb.main with body:=cb.main.body.drop 164}}
noncomputable def rS:List aq:=(cb.main.body.take 164).flatMap ajP
theorem Rx:∀x:cJ,(fencedOpening e7 cb x 7000).map (fun y=>(y.heap,y.gens,y.drawn,y.toks))=o (oR x.params,Array.mk [],boot_drawn,boot_toks):=boot_open (p:=cb) (by kernel_rfl) (by kernel_rfl) (fun y=>by kernel_rfl)
theorem Rz:∀x:cJ,((oR x.params).isNs hW&&(#[]:Array GenState).size==0,(oR x.params).objs.size,(oR x.params).nsMap hW "__annotations__")=(I,11,du):=fun x=>by kernel_rfl
theorem aly(x:cJ)(av:gf):staticsOk (yV cb.main.body) (oR x.params) (k6 x.params)=I:=by kernel_rfl
theorem aln(x:cJ)(av:gf):laidKept (oR x.params) (k6 x.params)=I:=by kernel_rfl
theorem alj(x:cJ)(av:gf):gensDone (il x av)=I:=by kernel_rfl
theorem als(x:cJ):namesBound cb (k6 x.params)=I:=by unfold namesBound;rw[Fast.sDec_eq,Fast.te18344453789297297638];kernel_rfl
end
end
section
open PySem PySem.W
section
theorem alw(x:cJ)(av:gf):Fast.tw4187177175401517315 nz rS (yV cb.main.body) (fun _=>I) I (il x av)=openGood nz rS:=by kernel_rfl
theorem Ry(x:cJ)(av:gf):openSeen nz rS (yV cb.main.body) (fun _=>I) I (il x av)=openGood nz rS:=by rw[Fast.te4187177175401517315];exact alw x av
theorem ajM{bS:Type}{cS:eh}{aS:gf→Bool}{hX:gf→bS}{e:bS}(H:∀av,aS av=I)(L:∀av,hX av=e):(fun av=>(aS av,hX av,cS))=fun _=>(I,e,cS):=by funext av;rw[H,L]
theorem Rw(x:cJ)(av:gf):(staticsOk (yV cb.main.body) (oR x.params) (k6 x.params)&&namesBound cb (k6 x.params)&&gensDone (il x av)&&laidKept (oR x.params) (k6 x.params))=I:=by rw[aly x av,als x,alj x av,aln x av];rfl
theorem auN:LeftO cb nz rS (fun _=>I) (fun y=>y.heap) (fun x=>k6 x.params) 7000:=LeftO.of_pieces (H₀:=oR) (H₁:=k6) (gs₀:= #[]) (gs₁:= #[]) (d₀:=boot_drawn) (d₁:={}) (k₀:=boot_toks) (k₁:=1661) (m₀:=11) (ann:=du) (M:=5956) Rx Rz Rt (by decide) (fun x=>ajM (Rw x) (Ry x))
end
end
section
open PySem PySem.W
section
abbrev dX:OpenLaw:=L'
theorem E7(rl:Look)(e:List cX):∀g:List cX,m7 rl (g++e)=(m7 rl g&&m7 rl e)|[]=>by rw[List.nil_append];show _=(I&&_);rw[Bool.true_and]|y::g=>by show(noRoadLS rl y&&m7 rl (g++e))=((noRoadLS rl y&&m7 rl g)&&m7 rl e);rw[E7 rl e g,Bool.and_assoc]
noncomputable abbrev xj:Look:={strict:=C,foot:=U,bare:=[]}
theorem ak6:sreFenced cb.main=I:=by kernel_rfl
theorem ak7:((moduleNames cb.main.body).isEmpty||lookedIntoSs (moduleNames cb.main.body) cb.main.body)=I:=by kernel_rfl
theorem ak8:namesResolve cb=I:=by rw[Fast.te8377067652309620493];kernel_rfl
theorem ak9:cb.boundNames.all (fun r=>!worldNames.contains r)=I:=by kernel_rfl
theorem alb:({strict:=!(yV cb.main.body).all cThrough.contains,foot:=U,bare:=(["vars","dir","locals"]:List aq).filter (readsOut cb cb.main.body)}:Look)=xj:=by kernel_rfl
theorem alc:m7 xj (cb.main.body.take 40)=I:=by rw[Cw];kernel_rfl
theorem ald:m7 xj ((cb.main.body.drop 40).take 45)=I:=by rw[Cw];kernel_rfl
theorem ale:m7 xj (((cb.main.body.drop 40).drop 45).take 35)=I:=by rw[Cw];kernel_rfl
theorem alf:m7 xj (((cb.main.body.drop 40).drop 45).drop 35)=I:=by rw[Cw];kernel_rfl
theorem ala:m7 xj cb.main.body=I:=by rw[←yI 40 cb.main.body,E7,alc,←yI 45 (cb.main.body.drop 40),E7,ald,←yI 35 ((cb.main.body.drop 40).drop 45),E7,ale,alf];rfl
theorem alg:tN cb cb.main.body (fun _ r=>attrL r)=I:=by rw[Fast.te17119622794617984870,Fast.te17868728402115742887];kernel_rfl
theorem amW{k:m6}(H:sreFenced k.main=I)(L:((moduleNames k.main.body).isEmpty||lookedIntoSs (moduleNames k.main.body) k.main.body)=I)(aR:namesResolve k=I)(bh:k.boundNames.all (fun r=>!worldNames.contains r)=I)(cT:m7 {strict:=!(yV k.main.body).all cThrough.contains,foot:=U,bare:=(["vars","dir","locals"]:List aq).filter (readsOut k k.main.body)} k.main.body=I)(dB:tN k k.main.body (fun _ r=>attrL r)=I):looksOpen k=I:=by unfold looksOpen;rw[H,L,aR,bh,cT,dB];rfl
theorem alp:looksOpen cb=I:=amW ak6 ak7 ak8 ak9 (by rw[alb];exact ala) alg
theorem aoK{t:OpenRow}(c:looksOpen t.prog=I)(L:(t.loose.isEmpty&&t.makers.isEmpty&&(t.records.isEmpty||t.raises.all fun CE=>CE.1 !=.builtin "AttributeError"&&CE.1 !=.builtin "TypeError")&&(t.raises.all fun CE=>match CE.1 with|.builtin r=>!t.prog.boundNames.contains (se r)&&!ofTheWorld.contains r|.own _=>I)&&a6 (t.records.map (·.1)).Nodup&&(t.records.all fun d=>!d.1.opensWith "__"&&!Cx d.1&&t.prog.boundNames.contains d.1&&d.2.all fun w=>!w.1.opensWith "__")&&t.toRowW.solid&&t.pre.litsOk&&t.post.litsOk&&t.raises.all (·.2.litsOk)&&t.mutates.all (fun i=>match t.args[i]?with|some dT=>!dT.arms.any WShape.isObj|none=>C)&&t.within.all (fun i=>a6 (i<t.args.length))&&t.same.all (fun i=>a6 (i<t.args.length)))=I):t.partSaid=I:=by unfold OpenRow.partSaid;simp only[vJ,and_assoc]at L⊢;exact⟨c,L⟩
theorem alt:dX.row.partSaid=I:=aoK alp (by kernel_rfl)
theorem akM:dX.row.prog.boundNames.contains dX.row.name=I:=by kernel_rfl
theorem alx:(!startupNames.contains dX.row.name)=I:=by kernel_rfl
theorem akN:dX.row.wellSaid=I:=by unfold OpenRow.wellSaid;rw[alt,akM,alx];rfl
theorem akY:a6 (dX.foot≤(behindTheImports dX.prog).length)=I:=by kernel_rfl
theorem akZ:dX.footing.all footLine=I:=by kernel_rfl
theorem ak0:noClassBlock dX.prog dX.footing=I:=by kernel_rfl
theorem ak1:dX.most.all (fun r=>a6 (63≤r))=I:=by kernel_rfl
theorem ak2:dX.bound.all (fun r=>a6 (2^63≤r))=I:=by kernel_rfl
theorem ak3:m7 {strict:=I,foot:=o dX.bound',writes:=dX.writes,may:=dX.may} dX.footing=I:=by rw[Cw];kernel_rfl
theorem ak4:defStands dX.about dX.above=I:=by kernel_rfl
theorem ak5:dX.namesIt=I:=by kernel_rfl
theorem akO:(["type","isinstance","issubclass","getattr","hasattr"]:List aq).all (fun r=>dX.about !=[r])=I:=by kernel_rfl
theorem akP:dX.bound'.all (fun r=>!Cx r||dX.about==[r]||!dX.reads r)=I:=by rw[Fast.named_eq];kernel_rfl
theorem akQ:(!dX.writes||(dX.prog.main.body.flatMap importedNames).all fun r=>!dX.reads r)=I:=by kernel_rfl
theorem akR:((dX.prog.main.body.flatMap importedNames).all (fun r=>!dX.reads r||(drawsOf r dX.prog.main.body).all fun zM=>zM.2 !=("attrgetter":aq)&&zM.2 !=("methodcaller":aq)))=I:=by kernel_rfl
theorem akS:tN dX.prog dX.footing (fun bN r=>(!(["type","isinstance","issubclass","getattr","hasattr"]:List aq).contains r||bN.names.lookup r==o .globalImplicit)&&(dX.may !=o r||bN.kind==.module||bN.names.lookup r==o .globalImplicit))=I:=by kernel_rfl
theorem akT:dX.own.contains dX.name=I:=by kernel_rfl
theorem akU:(dX.own.eraseDups.length==dX.own.length)=I:=by kernel_rfl
theorem akV:dX.own.all (fun r=>!Cx r)=I:=by kernel_rfl
theorem akW:tN dX.prog dX.above (fun _ r=>!dX.own.contains r)=I:=by rw[Fast.te17119622794617984870,Fast.sDec_eq];kernel_rfl
theorem akX:tN dX.prog dX.footing (fun bN r=>bN.kind==.module||bN.names.lookup r !=o .globalExplicit)=I:=by kernel_rfl
theorem asu{p:OpenLaw}(H:p.row.wellSaid=I)(L:a6 (p.foot≤(behindTheImports p.prog).length)=I)(aR:p.footing.all footLine=I)(bh:noClassBlock p.prog p.footing=I)(cT:p.most.all (fun r=>a6 (63≤r))=I)(dB:p.bound.all (fun r=>a6 (2^63≤r))=I)(d2:m7 {strict:=I,foot:=o p.bound',writes:=p.writes,may:=p.may} p.footing=I)(et:defStands p.about p.above=I)(hH:p.namesIt=I)(gh:(["type","isinstance","issubclass","getattr","hasattr"]:List aq).all (fun r=>p.about !=[r])=I)(jm:p.bound'.all (fun r=>!Cx r||p.about==[r]||!p.reads r)=I)(h_:(!p.writes||(p.prog.main.body.flatMap importedNames).all fun r=>!p.reads r)=I)(h':((p.prog.main.body.flatMap importedNames).all (fun r=>!p.reads r||(drawsOf r p.prog.main.body).all fun zM=>zM.2 !=("attrgetter":aq)&&zM.2 !=("methodcaller":aq)))=I)(lZ:tN p.prog p.footing (fun bN r=>(!(["type","isinstance","issubclass","getattr","hasattr"]:List aq).contains r||bN.names.lookup r==o .globalImplicit)&&(p.may !=o r||bN.kind==.module||bN.names.lookup r==o .globalImplicit))=I)(MT:p.own.contains p.name=I)(Wn:(p.own.eraseDups.length==p.own.length)=I)(Wo:p.own.all (fun r=>!Cx r)=I)(re:tN p.prog p.above (fun _ r=>!p.own.contains r)=I)(o1:tN p.prog p.footing (fun bN r=>bN.kind==.module||bN.names.lookup r !=o .globalExplicit)=I):p.wellSaid=I:=by unfold OpenLaw.wellSaid;rw[H,L,aR,bh,cT,dB,d2,et,hH,gh,jm,h_,h',lZ,MT,Wn,Wo,re,o1];rfl
theorem alB:dX.wellSaid=I:=asu akN akY akZ ak0 ak1 ak2 ak3 ak4 ak5 akO akP akQ akR akS akT akU akV akW akX
end
end
section
open PySem PySem.W
section
abbrev uX:RowW:=dX.row.toRowW
theorem Rv:(defOf nz dX.row.name).isSome=I:=by kernel_rfl
noncomputable def lL:DefRec×List (aq×a0):=(defOf nz dX.row.name).get Rv
theorem alh:defOf nz dX.row.name=o (lL.1,lL.2):=by unfold lL;exact(Option.some_get Rv).symm
theorem alz:dX.row.prog.theDef dX.row.name=o (lL.1.params,lL.1.body,lL.1.scope):=by rw[Fast.te10235530238920679567];kernel_rfl
theorem alm:kwWritten? lL.1.params.kwonlyargs lL.1.params.kw_defaults=o lL.2:=by kernel_rfl
theorem alq:(chainsOk nz&&opensWell dX.row.prog&&(frees uX&&uX.within.isEmpty))=I:=by kernel_rfl
theorem alA:TablesWhole.wSs TablesWhole.gather cb.main.scope ⟨cb.main.scope,[],[],[],U⟩ cb.main.scope cb.main.body=[]:=by unfold TablesWhole.gather;rw[Fast.te16421684217811934046];kernel_rfl
theorem alr:Md Mc cb.main=I:=by unfold Md;rw[alA];unfold Mc;rw[Fast.te16421684217811934046,Fast.te15985051520779696433,Fast.te8331962902438777018];kernel_rfl
theorem ark{k:m6}(c:Md Mc k.main=I)(H:k.modules=[])(L:k.parses=[])(aR:k.harvested=[]):k.tablesWhole=I:=by unfold Program.tablesWhole TablesWhole.wProgram;rw[c,H,L,aR];rfl
theorem akJ:dX.row.prog.bare:=⟨rfl,rfl,rfl,rfl,rfl,ark alr rfl rfl rfl⟩
theorem alv:uX.promised:=by w_witness2
end
end
section
open PySem PySem.W
section
noncomputable abbrev Ep(y:aT):eh×Nat:=(y.heap,y.toks)
noncomputable abbrev AV(x:cJ):eh×Nat:=(k6 x.params,1661)
theorem ajN{bS CA:Type}{cS:CA}{aS:gf→Bool}{hX:gf→bS}{e:bS}(H:∀av,aS av=I)(L:∀av,hX av=e):(fun av=>(aS av,hX av,cS))=fun _=>(I,e,cS):=by funext av;rw[H,L]
theorem alo:LeftO cb nz rS (fun _=>I) Ep AV 7000:=LeftO.of_pieces (H₀:=oR) (H₁:=k6) (gs₀:= #[]) (gs₁:= #[]) (d₀:=boot_drawn) (d₁:={}) (k₀:=boot_toks) (k₁:=1661) (m₀:=11) (ann:=du) (M:=5956) Rx Rz Rt (by decide) (fun x=>ajN (cS:=AV x) (Rw x) (Ry x))
theorem alk(G0:WalkX nz rS (fun _ _=>True) Ep AV uX lL.1 lL.2 fun w N=>eT w N):dX.Holds:=holds_law alB fun YR=>holds_openX (r:=dX.row) (q:=nz) (loose:=rS) (Xt:=fun _=>I) (XP:=fun _ _=>True) (Yf:=Ep) (Ya:=AV) (d:=lL.1) (kwd:=lL.2) (N:=7000) alo (fun _ _=>trivial) (fun _ _ _ _ _=>trivial) alh alz alm (fun y _=>recFacts_nil rfl) rfl YR alq akJ alv G0
end
end
section
open PySem PySem.W
noncomputable def jK(d:aq)(p:List aq):Option Nat:=p.findIdx? fun G=>d==G
def DP(d:aq):Option bF:=bF.Do.find? fun g=>g.ru==d.cps.toList
noncomputable def xZ(b:a0):Bool:=match b with|.Call w aM eW _=>(match w with|.Name _ _=>aM.isEmpty&&eW.isEmpty|_=>C)|_=>C
noncomputable def ov(b:a0):Bool:=match b with|.Set ..=>I|_=>C
noncomputable def Ka(b:a0):Bool:=match b with|.Slice ..=>I|_=>C
set_option backward.match.sparseCases true in noncomputable def fw(b:a0):Bool:=match b with|.Starred ..=>I|_=>C
noncomputable def J_(b:a0):Bool:=match b with|.Attribute ..=>I|_=>C
noncomputable def RW(b:a0):Bool:=match b with|.Tuple ..=>I|_=>C
noncomputable def auP(b:a0):Bool:=match b with|.List ..=>I|_=>C
noncomputable def u3(b:a0):Bool:=match b with|.ListComp ..=>I|.SetComp ..=>I|.DictComp ..=>I|_=>C
noncomputable def hi(d:aq):Bool:=d.cps.toList==[95,95,100,101,98,117,103,95,95]
noncomputable def EA(d:aq):Bool:=d.cps.toList==[95,95,99,108,97,115,115,100,105,99,116,95,95]
noncomputable def P3(q:Const):Option M:=match q with|.none=>o .e|.bool e=>o (.g e)|.int i=>o (.b i)|.str y=>o (.c y.cps.toList)|_=>U
abbrev gw:=List (aq×lp)
noncomputable def pr(bN:gw):List aq:=bN.filterMap fun d=>if d.2==.local then o d.1 else U
noncomputable def hy(bN:gw):List aq:=bN.filterMap fun d=>if d.2==.free then o d.1 else U
noncomputable def lI(bN:gw):List aq:=bN.filterMap fun d=>if d.2==.cell then o d.1 else U
noncomputable def f_:List aD:=[39,52,64,74,82,89,114,125,132,139,146,153,160,167,174,181,188,195,202,209,216,223,230,237,244,251,258,265,272,279,286,294,302,310,318,326,333,341,348,355,363,371,378,385,392,399,406,413,420,427,434,441,448,455,462,469,476,483,490,498,505,512,519,526,533,540,547,554,561,568,575,582,589,597,604,611,618,625,632,639,727,738,745,752,759,766,773,780,787,794,801,808,815,822,829,836,843,850,857,864,871,878,885,892,899,937,948,955,962,967,974,979,986,991,998,1005,1012,1019,1024,1031,1038,1043,1050,1057,1064,1071,104,111,653,661,668,675,682,689,696,703,710,717,724,913,920,927,934,29,36]
noncomputable def RI(g:aD)(p:List aD):Option Nat:=p.findIdx? fun e=>bR g e
noncomputable def LG(r:String):Option i9:=if r=="str"then o .f5 else if r=="int"then o .rx else if r=="list"then o .us else if r=="range"then o .qm else U
noncomputable def IW(r:String):Option i9:=if r=="len"then o .hL else if r=="abs"then o .ur else if r=="max"then o .wH else if r=="sum"then o .ut else if r=="isinstance"then o .wG else U
noncomputable def qU(l:aa):Option M:=match l with|.none=>o .e|.bool e=>o (.g e)|.int i _=>o (.b i)|.str y _=>o (.c y.cps.toList)|.ref g=>(RI g f_).map .d|.type r=>(LG r).map .i|.builtin r=>(IW r).map .i|_=>U
noncomputable def pn(ao:di)(d:aq):Option aa:=match nsIn ao hW d with|some n=>(match n with|some l=>o l|none=>(nsIn ao m8 d).bind id)|none=>U
noncomputable def xY(l:aa):Bool:=match l with|.type r=>r=="enumerate"|_=>C
noncomputable def JI(n:cm):Option ep:=match n.data with|.func ai=>(match n.cls with|.type r=>if r=="function"then o ai else U|_=>U)|_=>U
noncomputable def qz(ao:di)(g:aD):Option ep:=(ao.lookup g).bind JI
end
section
open PySem PySem.W PyProof.Rows
abbrev hM:=aD→Prop
def b8(d:bF):aq:=⟨d.ru.toArray⟩
noncomputable def bx(y:List Nat):aq:=⟨y.toArray⟩
structure cV where
 d:m6
 e:cJ
 b:di
 j:gw→a0→aZ→Prop
 p:∃g n,b.lookup g=o n∧64≤g
 f:aD
 k:aq
 q:∀c:eh,b.In c→∃k1,c.Ns hW k1∧c.BuiltinsAt k1 f
 l:∀c:eh,b.In c→c.NoLimit
 m:aT
noncomputable abbrev cV.i(E:cV):Model:=c6 E.d E.e
def s0(ao:di)(X:aD)(d:bF):Bool:=match hV ao (.ref X) (b8 d)with|some n=>(match n with|some g=>(specialIn ao g "__get__").isSome&&takesIn ao g==o C|none=>I)|none=>C
def KD(ao:di)(q:Nat)(X:aD)(d:bF):Bool:=match dm q d with|none=>I|some w=>(match f_[w]?with|some g=>hV ao (.ref X) (b8 d)==o (o (.ref g))&&typeIn ao (.ref g)==o (.type "function")|none=>C)
def rJ(ao:di)(q:Nat)(X:aD):Bool:=hV ao (.ref X) "__getattribute__"==o (o (.builtin "object.__getattribute__"))&&(hV ao (.ref X) "__getattr__"==o U&&(hV ao (.ref X) "__setattr__"==o (o (.builtin "object.__setattr__"))&&(plainOver ao X&&(hasDictIn ao X&&(mroIn ao X (.type "list")==o C&&(mroIn ao X (.type "object")==o I&&(hV ao (.ref X) "__class__"==o (o (.builtin "object.__class__"))&&(specialIn ao (.builtin "object.__class__") "__get__"==o (o (.builtin "getset_descriptor.__get__"))&&(takesIn ao (.builtin "object.__class__")==o I&&bF.Do.all (fun d=>s0 ao X d&&KD ao q X d))))))))))
abbrev eN:=aD→Option cm
def eN.b(bj np:eN):Prop:=∀g n,bj g=o n→np g=o n
def ZA(n:cm)(N:List aa):Prop:=∃r,n={cls:=.type "list",data:=.seq N.toArray r}
def IF(n:cm)(N:List aa):Prop:=n.cls=.type "tuple"∧∃r,n.data=.seq N.toArray r
inductive ca(E:cV)(bj:eN):M→aa→Prop|qr:ca E bj .e .none|rC(e:Bool):ca E bj (.g e) (.bool e)|ns(i:Int)(s:Tok):ca E bj (.b i) (.int i s)|og(y:List Nat)(s:Tok):ca E bj (.c y) (.str (bx y) s)|wT(e:i9):ca E bj (.i e) e.sH|Dx{i:Nat}{g:aD}(b:f_[i]?=o g):ca E bj (.d i) (.ref g)|wU{p:List M}{g:aD}(N:List aa)(n:cm)(aj:bj g=o n)(bu:IF n N)(aw:N.length=p.length)(a4:∀(i:Nat)(k:M)(l:aa),p[i]?=o k→N[i]?=o l→ca E bj k l):ca E bj (.j p) (.ref g)|rD{p:List M}{g:aD}(N:List aa)(n:cm)(aj:bj g=o n)(bu:ZA n N)(aw:N.length=p.length)(a4:∀(i:Nat)(k:M)(l:aa),p[i]?=o k→N[i]?=o l→ca E bj k l):ca E bj (.f p) (.ref g)|Ag{F:List (List Nat×M)}{g:aD}(b1:List (aq×aa))(n:cm)(aj:bj g=o n)(a8:(g==sysModules)=C)(bu:∀c:eh,c.get? g=o n→c.DictOf (m_ E.d E.e) g b1)(aw:b1.length=F.length)(ar:∀(i:Nat)(b:aq×aa)(u:List Nat×M),b1[i]?=o b→F[i]?=o u→b.1=bx u.1)(a4:∀(i:Nat)(b:aq×aa)(u:List Nat×M),b1[i]?=o b→F[i]?=o u→ca E bj u.2 b.2):ca E bj (.l F) (.ref g)|Dw{q:Nat}{p:List (bF×M)}{g:aD}(X cr:aD)(az:List h8)(r:Nat)(bf:f_[q]?=o X)(gD:rJ E.b q X=I)(aj:bj g=o (i1 X cr))(aI:bj cr=o (fY az r))(ah:∀d,fH d p=U→gg (b8 d) az=o U)(aW:∀d k,fH d p=o k→∃l,gg (b8 d) az=o (o l))(a4:∀d k l,fH d p=o k→gg (b8 d) az=o (o l)→ca E bj k l):ca E bj (.k q p) (.ref g)|Ah{g e q:Int}{d:aD}(n:cm)(s ad l:Tok)(aj:bj d=o n)(bu:∀c:eh,c.get? d=o n→IsRange c d g e q s ad l):ca E bj (.m g e q) (.ref d)
theorem ca.mG{E:cV}{bj np:eN}{k:M}{l:aa}(t:ca E bj k l)(v:eN.b bj np):ca E np k l:=by induction t with|qr=>exact .qr|rC e=>exact .rC e|ns i s=>exact .ns i s|og y s=>exact .og y s|wT e=>exact .wT e|Dx b=>exact .Dx b|wU N n aj bu aw _ ak=>exact .wU N n (v _ _ aj) bu aw ak|rD N n aj bu aw _ ak=>exact .rD N n (v _ _ aj) bu aw ak|Ag b1 n aj a8 bu aw ar _ ak=>exact .Ag b1 n (v _ _ aj) a8 bu aw ar ak|Dw X cr az r bf gD aj aI ah aW _ ak=>exact .Dw X cr az r bf gD (v _ _ aj) (v _ _ aI) ah aW ak|Ah n s ad l aj bu=>exact .Ah n s ad l (v _ _ aj) bu
abbrev od:=List (aD×aD)
structure ay where
 d:eN
 i:eN
 f:od
 b:aT
structure ay.Up(m ae:ay):Prop where
 f:eN.b m.d ae.d
 j:∃ek,ae.f=m.f++ek
structure ay.c(m ae:ay):Prop extends ay.Up m ae where
 v:ae.i=m.i
theorem ay.c.p(m:ay):m.c m:=⟨⟨fun _ _ c=>c,[],(hE _).symm⟩,rfl⟩
theorem ay.Up.l{m ae gH:ay}(g:m.Up ae)(e:ae.Up gH):m.Up gH:=⟨fun d n c=>e.f d n (g.f d n c),by obtain⟨ek,c⟩:=g.j;obtain⟨OD,bl⟩:=e.j;exact⟨ek++OD,by rw[bl,c,kQ]⟩⟩
theorem ay.c.k{m ae gH:ay}(g:m.c ae)(e:ae.c gH):m.c gH:=⟨g.toUp.l e.toUp,e.v.trans g.v⟩
theorem ay.Up.i{m ae:ay}(O:m.Up ae){v:Nat}{k:aD×aD}(c:m.f[v]?=o k):ae.f[v]?=o k:=by obtain⟨ek,b⟩:=O.j;rw[b,Ca (eg.mp c).1];exact c
inductive uv(E:cV)(m:ay)(b:aZ)(eK:List Nat)(g:aD):Prop|auH(ai:ep)(n:cm)(bY:a0)(H:m.d g=o n)(L:n.cls=.type "function")(aR:n.data=.func ai)(bh:ai.body=.expr bY)(dB:E.j ai.scope.names bY b)(d2:ai.scope.kind=.function)(et:ai.scope.isGenerator=C)(hH:ai.scope.isCoroutine=C)(gh:ai.globals=hW)(jm:ai.builtins=m8)(h_:∀d∈ai.scope.names,d.2≠.cell)(h':ai.params=⟨[],[],U,[],[],U,[]⟩)(re:ai.defaults=.none)(o1:(hy ai.scope.names).length=eK.length)(sm:∀(i:Nat)(d:aq)(Q:Nat),(hy ai.scope.names)[i]?=o d→eK[i]?=o Q→∃k,m.f[Q]?=o k∧ai.closure.lookup d=o k.1)(q:aD)(gv:cm)(N:Array aa)(s:Tok)(v':ai.code=.ref q)(wa:m.d q=o gv)(zn:gv.cls=.type "code")(wb:gv.data=.fields N)(wc:N[1]?=o (.str ai.qualname s)):uv E m b eK g
def b7(E:cV)(m:ay)(d:K)(l:aa):Prop:=match d with|.b k=>ca E m.d k l|.c v=>∃k,m.f[v]?=o k∧l=.ref k.1|.d b eK=>∃g,l=.ref g∧uv E m b eK g
theorem uv.OP{E:cV}{m ae:ay}{b:aZ}{eK:List Nat}{g:aD}(t:uv E m b eK g)(O:m.Up ae):uv E ae b eK g:=by obtain⟨ai,n,bY,H,L,aR,bh,dB,d2,et,hH,gh,jm,h_,h',re,o1,sm,q,gv,N,s,v',wa,zn,wb,wc⟩:=t;exact⟨ai,n,bY,O.f _ _ H,L,aR,bh,dB,d2,et,hH,gh,jm,h_,h',re,o1,fun i d Q c_ e3=>by obtain⟨k,cx,cU⟩:=sm i d Q c_ e3;exact⟨k,O.i cx,cU⟩,q,gv,N,s,v',O.f _ _ wa,zn,wb,wc⟩
theorem b7.c{E:cV}{m ae:ay}{d:K}{l:aa}(t:b7 E m d l)(O:m.Up ae):b7 E ae d l:=by induction d using K.casesOn with|b k=>exact ca.mG t O.f|c v=>obtain⟨k,H,L⟩:=t;exact⟨k,O.i H,L⟩|d v eK=>obtain⟨g,H,L⟩:=t;exact⟨g,H,L.OP O⟩
theorem b7.b{E:cV}{m ae:ay}{d:K}{l:aa}(t:b7 E m d l)(O:m.c ae):b7 E ae d l:=t.c O.toUp
def dV(E:cV)(bj:eN)(p:List M)(N:List aa):Prop:=N.length=p.length∧∀(i:Nat)(k:M)(l:aa),p[i]?=o k→N[i]?=o l→ca E bj k l
theorem dV.b{E:cV}{bj np:eN}{p:List M}{N:List aa}(t:dV E bj p N)(v:eN.b bj np):dV E np p N:=⟨t.1,fun i k l g e=>(t.2 i k l g e).mG v⟩
def fr(E:cV)(bj:eN)(F:List (List Nat×M))(b1:List (aq×aa)):Prop:=b1.length=F.length∧(∀(i:Nat)(b:aq×aa)(u:List Nat×M),b1[i]?=o b→F[i]?=o u→b.1=bx u.1)∧∀(i:Nat)(b:aq×aa)(u:List Nat×M),b1[i]?=o b→F[i]?=o u→ca E bj u.2 b.2
theorem fr.c{E:cV}{bj np:eN}{F:List (List Nat×M)}{b1:List (aq×aa)}(t:fr E bj F b1)(v:eN.b bj np):fr E np F b1:=⟨t.1,t.2.1,fun i b u g e=>(t.2.2 i b u g e).mG v⟩
def It(E:cV)(m:ay)(p:List (bF×K))(az:List h8):Prop:=(∀d,fH d p=U→gg (b8 d) az=o U)∧(∀d G,fH d p=o G→∃l,gg (b8 d) az=o (o l)∧b7 E m G l)∧az.length≤p.length
def em(E:cV)(m:ay)(ag:List K)(N:List aa):Prop:=N.length=ag.length∧∀(i:Nat)(d:K)(l:aa),ag[i]?=o d→N[i]?=o l→b7 E m d l
theorem em.c{E:cV}{m ae:ay}{ag:List K}{N:List aa}(t:em E m ag N)(O:m.c ae):em E ae ag N:=⟨t.1,fun i d l g e=>(t.2 i d l g e).b O⟩
def z9(bj:eN)(g_:aa)(u:aq):Prop:=∃(q:aD)(gv:cm)(N:Array aa)(s:Tok),g_=.ref q∧bj q=o gv∧gv.cls=.type "code"∧gv.data=.fields N∧N[1]?=o (.str u s)
inductive iN(E:cV)(m:ay)(k:aD×aD):eJ→Prop|mF{p:List M}(aU:k.2=k.1)(N:List aa)(aj:m.b.heap.PlainList k.1 N.toArray)(t:dV E m.d p N):iN E m k (.b p)|oe{F:List (List Nat×M)}(aU:k.2=k.1)(a8:(k.1==sysModules)=C)(b1:List (aq×aa))(aj:m.b.heap.DictOf (m_ E.d E.e) k.1 b1)(t:fr E m.d F b1):iN E m k (.f F)|pc{q:Nat}{p:List (bF×K)}(aU:k.2≠k.1)(X:aD)(az:List h8)(r:Nat)(bf:f_[q]?=o X)(gD:rJ E.b q X=I)(aj:m.b.heap.get? k.1=o (i1 X k.2))(aI:m.b.heap.get? k.2=o (fY az r))(t:It E m p az):iN E m k (.e q p)|wR(aU:k.2=k.1)(n:cm)(aj:m.b.heap.get? k.1=o n)(aI:n.data=.cell U):iN E m k (.d U)|sL{G:K}(aU:k.2=k.1)(n:cm)(ad:aa)(aj:m.b.heap.get? k.1=o n)(aI:n.data=.cell (o ad))(t:b7 E m G ad):iN E m k (.d (o G))|sM(aU:k=(E.f,E.f))(T:Array aa)(aj:m.b.heap.get? E.f=o (oS T))(bu:tK T.toList)(bf:∀ap g_,q6 ap T.toList=o g_→z9 m.d g_ E.k):iN E m k .c
theorem z9.b{bj np:eN}{g_:aa}{u:aq}(d:z9 bj g_ u)(v:eN.b bj np):z9 np g_ u:=by obtain⟨q,gv,N,s,b,H,c⟩:=d;exact⟨q,gv,N,s,b,v _ _ H,c⟩
theorem iN.pd{E:cV}{m ae:ay}{k:aD×aD}{n:eJ}(t:iN E m k n)(O:m.Up ae)(H:∀n,m.b.heap.get? k.1=o n→ae.b.heap.get? k.1=o n)(L:∀n,m.b.heap.get? k.2=o n→ae.b.heap.get? k.2=o n):iN E ae k n:=by induction t with|mF aU N aj t=>exact .mF aU N (by obtain⟨r,c⟩:=aj;exact⟨r,H _ c⟩) (t.b O.f)|oe aU a8 b1 aj t=>exact .oe aU a8 b1 (by obtain⟨n,az,dn,c,u⟩:=aj;exact⟨n,az,dn,H _ c,u⟩) (t.c O.f)|pc aU X az r bf gD aj aI t=>exact .pc aU X az r bf gD (H _ aj) (L _ aI) ⟨t.1,fun d G c=>by obtain⟨l,g,e⟩:=t.2.1 d G c;exact⟨l,g,e.c O⟩,t.2.2⟩|wR aU n aj aI=>exact .wR aU n (H _ aj) aI|sL aU n ad aj aI t=>exact .sL aU n ad (H _ aj) aI (t.c O)|sM aU T aj bu bf=>subst aU;exact .sM rfl T (H _ aj) bu fun ap g_ u=>(bf ap g_ u).b O.f
structure b5 where
 b:cV
 i:g6
 c:dQ
 m:aD
 k:List aD
 t:List aq
 x:List aq
 p:List Nat
 l:ea
def iP(f4:od)(e:aD):Prop:=∃k∈f4,e=k.1∨e=k.2
structure ci(j:b5)(m:ay)(g:aD):Prop where
 d:m.d g=U
 i:m.i g=U
 p:g≠j.m
 l:¬iP m.f g
 r:g∉j.k
def sP(dg:List aD)(g:aD)(n cf:cm):Prop:=cf=n∨(g∈dg∧∃b',cf={n with slots:=b'})
structure aP(j:b5)(A:List (Option K))(f:af)(m:ay):Prop where
 ao:∀g n,j.b.b.lookup g=o n→m.d g=o n
 p:∀g n,m.d g=o n→m.b.heap.get? g=o n
 Z:∀g n,m.i g=o n→∃cf,m.b.heap.get? g=o cf∧sP j.k g n cf
 ai:∀g n,m.i g=o n→m.d g=U
 x:m.d j.m=U∧m.i j.m=U∧¬iP m.f j.m
 y:∀(v:Nat)(k:aD×aD),m.f[v]?=o k→(m.d k.1=U∧m.d k.2=U)∧m.i k.1=U∧m.i k.2=U
 G:∀g∈j.k,m.d g=U∧¬iP m.f g∧∃n,m.b.heap.get? g=o n∧∀N,n.data≠.fields N
 P:∃z,m.b.heap.Ns j.m z∧A.length=j.t.length∧∀(i:Nat)(d:aq),j.t[i]?=o d→(∀l,A[i]?=o (o l)→∃ad,z d=o ad∧b7 j.b m l ad)∧(A[i]?=o U→z d=U)
 E:m.f.length=f.length
 ag:∀(i Q:Nat)(k u:aD×aD),m.f[i]?=o k→m.f[Q]?=o u→i≠Q→k.1≠u.1∧k.1≠u.2∧k.2≠u.1∧k.2≠u.2
 S:∀(v:Nat)(k:aD×aD)(n:eJ),m.f[v]?=o k→f[v]?=o n→iN j.b m k n
 Y:j.p.length=j.x.length∧∀(i v:Nat)(d:aq)(g:aD),j.p[i]?=o v→j.x[i]?=o d→j.c.cells.lookup d=o g→∃k,m.f[v]?=o k∧g=k.1
 J:m.b.gens=j.b.m.gens∧m.b.os=j.b.m.os∧m.b.drawn=j.b.m.drawn
end
section
open PySem PySem.W PyProof.Rows
theorem bb{R:Prop}{V:Type}{g:V}(b:U=o g):R:=nomatch b
noncomputable def ay.k(m:ay)(y:aT):ay:={m with b:=y}
noncomputable def ay.t(m:ay)(g:aD)(n:cm):ay:={m with d:=fun e=>if e=g then o n else m.d e}
theorem ay.c.d{m:ay}(y:aT):m.c (m.k y):=⟨⟨fun _ _ c=>c,[],(hE _).symm⟩,rfl⟩
theorem oF{m:ay}{g:aD}{n:cm}:(m.t g n).d g=o n:=if_pos rfl
theorem ay.c.r{m:ay}{g:aD}(n:cm)(c:m.d g=U):m.c (m.t g n):=⟨⟨fun e u b=>by show(if e=g then o n else m.d e)=_;by_cases q:e=g;(subst q;rw[c]at b;exact nomatch b);exact(if_neg q).trans b,[],(hE _).symm⟩,rfl⟩
theorem qO{m:ay}{g e:aD}{n:cm}(c:m.d e=U)(aN:e≠g):(m.t g n).d e=U:=(if_neg aN).trans c
section
variable{j:b5}{A:List (Option K)}{f:af}{m:ay}
theorem aP.R(D:aP j A f m):j.b.b.In m.b.heap:=fun g n c=>D.p g n (D.ao g n c)
theorem sP.c(dg:List aD)(g:aD)(n:cm):sP dg g n n:=.inl rfl
theorem sP.b{dg ha:List aD}{g:aD}{n cf C9:cm}(d:sP dg g n cf)(G:sP ha g cf C9)(a3:∀g∈ha,g∈dg):sP dg g n C9:=by
 rcases G with rfl|⟨c,b',rfl⟩;·exact d
 ·rcases d with rfl|⟨bl,auz,rfl⟩;·exact .inr ⟨a3 g c,b',rfl⟩
  ·exact .inr ⟨a3 g c,b',rfl⟩
theorem aP.av(D:aP j A f m){am:aT}(ar:∀g n,¬ci j m g→m.b.heap.get? g=o n→am.heap.get? g=o n)(b4:am.gens=m.b.gens∧am.os=m.b.os∧am.drawn=m.b.drawn):aP j A f (m.k am)where
 ao:=D.ao;p:=fun g n c=>ar g n (fun w=>nomatch w.d.symm.trans c) (D.p g n c);Z:=fun g n c=>by obtain⟨cf,H,L⟩:=D.Z g n c;exact⟨cf,ar g cf (fun w=>nomatch w.i.symm.trans c) H,L⟩
 ai:=D.ai;x:=D.x;y:=D.y;G:=fun g c=>by obtain⟨H,L,n,aR,bh⟩:=D.G g c;exact⟨H,L,n,ar g n (fun w=>w.r c) aR,bh⟩
 P:=by obtain⟨z,⟨n,az,dn,b,t⟩,H,L⟩:=D.P;exact⟨z,⟨n,az,dn,ar _ _ (fun w=>w.p rfl) b,t⟩,H,fun i d aH=>⟨fun l bE=>by obtain⟨ad,g,e⟩:=(L i d aH).1 l bE;exact⟨ad,g,e.b (ay.c.d am)⟩,(L i d aH).2⟩⟩
 E:=D.E;ag:=D.ag;S:=fun v k n al aj=>(D.S v k n al aj).pd (ay.c.d am).toUp (fun n=>ar _ n fun w=>w.l ⟨k,dZ al,.inl rfl⟩) (fun n=>ar _ n fun w=>w.l ⟨k,dZ al,.inr rfl⟩);Y:=D.Y;J:=⟨b4.1.trans D.J.1,b4.2.1.trans D.J.2.1,b4.2.2.trans D.J.2.2⟩
theorem aP.ax(D:aP j A f m){g:aD}{n:cm}(w:ci j m g)(c:m.b.heap.get? g=o n):aP j A f (m.t g n)where
 ao:=fun e u b=>(ay.c.r n w.d).f e u (D.ao e u b);p:=fun e u b=>by
  change(if e=g then o n else m.d e)=o u at b;by_cases q:e=g;·rw[if_pos q]at b;cases b;rw[q];exact c
  ·rw[if_neg q]at b;exact D.p e u b
 Z:=D.Z;ai:=fun e u b=>qO (D.ai e u b) fun q=>bb (w.i.symm.trans (q▸(show m.i e=o u from b)));x:=⟨qO D.x.1 (fun b=>w.p b.symm),D.x.2⟩;y:=fun v k al=>⟨⟨qO (D.y v k al).1.1 (fun b=>w.l ⟨k,dZ al,.inl b.symm⟩),qO (D.y v k al).1.2 (fun b=>w.l ⟨k,dZ al,.inr b.symm⟩)⟩,(D.y v k al).2⟩;G:=fun e aN=>⟨qO (D.G e aN).1 (fun b=>w.r (b▸aN)),(D.G e aN).2⟩;P:=by obtain⟨z,H,L,aR⟩:=D.P;exact⟨z,H,L,fun i d aH=>⟨fun l bE=>by obtain⟨ad,g,e⟩:=(aR i d aH).1 l bE;exact⟨ad,g,e.b (ay.c.r n w.d)⟩,(aR i d aH).2⟩⟩
 E:=D.E;ag:=D.ag;S:=fun v k u al aj=>(D.S v k u al aj).pd (ay.c.r n w.d).toUp (fun _ c=>c) (fun _ c=>c);Y:=D.Y;J:=D.J
theorem aP.aS(D:aP j A f m){g:aD}(c:¬ci j m g):∃n,m.b.heap.get? g=o n:=by
 rcases b:m.d g with _|n;·
  rcases aK:m.i g with _|n;·
   by_cases aR:g=j.m;·obtain⟨z,⟨n,_,_,c,_⟩,_⟩:=D.P;exact⟨n,aR▸c⟩
   ·by_cases cT:g∈j.k;·obtain⟨_,_,n,c,_⟩:=D.G g cT;exact⟨n,c⟩
    ·by_cases bh:iP m.f g;·
      clear c;obtain⟨k,al,aN⟩:=bh;obtain⟨v,ar⟩:=vQ al;have kZ:v<f.length:=by rw[←D.E];exact(eg.mp ar).1
      have t:=D.S v k _ ar (hT kZ);have rp:k.2=k.1→(∃n,m.b.heap.get? k.1=o n)→∃n,m.b.heap.get? g=o n:=fun aU⟨n,c⟩=>⟨n,by rcases aN with rfl|rfl;exact c;rw[aU];exact c⟩;generalize f[v]=n at t;induction t with|mF aU N aj t=>exact rp aU (by obtain⟨r,c⟩:=aj;exact⟨_,c⟩)|oe aU a8 b1 aj t=>exact rp aU (by obtain⟨n,az,dn,c,u⟩:=aj;exact⟨_,c⟩)|pc aU X az r bf gD aj aI t=>rcases aN with rfl|rfl;exact⟨_,aj⟩;exact⟨_,aI⟩|wR aU n aj aI=>exact rp aU ⟨_,aj⟩|sL aU n ad aj aI t=>exact rp aU ⟨_,aj⟩|sM aU T aj bu bf=>subst aU;exact rp rfl ⟨_,aj⟩
     ·exact absurd ⟨b,aK,aR,bh,cT⟩ c
  ·obtain⟨cf,c,_⟩:=D.Z g n aK;exact⟨cf,c⟩
 ·exact⟨n,D.p g n b⟩
theorem aP.ap(D:aP j A f m){g:aD}(c:m.b.heap.objs.size≤g):ci j m g:=Classical.byContradiction fun u=>by obtain⟨n,b⟩:=D.aS u;exact tE _ (fg (h9 b) c)
theorem aP.aE(D:aP j A f m)(n:cm)(s:Nat):aP j A f (m.k {m.b with heap:=m.b.heap.push n,toks:=s}):=D.av (fun g u _ b=>gr _ b) ⟨rfl,rfl,rfl⟩
theorem aP.au(D:aP j A f m)(s:Nat):aP j A f (m.k {m.b with toks:=s}):=D.av (fun _ _ _ b=>b) ⟨rfl,rfl,rfl⟩
theorem aP.aA(D:aP j A f m){am:aT}(ar:∀g n,m.b.heap.get? g=o n→am.heap.get? g=o n)(b4:am.gens=m.b.gens∧am.os=m.b.os∧am.drawn=m.b.drawn):aP j A f (m.k am):=D.av (fun g n _=>ar g n) b4
def ay.p(m:ay)(be:hM):ay:=open Classical in{m with i:=fun g=>if be g then m.b.heap.get? g else m.i g}
noncomputable def ay.q(m:ay)(nq:eN):ay:={m with i:=nq}
theorem Et{be:hM}{g:aD}(c:be g):(m.p be).i g=m.b.heap.get? g:=if_pos c
theorem nB{be:hM}{g:aD}(c:¬be g):(m.p be).i g=m.i g:=if_neg c
theorem aP.bj(D:aP j A f m){nq:eN}(c:∀g n,nq g=o n→m.i g=o n∨(ci j m g∧m.b.heap.get? g=o n)):aP j A f (m.q nq)where
 ao:=D.ao;p:=D.p;Z:=fun g n b=>(c g n b).elim (D.Z g n) fun u=>⟨n,u.2,.inl rfl⟩;ai:=fun g n b=>(c g n b).elim (D.ai g n) fun u=>u.1.d;x:=⟨D.x.1,by
  rcases b:nq j.m with _|n;·exact b
  ·exact(c _ n b).elim (fun u=>nomatch D.x.2.1.symm.trans u) fun u=>absurd rfl u.1.p,D.x.2.2⟩;y:=fun v k al=>⟨(D.y v k al).1,by
  have z:=dZ al;have fR:∀e,m.i e=U→iP m.f e→nq e=U:=fun e aN a9=>by
   rcases b:nq e with _|n;·rfl
   ·exact(c e n b).elim (fun u=>nomatch aN.symm.trans u) fun u=>absurd a9 u.1.l
  exact⟨fR _ (D.y v k al).2.1 ⟨k,z,.inl rfl⟩,fR _ (D.y v k al).2.2 ⟨k,z,.inr rfl⟩⟩⟩;G:=D.G;P:=by obtain⟨z,H,L,aR⟩:=D.P;exact⟨z,H,L,fun i d aH=>⟨fun l bE=>by obtain⟨ad,g,e⟩:=(aR i d aH).1 l bE;exact⟨ad,g,e.c ⟨fun _ _ c=>c,[],(hE _).symm⟩⟩,(aR i d aH).2⟩⟩
 E:=D.E;ag:=D.ag;S:=fun v k n al aj=>(D.S v k n al aj).pd (ae:=m.q nq) ⟨fun _ _ c=>c,[],(hE _).symm⟩ (fun _ c=>c) fun _ c=>c;Y:=D.Y;J:=D.J
theorem aP.aL(D:aP j A f m){be:hM}(c:∀g,be g→ci j m g):aP j A f (m.p be):=D.bj fun g n b=>by
 by_cases u:be g;·rw[if_pos u]at b;exact .inr ⟨c g u,b⟩
 ·rw[if_neg u]at b;exact .inl b
theorem aP.aw{be:hM}{ae:ay}(D:aP j A f ae)(O:(m.p be).c ae)(c:∀g,be g→m.i g=U):aP j A f (ae.q m.i):=D.bj fun g n b=>.inl (by rw[O.v,nB (fun u=>nomatch(c g u).symm.trans b)];exact b)
theorem ay.c.t{be:hM}{ae:ay}(O:(m.p be).c ae):m.c (ae.q m.i):=⟨⟨O.f,O.j⟩,rfl⟩
theorem ci.E{be:hM}{ae:ay}(D:aP j A f ae)(O:(m.p be).c ae){g:aD}(jn:be g)(w:ci j m g){n:cm}(aj:m.b.heap.get? g=o n):ci j (ae.q m.i) g∧ae.b.heap.get? g=o n:=by
 have b:ae.i g=o n:=by rw[O.v,Et jn];exact aj
 obtain⟨cf,H,L⟩:=D.Z g n b;refine⟨⟨D.ai g n b,w.i,w.p,?_,w.r⟩,L.elim (fun u=>u▸H) fun u=>absurd u.1 w.r⟩;rintro⟨k,al,aN⟩;obtain⟨v,ar⟩:=vQ al;rcases aN with rfl|rfl;·exact nomatch(D.y v k ar).2.1.symm.trans b
 ·exact nomatch(D.y v k ar).2.2.symm.trans b
end
inductive eZ(j:b5)(m:ay)(k:M)(b:aD):Prop|auG(L:ci j m b)(eL:cm)(N:Array aa)(cr:aD)(az:List h8)(z:Nat)(l:aa)(aR:m.b.heap.get? b=o eL)(bh:eL.cls=.ref 64)(cT:eL.data=.fields N)(dB:1<N.size)(d2:N[1]?=o .none∨∃aB fS aQ,N[1]?=o (.ref aB)∧aB≠b∧ci j m aB∧m.b.heap.get? aB=o fS∧fS.cls=.type "traceback"∧fS.data=.fields aQ∧3<aQ.size)(et:eL.dict=o cr)(gh:m.d cr=o (fY az z))(jm:gg (b8 .fj) az=o (o l))(h_:gg (b8 .jF) az=o U)(h':ca j.b m.d k l)(lZ:∃ad,gg (b8 .hK) az=o (o ad)∧tM ad=I):eZ j m k b
section
variable{V bg dk ek:Type}{j:b5}{bk:ay→V→bg→Prop}{lm:ay→dk→ek→Prop}{A:List (Option K)}{f:af}{m:ay}
def ux(j:b5)(bk:ay→V→bg→Prop)(A:List (Option K))(m:ay)(P:bg→aT→Prop)(S:aa→aT→Prop)(t:Except M V)(a1:af):Prop:=match t with|.ok d=>∀l ae,m.c ae→aP j A a1 ae→bk ae d l→P l ae.b|.error k=>∀b ae,m.c ae→aP j A a1 ae→eZ j ae k b→S (.ref b) ae.b
abbrev kF(bg:Type):=(bg→aT→Prop)→(aa→aT→Prop)→Prop
def bL(j:b5)(bk:ay→V→bg→Prop)(A:List (Option K))(m:ay)(cc:kF bg)(z:bJ V):Prop:=∀t a1,z=o (t,a1)→∀P S,ux j bk A m P S t a1→cc P S
abbrev b5.e(j:b5){bg:Type}(s:Sem bg)(P:bg→aT→Prop)(S:aa→aT→Prop)(y:aT):Prop:=da j.b.i j.i s P S y
abbrev d3(j:b5)(bk:ay→V→bg→Prop)(A:List (Option K))(m:ay)(s:Sem bg)(z:bJ V):Prop:=bL j bk A m (fun P S=>j.e s P S m.b) z
theorem ux.b{ae:ay}{P:bg→aT→Prop}{S:aa→aT→Prop}{t:Except M V}{a1:af}(O:m.c ae)(Z:ux j bk A m P S t a1):ux j bk A ae P S t a1:=by induction t with|ok d=>exact fun l gH db=>Z l gH (O.k db)|error k=>exact fun b gH db=>Z b gH (O.k db)
theorem bL.c{cc tR:kF bg}{z:bJ V}(t:∀P S,tR P S→cc P S)(c:bL j bk A m tR z):bL j bk A m cc z:=fun d a1 b P S Z=>t P S (c d a1 b P S Z)
theorem bL.d{cc:kF bg}:bL j bk A m cc (U:bJ V):=fun _ _ b=>nomatch b
theorem bL.b{cc:kF bg}{z:bJ V}{ao:bg→aT→kF ek}{w:V→af→bJ dk}(c:bL j bk A m cc z)(ar:∀d a1 l ae,m.c ae→aP j A a1 ae→bk ae d l→bL j lm A ae (ao l ae.b) (w d a1)):bL j lm A m (fun P S=>cc (fun l y=>ao l y P S) S) (bU z w):=by
 intro t a1 b P S Z;rcases z with _|⟨k|d,bW⟩;·exact nomatch b
 ·obtain⟨rfl,rfl⟩:=bw (aJ b);exact c _ _ rfl _ _ Z
 ·exact c _ _ rfl _ _ fun l ba cH bG cs=>ar d bW l ba cH bG cs t a1 b P S (Z.b cH)
theorem bL.e{cc:kF bg}{d:V}(c:∀(P:bg→aT→Prop)S,(∀l ae,m.c ae→aP j A f ae→bk ae d l→P l ae.b)→cc P S):bL j bk A m cc (cW d f):=fun t a1 b P S Z=>by obtain⟨rfl,rfl⟩:=bw (aJ b);exact c P S Z
theorem bL.i{cc:kF bg}{d:Option V}(c:∀G,d=o G→∀(P:bg→aT→Prop)S,(∀l ae,m.c ae→aP j A f ae→bk ae G l→P l ae.b)→cc P S):bL j bk A m cc (cI d f):=by induction d with|none=>exact bL.d|some G=>exact bL.e (c G rfl)
theorem ci.F{be:hM}{ae:ay}(O:(m.p be).c ae)(jn:∀g,be g→ci j m g){g:aD}(w:ci j ae g):ci j (ae.q m.i) g:=⟨w.d,by
 by_cases u:be g;·exact(jn g u).i
 ·have:=w.i;rw[O.v,nB u]at this;exact this,w.p,w.l,w.r⟩
theorem eZ.Du{be:hM}{ae:ay}(O:(m.p be).c ae)(jn:∀g,be g→ci j m g){k:M}{b:aD}(d:eZ j ae k b):eZ j (ae.q m.i) k b:=by obtain⟨L,eL,N,cr,az,z,l,aR,bh,cT,dB,d2,et,gh,jm,h_,h',lZ⟩:=d;exact⟨L.F O jn,eL,N,cr,az,z,l,aR,bh,cT,dB,d2.imp id (by rintro⟨aB,fS,aQ,c_,e3,gT,nW⟩;exact⟨aB,fS,aQ,c_,e3,gT.F O jn,nW⟩),et,gh,jm,h_,h',lZ⟩
theorem bL.s{be:hM}{cc:kF bg}{z:bJ V}{ao:bg→aT→kF ek}{w:V→af→bJ dk}(jn:∀g,be g→ci j m g)(c:bL j bk A (m.p be) cc z)(ar:∀d a1 l ae,(m.p be).c ae→aP j A a1 ae→aP j A a1 (ae.q m.i)→bk ae d l→bL j lm A (ae.q m.i) (ao l ae.b) (w d a1)):bL j lm A m (fun P S=>cc (fun l y=>ao l y P S) S) (bU z w):=by
 intro t a1 b P S Z;rcases z with _|⟨k|d,bW⟩;·exact nomatch b
 ·obtain⟨rfl,rfl⟩:=bw (aJ b);exact c _ _ rfl _ _ fun b ba cH bG qh=>Z b (ba.q m.i) cH.t (bG.aw cH fun g u=>(jn g u).i) (qh.Du cH jn)
 ·exact c _ _ rfl _ _ fun l ba cH bG cs=>ar d bW l ba cH bG (bG.aw cH fun g u=>(jn g u).i) cs t a1 b P S (Z.b cH.t)
end
end
section
open PySem PySem.W PyProof.Rows PySem.Calls
section
variable{V:Type}{q:V}{d G:K}{k:M}{aM:List K}{E:cV}{m:ay}{bj:eN}{l ad:aa}
inductive sK(E:cV)(bj:eN)(p:List M):aa→Prop|b(g:aD)(N:List aa)(r:Nat)(aj:bj g=o {cls:=.type "list",data:=.seq N.toArray r})(t:dV E bj p N):sK E bj p (.ref g)
inductive uA(E:cV)(bj:eN)(p:List M):aa→Prop|b(g:aD)(N:List aa)(n:cm)(aj:bj g=o n)(bu:IF n N)(t:dV E bj p N):uA E bj p (.ref g)
inductive Ip(E:cV)(bj:eN)(F:List (List Nat×M)):aa→Prop|b(g:aD)(b1:List (aq×aa))(n:cm)(aj:bj g=o n)(a8:(g==sysModules)=C)(bu:∀c:eh,c.get? g=o n→c.DictOf (m_ E.d E.e) g b1)(t:fr E bj F b1):Ip E bj F (.ref g)
inductive Iy(E:cV)(bj:eN)(q:Nat)(p:List (bF×M)):aa→Prop|b(g X cr:aD)(az:List h8)(r:Nat)(bf:f_[q]?=o X)(gD:rJ E.b q X=I)(aj:bj g=o (i1 X cr))(aI:bj cr=o (fY az r))(ah:∀d,fH d p=U→gg (b8 d) az=o U)(aW:∀d k,fH d p=o k→∃l,gg (b8 d) az=o (o l)∧ca E bj k l):Iy E bj q p (.ref g)
inductive OT(E:cV)(bj:eN)(g e q:Int):aa→Prop|b(d:aD)(n:cm)(s ad l:Tok)(aj:bj d=o n)(bu:∀c:eh,c.get? d=o n→IsRange c d g e q s ad l):OT E bj g e q (.ref d)
def ZD(E:cV)(bj:eN)(k:M)(l:aa):Prop:=match k with|.e=>l=.none|.g e=>l=.bool e|.b i=>∃s,l=.int i s|.c y=>∃s,l=.str (bx y) s|.i e=>l=e.sH|.f p=>sK E bj p l|.j p=>uA E bj p l|.l F=>Ip E bj F l|.k q p=>Iy E bj q p l|.m g e q=>OT E bj g e q l|.d i=>∃g,f_[i]?=o g∧l=.ref g
theorem ca.qq(t:ca E bj k l):ZD E bj k l:=by induction t with|qr=>rfl|rC e=>rfl|ns i s=>exact⟨s,rfl⟩|og y s=>exact⟨s,rfl⟩|wT e=>rfl|rD N n aj bu aw a4=>obtain⟨r,rfl⟩:=bu;exact .b _ N r aj ⟨aw,a4⟩|wU N n aj bu aw a4=>exact .b _ N n aj bu ⟨aw,a4⟩|Ag b1 n aj a8 bu aw ar a4=>exact .b _ b1 n aj a8 bu ⟨aw,ar,a4⟩|Dw X cr az r bf gD aj aI ah aW a4=>exact .b _ X cr az r bf gD aj aI ah fun d k c=>by obtain⟨l,b⟩:=aW d k c;exact⟨l,b,a4 d k l c b⟩|Ah n s ad l aj bu=>exact .b _ n s ad l aj bu|Dx b=>exact⟨_,b,rfl⟩
@[elab_as_elim]theorem r2{R:aa→Prop}{i:Int}(t:ca E bj (.b i) l)(v:∀s,R (.int i s)):R l:=by obtain⟨s,b⟩:=t.qq;exact b▸v s
@[elab_as_elim]theorem oE{R:aa→Prop}{i:List Nat}(t:ca E bj (.c i) l)(v:∀s,R (.str (bx i) s)):R l:=by obtain⟨s,b⟩:=t.qq;exact b▸v s
theorem vp(t:ca E bj .e l):l=.none:=t.qq
theorem K7{e:Bool}(t:ca E bj (.g e) l):l=.bool e:=t.qq
theorem To{e:i9}(t:ca E bj (.i e) l):l=e.sH:=t.qq
theorem qM{p:List M}(t:ca E bj (.f p) l):sK E bj p l:=t.qq
theorem Tp{F:List (List Nat×M)}(t:ca E bj (.l F) l):Ip E bj F l:=t.qq
theorem Fk{q:Nat}{p:List (bF×M)}(t:ca E bj (.k q p) l):Iy E bj q p l:=t.qq
theorem vq{p:List M}(t:ca E bj (.j p) l):uA E bj p l:=t.qq
theorem gb{R:Prop}{w:M→Option V}(b:ed d w=o q)(t:b7 E m d l)(v:∀k,ca E m.d k l→w k=o q→R):R:=by induction d using K.casesOn with|b k=>exact v k t b|_=>exact bb b
@[elab_as_elim]theorem Fv{R:aa→Prop}{w:Int→Option V}(b:vr k w=o q)(t:ca E bj k l)(v:∀i s,w i=o q→R (.int i s)):R l:=by induction k using M.casesOn with|b i=>exact r2 t fun s=>v i s b|_=>exact bb b
@[elab_as_elim]theorem tl{R:aa→Prop}{w:List Nat→Option V}(b:px k w=o q)(t:ca E bj k l)(v:∀i s,w i=o q→R (.str (bx i) s)):R l:=by induction k using M.casesOn with|c i=>exact oE t fun s=>v i s b|_=>exact bb b
theorem Lc{R:Prop}{w:List M→Option V}(b:Fw k w=o q)(t:ca E bj k l)(v:∀p,sK E bj p l→w p=o q→R):R:=by induction k using M.casesOn with|f i=>exact v i (qM t) b|_=>exact bb b
@[elab_as_elim]theorem nO{R:aa→Prop}{w:Int→Option V}(b:fc d w=o q)(t:b7 E m d l)(v:∀i s,w i=o q→R (.int i s)):R l:=gb b t fun _ t b=>Fv b t v
@[elab_as_elim]theorem oO{R:aa→Prop}{w:List Nat→Option V}(b:nP d w=o q)(t:b7 E m d l)(v:∀i s,w i=o q→R (.str (bx i) s)):R l:=gb b t fun _ t b=>tl b t v
@[elab_as_elim]theorem ou{R:aa→aa→Prop}{w:Int→Int→Option V}(b:(fc d fun g=>fc G fun e=>w g e)=o q)(aH:b7 E m d l)(a8:b7 E m G ad)(v:∀g s e hv,w g e=o q→R (.int g s) (.int e hv)):R l ad:=nO b aH fun g s b=>nO b a8 fun e hv b=>v g s e hv b
theorem eO{R:Prop}{q:Prop}[Decidable q]{g e:V}(c:(if q then o g else U)=o e)(v:q→g=e→R):R:=if bf:q then v bf (aJ ((if_pos bf).symm.trans c))else nomatch(if_neg bf).symm.trans c
theorem RL{R:Prop}{q:Prop}[Decidable q]{g e:V}(c:(if q then U else o g)=o e)(v:¬q→g=e→R):R:=if bf:q then nomatch(if_pos bf).symm.trans c else v bf (aJ ((if_neg bf).symm.trans c))
end
section
variable{j:b5}{A:List (Option K)}{f:af}{m:ay}{P:aa→aT→Prop}{S:aa→aT→Prop}
theorem ci.s{j:b5}{m:ay}{g:aD}(w:ci j m g)(y:aT):ci j (m.k y) g:=⟨w.d,w.i,w.p,w.l,w.r⟩
noncomputable def ay.x(m:ay)(y:aT)(g:aD)(n:cm):ay:=(m.k y).t g n
theorem aP.aX(D:aP j A f m){am:aT}(ar:∀g n,m.b.heap.get? g=o n→am.heap.get? g=o n)(b4:am.gens=m.b.gens∧am.os=m.b.os∧am.drawn=m.b.drawn){g:aD}{n:cm}(aY:m.b.heap.objs.size≤g)(aj:am.heap.get? g=o n):aP j A f (m.x am g n):=(D.aA ar b4).ax ((D.ap aY).s am) aj
theorem aP.a1(D:aP j A f m){am:aT}{g:aD}{n:cm}(aY:m.b.heap.objs.size≤g):m.c (m.x am g n):=(ay.c.d am).k (ay.c.r n (D.ap aY).d)
noncomputable abbrev ps(N:List aa):cm:={cls:=.type "list",data:=.seq N.toArray}
noncomputable abbrev A9(N:List aa):cm:={cls:=.type "tuple",data:=.seq N.toArray}
abbrev ie(j:b5)(A:List (Option K))(f:af)(m:ay)(P:aa→aT→Prop)(k:M):Prop:=∀l ae,m.c ae→aP j A f ae→ca j.b ae.d k l→P l ae.b
theorem ie.b(D:aP j A f m){k:M}{Q:Int}(Z:ie j A f m P k)(c:.b Q=k)(s:Tok)(r:Nat):P (.int Q s) {m.b with toks:=r}:=Z _ _ (ay.c.d _) (D.au r) (c▸.ns _ _)
theorem ie.c(D:aP j A f m){k:M}{i:List Nat}{Q:aq}(Z:ie j A f m P k)(c:.c i=k)(bZ:Q=bx i)(s:Tok)(r:Nat):P (.str Q s) {m.b with toks:=r}:=Z _ _ (ay.c.d _) (D.au r) (c▸bZ▸.og _ _)
theorem ie.e(D:aP j A f m){k:M}{e:Bool}(Z:ie j A f m P k)(c:.g e=k)(r:Nat):P (.bool e) {m.b with toks:=r}:=Z _ _ (ay.c.d _) (D.au r) (c▸.rC _)
theorem A6(D:aP j A f m){k:M}{p:List M}{N:List aa}(t:dV j.b m.d p N){s:Nat}(Z:ie j A f m P k)(c:.f p=k):P (.ref m.b.heap.objs.size) {m.b with heap:=m.b.heap.push (ps N),toks:=s}:=have O:=D.a1 (am:={m.b with heap:=m.b.heap.push (ps N),toks:=s}) (n:=ps N) (df _);Z _ _ O (D.aX (am:={m.b with heap:=m.b.heap.push (ps N),toks:=s}) (n:=ps N) (fun g n b=>gr _ b) ⟨rfl,rfl,rfl⟩ (df _) (ko _ rfl)) (c▸.rD N _ oF ⟨0,rfl⟩ t.1 (t.b O.f).2)
theorem arM(D:aP j A f m){k:M}{p:List M}{N:List aa}(t:dV j.b m.d p N){s:Nat}(Z:ie j A f m P k)(c:.j p=k):P (.ref m.b.heap.objs.size) {m.b with heap:=m.b.heap.push (A9 N),toks:=s}:=have O:=D.a1 (am:={m.b with heap:=m.b.heap.push (A9 N),toks:=s}) (n:=A9 N) (df _);Z _ _ O (D.aX (am:={m.b with heap:=m.b.heap.push (A9 N),toks:=s}) (n:=A9 N) (fun g n b=>gr _ b) ⟨rfl,rfl,rfl⟩ (df _) (ko _ rfl)) (c▸.wU N _ oF ⟨rfl,0,rfl⟩ t.1 (t.b O.f).2)
theorem io{r:Nat}(c:r≤cK):r≤sh:=bt c (by decide)
theorem aqc(g e:List Nat):bx g++bx e=bx (g++e):=congrArg Str.mk (Gg g e)
theorem nM(g:List Nat):(bx g).length=g.length:=rfl
theorem Kv{r v:Nat}(c:r<2^v):r.log2<v+1:=by
 by_cases aX:r=0;·subst aX;exact Nat.succ_pos v
 ·exact Co ((Nat.log2_lt aX).mpr c)
theorem Po{g:Int}{v:Nat}(c:g.natAbs<2^v):GJ g≤v+1:=by
 unfold GJ;split;·exact jT _
 ·exact Kv c
theorem anN{g e:Int}(aY:g.natAbs<2^1000)(aN:e.natAbs<2^1000):IntMulOk g e:=by have c:=km (Po aY) (Po aN);unfold IntMulOk;have:Builtin.Int.intTooBig (GJ g+GJ e)=C:=decide_eq_false (by unfold bitsLine;omega);rw[this];simp
theorem dV.c{E:cV}{bj:eN}{p z:List M}{N J:List aa}(g:dV E bj p N)(e:dV E bj z J):dV E bj (p++z) (N++J):=by
 refine⟨by rw[fy,fy,g.1,e.1],fun i k l H L=>?_⟩;rw[Gq]at H L;rw[g.1]at L;split at H;·rename_i u;rw[if_pos u]at L;exact g.2 i k l H L
 ·rename_i u;rw[if_neg u]at L;exact e.2 _ k l H L
theorem amL(D:aP j A f m){g e:List M}{k:M}{l ad:aa}(aY:sK j.b m.d g l)(aN:sK j.b m.d e ad)(aw:g.length+e.length≤cK)(Z:ie j A f m P k)(c:.f (g++e)=k):j.e (binaryOp .Add l ad) P S m.b:=by obtain⟨Yn,N,r,aj,t⟩:=aY;obtain⟨Yo,J,rn,qa,ds⟩:=aN;have aj:=D.p _ _ aj;have qa:=D.p _ _ qa;refine concat_meets ⟨_,aj,rfl⟩ ⟨_,qa,rfl⟩ noFill_list_add seq_list_add PySem.F.slot_list_add PySem.F.entry_list_add (PySem.F.args_list_add_2 _ _) (list_addW Yn Yo N.toArray J.toArray r rn U U #[] #[] (by rw[←t.1,←ds.1]at aw;exact io aw)) ⟨aj,qa,?_⟩;rw[Gg];exact A6 D (t.c ds) Z c
theorem Z2(D:aP j A f m){d G k:M}{l ad:aa}(b:O6 d G=o k)(aH:ca j.b m.d d l)(a8:ca j.b m.d G ad)(Z:ie j A f m P k):j.e (binaryOp .Add l ad) P S m.b:=by induction d using M.casesOn with|b _=>exact r2 aH fun _=>Fv b a8 fun _ _ b=>add_int (Z.b D (aJ b) _ _)|c g=>exact oE aH fun _=>tl b a8 fun e _ b=>eO b fun aw c=>add_str (fun _ _=>Z.c D c (aqc g e) _ _) (io aw)|f _=>exact Lc b a8 fun _ a8 b=>eO b fun aw c=>amL D (qM aH) a8 aw Z c|_=>exact bb b
theorem acT(D:aP j A f m){bH:pV}{d G:K}{k:M}{l ad:aa}(b:fF bH d G=o k)(aH:b7 j.b m d l)(a8:b7 j.b m G ad)(Z:ie j A f m P k):j.e (binaryOp bH l ad) P S m.b:=by induction bH with|Add=>exact gb b aH fun _ aH b=>gb b a8 fun _ a8 b=>Z2 D b aH a8 Z|Sub=>exact ou b aH a8 fun _ _ _ _ b=>sub_int (Z.b D (aJ b) _ _)|Mult=>exact ou b aH a8 fun _ _ _ _ b=>eO b fun a9 c=>PyProof.Rows.mul_int (Z.b D c _ _) (anN a9.1 a9.2)|FloorDiv=>exact ou b aH a8 fun _ _ _ _ b=>RL b fun a9 c=>PyProof.Rows.floordiv_int (fun c=>a9 (.inl c)) (Z.b D c _ _) (.inl (PyProof.noPylong_of_log2 (fg (Kv (v:=128) (Nat.lt_of_not_le fun c=>a9 (.inr (.inr c)))) (by decide))))|Mod=>exact ou b aH a8 fun _ _ _ _ b=>RL b fun a9 c=>PyProof.Rows.mod_int' a9 (Z.b D c _ _)|LShift=>exact ou b aH a8 fun _ _ _ _ b=>eO b fun a9 c=>PyProof.Rows.lshift_int_small a9.2.1 (g4 a9.2.2 (by decide)) a9.1 (Z.b D c _ _)|RShift=>exact ou b aH a8 fun _ _ _ _ b=>eO b fun a9 c=>PyProof.Rows.rshift_int a9 (Z.b D c _ _)|BitAnd=>exact ou b aH a8 fun _ _ _ _ b=>PyProof.Rows.and_int (Z.b D (aJ b) _ _)|_=>exact bb b
end
end
section
open PySem PySem.W PyProof.Rows PySem.Calls
section
variable{V bg:Type}{E:cV}{bj:eN}{c:eh}
theorem d4{R:Prop}{n:Option V}{w:V→Option bg}{q:bg}(b:n.bind w=o q)(v:∀g,n=o g→w g=o q→R):R:=by induction n with|none=>exact bb b|some g=>exact v g rfl b
theorem gN{R:Prop}{n:Option V}{w:V→bg}{q:bg}(b:n.map w=o q)(v:∀g,n=o g→w g=q→R):R:=by induction n with|none=>exact bb b|some g=>exact v g rfl (aJ b)
theorem th{R:Prop}{n:Option V}{w:V→Option bg}{ad:Option bg}{q:bg}(b:pu n w ad=o q)(v:∀g,n=o g→w g=o q→R)(fq:n=U→ad=o q→R):R:=by induction n with|none=>exact fq rfl b|some g=>exact v g rfl b
@[elab_as_elim]theorem yo{R:List aa→Prop}{N:List aa}(t:dV E bj [] N)(v:R []):R N:=(Ce.mp t.1)▸v
@[elab_as_elim]theorem yn{R:List aa→Prop}{k:M}{p:List M}{N:List aa}(t:dV E bj (k::p) N)(v:∀l N,ca E bj k l→dV E bj p N→R (l::N)):R N:=by induction N with|nil=>exact nomatch t.1|cons l N=>exact v l N (t.2 0 k l rfl rfl) ⟨yM t.1,fun i k l g e=>t.2 (i+1) k l g e⟩
theorem dV.e:dV E bj [] []:=⟨rfl,fun i k l c=>nomatch c⟩
theorem dV.g{k:M}{p:List M}{l:aa}{N:List aa}(g:ca E bj k l)(t:dV E bj p N):dV E bj (k::p) (l::N):=⟨congrArg pT t.1,fun i dF f2 H L=>by induction i with|zero=>obtain rfl:=aJ H;obtain rfl:=aJ L;exact g|succ i=>exact t.2 i dF f2 H L⟩
theorem dV.i{p:List M}{N:List aa}(t:dV E bj p N){i:Nat}{k:M}(c:p[i]?=o k):∃l,N[i]?=o l∧ca E bj k l:=by have:=(eg.mp c).1;have b:=hT (l:=N) (i:=i) (by rw[t.1];exact this);exact⟨_,b,t.2 i k _ c b⟩
theorem JH{k:M}{F:nT}{l:aa}(ar:∀g n,bj g=o n→c.get? g=o n)(b:AP k=o F)(t:ca E bj k l):Reads c l F []∧F.canLay0=I∧F.depth=0:=by induction k using M.casesOn with|e=>obtain rfl:=aJ b;rw[vp t];exact⟨.none,rfl,rfl⟩|b i=>obtain rfl:=aJ b;exact r2 t fun s=>⟨.int _ _,rfl,rfl⟩|c y=>exact oE t fun s=>eO b fun u bl=>bl▸⟨.str _ _,by simpa[PyData.canLay0,PyData.strOk]using u,rfl⟩|_=>exact bb b
theorem Ef(ar:∀g n,bj g=o n→c.get? g=o n){p:List M}:∀{b2:List nT}{N:List aa},uR p=o b2→dV E bj p N→ReadsAll c N b2 []∧Cs b2=I∧Ct b2=0:=by induction p with|nil=>exact fun b t=>yo t (aJ b▸⟨.nil,rfl,rfl⟩)|cons k p ak=>exact fun b t=>yn t fun l N hI sw=>d4 b fun F aG b=>gN b fun b2 aK bl=>by obtain⟨c_,e3,gT⟩:=JH ar aG hI;obtain⟨dw,dM,fp⟩:=ak aK sw;subst bl;exact⟨.cons c_ dw,by simp[Cs,e3,dM],by simp[Ct,gT,fp]⟩
theorem F0{b2:List nT}{g:aD}{N:List aa}{aM:List aD}{n:cm}(H:c.get? g=o n)(bu:IF n N)(t:ReadsAll c N b2 aM):Reads c (.ref g) (.tuple b2) aM:=by obtain⟨r,b⟩:=bu.2;exact .tuple H bu.1 b t
abbrev wO(c:eh)(g:aD)(N:List aa):Prop:=c.PlainList g N.toArray
theorem ES{b2:List nT}{g:aD}{N:List aa}{aM:List aD}(aj:wO c g N)(t:ReadsAll c N b2 aM):Reads c (.ref g) (.list b2) (g::aM):=by obtain⟨r,b⟩:=aj;exact .list b rfl rfl t
theorem aiJ{k:M}{F:nT}{l:aa}(ar:∀g n,bj g=o n→c.get? g=o n)(b:JG k=o F)(t:ca E bj k l):∃aM,Reads c l F aM∧F.canLay0=I∧F.depth≤1:=by
 have fR:AP k=o F→∃aM,Reads c l F aM∧F.canLay0=I∧F.depth≤1:=fun b=>by obtain⟨g,e,q⟩:=JH ar b t;exact⟨[],g,e,by rw[q];exact jT _⟩
 induction k using M.casesOn with|j p=>exact gN b fun b2 aG bl=>by obtain⟨g,N,n,aj,bu,u⟩:=vq t;obtain⟨dw,dM,fp⟩:=Ef ar aG u;subst bl;exact⟨_,F0 (ar _ _ aj) bu dw,dM,by simp[PyData.depth,fp]⟩|f p=>exact gN b fun b2 aG bl=>by obtain⟨g,N,r,aj,u⟩:=qM t;obtain⟨dw,dM,fp⟩:=Ef ar aG u;subst bl;exact⟨_,ES ⟨r,ar _ _ aj⟩ dw,dM,by simp[PyData.depth,fp]⟩|_=>exact fR b
theorem Ee(ar:∀g n,bj g=o n→c.get? g=o n){p:List M}:∀{b2:List nT}{N:List aa},sY p=o b2→dV E bj p N→∃aM,ReadsAll c N b2 aM∧Cs b2=I∧Ct b2≤1:=by induction p with|nil=>exact fun b t=>yo t (aJ b▸⟨_,.nil,rfl,jT _⟩)|cons k p ak=>exact fun b t=>yn t fun l N hI sw=>d4 b fun F aG b=>gN b fun b2 aK bl=>by obtain⟨aM,c_,e3,gT⟩:=aiJ ar aG hI;obtain⟨kW,dw,dM,fp⟩:=ak aK sw;subst bl;exact⟨_,.cons c_ dw,by simp[Cs,e3,dM],Nat.max_le.mpr ⟨gT,fp⟩⟩
theorem FK{b2:List nT}(g:Cs b2=I)(e:Ct b2≤1):yP (.list b2)=I∧yP (.tuple b2)=I:=by have:Ct b2+1≤64:=bt (kn e) (by decide);exact⟨by simp[yP,PyData.canLay0,PyData.depth,g,this],by simp[yP,PyData.canLay0,PyData.depth,g,this]⟩
end
section
variable{j:b5}{A:List (Option K)}{f:af}{m:ay}{P:aa→aT→Prop}{S:aa→aT→Prop}{d G:K}{l ad:aa}
inductive uw(j:b5)(m:ay)(p:List M):aa→Prop|b(g:aD)(N:List aa)(aj:wO m.b.heap g N)(t:dV j.b m.d p N):uw j m p (.ref g)
inductive z'(j:b5)(m:ay)(F:List (List Nat×M)):aa→Prop|b(g:aD)(b1:List (aq×aa))(a8:(g==sysModules)=C)(aj:m.b.heap.DictOf (m_ j.b.d j.b.e) g b1)(t:fr j.b m.d F b1):z' j m F (.ref g)
theorem tg{R:Prop}{V:Type}{v:Nat}{w:eJ→Option V}{q:V}(D:aP j A f m)(b:(f[v]?).bind w=o q)(t:b7 j.b m (.c v) l)(NV:∀k n,l=.ref k.1→m.f[v]?=o k→f[v]?=o n→iN j.b m k n→w n=o q→R):R:=d4 b fun n aj b=>by obtain⟨k,al,bE⟩:=t;exact NV k n bE al aj (D.S v k n al aj) b
theorem u8(D:aP j A f m){p:List M}(b:mN f d=o p)(t:b7 j.b m d l):uw j m p l:=by induction d using K.casesOn with
 |b k=>induction k using M.casesOn with|f p=>obtain rfl:=aJ b;obtain⟨g,N,r,aj,u⟩:=qM t;exact⟨g,N,⟨r,D.p _ _ aj⟩,u⟩|_=>exact bb b
 |c v=>exact tg D b t fun k n bE al aj t b=>by induction t with|mF aU N H u=>obtain rfl:=aJ b;exact bE▸⟨_,N,H,u⟩|_=>exact bb b
 |d=>exact bb b
theorem Jq(D:aP j A f m){F:List (List Nat×M)}(b:AC f d=o F)(t:b7 j.b m d l):z' j m F l:=by induction d using K.casesOn with
 |b k=>induction k using M.casesOn with|l p=>obtain rfl:=aJ b;obtain⟨g,b1,n,aj,a8,bu,u⟩:=Tp t;exact⟨g,b1,a8,bu _ (D.p _ _ aj),u⟩|_=>exact bb b
 |c v=>exact tg D b t fun k n bE al aj t b=>by induction t with|oe aU a8 b1 H u=>obtain rfl:=aJ b;exact bE▸⟨_,b1,a8,H,u⟩|_=>exact bb b
 |d=>exact bb b
theorem FL{g e:List Nat}(c:bx g=bx e):g=e:=congrArg (fun y:aq=>y.cps.toList) c
theorem Lq(d G:List Nat):(bx d==bx G)=a6 (d=G):=by rw[LX];exact decide_eq_decide.mpr ⟨FL,congrArg bx⟩
abbrev ry(j:b5)(m:ay)(P:aa→aT→Prop)(S:aa→aT→Prop)(n cf:jh)(l ad:aa)(s:Bool):Prop:=((∀r,P (.bool s) {m.b with toks:=r})→j.e (compareOp n l ad) P S m.b)∧((∀r,P (.bool (!s)) {m.b with toks:=r})→j.e (compareOp cf l ad) P S m.b)
theorem Qu(cu:j.i.units+64<cLine){s:Bool}{q es:nT}{aM kW:List aD}(ui:Reads m.b.heap l q aM)(n8:Reads m.b.heap ad es kW)(H:yP q=I)(L:yP es=I)(bu:q2 q es=s):ry j m P S .Eq .NotEq l ad s:=⟨fun u=>eq_dataH ui n8 H L cu (bu▸u _),fun u=>ne_dataH ui n8 H L cu (bu▸u _)⟩
theorem ahV(D:aP j A f m)(cu:j.i.units+64<cLine){p z:List M}{s:Bool}(b:qQ p z=o s)(aH:uw j m p l)(a8:uw j m z ad):ry j m P S .Eq .NotEq l ad s:=d4 b fun b2 aG b=>gN b fun az aK bu=>by obtain⟨g,N,aj,t⟩:=aH;obtain⟨e,br,qa,ds⟩:=a8;obtain⟨aM,c_,e3,gT⟩:=Ee D.p aG t;obtain⟨kW,dw,dM,fp⟩:=Ee D.p aK ds;exact Qu cu (ES aj c_) (ES qa dw) (FK e3 gT).1 (FK dM fp).1 (by rw[q2];exact bu)
theorem ahW(D:aP j A f m)(cu:j.i.units+64<cLine){p z:List M}{s:Bool}(b:qQ p z=o s)(aH:uA j.b m.d p l)(a8:uA j.b m.d z ad):ry j m P S .Eq .NotEq l ad s:=d4 b fun b2 aG b=>gN b fun az aK bu=>by obtain⟨g,N,n,aj,HE,t⟩:=aH;obtain⟨e,br,cf,qa,XJ,ds⟩:=a8;obtain⟨aM,c_,e3,gT⟩:=Ee D.p aG t;obtain⟨kW,dw,dM,fp⟩:=Ee D.p aK ds;exact Qu cu (F0 (D.p _ _ aj) HE c_) (F0 (D.p _ _ qa) XJ dw) (FK e3 gT).2 (FK dM fp).2 (by rw[q2];exact bu)
theorem ahU(D:aP j A f m)(cu:j.i.units+64<cLine){k u:M}{s:Bool}(b:Qp k u=o s)(aH:ca j.b m.d k l)(a8:ca j.b m.d u ad):ry j m P S .Eq .NotEq l ad s:=by induction k using M.casesOn with
 |j p=>induction u using M.casesOn with|j z=>exact ahW D cu b (vq aH) (vq a8)|_=>exact bb b
 |e=>rw[vp aH];induction u using M.casesOn with|e=>rw[vp a8];obtain rfl:=aJ b;exact⟨fun u=>EqNone.eq_none_none (u _),fun u=>EqNone.ne_none_none (u _)⟩|b i=>exact r2 a8 fun s=>aJ b▸⟨fun u=>EqNone.eq_none_int (u _),fun u=>EqNone.ne_none_int (u _)⟩|_=>exact bb b
 |b i=>exact r2 aH fun s=>by induction u using M.casesOn with|e=>rw[vp a8];obtain rfl:=aJ b;exact⟨fun u=>EqNone.eq_int_none (u _),fun u=>EqNone.ne_int_none (u _)⟩|b Q=>exact r2 a8 fun s=>aJ b▸⟨fun u=>PyProof.Rows.eq_int (by rw[LX];exact u _),fun u=>PyProof.Rows.ne_int (by rw[bne,LX];exact u _)⟩|_=>exact bb b
 |c i=>exact oE aH fun s=>tl b a8 fun Q s b=>aJ b▸⟨fun u=>PyProof.Rows.eq_str (by rw[Lq];exact u _),fun u=>PyProof.Rows.ne_str (by rw[bne,Lq];exact u _)⟩
 |_=>exact bb b
theorem Qq(D:aP j A f m)(cu:j.i.units+64<cLine){s:Bool}(b:Jw f d G=o s)(aH:b7 j.b m d l)(a8:b7 j.b m G ad):ry j m P S .Eq .NotEq l ad s:=th b (fun g H b=>d4 b fun e L b=>ahV D cu b (u8 D H aH) (u8 D L a8)) fun H b=>th b (fun _ _ b=>bb b) fun L b=>gb b aH fun k aH b=>gb b a8 fun u a8 b=>ahU D cu b aH a8
end
end
section
open PySem PySem.W PyProof.Rows PySem.Calls
section
variable{V bg:Type}{E:cV}{bj:eN}{c:eh}
theorem auM{F:List (List Nat×M)}{b1:List (aq×aa)}(t:fr E bj F b1){i:Nat}{u:List Nat×M}(b:F[i]?=o u):∃qc,b1[i]?=o qc∧qc.1=bx u.1∧ca E bj u.2 qc.2:=by have aw:=(eg.mp b).1;have ar:=hT (l:=b1) (i:=i) (by rw[t.1];exact aw);exact⟨_,ar,t.2.1 i _ u ar b,t.2.2 i _ u ar b⟩
theorem fr.e:fr E bj [] []:=⟨rfl,(fun _ _ _ c _=>nomatch c),(fun _ _ _ c _=>nomatch c)⟩
@[elab_as_elim]theorem AK{R:List (aq×aa)→Prop}{b1:List (aq×aa)}(t:fr E bj [] b1)(v:R []):R b1:=(Ce.mp t.1)▸v
@[elab_as_elim]theorem AJ{R:List (aq×aa)→Prop}{u:List Nat×M}{F:List (List Nat×M)}{b1:List (aq×aa)}(t:fr E bj (u::F) b1)(v:∀l b1,ca E bj u.2 l→fr E bj F b1→R ((bx u.1,l)::b1)):R b1:=by induction b1 with|nil=>exact nomatch t.1|cons qc b1=>have b:qc=(bx u.1,qc.2):=congrArg (·,qc.2) (t.2.1 0 qc u rfl rfl);rw[b];exact v qc.2 b1 (t.2.2 0 qc u rfl rfl) ⟨yM t.1,fun i b u g e=>t.2.1 (i+1) b u g e,fun i b u g e=>t.2.2 (i+1) b u g e⟩
theorem fr.b{u:List Nat×M}{F:List (List Nat×M)}{l:aa}{b1:List (aq×aa)}(g:ca E bj u.2 l)(t:fr E bj F b1):fr E bj (u::F) ((bx u.1,l)::b1):=⟨congrArg pT t.1,(fun i b k H L=>by induction i with|zero=>obtain rfl:=aJ H;obtain rfl:=aJ L;rfl|succ i=>exact t.2.1 i b k H L),(fun i b k H L=>by induction i with|zero=>obtain rfl:=aJ H;obtain rfl:=aJ L;exact g|succ i=>exact t.2.2 i b k H L)⟩
def Zt(E:cV)(bj:eN)(n:Option M)(cf:Option aa):Prop:=match n with|none=>cf=U|some k=>∃l,cf=o l∧ca E bj k l
theorem LL(v:List Nat){F:List (List Nat×M)}:∀{b1:List (aq×aa)},fr E bj F b1→Zt E bj (mJ F v) (valueAt b1 (bx v)):=by induction F with|nil=>exact fun t=>AK t rfl|cons u F ak=>
 refine fun t=>AJ t fun l b1 al t=>?_;unfold mJ valueAt;rw[m3,m3];by_cases b:u.1=v;·rw[decide_eq_true b,decide_eq_true (congrArg bx b)];exact⟨l,rfl,al⟩
 ·rw[decide_eq_false b,decide_eq_false fun c=>b (FL c)];exact ak t
end
section
variable{j:b5}{A:List (Option K)}{f:af}{m:ay}{P:aa→aT→Prop}{S:aa→aT→Prop}{d G:K}{l ad:aa}
theorem RO(D:aP j A f m)(cu:j.i.units+64<cLine){p:List M}{k:M}{s:Bool}(b:sV k p=o s)(aH:ca j.b m.d k l)(aw:uw j m p ad∨uA j.b m.d p ad):ry j m P S .In .NotIn l ad s:=d4 b fun F aG b=>gN b fun b2 aK bu=>by
 subst bu;obtain⟨c_,e3,gT⟩:=JH D.p aG aH;have n7:j.i.units+1+min 0 F.depth<cLine:=by rw[Nat.zero_min];exact gR (r' (by decide:1≤64) _) cu
 rcases aw with⟨g,N,aj,t⟩|⟨g,N,n,aj,HE,t⟩;·obtain⟨dw,dM,fp⟩:=Ef D.p aK t;have t:=ES aj dw;exact⟨fun u=>SeqAt.in_list_reads t c_ dM e3 (by rw[fp];exact n7) (u _),fun u=>SeqAt.notIn_list_reads t c_ dM e3 (by rw[fp];exact n7) (u _)⟩
 ·obtain⟨dw,dM,fp⟩:=Ef D.p aK t;have t:=F0 (D.p _ _ aj) HE dw;exact⟨fun u=>SeqAt.in_tuple_reads t c_ dM e3 (by rw[fp];exact n7) (u _),fun u=>SeqAt.notIn_tuple_reads t c_ dM e3 (by rw[fp];exact n7) (u _)⟩
theorem RD{V:Type}(p:List V):(!p.isEmpty)=p.head?.isSome:=by cases p<;>rfl
theorem RM(D:aP j A f m)(cu:j.i.units+64<cLine){s:Bool}(b:J8 f d G=o s)(aH:b7 j.b m d l)(a8:b7 j.b m G ad):ry j m P S .In .NotIn l ad s:=th b (fun g H b=>gb b aH fun k aH b=>RO D cu b aH (.inl (u8 D H a8))) fun H b=>th b (fun F L b=>oO b aH fun v hv b=>by
 obtain⟨g,b1,NP,aI,t⟩:=Jq D L a8;obtain rfl:=aJ b;have fR:(valueAt b1 (bx v)).isSome=(mJ F v).isSome:=by have w:=LL v t;induction c:mJ F v with|none=>rw[c]at w;rw[show valueAt b1 (bx v)=U from w];rfl|some k=>rw[c]at w;obtain⟨l,w,_⟩:=w;rw[w];rfl
 exact⟨fun u=>wpAny_in_of (yW ..) NP aI.mapOf (by rw[fR];exact u _),fun u=>wpAny_notIn_of (yW ..) NP aI.mapOf (by rw[fR];exact u _)⟩) fun L b=>gb b aH fun k aH b=>gb b a8 fun u a8 b=>by induction u using M.casesOn with|j p=>exact RO D cu b aH (.inr (vq a8))|c e=>refine oE a8 fun hv=>tl b aH fun g s b=>?_;obtain rfl:=aJ b;exact⟨fun u=>PyProof.Rows.in_str (by rw[RD];exact u m.b.toks),fun u=>PyProof.Rows.notIn_str (by rw[RD];exact u m.b.toks)⟩|_=>exact bb b
theorem Fz{s:Bool}(bE:∃g,l=.ref g)(b:o C=o s):ry j m P S .Is .IsNot l .none s:=by obtain⟨g,rfl⟩:=bE;obtain rfl:=aJ b;exact⟨fun u=>is_ref_none (u _),fun u=>isnot_ref_none (u _)⟩
theorem RX{s:Bool}(b:Kc d G=o s)(aH:b7 j.b m d l)(a8:b7 j.b m G ad):ry j m P S .Is .IsNot l ad s:=gb b a8 fun u a8 b=>by induction u using M.casesOn with
 |e=>rw[vp a8];induction d using K.casesOn with|c v=>obtain⟨k,_,al⟩:=aH;exact Fz ⟨_,al⟩ b|d=>exact bb b|b k=>induction k using M.casesOn with|e=>rw[vp aH];obtain rfl:=aJ b;exact⟨fun u=>is_none_none (u _),fun u=>isnot_none_none (u _)⟩|b i=>exact r2 aH fun s=>aJ b▸⟨fun u=>is_int_none (u _),fun u=>isnot_int_none (u _)⟩|c i=>exact oE aH fun s=>aJ b▸⟨fun u=>is_str_none (u _),fun u=>isnot_str_none (u _)⟩|j p=>obtain⟨g,_⟩:=vq aH;exact Fz ⟨_,rfl⟩ b|f p=>obtain⟨g,_⟩:=qM aH;exact Fz ⟨_,rfl⟩ b|k q p=>obtain⟨g,_⟩:=Fk aH;exact Fz ⟨_,rfl⟩ b|_=>exact bb b
 |_=>exact bb b
theorem sT(D:aP j A f m)(cu:j.i.units+64<cLine){bH:jh}{s:Bool}(b:bI bH f d G=o s)(aH:b7 j.b m d l)(a8:b7 j.b m G ad)(u:∀r,P (.bool s) {m.b with toks:=r}):j.e (compareOp bH l ad) P S m.b:=by induction bH with|Eq=>exact(Qq D cu b aH a8).1 u|NotEq=>exact gN b fun hv b c=>(Qq D cu b aH a8).2 (c▸u)|In=>exact(RM D cu b aH a8).1 u|NotIn=>exact gN b fun hv b c=>(RM D cu b aH a8).2 (c▸u)|Is=>exact(RX b aH a8).1 u|IsNot=>exact gN b fun hv b c=>(RX b aH a8).2 (c▸u)|Lt=>exact ou b aH a8 fun _ _ _ _ b=>PyProof.Rows.lt_int (aJ b▸u _)|LtE=>exact ou b aH a8 fun _ _ _ _ b=>PyProof.Rows.le_int (aJ b▸u _)|Gt=>exact ou b aH a8 fun _ _ _ _ b=>PyProof.Rows.gt_int (aJ b▸u _)|GtE=>exact ou b aH a8 fun _ _ _ _ b=>PyProof.Rows.ge_int (aJ b▸u _)
inductive Zy(i:Int)(r Q:Nat):Prop|e(c:0≤i)(L:i<2^63)(bZ:Q=i.toNat)(ah:Q<r)|b(c:i<0)(H: -(2^63)≤i)(bZ:Q=(i+r).toNat)(a4: -(r:Int)≤i)(ah:Q<r)
theorem EE{i:Int}{r:Nat}(q:0≤i∧i<r):i.toNat<r:=(Int.toNat_lt q.1).2 q.2
theorem amc{i:Int}{r:Nat}(q:i<r)(ah:r≤100000):i<2^63:=B8 q (g4 (tA.2 ah) (by decide))
theorem R5{i:Int}{r:Nat}(q:0≤i+r): -(r:Int)≤i:=Int.le_of_sub_nonneg (by rw[Int.sub_neg];exact q)
theorem amd{i:Int}{r:Nat}(q: -(r:Int)≤i)(ah:r≤100000): -(2^63)≤i:=g4 (Int.neg_le_neg (g4 (tA.2 ah) (by decide))) q
theorem u6{i:Int}{r:Nat}(q:(a6 (0≤i)&&a6 (i<r))=I):0≤i∧i<r:=let c:=e5.1 q;⟨of_decide_eq_true c.1,of_decide_eq_true c.2⟩
theorem Ew{R:Prop}{V:Type}{r:Nat}{i:Int}{p:List V}{u:V}(b:(hA r i).bind (p[·]?)=o u)(v:∀Q,tO i r=o Q→r≤cK→Zy i r Q→p[Q]?=o u→R):R:=d4 b fun Q H b=>by
 unfold hA at H;by_cases ah:r≤cK;·
  rw[if_pos ah]at H;refine v Q H ah ?_ b;have Nu:r≤100000:=ah;unfold tO at H;by_cases aX:i<0;·rw[if_pos aX]at H;exact eO H fun q bZ=>.b aX (amd (R5 (u6 q).1) Nu) bZ.symm (R5 (u6 q).1) (bZ▸EE (u6 q))
  ·rw[if_neg aX]at H;exact eO H fun q bZ=>.e (oP.mp aX) (amc (u6 q).2 Nu) bZ.symm (bZ▸EE (u6 q))
 ·rw[if_neg ah]at H;exact bb H
def Ab(y:aT)(l:aa):Prop:=∃aB,y.TypeIs l aB∧∃j2,typeLookup (.type aB) "__getitem__"=d6 (o (.builtin j2))
theorem aqU(D:aP j A f m){p:List M}{k:M}(aH:uw j m p l){i:Int}{s:Tok}(b:(hA p.length i).bind (p[·]?)=o k)(Z:ie j A f m P k):j.e (sg l (.int i s)) P S m.b∧Ab m.b l:=by obtain⟨g,N,aj,t⟩:=aH;refine Ew b fun Q L aR bZ bh=>?_;obtain⟨x,c2,uk⟩:=t.i bh;have u:P x m.b:=Z x m (ay.c.p m) D uk;refine⟨?_,"list",aj.isList.typeIs,_,slot_list_getitem.lookup⟩;have ia:N.toArray.size=p.length:=t.1;induction bZ with|e aX dM bZ ah=>exact wpAny_getItem_list aj.isList aX dM (by rw[←bZ];simpa using c2) u|b aX dw bZ a4 ah=>exact wpAny_getItem_list_neg aj.isList aX (by rw[ia];exact a4) dw (by rw[ia,←bZ];simpa using c2) u
theorem aqR(D:aP j A f m){F:List (List Nat×M)}{k:M}(aH:z' j m F l){v:List Nat}{s:Tok}(b:mJ F v=o k)(Z:ie j A f m P k):j.e (sg l (.str (bx v) s)) P S m.b∧Ab m.b l:=by obtain⟨g,b1,a8,aI,t⟩:=aH;have w:=LL v t;rw[b]at w;obtain⟨x,w,uk⟩:=w;exact⟨wpAny_getItem_of (yW ..) aI.mapOf w (Z x _ (ay.c.d _) (D.au _) uk),"dict",aI.typeIs,_,slot_dict_getitem.lookup⟩
theorem aqW(D:aP j A f m){p:List M}{k:M}(aH:uA j.b m.d p l){i:Int}{s:Tok}(b:(hA p.length i).bind (p[·]?)=o k)(Z:ie j A f m P k):j.e (sg l (.int i s)) P S m.b∧Ab m.b l:=by
 obtain⟨g,N,n,aj,bu,t⟩:=aH;refine Ew b fun Q L aR bZ bh=>?_;obtain⟨x,c2,uk⟩:=t.i bh;have u:P x m.b:=Z x m (ay.c.p m) D uk;have c:IsTup m.b.heap g N.toArray:=⟨n,D.p _ _ aj,bu⟩;have aN: -(2^63)≤i∧i<2^63:=by induction bZ with|e aX dM bZ ah=>exact⟨g4 (by decide) aX,dM⟩|b aX dw bZ a4 ah=>exact⟨dw,B9 aX (by decide)⟩
 exact⟨PyProof.Rows.getItem_tuple c aN.1 aN.2 (by rw[GF,t.1];exact L) (by simpa using c2) u,"tuple",c.typeIs,_,PySem.F.slot_tuple_getitem.lookup⟩
theorem aqV(D:aP j A f m){p:List Nat}{k:M}{i:Int}{s hv:Tok}(b:((hA p.length i).bind (p[·]?)).map (fun q=>M.c [q])=o k)(Z:ie j A f m P k):j.e (sg (.str (bx p) hv) (.int i s)) P S m.b∧Ab m.b (.str (bx p) hv):=gN b fun q b c=>Ew b fun Q L aR bZ bh=>by
 have aN: -(2^63)≤i∧i<2^63:=by induction bZ with|e aX dM bZ ah=>exact⟨g4 (by decide) aX,dM⟩|b aX dw bZ a4 ah=>exact⟨dw,B9 aX (by decide)⟩
 exact⟨PyProof.Rows.getItem_str (by simpa using aN) (c:=q) (by rw[nM,L];simpa[bx]using bh) (Z.c D c rfl _ _),"str",rfl,_,PySem.F.slot_str_getitem.lookup⟩
theorem aqQ(D:aP j A f m){k:M}(b:hR f d G=o k)(aH:b7 j.b m d l)(a8:b7 j.b m G ad)(Z:ie j A f m P k):j.e (sg l ad) P S m.b∧Ab m.b l:=th b (fun p H b=>nO b a8 fun i s b=>aqU D (u8 D H aH) b Z) fun H b=>th b (fun F L b=>oO b a8 fun v s b=>aqR D (Jq D L aH) b Z) fun L b=>gb b aH fun u aH b=>by induction u using M.casesOn with|j p=>exact nO b a8 fun i s b=>aqW D (vq aH) b Z|c p=>exact oE aH fun hv=>nO b a8 fun i s b=>aqV D b Z|_=>exact bb b
end
end
section
open PySem PySem.W PyProof.Rows PySem.Calls
structure dU where
 b:gw
 g:List aq
 e:List aq
 c:di
 i:Option (gw→a0→Option aZ)
def sI(E:cV)(aS:g6)(dg:List aD)(X:ea):Prop:=∀(aL:dQ)(O:aD)(bM kX:List aq)(ax:List Nat)(A:List (Option K))(f:af)(m:ay)(w:Nat)(g:aD)(ag:List K)(N:List aa),aP ⟨E,aS,aL,O,dg,bM,kX,ax,X⟩ A f m→f_[w]?=o g→em E m ag N→d3 ⟨E,aS,aL,O,dg,bM,kX,ax,X⟩ (b7 E) A m (eT (.ref g) N) (X w ag f)
def qp(E:cV):Prop:=∀(i:Nat)(g:aD),f_[i]?=o g→keepIn E.b (.ref g)=I
structure pb(aS:g6)(aL:dQ)(dg:List aD):Prop where
 c:∃w,aL.frame=o w∧w∈dg
 e:∃p CG HX,aS.frames=o p∧p.dropWhile (fun d=>d.frame !=aL.frame)=CG::HX∧CG.frame=aL.frame∧∀b∈CG::HX,b.scope.kind≠.module∧∃g∈dg,b.frame=o g
structure dC(au:dU)(j:b5):Prop where
 k:j.c.scope.kind=.function
 z:∀d,au.b.lookup d=o .cell∨au.b.lookup d=o .free→∃g,j.c.cells.lookup d=o g
 H:∀d v,au.b.lookup d=o v→j.c.kindOf d=o v∨(v=.free∧j.c.kindOf d=o .cell)
 J:au.g=j.t
 u:au.e=j.x
 s:au.c=j.b.b
 L:∀w,au.i=o w→j.b.k=j.c.qual++("<lambda>":aq)∧(∃q,j.c.code=.ref q∧∀c:eh,j.b.b.In c→CodeHd c q j.b.f)∧∀bN e b,w bN e=o b→j.b.j bN e b
 r:j.c.globals=hW
 t:j.c.builtins=m8
 D:j.c.locals=j.m
 N:j.t.Nodup
 i:j.i.handled=U
 F:j.i.depth≤900
 E:j.i.units+64<cLine
 p:pb j.i j.c j.k
 x:qp j.b
 y:sI j.b j.i j.k j.l
theorem dC.n{au:dU}{j:b5}(aA:dC au j){d:aq}{v:lp}(c:au.b.lookup d=o v)(ar:v≠.free):j.c.kindOf d=o v:=(aA.H d v c).elim id fun b=>absurd b.1 ar
abbrev b5.n(j:b5)(g:aZ)(A:List (Option K))(f:af):bJ K:=Mine.d_ j.l dm g A j.p f
abbrev b5.w(j:b5)(g:aZ)(A:List (Option K))(f:af):bJ (List K):=Mine.mM j.l dm g A j.p f
def kC(_:ay)(g e:Bool):Prop:=g=e
def hm(z:bJ K):bJ Bool:=bU z fun d f=>cI (ki d) f
def uu(j:b5)(b:a0)(g:aZ):Prop:=∀A f m,aP j A f m→d3 j (b7 j.b) A m (eD b j.c) (j.n g A f)
def Zj(j:b5)(b:a0)(g:aZ):Prop:=∀A f m,aP j A f m→d3 j kC A m (isTrue b j.c (eD b j.c)) (hm (j.n g A f))
structure c4(j:b5)(b:a0)(g:aZ):Prop where
 e:uu j b g
 i:Zj j b g
section
variable{V bg dk ek:Type}{j:b5}{au:dU}{A:List (Option K)}{f:af}{m:ay}{P:aa→aT→Prop}{S:aa→aT→Prop}{d G:K}{l ad:aa}{bk:ay→V→bg→Prop}{lm:ay→dk→ek→Prop}
theorem Aw(z:bJ K)(w:Bool→af→bJ V):bU z (fun d f=>hS d fun s=>w s f)=bU (hm z) w:=by
 rcases z with _|⟨k|d,f⟩;·rfl
 ·rfl
 ·show hS d (fun s=>w s f)=bU (cI (ki d) f) w;unfold hS;rcases ki d with _|s<;>rfl
theorem op(z:bJ V)(w:V→af→bJ bg)(v:bg→af→bJ dk):bU (bU z w) v=bU z fun d f=>bU (w d f) v:=by rcases z with _|⟨k|d,f⟩<;>rfl
theorem FZ{s:Bool}(b:ki d=o s)(aH:b7 j.b m d l){P:Bool→aT→Prop}(u:P s m.b):j.e (truthy l) P S m.b:=gb b aH fun k al b=>by induction k using M.casesOn with|g e=>rw[K7 al];exact v8 (aJ b▸u)|b i=>exact r2 al fun hv=>PyProof.Rows.truthy_int (by rw[show(i !=0)=s from by rw[←aJ b];exact(decide_not).symm];exact u)|_=>exact bb b
theorem arJ{s:Sem aa}{z:bJ K}(cS:d3 j (b7 j.b) A m s z):bL j kC A m (fun P S=>j.e s (fun l bQ=>j.e (truthy l) P S bQ) S m.b) (hm z):=cS.b fun d a1 l ae db dE ds=>bL.i fun G b P S Z=>FZ b ds (Z G ae (ay.c.p _) dE rfl)
theorem bL.n{s:Sem aa}(c:∀(P:aa→aT→Prop)S,(∀l r,b7 j.b m d l→P l {m.b with toks:=r})→j.e s P S m.b)(D:aP j A f m):d3 j (b7 j.b) A m s (cW d f):=bL.e fun P S Z=>c P S fun l r t=>Z l _ (ay.c.d _) (D.au r) (t.b (ay.c.d _))
theorem c4.k{b:a0}{g:aZ}(aU:∀z2,isTrue b j.c z2=(do let l←z2;standAt b.pos;holding [l] (truthy l)))(c:uu j b g):c4 j b g:=⟨c,fun A f m D=>bL.c (fun P S c=>isTrue_plain c (aU _)) (arJ (c A f m D))⟩
theorem aeF{q:Const}{k:M}{v:Nat}{ap:bc}(c:P3 q=o k):c4 j (.Constant q v ap) (.b k):=.k (fun _=>rfl) fun A f m D=>bL.n (fun P S Z=>by rw[eval_Constant];induction q with|none=>obtain rfl:=aJ c;exact c9 (Z _ m.b.toks .qr)|bool e=>obtain rfl:=aJ c;exact c9 (Z _ m.b.toks (.rC e))|int i=>obtain rfl:=aJ c;exact fun _ _ _=>Z _ (m.b.toks+1) (.ns i _)|str d=>obtain rfl:=aJ c;exact fun _ _ _=>Z _ (m.b.toks+1) (ca.og d.cps.toList _)|_=>exact bb c) D
theorem rV{d:aq}{p:List aq}{i:Nat}(b:jK d p=o i):p[i]?=o d:=by obtain⟨c,k,_⟩:=L0.mp b;exact(hT c).trans (congrArg o (beq_iff_eq.mp k).symm)
theorem alN{g:aD}{p:List aD}{i:Nat}(b:RI g p=o i):p[i]?=o g:=by obtain⟨c,k,_⟩:=L0.mp b;exact(hT c).trans (congrArg o (g5 k).symm)
theorem aqL{d:aq}{p:List Nat}(c:d.cps.toList=p):d=⟨p.toArray⟩:=c▸rfl
theorem sU{d:aq}(c:hi d=C):(d==("__debug__":aq))=C:=by rw[show("__debug__":aq)=⟨#[95,95,100,101,98,117,103,95,95]⟩from by decide+kernel];refine beq_false_of_ne fun u=>?_;rw[u]at c;exact nomatch c
theorem aea{d:aq}(c:EA d=C):(d==("__classdict__":aq))=C:=by rw[show("__classdict__":aq)=⟨#[95,95,99,108,97,115,115,100,105,99,116,95,95]⟩from by decide+kernel];refine beq_false_of_ne fun u=>?_;rw[u]at c;exact nomatch c
theorem arP{r:String}{e:i9}(b:LG r=o e):.type r=e.sH:=by
 unfold LG at b;repeat'(split at b)
 all_goals first|(rename_i u;obtain rfl:=aJ b;rw[beq_iff_eq.mp u];rfl)|exact bb b
theorem acN{r:String}{e:i9}(b:IW r=o e):.builtin r=e.sH:=by
 unfold IW at b;repeat'(split at b)
 all_goals first|(rename_i u;obtain rfl:=aJ b;rw[beq_iff_eq.mp u];rfl)|exact bb b
theorem Uv{E:cV}{bj:eN}{l:aa}{k:M}(b:qU l=o k):ca E bj k l:=by induction l with|none=>exact aJ b▸.qr|bool e=>exact aJ b▸.rC _|int i s=>exact aJ b▸.ns _ _|str d s=>exact aJ b▸ca.og d.cps.toList _|ref g=>exact gN b fun i u c=>c▸.Dx (alN u)|type r=>exact gN b fun e u c=>c▸arP u▸.wT e|builtin r=>exact gN b fun e u c=>c▸acN u▸.wT e|_=>exact bb b
theorem Kt(bS:j.b.b.In m.b.heap)(cN:j.c.globals=hW)(aN:j.c.builtins=m8){d:aq}(c:pn j.b.b d=o l)(u:P l m.b):j.e (loadGlobal j.c d) P S m.b:=by unfold loadGlobal;rw[cN,aN];unfold pn at c;induction H:nsIn j.b.b hW d with|none=>rw[H]at c;exact bb c|some n=>rw[H]at c;induction n with|some x=>obtain rfl:=aJ c;exact bo ((yQ bS H).here (c9 u))|none=>exact d4 c fun n L c=>bo ((yQ bS H).here (bo ((yQ bS (L.trans (congrArg o c))).here (c9 u))))
theorem ajw(aA:dC au j){d:aq}{l:aa}{k:M}{ap:bc}(aI:hi d=C)(ar:au.b.lookup d=o .globalImplicit)(bE:pn au.c d=o l)(al:qU l=o k):c4 j (.Name d ap) (.b k):=.k (fun _=>rfl) fun A f m D=>bL.n (fun P S Z=>GN aA.k (aA.n ar nofun) (Kt D.R aA.r aA.t (aA.s▸bE) (Z l m.b.toks (Uv al))) (sU aI)) D
theorem amR(aA:dC au j){d:aq}{i:Nat}{ap:bc}(aI:hi d=C)(ar:au.b.lookup d=o .local)(a4:jK d au.g=o i):c4 j (.Name d ap) (.c i):=.k (fun _=>rfl) fun A f m D=>by
 rw[aA.J]at a4;obtain⟨z,a9,_,aw⟩:=D.P;have aH:=(aw i d (rV a4)).1;show d3 j (b7 j.b) A m _ (yc A[i]? f);rcases c:A[i]?with _|_|G;·exact bL.d
 ·exact bL.d
 ·obtain⟨ad,cu,t⟩:=aH G c;exact bL.n (fun P S Z=>wpAny_Name (Mg aA.k (aA.n ar nofun) (aA.D▸a9) cu (Z ad m.b.toks t)) (sU aI)) D
theorem aeb{R:Prop}{n:eJ}{E:cV}{k:aD×aD}{z:bJ K}(a9:D1 n f=z)(t:iN E m k n)(mz:z=U→R)(v:∀G n ad,z=cW G f→m.b.heap.get? k.1=o n→n.data=.cell (o ad)→b7 E m G ad→R):R:=by induction t with|sL aU n ad aj aI t=>exact v _ n ad a9.symm aj aI t|_=>exact mz a9.symm
theorem PR(aA:dC au j){d:aq}{i:Nat}{ap:bc}(aI:hi d=C)(bf:EA d=C)(ar:au.b.lookup d=o .cell∨au.b.lookup d=o .free)(a4:jK d au.e=o i):c4 j (.Name d ap) (.v i):=.k (fun _=>rfl) fun A f m D=>by
 rw[aA.u]at a4;obtain⟨g,aY⟩:=aA.z d ar;have Xk:j.c.kindOf d=o .cell∨j.c.kindOf d=o .free:=ar.elim (fun c=>.inl (aA.n c nofun)) fun c=>(aA.H d _ c).elim .inr fun b=>.inl b.2;show d3 j (b7 j.b) A m _ (PQ j.p[i]? f);rcases c:j.p[i]?with _|v;·exact bL.d (j:=j)
 ·obtain⟨k,al,rfl⟩:=D.Y.2 i v d g c (rV a4) aY;show d3 j (b7 j.b) A m _ ((f[v]?).bind fun n=>D1 n f);rcases aj:f[v]?with _|n;·exact bL.d
  ·show d3 j (b7 j.b) A m _ (D1 n f);refine aeb (f:=f) rfl (D.S v k n al aj) (fun b=>?_) fun G n ad b H L t=>?_;·rw[b];exact bL.d
   ·rw[b];refine bL.n (fun P S Z=>wpAny_Name ?_ (sU aI)) D;rcases Xk with ar|ar;·exact wpAny_loadName_cell aA.k ar aY ⟨n,H,L⟩ (Z ad m.b.toks t)
    ·exact wpAny_loadName_free aA.k ar aY ⟨n,H,L⟩ (Z ad m.b.toks t) (aea bf)
theorem bL.p{cc:kF aa}{n:Option M}(c:∀k,n=o k→∀(P:aa→aT→Prop)S,ie j A f m P k→cc P S):bL j (b7 j.b) A m cc (cI (n.map .b) f):=bL.i fun G b P S Z=>gN b fun k b bl=>c k b P S fun l ae O D t=>Z l ae O D (bl▸t)
theorem acP{p t:a0}{g e:aZ}{bH:pV}{ap:bc}(H:c4 j p g)(L:c4 j t e):c4 j (.BinOp p bH t ap) (.f bH g e):=.k (fun _=>rfl) fun A f m D=>by show d3 j _ _ _ _ (bU (j.n g A f) fun d f=>bU (j.n e A f) fun G f=>cI ((fF bH d G).map K.b) f);exact bL.c (fun P S=>wpAny_BinOp) ((H.e A f m D).b fun d bW l ba cH bG cs=>(L.e A bW ba bG).b fun G el ad bB dd bD fv=>bL.p fun k b P S Z=>acT bD b (cs.b dd) fv Z)
theorem Ug{d:a0}{g e:aZ}{bH:UnaryOp}{w:Int→Int}{ap:bc}(aN:∀A ax f X,d_ X dm e A ax f=bU (d_ X dm g A ax f) fun d f=>fc d fun i=>cW (.b (.b (w i))) f)(CX:∀z2,isTrue (.UnaryOp bH d ap) j.c z2=(do let l←z2;standAt ap;holding [l] (truthy l)))(c2:∀(y:aT)(i:Int)(s:Tok)(P:aa→aT→Prop)(S:aa→aT→Prop),P (.int (w i) y.toks) {y with toks:=y.toks+1}→j.e (unaryOp bH (.int i s)) P S y)(H:c4 j d g):c4 j (.UnaryOp bH d ap) e:=.k CX fun A f m D=>by rw[b5.n,aN];exact bL.c (fun P S=>wpAny_UnaryOp) ((H.e A f m D).b fun G bW l ba cH bG cs t a1 b P S Z=>nO b cs fun i s b=>by obtain⟨rfl,rfl⟩:=bw (aJ b);exact c2 _ _ _ _ _ (Z _ _ (ay.c.d _) (bG.au _) (ca.ns _ _)))
theorem anT{d:a0}{g:aZ}{ap:bc}(H:c4 j d g):c4 j (.UnaryOp .USub d ap) (.t g):=Ug (w:=fun i=> -i) (fun _ _ _ _=>rfl) (fun _=>rfl) (fun y i s P S u=>PyProof.Rows.neg_int u) H
theorem alX{d:a0}{g:aZ}{ap:bc}(H:c4 j d g):c4 j (.UnaryOp .Invert d ap) (.A g):=Ug (w:=Builtin.bitNot) (fun _ _ _ _=>rfl) (fun _=>rfl) (fun y i s P S u=>PyProof.Rows.invert_int u) H
end
end
section
open PySem PySem.W PyProof.Rows PySem.Calls
section
variable{V bg dk ek:Type}{j:b5}{au:dU}{A:List (Option K)}{f:af}{m:ay}{P:aa→aT→Prop}{S:aa→aT→Prop}{d G:K}{l ad:aa}{bk:ay→V→bg→Prop}{lm:ay→dk→ek→Prop}
theorem bL.k{cc:kF Bool}{z:bJ Bool}{ao:Bool→aT→kF ek}{w:Bool→af→bJ dk}(c:bL j kC A m cc z)(ar:∀s a1 ae,m.c ae→aP j A a1 ae→bL j lm A ae (ao s ae.b) (w s a1)):bL j lm A m (fun P S=>cc (fun l y=>ao l y P S) S) (bU z w):=c.b fun s a1 l ae O D t=>by obtain rfl:s=l:=t;exact ar s a1 ae O D
theorem bL.g{cc:kF bg}{q:V}{F:bg}(D:aP j A f m)(t:bk m q F)(c:∀(P:bg→aT→Prop)S,P F m.b→cc P S):bL j bk A m cc (cW q f):=bL.e fun P S Z=>c P S (Z F m (ay.c.p m) D t)
theorem aoj{b:a0}{g:aZ}{ap:bc}(c:c4 j b g):c4 j (.UnaryOp .Not b ap) (.s g)where
 e:=fun A f m D=>by
  show d3 j _ _ _ _ (bU (j.n g A f) fun d f=>hS d fun s=>cW (K.b (.g !s)) f);rw[Aw (w:=fun s f=>cW (K.b (.g !s)) f)];refine bL.c (fun P S=>wpAny_UnaryOp) ?_;rw[hm,op];refine(c.e A f m D).b fun d bW l ba cH bG cs=>?_;rcases u:ki d with _|s;·exact bL.d
  ·exact bL.e fun P S Z=>not_of (FZ u cs (Z _ ba (ay.c.p _) bG (ca.rC _)))
 i:=fun A f m D=>by show d3 j kC _ _ _ (hm (bU (j.n g A f) fun d f=>hS d fun s=>cW (K.b (.g !s)) f));rw[Aw (w:=fun s f=>cW (K.b (.g !s)) f),hm,op];exact bL.c (fun P S=>isTrue_not) ((c.i A f m D).k (ao:=fun q y P S=>P (!q) y) fun s a1 ae O dE=>bL.g (bk:=kC) dE rfl fun P S u=>u)
theorem al9{q p t:a0}{s g e:aZ}{ap:bc}(aX:c4 j q s)(H:c4 j p g)(L:c4 j t e):c4 j (.IfExp q p t ap) (.m s g e)where
 e:=fun A f m D=>by
  show d3 j _ _ _ _ (bU (j.n s A f) fun d f=>hS d fun s=>an s (j.n g A f) (j.n e A f));rw[Aw (w:=fun s f=>an s (j.n g A f) (j.n e A f))];refine bL.c (fun P S=>IfExp_) ((aX.i A f m D).k (ao:=fun q y P S=>if q=I then j.e (eD p j.c) P S y else j.e (eD t j.c) P S y) fun s a1 ae O dE=>?_);rcases s;·exact L.e A a1 ae dE
  ·exact H.e A a1 ae dE
 i:=fun A f m D=>by
  show d3 j kC _ _ _ (hm (bU (j.n s A f) fun d f=>hS d fun s=>an s (j.n g A f) (j.n e A f)));rw[Aw (w:=fun s f=>an s (j.n g A f) (j.n e A f)),hm,op];refine bL.c (fun P S=>isTrue_IfExp) ((aX.i A f m D).k (ao:=fun q y P S=>if q=I then j.e (isTrue p j.c (eD p j.c)) P S y else j.e (isTrue t j.c (eD t j.c)) P S y) fun s a1 ae O dE=>?_);rcases s;·exact L.i A a1 ae dE
  ·exact H.i A a1 ae dE
theorem ac0{d:a0}{bH:pU}{g:aZ}{ap:bc}(c:c4 j d g):c4 j (.BoolOp bH [d] ap) g where
 e:=by rw[uu,show eD (.BoolOp bH [d] ap) j.c=eD d j.c from by rw[arm_eval_BoolOp];rfl];exact c.e
 i:=fun A f m D t a1 b P S Z=>by have cS:=c.i A f m D t a1 b;induction bH with
  |And=>
   refine isTrue_and (cS _ S ?_);rcases t with k|s;·exact Z
   ·intro hv ae db dE ds;obtain rfl:s=hv:=ds;rcases s;·exact Z _ ae db dE rfl
    ·exact isTrue_and_nil (Z _ ae db dE rfl)
  |Or=>
   refine isTrue_or (cS _ S ?_);rcases t with k|s;·exact Z
   ·intro hv ae db dE ds;obtain rfl:s=hv:=ds;rcases s;·exact isTrue_or_nil (Z _ ae db dE rfl)
    ·exact Z _ ae db dE rfl
def ac1(bH:pU)(s:Bool)(ad l:bJ Bool):bJ Bool:=match bH with|.And=>an s l ad|.Or=>an s ad l
theorem ac3(bH:pU)(g e:aZ):hm (j.n (.p bH g e) A f)=bU (hm (j.n g A f)) fun s f=>ac1 bH s (cW s f) (hm (j.n e A f)):=by
 show hm (bU (j.n g A f) fun d f=>hS d fun s=>rH bH s (cW d f) (j.n e A f))=_;rw[hm,hm,op,op];congr 1;funext d f;unfold hS;rcases u:ki d with _|s;·rfl
 ·rcases bH<;>rcases s<;>first|rfl|(show cI (ki d) f=_;rw[u];rfl)
theorem ac2{d G:a0}{t:List a0}{bH:pU}{g e:aZ}{ap:bc}(H:c4 j d g)(L:c4 j (.BoolOp bH (G::t) ap) e):c4 j (.BoolOp bH (d::G::t) ap) (.p bH g e)where
 e:=fun A f m D=>by
  show d3 j _ _ _ _ (bU (j.n g A f) fun d f=>hS d fun s=>rH bH s (cW d f) (j.n e A f));have Oz:∀{d bW l ba}{cc:kF aa},aP j A bW ba→b7 j.b ba d l→(∀s,ki d=o s→∀P S,(match bH,s with|.And,I=>j.e (eD (.BoolOp bH (G::t) ap) j.c) P S ba.b|.And,C=>P l ba.b|.Or,I=>P l ba.b|.Or,C=>j.e (eD (.BoolOp bH (G::t) ap) j.c) P S ba.b)→cc P S)→bL j (b7 j.b) A ba cc (hS d fun s=>rH bH s (cW d bW) (j.n e A bW)):=by
   intro d bW l ba cc bG cs c2;unfold hS;rcases u:ki d with _|s;·exact bL.d
   ·rcases bH<;>rcases s;·exact bL.g (bk:=b7 j.b) bG cs fun P S j4=>c2 _ u P S j4
    ·exact bL.c (fun P S=>c2 _ u P S) (L.e A bW ba bG)
    ·exact bL.c (fun P S=>c2 _ u P S) (L.e A bW ba bG)
    ·exact bL.g (bk:=b7 j.b) bG cs fun P S j4=>c2 _ u P S j4
  rcases bH;·exact bL.c (fun P S=>BoolOp_and) ((H.e A f m D).b fun d bW l ba cH bG cs=>Oz bG cs fun s u P S c=>FZ u cs (by rcases s<;>exact c))
  ·exact bL.c (fun P S=>BoolOp_or) ((H.e A f m D).b fun d bW l ba cH bG cs=>Oz bG cs fun s u P S c=>FZ u cs (by rcases s<;>exact c))
 i:=fun A f m D=>by
  rw[ac3];rcases bH;·
   refine bL.c (fun P S=>isTrue_and) ((H.i A f m D).k (ao:=fun q y P S=>if q=I then j.e (isTrue (.BoolOp .And (G::t) ap) j.c (eD (.BoolOp .And (d::G::t) ap) j.c)) P S y else P C y) fun s a1 ae O dE=>?_);rcases s;·exact bL.g (bk:=kC) dE rfl fun P S u=>u
   ·exact L.i A a1 ae dE
  ·refine bL.c (fun P S=>isTrue_or) ((H.i A f m D).k (ao:=fun q y P S=>if q=I then P I y else j.e (isTrue (.BoolOp .Or (G::t) ap) j.c (eD (.BoolOp .Or (d::G::t) ap) j.c)) P S y) fun s a1 ae O dE=>?_);rcases s;·exact L.i A a1 ae dE
   ·exact bL.g (bk:=kC) dE rfl fun P S u=>u
theorem E8{bH:jh}{t:a0}(c:ov t=C):behindInMarks bH t=C:=by rcases t<;>first|rfl|exact nomatch c
theorem bL.q{cc:kF aa}{n:Option Bool}(D:aP j A f m)(c:∀s,n=o s→∀(P:aa→aT→Prop)S,(∀r,P (.bool s) {m.b with toks:=r})→cc P S):bL j (b7 j.b) A m cc (cI (n.map fun s=>.b (.g s)) f):=bL.i fun G b P S Z=>gN b fun s b bl=>c s b P S fun r=>Z _ _ (ay.c.d _) (D.au r) (bl▸ca.rC s)
theorem bL.r{cc:kF Bool}{n:Option Bool}(D:aP j A f m)(c:∀s,n=o s→∀(P:Bool→aT→Prop)S,(∀r,P s {m.b with toks:=r})→cc P S):bL j kC A m cc (hm (cI (n.map fun s=>K.b (.g s)) f)):=by
 rcases n with _|s;·exact bL.d
 ·exact bL.e fun P S Z=>c s rfl P S fun r=>Z _ _ (ay.c.d _) (D.au r) rfl
theorem aen{p t:a0}{g e:aZ}{bH:jh}{ap:bc}(aW:ov t=C)(cu:j.i.units+64<cLine)(H:c4 j p g)(L:c4 j t e):c4 j (.Compare p [bH] [t] ap) (.i bH g e)where
 e:=fun A f m D=>by show d3 j _ _ _ _ (bU (j.n g A f) fun d f=>bU (j.n e A f) fun G f=>cI ((bI bH f d G).map fun s=>K.b (.g s)) f);exact bL.c (fun P S c=>wpAny_Compare1 c (E8 aW)) ((H.e A f m D).b fun d bW l ba cH bG cs=>(L.e A bW ba bG).b fun G el ad bB dd bD fv=>bL.q bD fun s b P S u=>sT bD cu b (cs.b dd) fv u)
 i:=fun A f m D=>by show d3 j kC _ _ _ (hm (bU (j.n g A f) fun d f=>bU (j.n e A f) fun G f=>cI ((bI bH f d G).map fun s=>K.b (.g s)) f));rw[hm,op];refine bL.c (fun P S c=>wpAny_isTrue_Compare1 c (E8 aW)) ((H.e A f m D).b fun d bW l ba cH bG cs=>?_);rw[op];exact(L.e A bW ba bG).b fun G el ad bB dd bD fv=>bL.r bD fun s b P S u=>sT bD cu b (cs.b dd) fv fun r=>v8 (u r)
theorem aeo{p t u:a0}{g e q:aZ}{hs ix:jh}{ap:bc}(aW:ov u=C)(cu:j.i.units+64<cLine)(H:c4 j p g)(L:c4 j t e)(aR:c4 j u q):c4 j (.Compare p [hs,ix] [t,u] ap) (.z g hs e ix q)where
 e:=fun A f m D=>by
  show d3 j _ _ _ _ (bU (j.n g A f) fun d f=>bU (j.n e A f) fun G f=>Fc (bI hs f d G) (bU (j.n q A f) fun x f=>cI ((bI ix f G x).map fun s=>K.b (.g s)) f) (cW (K.b (.g C)) f));refine bL.c (fun P S c=>Compare_chain c (E8 aW)) ((H.e A f m D).b fun d bW l ba cH bG cs=>bL.c (fun P S=>chain_link) ((L.e A bW ba bG).b fun G el ad bB dd bD fv=>?_));rcases zR:bI hs el d G with _|s;·exact bL.d
  ·rcases s;·exact bL.e fun P S Z=>sT bD cu zR (cs.b dd) fv fun r=>v8 (Z _ _ (ay.c.d _) (bD.au r) (ca.rC _))
   ·refine fun x a1 b P S Z=>sT bD cu zR (cs.b dd) fv fun r=>v8 (chain_last ?_);exact((aR.e A el (bB.k {bB.b with toks:=r}) (bD.au r)).b (lm:=b7 j.b) (ao:=fun e bQ P S=>j.e (compareOp ix ad e) P S bQ) fun e_ sA f2 n_ m' i2 ww=>bL.q i2 fun s b P S u=>sT i2 cu b (fv.b ((ay.c.d _).k m')) ww u) x a1 b P S (Z.b (ay.c.d _))
 i:=fun A f m D=>by
  show d3 j kC _ _ _ (hm (bU (j.n g A f) fun d f=>bU (j.n e A f) fun G f=>Fc (bI hs f d G) (bU (j.n q A f) fun x f=>cI ((bI ix f G x).map fun s=>K.b (.g s)) f) (cW (K.b (.g C)) f)));rw[hm,op];refine bL.c (fun P S c=>isTrue_chain c (E8 aW)) ((H.e A f m D).b fun d bW l ba cH bG cs=>bL.c (fun P S=>test_link) ?_);rw[op];refine(L.e A bW ba bG).b fun G el ad bB dd bD fv=>?_;rcases zR:bI hs el d G with _|s;·exact bL.d
  ·rcases s;·exact bL.e fun P S Z=>sT bD cu zR (cs.b dd) fv fun r=>v8 (Z _ _ (ay.c.d _) (bD.au r) rfl)
   ·refine fun x a1 b P S Z=>sT bD cu zR (cs.b dd) fv fun r=>v8 (test_last ?_);change hm (bU (j.n q A el) fun x f=>cI ((bI ix f G x).map fun s=>K.b (.g s)) f)=_ at b;rw[hm,op]at b;exact((aR.e A el (bB.k {bB.b with toks:=r}) (bD.au r)).b (lm:=kC) (ao:=fun e bQ P S=>j.e (compareOp ix ad e) (fun q cE=>j.e (truthy q) P S cE) S bQ) fun e_ sA f2 n_ m' i2 ww=>bL.r i2 fun s b P S u=>sT i2 cu b (fv.b ((ay.c.d _).k m')) ww fun r=>v8 (u r)) x a1 b P S (Z.b (ay.c.d _))
end
end
section
open PySem PySem.W PyProof.Rows PySem.Calls
section
variable{V bg dk ek:Type}{j:b5}{au:dU}{A:List (Option K)}{f:af}{m:ay}{P:aa→aT→Prop}{S:aa→aT→Prop}{d G:K}{l ad:aa}{bk:ay→V→bg→Prop}{lm:ay→dk→ek→Prop}
theorem T3{i:a0}(c:Ka i=C)(n l:aa):subscripted i C n l=operate [n,l] (sg n l):=by rcases i<;>first|rfl|exact nomatch c
theorem aqS{n i:a0}{g e:aZ}{ap:bc}(a4:Ka i=C)(H:c4 j n g)(L:c4 j i e):c4 j (.Subscript n i ap) (.k g e):=.k (fun _=>rfl) fun A f m D=>by show d3 j _ _ _ _ (bU (j.n g A f) fun d f=>bU (j.n e A f) fun G f=>cI ((hR f d G).map K.b) f);exact bL.c (fun P S=>Subscript_) ((H.e A f m D).b fun d bW l ba cH bG cs=>(L.e A bW ba bG).b fun G el ad bB dd bD fv=>bL.p fun k b P S Z=>by obtain⟨eu,aB,gi,j2,aw⟩:=aqQ (S:=S) bD b (cs.b dd) fv Z;exact tail_any gi aw eu (T3 a4 _ _))
theorem T0(iw a4:Option Int)(r:Nat):GK iw a4 1 r=(de ((a4.elim r (ji r))-iw.elim 0 (ji r))).map (iw.elim 0 (ji r)+·):=by rw[show GK iw a4 1 r=sliceRange (sliceBounds iw a4 U r).1 (sliceBounds iw a4 U r).2.1 (sliceBounds iw a4 U r).2.2 from rfl,sliceBounds_plain,sliceRange_one]
inductive wV(k:Option Int):aa→Prop|b(u:Option (Int×Tok))(c:u.map (·.1)=k)(i:IsPart (partValue u) k):wV k (partValue u)
theorem Tg{k:Option Int}(b:KZ d=o k)(t:b7 j.b m d l):wV k l:=gb b t fun G t b=>by induction G using M.casesOn with|e=>obtain rfl:=aJ b;rw[vp t];exact .b U rfl .none|b i=>obtain rfl:=aJ b;exact r2 t fun s=>.b (o (i,s)) rfl (.int _ _)|_=>exact bb b
theorem aeL{V:Type}(p:List V)(g e:Option Int)(i:Nat):(ij p g e)[i]?=if i<e.elim p.length (ji p.length)-g.elim 0 (ji p.length)then p[g.elim 0 (ji p.length)+i]?else U:=by unfold ij;rw[List.getElem?_take,vP]
theorem aeO{E:cV}{bj:eN}{p:List M}{N:List aa}(t:dV E bj p N)(g e:Option Int):dV E bj (ij p g e) (ij N g e):=by
 refine⟨by unfold ij;rw[Gx,Gx,lj,lj,t.1],fun i k l H L=>?_⟩;rw[aeL]at H L;rw[t.1]at L;by_cases a4:i<e.elim p.length (ji p.length)-g.elim 0 (ji p.length);·rw[if_pos a4]at H L;exact t.2 _ k l H L
 ·rw[if_neg a4]at H;exact bb H
theorem aqi(N:List aa)(g e:Option Int):slicePick N.toArray g e U=(ij N g e).toArray:=by rw[slicePick_plain];simp[ij]
theorem aqH(p:List Nat)(g e:Option Int):((GK g e 1 p.length).filterMap ((bx p).cps[·]?))=ij p g e:=by rw[T0,show(bx p).cps=p.toArray from rfl,pick_run];rfl
theorem P9(p:List Nat)(g e:Option Int):(ij p g e).Sublist p:=List.Sublist.trans (List.take_sublist _ _) (List.drop_sublist _ _)
theorem aqh(D:aP j A f m){p:List Nat}{g e:Option Int}{k:M}{s:Tok}{wz zZ:aa}(aw:p.length≤cK)(c:.c (ij p g e)=k)(Da:wV g wz)(Db:wV e zZ){b':aD}(aW:m.b.heap.get? b'=o {cls:=.type "slice",data:=.fields #[wz,zZ,.none]})(Z:ie j A f m P k):j.e (sg (.str (bx p) s) (.ref b')) P S m.b:=by
 obtain⟨Dd,aY,_⟩:=Da;obtain⟨De,aN,_⟩:=Db;refine wpAny_getItem_str_slice (l:=Dd) (u:=De) (st:=U) ⟨_,aW,rfl,rfl⟩ rfl ?_;have al:slicePicked (bx p) Dd De U=GK g e 1 p.length:=by unfold slicePicked;rw[aY,aN,nM];rfl
 have aK:=aqH p g e;have c2:(slicePicked (bx p) Dd De U).length=(ij p g e).length:=by
  rw[al,T0];have H:e.elim p.length (ji p.length)≤p.length:=by
   rcases e with _|e;·exact df _
   ·exact Int.toNat_le.2 (Int.max_le.2 ⟨jP _,Int.min_le_right ..⟩)
  unfold ij;rw[dA,List.length_range,Gx,lj];exact(vV (Nat.sub_le_sub_right H _)).symm
 unfold sliceMade;split;·
  rename_i cw;simp only[vJ,beq_iff_eq]at cw;have bA:ij p g e=p:=by exact(P9 p g e).eq_of_length (by rw[←c2,cw.2,nM])
  exact Z.c D c (by rw[bA]) _ _
 ·rw[al,aK];exact⟨by show(bx _).length≤_;rw[nM];exact io (bt (P9 p g e).length_le aw),Z.c D c rfl _ _⟩
theorem aqf(D:aP j A f m){p:List M}{g e:Option Int}{k:M}{wz zZ:aa}(aw:p.length≤cK)(c:.f (ij p g e)=k)(aH:sK j.b m.d p l)(Da:wV g wz)(Db:wV e zZ){b':aD}(aW:m.b.heap.get? b'=o {cls:=.type "slice",data:=.fields #[wz,zZ,.none]})(Z:ie j A f m P k):j.e (sg l (.ref b')) P S m.b∧m.b.TypeIs l "list":=by obtain⟨nX,N,r,aj,t⟩:=aH;obtain⟨Dd,_,aY⟩:=Da;obtain⟨De,_,aN⟩:=Db;have gW:wO m.b.heap nX N:=⟨r,D.p _ _ aj⟩;refine⟨wpAny_getItem_list_slice (lo:=g) (hi:=e) (st:=U) gW.isList ⟨_,aW,rfl,rfl⟩ aY aN .none (by intro c;exact nomatch c) ?_ (by rw[GF,t.1];exact io aw),gW.isList.typeIs⟩;rw[aqi];exact A6 D (aeO t g e) Z c
def Af(j:b5)(b:Option a0)(g:aZ):Prop:=∀A f m,aP j A f m→d3 j (b7 j.b) A m (evalPart b j.c) (j.n g A f)
theorem aog:Af j U (.b .e):=fun A f m D=>bL.n (fun P S Z=>by rw[evalPart_none];exact c9 (Z _ m.b.toks ca.qr)) D
theorem aqe{n:a0}{iw a4:Option a0}{g e q:aZ}{ap k:bc}(H:c4 j n g)(L:Af j iw e)(aR:Af j a4 q):c4 j (.Subscript n (.Slice iw a4 U k) ap) (.q g e q):=.k (fun _=>rfl) fun A f m D=>by show d3 j _ _ _ _ (bU (j.n g A f) fun d f=>bU (j.n e A f) fun G f=>bU (j.n q A f) fun x f=>cI ((hQ d G x).map K.b) f);refine bL.c (fun P S=>Subscript_) ((H.e A f m D).b fun d bW l ba cH bG cs=>bL.c (fun P S=>wpAny_Slice) ((L A bW ba bG).b fun G el ad bB dd bD fv=>(aR A el bB bD).b fun x n' hb he hq gu H_=>bL.p fun u b P S Z=>?_));rw[evalPart_none];refine c9 (gb b (cs.b (dd.k hq)) fun Zc cs b=>d4 b fun Da Hy b=>d4 b fun Db XB b=>?_);have Oe:=Tg Hy (fv.b hq);have Of:=Tg XB H_;have i2:=gu.aE {cls:=.type "slice",data:=.fields #[ad,hb,.none]} he.b.toks;have CX:∀n:aa,subscripted (.Slice iw a4 U k) C n (.ref he.b.heap.objs.size)=operate [.ref he.b.heap.objs.size,n] (sg n (.ref he.b.heap.objs.size)):=fun n=>rfl;have Z:ie j A n' (he.k {he.b with heap:=he.b.heap.push {cls:=.type "slice",data:=.fields #[ad,hb,.none]},toks:=he.b.toks}) P u:=fun l ae O D t=>Z l ae ((ay.c.d _).k O) D t;have aW:(he.b.heap.push {cls:=.type "slice",data:=.fields #[ad,hb,.none]}).get? he.b.heap.objs.size=o _:=ko _ rfl;induction Zc using M.casesOn with|c p=>exact oE cs fun s=>eO b fun aw c=>tail_any (T:="str") rfl PySem.F.slot_str_getitem.lookup (aqh i2 aw c Oe Of aW Z) (CX _)|f p=>refine eO b fun aw c=>?_;obtain⟨eu,gi⟩:=aqf (S:=S) i2 aw c (qM cs) Oe Of aW Z;exact tail_any gi slot_list_getitem.lookup eu (CX _)|_=>exact bb b
@[elab_as_elim]theorem w1{R:List aa→Prop}{E:cV}{N:List aa}(t:em E m [] N)(v:R []):R N:=(Ce.mp t.1)▸v
@[elab_as_elim]theorem pi{R:List aa→Prop}{E:cV}{ag:List K}{N:List aa}(t:em E m (d::ag) N)(v:∀l N,b7 E m d l→em E m ag N→R (l::N)):R N:=by induction N with|nil=>exact nomatch t.1|cons l N=>exact v l N (t.2 0 d l rfl rfl) ⟨yM t.1,fun i k l g e=>t.2 (i+1) k l g e⟩
theorem em.e{E:cV}:em E m [] []:=⟨rfl,fun _ _ _ c=>nomatch c⟩
theorem em.b{E:cV}{ag:List K}{N:List aa}(g:b7 E m d l)(t:em E m ag N):em E m (d::ag) (l::N):=⟨congrArg pT t.1,fun i e_ f2 H L=>by induction i with|zero=>obtain rfl:=aJ H;obtain rfl:=aJ L;exact g|succ i=>exact t.2 i e_ f2 H L⟩
def oi(j:b5)(ap:bc)(az:List a0)(g:aZ):Prop:=∀A f m,aP j A f m→d3 j (em j.b) A m (spliced (lX ap (kT az j.c))) (j.w g A f)
theorem vC{b:a0}{t:List a0}{aL:dQ}(c:fw b=C):kT (b::t) aL=(C,eD b aL)::kT t aL:=by rcases b<;>first|rfl|exact nomatch c
theorem SX{ap:bc}:oi j ap [] .e:=fun A f m D=>bL.g D em.e fun P S=>tI
theorem P2{ap:bc}{b:a0}{t:List a0}{g e:aZ}(aW:fw b=C)(H:uu j b g)(L:oi j ap t e):oi j ap (b::t) (.d g e):=fun A f m D=>by show d3 j (em j.b) A m _ (bU (j.n g A f) fun d f=>bU (j.w e A f) fun ag f=>cW (d::ag) f);rw[vC aW,show lX ap ((C,eD b j.c)::kT t j.c)=(C,eD b j.c)::lX ap (kT t j.c)from rfl];exact bL.c (fun P S=>yN) ((H A f m D).b (ao:=fun l bQ P S=>j.e (spliced (lX ap (kT t j.c))) (fun N cE=>P (l::N) cE) S bQ) fun d bW l ba cH bG cs=>(L A bW ba bG).b (ao:=fun N cE P S=>P (l::N) cE) fun ag el N bB dd bD fv=>bL.g bD (em.b (cs.b dd) fv) fun P S u=>u)
theorem Ts{ag:List K}:∀{T:List M}{N:List aa},nJ ag=o T→em j.b m ag N→dV j.b m.d T N:=by induction ag with|nil=>exact fun b t=>w1 t (aJ b▸dV.e)|cons d ag ak=>exact fun b t=>pi t fun l N d' t=>gb b d' fun k hI b=>gN b fun T b c=>c▸dV.g hI (ak b t)
theorem Sq{R:Prop}{r:Nat}{g e:V}(b:kN r g=o e)(v:r≤cK→g=e→R):R:=eO b v
theorem arK{az:List a0}{v:Nat}{ap:bc}{g:aZ}(c:oi j ap az g):c4 j (.Tuple az v ap) (.n g):=.k (fun _=>rfl) fun A f m D=>by show d3 j _ _ _ _ (bU (j.w g A f) fun ag f=>cI ((nJ ag).bind fun T=>kN T.length (K.b (.j T))) f);exact bL.c (fun P S=>GV) ((c A f m D).b (ao:=fun N bQ P S=>N.length≤sh∧P (lr bQ.heap.objs.size) {bQ with heap:=bQ.heap.push {cls:=.type "tuple",data:=.seq N.toArray}}) fun ag bW N ba cH bG cs=>bL.i fun G b P S Z=>d4 b fun T aG b=>Sq b fun aw c=>by have t:=Ts aG cs;exact⟨by rw[t.1];exact io aw,arM bG t (fun l ae O D t=>Z l ae O D (c▸t)) rfl⟩)
theorem am8{az:List a0}{ap:bc}{g:aZ}(c:oi j ap az g):c4 j (.List az ap) (.r g):=.k (fun _=>rfl) fun A f m D=>by show d3 j _ _ _ _ (bU (j.w g A f) fun ag f=>cI ((nJ ag).bind fun T=>kN T.length (K.b (.f T))) f);exact bL.c (fun P S=>wpAny_List_spliced) ((c A f m D).b (ao:=fun N bQ P S=>N.length≤sh∧P (lr bQ.heap.objs.size) {bQ with heap:=bQ.heap.push {cls:=.type "list",data:=.seq N.toArray}}) fun ag bW N ba cH bG cs=>bL.i fun G b P S Z=>d4 b fun T aG b=>Sq b fun aw c=>by have t:=Ts aG cs;exact⟨by rw[t.1];exact io aw,A6 bG t (fun l ae O D t=>Z l ae O D (c▸t)) rfl⟩)
end
end
section
open PySem PySem.W PyProof.Rows PySem.Calls Builtin Builtin.ObjectAttr
section
variable{r z:aq}{aW:Int}{s:Tok}{l:aa}{az:List h8}
theorem aiB(CV:r≠z):((putL r aW (.str r s) l az).find? fun d=>d.key.isStr z)=az.find? fun d=>d.key.isStr z:=by induction az with|nil=>exact List.find?_cons_of_neg (fun c=>CV (beq_iff_eq.mp c))|cons b t ak=>
 unfold putL;by_cases u:b.key.isStr r=I;·have a9:b.key.isStr z=C:=isStr_other (fun c=>CV c.symm) b u;rw[if_pos u,m3,m3,a9]
 ·rw[if_neg u,m3,m3,ak]
theorem aiC:∃b,((putL r aW (.str r s) l az).find? fun d=>d.key.isStr r)=o b∧b.val=l:=by induction az with|nil=>exact⟨_,List.find?_cons_of_pos (beq_self_eq_true r),rfl⟩|cons b t ak=>
 unfold putL;by_cases u:b.key.isStr r=I;·rw[if_pos u,m3,show({b with val:=l}:h8).key.isStr r=I from u];exact⟨_,rfl,rfl⟩
 ·rw[if_neg u,m3,F_.mpr u];exact ak
theorem aaa:(putL r aW (.str r s) l az).any (·.refKey)=az.any (·.refKey):=by induction az with|nil=>rfl|cons b t ak=>
 unfold putL;by_cases u:b.key.isStr r=I;·rw[if_pos u];rfl
 ·rw[if_neg u,tB,tB,ak]
theorem JS:gg r (putL r aW (.str r s) l az)=o (o l):=by obtain⟨b,c,bl⟩:=aiC (r:=r) (aW:=aW) (s:=s) (l:=l) (az:=az);unfold gg;rw[c,←bl]
theorem AS(CV:r≠z):gg z (putL r aW (.str r s) l az)=gg z az:=by unfold gg;rw[aiB CV,aaa]
theorem K_:(putL r aW (.str r s) l az).length≤az.length+1∧((∃ad,gg r az=o (o ad))→(putL r aW (.str r s) l az).length=az.length):=by induction az with|nil=>exact⟨df _,by rintro⟨ad,c⟩;exact nomatch c⟩|cons b t ak=>
 unfold putL;by_cases u:b.key.isStr r=I;·rw[if_pos u];exact⟨m5 _,fun _=>rfl⟩
 ·rw[if_neg u];refine⟨kn ak.1,?_⟩;rintro⟨ad,c⟩;refine congrArg pT (ak.2 ⟨ad,?_⟩);unfold gg at c⊢;rw[m3,F_.mpr u,tB]at c;dsimp only at c;rcases H:t.find? (fun d=>d.key.isStr r)with _|g';·rw[H]at c;dsimp only at c;split at c<;>exact nomatch c
  ·rw[H]at c⊢;exact c
end
section
variable{V:Type}{d G:bF}{l:V}{p:List (bF×V)}
theorem QL:fH d (kI d l p)=o l:=by induction p with|nil=>exact if_pos rfl|cons b t ak=>
 unfold kI;by_cases u:b.1=d;·rw[if_pos u];exact if_pos rfl
 ·rw[if_neg u];exact(if_neg u).trans ak
theorem QK(c:d≠G):fH G (kI d l p)=fH G p:=by induction p with|nil=>exact if_neg c|cons b t ak=>
 unfold kI;by_cases u:b.1=d;·rw[if_pos u];exact(if_neg c).trans (if_neg (fun q=>c (u.symm.trans q))).symm
 ·rw[if_neg u];unfold fH;rw[ak]
theorem QZ:(kI d l p).length≥p.length∧(fH d p=U→(kI d l p).length=p.length+1):=by induction p with|nil=>exact⟨jT _,fun _=>rfl⟩|cons b t ak=>
 unfold kI fH;by_cases u:b.1=d;·rw[if_pos u,if_pos u];exact⟨df _,fun c=>nomatch c⟩
 ·rw[if_neg u,if_neg u];exact⟨kn ak.1,fun c=>congrArg pT (ak.2 c)⟩
end
theorem Z9(d:bF):d∈bF.Do:=by rcases d<;>decide
theorem O_(d:bF):bF.Do.find? (fun G=>a6 (G.ru=d.ru))=o d:=by rcases d<;>rfl
theorem Am{d G:bF}(c:b8 d=b8 G):d=G:=by have b:=O_ d;rw[show d.ru=G.ru from congrArg (fun y:aq=>y.cps.toList) c,O_]at b;exact(aJ b).symm
theorem bX{g e:Bool}(c:(g&&e)=I):g=I∧e=I:=e5.mp c
structure OJ(ao:di)(q:Nat)(X:aD):Prop where
 c:hV ao (.ref X) "__getattribute__"=o (o (.builtin "object.__getattribute__"))
 e:hV ao (.ref X) "__getattr__"=o U
 x:hV ao (.ref X) "__setattr__"=o (o (.builtin "object.__setattr__"))
 w:plainOver ao X=I
 b:∃eU,clsIn ao X=o eU∧eU.hasDict=I
 u:mroIn ao X (.type "list")=o C
 v:mroIn ao X (.type "object")=o I
 i:hV ao (.ref X) "__class__"=o (o (.builtin "object.__class__"))
 k:specialIn ao (.builtin "object.__class__") "__get__"=o (o (.builtin "getset_descriptor.__get__"))
 n:takesIn ao (.builtin "object.__class__")=o I
 g:∀d,s0 ao X d=I
 t:∀d,KD ao q X d=I
theorem alD{ao:di}{X:aD}(c:hasDictIn ao X=I):∃eU,clsIn ao X=o eU∧eU.hasDict=I:=by
 unfold hasDictIn at c;rcases u:clsIn ao X with _|eU;·rw[u]at c;exact nomatch c
 ·rw[u]at c;exact⟨eU,rfl,c⟩
theorem D4{ao:di}{q:Nat}{X:aD}(c:rJ ao q X=I):OJ ao q X:=by obtain⟨H,c⟩:=bX c;obtain⟨L,c⟩:=bX c;obtain⟨aR,c⟩:=bX c;obtain⟨bh,c⟩:=bX c;obtain⟨cT,c⟩:=bX c;obtain⟨dB,c⟩:=bX c;obtain⟨d2,c⟩:=bX c;obtain⟨et,c⟩:=bX c;obtain⟨hH,c⟩:=bX c;obtain⟨gh,c⟩:=bX c;have c:=fun d=>bX (fe.mp c d (Z9 d));exact⟨beq_iff_eq.mp H,beq_iff_eq.mp L,beq_iff_eq.mp aR,bh,alD cT,beq_iff_eq.mp dB,beq_iff_eq.mp d2,beq_iff_eq.mp et,beq_iff_eq.mp hH,beq_iff_eq.mp gh,fun d=>(c d).1,fun d=>(c d).2⟩
inductive wK(ao:di)(X:aD)(d:bF):Prop|Zv(c:hV ao (.ref X) (b8 d)=o U)|Zx(g:aa)(sl:Option aa)(c:hV ao (.ref X) (b8 d)=o (o g))(cN:specialIn ao g "__get__"=o sl)(bu:takesIn ao g=o C)
theorem JR{ao:di}{X:aD}{d:bF}(c:s0 ao X d=I):wK ao X d:=by
 unfold s0 at c;rcases b:hV ao (.ref X) (b8 d)with _|_|g;·rw[b]at c;exact nomatch c
 ·exact .Zv b
 ·rw[b]at c;obtain⟨H,L⟩:=bX c;obtain⟨sl,cN⟩:=L_.mp H;exact .Zx g sl b cN (beq_iff_eq.mp L)
theorem wK.Zw{ao:di}{X:aD}{d:bF}(c:wK ao X d):takerIn ao X (b8 d)=o U:=by
 unfold takerIn;rcases c with c|⟨g,sl,c,cN,bu⟩;·rw[c];rfl
 ·rw[c,q1];show i0 (fun e=>if e=I then o g else U) (takesIn ao g)=_;rw[bu];rfl
theorem wK.ON{ao:di}{X:aD}{d:bF}{ni:cm}{l:aa}(aH:wK ao X d)(aI:∃eU,clsIn ao X=o eU∧eU.hasDict=I)(aw:lookIn (b8 d) ni=o (o l)):findObj ao X (o ni) (b8 d)=o (.value l):=by
 obtain⟨eU,bf,aI⟩:=aI;have aj:W.ownOf eU (o ni) (b8 d)=o (o l):=by unfold W.ownOf;rw[if_pos aI];exact aw
 unfold findObj;rw[bf,q1];rcases aH with H|⟨g,sl,H,L,aR⟩;·rw[H];show(W.ownOf eU (o ni) (b8 d)).bind _=_;rw[aj];rfl
 ·rw[H,q1];show(specialIn ao g "__get__").bind _=_;rw[L,q1];rcases sl with _|E;·show(W.ownOf eU (o ni) (b8 d)).bind _=_;rw[aj];rfl
  ·show(takesIn ao g).bind _=_;rw[aR];show(W.ownOf eU (o ni) (b8 d)).bind _=_;rw[aj];rfl
theorem RC{E:cV}{bj:eN}{k:M}{l:aa}(t:ca E bj k l):tM l=I:=by induction t with|wT e=>rcases e<;>decide+kernel|_=>rfl
section
variable{j:b5}{au:dU}{A:List (Option K)}{f a1:af}{m:ay}{S:aa→aT→Prop}{l ad:aa}
theorem J4{d:K}(t:b7 j.b m d l):tM l=I:=by induction d using K.casesOn with|b k=>exact RC t|c v=>obtain⟨k,_,rfl⟩:=t;rfl|d v eK=>obtain⟨g,rfl,_⟩:=t;rfl
theorem AY{c:eh}{X cr d:aD}{az:List h8}{r:Nat}(H:c.get? d=o (i1 X cr))(L:c.get? cr=o (fY az r)):tL c d (i1 X cr) X (o (fY az r)):=⟨H,rfl,rfl,L⟩
theorem Rf(D:aP j A f m){P:aa→aT→Prop}{q:Nat}{X cr g:aD}{az:List h8}{r:Nat}{d:bF}{G:K}{tV:Bool}(bf:rJ j.b.b q X=I)(aj:m.b.heap.get? g=o (i1 X cr))(aI:m.b.heap.get? cr=o (fY az r))(cu:gg (b8 d) az=o (o ad))(t:b7 j.b m G ad)(Z:∀f2 r,b7 j.b m G f2→P f2 {m.b with toks:=r}):j.e (getAttr (.ref g) (b8 d) tV) P S m.b:=let q:=D4 bf;get_value D.R (AY aj aI) q.c ((JR (q.g d)).ON q.b cu) (J4 t) (Z ad _ t)
theorem aam(D:aP j A f m){P:aa→aT→Prop}{d:bF}{G x:K}{tV:Bool}(b:DR f d G=o x)(a8:b7 j.b m G l)(Z:∀f2 r,b7 j.b m x f2→P f2 {m.b with toks:=r}):j.e (getAttr l (b8 d) tV) P S m.b:=by induction G using K.casesOn with
 |b k=>induction k using M.casesOn with|k q p=>refine gN b fun k al c=>?_;obtain⟨g,X,cr,az,r,bf,gD,aj,aI,ah,aW⟩:=Fk a8;obtain⟨ad,cu,t⟩:=aW d k al;subst c;exact Rf D (G:=.b k) gD (D.p _ _ aj) (D.p _ _ aI) cu t Z|_=>exact bb b
 |c v=>refine tg D b a8 fun k n bE al aj t b=>?_;induction t with|pc aU X az r bf gD H L t=>obtain⟨ad,cu,u⟩:=t.2.1 d x b;subst bE;exact Rf D gD H L cu u Z|_=>exact bb b
 |d=>exact bb b
theorem aaj {n : a0} {d : bF} {g : aZ} {ap : bc} (aW : xZ n = C) (H : c4 j n g) : c4 j (.Attribute n (b8 d) ap) (.l g d) := .k (fun _ => rfl) fun A f m D => by
  show d3 j _ _ _ _ (bU (j.n g A f) fun G f => cI (DR f d G) f)
  have aU : eD (.Attribute n (b8 d) ap) j.c = (do
      let l ← eD n j.c
      standAt ap.atName
      let t ← holding [l] (getAttr l (b8 d) I)
      letTemporaryGo n l t
      d6 t) := by
    clear H
    rcases n <;> first | with_unfolding_all rfl | skip
    rename_i w aM eW k
    rcases w <;> first | with_unfolding_all rfl | skip
    rcases aM <;> first | with_unfolding_all rfl | skip
    rcases eW <;> first | with_unfolding_all rfl | exact nomatch aW
  exact bL.c (fun P S m => Attribute_any_ m aU) ((H.e A f m D).b fun G bW l ba cH bG cs => bL.i fun x b P S Z => aam bG b cs fun f2 r t => Z f2 _ (ay.c.d _) (bG.au r) (t.b (ay.c.d _)))
theorem aP.aB(D:aP j A f m){v:Nat}{k:aD×aD}{n:eJ}{am:aT}(al:m.f[v]?=o k)(ar:∀e n,e≠k.1→e≠k.2→m.b.heap.get? e=o n→am.heap.get? e=o n)(b4:am.gens=m.b.gens∧am.os=m.b.os∧am.drawn=m.b.drawn)(nk:iN j.b (m.k am) k n):aP j A (f.set v n) (m.k am):=by have a9:=dZ al;have kw:∀e,(e=k.1∨e=k.2)→iP m.f e:=fun e c=>⟨k,a9,c⟩;have i5:∀{e},¬iP m.f e→e≠k.1∧e≠k.2:=fun c=>⟨fun b=>c (kw _ (.inl b)),fun b=>c (kw _ (.inr b))⟩;have N3:∀{e n},m.d e=o n→e≠k.1∧e≠k.2:=fun c=>⟨fun b=>bb ((D.y v k al).1.1.symm.trans (b▸c)),fun b=>bb ((D.y v k al).1.2.symm.trans (b▸c))⟩;have C7:∀{e n},m.i e=o n→e≠k.1∧e≠k.2:=fun c=>⟨fun b=>bb ((D.y v k al).2.1.symm.trans (b▸c)),fun b=>bb ((D.y v k al).2.2.symm.trans (b▸c))⟩;exact{
 ao:=D.ao,p:=fun g n c=>ar g n (N3 c).1 (N3 c).2 (D.p g n c),Z:=fun g n c=>by obtain⟨cf,H,L⟩:=D.Z g n c;exact⟨cf,ar g cf (C7 c).1 (C7 c).2 H,L⟩,ai:=D.ai,x:=D.x,y:=D.y,G:=fun g c=>by obtain⟨H,L,n,aR,bh⟩:=D.G g c;exact⟨H,L,n,ar g n (i5 L).1 (i5 L).2 aR,bh⟩,P:=by obtain⟨z,⟨n,az,dn,b,t⟩,H,L⟩:=D.P;exact⟨z,⟨n,az,dn,ar _ _ (i5 D.x.2.2).1 (i5 D.x.2.2).2 b,t⟩,H,fun i d aH=>⟨fun l bE=>by obtain⟨ad,g,e⟩:=(L i d aH).1 l bE;exact⟨ad,g,e.b (ay.c.d am)⟩,(L i d aH).2⟩⟩,E:=D.E.trans yG.symm,ag:=D.ag,S:=fun Q u cf cw aj=>by
  by_cases b:v=Q;·subst b;obtain rfl:=aJ (al.symm.trans cw);rw[Cb (by rw[←D.E];exact(eg.mp al).1)]at aj;exact aJ aj▸nk
  ·rw[Gs b]at aj;obtain⟨na,p6,sj,v6⟩:=D.ag Q v u k cw al (sb b);exact(D.S Q u cf cw aj).pd (ay.c.d am).toUp (fun _=>ar _ _ na p6) (fun _=>ar _ _ sj v6),Y:=D.Y,J:=⟨b4.1.trans D.J.1,b4.2.1.trans D.J.2.1,b4.2.2.trans D.J.2.2⟩}
theorem aoY{c1:aq}{az:List h8}(p2:(gg c1 az).isSome=I):(!az.toArray.any (·.key.isStr c1)&&az.toArray.any (·.refKey))=C:=by
 rw[←Array.any_toList,←Array.any_toList];unfold gg at p2;split at p2;·rename_i g' aU;rw[tC.mpr ⟨g',Gz aU,Gl aU⟩];rfl
 ·split at p2;·exact nomatch p2
  ·rename_i m;rw[Bool.not_eq_true]at m;rw[m,qX]
theorem Lv{dI:m6}{x:cJ}{aS:g6}{y:aT}{cr:aD}{az:List h8}{r:Nat}{c1:aq}{cz:Tok}{P:PySem.Fin→aT→Prop}(aI:y.heap.get? cr=o (fY az r))(p2:(gg c1 az).isSome=I)(j0:az.length≤50)(c:∀aW am,am.heap.get? cr=o (fY (putL c1 aW (.str c1 y.toks) l az) (putN c1 az r))→(∀e n,e≠cr→y.heap.get? e=o n→am.heap.get? e=o n)→(am.gens=y.gens∧am.os=y.os∧am.drawn=y.drawn)→P (.done (.ret .none)) am):da (c6 dI x) aS (storeInDict cr (.str c1 cz) c1 l) P S y:=by unfold storeInDict newKeyGuard;refine bo (c9 (bo ?_));unfold nsSet;refine bo (bo (wpAny_askSetting (c9 (bo (wpAny_mkText (bo (yX aI ?_)))))));have q:=aoY p2;dsimp only[fY];rw[aRefKeyMayBeTheName_at,q];refine wpAny_updatePart aI ?_;have mo:=vY (Obj.putName c1 (PyData.keyHash x.params c1) (.str c1 y.toks) l) aI (by rw[putName_dict];rfl);rw[putName_dict]at mo;refine bo (wpAny_lookBehind mo (by rw[show(fY (putL c1 (PyData.keyHash x.params c1) (.str c1 y.toks) l az) (putN c1 az r)).data=_ from rfl];exact pastItsLine_dict (by rw[GF,sizeLine_eq];exact bt K_.1 (bt (kn j0) (by decide)))) ?_);exact c9 (c _ _ mo (fun e n aN b=>(Mb _ _ _ _ aN).trans b) ⟨rfl,rfl,rfl⟩)
theorem aiL{p:List (bF×K)}{az:List h8}(t:It j.b m p az){d:bF}{G:K}{aW:Int}{s:Tok}(a8:b7 j.b m G l):It j.b m (kI d G p) (putL (b8 d) aW (.str (b8 d) s) l az):=by
 obtain⟨jC,k2,wu⟩:=t;refine⟨fun x mx=>?_,fun x u mx=>?_,?_⟩;·
  by_cases b:d=x;·subst b;rw[QL]at mx;exact nomatch mx
  ·rw[QK b]at mx;rw[AS (fun u=>b (Am u))];exact jC x mx
 ·by_cases b:d=x;·subst b;rw[QL]at mx;obtain rfl:=aJ mx;exact⟨l,JS,a8⟩
  ·rw[QK b]at mx;rw[AS (fun u=>b (Am u))];exact k2 x u mx
 ·rcases u:fH d p with _|x;·rw[QZ.2 u];exact bt K_.1 (kn wu)
  ·obtain⟨ad,cu,_⟩:=k2 d x u;rw[K_.2 ⟨ad,cu⟩];exact bt wu QZ.1
theorem ap1(D:aP j A f m){P:Unit→aT→Prop}{d:bF}{G x:K}(b:Fm G d x f=o a1)(a8:b7 j.b m G l)(mx:b7 j.b m x ad)(Z:∀ae,m.c ae→aP j A a1 ae→P () ae.b):j.e (setAttr l (b8 d) ad) P S m.b:=by induction G using K.casesOn with
 |c v=>refine tg D b a8 fun k n bE al aj t b=>?_;induction t with
  | @pc q p aU X az r bf gD H L t=>
   have b:(if p.length≤50 then o (f.set v (.e q (kI d x p)))else U)=o a1:=by induction x using K.casesOn with|d=>exact bb b|_=>exact b
   refine eO b fun aw b=>?_;subst bE b;have jx:=D4 gD;have Mq:=AY H L;have p2:(gg (b8 d) az).isSome=I:=by
    rcases u:fH d p with _|x;·rw[t.1 d u];rfl
    ·obtain⟨hb,cu,_⟩:=t.2.1 d x u;rw[cu];rfl
   refine set_plain D.R Mq jx.x (osa_open D.R Mq jx.w (JR (jx.g d)).Zw fun e=>?_);obtain⟨eU,nd,Hh⟩:=jx.b;refine bo (c9 (bo (bo (yX H (bo (looks_clsIn D.R nd _ _ _ _ (fun _ _ b=>b) ?_))))));rw[Hh];refine c9 (a:=o k.2) (Lv (y:={m.b with toks:=m.b.toks+1}) L p2 (bt t.2.2 aw) fun aW am be v u=>Z (m.k am) (ay.c.d _) (D.aB al (fun e n _ cU b=>v e n cU b) u (.pc aU X _ _ bf gD (v _ _ aU.symm H) be (aiL ⟨t.1,fun m x c2=>by obtain⟨hb,g,e⟩:=t.2.1 m x c2;exact⟨hb,g,e.b (ay.c.d am)⟩,t.2.2⟩ (mx.b (ay.c.d am))))))
  |_=>exact bb b
 |_=>exact bb b
end
end
section
open PySem PySem.W PyProof.Rows PySem.Calls Builtin Builtin.Str
noncomputable def FN(d:bF):String:=match d with|.k3=>"str.split"|.qk=>"str.strip"|.sD=>"str.lower"|.qj=>"str.find"|.sG=>"str.startswith"|.lC=>"str.index"|.rt=>"str.join"|_=>""
theorem qt{d:bF}{y:String}(c:d.ru=(se y).cps.toList):b8 d=(y:aq):=(congrArg (fun p:List Nat=>(⟨p.toArray⟩:aq)) c:_)
theorem aqJ{d:bF}(aH:d∈FP):Slot "str" (b8 d) (FN d)∧typeOf (.builtin (FN d))=d6 (.type "method_descriptor"):=by
 simp only[FP,gQ,List.not_mem_nil,or_false]at aH;rcases aH with rfl|rfl|rfl|rfl|rfl|rfl|rfl;·rw[qt (y:="split") (by decide+kernel)];exact⟨Cq,PySem.F.type_str_split⟩
 ·rw[qt (y:="strip") (by decide+kernel)];exact⟨PySem.F.slot_str_strip,PySem.F.type_str_strip⟩
 ·rw[qt (y:="lower") (by decide+kernel)];exact⟨PySem.F.slot_str_lower,PySem.F.type_str_lower⟩
 ·rw[qt (y:="find") (by decide+kernel)];exact⟨PySem.F.slot_str_find,PySem.F.type_str_find⟩
 ·rw[qt (y:="startswith") (by decide+kernel)];exact⟨PySem.F.slot_str_startswith,PySem.F.type_str_startswith⟩
 ·rw[qt (y:="index") (by decide+kernel)];exact⟨PySem.F.slot_str_index,PySem.F.type_str_index⟩
 ·rw[qt (y:="join") (by decide+kernel)];exact⟨PySem.F.slot_str_join,PySem.F.type_str_join⟩
theorem am3(q:Nat)(bf:q<128):Unicode.lowerOf q=[qB q]:=by
 have:(de 128).all (fun q=>Unicode.lowerOf q==[qB q])=I:=by decide+kernel
 exact beq_iff_eq.mp (fe.mp this q (gc.mpr bf))
theorem am2(p:List Nat)(c:∀q∈p,q<128):placed (bx p) (fun i _=>Unicode.lowerAt (bx p).cps i)=(p.map qB).toArray:=by
 unfold placed;have:(bx p).cps.mapIdx (fun i q=>(Unicode.lowerAt (bx p).cps i).toArray)=(p.map fun q=> #[qB q]).toArray:=by
  apply Array.ext;·simp[bx]
  ·intro i H L;simp[bx]at H L⊢;have bf:=c _ (Cc L);unfold Unicode.lowerAt;simp[L];have:¬(p[i]=931):=fun u=>absurd (u▸bf) (by decide);simp[this,am3 _ bf]
 rw[this];apply Array.ext';rw[Array.toList_flatten];clear this c;induction p with|nil=>rfl|cons q t ak=>simp at ak⊢;exact ak
theorem TQ(d:aq):bx d.cps.toList=d:=rfl
section
variable{V:Type}{q:V}{j:b5}{A:List (Option K)}{f:af}{m:ay}{P:aa→aT→Prop}{S:aa→aT→Prop}{ag:List K}{N:List aa}{E:cV}{bj:eN}
theorem apY(p:List aq):∀(s:Nat),dV E bj (p.map fun y=>M.c y.cps.toList) (strsFrom s p):=by induction p with|nil=>exact fun _=>dV.e|cons d t ak=>exact fun s=>dV.g (ca.og d.cps.toList _) (ak (s+1))
@[elab_as_elim]theorem w0{R:List aa→Prop}{n:Option V}(b:rF ag n=o q)(t:em E m ag N)(v:n=o q→R []):R N:=by induction ag with|nil=>exact w1 t (v b)|cons=>exact bb b
@[elab_as_elim]theorem om{R:List aa→Prop}{w:K→Option V}(b:mb ag w=o q)(t:em E m ag N)(v:∀d l,b7 E m d l→w d=o q→R [l]):R N:=by induction ag with|nil=>exact bb b|cons d ag=>exact pi t fun l N d' t=>w0 b t fun b=>v d l d' b
@[elab_as_elim]theorem DB{R:List aa→Prop}{w:K→K→Option V}(b:Al ag w=o q)(t:em E m ag N)(v:∀d G l ad,b7 E m d l→b7 E m G ad→w d G=o q→R [l,ad]):R N:=by induction ag with|nil=>exact bb b|cons d ag=>exact pi t fun l N d' t=>om b t fun G ad o8 b=>v d G l ad d' o8 b
theorem amf{bC y k s r aB:Nat}(c:bC+(y+k+s)=r+s+k+aB):bC+y=r+aB:=Nat.add_right_cancel (m:=k+s) (by rw[lk bC,←lk y,c,lk r s k,GG,lV s k])
theorem ame{bC k s aB:Nat}(c:bC+s=0+s+k+aB):bC≤aB+k:=ff (Nat.add_right_cancel (m:=s) (by rw[c,q0,lV s k,lV,←lk]))
theorem aml{dl:List Nat}{p:List M}:∀{br:List aa}{y l6:List Nat},EH dl p y=o l6→dV E bj p br→∃cG:List (aq×Tok),br=strValues cG∧(cG.map (·.1)).foldl (fun aE k=>aE++(bx dl).cps++k.cps) y.toArray=l6.toArray∧∀r,(cG.map (·.1)).foldl (fun d G=>d+G.length+(bx dl).length) r+y.length=r+l6.length:=by induction p with|nil=>exact fun b t=>yo t ⟨[],rfl,congrArg List.toArray (aJ b),fun r=>congrArg (fun p:List Nat=>r+p.length) (aJ b)⟩|cons k p ak=>
 intro br y l6 b t;refine yn t fun l N hI t=>tl b hI fun s cz b=>?_;obtain⟨cG,rfl,H,L⟩:=ak b t;refine⟨(bx s,cz)::cG,rfl,?_,fun r=>?_⟩;·rw[pL,Gn,←H];congr 1;show y.toArray++dl.toArray++s.toArray=_;rw[Gg,Gg]
 ·have:=L (r+(bx s).length+(bx dl).length);rw[nM,nM,fy,fy]at this;rw[pL,Gn];show List.foldl _ (r+(bx s).length+(bx dl).length) _+_=_;rw[nM,nM];exact amf this
theorem amj{dl:List Nat}{p:List M}{br:List aa}{l6:List Nat}(b:EG dl p=o l6)(t:dV E bj p br):∃cG:List (aq×Tok),br=strValues cG∧glued (bx dl) (cG.map (·.1))=bx l6∧(cG.map (·.1)).toArray.foldl (·+·.length+(bx dl).length) 0≤l6.length+dl.length:=by induction p with|nil=>exact yo t ⟨[],rfl,congrArg bx (aJ b),jT _⟩|cons k p=>refine yn t fun l N hI t=>tl b hI fun s cz b=>?_;obtain⟨cG,rfl,H,L⟩:=aml b t;refine⟨(bx s,cz)::cG,rfl,congrArg Str.mk H,?_⟩;have:=L (0+(bx s).length+(bx dl).length);rw[List.foldl_toArray,pL,Gn];rw[nM,nM]at this⊢;exact ame this
theorem aqs(D:aP j A f m){b':List Nat}{s:Tok}{k:M}(b:TV b' ag=o k)(t:em j.b m ag N)(Z:ie j A f m P k):j.e (eT (.builtin "str.split") (.str (bx b') s::N)) P S m.b:=by have qg:m.b.TypeIs (.str (bx b') s) "str":=rfl;have rp:∀{p:List aq},FO p=k→p=[bx b']→P (.ref m.b.heap.objs.size) {m.b with heap:=m.b.heap.push (ps [.str (bx b') s])}:=fun c bl=>A6 D (dV.g (ca.og b' s) dV.e) Z (by rw[←c,bl];rfl);have N1:∀{p:List aq}{r:Nat},FO p=k→P (.ref m.b.heap.objs.size) {m.b with heap:=m.b.heap.push (ps (strsFrom m.b.toks p)),toks:=r}:=fun c=>A6 D (apY _ _) Z c;induction ag with
 |nil=>
  refine w1 t (eO b fun aw c=>yR Cq qg GO (PySem.F.args_str_split_1 _) (meets_str_split_space (bx b') s (io aw.1) (io aw.2)) ?_);split;·rename_i cw;refine rp c ?_;unfold PySem.wordsOf;rw[show spaceWords (lR b') ((lR b').length+1)=[(0,(lR b').length)]from beq_iff_eq.mp cw];simp[strSub,lR,bx,Str.length]
  ·exact N1 c
 |cons d ag=>
  refine pi t fun l N d' t=>w0 b t fun b=>oO b d' fun dc j5 b=>eO b fun aw c=>?_;have mw:((bx dc).length==0)=C:=beq_false_of_ne fun u=>aw.2.1 (Ce.mp u);rcases H:(a6 ((bx b').length<(bx dc).length)||decide (strKind (bx b')<strKind (bx dc)))with _|_;·
   rcases L:(tH (bx b') (bx dc) 0 (bx b').length ((bx b').length+1)).isEmpty with _|_;·
    have c2:r7 (lR b') (lR dc)=partsBetween (bx b') (tH (bx b') (bx dc) 0 (bx b').length ((bx b').length+1)) (bx dc).length:=by show r7 (bx b') (bx dc)=_;unfold r7;rw[if_neg (by rw[H];decide),if_neg (by rw[L];decide)]
    have ah:=aw.2.2;rw[c2]at ah c;exact yR Cq qg GO (Ma _ _) (meets_str_split_sep (bx b') (bx dc) s j5 H mw L (io aw.1) (io ah)) (N1 c)
   ·exact yR Cq qg GO (Ma _ _) (meets_str_split_not_found (bx b') (bx dc) s j5 H mw L) (rp c (by show r7 (bx b') (bx dc)=_;unfold r7;rw[if_neg (by rw[H];decide),if_pos L]))
  ·exact yR Cq qg GO (Ma _ _) (meets_str_split_cannot_occur (bx b') (bx dc) s j5 H) (rp c (by show r7 (bx b') (bx dc)=_;unfold r7;rw[if_pos H]))
theorem aqN(D:aP j A f m){b':List Nat}{s:Tok}{k:M}(aw:b'.length≤cK)(c:.c (PySem.stripped Cv I I (lR b')).cps.toList=k)(Z:ie j A f m P k):j.e (eT (.builtin "str.strip") [.str (bx b') s]) P S m.b:=by
 refine call_gives PySem.F.slot_str_strip rfl PySem.F.entry_str_strip (PySem.F.args_str_strip_1 _) (gives_str_strip (bx b') s) ?_;split;·rename_i cw;obtain⟨cx,cU⟩:=bX cw;refine Z.c D c ?_ _ m.b.toks;rw[TQ];unfold PySem.stripped;show _=strSub (bx b') (stripLo Cv I (bx b')) (stripHi Cv I (bx b') (stripLo Cv I (bx b')));rw[beq_iff_eq.mp cU,beq_iff_eq.mp cx];simp[strSub,bx,Str.length]
 ·exact⟨bt (strSub_length_le ..) (io aw),Z.c D c rfl _ _⟩
theorem aqz{b' dc:List Nat}{i:Int}(a4:0≤i):(a6 (fromIndex (bx b').length i+(bx dc).length≤(bx b').length)&&GL (bx b') (bx dc) (fromIndex (bx b').length i))=(a6 (i.toNat+dc.length≤b'.length)&&dc.isPrefixOf (b'.drop i.toNat)):=by
 have a3:fromIndex (bx b').length i=i.toNat:=by unfold fromIndex;rw[if_neg (oP.mpr a4)];congr 1;exact Int.max_eq_right a4|>fun c=>(by first|exact c|omega)
 rw[a3,nM,nM,PySem.StrLaws.subAt_eq];congr 1;show((b'.drop i.toNat).take (bx dc).length==dc)=_;rw[nM,lg,beq_iff_eq,L1,List.prefix_iff_eq_take];exact eq_comm
theorem S8(b' dc:List Nat):jf b' dc=(tH (bx b') (bx dc) 0 (bx b').length 1).head? :=rfl
theorem aqM(D:aP j A f m){d:bF}{b':List Nat}{s:Tok}{k:M}(b:BQ b' d f ag=o k)(t:em j.b m ag N)(Z:ie j A f m P k):j.e (eT (.builtin (FN d)) (.str (bx b') s::N)) P S m.b:=by have qg:m.b.TypeIs (.str (bx b') s) "str":=rfl;induction d with
 |k3=>exact aqs D b t Z
 |qk=>exact w0 b t fun b=>eO b fun aw c=>aqN D aw c Z
 |sD=>
  refine w0 b t fun b=>eO b fun aw c=>?_;have a9:=am2 b' fun q bf=>by simpa using fe.mp aw.2 q bf
  have aW:(⟨(b'.map qB).toArray⟩:aq).length≤sh:=by rw[show(⟨(b'.map qB).toArray⟩:aq).length=b'.length from dA _];exact io aw.1
  refine call_gives PySem.F.slot_str_lower qg PySem.F.entry_str_lower (PySem.F.args_str_lower_1 _) (gives_str_lower (bx b') s (by rw[a9];exact decide_eq_false (jS.mpr aW))) ?_;rw[a9];exact⟨aW,Z.c D c rfl _ _⟩
 |qj=>refine om b t fun d l d' b=>oO b d' fun dc j5 b=>call_gives PySem.F.slot_str_find qg PySem.F.entry_str_find (PySem.F.args_str_find_2 _ _) (gives_str_find (bx b') (bx dc) s j5) ?_;rw[S8]at b;generalize tH (bx b') (bx dc) 0 (bx b').length 1=gv at b⊢;rcases gv with _|⟨g,t⟩<;>exact Z.b D (aJ b) _ _
 |sG=>refine DB b t fun d G l ad d' o8 b=>oO b d' fun dc j5 b=>nO b o8 fun i Ia b=>eO b fun a4 c=>call_gives PySem.F.slot_str_startswith qg PySem.F.entry_str_startswith (PySem.F.args_str_startswith_3 _ _ _) (gives_str_startswith_from (bx b') (bx dc) i s j5 Ia) ?_;show P (.bool _) m.b;rw[aqz a4];exact Z.e D c m.b.toks
 |lC=>
  refine om b t fun d l d' b=>oO b d' fun dc j5 b=>gN b fun i a4 c=>?_;rw[S8]at a4;rcases aj:tH (bx b') (bx dc) 0 (bx b').length 1 with _|⟨g,fE⟩;·rw[aj]at a4;exact bb a4
  ·rw[aj]at a4;obtain rfl:=aJ a4;exact call_gives PySem.F.slot_str_index qg PySem.F.entry_str_index (PySem.F.args_str_index_2 _ _) (gives_str_index (bx b') (bx dc) s j5 g fE aj) (Z.b D c _ _)
 |rt=>
  refine om b t fun d l d' b=>d4 b fun l6 aG aK=>d4 aG fun p bA dN=>eO aK fun aw c=>?_;obtain⟨g,br,aY,ui⟩:=u8 D bA d';obtain⟨cG,rfl,L,aR⟩:=amj dN ui;refine yR PySem.F.slot_str_join qg PySem.F.entry_str_join (PySem.F.args_str_join_2 _ _) (meets_str_join_list (bx b') s g cG (decide_eq_false (jS.mpr (bt aR (io aw))))) ⟨aY.isList,?_⟩;rcases cG with _|⟨u,_|⟨j4,cG⟩⟩;·show Made.post (.str (glued (bx b') (List.map (fun d:aq×Tok=>d.1) []))) _ _;rw[L];exact⟨io (bt (ho _ _) aw),Z.c D c rfl _ _⟩
  ·exact Z.c D c L u.2 m.b.toks
  ·show Made.post (.str (glued (bx b') (List.map (fun d:aq×Tok=>d.1) (u::j4::cG)))) _ _;rw[L];exact⟨io (bt (ho _ _) aw),Z.c D c rfl _ _⟩
 |_=>exact bb b
end
end
section
open PySem PySem.W PyProof.Rows PySem.Calls
section
variable{V bg dk ek:Type}{j:b5}{au:dU}{A:List (Option K)}{f a1:af}{m:ay}{P:aa→aT→Prop}{S:aa→aT→Prop}{ag:List K}{N:List aa}{d G:K}{l ad:aa}{bk:ay→V→bg→Prop}{lm:ay→dk→ek→Prop}
noncomputable def RU(y:List Nat)(l:aa):Bool:=match l with|.str d _=>d==bx y|_=>C
theorem O9{E:cV}{bj:eN}{p:List M}(c:p.all ED=I)(t:dV E bj p N){i:Nat}(a4:i<N.length):∃(s:List Nat)(v:Tok),p[i]?=o (M.c s)∧N[i]?=o (Value.str (bx s) v):=by have Nh:i<p.length:=t.1▸a4;have aw:=hT Nh;obtain⟨l,bE,zU⟩:=t.i aw;have c:=fe.mp c _ (Cc Nh);revert c zU aw;generalize p[i]=k;intro aw zU c;induction k using M.casesOn with|c s=>exact oE (R:=fun l=>N[i]?=o l→_) zU (fun v b=>⟨s,v,aw,b⟩) bE|_=>exact nomatch c
theorem amM(D:aP j A f m){p:List M}{k:M}{Q:Nat}(aw:p.length≤cK)(b:s2 k p=o Q)(aH:uw j m p l)(al:ca j.b m.d k ad)(Z:P (.int Q m.b.toks) {m.b with toks:=m.b.toks+1}):j.e (eT (.builtin "list.index") [l,ad]) P S m.b:=tl b al fun y cz b=>d4 b fun am aG b=>eO aG fun CJ c=>by
 subst c;obtain⟨g,br,⟨r,aj⟩,t⟩:=aH;obtain⟨bZ,H,L⟩:=L0.mp b;have MB:∀(i:Nat)(a4:i<br.length),RU y br[i]=Kb y (p[i]'(t.1▸a4)):=fun i a4=>by obtain⟨u,v,aG,aK⟩:=O9 CJ t a4;rw[aJ ((hT a4).symm.trans aK),aJ ((hT (t.1▸a4)).symm.trans aG)];exact Lq u y
 have Nj:Q<br.length:=t.1▸bZ;have jA:p.length≤100000:=aw;refine yR PySem.F.slot_list_index ⟨_,aj,rfl⟩ PySem.F.entry_list_index (PySem.F.args_list_index_2 _ _) (SeqAt.list_indexAt g br.toArray r U #[] (.str (bx y) cz) (RU y) Q Nj (by omega) ?_ fun z a9 kZ=>?_) ⟨aj,fun G a8=>?_,Z⟩;·exact(MB Q Nj).trans H
 ·have Xp:z<br.length:=a9;refine(MB z Xp).trans ?_;simpa using L z kZ
 ·obtain⟨i,a4,rfl⟩:=List.getElem_of_mem (GC.mp a8);obtain⟨u,v,_,aK⟩:=O9 CJ t a4;rw[aJ ((hT a4).symm.trans aK)];exact SeqAt.EqAt.str_str _ _ _ _
theorem ahc(D:aP j A f m){F:List (List Nat×M)}{v:List Nat}{cz:Tok}{k:M}(aH:z' j m F l)(al:ca j.b m.d k ad)(Z:∀ad r,ca j.b m.d ((mJ F v).getD k) ad→P ad {m.b with toks:=r}):j.e (eT (.builtin "dict.get") [l,.str (bx v) cz,ad]) P S m.b:=by
 obtain⟨g,b1,a8,aI,t⟩:=aH;refine call_meetsIn PySem.F.slot_dict_get aI.mapOf.typeIs PySem.F.entry_dict_get (PySem.F.args_dict_get_3 _ _ _) (meets_dict_get_default (m_ j.b.d j.b.e) g (k:=bx v) (yW ..) a8 ad) ⟨_,aI.mapOf,?_⟩;have w:=LL v t;rcases c:mJ F v with _|u;·rw[c]at w Z;rw[show valueAt b1 (bx v)=U from w];exact Z ad _ al
 ·rw[c]at w Z;obtain⟨x,w,uk⟩:=w;rw[w];exact Z x _ uk
theorem vd{aL:dQ}{ap:bc}{az:List a0}(c:az.any fw=C):(lX ap (kT az aL)).any (·.1)=C:=by induction az with|nil=>rfl|cons b t ak=>rw[tB,F']at c;rw[vC c.1];exact ak c.2
theorem xe{fP:Model}{aS:g6}{y:aT}{w:aa}{fQ:List (Bool×Sem aa)}{P:Args→aT→Prop}(al:fQ.any (·.1)=C)(c:da fP aS (spliced fQ) (fun N am=>P ⟨N,[]⟩ am) S y):da fP aS (evalArgs w I fQ []) P S y:=by induction fQ with|nil=>unfold evalArgs;show da fP aS (spliced []>>=_) P S y;refine bo (gs c (fun N am bl=>?_) fun _ _ d=>d);exact bo (c9 (mr (bo (c9 (bo (c9 (c9 bl)))))))|cons g fE=>
 obtain⟨e,d⟩:=g;rcases e;·exact evalArgs_plain c
 ·exact nomatch al
def wN(E:cV)(w:aa):Prop:=∀(fP:Model)(c:eh),E.b.In c→∃v,(v=Keeper.frame∨v=Keeper.machine∨v=Keeper.boundFrame)∧Looks fP c (keeperOf w) v
theorem Kd{E:cV}{j2:String}:wN E (.builtin j2):=fun fP c _=>⟨.machine,.inr (.inl rfl),Looks.now⟩
theorem amp{E:cV}{aB:String}:wN E (.type aB):=fun fP c _=>⟨.machine,.inr (.inl rfl),Looks.now⟩
theorem R7{E:cV}(cS:qp E){i:Nat}{g:aD}(c:f_[i]?=o g):wN E (.ref g):=fun fP bl bS=>keeps_K (cS i g c) bl bS
theorem IM{w:aa}{v_:List aa}{az:List a0}{ap:bc}{g:aZ}{lm:ay→dk→aa→Prop}{v:List K→af→bJ dk}(ar:wN j.b w)(gX:az.any fw=C)(D:aP j A f m)(c:oi j ap az g)(bf:∀ag a1 N ae,m.c ae→aP j A a1 ae→em j.b ae ag N→d3 j lm A ae (eT w (v_++N)) (v ag a1)):d3 j lm A m (v3 ap w v_ (lX ap (kT az j.c)) []) (bU (j.w g A f) v):=bL.c (fun P S c=>callWith_of (P:=j.b.b.In) (by rw[vd gX];rfl) (fun c bS=>ar _ c bS) (xe (vd gX) c)) ((c A f m D).b (ao:=fun N bQ P S=>j.b.b.In bQ.heap∧j.e (eT w (v_++N)) P S bQ) fun ag a1 N ae db dE ds=>bL.c (fun P S c=>⟨dE.R,c⟩) (bf ag a1 N ae db dE ds))
theorem acH{n:a0}(aW:xZ n=C)(c1:aq)(aL:dQ)(x:Sem aa):attributeBase n c1 aL x=x:=by
 rcases n<;>first|rfl|skip
 rename_i w aM eW k;rcases w<;>first|rfl|skip
 rcases aM<;>first|rfl|skip
 rcases eW<;>first|rfl|exact nomatch aW
theorem KE{n:a0}{c1:aq}{v2 ap:bc}{fQ:List a0}(aW:xZ n=C)(o3:(v2.endLine==ap.line)=I)(gX:fQ.any fw=C)(j0:fQ.length≤20){y:aT}(c:j.e (eD n j.c) (fun ue bQ=>j.e (q7 ue c1 (do return(←importBound n j.c).getD I)) (fun rd cE=>j.e (v3 ap rd.1 rd.2 (lX ap (kT fQ j.c)) []) P S cE) S bQ) S y):j.e (eD (.Call (.Attribute n c1 v2) fQ [] ap) j.c) P S y:=by
 show da _ _ _ _ _ _;rw[arm_eval_Call,acH aW];refine bo (gs c (fun ue bQ eV=>bo (p1 ?_)) fun _ _ b=>b);have Xa:methodCallForm (fQ.length+([]:List Keyword).length) (lX ap (kT fQ j.c)) (backToKw ap (keywordEach [] j.c))=I:=by
  unfold methodCallForm;have L:(lX ap (kT fQ j.c)).all (fun d=>!d.1)=I:=by have H:=vd (aL:=j.c) (ap:=ap) gX;rw[←List.not_any_eq_all_not,H];rfl
  rw[L];exact decide_eq_true (gR j0 (by decide))
 unfold methodCall;rw[Xa,show methodCallPos I n j.c v2 ap=d6 ap by unfold methodCallPos;rw[o3];rfl];exact bo (mr (gs eV (fun rd cE ss=>bo (c9 ss)) fun _ _ d=>d))
inductive rA(E:cV)(d:bF):i'→aa→Prop|b{w:Nat}{g:aD}(c:f_[w]?=o g):rA E d (.d w) (.ref g)|i(c:d∈FP):rA E d .b (.builtin (FN d))|g(c:d=.lC):rA E d .c (.builtin "list.index")|c(c:d=.jE):rA E d .c (.builtin "list.append")|e(c:d=.oa):rA E d .e (.builtin "dict.get")
abbrev Ae(j:b5)(m:ay)(d:bF)(l:aa)(z:i')(P:aa×List aa→aT→Prop):Prop:=∀w,rA j.b d z w→P (w,[l]) m.b
theorem Sz{d:bF}{g:aD}{N:List aa}{z:i'}{i6:Sem Bool}{P:aa×List aa→aT→Prop}(aY:wO m.b.heap g N)(b:Ky d=o z)(Z:Ae j m d (.ref g) z P):j.e (q7 (.ref g) (b8 d) i6) P S m.b:=eO b fun aH c=>by
 subst c;obtain⟨r,aj⟩:=aY;have fR:∀{j2:String},Slot "list" (b8 d) j2→typeOf (.builtin j2)=d6 (.type "method_descriptor")→rA j.b d .c (.builtin j2)→j.e (q7 (.ref g) (b8 d) i6) P S m.b:=fun H L aR=>getMethod_builtin ⟨_,aj,rfl⟩ PySem.F.plainAttrs_list H L (fun e aN=>GR aN▸⟨_,aj,rfl⟩) (Z _ aR);rcases aH with rfl|rfl;·rw[qt (y:="index") (by decide+kernel)]at fR⊢;exact fR PySem.F.slot_list_index PySem.F.type_list_index (.g rfl)
 ·rw[qt (y:="append") (by decide+kernel)]at fR⊢;exact fR PySem.F.slot_list_append PySem.F.type_list_append (.c rfl)
theorem Qc{d:bF}{F:List (List Nat×M)}{z:i'}{i6:Sem Bool}{P:aa×List aa→aT→Prop}(aH:z' j m F l)(b:Jp d=o z)(Z:Ae j m d l z P):j.e (q7 l (b8 d) i6) P S m.b:=eO b fun c bl=>by subst c bl;obtain⟨g,b1,a8,aY,t⟩:=aH;have k:=Z _ (.e rfl);rw[qt (y:="get") (by decide+kernel)];obtain⟨n,az,dn,aj,rg,_⟩:=id aY;exact getMethod_builtin aY.typeIs PySem.F.plainAttrs_dict PySem.F.slot_dict_get PySem.F.type_dict_get (fun e aN=>GR aN▸⟨_,aj,rg.2.1⟩) k
theorem Tb(D:aP j A f m){V:Type}{d:bF}{q:Nat}{k cr cL:aD}{az:List h8}{r:Nat}{p:List (bF×V)}{z:i'}{i6:Sem Bool}{P:aa×List aa→aT→Prop}(b:KG dm q p d=o z)(bf:rJ j.b.b q cL=I)(H:m.b.heap.get? k=o (i1 cL cr))(L:m.b.heap.get? cr=o (fY az r))(cN:fH d p=U→gg (b8 d) az=o U)(Z:Ae j m d (.ref k) z P):j.e (q7 (.ref k) (b8 d) i6) P S m.b:=th b (fun _ _ b=>bb b) fun ah b=>gN b fun w a9 c=>by
 subst c;have jx:=D4 bf;have ud:=jx.t d;unfold KD at ud;rw[a9]at ud;dsimp only at ud;rcases aY:f_[w]?with _|g;·rw[aY]at ud;exact nomatch ud
 ·rw[aY]at ud;obtain⟨st,rm⟩:=bX ud;exact method_fn D.R (AY H L) jx.c jx.e (beq_iff_eq.mp st) (beq_iff_eq.mp rm) (by show(lookIn (b8 d) (fY az r)).map (·.isSome)=_;rw[lookIn_dict,cN ah];rfl) (Z _ (.b aY))
theorem anI(D:aP j A f m){d:bF}{z:i'}{i6:Sem Bool}{P:aa×List aa→aT→Prop}(b:E0 dm f d G=o z)(t:b7 j.b m G l)(Z:Ae j m d l z P):j.e (q7 l (b8 d) i6) P S m.b:=by induction G using K.casesOn with
 |b k=>induction k using M.casesOn with|c y=>exact eO b fun aH c=>oE (R:=fun l=>Ae j m d l z P→j.e (q7 l (b8 d) i6) P S m.b) t (fun s Z=>by subst c;obtain⟨H,L⟩:=aqJ aH;exact getMethod_builtin rfl PySem.F.plainAttrs_str H L (fun g c=>nomatch c) (Z _ (.i aH))) Z|f p=>obtain⟨g,N,r,aj,_⟩:=qM t;exact Sz ⟨r,D.p _ _ aj⟩ b Z|l p=>obtain⟨g,b1,n,aj,a8,bu,u⟩:=Tp t;exact Qc ⟨g,b1,a8,bu _ (D.p _ _ aj),u⟩ b Z|k q p=>obtain⟨g,X,cr,az,r,bf,gD,aj,aI,ah,aW⟩:=Fk t;exact Tb D b gD (D.p _ _ aj) (D.p _ _ aI) (ah d) Z|_=>exact bb b
 |c v=>refine tg D b t fun k n bE al aj u b=>?_;subst bE;induction u with|mF aU N H t=>exact Sz H b Z|oe aU a8 b1 H t=>exact Qc ⟨_,b1,a8,H,t⟩ b Z|pc aU X az r bf gD H L t=>exact Tb D b gD H L (t.1 d) Z|_=>exact bb b
 |d=>exact bb b
theorem SameBut.b{c bl:eh}{F:aD}(d:vX F c bl){e:aD}{n:cm}(aN:e≠F)(b:c.get? e=o n):bl.get? e=o n:=(d.2 e aN).trans b
theorem aac(D:aP j A f m){v:Nat}{k:M}{x:K}{z:bJ K}(b:z=(f[v]?).bind (DQ v k f))(aj:b7 j.b m (.c v) l)(al:ca j.b m.d k ad):d3 j (b7 j.b) A m (eT (.builtin "list.append") [l,ad]) z:=fun t a1 dh P S Z=>tg D (b▸dh) aj fun u n bE cw ar t b=>by induction t with
 | @mF p aU N H jC=>
  by_cases aw:p.length<cK;·rw[show DQ v k f (.b p)=_ from if_pos aw]at b;obtain⟨rfl,rfl⟩:=bw (aJ b);subst bE;refine wpAny_list_append_plain H (fun bl kt aW=>?_) (by rw[GF,jC.1];exact io (oQ aw));exact Z _ (m.k {m.b with heap:=bl}) (ay.c.d _) (D.aB (am:={m.b with heap:=bl}) cw (fun e n u _ b=>SameBut.b aW u b) ⟨rfl,rfl,rfl⟩ (.mF aU (N++[ad]) (by rw[←List.push_toArray];exact kt) (jC.c (dV.g al dV.e)))) ca.qr
  ·rw[show DQ v k f (.b p)=_ from if_neg aw]at b;exact bb b
 |_=>exact bb b
theorem anK(aA:dC au j)(D:aP j A f m){d:bF}{z:i'}{o0:aa}(a3:rA j.b d z o0)(t:b7 j.b m G l)(nl:em j.b m ag N):d3 j (b7 j.b) A m (eT o0 ([l]++N)) (jM j.l z G d ag f):=by induction a3 with
 |b c=>exact aA.y j.c j.m j.t j.x j.p A f m _ _ _ _ D c (em.b t nl)
 |i c=>exact fun x a1 b P S Z=>oO (w:=fun y=>cI ((BQ y d f ag).map K.b) f) (show _=o (x,a1)from b) t fun y s b=>bL.p (fun k b P S Z=>aqM D b nl Z) x a1 b P S Z
 |g c=>
  subst c;refine fun x a1 b P S Z=>om (w:=fun e_=>ed e_ fun k=>RK G k f) (show _=o (x,a1)from b) nl fun gk ad d' b=>gb b d' fun k al b=>d4 b fun p aw b=>?_;by_cases jA:p.length≤cK;·rw[if_pos jA]at b;exact bL.i (j:=j) (bk:=b7 j.b) (A:=A) (f:=f) (m:=m) (cc:=fun P S=>j.e (eT (.builtin "list.index") [l,ad]) P S m.b) (fun x b P S Z=>gN b fun Q b c=>amM D jA b (u8 D aw t) al (Z _ (m.k {m.b with toks:=m.b.toks+1}) (ay.c.d _) (D.au _) (c▸(show b7 j.b (m.k {m.b with toks:=m.b.toks+1}) (.b (.b (Q:Nat))) _ from ca.ns _ _)))) x a1 b P S Z
  ·rw[if_neg jA]at b;exact bb b
 |c c=>subst c;refine fun x a1 b P S Z=>om (w:=fun e_=>ed e_ fun k=>Pb G k f) (show _=o (x,a1)from b) nl fun gk ad d' b=>gb b d' fun k al b=>?_;induction G using K.casesOn with|c v=>exact aac (x:=.c v) D rfl t al x a1 b P S Z|_=>exact bb b
 |e c=>subst c;refine fun x a1 b P S Z=>DB (w:=fun v l=>nP v fun y=>ed l fun l=>(AC f G).bind fun F=>cW (K.b ((mJ F y).getD l)) f) (show _=o (x,a1)from b) nl fun fq f2 auB Oq jC k2 b=>oO b jC fun y s b=>gb b k2 fun k al b=>d4 b fun F aI b=>?_;obtain⟨rfl,rfl⟩:=bw (aJ b);exact ahc D (Jq D aI t) al fun ad r t=>Z _ (m.k {m.b with toks:=r}) (ay.c.d _) (D.au r) t
theorem anF(cS:qp j.b){d:bF}{z:i'}{w:aa}(c:rA j.b d z w):wN j.b w:=by induction c with|b c=>exact R7 cS c|_=>exact Kd
theorem anL(aA:dC au j){n:a0}{d:bF}{aM:List a0}{g e:aZ}{v2 ap:bc}(aW:xZ n=C)(o3:(v2.endLine==ap.line)=I)(gX:aM.any fw=C)(j0:aM.length≤20)(H:c4 j n g)(L:oi j ap aM e):c4 j (.Call (.Attribute n (b8 d) v2) aM [] ap) (.j g d e):=.k (fun _=>rfl) fun A f m D=>by show d3 j _ _ _ _ (bU (j.n g A f) fun G f=>(E0 dm f d G).bind fun z=>bU (j.w e A f) fun ag f=>jM j.l z G d ag f);refine bL.c (fun P S=>KE aW o3 gX j0) ((H.e A f m D).b (ao:=fun ue bQ P S=>j.e (q7 ue (b8 d) (do return(←importBound n j.c).getD I)) (fun rd cE=>j.e (v3 ap rd.1 rd.2 (lX ap (kT aM j.c)) []) P S cE) S bQ) fun G bW l ba cH bG cs=>?_);exact fun x a1 b P S Z=>d4 b fun z a9 b=>anI bG a9 cs fun w a3=>IM (v_:=[l]) (anF aA.x a3) gX bG L (fun ag a1 N ae db dE ds=>anK aA dE a3 (cs.b db) ds) x a1 b P S Z
end
end
section
open PySem PySem.W PyProof.Rows PySem.Calls Builtin.Str
section
variable{V bg dk ek:Type}{j:b5}{au:dU}{A:List (Option K)}{f a1:af}{m:ay}{P:aa→aT→Prop}{S:aa→aT→Prop}{ag:List K}{N:List aa}{d G x:K}{l ad:aa}
theorem aej(D:aP j A f m){dI:m6}{lw:cJ}{aS:g6}{d:aD}{cL cr:aD}{az:List h8}{r:Nat}{q:Nat}{P:Option aa→aT→Prop}(jx:OJ j.b.b q cL)(H:m.b.heap.get? d=o (i1 cL cr))(L:m.b.heap.get? cr=o (fY az r))(c:P (o (.ref cL)) {m.b with toks:=m.b.toks+1}):da (c6 dI lw) aS (getAttr? (.ref d) "__class__") P S m.b:=by
 have bS:=D.R;have D:=AY H L;have sp:(clsIn j.b.b cL).isSome=I:=by obtain⟨eU,c,_⟩:=jx.b;exact c▸rfl
 have a3:=findObj_data (od:=fY az r) sp jx.i jx.k jx.n;have i3:=D.type (M:=c6 dI lw);have oV:=q4 (M:=c6 dI lw) bS jx.c;have m0:=looks_find (M:=c6 dI lw) bS D a3;have li:=q4 (M:=c6 dI lw) bS jx.e;unfold getAttr? getAttrBy? getAttrBy;refine bo (wpAny_mkText ?_);refine bo (wpAny_attempt (mr (bo (i3 _ _ _ _ (fun _ _ b=>b) (bo (oV _ _ _ _ (fun _ _ b=>b) ?_))))));show da _ _ (getAttrEveryday _ _ _) _ _ _;refine bo (wpAny_onRaise (wpAny_runValue (codeAny_builtin F.plainObj_entry_getattr_hooked ?_)));refine bo (c9 (bo (i3 _ _ _ _ (fun _ _ b=>b) (bo (m0 _ _ _ _ (fun _ _ b=>b) (bo (li _ _ _ _ (fun _ _ b=>b) ?_)))))));show da _ _ (holding [.builtin "object.__class__"] (eT (.builtin "getset_descriptor.__get__") [.builtin "object.__class__",.ref d,.ref cL])>>=ret) _ _ _;refine bo (mr (p0 (class_get (s:={m.b with toks:=m.b.toks+1}) (ox:=i1 cL cr) (od:=o (fY az r)) bS D jx.v ?_)));exact c9 (handed_on rfl (c9 c))
theorem ael{R:Prop}{ao:di}{X:aD}{eU:ClassData}(c:clsIn ao X=o eU)(v:∀g e y,ao.lookup X=o ⟨g,e,.cls eU,y⟩→R):R:=by
 unfold clsIn at c;rcases u:ao.lookup X with _|⟨g,e,d,y⟩;·rw[u]at c;exact bb c
 ·rw[u]at c;induction d using Data.casesOn with|cls atW=>obtain rfl:=aJ c;exact v g e y u|_=>exact bb c
theorem alU(D:aP j A f m){d:aD}{q:Nat}{cL cr:aD}{az:List h8}{r:Nat}(bf:rJ j.b.b q cL=I)(H:m.b.heap.get? d=o (i1 cL cr))(L:m.b.heap.get? cr=o (fY az r))(c:P (.bool C) {m.b with toks:=m.b.toks+1}):j.e (eT (.builtin "isinstance") [.ref d,.type "list"]) P S m.b:=by have jx:=D4 bf;refine call_isinstance (S:=fun aS bk y=>y=m.b∧bk (.ok (.ret (.bool C))) {m.b with toks:=m.b.toks+1}) (fun dI lw aS bk y aW=>?_) ⟨rfl,c⟩;obtain⟨rfl,c⟩:=aW;have bS:=D.R;have UZ:=AY H L;refine isinstance_outer ?_ (fun b=>nomatch b);have i3:=UZ.type (M:=c6 dI lw);have Cy:=looks_mroIn (M:=c6 dI lw) bS jx.u;have li:Looks (c6 dI lw) m.b.heap (isInstance (.ref d) (.type "list")) C:=i3.andThen Cy;unfold Builtin.«isinstance.nested»;refine bo (i3 _ _ _ _ (fun _ _ b=>b) ?_);rw[if_neg (fun u=>by cases beq_iff_eq.mp u)];refine bo (c9 ?_);rw[if_pos (by decide)];k_delta"plainIsInstance";unfold isType;refine bo (bo (c9 ?_));rw[if_neg (show¬(!I)=I by decide)];refine bo (li _ _ _ _ (fun _ _ b=>b) ?_);rw[if_neg (show¬C=I by decide)];refine bo (aej D jx H L ?_);obtain⟨eU,N',_⟩:=jx.b;refine ael N' fun g e y aj=>?_;refine bo (nd_load (bS _ _ aj) (nd_pure ?_));rw[if_neg (show¬(!I)=I by decide)];exact bo (wpAny_rule (Cy _ _ _ _ (fun _ _ b=>b) (c9 c)))
theorem alW{E:cV}{bj:eN}{p:List M}:∀{N:List aa}{l0:List Int},Ez p=o l0→dV E bj p N→AllInts N.toArray∧numsOf N=l0:=by induction p with|nil=>exact fun b t=>yo t ⟨fun l bE=>(nomatch GC.mp bE),aJ b⟩|cons k p ak=>
 refine fun b t=>yn t fun l N hI t=>Fv b hI fun i s b=>gN b fun auc b c=>?_;obtain⟨H,L⟩:=ak b t;refine⟨fun ad cu=>?_,by rw[←c,←L];rfl⟩;rcases gQ.mp (GC.mp cu)with rfl|cu;·exact⟨_,_,rfl⟩
 ·exact H ad (GC.mpr cu)
theorem ag5{E:cV}{bj:eN}(i:Int)(s:Tok):ca E bj (.c (rM i)) (.str (toString i:String) s):=by
 have c:(se (toString i))=bx (rM i):=by unfold rM;rw[←PyProof.Rows.signs_ofString (toString i),TQ]
 show ca E bj (.c (rM i)) (.str (se (toString i)) s);rw[c];exact .og _ _
theorem Sp{r:Nat}(c:r≤cK):(r:Int)<2^63:=B7 (tA.mpr c) (by decide)
abbrev oh(j:b5)(A:List (Option K))(f:af)(m:ay)(P:aa→aT→Prop)(x:K):Prop:=∀l ae,m.c ae→aP j A f ae→b7 j.b ae x l→P l ae.b
theorem oh.b{k:M}(Z:oh j A f m P x)(c:.b k=x):ie j A f m P k:=fun l ae O D t=>Z l ae O D (c▸t)
theorem oh.c(D:aP j A f m){k:M}(Z:oh j A f m P x)(c:.b k=x){am:aT}(ar:∀g n,m.b.heap.get? g=o n→am.heap.get? g=o n)(b4:am.gens=m.b.gens∧am.os=m.b.os∧am.drawn=m.b.drawn)(t:ca j.b m.d k l):P l am:=Z.b c l (m.k am) (ay.c.d _) (D.aA ar b4) t
theorem TA(D:aP j A f m){g e q:Int}{gY dc j5:Tok}{r:Nat}(Z:oh j A f m P x)(c:.b (.m g e q)=x):P (.ref m.b.heap.objs.size) {m.b with heap:=m.b.heap.push {cls:=.type "range",data:=.fields #[.int g gY,.int e dc,.int q j5]},toks:=r}:=let n:cm:={cls:=.type "range",data:=.fields #[.int g gY,.int e dc,.int q j5]};let am:aT:={m.b with heap:=m.b.heap.push n,toks:=r};have aj:(m.b.heap.push n).get? m.b.heap.objs.size=o n:=ko _ rfl;Z.b c _ _ (D.a1 (am:=am) (n:=n) (df _)) (D.aX (am:=am) (n:=n) (fun g n b=>gr _ b) ⟨rfl,rfl,rfl⟩ (df _) aj) (.Ah n gY dc j5 oF fun al b=>by have u:IsRange (m.b.heap.push n) m.b.heap.objs.size g e q gY dc j5:=IsRange.new ..;revert u;unfold IsRange;rw[aj,b];exact id)
theorem al4(D:aP j A f m){e:i9}{k:M}(b:RY e k=o x)(t:ca j.b m.d k l)(Z:oh j A f m P x):j.e (eT (.builtin "isinstance") [l,e.sH]) P S m.b:=by induction e with
 |f5=>induction k using M.casesOn with|c y=>exact oE t fun s=>PySem.IsiPair.str_str ((Z.b (aJ b)).e D rfl m.b.toks)|f p=>obtain⟨g,br,r,aj,_⟩:=qM t;exact call_isinstance (isinstance_false_list (T:="str") (by decide) PySem.F.isi_meta_str PySem.F.sub_list_str) ⟨⟨_,D.p _ _ aj,rfl⟩,(Z.b (aJ b)).e D rfl _⟩|_=>exact bb b
 |us=>induction k using M.casesOn with|f p=>obtain⟨g,br,r,aj,_⟩:=qM t;exact call_isinstance (isinstance_true (Tx:="list") PySem.F.isi_meta_list PySem.F.sub_list_list) ⟨⟨_,D.p _ _ aj,rfl⟩,(Z.b (aJ b)).e D rfl m.b.toks⟩|k q p=>obtain⟨g,X,cr,az,r,bf,gD,aj,aI,ah,aW⟩:=Fk t;exact alU D gD (D.p _ _ aj) (D.p _ _ aI) ((Z.b (aJ b)).e D rfl _)|_=>exact bb b
 |_=>exact bb b
theorem amG(D:aP j A f m)(b:Sm f d=o x)(t:b7 j.b m d l)(Z:oh j A f m P x):j.e (eT (.builtin "len") [l]) P S m.b:=th b (fun p aw b=>eO b fun jA c=>by obtain⟨g,br,aY,ui⟩:=u8 D aw t;have aW:br.toArray.size=p.length:=ui.1;exact Calls.call_len_list aY.isList (by rw[aW];exact Sp jA) (by rw[aW];exact(Z.b c).b D rfl _ _)) fun ah b=>oO b t fun y s b=>eO b fun jA c=>PyProof.Rows.SBL.len (Sp jA) ((Z.b c).b D rfl _ _)
theorem alV (D : aP j A f m) {k : M} (b : RQ k = o x) (t : ca j.b m.d k l) (Z : oh j A f m P x) : j.e (eT (.type "int") [l]) P S m.b := by
  induction k using M.casesOn with
  | g e => rw [K7 t]; exact call_int_bool ((Z.b (aJ b)).b D rfl _ _)
  | c y => exact oE t fun s => by
               have b : (if y.length ≤ 640 then (PySem.intText? (lR y)).map fun r => K.b (.b r) else U) = o x := b
               by_cases aw : y.length ≤ 640
               · rw [if_pos aw] at b
                 exact gN b fun r ah c => PySem.W.KIN.call_text ah aw ((Z.b c).b D rfl _ _)
               · rw [if_neg aw] at b; exact bb b
  | _ => exact bb b
theorem apx(D:aP j A f m){d:K}{ag:List K}(b:Tz d ag=o x)(d':b7 j.b m d l)(t:em j.b m ag N)(Z:oh j A f m P x):j.e (eT (.type "range") (l::N)) P S m.b:=by induction ag with|nil=>exact w1 t (nO b d' fun e s b=>eO b fun aw c=>call_range_1 (TA D Z c))|cons G ag=>
 refine pi t fun ad N o8 t=>om b t fun v u YP b=>nO b d' fun g s b=>nO b o8 fun e dc b=>nO b YP fun q j5 b=>eO b fun aw c=>?_;have bf:q≠0∧q.natAbs<1073741824:=by exact⟨Int.ne_of_gt aw.2.2.2.1,E3 (vL aw.2.2.2.1) (B7 aw.2.2.2.2 (show((100000:Nat):Int)<(1073741824:Nat)by decide))⟩
 exact call_range_3 bf.1 (TA D Z c) (.inl (PyProof.noPylong_small bf.2))
theorem aqZ(D:aP j A f m)(d0:j.i.handled=U){p:List M}{l0:List Int}(b:Ez p=o l0)(aH:sK j.b m.d p l)(c:.b (.b l0.sum)=x)(Z:oh j A f m P x):j.e (eT (.builtin "sum") [l]) P S m.b:=by obtain⟨g,br,r,aj,t⟩:=aH;obtain⟨H,L⟩:=alW b t;obtain⟨ag,zE⟩:=H.items;have kt:m.b.heap.IsList g br.toArray:=Heap.PlainList.isList ⟨r,D.p _ _ aj⟩;rw[zE]at kt;refine sum_intListG d0 kt fun bl cz hv ar=>?_;rw[show preSum (numAt ag) ag.size=l0.sum by rw[preSum_eq,L5 (by simp),←nums_intItems,←zE,←L]];exact Z.c D c ar ⟨rfl,rfl,rfl⟩ (.ns _ _)
theorem acM(D:aP j A f m)(d0:j.i.handled=U){e:i9}(b:h2 e f ag=o x)(t:em j.b m ag N)(Z:oh j A f m P x):j.e (eT e.sH N) P S m.b:=by induction e with
 |hL=>exact om b t fun d l d' b=>amG D b d' Z
 |ur=>exact om b t fun d l d' b=>nO b d' fun i s b=>call_abs_int fun ad cz=>(by
  have:(if i<0 then-i else i)=(i.natAbs:Int):=by
   by_cases u:i<0;·rw[if_pos u];exact(Int.ofNat_natAbs_of_nonpos (vL u)).symm
   ·rw[if_neg u];exact(Int.natAbs_of_nonneg (oP.mp u)).symm
  rw[this];exact(Z.b (aJ b)).b D rfl _ _)
 |wH=>exact DB b t fun d G l ad d' o8 b=>ou b d' o8 fun g s e hv b=>max_two_ints d0 fun bl cz ar=>Z.c D (aJ b) ar ⟨rfl,rfl,rfl⟩ (by split<;>exact .ns _ _)
 |ut=>exact om b t fun d l d' b=>gb b d' fun k hI b=>Lc b hI fun p aw b=>gN b fun l0 b c=>aqZ D d0 b aw c Z
 |wG=>exact DB b t fun d G l ad d' o8 b=>gb b o8 fun s o8 b=>(by induction s using M.casesOn with|i e=>rw[To o8];exact gb b d' fun k hI b=>al4 D b hI Z|_=>exact bb b)
 |f5=>exact om b t fun d l d' b=>nO b d' fun i s b=>eO b fun aw c=>PySem.P.str_of_int (fg (Kv aw) (by decide)) (Z.c D c (fun _ _ b=>b) ⟨rfl,rfl,rfl⟩ (ag5 _ _))
 |rx=>exact om b t fun d l d' b=>gb b d' fun k hI b=>alV D b hI Z
 |qm=>induction ag with|nil=>exact bb b|cons d ag=>exact pi t fun l N d' t=>apx D b d' t Z
 |us=>exact bb b
theorem amo{E:cV}(e:i9):wN E e.sH:=by rcases e<;>first|exact Kd|exact amp
theorem Ja{w:a0}{aM:List a0}{ap:bc}{aL:dQ}(a3:J_ w=C):eD (.Call w aM [] ap) aL=(do v3 ap (←eD w aL) [] (lX ap (kT aM aL)) (backToKw ap (keywordEach [] aL))):=by rcases w<;>first|rfl|exact nomatch a3
theorem ad4(aA:dC au j){w:a0}{aM:List a0}{g e:aZ}{ap:bc}(a3:J_ w=C)(gX:aM.any fw=C)(H:c4 j w g)(L:oi j ap aM e):c4 j (.Call w aM [] ap) (.g g e):=.k (fun _=>rfl) fun A f m D=>by show d3 j _ _ _ _ (bU (j.n g A f) fun E f=>ed E fun k=>DZ j.l (j.w e A) k f);rw[Ja a3];refine bL.c (fun P S=>bo) ((H.e A f m D).b (ao:=fun l y P S=>j.e (v3 ap l [] (lX ap (kT aM j.c)) (backToKw ap (keywordEach [] j.c))) P S y) fun G bW l ba cH bG cs=>?_);refine fun x a1 b P S Z=>gb b cs fun k hI b=>?_;induction k using M.casesOn with|d i=>obtain⟨nX,aY,rfl⟩:=hI.qq;exact IM (v_:=[]) (R7 aA.x aY) gX bG L (fun ag a1 N ae db dE ds=>aA.y j.c j.m j.t j.x j.p A a1 ae i nX ag N dE aY ds) x a1 b P S Z|i Vl=>obtain rfl:=To hI;exact IM (v_:=[]) (amo Vl) gX bG L (fun ag a1 N ae db dE ds=>bL.i fun G b P S Z=>acM dE aA.i b ds Z) x a1 b P S Z|_=>exact bb b
end
end
section
open PySem PySem.W PyProof.Rows PySem.Calls
section
variable{V bg dk ek:Type}{j:b5}{au:dU}{A:List (Option K)}{f a1:af}{m:ay}{P:aa→aT→Prop}{S:aa→aT→Prop}{ag:List K}{N:List aa}{d G x:K}{l ad:aa}{E:cV}{bj:eN}
noncomputable def ay.s(m:ay)(ek:od):ay:={m with f:=m.f++ek}
theorem ay.c.s(m:ay)(ek:od):m.c (m.s ek):=⟨⟨fun _ _ c=>c,ek,rfl⟩,rfl⟩
theorem IQ{f4 ek:od}{e:aD}(c:iP (f4++ek) e):iP f4 e∨iP ek e:=by
 obtain⟨k,al,aN⟩:=c;rcases Gy.mp al with c|c;·exact .inl ⟨k,c,aN⟩
 ·exact .inr ⟨k,c,aN⟩
theorem IR{k:aD×aD}{e:aD}(c:iP [k] e):e=k.1∨e=k.2:=by obtain⟨u,cw,aN⟩:=c;rw[m4.mp cw]at aN;exact aN
theorem BP{V:Type}{R:Nat→V→Prop}{p:List V}{g:V}(H:∀i d,p[i]?=o d→R i d)(L:R p.length g)(i:Nat)(d:V)(c:(p++[g])[i]?=o d):R i d:=by
 rw[Gq]at c;by_cases q:i<p.length;·rw[if_pos q]at c;exact H i d c
 ·rw[if_neg q]at c;have es:=(eg.mp c).1;have b:i-p.length=0:=GH.mp es;rw[b]at c;obtain rfl:=aJ c;rw[Nat.le_antisymm (Nat.le_of_sub_eq_zero b) (Nat.le_of_not_lt q)];exact L
theorem As{V:Type}{p:List V}{k:V}{r:Nat}(c:p.length=r):(p++[k])[r]?=o k:=by subst c;rw[yE (df _),Nat.sub_self];rfl
theorem aP.aM(D:aP j A f m){k:aD×aD}{n:eJ}(cC:ci j m k.1)(c':ci j m k.2)(nk:iN j.b (m.s [k]) k n):aP j A (f++[n]) (m.s [k]):=by
 have O:=ay.c.s m [k];have N4:∀{e},¬iP m.f e→e≠k.1→e≠k.2→¬iP (m.s [k]).f e:=fun c H L u=>(IQ u).elim c fun u=>(IR u).elim H L;have i5:∀{v:Nat}{u:aD×aD},m.f[v]?=o u→u.1≠k.1∧u.1≠k.2∧u.2≠k.1∧u.2≠k.2:=fun{v u}cw=>by have z:=dZ cw;exact⟨fun b=>cC.l ⟨u,z,.inl b.symm⟩,fun b=>c'.l ⟨u,z,.inl b.symm⟩,fun b=>cC.l ⟨u,z,.inr b.symm⟩,fun b=>c'.l ⟨u,z,.inr b.symm⟩⟩
 exact{
  ao:=D.ao,p:=D.p,Z:=D.Z,ai:=D.ai,x:=⟨D.x.1,D.x.2.1,N4 D.x.2.2 cC.p.symm c'.p.symm⟩,y:=BP (R:=fun v(k:aD×aD)=>(m.d k.1=U∧m.d k.2=U)∧m.i k.1=U∧m.i k.2=U) D.y ⟨⟨cC.d,c'.d⟩,cC.i,c'.i⟩,G:=fun g c=>by obtain⟨H,L,aR⟩:=D.G g c;exact⟨H,N4 L (fun b=>cC.r (b▸c)) (fun b=>c'.r (b▸c)),aR⟩,P:=by obtain⟨z,H,L,aR⟩:=D.P;exact⟨z,H,L,fun i d aH=>⟨fun l bE=>by obtain⟨ad,g,e⟩:=(aR i d aH).1 l bE;exact⟨ad,g,e.b O⟩,(aR i d aH).2⟩⟩,E:=by show(m.f++[k]).length=_;rw[fy,fy,D.E];rfl,ag:=fun i Q u t a4 bZ=>by revert i u;revert Q t;refine BP (R:=fun Q t=>∀i u,(m.f++[k])[i]?=o u→i≠Q→u.1≠t.1∧u.1≠t.2∧u.2≠t.1∧u.2≠t.2) (fun Q t bZ=>BP (fun i u a4=>D.ag i Q u t a4 bZ) fun _=>?_) (BP (fun i u a4 _=>i5 a4) fun c=>absurd rfl c);obtain⟨H,L,aR,bh⟩:=i5 bZ;exact⟨H.symm,aR.symm,L.symm,bh.symm⟩,S:=fun v u cf cw aj=>by
   refine BP (R:=fun v u=>∀cf,(f++[n])[v]?=o cf→iN j.b (m.s [k]) u cf) (fun v u cw cf aj=>?_) (fun cf aj=>?_) v u cw cf aj;·rw[Ca (by rw[←D.E];exact(eg.mp cw).1)]at aj;exact(D.S v u cf cw aj).pd O.toUp (fun _ c=>c) fun _ c=>c
   ·rw[As D.E.symm]at aj;exact aJ aj▸nk,Y:=⟨D.Y.1,fun i v d g e oW es=>by obtain⟨k,q,F⟩:=D.Y.2 i v d g e oW es;exact⟨k,O.i q,F⟩⟩,J:=D.J}
theorem aP.bk(D:aP j A f m){be:aD}(c:m.b.heap.objs.size≤be):(be==sysModules)=C:=by obtain⟨g,n,H,L⟩:=j.b.p;have bh:64≤be:=bt L (bt (oQ (h9 (D.R g n H))) c);exact beq_false_of_ne fun b=>by rw[b]at bh;revert bh;decide
theorem SV(D:aP j A f m){n:cm}{z:eJ}{s:Nat}(aj:n.isFreed=C)(nk:∀ae,ae.b.heap.get? m.b.heap.objs.size=o n→iN j.b ae (m.b.heap.objs.size,m.b.heap.objs.size) z)(Z:oh j A (f++[z]) m P (.c f.length)):P (.ref m.b.heap.objs.size) {m.b with heap:=m.b.heap.push n,toks:=s}:=by have w:=(D.ap (df _)).s {m.b with heap:=m.b.heap.push n,toks:=s};exact Z _ _ ((ay.c.d _).k (ay.c.s _ _)) ((D.aE n s).aM w w (nk _ (ko _ aj))) ⟨_,As D.E,rfl⟩
theorem anW{ap:bc}:uu j (.List [] ap) .w:=fun A f m D=>bL.e (f:=f++[.b []]) fun P S Z=>wpAny_List_spliced (tI ⟨jT _,SV D (n:=ps []) rfl (fun ae c=>.mF rfl [] ⟨0,c⟩ dV.e) Z⟩)
theorem ahN{F:List (List Nat×M)}(v:List Nat):∀{b1:List (aq×aa)},fr E bj F b1→(b1.any fun b=>a6 (b.1=bx v))=F.any fun b=>a6 (b.1=v):=by induction F with|nil=>exact fun t=>AK t rfl|cons u F ak=>exact fun t=>AJ t fun l b1 al t=>by rw[tB,tB,ak t,show a6 (bx u.1=bx v)=a6 (u.1=v)from decide_eq_decide.mpr ⟨FL,congrArg bx⟩]
theorem ahO {F : List (List Nat × M)} {v : List Nat} {k : M} (al : ca E bj k l) : ∀ {b1 : List (aq × aa)}, fr E bj F b1 → fr E bj (F.map fun b => if b.1 = v then (b.1, k) else b) (b1.map fun b => if b.1 = bx v then (b.1, l) else b) := by
  induction F with
  | nil => exact fun t => AK t fr.e
  | cons u F ak => exact fun t => AJ t fun ad b1 cw t => by
                    rw [pL, pL]
                    by_cases q : u.1 = v
                    · rw [if_pos q, if_pos (congrArg bx q)]; exact fr.b (u := (u.1, k)) al (ak t)
                    · rw [if_neg q, if_neg fun c => q (FL c)]; exact fr.b cw (ak t)
theorem ahQ{F:List (List Nat×M)}{v:List Nat}{k:M}(al:ca E bj k l):∀{b1:List (aq×aa)},fr E bj F b1→fr E bj (F++[(v,k)]) (b1++[(bx v,l)]):=by induction F with|nil=>exact fun t=>AK t (fr.b (u:=(v,k)) al fr.e)|cons u F ak=>exact fun t=>AJ t fun ad b1 cw t=>fr.b cw (ak t)
theorem Qk{F:List (List Nat×M)}{b1:List (aq×aa)}(t:fr E bj F b1){v:List Nat}{k:M}(al:ca E bj k l):fr E bj (uL v k F) (stored b1 (bx v) l):=by
 unfold uL stored;rw[ahN v t];split;·exact ahO al t
 ·exact ahQ al t
theorem ahP{C4:List (List Nat×M)}:∀{zJ:List (aq×aa)}{F:List (List Nat×M)}{b1:List (aq×aa)},fr E bj F b1→fr E bj C4 zJ→fr E bj (C4.foldl (fun F b=>uL b.1 b.2 F) F) (merged b1 zJ):=by induction C4 with|nil=>exact fun t ds=>AK ds t|cons u C4 ak=>exact fun{aui F b1}t ds=>AJ ds fun l zJ al ds=>ak (zJ:=zJ) (F:=uL u.1 u.2 F) (b1:=stored b1 (bx u.1) l) (Qk t al) ds
inductive sJ(E:cV)(m:ay):List K→List (aa×aa)→Prop|c:sJ E m [] []|b{d G:K}{v l:aa}{t ds}(H:b7 E m d v)(L:b7 E m G l)(aR:sJ E m t ds):sJ E m (d::G::t) ((v,l)::ds)
def z_(j:b5)(ap:bc)(eW:List (Option a0))(N:List a0)(g:aZ):Prop:=∀A f m,aP j A f m→d3 j (sJ j.b) A m (evalPairs (pairTrees eW N j.c ap)) (j.w g A f)
theorem an0{ap:bc}:z_ j ap [] [] .e:=fun A f m D=>bL.g D sJ.c fun P S u=>pairTrees_nil_walk u
theorem aeC{ap:bc}{v l:a0}{eW:List (Option a0)}{N:List a0}{g e q:aZ}(H:c4 j v g)(L:c4 j l e)(aR:z_ j ap eW N q):z_ j ap (o v::eW) (l::N) (.d g (.d e q)):=fun A f m D=>by show d3 j (sJ j.b) A m _ (bU (j.n g A f) fun d f=>bU (bU (j.n e A f) fun G f=>bU (j.w q A f) fun ag f=>cW (G::ag) f) fun ag f=>cW (d::ag) f);refine bL.c (fun P S=>pairTrees_cons_walk) ((H.e A f m D).b (ao:=fun ad y P S=>j.e (eD l j.c) (fun x cE=>j.e (evalPairs (pairTrees eW N j.c ap)) (fun t fi=>P ((ad,x)::t) fi) S cE) S y) fun d bW ad ba cH bG cs=>?_);rw[op];refine(L.e A bW ba bG).b (ao:=fun x y P S=>j.e (evalPairs (pairTrees eW N j.c ap)) (fun t fi=>P ((ad,x)::t) fi) S y) fun G el hb bB dd bD fv=>?_;rw[op];exact(aR A el bB bD).b (ao:=fun t y P S=>P ((ad,hb)::t) y) fun ag n' T he hq gu H_=>bL.g (bk:=sJ j.b) gu (.b (cs.b (dd.k hq)) (fv.b hq) H_) fun P S u=>u
theorem aoG{ag:List K}{T:List (aa×aa)}(t:sJ j.b m ag T):∀{F:List (List Nat×M)},Te ag=o F→∃b1,Carries (m_ j.b.d j.b.e) T b1∧fr j.b m.d F b1∧T.length=F.length:=by induction t with|c=>exact fun b=>aJ b▸⟨[],trivial,fr.e,rfl⟩| @b d G v l t ds H L aR ak=>intro F b;refine oO (R:=fun v=>∃b1,Carries (m_ j.b.d j.b.e) ((v,l)::ds) b1∧fr j.b m.d F b1∧_=F.length) (w:=fun y=>ed G fun l=>(Fg U t).map ((y,l)::·)) b H fun y s b=>gb b L fun k al b=>gN b fun y9 b c=>?_;obtain⟨b1,g9,mt,y8⟩:=ak b;subst c;exact⟨(bx y,l)::b1,⟨yW ..,rfl,g9⟩,fr.b (u:=(y,k)) al mt,congrArg pT y8⟩
theorem ag2{eW:List (Option a0)}{N:List a0}{ap:bc}{g:aZ}(CJ:eW.all (·.isSome)=I)(aw:eW.length=N.length)(j0:eW.length≤15)(Xw:eW=[]→N=[]∧g=.e)(c:z_ j ap eW N g):c4 j (.Dict eW N ap) (.x g):=.k (fun _=>rfl) fun A f m D=>by
 show d3 j _ _ _ _ (bU (j.w g A f) Jr);by_cases aX:eW=[];·subst aX;obtain⟨rfl,rfl⟩:=Xw rfl;exact bL.e (f:=f++[.f []]) fun P S Z=>wpAny_Dict_empty (SV D (n:={cls:=.type "dict",data:=.dict #[]}) rfl (fun ae c=>.oe rfl (D.bk (df _)) [] ⟨_,#[],0,c,⟨rfl,rfl,rfl⟩,rfl,(fun _ aU=>by simp at aU),Pairs.nil,yH⟩ fr.e) Z)
 ·have w:=(D.ap (df _)).s {m.b with heap:=m.b.heap.push {cls:=.type "dict",data:=.dict #[]}};have bG:=D.aE {cls:=.type "dict",data:=.dict #[]} m.b.toks;have jn:∀g,g=m.b.heap.objs.size→ci j (m.k {m.b with heap:=m.b.heap.push {cls:=.type "dict",data:=.dict #[]}}) g:=fun g b=>b▸w;have sl:(m.b.heap.push {cls:=.type "dict",data:=.dict #[]}).get? m.b.heap.objs.size=o _:=ko _ rfl;refine bL.c (fun P S c=>wpAny_Dict_walk (knd:=m_ j.b.d j.b.e) CJ aw aX j0 c) (fun t a1 b P S Z=>bL.s (lm:=b7 j.b) (ao:=fun N bQ P S=>∃b1,Carries (m_ j.b.d j.b.e) N b1∧bQ.heap.DictOf (m_ j.b.d j.b.e) m.b.heap.objs.size []∧∀bl,bl.DictOf (m_ j.b.d j.b.e) m.b.heap.objs.size (merged [] b1)→vX m.b.heap.objs.size bQ.heap bl→P (.ref m.b.heap.objs.size) {bQ with heap:=bl,toks:=bQ.toks+N.length}) jn (c A f _ (bG.aL jn)) (fun ag bW T ba cH bG bD cs=>?_) t a1 b P S (Z.b (ay.c.d _)));refine fun t a1 b P S Z=>d4 b fun F aI b=>?_;obtain⟨b1,g9,mt,y8⟩:=aoG cs aI;by_cases CU:F.length≤15;·rw[if_pos CU]at b;obtain⟨rfl,rfl⟩:=bw (aJ b);obtain⟨cB,Wh⟩:=ci.E bG cH (rfl:(fun g=>g=m.b.heap.objs.size) m.b.heap.objs.size) w sl;refine⟨b1,g9,⟨_,#[],0,Wh,⟨rfl,rfl,rfl⟩,rfl,(fun _ aU=>by simp at aU),Pairs.nil,yH⟩,fun bl Hh aN=>?_⟩;have gu:=bD.av (am:={ba.b with heap:=bl,toks:=ba.b.toks+T.length}) (fun g n kv u=>SameBut.b aN (fun q=>kv (q▸cB)) u) ⟨rfl,rfl,rfl⟩;exact Z _ _ ((ay.c.d _).k (ay.c.s _ [(m.b.heap.objs.size,m.b.heap.objs.size)])) (gu.aM (cB.s _) (cB.s _) (.oe rfl (D.bk (df _)) _ Hh (ahP fr.e mt))) ⟨_,As bD.E,rfl⟩
  ·rw[if_neg CU]at b;exact bb b
end
end
section
open PySem PySem.W PyProof.Rows PySem.Calls
section
variable{V:Type}{j:b5}{au:dU}{A:List (Option K)}{f:af}{m:ay}{S:aa→aT→Prop}{k:M}{b:aD}
theorem aP.bs(D:aP j A f m){am:aT}(ar:∀g n,¬ci j m g→g∉j.k→m.b.heap.get? g=o n→am.heap.get? g=o n)(aW:∀g n,g∈j.k→m.b.heap.get? g=o n→∃b',am.heap.get? g=o {n with slots:=b'})(b4:am.gens=m.b.gens∧am.os=m.b.os∧am.drawn=m.b.drawn):aP j A f (m.k am)where
 ao:=D.ao;p:=fun g n c=>ar g n (fun w=>bb (w.d.symm.trans c)) (fun u=>bb ((D.G g u).1.symm.trans c)) (D.p g n c);Z:=fun g n c=>by
  obtain⟨cf,H,L⟩:=D.Z g n c;by_cases u:g∈j.k;·obtain⟨b',aR⟩:=aW g cf u H;exact⟨_,aR,L.b (.inr ⟨u,b',rfl⟩) fun _ c=>c⟩
  ·exact⟨cf,ar g cf (fun w=>bb (w.i.symm.trans c)) u H,L⟩
 ai:=D.ai;x:=D.x;y:=D.y;G:=fun g c=>by obtain⟨H,L,n,aR,bh⟩:=D.G g c;obtain⟨b',cT⟩:=aW g n c aR;exact⟨H,L,_,cT,bh⟩
 P:=by
  obtain⟨z,⟨n,az,dn,c,jC,k2⟩,H,L⟩:=D.P;obtain⟨b',bl⟩:∃b',am.heap.get? j.m=o {n with slots:=b'}:=by
   by_cases u:j.m∈j.k;·exact aW _ n u c
   ·exact⟨n.slots,ar _ _ (fun w=>w.p rfl) u c⟩
  exact⟨z,⟨_,az,dn,bl,jC,k2⟩,H,fun i d aH=>⟨fun l bE=>by obtain⟨ad,g,e⟩:=(L i d aH).1 l bE;exact⟨ad,g,e.b (ay.c.d am)⟩,(L i d aH).2⟩⟩
 E:=D.E;ag:=D.ag;S:=fun v k n al aj=>by have a9:=dZ al;have fR:∀g,iP m.f g→∀n,m.b.heap.get? g=o n→am.heap.get? g=o n:=fun g aY n=>ar g n (fun w=>w.l aY) fun u=>(D.G g u).2.1 aY;exact(D.S v k n al aj).pd (ay.c.d am).toUp (fR _ ⟨k,a9,.inl rfl⟩) (fR _ ⟨k,a9,.inr rfl⟩)
 Y:=D.Y;J:=⟨b4.1.trans D.J.1,b4.2.1.trans D.J.2.1,b4.2.2.trans D.J.2.2⟩
theorem anv(n:cm)(w:Array aa→Array aa):(n.mapFields w).dict=n.dict:=by obtain⟨q,F,tU,b'⟩:=n;rcases tU<;>rfl
theorem ajj{dg:List aD}{c:eh}(a3:∀g∈dg,∃n,c.get? g=o n∧∀N,n.data≠.fields N){p:List dQ}(aw:∀b∈p,b.scope.kind≠.module∧∃g∈dg,b.frame=o g):c.FunFrames {} p:=by induction p with|nil=>trivial|cons b t ak=>obtain⟨H,g,L,aR⟩:=aw b (.head _);obtain⟨n,bh,cT⟩:=a3 g L;exact⟨H,⟨g,n,aR,by simp[Heap.get?],bh,cT⟩,ak fun d aH=>aw d (.tail _ aH)⟩
theorem aiU{fP:Model}{aS:g6}{y:aT}{dg:List aD}{aL:dQ}(jV:pb aS aL dg)(a3:∀g∈dg,∃n,y.heap.get? g=o n∧∀N,n.data≠.fields N){w:aD}(t4:aL.frame=o w){P:aa→aT→Prop}(c:∀bl,Heap.SlotsOnly dg y.heap bl→P (.ref w) {y with heap:=bl}):da fP aS (PySem.frameOf aL) P S y:=by obtain⟨p,CG,HX,H,L,aR,bh⟩:=jV.e;unfold PySem.frameOf;refine bo (wpAny_frameEnvs H ?_);rw[L];unfold frameObject;refine bo (bo (wpAny_readyFrames_fun (ajj a3 bh) fun eV wj=>c9 ?_));rw[aR,t4];refine c9 (c eV (wj.mono fun e aN=>?_));obtain⟨b,aU,aN⟩:=vT.mp aN;obtain⟨_,g,aY,Nc⟩:=bh b aU;exact aJ (Nc.symm.trans aN)▸aY
def qs(c:eh)(b:aD):Prop:=∃eL N aB,c.get? b=o eL∧eL.data=.fields N∧N[1]?=o (.ref aB)
abbrev uB(j:b5)(A:List (Option K))(f:af)(m:ay)(k:M)(b:aD)(P:aT→Prop):Prop:=∀am,aP j A f (m.k am)→eZ j (m.k am) k b→qs am.heap b→P am
structure IC(j:b5)(m:ay)(b:aD)(N:Array aa)(aB:aD)(fS:cm)(aQ:Array aa):Prop where
 d:N[1]?=o (.ref aB)
 l:aB≠b
 i:ci j m aB
 e:m.b.heap.get? aB=o fS
 n:fS.cls=.type "traceback"
 c:fS.data=.fields aQ
 g:3<aQ.size
inductive OL(j:b5)(m:ay)(k:M)(b:aD):Prop|c(w:ci j m b)(eL:cm)(N:Array aa)(aU:m.b.heap.get? b=o eL)(aI:eL.data=.fields N)(dB:1<N.size)(d2:N[1]?=o .none∨∃aB fS aQ,IC j m b N aB fS aQ)(oX:∀am wp sy,am.heap.get? b=o wp→wp.cls=eL.cls→wp.dict=eL.dict→wp.data=.fields sy→1<sy.size→(sy[1]?=o .none∨∃aB fS aQ,IC j (m.k am) b sy aB fS aQ)→eZ j (m.k am) k b):OL j m k b
theorem eZ.Aa(d:eZ j m k b):OL j m k b:=by obtain⟨L,eL,N,cr,az,z,l,aR,bh,cT,dB,d2,et,gh,jm,h_,h',lZ⟩:=d;exact⟨L,eL,N,aR,cT,dB,d2.imp id (by rintro⟨aB,fS,aQ,c_,e3,gT,nW,Vc,Vd,y3⟩;exact⟨aB,fS,aQ,c_,e3,gT,nW,Vc,Vd,y3⟩),fun am wp sy dw dM fp y5 CC Vi=>⟨L.s am,wp,sy,cr,az,z,l,dw,dM.trans bh,y5,CC,Vi.imp id (by rintro⟨aB,fS,aQ,q⟩;exact⟨aB,fS,aQ,q.d,q.l,q.i,q.e,q.n,q.c,q.g⟩),fp.trans et,gh,jm,h_,h',lZ⟩⟩
theorem QV(D:aP j A f m)(d:eZ j m k b){eL fS:cm}{N aQ:Array aa}{aB:aD}{l:aa}(aU:m.b.heap.get? b=o eL)(aI:eL.data=.fields N)(s:IC j m b N aB fS aQ){P:Unit→aT→Prop}(Z:uB j A f m k b (P ())):j.e (setField (.ref aB) 3 l) P S m.b:=by obtain⟨w,aut,auD,CS,W7,dB,d2,oX⟩:=d.Aa;obtain rfl:=aJ (aU.symm.trans CS);obtain rfl:=Data.fields.inj (aI.symm.trans W7);refine wpAny_setField s.e s.c s.g ?_;have cu:∀e n,e≠aB→m.b.heap.get? e=o n→(m.b.heap.update aB (sd (·.setIfInBounds 3 l))).get? e=o n:=fun e n aN u=>GP _ (fun q=>aN q.symm) u;have WI:=vY (sd (·.setIfInBounds 3 l)) s.e (Obj.isFreed_of_fields (Obj.data_mapFields s.c _));have M8:=cu b eL s.l.symm aU;exact Z _ (D.av (am:={m.b with heap:=m.b.heap.update aB (sd (·.setIfInBounds 3 l))}) (fun g n kv=>cu g n fun q=>kv (q▸s.i)) ⟨rfl,rfl,rfl⟩) (oX _ eL N M8 rfl rfl aI dB (.inr ⟨aB,_,_,s.d,s.l,s.i.s _,WI,by rw[Obj.cls_mapFields];exact s.n,Obj.data_mapFields s.c _,by rw[Array.size_setIfInBounds];exact s.g⟩)) ⟨eL,N,aB,M8,aI,s.d⟩
theorem Ql(D:aP j A f m)(d:eZ j m k b){aL:dQ}(jV:pb j.i aL j.k){w:aD}(t4:aL.frame=o w){M_:aa}{WQ:Bool}{P:Unit→aT→Prop}(Z:uB j A f m k b (P ())):j.e (do let g←frameOf aL;let i6←entryPlaceOf w WQ;let e←EntryCells.newEntry M_ g .none (q8 w) .none i6;setField (.ref b) 1 e) P S m.b:=by
 obtain⟨jW,eL,N,aU,aI,dB,d2,oX⟩:=d.Aa;refine bo (aiU jV (fun g c=>(D.G g c).2.2) t4 fun eV wj=>?_);refine bo (wpAny_entryPlaceOf fun i6 XC=>?_);unfold EntryCells.newEntry newFields;refine bo (GY ?_ (XC.sizeOk5 _ _ _ _ _));generalize Hy:([M_,.ref w,.none,q8 w,.none]++(if i6.isEmpty then Ci 6 Value.none else i6))=kX;have aR:3<kX.length:=by rw[←Hy,fy];exact fg (by decide) (ho 5 _)
 have Na:eV.get? b=o eL:=(wj.2.1 b jW.r).trans aU;have zt:=gr (h:=eV) {cls:=.type "traceback",dict:=U,data:=.fields kX.toArray} Na;refine wpAny_setField zt aI dB ?_;have MZ:eV.objs.size≠b:=pS (h9 Na);have Hi:=Obj.data_mapFields aI (·.setIfInBounds 1 (lr eV.objs.size));have Nb:=vY (sd (·.setIfInBounds 1 (lr eV.objs.size))) zt (Obj.isFreed_of_fields Hi);have ub:∀e n,e≠b→eV.get? e=o n→((eV.push {cls:=.type "traceback",dict:=U,data:=.fields kX.toArray}).update b (sd (·.setIfInBounds 1 (lr eV.objs.size)))).get? e=o n:=fun e n WT aN=>(GQ _ _ (sb WT)).trans (gr _ aN);have WJ:((eV.push {cls:=.type "traceback",dict:=U,data:=.fields kX.toArray}).update b (sd (·.setIfInBounds 1 (lr eV.objs.size)))).get? eV.objs.size=o _:=(GQ _ _ (sb MZ)).trans (ko _ rfl);have ia:m.b.heap.objs.size≤eV.objs.size:=ff wj.1.symm;have bE:(N.setIfInBounds 1 (lr eV.objs.size))[1]?=o (lr eV.objs.size):=by simp[dB]
 refine Z _ (D.bs (am:={m.b with heap:=(eV.push {cls:=.type "traceback",dict:=U,data:=.fields kX.toArray}).update b (sd (·.setIfInBounds 1 (lr eV.objs.size)))}) (fun g n kv YB u=>ub g n (fun q=>kv (q▸jW)) ((wj.2.1 g YB).trans u)) (fun g n aY u=>?_) ⟨rfl,rfl,rfl⟩) (oX _ _ _ Nb (Obj.cls_mapFields _ _) (anv _ _) Hi (by rw[Array.size_setIfInBounds];exact dB) (.inr ⟨eV.objs.size,_,_,bE,MZ,(D.ap ia).s _,WJ,rfl,rfl,aR⟩)) ⟨_,_,eV.objs.size,Nb,Hi,bE⟩;obtain⟨b',cx⟩:=wj.2.2 g n u;exact⟨b',ub g _ (fun q=>jW.r (q▸aY)) cx⟩
theorem E9(D:aP j A f m)(d:eZ j m k b){aL:dQ}(jV:pb j.i aL j.k){P:Unit→aT→Prop}(Z:uB j A f m k b (P ())):j.e (noteFrame (.ref b) aL) P S m.b:=by
 obtain⟨w,t4,Nc⟩:=jV.c;obtain⟨jW,eL,N,aU,aI,dB,d2,oX⟩:=d.Aa;unfold noteFrame;rw[t4];rcases d2 with y3|⟨aB,fS,aQ,s⟩;·refine bo (v7 aU aI y3 ?_);rw[if_neg (by decide)];exact Ql D d jV t4 Z
 ·refine bo (v7 aU aI s.d ?_);rw[if_pos (by simp)];refine bo (v7 s.e s.c (Array.getElem?_eq_getElem s.g) ?_);split;·exact c9 (Z m.b D d ⟨eL,N,aB,aU,aI,s.d⟩)
  ·exact bo (QV D d aU aI s fun bQ bG qh _=>Ql bG qh jV t4 Z)
theorem BF(D:aP j A f m)(d:eZ j m k b)(s:qs m.b.heap b){gC:Option aD}{P:Unit→aT→Prop}(Z:uB j A f m k b (P ())):j.e (setFlight (.ref b) gC) P S m.b:=by
 obtain⟨jW,eL,N,aU,aI,dB,d2,oX⟩:=d.Aa;unfold setFlight;rcases d2 with y3|⟨aB,fS,aQ,s⟩;·refine bo (v7 aU aI y3 ?_);rw[if_neg (by decide)];exact c9 (Z m.b D d s)
 ·refine bo (v7 aU aI s.d ?_);rw[if_pos (by simp)];exact QV D d aU aI s Z
theorem Sl(D:aP j A f m)(d:eZ j m k b){aL:dQ}(jV:pb j.i aL j.k){P:Unit→aT→Prop}(Z:uB j A f m k b (P ())):j.e (leaving aL (.ref b)) P S m.b:=bo (E9 D d jV fun bQ bG qh s=>BF bG qh s Z)
theorem Th(D:aP j A f m)(d:eZ j m k b)(s:qs m.b.heap b){Y8:String}{aL:dQ}{P:V→aT→Prop}(Z:uB j A f m k b (S (.ref b))):j.e (PySem.passOn Y8 (.ref b) aL:Sem V) P S m.b:=by obtain⟨eL,N,aB,c_,e3,gT⟩:=id s;unfold PySem.passOn;refine bo (v7 c_ e3 gT ?_);rw[if_neg (by simp)];exact bo (BF D d s fun cE bD z4 Y3 _ _ _=>Z cE bD z4 Y3)
theorem aok(D:aP j A f m)(d:eZ j m k b){aL:dQ}(jV:pb j.i aL j.k)(Z:uB j A f m k b (S (.ref b))):pX j.b.i j.i aL (fun b am=>yS j.b.i j.i aL S b am) (.ref b) m.b:=by unfold pX;refine E9 D d jV fun bQ bG qh s=>?_;unfold yS;obtain⟨eL,N,aB,c_,e3,gT⟩:=id s;refine bo (v7 c_ e3 gT ?_);rw[if_neg (by simp)];exact BF bG qh s Z
end
end
section
open PySem PySem.W PyProof.Rows PySem.Calls
structure iM where
 e:aT→Prop
 k:aT→Prop
 i:aa→aT→Prop
 c:aa→aT→Prop
section
variable{V bg:Type}{j:b5}{au:dU}{A:List (Option K)}{f a1:af}{m:ay}{S:aa→aT→Prop}{ag:List K}{N:List aa}{d G x:K}{l ad:aa}{bk:ay→V→bg→Prop}
def ja(j:b5)(m:ay)(u:iM)(n:bV):Prop:=match n with|.b cM a1=>∀ae,m.c ae→aP j cM a1 ae→u.e ae.b|.e cM a1=>∀ae,m.c ae→aP j cM a1 ae→u.k ae.b|.d d a1=>∀l ae cM,m.c ae→aP j cM a1 ae→b7 j.b ae d l→u.i l ae.b|.c k a1=>∀b ae cM,m.c ae→aP j cM a1 ae→eZ j ae k b→u.c (.ref b) ae.b
def cq(j:b5)(m:ay)(cc:iM→Prop)(z:Option bV):Prop:=∀n,z=o n→∀u,ja j m u n→cc u
theorem ja.b{ae:ay}{u:iM}{n:bV}(O:m.c ae)(Z:ja j m u n):ja j ae u n:=by
 rcases n with⟨cM,a1⟩|⟨cM,a1⟩|⟨d,a1⟩|⟨k,a1⟩;·exact fun gH db=>Z gH (O.k db)
 ·exact fun gH db=>Z gH (O.k db)
 ·exact fun l gH cM db=>Z l gH cM (O.k db)
 ·exact fun b gH cM db=>Z b gH cM (O.k db)
theorem cq.g{cc:iM→Prop}:cq j m cc U:=fun _ b=>nomatch b
theorem cq.b{cc tR:iM→Prop}{z:Option bV}(t:∀u,tR u→cc u)(c:cq j m tR z):cq j m cc z:=fun n b u Z=>t u (c n b u Z)
theorem cq.e{cc:iM→Prop}{n:bV}(c:∀u,ja j m u n→cc u):cq j m cc (o n):=fun cf b=>aJ b▸c
theorem cq.c{cc:kF bg}{z:bJ V}{ao:bg→aT→iM→Prop}{w:V→af→Option bV}(c:bL j bk A m cc z)(ar:∀d a1 l ae,m.c ae→aP j A a1 ae→bk ae d l→cq j ae (ao l ae.b) (w d a1)):cq j m (fun u=>cc (fun l y=>ao l y u) u.c) (gy z w):=by
 intro n b u Z;rcases z with _|⟨k|d,bW⟩;·exact nomatch b
 ·obtain rfl:=aJ b;exact c _ _ rfl _ _ fun b ae O D t=>Z b ae A O D t
 ·exact c _ _ rfl _ _ fun l ba cH bG cs=>ar d bW l ba cH bG cs n b u (Z.b cH)
theorem cq.i{GT:iM→Prop}{v0:aT→iM→Prop}{z:Option bV}{w:List (Option K)→af→Option bV}(c:cq j m GT z)(ar:∀cM a1 ae,m.c ae→aP j cM a1 ae→cq j ae (v0 ae.b) (w cM a1)):cq j m (fun u=>GT {u with e:=fun y=>v0 y u}) (fG z w):=by
 intro n b u Z;rcases z with _|⟨eM,bW⟩|⟨eM,bW⟩|⟨d,bW⟩|⟨k,bW⟩;·exact nomatch b
 ·exact c _ rfl _ fun ba cH bG=>ar eM bW ba cH bG n b u (Z.b cH)
 ·obtain rfl:=aJ b;exact c _ rfl _ Z
 ·obtain rfl:=aJ b;exact c _ rfl _ Z
 ·obtain rfl:=aJ b;exact c _ rfl _ Z
theorem ap0{dI:m6}{lw:cJ}{aS:g6}{y:aT}{p:aD}{r:Nat}{my:Array aa}{v:Int}{s:Tok}{Q:Nat}{P:Unit→aT→Prop}(aj:y.heap.get? p=o {cls:=.type "list",data:=.seq my r})(H: -(2^63)≤v)(L:v<2^63)(bZ:tO v my.size=o Q)(kZ:Q<my.size)(MW:P () {y with heap:=y.heap.update p (yO (·.setIfInBounds Q l))}):da (c6 dI lw) aS (setItem (.ref p) (.int v s) l) P S y:=by
 have aw:y.heap.IsList p my:=⟨_,aj,rfl,r,rfl⟩;have zC:my[Q]?=o my[Q]:=Array.getElem?_eq_getElem kZ;unfold setItem;try with_reducible refine mr ?_
 first|refine bo (c9 ?_)|skip
 refine bo (wpAny_sequenceKey aw.typeIs (by decide) ?_);refine bo (wpAny_callSpecial?_slot (name:=se "__setitem__") aw.typeIs slot_list_setitem (wpAny_call_entry slot_list_setitem aw.typeIs entry_list_setitem ?_ (args_list_setitem _ _ _)));show da _ _ (Builtin.List.listSubscript? (.int v s)>>=_) _ _ y;by_cases aX:0≤v;·
  refine bo (wpAny_listSubscript_int (fitsIndex_of aX L) ?_);clear H L;obtain⟨i,rfl⟩:=Int.eq_ofNat_of_zero_le aX;obtain rfl:i=Q:=by unfold tO at bZ;rw[if_neg (oP.mpr aX)]at bZ;exact eO bZ fun _ c=>c
  show da _ _ ((seqItemAt p i>>=fun t=>d6 (t.map (i,·)))>>=_) _ _ y;refine bo (bo (wpAny_seqItemAt aj rfl (c9 ?_)));rw[zC];show da _ _ (setSeqItemAt p i l>>=_) _ _ y;refine bo (wpAny_setSeqItemAt aj rfl ?_);first|exact bo (c9 (c9 ⟨.none,rfl,c9 MW⟩))|exact wpAny_pure ⟨.none,rfl,wpAny_pure MW⟩
 ·have MS:v<0:=Int.not_le.mp aX;refine bo (wpAny_listSubscript_int (fitsIndex_neg MS H) ?_);clear H L;obtain⟨i,rfl⟩:=Int.eq_negSucc_of_lt_zero MS;show da _ _ ((Builtin.List.listItems (.ref p)>>=fun ag=>d6 ((tO (Int.negSucc i) ag.size).bind fun i=>ag[i]?.map (i,·)))>>=_) _ _ y;refine bo (bo ?_);show da _ _ (seqItems? (.ref p)>>=_) _ _ y;refine bo (wpAny_seqItems aj rfl (c9 (c9 ?_)));rw[bZ,q1,zC,Option.map_some];show da _ _ (setSeqItemAt p Q l>>=_) _ _ y;refine bo (wpAny_setSeqItemAt aj rfl ?_);first|exact bo (c9 (c9 ⟨.none,rfl,c9 MW⟩))|exact wpAny_pure ⟨.none,rfl,wpAny_pure MW⟩
theorem dV.k{E:cV}{bj:eN}{p:List M}{N:List aa}(t:dV E bj p N){Q:Nat}{k:M}(al:ca E bj k l):dV E bj (p.set Q k) (N.set Q l):=by
 refine⟨by rw[yG,yG,t.1],fun i u ad H L=>?_⟩;by_cases b:Q=i;·subst b;rw[Cb (by have:=(eg.mp H).1;rwa[yG]at this)]at H;rw[Cb (by have:=(eg.mp L).1;rwa[yG]at this)]at L;obtain rfl:=aJ H;obtain rfl:=aJ L;exact al
 ·rw[Gs b]at H L;exact t.2 i u ad H L
theorem alO{R:Prop}{r Q:Nat}{i:Int}(b:hA r i=o Q)(v:tO i r=o Q→-(2^63)≤i∧i<2^63→Q<r→R):R:=by
 have dh:(hA r i).bind ((de r)[·]?)=o Q→R:=fun dh=>Ew dh fun ew H L bZ bh=>by
  obtain rfl:ew=Q:=by unfold hA at b;rw[if_pos L,H]at b;exact aJ b
  rcases bZ with⟨aX,dM,bZ,ah⟩|⟨aX,dw,bZ,a4,ah⟩;·exact v H ⟨g4 (by decide) aX,dM⟩ ah
  ·exact v H ⟨dw,B9 aX (by decide)⟩ ah
 have kZ:Q<r:=by
  unfold hA at b;by_cases ah:r≤cK;·
   rw[if_pos ah]at b;unfold tO at b;by_cases aX:i<0;·rw[if_pos aX]at b;exact eO b fun q bZ=>bZ▸EE (u6 q)
   ·rw[if_neg aX]at b;exact eO b fun q bZ=>bZ▸EE (u6 q)
  ·rw[if_neg ah]at b;exact bb b
 exact dh (by rw[b];show(de r)[Q]?=_;rw[List.getElem?_range kZ])
theorem apZ(D:aP j A f m){P:Unit→aT→Prop}{Ow Ov:aa}(b:Bn G x d f=o a1)(a8:b7 j.b m G Ow)(a4:b7 j.b m x Ov)(aH:b7 j.b m d l)(Z:∀ae,m.c ae→aP j A a1 ae→P () ae.b):j.e (setItem Ow Ov l) P S m.b:=by induction G using K.casesOn with
 |c v=>refine gb (w:=fun i=>ed d fun l=>(f[v]?).bind (Tr v i l f)) b a4 fun i a4 b=>gb b aH fun k al b=>tg D b a8 fun u n bE cw aj t b=>?_;subst bE;induction t with
  | @mF p aU N H t=>
   refine Fv (w:=fun i=>(hA p.length i).map fun Q=>f.set v (.b (p.set Q k))) b a4 fun i s b=>gN b fun Q bZ c=>alO bZ fun dw dM fp=>?_;obtain⟨r,H⟩:=H;have ia:N.toArray.size=p.length:=t.1;refine ap0 H dM.1 dM.2 (by rw[ia];exact dw) (by rw[ia];exact fp) ?_;have a9:yO (·.setIfInBounds Q l) {cls:=.type "list",data:=.seq N.toArray r}={cls:=.type "list",data:=.seq (N.set Q l).toArray r}:=by simp[yO]
   have NN:=vY (yO (·.setIfInBounds Q l)) H (by rw[a9];rfl);rw[a9]at NN;subst c;exact Z (m.k {m.b with heap:=m.b.heap.update u.1 (yO (·.setIfInBounds Q l))}) (ay.c.d _) (D.aB (am:={m.b with heap:=m.b.heap.update u.1 (yO (·.setIfInBounds Q l))}) cw (fun e n q _ b=>GP _ q.symm b) ⟨rfl,rfl,rfl⟩ (.mF aU _ ⟨r,NN⟩ (t.k al)))
  | @oe F aU a8 b1 H t=>refine tl (w:=fun y=>if F.length<cK then o (f.set v (.f (uL y k F)))else U) b a4 fun y s b=>eO b fun aw c=>?_;refine wpAny_setItem_pairs (knd:=m_ j.b.d j.b.e) (k:=bx y) (yW ..) H (fun bl aI aW=>?_) (by rw[t.1];exact io (oQ aw));exact Z (m.k {m.b with heap:=bl,toks:=_}) (ay.c.d _) (c▸D.aB (am:={m.b with heap:=bl,toks:=_}) cw (fun e n q _ b=>SameBut.b aW q b) ⟨rfl,rfl,rfl⟩ (.oe aU a8 _ aI (Qk t al)))
  |_=>exact bb b
 |_=>exact bb b
theorem TZ(aA:dC au j)(D:aP j A f m){d:aq}{i:Nat}(a4:j.t[i]?=o d)(ar:j.c.kindOf d=o .local)(a8:b7 j.b m G l){P:Unit→aT→Prop}(Z:∀ae,m.c ae→aP j (A.set i (o G)) f ae→P () ae.b):j.e (storeName j.c d l) P S m.b:=by
 obtain⟨z,a9,j0,aw⟩:=D.P;refine wpAny_storeName_local ar (aA.D▸a9) (fun bl ah aW=>?_) (by rw[aA.k];rfl);rw[aA.D]at ah aW;have cu:∀e n,e≠j.m→m.b.heap.get? e=o n→bl.get? e=o n:=fun e n aN b=>SameBut.b aW aN b;have O:=ay.c.d (m:=m) {m.b with heap:=bl,toks:=m.b.toks+1};refine Z (m.k {m.b with heap:=bl,toks:=m.b.toks+1}) O {ao:=D.ao,p:=fun g n c=>cu g n (fun q=>bb (D.x.1.symm.trans (q▸c))) (D.p g n c),Z:=fun g n c=>by obtain⟨cf,H,L⟩:=D.Z g n c;exact⟨cf,cu g cf (fun q=>bb (D.x.2.1.symm.trans (q▸c))) H,L⟩,ai:=D.ai,x:=D.x,y:=D.y,G:=fun g c=>?_,P:=⟨_,ah,by rw[yG];exact j0,fun Q u cw=>?_⟩,E:=D.E,ag:=D.ag,S:=fun v k n al aj=>?_,Y:=D.Y,J:=D.J};·
  obtain⟨H,L,n,aR,bh⟩:=D.G g c;by_cases q:g=j.m;·obtain⟨cf,az,dn,cx,cU,_⟩:=ah;exact⟨H,L,cf,q▸cx,fun N=>by rw[cU];exact nofun⟩
  ·exact⟨H,L,n,cu g n q aR,bh⟩
 ·by_cases b:i=Q;·subst b;obtain rfl:=aJ (a4.symm.trans cw);rw[Cb (by rw[j0];exact(eg.mp a4).1)];exact⟨fun x c2=>aJ (aJ c2)▸⟨l,if_pos rfl,a8.b O⟩,fun c2=>nomatch aJ c2⟩
  ·rw[Gs b];have mw:u≠d:=fun q=>b ((List.getElem?_inj (eg.mp a4).1 aA.N).mp (by rw[a4,cw,q]));exact⟨fun x c2=>by obtain⟨ad,g,e⟩:=(aw Q u cw).1 x c2;exact⟨ad,(if_neg mw).trans g,e.b O⟩,fun c2=>(if_neg mw).trans ((aw Q u cw).2 c2)⟩
 ·have a9:=dZ al;have i5:∀e,iP m.f e→e≠j.m:=fun e aN q=>D.x.2.2 (q▸aN);exact(D.S v k n al aj).pd O.toUp (fun n=>cu k.1 n (i5 _ ⟨k,a9,.inl rfl⟩)) (fun n=>cu k.2 n (i5 _ ⟨k,a9,.inr rfl⟩))
abbrev b5.u(j:b5)(s:dO)(d:K)(A:List (Option K))(f:af):Option bV:=Mine.g0 j.l dm j.p s d A f
abbrev b5.v(j:b5)(s:dO)(d:List K)(A:List (Option K))(f:af):Option bV:=Mine.uF j.l dm j.p s d A f
def nu(j:b5)(s:a0)(a':dO):Prop:=∀A f m d l,aP j A f m→b7 j.b m d l→cq j m (fun u=>j.e (oT s j.c l) (fun _ am=>u.e am) u.c m.b) (j.u a' d A f)
theorem A7(aA:dC au j){d:aq}{i:Nat}{ap:bc}(a4:j.t[i]?=o d)(ar:j.c.kindOf d=o .local):nu j (.Name d ap) (.b i):=fun A f m G l D t=>by show cq j m _ (if i<A.length then o (.b (A.set i (o G)) f)else U);rw[if_pos (by obtain⟨z,_,c,_⟩:=D.P;rw[c];exact(eg.mp a4).1)];exact cq.e fun u Z=>wpAny_assign_Name (TZ aA D a4 ar t Z)
theorem aed(aA:dC au j){d:aq}{i:Nat}{ap:bc}(a4:jK d au.e=o i)(ar:au.b.lookup d=o .cell):nu j (.Name d ap) (.i i):=fun A f m G l D t n b u Z=>by
 rw[aA.u]at a4;obtain⟨g,aY⟩:=aA.z d (.inl ar);refine d4 (show(j.p[i]?).bind (fun v=>(f[v]?).bind fun n=>(K9 v G f n).map (.b A))=o n from b) fun v H b=>d4 b fun z a9 b=>gN b fun a1 b c=>?_;obtain⟨k,al,rfl⟩:=D.Y.2 i v d g H (rV a4) aY;have fR:∀{cf:cm}{x:Option aa},k.2=k.1→m.b.heap.get? k.1=o cf→cf.data=.cell x→a1=f.set v (.d (o G))→j.e (oT (.Name d ap) j.c l) (fun _ am=>u.e am) u.c m.b:=fun aU L aR bh=>by clear b a9;subst bh c;refine wpAny_assign_Name (wpAny_storeName_cell aA.k (aA.n ar nofun) aY ⟨_,L,aR⟩ fun bl sn CY=>?_);obtain⟨cf,cx,cU⟩:=sn;exact Z (m.k {m.b with heap:=bl}) (ay.c.d _) (D.aB (am:={m.b with heap:=bl}) al (fun e n q _ b=>SameBut.b CY q b) ⟨rfl,rfl,rfl⟩ (.sL aU cf l cx cU (t.b (ay.c.d _))))
 have zQ:∀q,K9 v G f (.d q)=o a1→a1=f.set v (.d (o G)):=fun q ad=>by clear fR b t;induction G using K.casesOn with|d=>exact bb ad|_=>exact(aJ ad).symm
 have nk:=D.S v k z al a9;clear a9 t;rcases nk with⟨aU,N,aj,t⟩|⟨aU,a8,b1,aj,t⟩|⟨aU,X,az,r,bf,gD,aj,aI,t⟩|⟨aU,cf,L,aR⟩|⟨aU,cf,ad,L,aR,t⟩|⟨aU,T,aj,bu,bf⟩;·exact bb b
 ·exact bb b
 ·exact bb b
 ·exact fR aU L aR (zQ _ b)
 ·exact fR aU L aR (zQ _ b)
 ·exact bb b
theorem aak{n:a0}{d:bF}{g:aZ}{ap:bc}(H:c4 j n g):nu j (.Attribute n (b8 d) ap) (.f g d):=fun A f m G l D t=>by show cq j m _ (gy (j.n g A f) fun x f=>(Fm x d G f).map (.b A));rw[assign_Attribute];exact cq.b (fun u c=>bo (mr c)) (cq.c (H.e A f m D) fun x bW ad ba cH bG cs n b u Z=>gN b fun el L c=>bo (p1 (bo (mr (ap1 bG L cs (t.b cH) fun ae O D=>wpAny_release (ja.b (n:=.b A el) (j:=j) (ay.c.p _) (c▸Z) ae O D))))))
theorem aqX{n i:a0}{g e:aZ}{ap:bc}(H:c4 j n g)(L:c4 j i e):nu j (.Subscript n i ap) (.g g e):=fun A f m G l D t=>by show cq j m _ (gy (j.n g A f) fun x f=>gy (j.n e A f) fun Q f=>(Bn x Q G f).map (.b A));rw[assign_Subscript];exact cq.b (fun u c=>bo (mr c)) (cq.c (H.e A f m D) fun x bW ad ba cH bG cs=>cq.b (fun u c=>bo (mr c)) (cq.c (L.e A bW ba bG) fun Y5 el hb bB dd bD fv n b u Z=>gN b fun n' aR c=>bo (p1 (bo (mr (apZ bD aR (cs.b dd) fv ((t.b cH).b dd) fun ae O D=>wpAny_release (ja.b (n:=.b A n') (j:=j) (ay.c.p _) (c▸Z) ae O D)))))))
def uy(j:b5)(aQ:List a0)(a':dO):Prop:=∀A f m ag N,aP j A f m→em j.b m ag N→cq j m (fun u=>j.e (vZ ((q5 aQ j.c).map (·.2)) N) (fun _ am=>u.e am) u.c m.b) (j.v a' ag A f)
theorem Aq{s:a0}{aQ:List a0}{aL:dQ}(aW:fw s=C):q5 (s::aQ) aL=(C,oT s aL)::q5 aQ aL:=by rcases s<;>first|rfl|exact nomatch aW
theorem KL:uy j [] .d:=fun A f m ag N D t=>by induction ag with|nil=>exact w1 t (cq.e fun u Z=>wpAny_assignInOrder_none (Z m (ay.c.p m) D))|cons=>exact cq.g
theorem Jg{s:a0}{aQ:List a0}{g e:dO}(aW:fw s=C)(H:nu j s g)(L:uy j aQ e):uy j (s::aQ) (.c g e):=fun A f m ag N D t=>by induction ag with|nil=>exact cq.g|cons d ag=>refine pi t fun l N jC k2=>?_;rw[Aq aW];exact cq.b (fun u c=>wpAny_assignInOrder_more c) (cq.i (v0:=fun y u=>j.e (vZ ((q5 aQ j.c).map (·.2)) N) (fun _ am=>u.e am) u.c y) (H A f m d l D jC) fun eM bW ba cH bG=>L eM bW ba ag N bG (k2.c cH))
theorem aai{aL:dQ}{aQ:List a0}(c:aQ.any fw=C):(q5 aQ aL).length=aQ.length∧(q5 aQ aL).findIdx? (·.1)=U:=by induction aQ with|nil=>exact⟨rfl,rfl⟩|cons s aQ ak=>rw[tB,F']at c;rw[Aq c.1];exact⟨congrArg pT (ak c.2).1,by rw[Gm];simp[(ak c.2).2]⟩
theorem Uh(d0:j.i.handled=U)(D:aP j A f m){aQ:List a0}{a':dO}{g:aD}(bu:m.b.heap.IsTuple g N.toArray)(gX:aQ.any fw=C)(aw:aQ.length=N.length)(t:em j.b m ag N)(c:uy j aQ a'):cq j m (fun u=>j.e (unpack (.ref g) (q5 aQ j.c)) (fun _ am=>u.e am) u.c m.b) (j.v a' ag A f):=fun n b u Z=>by obtain⟨H,L⟩:=aai (aL:=j.c) gX;refine wpAny_unpack_tuple d0 bu (by rw[H];exact aw) L fun bl ar=>?_;exact c A f _ ag N (D.aA (am:={m.b with heap:=bl}) (fun e n b=>ar e n (ll (h9 b)) b) ⟨rfl,rfl,rfl⟩) (t.c (ay.c.d _)) n b u (Z.b (ay.c.d _))
theorem aae{E:cV}{T:List M}:∀{N:List aa},dV E m.d T N→em E m (T.map .b) N:=by induction T with|nil=>exact fun t=>yo t em.e|cons k T ak=>exact fun t=>yn t fun l N hI t=>em.b (d:=.b k) hI (ak t)
theorem Ub(d0:j.i.handled=U){aQ:List a0}{a':dO}{v:Nat}{ap:bc}(gX:aQ.any fw=C)(j0:h5 a'=aQ.length)(c:uy j aQ a'):nu j (.Tuple aQ v ap) (.e a'):=fun A f m d l D t n b u Z=>gb (w:=LE (h5 a') fun ag=>j.v a' ag A f) b t fun k hI b=>by induction k using M.casesOn with
 |j T=>
  obtain⟨g,N,YI,aj,bu,nl⟩:=vq hI;have b:(if h5 a'=T.length then j.v a' (T.map .b) A f else U)=o n:=b;by_cases rj:h5 a'=T.length;·rw[if_pos rj]at b;rw[PyProof.Rows.assign_Tuple];exact bo (p1 (Uh d0 D ⟨YI,D.p _ _ aj,bu⟩ gX (by rw[nl.1,←rj,j0]) (aae nl) c n b u Z))
  ·rw[if_neg rj]at b;exact bb b
 |_=>exact bb b
end
end
section
set_option backward.match.sparseCases true
open PySem PySem.W PyProof.Rows PySem.Calls
def kE(u:iM)(w:Flow)(y:aT):Prop:=match w with|.next=>u.e y|.cont=>u.k y|.ret l=>u.i l y|.brk=>False
section
variable{j:b5}{au:dU}{A:List (Option K)}{f a1:af}{m:ay}{S:aa→aT→Prop}{ag:List K}{N:List aa}{d G x:K}{l ad:aa}
abbrev b5.q(j:b5)(l0:a5)(A:List (Option K))(f:af):Option bV:=Mine.dK j.l dm j.p l0 A f
def lG(j:b5)(dj:cX)(l0:a5):Prop:=∀A f m,aP j A f m→cq j m (fun u=>j.e (exec dj j.c) (kE u) u.c m.b) (j.q l0 A f)
def ol(j:b5)(zX:List cX)(l0:a5):Prop:=∀A f m,aP j A f m→cq j m (fun u=>j.e (m9 zX j.c) (kE u) u.c m.b) (j.q l0 A f)
theorem an2:ol j [] .c:=fun A f m D=>cq.e fun u Z=>GW (Z m (ay.c.p m) D)
theorem aeE{dj:cX}{zX:List cX}{g e:a5}(H:lG j dj g)(L:ol j zX e):ol j (dj::zX) (.b g e):=fun A f m D=>by show cq j m _ (fG (j.q g A f) (j.q e));refine cq.b (fun u c=>tP ?_) (cq.i (v0:=fun y u=>j.e (m9 zX j.c) (kE u) u.c y) (H A f m D) fun eM bW ba cH bG=>L eM bW ba bG);refine gs c (fun w am a3=>?_) fun _ _ d=>d;induction w with|brk=>exact a3.elim|_=>exact a3
theorem FU{b:a0}(aU:u3 b=C)(s:Option a0)(r:Nat)(aL:dQ):swapsWith b s r aL=d6 C:=by induction b using Expr.casesOn with|ListComp=>exact nomatch aU|SetComp=>exact nomatch aU|DictComp=>exact nomatch aU|_=>rfl
theorem ah9(aA:dC au j){b:a0}{g:aZ}{ap:bc}(aU:u3 b=C)(H:c4 j b g):lG j (.Expr b ap) (.g g):=fun A f m D=>cq.b (fun u c=>wpAny_Expr_any c (by unfold interactive;rw[aA.k];rfl) (FU aU _ _ _)) (cq.c (w:=fun _ f=>o (.b A f)) (H.e A f m D) fun d bW l ba cH bG cs=>cq.e fun u Z=>Z ba (ay.c.p _) bG)
theorem aps{b:a0}{g:aZ}{ap:bc}(H:c4 j b g):lG j (.Return (o b) ap) (.d g):=fun A f m D=>cq.b (fun u c=>GU c) (cq.c (w:=fun l f=>o (.d l f)) (H.e A f m D) fun d bW l ba cH bG cs=>cq.e fun u Z=>Z l ba A (ay.c.p _) bG cs)
theorem apr{ap:bc}:lG j (.Return U ap) (.d (.b .e)):=fun A f m D=>cq.e (n:=.d (.b .e) f) fun u Z=>wpAny_Return_none (Z _ m A (ay.c.p m) D .qr)
theorem aeG{ap:bc}:lG j (.Continue ap) .n:=fun A f m D=>cq.e (n:=.e A f) fun u Z=>wpAny_Continue (Z m (ay.c.p m) D)
theorem Ps{z:bJ K}{w:Bool→af→Option bV}:gy z (fun d f=>tr d fun s=>w s f)=gy (hm z) w:=by
 rcases z with _|⟨k|d,f⟩;·rfl
 ·rfl
 ·show tr d (fun s=>w s f)=gy (cI (ki d) f) w;unfold tr;rcases ki d with _|s<;>rfl
theorem ama{q:a0}{k u:List cX}{s:aZ}{g e:a5}{ap:bc}(aX:c4 j q s)(H:ol j k g)(L:ol j u e):lG j (.If q k u ap) (.f s g e):=fun A f m D=>by
 show cq j m _ (gy (j.n s A f) fun d f=>tr d fun s=>an s (j.q g A f) (j.q e A f));rw[Ps (w:=fun s f=>an s (j.q g A f) (j.q e A f))];refine cq.b (fun u c=>wpAny_If c) (cq.c (ao:=fun s cE n=>if s=I then j.e (m9 k j.c) (kE n) n.c cE else j.e (m9 u j.c) (kE n) n.c cE) (aX.i A f m D) fun d bW l ba cH bG cs=>?_);obtain rfl:d=l:=cs;rcases d;·exact L A bW ba bG
 ·exact H A bW ba bG
theorem aq4{aQ:List a0}{v:Nat}{k:bc}{b:a0}{aL:dQ}(c:RW b=C):pZ [.Tuple aQ v k] b aL=d6 U:=by induction b using Expr.casesOn with|Tuple=>exact nomatch c|_=>rfl
theorem aag{s b:a0}{g:aZ}{a':dO}{ap:bc}(aU:u3 b=C)(gX:fw s=C)(c2:pZ [s] b j.c=d6 U)(H:c4 j b g)(L:nu j s a'):lG j (.Assign [s] b ap) (.e a' g):=fun A f m D=>by refine cq.b (fun u c=>GS (Q:=kE u) c (FU aU _ _ _) c2) (cq.c (w:=fun l f=>j.u a' l A f) (ao:=fun l bQ u=>j.e (assignAll l ((q5 [s] j.c).map (·.2))) (fun _ am=>u.e am) u.c bQ) (H.e A f m D) fun d bW l ba cH bG cs=>?_);rw[Aq gX];exact L A bW ba d l bG cs
theorem anz(aA:dC au j){aQ az:List a0}{v fq:Nat}{d7 dn ap:bc}{a':dO}{g:aZ}(gX:aQ.any fw=C)(j0:h5 a'=aQ.length)(c2:pZ [.Tuple aQ v d7] (.Tuple az fq dn) j.c=d6 U)(H:oi j dn az g)(L:uy j aQ a'):lG j (.Assign [.Tuple aQ v d7] (.Tuple az fq dn) ap) (.p a' g):=fun A f m D=>by
 refine cq.b (fun u c=>GS (Q:=kE u) (GV c) rfl c2) (cq.c (w:=fun N f=>if h5 a'=N.length∧N.length≤cK then j.v a' N A f else U) (ao:=fun N bQ u=>N.length≤sh∧j.e (assignAll (.ref bQ.heap.objs.size) ((q5 [.Tuple aQ v d7] j.c).map (·.2))) (fun _ am=>u.e am) u.c {bQ with heap:=bQ.heap.push {cls:=.type "tuple",data:=.seq N.toArray}}) (H A f m D) fun ag bW N ba cH bG cs=>?_);by_cases aw:h5 a'=ag.length∧ag.length≤cK;·show cq j ba _ (if h5 a'=ag.length∧ag.length≤cK then j.v a' ag A bW else U);rw[if_pos aw];refine fun n b u Z=>⟨by rw[cs.1];exact io aw.2,?_⟩;show j.e (oT (.Tuple aQ v d7) j.c (.ref ba.b.heap.objs.size)) _ _ _;rw[PyProof.Rows.assign_Tuple];exact bo (p1 (Uh aA.i (bG.aE _ ba.b.toks) ⟨_,ko _ rfl,rfl,0,rfl⟩ gX (by rw[cs.1,←aw.1,j0]) (cs.c (ay.c.d _)) L n b u (Z.b (ay.c.d _))))
 ·show cq j ba _ (if h5 a'=ag.length∧ag.length≤cK then j.v a' ag A bW else U);rw[if_neg aw];exact cq.g
noncomputable def vD(bN:gw)(n6:Nat)(b:a0):Option aq:=match b with|.Name j2 ap=>if bN.lookup j2==o .local&&ap.line==n6 then o j2 else U|_=>U
noncomputable def oA(aQ:List a0):Nat:=(aQ.head?.map (·.pos.line)).getD 0
noncomputable def Lx(bN:gw)(aQ az:List a0):Bool:=(aQ.length==2||aQ.length==3)&&(az.length==aQ.length&&(!(az.any fw)&&(((aQ.filterMap (vD bN (oA aQ))).length==aQ.length&&(aQ.filterMap (vD bN (oA aQ))).eraseDups.length==(aQ.filterMap (vD bN (oA aQ))).length)&&(!(az.all (foldedForSure 8))&&!(az.all (constantsAlone 8))))))
noncomputable def Lw(aL:dQ)(n6:Nat)(b:a0):Option aq:=match b with|.Name j2 ap=>if aL.kindOf j2==o .local&&ap.line==n6 then o j2 else U|_=>U
noncomputable def Ly (aQ az : List a0) (bM : List aq) : Sem (Option (List aq)) := do
  if bM.length != aQ.length || bM.eraseDups.length != bM.length then return U
  if az.all (foldedForSure 8) then return U
  if az.all (constantsAlone 8) then unsupported "assign.tuple-of-constant-expressions:order-of-the-stores"
  return o bM
noncomputable def FT (aL : dQ) (aQ az : List a0) : Sem (Option (List aq)) := do
  if !(aQ.length == 2 || aQ.length == 3) || az.length != aQ.length || aL.blockKind != .function then return U
  if az.any fw then return U
  Ly aQ az (aQ.filterMap (Lw aL (oA aQ)))
theorem Lz{aQ az:List a0}{v fq:Nat}{d7 dn:bc}{aL:dQ}:pZ [.Tuple aQ v d7] (.Tuple az fq dn) aL=FT aL aQ az:=rfl
theorem aiw{V bg:Type}{w E:V→Option bg}(c:∀d G,E d=o G→w d=o G){p:List V}(aw:(p.filterMap E).length=p.length):p.filterMap w=p.filterMap E:=by induction p with|nil=>rfl|cons g p ak=>
 rcases u:E g with _|e;·rw[Gk u]at aw;exact absurd (L2 E p) (Nat.not_le_of_lt (by rw[aw];exact pR _))
 ·rw[vN u]at aw;rw[vN u,vN (c g e u),ak (yM aw)]
theorem aq2(aA:dC au j){aQ az:List a0}{v fq:Nat}{d7 dn:bc}(c:Lx au.b aQ az=I):pZ [.Tuple aQ v d7] (.Tuple az fq dn) j.c=d6 (o (aQ.filterMap (vD au.b (oA aQ)))):=by
 unfold Lx at c;obtain⟨H,c⟩:=bX c;obtain⟨L,c⟩:=bX c;obtain⟨aR,c⟩:=bX c;obtain⟨bh,c⟩:=bX c;obtain⟨cT,dB⟩:=bX c;obtain⟨d2,et⟩:=bX bh;rw[Lz];unfold FT;rw[aiw (E:=vD au.b (oA aQ)) (fun d G u=>?_) (beq_iff_eq.mp d2)];·generalize aQ.filterMap (vD au.b (oA aQ))=bM at d2 et⊢;unfold Ly;rw[if_neg (by rw[H,bne,L,Env.blockKind,aA.k];decide),if_neg (by rw[(m1 _).mp aR];decide),if_neg (by rw[bne,bne,d2,et];decide),if_neg (by rw[(m1 _).mp cT];decide),if_neg (by rw[(m1 _).mp dB];decide)]
 ·induction d using Expr.casesOn with|Name j2 ap=>refine eO (show(if(au.b.lookup j2==o .local&&ap.line==oA aQ)=I then o j2 else U)=o G from u) fun q cw=>?_;obtain⟨g9,mt⟩:=bX q;show(if(j.c.kindOf j2==o .local&&ap.line==oA aQ)=I then o j2 else U)=o G;rw[aA.n (beq_iff_eq.mp g9) nofun,mt];exact congrArg o cw|_=>exact bb u
theorem aq1{aQ az:List a0}{v fq:Nat}{d7 dn:bc}{aL:dQ}(c:(aQ.length==2||aQ.length==3)=C):pZ [.Tuple aQ v d7] (.Tuple az fq dn) aL=d6 U:=by rw[Lz];unfold FT;rw[c];rfl
theorem aq3{n i:a0}{k:bc}{aQ az:List a0}{v fq:Nat}{d7 dn:bc}{aL:dQ}:pZ [.Tuple (.Subscript n i k::aQ) v d7] (.Tuple az fq dn) aL=d6 U:=by
 rw[Lz];unfold FT Ly;rw[Gk rfl];have c:=L2 (Lw aL (oA (.Subscript n i k::aQ))) aQ;generalize aQ.filterMap (Lw aL (oA (.Subscript n i k::aQ)))=bM at c⊢;have:(bM.length !=(Expr.Subscript n i k::aQ).length)=I:=bne_iff_ne.mpr (ll (Cn c));rw[this];split;·rfl
 ·split<;>rfl
def Ak(j:b5)(aC:List aq)(a':dO):Prop:=∀A f m ag N,aP j A f m→em j.b m ag N→cq j m (fun u=>j.e (vZ (aC.map fun r=>bindName j.c r) N) (fun _ am=>u.e am) u.c m.b) (j.v a' ag A f)
theorem an1:Ak j [] .d:=fun A f m ag N D t=>KL A f m ag N D t
theorem aeD(aA:dC au j){d:aq}{i:Nat}{aC:List aq}{e:dO}(a4:j.t[i]?=o d)(ar:j.c.kindOf d=o .local)(L:Ak j aC e):Ak j (d::aC) (.c (.b i) e):=fun A f m ag N D t=>by induction ag with|nil=>exact cq.g|cons G ag=>refine pi t fun l N jC k2=>?_;refine cq.b (fun u c=>wpAny_assignInOrder_more c) (cq.i (GT:=fun u=>j.e (bindName j.c d l) (fun _ am=>u.e am) u.c m.b) (v0:=fun y u=>j.e (vZ (aC.map fun r=>bindName j.c r) N) (fun _ am=>u.e am) u.c y) (z:=if i<A.length then o (.b (A.set i (o G)) f)else U) ?_ fun eM bW ba cH bG=>L eM bW ba ag N bG (k2.c cH));rw[if_pos (by obtain⟨z,_,c,_⟩:=D.P;rw[c];exact(eg.mp a4).1)];exact cq.e fun u Z=>wpAny_bindName (TZ aA D a4 ar jC Z)
theorem ah8{aQ az:List a0}{v fq:Nat}{d7 dn ap:bc}{bM:List aq}{P:Flow→aT→Prop}{y:aT}(c2:pZ [.Tuple aQ v d7] (.Tuple az fq dn) j.c=d6 (o bM))(c:j.e (eD (.Tuple az fq dn) j.c) (fun l bQ=>j.e (unpackItems l bM.length U) (fun my cE=>j.e (vZ (bM.reverse.map fun r=>bindName j.c r) my.reverse) (fun _=>P .next) S cE) S bQ) S y):j.e (exec (.Assign [.Tuple aQ v d7] (.Tuple az fq dn) ap) j.c) P S y:=by rw[exec_Assign_arm];refine bo (p1 (bo (c9 ?_)));rw[if_neg (by decide)];refine bo (gs c (fun l bQ eV=>?_) fun _ _ d=>d);rw[c2];refine bo (c9 ?_);show j.e (do rule "assign.swapped-stores";let my←unpackItems l bM.length U;vZ (bM.reverse.map fun r=>bindName j.c r) my.reverse;d6 .next) P S bQ;exact bo (wpAny_rule (bo (gs eV (fun my cE ss=>bo (gs ss (fun _ _ d=>c9 d) fun _ _ d=>d)) fun _ _ d=>d)))
theorem em.g{E:cV}(t:em E m ag N):em E m ag.reverse N.reverse:=⟨by rw[Gw,Gw,t.1],fun i d l g e=>by have a4:i<ag.length:=Gw (as:=ag)▸(eg.mp g).1;rw[List.getElem?_reverse a4]at g;rw[List.getElem?_reverse (by rw[t.1];exact a4),t.1]at e;exact t.2 _ d l g e⟩
theorem anx(aA:dC au j){aQ az:List a0}{v fq:Nat}{d7 dn ap:bc}{a':dO}{g:aZ}{bM:List aq}(j0:h5 a'=bM.length)(c2:pZ [.Tuple aQ v d7] (.Tuple az fq dn) j.c=d6 (o bM))(H:oi j dn az g)(L:Ak j bM.reverse a'):lG j (.Assign [.Tuple aQ v d7] (.Tuple az fq dn) ap) (.j a' g):=fun A f m D=>by
 refine cq.b (fun u c=>ah8 (P:=kE u) c2 (GV c)) (cq.c (w:=fun N f=>if h5 a'=N.length∧N.length≤cK then j.v a' N.reverse A f else U) (ao:=fun N bQ u=>N.length≤sh∧j.e (unpackItems (.ref bQ.heap.objs.size) bM.length U) (fun my cE=>j.e (vZ (bM.reverse.map fun r=>bindName j.c r) my.reverse) (fun _ am=>u.e am) u.c cE) u.c {bQ with heap:=bQ.heap.push {cls:=.type "tuple",data:=.seq N.toArray}}) (H A f m D) fun ag bW N ba cH bG cs=>?_);by_cases aw:h5 a'=ag.length∧ag.length≤cK;·show cq j ba _ (if h5 a'=ag.length∧ag.length≤cK then j.v a' ag.reverse A bW else U);rw[if_pos aw];refine fun n b u Z=>⟨by rw[cs.1];exact io aw.2,?_⟩;rw[←j0,aw.1,←cs.1];refine wpAny_unpackItems_tuple (s:={ba.b with heap:=ba.b.heap.push {cls:=.type "tuple",data:=.seq N.toArray}}) (items:=N.toArray) aA.i ⟨_,ko _ rfl,rfl,0,rfl⟩ fun bl ar=>?_;have bD:=bG.aA (am:={ba.b with heap:=bl}) (fun e n b=>ar e n (ll (lW (h9 b) (by rw[show(ba.b.heap.push {cls:=.type "tuple",data:=.seq N.toArray}).objs.size=ba.b.heap.objs.size+1 from Array.size_push ..];exact pR _))) (gr _ b)) ⟨rfl,rfl,rfl⟩;exact L A bW _ _ _ bD (cs.g.c (ay.c.d _)) n b u (Z.b (ay.c.d _))
 ·show cq j ba _ (if h5 a'=ag.length∧ag.length≤cK then j.v a' ag.reverse A bW else U);rw[if_neg aw];exact cq.g
end
end
section
open PySem PySem.W PyProof.Rows PySem.Calls
section
variable{j:b5}{au:dU}{A:List (Option K)}{f a1:af}{m:ay}{S:aa→aT→Prop}{ag:List K}{N:List aa}{d G x:K}{l ad:aa}{n:bV}{u:iM}
noncomputable def iM.g(j:b5)(u:iM):iM:={u with c:=pX j.b.i j.i j.c fun b am=>yS j.b.i j.i j.c u.c b am}
theorem ja.c(aA:dC au j)(Z:ja j m u n):ja j m (u.g j) n:=by
 rcases n with⟨cM,a1⟩|⟨cM,a1⟩|⟨d,a1⟩|⟨k,a1⟩;·exact Z
 ·exact Z
 ·exact Z
 ·exact fun b ae cM O D d=>aok D d aA.p fun am dE e_ _=>Z b (ae.k am) cM (O.k (ay.c.d _)) dE e_
noncomputable def F1(u:iM)(cO:aT→Prop):iM:=⟨cO,cO,u.i,u.c⟩
theorem cq.p{cc:iM→Prop}{z:Option bV}{v:List (Option K)→af→Option bV}(c:cq j m cc z)(b:h6 z v=o n){cO:aT→Prop}(Z:ja j m u n)(y4:∀A f ae,m.c ae→aP j A f ae→v A f=o n→cO ae.b):cc (F1 u cO):=by
 rcases z with _|⟨eM,bW⟩|⟨eM,bW⟩|⟨d,bW⟩|⟨k,bW⟩;·exact nomatch b
 ·exact c _ rfl _ fun ae O D=>y4 _ _ ae O D b
 ·exact c _ rfl _ fun ae O D=>y4 _ _ ae O D b
 ·obtain rfl:=aJ b;exact c _ rfl _ Z
 ·obtain rfl:=aJ b;exact c _ rfl _ Z
inductive IG(j:b5)(u:iM)(s:aZ)(g:a5)(r:Nat)(y:aT):Prop|b(A:List (Option K))(f:af)(m:ay)(n:bV)(D:aP j A f m)(aW:y=m.b)(b:oK (j.n s) (j.q g) r A f=o n)(Z:ja j m u n):IG j u s g r y
theorem asw(aA:dC au j){q:a0}{k:List cX}{s:aZ}{g:a5}{ap:bc}(aX:c4 j q s)(H:ol j k g):lG j (.While q k [] ap) (.k s g):=fun A f m D n b u Z=>by refine wpAny_While (codeAny_whileLoop (IG j (u.g j) s g) (fun r bQ rh=>?_) tt ⟨A,f,m,n,D,rfl,b,Z.c aA⟩);obtain⟨eM,bW,ba,n,bG,rfl,n1,Z⟩:=rh;induction r with|zero=>exact bb n1|succ r=>
 refine gs (cq.c (w:=fun e f=>an e (h6 (j.q g eM f) (oK (j.n s) (j.q g) r)) (o (.b eM f))) (ao:=fun e cE u=>if e=I then j.e (m9 k j.c) (kE (F1 u fun fi=>∃z,z<r+1∧IG j u s g z fi)) u.c cE else j.e (m9 [] j.c) (kE u) u.c cE) (aX.i eM bW ba bG) (fun e el oW bB dd bD fv=>?_) n (by rw[←Ps];exact n1) (u.g j) Z) (fun e cE c=>?_) fun _ _ d=>d;·
  obtain rfl:e=oW:=fv;rcases e;·exact cq.e fun u Z=>GW (Z bB (ay.c.p _) bD)
  ·exact fun cf dh j4 Oc=>cq.p (H eM el bB bD) dh Oc fun uo n' he hq gu G7=>⟨r,pR r,uo,n',he,cf,gu,rfl,G7,Oc.b hq⟩
 ·rcases e;·exact c
  ·refine gs c (fun w fi a3=>?_) fun _ _ d=>d;induction w with|brk=>exact a3.elim|_=>exact a3
def Ac(j:b5)(m:ay)(be:hM)(e:aD):Prop:=be e∨(∃n,m.d e=o n)∨(e∉j.k∧∃n,m.i e=o n)
def iI(j:b5)(m:ay)(be:hM):Prop:=∀g,be g→ci j m g∧∃n,m.b.heap.get? g=o n
theorem iI.b{be:hM}(bC:iI j m be)(g:aD)(c:be g):ci j m g:=(bC g c).1
theorem iI.c{be:hM}(bC:iI j m be)(g:aD)(c:be g):m.i g=U:=(bC g c).1.i
theorem iI.e{be:hM}{ae:ay}(bC:iI j m be)(O:(m.p be).c ae)(D:aP j A f ae):iI j (ae.q m.i) be:=fun g c=>by obtain⟨w,n,aj⟩:=bC g c;obtain⟨cB,bl⟩:=ci.E D O c w aj;exact⟨cB,n,bl⟩
structure ay.v(m ae:ay):Prop where
 i:eN.b m.d ae.d
 k:eN.b m.i ae.i
theorem ay.c.z{m ae:ay}(O:m.c ae):m.v ae:=⟨O.f,fun g n c=>by rw[O.v];exact c⟩
structure wZ(j:b5)(m:ay)(a':aD)(s:a0)(p:List M)(be:hM)(eE:Nat→eh→Prop):Prop where
 q:∀(i:Nat)(k:M)(A:List (Option K))(f:af)(ba:ay),p[i]?=o k→m.v ba→aP j A f ba→iI j ba be→eE i ba.b.heap→∀(P:aa→aT→Prop)(S yY:aa→aT→Prop),(∀l bB,ba.c bB→aP j A f bB→iI j bB be→eE (i+1) bB.b.heap→ca j.b bB.d k l→P l bB.b)→j.e (pyNext (.ref a')) (fun t bQ=>∃l,t=o l∧j.e (v5 s (.ref a') l) (fun _=>P l) yY bQ) S ba.b
 b:∀(i:Nat)(c bl:eh),eE i c→(∀e n,Ac j m be e→c.get? e=o n→bl.get? e=o n)→eE i bl
 g:∀(A:List (Option K))(f:af)(ba:ay),aP j A f ba→iI j ba be→eE p.length ba.b.heap→∀(P:aT→Prop)(S:aa→aT→Prop),(∀bB,ba.c bB→aP j A f bB→P bB.b)→j.e (pyNext (.ref a')) (fun t bQ=>t=U∧P bQ) S ba.b
 r:∀(i:Nat)(y:aT)(P:aa→aT→Prop)(S:aa→aT→Prop),eE i y.heap→P (.ref a') y→j.e (pY (.ref a')) P S y
theorem Ac.b{be:hM}{ba he:ay}{eM uo:List (Option K)}{bW n':af}{e:aD}{n:cm}(v:Ac j m be e)(O:m.v ba)(D:aP j eM bW ba)(bC:iI j ba be)(hq:(ba.p be).c he)(gu:aP j uo n' he)(c:ba.b.heap.get? e=o n):he.b.heap.get? e=o n:=by
 have fR:e∉j.k→he.i e=o n→he.b.heap.get? e=o n:=fun a3 b=>by
  obtain⟨cf,H,L⟩:=gu.Z e n b;rcases L with rfl|⟨L,_⟩;·exact H
  ·exact absurd L a3
 rcases v with v|⟨cf,v⟩|⟨a3,cf,v⟩;·exact fR (bC e v).1.r (by rw[hq.v,Et v];exact c)
 ·have b:=O.i e cf v;obtain rfl:=aJ ((D.p e cf b).symm.trans c);exact gu.p e _ (hq.f e _ b)
 ·have b:ba.i e=o cf:=O.k e cf v;obtain⟨C9,H,L⟩:=D.Z e cf b;obtain rfl:=aJ (H.symm.trans c);rcases L with rfl|⟨L,_⟩;·exact fR a3 (by rw[hq.v,nB fun u=>bb ((bC.c e u).symm.trans b)];exact b)
  ·exact absurd L a3
theorem cq.k{be:hM}{cc:iM→Prop}{z:Option bV}(bC:iI j m be)(c:cq j (m.p be) cc z):cq j m cc z:=fun n b u Z=>c n b u<|by
 rcases n with⟨cM,a1⟩|⟨cM,a1⟩|⟨d,a1⟩|⟨k,a1⟩;·exact fun ae O D=>Z (ae.q m.i) O.t (D.aw O bC.c)
 ·exact fun ae O D=>Z (ae.q m.i) O.t (D.aw O bC.c)
 ·exact fun l ae cM O D t=>Z l (ae.q m.i) cM O.t (D.aw O bC.c) (t.c ⟨fun _ _ c=>c,[],(hE _).symm⟩)
 ·exact fun b ae cM O D d=>Z b (ae.q m.i) cM O.t (D.aw O bC.c) (d.Du O bC.b)
theorem cq.q{be:hM}{cc:iM→Prop}{z:Option bV}{v:List (Option K)→af→Option bV}(bC:iI j m be)(c:cq j (m.p be) cc z)(b:h6 z v=o n){cO:aT→Prop}(Z:ja j m u n)(y4:∀A f ae,(m.p be).c ae→aP j A f ae→ja j (ae.q m.i) u n→v A f=o n→cO ae.b):cc (F1 u cO):=by
 rcases z with _|⟨eM,bW⟩|⟨eM,bW⟩|⟨d,bW⟩|⟨k,bW⟩;·exact nomatch b
 ·exact c _ rfl _ fun ae O D=>y4 _ _ ae O D (Z.b O.t) b
 ·exact c _ rfl _ fun ae O D=>y4 _ _ ae O D (Z.b O.t) b
 ·obtain rfl:=aJ b;exact cq.k bC c _ rfl _ Z
 ·obtain rfl:=aJ b;exact cq.k bC c _ rfl _ Z
inductive Iv(j:b5)(u:iM)(m:ay)(p:List M)(be:hM)(eE:Nat→eh→Prop)(w:M→List (Option K)→af→Option bV)(r:Nat)(y:aT):Prop|b(i:Nat)(A:List (Option K))(f:af)(ae:ay)(n:bV)(ah:r=(p.drop i).length)(a4:i≤p.length)(O:m.c ae)(D:aP j A f ae)(bC:iI j ae be)(dj:eE i ae.b.heap)(aW:y=ae.b)(b:jd w (p.drop i) A f=o n)(Z:ja j ae u n):Iv j u m p be eE w r y
theorem Qi{V:Type}{R:Prop}{p:List V}{i:Nat}(mz:p.drop i=[]→R)(v:∀g,p[i]?=o g→p.drop i=g::p.drop (i+1)→R):R:=by
 by_cases c:i<p.length;·exact v _ (hT c) (List.drop_eq_getElem_cons c)
 ·exact mz (vM (jS.mp c))
theorem QX(aA:dC au j){p:List M}{a':aD}{be:hM}{eE:Nat→eh→Prop}{s:a0}{hZ:dO}{k:List cX}{g:a5}(aB:wZ j m a' s p be eE)(H:nu j s hZ)(L:ol j k g)(D:aP j A f m)(bC:iI j m be)(dj:eE 0 m.b.heap)(b:jd (fun dF A f=>fG (j.u hZ (.b dF) A f) (j.q g)) p A f=o n)(Z:ja j m u n):kq j.b.i j.i (.forLoop s (.ref a') k [] j.c) (fun t am=>match t with|.ok w=>kE u w am|.error b=>yS j.b.i j.i j.c u.c b am) m.b:=by
 refine codeAny_forLoop_any (Iv j (u.g j) m p be eE (fun dF A f=>fG (j.u hZ (.b dF) A f) (j.q g))) (fun r bQ rh=>?_) p.length ⟨0,A,f,m,n,rfl,jT _,ay.c.p m,D,bC,dj,rfl,b,Z.c aA⟩;obtain⟨i,eM,bW,ba,n,rfl,a4,cH,bG,y0,zY,rfl,n1,Z⟩:=rh;refine Qi (p:=p) (i:=i) (fun aI=>?_) fun dF al aI=>?_;·
  rw[aI]at n1;obtain rfl:i=p.length:=Nat.le_antisymm a4 (Gj.mp aI);refine gs (aB.g eM bW ba bG y0 zY u.e _ fun bB dd bD=>?_) (fun t cE c=>?_) fun _ _ d=>d;·obtain rfl:=aJ n1;exact Z bB dd bD
  ·obtain⟨rfl,c⟩:=c;exact GW c
 ·rw[aI]at n1⊢;refine gs (aB.q i dF eM bW ba al cH.z bG y0 zY (fun l cE=>j.e (oT s j.c l) (fun _ fi=>j.e (m9 k j.c) (kE (F1 (u.g j) fun jq=>∃z,z<(dF::p.drop (i+1)).length∧Iv j (u.g j) m p be eE (fun dF A f=>fG (j.u hZ (.b dF) A f) (j.q g)) z jq)) (u.g j).c fi) (u.g j).c cE) _ (u.g j).c fun l bB dd bD jw n9 fv=>?_) (fun t cE c=>?_) fun _ _ d=>d;·have cS:=cq.i (v0:=fun y u=>j.e (m9 k j.c) (kE u) u.c y) (H eM bW (bB.p be) (.b dF) l (bD.aL jw.b) fv) fun uo n' he hq gu=>L uo n' he gu;exact cq.q jw cS n1 (Z.b dd) fun uo n' he hq gu YM G7=>⟨_,pR _,i+1,uo,n',he.q bB.i,n,rfl,(eg.mp al).1,cH.k (dd.k hq.t),gu.aw hq jw.c,jw.e hq gu,aB.b _ _ _ n9 fun e n v c=>show he.b.heap.get? e=o n from v.b (cH.k dd).z bD jw hq gu c,rfl,G7,YM⟩
  ·obtain⟨l,rfl,c⟩:=c;refine gs c (fun _ cE c=>gs c (fun _ fi c=>gs c (fun w jq a3=>?_) fun _ _ d=>d) fun _ _ d=>d) fun _ _ d=>d;induction w with|brk=>exact a3.elim|_=>exact a3
end
end
section
open PySem PySem.W PyProof.Rows PySem.Calls
section
variable{j:b5}{au:dU}{A:List (Option K)}{f a1:af}{m:ay}{S:aa→aT→Prop}{ag:List K}{N:List aa}{d G x:K}{l ad:aa}{n:bV}{u:iM}{p:List M}{s:a0}
theorem arO{a':aD}{jy:List aD}{r:Nat}{R:Nat→aa→Prop}{eE:Nat→eh→Prop}(nf:∀l,v5 s (.ref a') l=d6 ())(cc:Walks j.b.d j.b.e j.i a' jy [a'] r R eE)(ah:r=p.length)(G8:∀e∈jy,e=a'∨∃n,m.d e=o n)(wn:∀i c,eE i c→∃n,c.get? a'=o n)(HM:∀i ad k,R i ad→p[i]?=o k→ca j.b m.d k ad):wZ j m a' s p (·=a') eE where
 q:=fun i k A f ba al O D bC dj P S yY Z=>cc.item i ba.b _ _ (by rw[ah];exact(eg.mp al).1) dj fun l bl cz bE Ol ar=>⟨l,rfl,by
  rw[nf];have db:=ay.c.d (m:=ba) {ba.b with heap:=bl,toks:=cz};refine c9 (Z l _ db (D.av (am:={ba.b with heap:=bl,toks:=cz}) (fun g n kv b=>ar g n (fun u=>kv ?_) b) ⟨rfl,rfl,rfl⟩) (fun g u=>?_) Ol ((HM i l k bE al).mG fun g n c=>O.i g n c));·rw[m4.mp u];exact bC.b a' rfl
  ·rw[u];exact⟨(bC.b a' rfl).s _,wn _ _ Ol⟩⟩;b:=fun i c bl dj ar=>cc.frame i c bl dj fun e aN n b=>ar e n ((G8 e aN).imp id .inl) b;g:=fun A f ba D bC dj P S Z=>cc.done ba.b _ _ (ah▸dj) fun bl cz ar=>⟨rfl,Z _ (ay.c.d _) (D.av (am:={ba.b with heap:=bl,toks:=cz}) (fun g n kv b=>ar g n (fun u=>kv (by rw[m4.mp u];exact bC.b a' rfl)) b) ⟨rfl,rfl,rfl⟩)⟩;r:=cc.self
abbrev Iz(j:b5)(A:List (Option K))(f:af)(m:ay)(s:a0)(p:List M)(P:aa→aT→Prop):Prop:=∀a' be eE ba,m.c ba→aP j A f ba→iI j ba be→eE 0 ba.b.heap→(∀(aL:dQ)(O:aD)(dg:List aD)(bM kX:List aq)(ax:List Nat)(X:ea)(ae:ay),eN.b ba.d ae.d→wZ ⟨j.b,j.i,aL,O,dg,bM,kX,ax,X⟩ ae a' s p be eE)→P (.ref a') ba.b
theorem A1(D:aP j A f m)(nf:∀a' l,v5 s a' l=d6 ()){P:aa→aT→Prop}(Z:Iz j A f m s p P){jy:List aD}{r:Nat}{R:Nat→aa→Prop}{eE:Nat→eh→Prop}(cc:Walks j.b.d j.b.e j.i m.b.heap.objs.size jy [m.b.heap.objs.size] r R eE)(ah:r=p.length)(G8:∀e∈jy,e=m.b.heap.objs.size∨∃n,m.d e=o n)(wn:∀i c,eE i c→∃n,c.get? m.b.heap.objs.size=o n)(HM:∀i ad k,R i ad→p[i]?=o k→ca j.b m.d k ad){n:cm}(dj:eE 0 (m.b.heap.push n)):P (.ref m.b.heap.objs.size) {m.b with heap:=m.b.heap.push n}:=Z _ (·=m.b.heap.objs.size) eE _ (ay.c.d _) (D.aE n m.b.toks) (fun g u=>by rw[u];exact⟨(D.ap (df _)).s _,wn 0 _ dj⟩) dj fun _ _ _ _ _ _ _ ae c=>arO (j:=⟨j.b,j.i,_,_,_,_,_,_,_⟩) (nf _) cc ah (fun e aN=>(G8 e aN).imp id (by rintro⟨n,u⟩;exact⟨n,c e n u⟩)) wn fun i ad k g e=>(HM i ad k g e).mG c
theorem JK{a' g:aD}{n:cm}(c:m.d g=o n)(e:aD)(aN:e∈[a',g]):e=a'∨∃n,m.d e=o n:=by
 rcases gQ.mp aN with u|aN;·exact .inl u
 ·rw[m4.mp aN];exact .inr ⟨n,c⟩
theorem Tt{g e q:Int}(aN:0≤g∧g≤e∧e≤cK∧0<q∧q≤cK):Builtin.Range.rangeSize g e q=(e-g+q-1)/q∧0≤(e-g+q-1)/q∧(e-g+q-1)/q≤200000:=by
 have jA:(cK:Int)=100000:=rfl;obtain⟨H,L,aR,bh,cT⟩:=aN;have ah:0≤e-g+q-1:=B6 (Int.add_pos_of_nonneg_of_pos (Int.sub_nonneg_of_le L) bh);refine⟨?_,Int.ediv_nonneg ah (vL bh),g4 (Int.ediv_le_self _ ah) (g4 (B_ _ (by decide)) (g4 (Int.add_le_add (g4 (B_ e H) aR) cT) (show((cK:Nat):Int)+cK≤200000 by decide)))⟩;unfold Builtin.Range.rangeSize;rw[if_pos bh];by_cases u:g<e;·rw[if_pos u,show e-g+q-1=(e-g-1)+q from Int.add_right_comm _ q (-1),Int.add_ediv_of_dvd_right (Int.dvd_refl q),Int.ediv_self (Int.ne_of_gt bh)]
 ·rw[if_neg u];rw[Int.le_antisymm (oP.mp u) L,Int.sub_self,Int.zero_add,LY (B6 bh) (Int.sub_lt_self q (by decide))]
theorem AW{d:Int}(aX:0≤d)(c:d≤200000): -2^63≤d∧d<2^63:=⟨g4 (by decide) aX,B7 c (by decide)⟩
theorem Kq:((cK:Nat):Int)≤200000:=by decide
theorem apk{g e q:Int}(aN:0≤g∧g≤e∧e≤cK∧0<q∧q≤cK):Builtin.Range.small g e q=I:=by obtain⟨ia,Ht,o4⟩:=Tt aN;have jA:(cK:Int)=100000:=rfl;unfold Builtin.Range.small Builtin.Range.rangeFitsLong;rw[ia];obtain⟨cT,bh,aR,H,L⟩:=aN;rw[if_pos (show q>0 from H)];simp only[vJ,Bool.or_eq_true,decide_eq_true_eq];exact⟨⟨⟨⟨AW cT (g4 bh (g4 aR Kq)),AW (g4 cT bh) (g4 aR Kq)⟩,AW (vL H) (g4 L Kq)⟩,AW Ht o4⟩,.inr (AW (Int.add_nonneg (g4 cT bh) (B6 H)) (g4 (Int.add_le_add aR (g4 (B_ q (by decide)) L)) (show((cK:Nat):Int)+cK≤200000 by decide)))⟩
theorem amb(d0:j.i.handled=U)(D:aP j A f m){g e q:Int}{d:aD}{n:cm}{cz ad x:Tok}(aN:0≤g∧g≤e∧e≤cK∧0<q∧q≤cK)(aH:m.d d=o n)(aj:∀c:eh,c.get? d=o n→IsRange c d g e q cz ad x)(nf:∀a' l,v5 s a' l=d6 ()){P:aa→aT→Prop}(Z:Iz j A f m s ((Le g e q).map .b) P):j.e (pY (.ref d)) P S m.b:=by
 obtain⟨ia,Ht,o4⟩:=Tt aN;have b4:Le g e q=(de ((e-g+q-1)/q).toNat).map fun i=>g+q*(i:Nat):=if_pos aN.2.2.2.1;refine wpAny_pyIter_range (aj _ (D.p _ _ aH)) (apk aN) (A1 D nf Z (Walks.range (prog:=j.b.d) (w:=j.b.e) d0 m.b.heap.objs.size g q ((e-g+q-1)/q).toNat) (by rw[b4,dA,dA,List.length_range]) (fun e aN=>.inl (m4.mp aN)) (fun i c dj=>⟨_,dj⟩) (fun i ad k cu al=>?_) ?_);·obtain⟨s,rfl⟩:=cu;rw[b4,jQ,jQ]at al;obtain⟨u,aR,rfl⟩:=nS.mp al;obtain⟨Q,bh,rfl⟩:=nS.mp aR;obtain⟨bZ,bh⟩:=eg.mp bh;rw[List.getElem_range]at bh;rw[←bh,Int.mul_comm];exact .ns _ _
 ·show IsRangeIter _ _ (g+((0:Nat):Int)*q) ((((e-g+q-1)/q).toNat:Int)-((0:Nat):Int)) q;rw[LZ Ht,show((0:Nat):Int)=0 from rfl,Int.zero_mul,Int.add_zero,Int.sub_zero,ia];exact ko _ rfl
theorem R4(d0:j.i.handled=U)(D:aP j A f m){k:M}(b:s9 k=o p)(t:ca j.b m.d k l)(nf:∀a' l,v5 s a' l=d6 ()){P:aa→aT→Prop}(Z:Iz j A f m s p P):j.e (pY l) P S m.b:=by have i5:∀{g:aD}{n:cm},m.d g=o n→g≠m.b.heap.objs.size:=fun c=>ll (h9 (D.p _ _ c));induction t with|rD N n aj bu aw a4=>obtain rfl:=aJ b;obtain⟨r,rfl⟩:=bu;have gW:m.b.heap.IsList _ N.toArray:=⟨_,D.p _ _ aj,rfl,r,rfl⟩;exact wpAny_pyIter_list gW (A1 D nf Z (Walks.list d0 _ _ (i5 aj) _) aw (JK aj) (fun i c dj=>by obtain⟨⟨n,H,_⟩,_⟩:=dj;exact⟨n,H⟩) (fun i ad k cu al=>a4 i k ad al (Gu.symm.trans cu)) ⟨⟨_,ko _ rfl,rfl,rfl⟩,gW.push _⟩)|wU N n aj bu aw a4=>obtain rfl:=aJ b;obtain⟨L,r,aR⟩:=bu;have gW:m.b.heap.IsTuple _ N.toArray:=⟨n,D.p _ _ aj,L,r,aR⟩;exact wpAny_pyIter_tuple gW (A1 D nf Z (Walks.tuple d0 _ _ (i5 aj) _) aw (JK aj) (fun i c dj=>by obtain⟨⟨n,H,_⟩,_⟩:=dj;exact⟨n,H⟩) (fun i ad k cu al=>a4 i k ad al (Gu.symm.trans cu)) ⟨⟨_,ko _ rfl,rfl,rfl⟩,gW.push _⟩)|og d s=>refine eO (show(if d.all (·<128)=I then o (d.map fun q=>M.c [q])else U)=o p from b) fun aH b=>?_;subst b;refine wpAny_pyIter_ascii (by rw[←Array.all_toList];exact aH) (A1 D nf Z (Walks.strAscii d0 _ (bx d) s) (dA ..).symm (fun e aN=>.inl (m4.mp aN)) (fun i c dj=>by obtain⟨n,H,_⟩:=dj;exact⟨n,H⟩) (fun i ad k cu al=>?_) ⟨_,ko _ rfl,rfl,rfl⟩);obtain⟨q,x,H,rfl⟩:=cu;rw[jQ]at al;obtain⟨es,L,rfl⟩:=nS.mp al;obtain rfl:q=es:=aJ ((Gu.symm.trans H).symm.trans L);exact .og [q] x|Ag b1 n aj a8 bu aw ar a4=>obtain rfl:=aJ b;obtain⟨cf,az,dn,H,L⟩:=bu _ (D.p _ _ aj);have aI:m.b.heap.DictAt (m_ j.b.d j.b.e) _ b1 dn:=⟨cf,az,H,L⟩;refine wpAny_pyIter_dict a8 aI (A1 D nf Z (Walks.dictKeys (knd:=m_ j.b.d j.b.e) d0 _ _ (i5 aj) b1 dn) (by rw[dA,aw]) (JK aj) (fun i c dj=>by obtain⟨⟨n,H,_⟩,_⟩:=dj;exact⟨n,H⟩) (fun i ad k cu al=>?_) ⟨⟨_,ko _ rfl,rfl,rfl⟩,aI.at' fun n b=>gr _ b⟩);obtain⟨v,d,H,L⟩:=cu;rw[jQ]at al;obtain⟨u,aR,rfl⟩:=nS.mp al;obtain rfl:v=bx u.1:=ar i _ u H aR;obtain⟨x,rfl⟩:=Value.isStrOf_shape L;exact .og _ x|Ah n s ad l aj bu=>exact eO (show(if _ then o _ else U)=o p from b) fun aN b=>by subst b;exact amb d0 D aN aj bu nf Z|_=>exact bb b
theorem JJ{b:a0}{aL:dQ}(c:ov b=C)(d:aa):foldedSetIterable b aL d=d6 d:=by induction b using Expr.casesOn with|Set=>exact nomatch c|_=>rfl
theorem aiR(aA:dC au j){HJ:a0}{hZ:dO}{i:aZ}{k:List cX}{g:a5}{ap:bc}(sr:ov HJ=C)(nf:∀a' l,v5 s a' l=d6 ())(aX:c4 j HJ i)(H:nu j s hZ)(L:ol j k g):lG j (.For s HJ k [] ap) (.i C hZ i g):=fun A f m D=>cq.b (fun u c=>wpAny_For (Q:=kE u) c (JJ sr)) (cq.c (w:=fun d f=>(sZ C d).bind fun p=>jd (fun dF A f=>fG (j.u hZ (.b dF) A f) (j.q g)) p A f) (ao:=fun l bQ u=>j.e (pY l) (fun a' cE=>kq j.b.i j.i (.forLoop s a' k [] j.c) (fun t am=>match t with|.ok w=>kE u w am|.error b=>yS j.b.i j.i j.c u.c b am) cE) u.c bQ) (aX.e A f m D) fun d bW l ba cH bG cs n b u Z=>d4 b fun p aw b=>gb aw cs fun k al aw=>d4 aw fun cG kt aw=>R4 aA.i bG kt al nf fun a' be eE bB dd bD jw n9 aB=>eO aw fun jA aw=>QX aA (aB _ _ _ _ _ _ _ _ fun _ _ c=>c) H L bD jw n9 (by rw[aw];exact b) (Z.b dd))
end
end
section
open PySem PySem.W PyProof.Rows PySem.Calls
section
variable{j:b5}{au:dU}{A cM rs:List (Option K)}{f a1 el:af}{m bB:ay}{bq:Bool}{am:aT}{g:aD}{n:cm}
def nC(j:b5)(m:ay)(bq:Bool)(g:aD):Prop:=g=j.m∨(bq=I∧iP m.f g)
def ay.l(j:b5)(m:ay)(bq:Bool)(am:aT):ay:=⟨m.d,(m.p (nC j m bq)).i,cond bq [] m.f,am⟩
noncomputable def ay.r(m bB:ay)(bq:Bool):ay:=⟨bB.d,m.i,cond bq m.f bB.f,bB.b⟩
theorem nC.c(D:aP j A f m)(c:nC j m bq g):m.d g=U∧m.i g=U:=by
 rcases c with rfl|⟨_,k,al,aN⟩;·exact⟨D.x.1,D.x.2.1⟩
 ·obtain⟨v,ar⟩:=vQ al;have u:=D.y v k ar;rcases aN with rfl|rfl;·exact⟨u.1.1,u.2.1⟩
  ·exact⟨u.1.2,u.2.2⟩
theorem nC.b(D:aP j A f m)(c:nC j m bq g):∃n,(m.l j bq am).i g=o n∧m.b.heap.get? g=o n:=by obtain⟨n,b⟩:=D.aS (g:=g) fun w=>c.elim w.p fun u=>w.l u.2;exact⟨n,(Et c).trans b,b⟩
theorem J9(D:aP j A f m)(c:m.i g=o n):(m.l j bq am).i g=o n:=(nB fun u=>bb ((u.c D).2.symm.trans c)).trans c
theorem RP(D:aP j A f m)(c:(m.l j bq am).i g=U):¬nC j m bq g∧m.i g=U:=by
 have u:¬nC j m bq g:=fun u=>by obtain⟨n,b,_⟩:=u.b (am:=am) D;exact bb (c.symm.trans b)
 exact⟨u,(nB u).symm.trans c⟩
theorem auO:m.d=(m.l j bq am).d:=rfl
theorem Av(c:iP (m.l j bq am).f g):iP m.f g:=by
 rcases bq;·exact c
 ·exact nomatch c
theorem aP.aQ(D:aP j A f m){fz:g6}{MJ:dQ}{db:aD}{ha:List aD}{HV G1:List aq}{Ii:List Nat}{er:ea}(ar:∀g n,m.b.heap.get? g=o n→am.heap.get? g=o n)(b4:am.gens=m.b.gens∧am.os=m.b.os∧am.drawn=m.b.drawn)(w:ci j m db)(n2:∀g∈ha,g∈j.k∨g=db)(jZ:∀g∈j.k,g∈ha)(NX:∃z,am.heap.Ns db z∧cM.length=HV.length∧∀(i:Nat)(d:aq),HV[i]?=o d→(∀l,cM[i]?=o (o l)→∃ad,z d=o ad∧b7 j.b (m.l j bq am) l ad)∧(cM[i]?=o U→z d=U))(Vo:Ii.length=G1.length∧∀(i v:Nat)(d:aq)(g:aD),Ii[i]?=o v→G1[i]?=o d→MJ.cells.lookup d=o g→∃k,(m.l j bq am).f[v]?=o k∧g=k.1):aP ⟨j.b,fz,MJ,db,ha,HV,G1,Ii,er⟩ cM (cond bq [] f) (m.l j bq am)where
 ao:=D.ao;p:=fun g n c=>ar g n (D.p g n c);Z:=fun g n c=>by
  by_cases u:nC j m bq g;·exact⟨n,ar g n ((Et u).symm.trans c),.inl rfl⟩
  ·obtain⟨cf,H,L⟩:=D.Z g n ((nB u).symm.trans c);exact⟨cf,ar g cf H,L.imp id fun c=>⟨jZ g c.1,c.2⟩⟩
 ai:=fun g n c=>by
  by_cases u:nC j m bq g;·exact(u.c D).1
  ·exact D.ai g n ((nB u).symm.trans c)
 x:=⟨w.d,(nB fun u=>u.elim w.p fun u=>w.l u.2).trans w.i,fun u=>w.l (Av u)⟩;y:=fun v k al=>by
  rcases bq;·have fR:∀e,iP m.f e→m.i e=U→(m.l j C am).i e=U:=fun e aN b=>(nB fun u=>u.elim (fun q=>D.x.2.2 (q▸aN)) fun u=>nomatch u.1).trans b;have a9:=dZ (show m.f[v]?=o k from al);exact⟨(D.y v k al).1,fR _ ⟨k,a9,.inl rfl⟩ (D.y v k al).2.1,fR _ ⟨k,a9,.inr rfl⟩ (D.y v k al).2.2⟩
  ·exact nomatch al
 G:=fun g c=>by
  rcases n2 g c with c|rfl;·obtain⟨H,L,n,aR,bh⟩:=D.G g c;exact⟨H,fun u=>L (Av u),n,ar g n aR,bh⟩
  ·obtain⟨z,⟨n,az,dn,c,jC,k2⟩,_⟩:=NX;exact⟨w.d,fun u=>w.l (Av u),n,c,fun N=>by rw[jC];exact nofun⟩
 P:=NX;E:=by rcases bq;exact D.E;rfl
 ag:=by rcases bq;exact D.ag;exact fun i Q k u c=>nomatch c
 S:=by
  rcases bq;·exact fun v k n al aj=>(D.S v k n al aj).pd (ae:=m.l j C am) ⟨fun _ _ c=>c,[],(hE _).symm⟩ (ar _) (ar _)
  ·exact fun v k n al=>nomatch al
 Y:=Vo;J:=⟨b4.1.trans D.J.1,b4.2.1.trans D.J.2.1,b4.2.2.trans D.J.2.2⟩
theorem ay.c.w(O:(m.l j bq am).c bB):m.c (m.r bB bq):=⟨⟨O.f,by
 rcases bq;·exact O.j
 ·exact⟨[],(hE _).symm⟩⟩,rfl⟩
variable{dR:b5}
theorem aP.aC(D:aP j A f m)(cN:dR.b=j.b)(w:ci j m dR.m)(n2:∀g∈dR.k,g∈j.k∨g=dR.m)(jZ:∀g∈j.k,g∈dR.k)(O:(m.l j bq am).c bB)(bD:aP dR rs el bB):aP j A (cond bq f el) (m.r bB bq):=by
 have C0:=fun g n c=>(O.v▸c:bB.i g=o n);have aC:∀g,bB.i g=U→¬nC j m bq g∧m.i g=U:=fun g c=>RP (am:=am) D (O.v▸c);have zs:∀g,nC j m bq g→∃n cf,m.b.heap.get? g=o n∧bB.b.heap.get? g=o cf∧sP j.k g n cf∧bB.d g=U:=fun g u=>by obtain⟨n,aG,aK⟩:=u.b (am:=am) D;obtain⟨cf,bA,dN⟩:=bD.Z g n (C0 g n aG);exact⟨n,cf,aK,bA,dN.imp id (by rintro⟨c,t⟩;exact⟨(n2 g c).elim id fun q=>(u.elim (fun es=>absurd (q.symm.trans es) w.p) fun u=>absurd (q▸u.2) w.l),t⟩),bD.ai g n (C0 g n aG)⟩
 have gW:=zs j.m (.inl rfl);exact{
  ao:=fun g n c=>bD.ao g n (cN▸c),p:=bD.p,Z:=fun g n c=>by obtain⟨cf,bA,dN⟩:=bD.Z g n (C0 g n (J9 D c));exact⟨cf,bA,dN.imp id (by rintro⟨bl,t⟩;exact⟨(n2 g bl).elim id fun q=>bb (w.i.symm.trans (q▸c)),t⟩)⟩,ai:=fun g n c=>bD.ai g n (C0 g n (J9 D c)),x:=⟨by obtain⟨_,_,_,_,_,c⟩:=gW;exact c,D.x.2.1,by
   rcases bq;·
    rintro⟨k,al,aN⟩;obtain⟨v,ar⟩:=vQ al;have u:=(bD.y v k ar).2;rcases aN with aN|aN;·exact(aC _ u.1).1 (.inl aN.symm)
    ·exact(aC _ u.2).1 (.inl aN.symm)
   ·exact D.x.2.2⟩,y:=fun v k al=>by
   rcases bq;·exact⟨(bD.y v k al).1,(aC _ (bD.y v k al).2.1).2,(aC _ (bD.y v k al).2.2).2⟩
   ·have a9:=dZ (show m.f[v]?=o k from al);obtain⟨_,_,_,_,_,H⟩:=zs k.1 (.inr ⟨rfl,k,a9,.inl rfl⟩);obtain⟨_,_,_,_,_,L⟩:=zs k.2 (.inr ⟨rfl,k,a9,.inr rfl⟩);exact⟨⟨H,L⟩,(D.y v k al).2⟩,G:=fun g c=>by
   obtain⟨H,L,aR⟩:=bD.G g (jZ g c);refine⟨H,?_,aR⟩;rcases bq;·exact L
   ·exact(D.G g c).2.1,P:=by obtain⟨z,⟨n,az,dn,H,L⟩,aR,bh⟩:=D.P;obtain⟨auw,cf,aG,aK,bA,_⟩:=gW;obtain rfl:=aJ (H.symm.trans aG);exact⟨z,⟨cf,az,dn,aK,by rcases bA with rfl|⟨_,b',rfl⟩<;>exact L⟩,aR,fun i d aH=>⟨fun l bE=>by obtain⟨ad,g,e⟩:=(bh i d aH).1 l bE;exact⟨ad,g,e.b O.w⟩,(bh i d aH).2⟩⟩,E:=by rcases bq;exact bD.E;exact D.E,ag:=by rcases bq;exact bD.ag;exact D.ag,S:=by
   rcases bq;·exact fun v k n al aj=>cN▸(bD.S v k n al aj).pd (ae:=m.r bB C) ⟨fun _ _ c=>c,[],(hE _).symm⟩ (fun _ c=>c) fun _ c=>c
   ·refine fun v k n al aj=>(D.S v k n al aj).pd (ae:=m.r bB I) O.w.toUp (fun n c=>?_) fun n c=>?_;·have a9:=dZ (show m.f[v]?=o k from al);obtain⟨_,cf,aG,aK,bA,_⟩:=zs k.1 (.inr ⟨rfl,k,a9,.inl rfl⟩);obtain rfl:=aJ (c.symm.trans aG);exact bA.elim (fun q=>q▸aK) fun q=>absurd ⟨k,a9,.inl rfl⟩ (D.G _ q.1).2.1
    ·have a9:=dZ (show m.f[v]?=o k from al);obtain⟨_,cf,aG,aK,bA,_⟩:=zs k.2 (.inr ⟨rfl,k,a9,.inr rfl⟩);obtain rfl:=aJ (c.symm.trans aG);exact bA.elim (fun q=>q▸aK) fun q=>absurd ⟨k,a9,.inr rfl⟩ (D.G _ q.1).2.1,Y:=⟨D.Y.1,fun i v d g H L aR=>by obtain⟨k,cx,cU⟩:=D.Y.2 i v d g H L aR;exact⟨k,O.w.i cx,cU⟩⟩,J:=cN▸bD.J}
theorem ci.x(D:aP j A f m)(jZ:∀g∈j.k,g∈dR.k)(O:(m.l j bq am).c bB)(w:ci dR bB g):ci j (m.r bB bq) g:=by
 obtain⟨H,L⟩:=RP (am:=am) D (O.v▸w.i);refine⟨w.d,L,fun q=>H (.inl q),?_,fun c=>w.r (jZ g c)⟩;rcases bq;·exact w.l
 ·exact fun u=>H (.inr ⟨rfl,u⟩)
theorem eZ.Ir(D:aP j A f m)(cN:dR.b=j.b)(jZ:∀g∈j.k,g∈dR.k)(O:(m.l j bq am).c bB){k:M}(d:eZ dR bB k g):eZ j (m.r bB bq) k g:=by obtain⟨L,eL,N,cr,az,z,l,aR,bh,cT,dB,d2,et,gh,jm,h_,h',lZ⟩:=d;exact⟨L.x D jZ O,eL,N,cr,az,z,l,aR,bh,cT,dB,d2.imp id (by rintro⟨aB,fS,aQ,c_,e3,gT,nW⟩;exact⟨aB,fS,aQ,c_,e3,gT.x D jZ O,nW⟩),et,gh,jm,h_,cN▸h',lZ⟩
theorem ci.R(w:ci j m dR.m)(a3:dR.m∉j.k)(O:(m.l j bq am).c bB)(bD:aP dR rs el bB):ci j (m.r bB bq) dR.m:=⟨bD.x.1,w.i,w.p,by
 rcases bq;·exact bD.x.2.2
 ·exact w.l,a3⟩
end
end
section
open PySem PySem.W PyProof.Rows PySem.Calls
noncomputable abbrev r8(dv:List a0)(aL:dQ):Sem Bool:=forIn dv I fun q t=>if t=I then do let e9←isTrue q aL (eD q aL);d6 (mq e9)else d6 (mq t)
section
variable{dI:m6}{x:cJ}{aS:g6}{bk:lq→aT→Prop}
theorem aeA{c7 Di ua:a0}{dv:List a0}{cg:ir}{ap:bc}{a' aE:aa}{aL:dQ}(D:Nat→aT→Prop){cO:aa→aT→Prop}(p9:cO=pX (c6 dI x) aS aL fun b am=>bk (.error b) am)(Y2:∀r y,D r y→da (c6 dI x) aS (pyNext a') (fun t bQ=>match t with|none=>bk (.ok .next) bQ|some l=>da (c6 dI x) aS (v5 Di a' l) (fun _ Dh=>da (c6 dI x) aS (oT Di aL l) (fun _ cE=>da (c6 dI x) aS (r8 dv aL) (fun e9 fi=>if e9=I then da (c6 dI x) aS (eD c7 aL) (fun d jq=>da (c6 dI x) aS (eT (.builtin "list.append") [aE,d]) (fun _ nm=>∃z,z<r∧D z nm) cO jq) cO fi else∃z,z<r∧D z fi) cO cE) cO Dh) cO bQ) cO y)(r:Nat){y:aT}(c:D r y):kq (c6 dI x) aS (.compLoop (.ListComp c7 [⟨Di,ua,dv,0⟩] cg ap) 0 a' aE aL) bk y:=by
 subst p9;refine codeAny_loop rfl D (fun r y rh=>?_) r c;show da _ aS ((compTurn (.ListComp c7 [⟨Di,ua,dv,0⟩] cg ap) 0 a' aE aL).onRaise (fun d=>do noteFrame d aL;theTreesLotGoes d)) _ _ y;refine wpAny_noted ?_;rw[compTurn_list];refine bo (p1 (bo (gs (Y2 r y rh) (fun t bQ eV=>?_) fun _ _ bl=>bl)));rcases t with _|l;·exact c9 eV
 ·refine bo (gs eV (fun _ Dh eV=>bo (gs eV (fun _ cE ss=>bo (gs ss (fun e9 fi NQ=>?_) fun _ _ bl=>bl)) fun _ _ bl=>bl)) fun _ _ bl=>bl);rcases e9;·exact c9 ⟨rfl,NQ⟩
  ·exact bo (bo (gs NQ (fun d jq XS=>bo (gs XS (fun _ nm XT=>c9 (c9 ⟨rfl,XT⟩)) fun _ _ bl=>bl)) fun _ _ bl=>bl))
end
section
variable{V bg dk:Type}{j:b5}{au:dU}{A:List (Option K)}{f a1:af}{m:ay}{S:aa→aT→Prop}{kU:ay→V→bg→Prop}
def ZC(E:cV)(m:ay)(g:Option M)(e:Option aa):Prop:=match g with|none=>e=U|some k=>∃l,e=o l∧ca E m.d k l
structure qn(j:b5)(eG:Bool)(nn d:a0)(dv:List a0)(hZ:dO)(q b:aZ):Prop where
 g:nu j nn hZ
 c:∀k cM(eM:List (Option K))f,eM.length=j.t.length→tn eG k=o cM→j.u hZ (.b k) eM f=o (.b cM f)
 e:∀A f m,aP j A f m→d3 j kC A m (r8 dv j.c) (hm (j.n q A f))
 d:uu j d b
variable{eG:Bool}{nn c7:a0}{dv:List a0}{hZ:dO}{q b:aZ}
theorem arN(cS:qn j eG nn c7 dv hZ q b)(D:aP j A f m):bL j (ZC j.b) A m (fun P S=>j.e (r8 dv j.c) (fun e9 fi=>if e9=I then j.e (eD c7 j.c) (fun d jq=>P (o d) jq) S fi else P U fi) S m.b) (bU (j.n q A f) fun G f=>hS G fun s=>an s (bU (j.n b A f) Bp) (cW U f)):=by
 rw[Aw (w:=fun s f=>an s (bU (j.n b A f) Bp) (cW U f))];refine bL.b (ao:=fun e9 fi P S=>if e9=I then j.e (eD c7 j.c) (fun d jq=>P (o d) jq) S fi else P U fi) (cS.e A f m D) fun s bW hv ba cH bG cs=>?_;obtain rfl:s=hv:=cs;rcases s;·exact bL.e fun P S Z=>Z U ba (ay.c.p _) bG rfl
 ·exact bL.b (ao:=fun d jq P S=>P (o d) jq) (cS.d A bW ba bG) fun d el l bB dd bD fv t a1 dh P S Z=>gb dh fv fun k al dh=>by obtain⟨rfl,rfl⟩:=bw (aJ dh);exact Z (o l) bB (ay.c.p _) bD ⟨l,rfl,al⟩
theorem bL.l{cc:kF bg}{z:bJ V}{w:V→af→bJ dk}{t:Except M dk}(c:bL j kU A m cc z)(b:bU z w=o (t,a1)){P:bg→aT→Prop}(aU:∀k,t=.error k→∀d ae,m.c ae→aP j A a1 ae→eZ j ae k d→S (.ref d) ae.b)(ar:∀d bW l ae,m.c ae→aP j A bW ae→kU ae d l→w d bW=o (t,a1)→P l ae.b):cc P S:=by
 rcases z with _|⟨k|d,bW⟩;·exact bb b
 ·obtain⟨rfl,rfl⟩:=bw (aJ b);exact c _ _ rfl _ _ (aU k rfl)
 ·exact c _ _ rfl _ _ fun l ba cH bG cs=>ar d bW l ba cH bG cs b
def OG(j:b5)(m:ay)(aE:aD)(bk:lq→aT→Prop)(t:Except M (List M))(a1:af):Prop:=match t with|.ok T=>∀J ae cM,m.c ae→aP j cM a1 ae→ci j ae aE→ae.b.heap.PlainList aE J.toArray→dV j.b ae.d T J→bk (.ok .next) ae.b|.error k=>∀d ae cM,m.c ae→aP j cM a1 ae→eZ j ae k d→qs ae.b.heap d→bk (.error (.ref d)) ae.b
inductive wI(j:b5)(m:ay)(p:List M)(be:hM)(eE:Nat→eh→Prop)(aE:aD)(bk:lq→aT→Prop)(w:M→af→bJ (Option M))(r:Nat)(y:aT):Prop|c(i:Nat)(A:List (Option K))(f a1:af)(ae:ay)(T:List M)(J:List aa)(t:Except M (List M))(ah:r=(p.drop i).length)(a4:i≤p.length)(O:m.c ae)(D:aP j A f ae)(bC:iI j ae be)(Mk:ci j ae aE)(dj:eE i ae.b.heap)(i6:ae.b.heap.PlainList aE J.toArray)(H':dV j.b ae.d T J)(j1:T.length≤i)(aW:y=ae.b)(b:ny w (p.drop i) T f=o (t,a1))(Z:OG j m aE bk t a1):wI j m p be eE aE bk w r y
theorem ay.v.l{g e q:ay}(d:g.v e)(G:e.v q):g.v q:=⟨fun e n c=>G.i e n (d.i e n c),fun e n c=>G.k e n (d.k e n c)⟩
theorem ay.v.p{be:hM}(c:∀g,be g→m.i g=U):m.v (m.p be):=⟨fun _ _ c=>c,fun g n b=>(nB fun u=>bb ((c g u).symm.trans b)).trans b⟩
theorem ci.P{be:hM}{g:aD}(w:ci j m g)(c:¬be g):ci j (m.p be) g:=⟨w.d,(nB c).trans w.i,w.p,w.l,w.r⟩
theorem TO{E:cV}{bj:eN}{k:M}{l:aa}(c:ca E bj k l):dV E bj [k] [l]:=⟨rfl,fun i u ad g e=>by
 rcases i with _|i;·obtain rfl:=aJ g;obtain rfl:=aJ e;exact c
 ·exact bb g⟩
theorem aez(aA:pb j.i j.c j.k)(cS:qn j eG nn c7 dv hZ q b){p:List M}{a' aE:aD}{be:hM}{eE:Nat→eh→Prop}(aB:wZ j m a' nn p be eE)(D:aP j A f m)(bC:iI j m be)(Mk:ci j m aE)(jn:¬be aE)(dj:eE 0 m.b.heap)(i6:m.b.heap.PlainList aE #[])(aw:p.length≤cK){t:Except M (List M)}(aU:ny (mY eG (gz j.l dm q) (gz j.l dm b) j.p) p [] f=o (t,a1)){bk:lq→aT→Prop}(Z:OG j m aE bk t a1){ua:a0}{cg:ir}{ap:bc}:kq j.b.i j.i (.compLoop (.ListComp c7 [⟨nn,ua,dv,0⟩] cg ap) 0 (.ref a') (.ref aE) j.c) bk m.b:=by
 refine aeA (wI j m p be eE aE bk (mY eG (gz j.l dm q) (gz j.l dm b) j.p)) rfl (fun r bQ rh=>?_) p.length ⟨0,A,f,a1,m,[],[],t,rfl,jT _,ay.c.p m,D,bC,Mk,dj,i6,dV.e,df _,rfl,aU,Z⟩;obtain⟨i,eM,bW,a1,ba,T,J,t,rfl,a4,cH,bG,y0,yZ,zY,YL,Df,j1,rfl,n1,Z⟩:=rh;have YC:¬Ac j m be aE:=fun v=>by
  rcases v with v|⟨n,v⟩|⟨_,n,v⟩;·exact jn v
  ·exact bb (yZ.d.symm.trans (cH.f _ _ v))
  ·exact bb (yZ.i.symm.trans (cH.z.k _ _ v))
 have ej:∀g,g=aE→ci j ba g:=fun g u=>u▸yZ;have Mr:=bG.aL (be:=(·=aE)) ej;have Ml:iI j (ba.p (·=aE)) be:=fun g u=>⟨(y0 g u).1.P fun q=>jn (q▸u),(y0 g u).2⟩;obtain⟨C8,Ob⟩:=id YL;refine Qi (p:=p) (i:=i) (fun aI=>?_) fun k al aI=>?_;·
  rw[aI]at n1;obtain⟨rfl,rfl⟩:=bw (aJ n1);obtain rfl:i=p.length:=Nat.le_antisymm a4 (Gj.mp aI);refine gs (aB.g eM bW _ Mr Ml zY (bk (.ok .next)) _ fun bB dd bD=>?_) (fun t cE c=>?_) fun _ _ d=>d;·obtain⟨w,aY⟩:=ci.E bD dd rfl yZ Ob;exact Z J (bB.q ba.i) eM (cH.k dd.t) (bD.aw dd fun g u=>(ej g u).i) w ⟨C8,aY⟩ (Df.b dd.f)
  ·obtain⟨rfl,c⟩:=c;exact c
 ·rw[aI]at n1⊢;have N7:∀{bB n_:ay}{Ij:List (Option K)}{sA:af},(ba.p (·=aE)).c bB→aP j eM bW bB→iI j bB be→eE (i+1) bB.b.heap→(bB.p be).c n_→aP j Ij sA n_→∃iE:ay,iE.b=n_.b∧iE.d=n_.d∧ba.c iE∧aP j Ij sA iE∧iI j iE be∧ci j iE aE∧eE (i+1) iE.b.heap∧iE.b.heap.get? aE=o {cls:=.type "list",data:=.seq J.toArray C8}∧∀k d,eZ j n_ k d→eZ j iE k d:=fun{bB n_ Ij sA}dd bD jw n9 m' i2=>by have db:=dd.k m'.t;have dE:=i2.aw m' jw.c;obtain⟨w,aY⟩:=ci.E dE db rfl yZ Ob;exact⟨(n_.q bB.i).q ba.i,rfl,rfl,db.t,dE.aw db fun g u=>(ej g u).i,fun g u=>by obtain⟨w,n,c⟩:=jw.e m' i2 g u;exact⟨w.F db ej,n,c⟩,w,aB.b _ _ _ n9 fun e n v c=>show n_.b.heap.get? e=o n from v.b ((cH.z.l (.p fun g u=>(ej g u).i)).l dd.z) bD jw m' i2 c,aY,fun k d c=>(c.Du m' jw.b).Du db ej⟩
  have YD:∀{dF:M}{d:aD}{iE:ay}{OE:List (Option K)},t=.error dF→ba.c iE→aP j OE a1 iE→eZ j iE dF d→pX j.b.i j.i j.c (fun b am=>bk (.error b) am) (.ref d) iE.b:=fun{dF d iE OE}b4 O D d=>by subst b4;exact E9 D d aA fun am dE e_ s=>Z _ _ _ (cH.k (O.k (ay.c.d _))) dE e_ s
  refine gs (aB.q i k eM bW _ al (cH.z.l (.p fun g u=>(ej g u).i)) Mr Ml zY (fun l Dh=>j.e (oT nn j.c l) (fun _ cE=>j.e (r8 dv j.c) (fun e9 fi=>if e9=I then j.e (eD c7 j.c) (fun d jq=>j.e (eT (.builtin "list.append") [.ref aE,d]) (fun _ nm=>∃z,z<(k::p.drop (i+1)).length∧wI j m p be eE aE bk (mY eG (gz j.l dm q) (gz j.l dm b) j.p) z nm) (pX j.b.i j.i j.c fun b am=>bk (.error b) am) jq) (pX j.b.i j.i j.c fun b am=>bk (.error b) am) fi else∃z,z<(k::p.drop (i+1)).length∧wI j m p be eE aE bk (mY eG (gz j.l dm q) (gz j.l dm b) j.p) z fi) (pX j.b.i j.i j.c fun b am=>bk (.error b) am) cE) (pX j.b.i j.i j.c fun b am=>bk (.error b) am) Dh) _ (pX j.b.i j.i j.c fun b am=>bk (.error b) am) fun l bB dd bD jw n9 fv=>?_) (fun n cE c=>?_) fun _ _ d=>d;·
   refine d4 (show((tn eG k).bind fun cM=>bU (bU (j.n q cM bW) fun G f=>hS G fun s=>an s (bU (j.n b cM f) Bp) (cW U f)) fun l f=>ny (mY eG (gz j.l dm q) (gz j.l dm b) j.p) (p.drop (i+1)) (T++l.toList) f)=o (t,a1)from ?_) fun cM aW zf=>?_;·rw[←n1];show _=bU ((tn eG k).bind _) _;rcases tn eG k with _|cM<;>rfl
   ·refine cS.g eM bW (bB.p be) (.b k) l (bD.aL jw.b) fv _ (cS.c k cM eM bW (by obtain⟨z,_,c,_⟩:=bG.P;exact c) aW) ⟨_,fun _=>False,fun _ _=>False,_⟩ fun he hq gu=>?_;refine bL.l (P:=fun n y=>match n with|some d=>j.e (eT (.builtin "list.append") [.ref aE,d]) (fun _ nm=>∃z,z<(k::p.drop (i+1)).length∧wI j m p be eE aE bk (mY eG (gz j.l dm q) (gz j.l dm b) j.p) z nm) (pX j.b.i j.i j.c fun b am=>bk (.error b) am) y|none=>∃z,z<(k::p.drop (i+1)).length∧wI j m p be eE aE bk (mY eG (gz j.l dm q) (gz j.l dm b) j.p) z y) (arN cS gu) zf (fun dF b4 d n_ m' i2 jr=>?_) fun d sA f2 n_ m' i2 ww MO=>?_;·obtain⟨iE,H,_,L,aR,_,_,_,_,bh⟩:=N7 dd bD jw n9 (hq.k m') i2;exact H▸YD b4 L aR (bh _ _ jr)
    ·obtain⟨iE,H,o5,L,aR,cT,dB,d2,et,_⟩:=N7 dd bD jw n9 (hq.k m') i2;rw[←H];rcases d with _|dF;·obtain rfl:f2=U:=ww;exact⟨_,pR _,i+1,cM,sA,a1,iE,T,J,t,rfl,(eg.mp al).1,cH.k L,aR,cT,dB,d2,⟨C8,et⟩,Df.b L.f,yK j1,rfl,by rw[←MO];show _=ny _ _ (T++[]) _;rw[hE],Z⟩
     ·obtain⟨ad,rfl,cu⟩:=ww;refine wpAny_list_append_plain ⟨C8,et⟩ (fun bl YK ht=>?_) ?_;·
       have U4:=ay.c.d (m:=iE) {iE.b with heap:=bl};refine⟨_,pR _,i+1,cM,sA,a1,iE.k {iE.b with heap:=bl},T++[dF],J++[ad],t,rfl,(eg.mp al).1,cH.k (L.k U4),aR.av (am:={iE.b with heap:=bl}) (fun g n kv u=>SameBut.b ht (fun q=>kv (q▸dB)) u) ⟨rfl,rfl,rfl⟩,fun g u=>⟨(cT g u).1.s _,by obtain⟨n,c⟩:=(cT g u).2;exact⟨n,SameBut.b ht (fun q=>jn (q▸u)) c⟩⟩,dB.s _,aB.b _ _ _ d2 fun e n v u=>SameBut.b ht (fun q=>YC (q▸v)) u,?_,(Df.b L.f).c (TO (o5▸cu)),?_,rfl,MO,Z⟩;·exact(List.push_toArray J ad▸YK:)
       ·rw[fy];exact kn j1
      ·exact io (show J.length≤cK from by rw[Df.1];exact bt j1 (bt a4 aw))
  ·obtain⟨l,rfl,c⟩:=c;exact c
end
end
section
open PySem PySem.W PyProof.Rows PySem.Calls
noncomputable def rP(aL:dQ)(bM:List (aq×lp)):List (aq×aD):=((hy bM).filterMap fun d=>(aL.cells.lookup d).map fun g=>(d,g)).reverse
theorem aiV{d:aq}{t:List (aq×lp)}:hy ((d,.free)::t)=d::hy t:=vN rfl
theorem aiW{d:aq}{v:lp}{t:List (aq×lp)}(c:(v==.free)=C):hy ((d,v)::t)=hy t:=Gk (by rw[c];rfl)
noncomputable abbrev D2(aL:dQ)(d:aq×lp)(t:List (aq×aD)):Sem (ForInStep (List (aq×aD))):=if(d.2==Cr)=I then do let g←cellOf aL d.1;d6 (mq ((d.1,g)::t))else d6 (mq t)
theorem aek{aL:dQ}(bM:List (aq×lp)):∀(aE:List (aq×aD)),(∀d∈hy bM,∃g,aL.cells.lookup d=o g)→forIn bM aE (D2 aL)=d6 (((hy bM).filterMap fun d=>(aL.cells.lookup d).map fun g=>(d,g)).reverse++aE):=by induction bM with|nil=>exact fun aE _=>rfl|cons k bM ak=>
 obtain⟨d,v⟩:=k;intro aE d0;rw[Gp];rcases ar:(v==Cr)with _|_;·rw[aiW ar]at d0⊢;have:D2 aL (d,v) aE=d6 (mq aE):=if_neg (by rw[ar];decide);rw[this,pure_bind];exact ak _ d0
 ·obtain rfl:=beq_iff_eq.mp ar;rw[aiV]at d0⊢;obtain⟨g,aY⟩:=d0 d (.head _);have bf:cellOf aL d=d6 g:=by unfold cellOf;rw[aY]
  have:D2 aL (d,.free) aE=d6 (mq ((d,g)::aE)):=by show(do let g←cellOf aL d;d6 (mq ((d,g)::aE)):Sem _)=_;rw[bf,pure_bind]
  rw[this,pure_bind,vN (b:=(d,g)) (by rw[aY];rfl),List.reverse_cons,kQ];exact ak _ fun G a8=>d0 G (.tail _ a8)
theorem D3{cg:ir}{aL:dQ}(c:∀d∈hy cg.names,∃g,aL.cells.lookup d=o g):closureFor cg aL=d6 (rP aL cg.names):=by refine lU (show _=(forIn cg.names [] (D2 aL)>>=fun f0=>d6 f0)from rfl) ?_;rw[aek cg.names [] c,hE];rfl
theorem anD{d:aq}{g:aD}{p:List (aq×aD)}(c:p.lookup d=o g):(d,g)∈p:=by induction p with|nil=>exact bb c|cons k p ak=>
 obtain⟨G,e⟩:=k;rw[pK]at c;rcases u:(d==G)with _|_;·rw[u]at c;exact .tail _ (ak c)
 ·rw[u]at c;rw[beq_iff_eq.mp u,aJ c];exact .head _
theorem amX{d:aq}{g:aD}{p:List (aq×aD)}(c:(d,g)∈p):∃g,p.lookup d=o g:=by induction p with|nil=>exact nomatch c|cons k p ak=>
 obtain⟨G,e⟩:=k;rw[pK];rcases u:(d==G)with _|_;·exact ak ((gQ.mp c).resolve_left fun b=>beq_eq_false_iff_ne.mp u (congrArg (·.1) b))
 ·exact⟨e,rfl⟩
theorem Q1{aL:dQ}{bM:List (aq×lp)}{d:aq}{g:aD}:(d,g)∈rP aL bM↔d∈hy bM∧aL.cells.lookup d=o g:=by unfold rP;rw[List.mem_reverse,vT];refine⟨?_,by rintro⟨H,L⟩;exact⟨d,H,by rw[L];rfl⟩⟩;rintro⟨G,a8,c⟩;obtain⟨e,aN,b⟩:=nS.mp c;obtain⟨rfl,rfl⟩:=bw b;exact⟨a8,aN⟩
theorem Q0{aL:dQ}{bM:List (aq×lp)}{d:aq}{g:aD}(c:(rP aL bM).lookup d=o g):aL.cells.lookup d=o g:=(Q1.mp (anD c)).2
theorem Q2{aL:dQ}{bM:List (aq×lp)}{d:aq}(aH:d∈hy bM){g:aD}(c:aL.cells.lookup d=o g):∃g,(rP aL bM).lookup d=o g:=amX (Q1.mpr ⟨aH,c⟩)
noncomputable def b5.r(j:b5)(cg:ir)(cL:aD)(bM:List aq)(bq:Bool):b5:=⟨j.b,j.i,compEnvC cg (rP j.c cg.names) cL j.c,cL,j.k,bM,cond bq [] j.x,cond bq [] j.p,j.l⟩
structure qo(aL:dQ)(cg:ir):Prop where
 c:cg.kind=.function
 n:∀G∈cg.names,G.2≠.cell
 k:∀G∈cg.names,G.2=.local→cg.names.lookup G.1=o .local
 e:∀d∈hy cg.names,∃g,aL.cells.lookup d=o g
section
variable{j:b5}{au:dU}{A:List (Option K)}{f a1:af}{m:ay}{S:aa→aT→Prop}{bq eG:Bool}{nn c7:a0}{dv:List a0}{hZ:dO}{q b i:aZ}{cg:ir}{l:aa}
def wW(j:b5)(A:List (Option K))(m:ay)(kU:aa→aD→lq→aT→Prop)(t:Except M (List M))(a1:af):Prop:=match t with|.ok T=>∀aE cL z ae,m.c ae→aP j A a1 ae→ci j ae cL→ae.b.heap.Ns cL z→ca j.b ae.d (.f T) (.ref aE)→kU (.ref aE) cL (.ok .next) ae.b|.error k=>∀aE cL z d ae,m.c ae→aP j A a1 ae→ci j ae cL→ae.b.heap.Ns cL z→eZ j ae k d→qs ae.b.heap d→kU (.ref aE) cL (.error (.ref d)) ae.b
theorem P0(aA:pb j.i j.c j.k)(g7:qo j.c cg){bM:List aq}(cS:∀cL,qn (j.r cg cL bM bq) eG nn c7 dv hZ q b){p:List M}{a':aD}{be:hM}{eE:Nat→eh→Prop}(aB:∀cL am,wZ (j.r cg cL bM bq) (m.l j bq am) a' nn p be eE)(D:aP j A f m)(bC:iI j m be)(dj:eE 0 m.b.heap)(aw:p.length≤cK){t:Except M (List M)}(aU:ny (mY eG (gz j.l dm q) (gz j.l dm b) (cond bq [] j.p)) p [] (cond bq [] f)=o (t,a1)){kU:aa→aD→lq→aT→Prop}(Z:wW j A m kU t (cond bq f a1)){ua:a0}{ap:bc}:j.e (newList []) (fun aE fi=>j.e (newFunctionEnv cg j.c.globals (rP j.c cg.names) [] j.c.qual U .none (o j.c)) (fun tT jq=>kq j.b.i j.i (.compStart (.ListComp c7 [⟨nn,ua,dv,0⟩] cg ap) 0 (.ref a') aE {tT with scope:=relabel cg j.c}) (kU aE tT.locals) jq) S fi) S m.b:=by
 refine GY (wpAny_newFunctionEnv g7.n (fun _ a8=>nomatch a8) (fun eV Hw CZ=>?_) g7.c);dsimp only at Hw CZ⊢;generalize Ha:m.b.heap.push {cls:=.type "list",dict:=U,data:=.seq ([]:List aa).toArray}=gS at Hw CZ⊢;have eF:gS.objs.size=m.b.heap.objs.size+1:=by rw[←Ha,Heap.size_push]
 have G':gS.objs.size≠m.b.heap.objs.size:=by rw[eF];exact Nat.succ_ne_self _
 have ro:∀e n,m.b.heap.get? e=o n→eV.get? e=o n:=fun e n b=>CZ.extBut e n (by rw[eF];exact ll (Co (h9 b))) (gr _ (Ha▸gr _ b));have WO:eV.PlainList m.b.heap.objs.size #[]:=⟨_,CZ.extBut _ _ (sb G') (gr _ (Ha▸ko _ rfl))⟩;have CH:ci j m gS.objs.size:=D.ap (by rw[eF];exact m5 _);have dg:ci j m m.b.heap.objs.size:=D.ap (df _);generalize zz:({m.b with heap:=eV,toks:=m.b.toks+([]:List (aq×aa)).length}:aT)=am;have dE:aP (j.r cg gS.objs.size bM bq) (Ci bM.length U) (cond bq [] f) (m.l j bq am):=by
  subst zz;refine D.aQ ro ⟨rfl,rfl,rfl⟩ CH (fun g c=>.inl c) (fun g c=>c) ⟨_,Hw,List.length_replicate,fun i d aH=>⟨fun l bE=>?_,fun _=>rfl⟩⟩ ?_;·obtain⟨_,bE⟩:=eg.mp bE;rw[List.getElem_replicate]at bE;exact bb bE
  ·rcases bq;·exact⟨D.Y.1,fun i v d g H L aR=>D.Y.2 i v d g H L (Q0 aR)⟩
   ·exact⟨rfl,fun i v d g H=>bb H⟩
 have hr:∀{g:aD},ci j m g→g≠gS.objs.size→ci (j.r cg gS.objs.size bM bq) (m.l j bq am) g:=fun{g}w c=>⟨w.d,(nB fun u=>u.elim w.p fun u=>w.l u.2).trans w.i,c,fun u=>w.l (Av u),w.r⟩;have n7:∀{g:aD}{n:cm},m.b.heap.get? g=o n→g<m.b.heap.objs.size:=fun c=>h9 c;have N_:∀e n,m.b.heap.get? e=o n→am.heap.get? e=o n:=by subst zz;exact ro
 have NZ:kq j.b.i j.i (.compLoop (.ListComp c7 [⟨nn,ua,dv,0⟩] cg ap) 0 (.ref a') (.ref m.b.heap.objs.size) (j.r cg gS.objs.size bM bq).c) (kU (.ref m.b.heap.objs.size) gS.objs.size) am:=by
  refine aez (j:=j.r cg gS.objs.size bM bq) (m:=m.l j bq am) ⟨aA.c,aA.e⟩ (cS _) (aB _ _) dE (fun g u=>?_) (hr dg (sb G')) (fun u=>?_) ((aB gS.objs.size am).b _ _ _ dj fun e n _=>N_ e n) (by subst zz;exact WO) aw aU ?_;·obtain⟨w,n,c⟩:=bC g u;exact⟨hr w (by rw[eF];exact ll (Co (n7 c))),n,N_ _ _ c⟩
  ·obtain⟨_,n,c⟩:=bC _ u;exact tE _ (n7 c)
  ·have oX:∀{ae:ay}{cM:List (Option K)},(m.l j bq am).c ae→aP (j.r cg gS.objs.size bM bq) cM a1 ae→m.c (m.r ae bq)∧aP j A (cond bq f a1) (m.r ae bq)∧ci j (m.r ae bq) gS.objs.size∧∃z,(m.r ae bq).b.heap.Ns gS.objs.size z:=fun{ae cM}O bD=>⟨O.w,D.aC (dR:=j.r cg gS.objs.size bM bq) rfl CH (fun g c=>.inl c) (fun g c=>c) O bD,ci.R (dR:=j.r cg gS.objs.size bM bq) CH CH.r O bD,by obtain⟨z,c,_⟩:=bD.P;exact⟨z,c⟩⟩;rcases t with k|T;·intro d ae cM O bD jr um;obtain⟨db,gu,w,z,a9⟩:=oX O bD;exact Z _ _ z d (m.r ae bq) db gu w a9 (eZ.Ir (dR:=j.r cg gS.objs.size bM bq) D rfl (fun g c=>c) O jr) um
   ·intro J ae cM O bD w⟨r,aY⟩H';obtain⟨db,gu,cB,z,a9⟩:=oX O bD;have ha:ci j (m.r ae bq) m.b.heap.objs.size:=ci.x (dR:=j.r cg gS.objs.size bM bq) D (fun g c=>c) O w;refine Z _ _ z ((m.r ae bq).t m.b.heap.objs.size _) (db.k (.r _ ha.d)) (gu.ax ha aY) ⟨qO cB.d G',cB.i,cB.p,cB.l,cB.r⟩ a9 (.rD J _ oF ⟨r,rfl⟩ H'.1 fun Q k l g e=>(H'.2 Q k l g e).mG (ay.c.r _ ha.d).f)
 subst zz;exact codeAny_compStart_list NZ ((aB gS.objs.size {m.b with heap:=eV,toks:=m.b.toks+([]:List (aq×aa)).length}).r 0 _ _ _ ((aB gS.objs.size m.b).b _ _ _ dj fun e n _=>ro e n) NZ)
end
end
section
open PySem PySem.W PyProof.Rows PySem.Calls
section
variable{j:b5}{au:dU}{A:List (Option K)}{f a1 bW:af}{m ba:ay}{S:aa→aT→Prop}{bq eG:Bool}{nn c7 a':a0}{dv:List a0}{hZ:dO}{q b i:aZ}{cg:ir}{l:aa}{d:K}{k:M}{g:aD}{bl:eh}{cL:aD}{z:aq→Option aa}
theorem KP{g:aD}{n:cm}{N:Array aa}{c:eh}(p9:c.Ns cL z)(aj:c.get? g=o n)(aI:n.data=.fields N):g≠cL:=fun u=>by obtain⟨cf,az,dn,H,L,_⟩:=p9;obtain rfl:=aJ (H.symm.trans (u▸aj));exact Data.noConfusion (L.symm.trans aI)
theorem eZ.Iq{am:aT}(d:eZ j m k g)(p9:m.b.heap.Ns cL z)(ht:vX cL m.b.heap am.heap):eZ j (m.k am) k g:=by obtain⟨w,eL,N,aU,aI,dB,d2,oX⟩:=d.Aa;exact oX am eL N (SameBut.b ht (KP p9 aU aI) aU) rfl rfl aI dB (d2.imp id (by rintro⟨aB,fS,aQ,s⟩;exact⟨aB,fS,aQ,s.d,s.l,s.i.s _,SameBut.b ht (KP p9 s.e s.c) s.e,s.n,s.c,s.g⟩))
theorem qs.c{c:eh}(d:qs c g)(p9:c.Ns cL z)(ht:vX cL c bl):qs bl g:=by obtain⟨eL,N,aB,c_,e3,gT⟩:=d;exact⟨eL,N,aB,SameBut.b ht (KP p9 c_ e3) c_,e3,gT⟩
theorem aP.aO(D:aP j A f m)(w:ci j m cL)(ht:vX cL m.b.heap bl):aP j A f (m.k {m.b with heap:=bl}):=D.av (am:={m.b with heap:=bl}) (fun g n kv u=>SameBut.b ht (fun q=>kv (q▸w)) u) ⟨rfl,rfl,rfl⟩
noncomputable def Kz(t:Except M (List M)):Except M K:=match t with|.ok p=>.ok (.b (.f p))|.error k=>.error k
theorem Sy{R:Prop}{z:bJ (List M)}{t:Except M K}(b:bU z u7=o (t,a1))(v:∀ds,z=o (ds,a1)→t=Kz ds→R):R:=by
 rcases z with _|⟨k|p,bW⟩;·exact bb b
 ·obtain⟨rfl,rfl⟩:=bw (aJ b);exact v _ rfl rfl
 ·obtain⟨rfl,rfl⟩:=bw (aJ b);exact v _ rfl rfl
theorem P1{R:Prop}{E:cV}{w:M→af→bJ (Option M)}{t:Except M K}(b:uJ C w d f=o (t,a1))(aH:b7 E m d l)(v:∀k p ds,ca E m.d k l→s9 k=o p→p.length≤cK→ny w p [] f=o (ds,a1)→t=Kz ds→R):R:=gb b aH fun k al b=>d4 b fun p aw b=>d4 b fun cG kt b=>eO kt fun c kt=>by obtain rfl:=kt;exact Sy b fun ds H L=>v k p ds al aw c H L
theorem PZ{P:aa→aT→Prop}{t:Except M K}{ds:Except M (List M)}(b4:t=Kz ds)(Z:ux j (b7 j.b) A m P S t a1):wW j A m (fun aE cL=>compPost j.b.i j.i S U P aE cL) ds a1:=by
 subst b4;rcases ds with k|T;·exact fun aE cL z d ae O D w a9 jr um=>⟨z,a9,fun bl ht tT _=>Th (D.aO w ht) (jr.Iq a9 ht) (um.c a9 ht) fun am dE e_ _=>Z _ _ (O.k (ay.c.d am)) dE e_⟩
 ·exact fun aE cL z ae O D w a9 o7=>⟨z,a9,fun bl ht=>Z (.ref aE) _ (O.k (ay.c.d _)) (D.aO w ht) o7⟩
theorem wW.c{kU:aa→aD→lq→aT→Prop}{t:Except M (List M)}(O:m.c ba)(Z:wW j A m kU t a1):wW j A ba kU t a1:=by
 rcases t with k|T;·exact fun aE cL z d ae db=>Z aE cL z d ae (O.k db)
 ·exact fun aE cL z ae db=>Z aE cL z ae (O.k db)
abbrev AB(j:b5)(cg:ir)(b:a0)(kU:aa→aD→lq→aT→Prop)(S:aa→aT→Prop)(a':aa)(y:aT):Prop:=j.e (newList []) (fun aE fi=>j.e (newFunctionEnv cg j.c.globals (rP j.c cg.names) [] j.c.qual U .none (o j.c)) (fun tT jq=>kq j.b.i j.i (.compStart b 0 a' aE {tT with scope:=relabel cg j.c}) (kU aE tT.locals) jq) S fi) S y
theorem PY(aA:dC au j)(g7:qo j.c cg){d:aq}{fd ap:bc}(cS:∀cL,qn (j.r cg cL [d] C) C (.Name d fd) c7 dv hZ q b)(D:aP j A f m){p:List M}(a4:s9 k=o p)(aw:p.length≤cK)(al:ca j.b m.d k l){t:Except M (List M)}(aU:ny (mY C (gz j.l dm q) (gz j.l dm b) j.p) p [] f=o (t,a1)){kU:aa→aD→lq→aT→Prop}(Z:wW j A m kU t a1):j.e (pY l) (AB j cg (.ListComp c7 [⟨.Name d fd,a',dv,0⟩] cg ap) kU S) S m.b:=R4 (s:=.Name d fd) aA.i D a4 al (fun _ _=>rfl) fun a' be eE ba cH bG bC dj aB=>P0 (bq:=C) aA.p g7 cS (fun cL am=>aB _ _ _ _ _ _ _ _ fun _ _ c=>c) bG bC dj aw aU (Z.c cH)
theorem PW(aA:dC au j)(g7:qo j.c cg){d:aq}{fd ap:bc}(sr:ov a'=C)(aX:c4 j a' i)(cS:∀cL,qn (j.r cg cL [d] C) C (.Name d fd) c7 dv hZ q b):c4 j (.ListComp c7 [⟨.Name d fd,a',dv,0⟩] cg ap) (.u b q i C):=.k (fun _=>rfl) fun A f m D=>by show d3 j _ _ _ _ (bU (j.n i A f) fun d f=>uJ C (mY C (gz j.l dm q) (gz j.l dm b) j.p) d f);refine bL.c (fun P S c=>Mf (use:=U) rfl (JJ sr) (D3 g7.e) g7.c g7.k c) ((aX.e A f m D).b (ao:=fun l bQ P S=>j.e (pY l) (AB j cg (.ListComp c7 [⟨.Name d fd,a',dv,0⟩] cg ap) (fun aE cL=>compPost j.b.i j.i S U P aE cL) S) S bQ) fun G bW l ba cH bG cs t a1 dh P S Z=>?_);exact P1 dh cs fun k p ds al a4 aw aU b4=>PY aA g7 cS bG a4 aw al aU (PZ b4 Z)
theorem acX{V bg:Type}{z:bJ V}{w:V→af→bJ bg}{v:bg→af→Option bV}:gy (bU z w) v=gy z fun d f=>gy (w d f) v:=by rcases z with _|⟨k|d,f⟩<;>rfl
theorem aaf(aA:dC au j)(g7:qo j.c cg){d G:aq}{fd ic ap Ok:bc}{Q:Nat}(sr:ov a'=C)(aX:c4 j a' i)(cS:∀cL,qn (j.r cg cL [d] C) C (.Name d fd) c7 dv hZ q b)(aR:nu j (.Name G ic) (.b Q)):lG j (.Assign [.Name G ic] (.ListComp c7 [⟨.Name d fd,a',dv,0⟩] cg ap) Ok) (.e (.b Q) (.u b q i C)):=fun A f m D=>by
 obtain⟨e,aN⟩:∃e,swapsWith (.ListComp c7 [⟨.Name d fd,a',dv,0⟩] cg ap) (o (.Name G ic)) Ok.line j.c=d6 e:=⟨_,rfl⟩;rcases e;·refine cq.b (fun u c=>GS (Q:=kE u) c aN rfl) (cq.c (w:=fun l f=>j.u (.b Q) l A f) (ao:=fun l bQ u=>j.e (assignAll l ((q5 [.Name G ic] j.c).map (·.2))) (fun _ am=>u.e am) u.c bQ) ((PW aA g7 sr aX cS).e A f m D) fun e_ bW l ba cH bG cs=>?_);rw[Aq (show fw (.Name G ic)=C from rfl)];exact aR A bW ba e_ l bG cs
 ·show cq j m _ (gy (bU (j.n i A f) fun d f=>uJ C (mY C (gz j.l dm q) (gz j.l dm b) j.p) d f) fun l f=>j.u (.b Q) l A f);rw[acX];refine cq.b (tR:=fun u=>j.e (eD a' j.c) (fun l bQ=>j.e (pY l) (AB j cg (.ListComp c7 [⟨.Name d fd,a',dv,0⟩] cg ap) (fun aE cL=>compPost j.b.i j.i u.c (o (oT (.Name G ic) j.c)) (fun _ am=>u.e am) aE cL) u.c) u.c bQ) u.c m.b) (fun u c=>?_) (cq.c (ao:=fun l bQ u=>j.e (pY l) (AB j cg (.ListComp c7 [⟨.Name d fd,a',dv,0⟩] cg ap) (fun aE cL=>compPost j.b.i j.i u.c (o (oT (.Name G ic) j.c)) (fun _ am=>u.e am) aE cL) u.c) u.c bQ) (aX.e A f m D) fun gk bW l ba cH bG cs n aU u Z=>?_);·rw[exec_Assign_Name_used _ _ _ _ aN];refine bo (p1 (bo ?_));show j.e (do let _←comprehension (.ListComp c7 [⟨.Name d fd,a',dv,0⟩] cg ap) cg j.c _ (newList []) C (eD a' j.c) (o (oT (.Name G ic) j.c))) _ _ m.b;exact bo (gs (Mf (use:=o (oT (.Name G ic) j.c)) (Q:=fun _ am=>u.e am) rfl (JJ sr) (D3 g7.e) g7.c g7.k c) (fun _ am cw=>c9 (c9 cw)) fun _ _ b=>b)
  ·rcases bf:uJ C (mY C (gz j.l dm q) (gz j.l dm b) j.p) gk bW with _|⟨t,el⟩;·rw[bf]at aU;exact bb aU
   ·rw[bf]at aU;refine P1 bf cs fun k p ds al a4 aw cN b4=>PY aA g7 cS bG a4 aw al cN ?_;subst b4;rcases ds with dF|T;·obtain rfl:=aJ aU;exact fun aE cL z d ae O D w a9 jr um=>⟨z,a9,fun bl ht tT _=>Th (D.aO w ht) (jr.Iq a9 ht) (um.c a9 ht) fun am dE e_ _=>Z _ _ A (O.k (ay.c.d am)) dE e_⟩
    ·intro aE cL z ae O D w a9 o7;have jn:∀g,g=cL→ci j ae g:=fun g u=>u▸w;refine aR A el (ae.p (·=cL)) (.b (.f T)) (.ref aE) (D.aL jn) o7 n aU ⟨fun l4=>∃z,l4.heap.Ns cL z∧∀bl,vX cL l4.heap bl→u.e {l4 with heap:=bl},fun _=>False,fun _ _=>False,u.c⟩ ?_;change(if Q<A.length then o (bV.b (A.set Q (o (.b (.f T)))) el)else U)=o n at aU;refine Mine.eO aU fun _ aU=>?_;subst aU;intro he hq gu;obtain⟨YE,az,dn,H,L⟩:=id a9;obtain⟨Wg,Wm⟩:=ci.E gu hq rfl w H;exact⟨z,⟨YE,az,dn,Wm,L⟩,fun bl ht=>Z ((he.q ae.i).k {he.b with heap:=bl}) ((O.k hq.t).k (ay.c.d _)) ((gu.aw hq fun g u=>(jn g u).i).aO Wg ht)⟩
end
end
section
open PySem PySem.W PyProof.Rows PySem.Calls
section
variable{j:b5}{au:dU}{A:List (Option K)}{f a1 bW:af}{m ba:ay}{S:aa→aT→Prop}{c7 iD:a0}{hZ:dO}{q b i:aZ}{cg:ir}{l:aa}{d:K}{k:M}{p:List M}
theorem ahR{p:List M}:∀{r:Int}{i:Nat}{u:M},(qx p r)[i]?=o u→∃k,p[i]?=o k∧u=.j [.b (r+i),k]:=by induction p with|nil=>exact fun c=>bb c|cons k p ak=>
 intro r i u c;rcases i with _|i;·exact⟨k,rfl,by rw[←aJ c,Int.natCast_zero,Int.add_zero]⟩
 ·obtain⟨dF,H,L⟩:=ak (show(qx p (r+1))[i]?=o u from c);exact⟨dF,H,by rw[L,Int.natCast_succ,Int.add_comm (i:Int) 1,Int.add_assoc]⟩
theorem Qn{p:List M}:∀{r:Int},(qx p r).length=p.length:=by induction p with|nil=>exact rfl|cons k p ak=>exact congrArg pT ak
abbrev AI(b a':aD)(e:aD):Prop:=e=b∨e=a'
abbrev Jv(b a' g:aD)(N:List aa)(i:Nat)(c:eh):Prop:=(∃ro,IsEnum c b a' i ro)∧c.IsListIter a' g i∧c.IsList g N.toArray
theorem D'{b a' e:aD}:e∈[b,a']↔AI b a' e:=by rw[gQ,m4]
theorem Ud(d0:j.i.handled=U){b a' g:aD}{N:List aa}(W9:b≠a')(CU:g≠b)(Xn:g≠a')(aW:dV j.b m.d p N)(n5:Ac j m (AI b a') g){MI:List a0}{MH:Nat}{MK:bc}:wZ j m b (.Tuple MI MH MK) (qx p 0) (AI b a') (Jv b a' g N):=by
 have cc:=WalksT.enumerate (prog:=j.b.d) (w:=j.b.e) d0 b a' g W9 CU Xn N.toArray;have ia:N.toArray.size=(qx p 0).length:=by rw[Qn];exact aW.1
 have wn:∀{i c e},Jv b a' g N i c→AI b a' e→∃n,c.get? e=o n:=fun{i c e}dj u=>by
  obtain⟨⟨ro,H⟩,⟨n,L,_⟩,_⟩:=dj;rcases u with rfl|rfl;·exact⟨_,H⟩
  ·exact⟨n,L⟩
 exact{
  q:=fun i k A f ba al O D bC dj P S yY Z=>cc.item i ba.b _ _ (by rw[ia];exact(eg.mp al).1) dj fun aB gZ bl cz bE MX bu a9 ar=>⟨.ref aB,rfl,cc.go MI MH MK i aB _ _ _ a9 fun zm Om Nk=>by
   have M0:=cc.apart i aB _ a9;obtain⟨fS,gY,dc,r,j5⟩:=bu;have Hq:∀e n,¬ci j ba e→ba.b.heap.get? e=o n→zm.get? e=o n:=fun e n kv u=>Nk e n (fun q=>kv (bC e (D'.mp q)).1) (ar e n (fun q=>kv (bC e (D'.mp q)).1) u);have dE:=D.av (am:={ba.b with heap:=zm,toks:=cz}) Hq ⟨rfl,rfl,rfl⟩;have lo:ci j (ba.k {ba.b with heap:=zm,toks:=cz}) aB:=(D.ap MX).s _;have db:=(ay.c.d (m:=ba) {ba.b with heap:=zm,toks:=cz}).k (ay.c.r fS lo.d);obtain⟨u,cw,rfl⟩:=ahR al;obtain⟨s,d,aH,rfl⟩:=bE;refine Z _ ((ba.k {ba.b with heap:=zm,toks:=cz}).t aB fS) db (dE.ax lo (Nk aB fS M0 gY)) (fun e u=>?_) Om (.wU [.int i s,d] fS oF ⟨dc,r,j5⟩ rfl fun Q k ad g e=>?_);·have w:=(bC e u).1;exact⟨⟨qO w.d fun q=>M0 (D'.mpr (q▸u)),w.i,w.p,w.l,w.r⟩,wn Om u⟩
   ·rcases Q with _|_|Q;·obtain rfl:=aJ g;obtain rfl:=aJ e;rw[Int.zero_add];exact .ns _ _
    ·obtain rfl:=aJ g;obtain rfl:=aJ e;exact((aW.2 i u d cw (Gu.symm.trans aH)).mG O.i).mG db.f
    ·exact bb g⟩,b:=fun i c bl dj ar=>cc.frame i c bl dj fun e aN n u=>ar e n (by
   rcases gQ.mp aN with u|aN;·exact .inl (.inl u)
   ·rcases gQ.mp aN with u|aN;·exact .inl (.inr u)
    ·rw[m4.mp aN];exact n5) u,g:=fun A f ba D bC dj P S Z=>cc.done ba.b _ _ (ia▸dj) fun bl cz ar=>⟨rfl,Z _ (ay.c.d _) (D.av (am:={ba.b with heap:=bl,toks:=cz}) (fun g n kv u=>ar g n (fun q=>kv (bC g (D'.mp q)).1) u) ⟨rfl,rfl,rfl⟩)⟩,r:=cc.self}
theorem Qm(D:aP j A f m){g:aD}{N:List aa}(aj:wO m.b.heap g N){P:aa→aT→Prop}(Z:∀b a' ba,b≠a'→g≠b→g≠a'→m.c ba→ba.d=m.d→ba.f=m.f→aP j A f ba→iI j ba (AI b a')→Jv b a' g N 0 ba.b.heap→P (.ref b) ba.b):j.e (eT (.type "enumerate") [.ref g]) (fun l bQ=>j.e (pY l) P S bQ) S m.b:=by
 obtain⟨r,aj⟩:=aj;refine call_enumerate_list ⟨_,aj,rfl,r,rfl⟩ fun bl ri Ni ia ar=>wpAny_pyIter_enum ri ?_;have mw:=h9 aj;refine Z _ m.b.heap.objs.size (m.k {m.b with heap:=bl}) (Nat.succ_ne_self _) (ll (Co mw)) (ll mw) (ay.c.d _) rfl rfl (D.aA (am:={m.b with heap:=bl}) ar ⟨rfl,rfl,rfl⟩) (fun e u=>?_) ⟨⟨_,ri⟩,Ni,⟨_,ar _ _ aj,rfl,r,rfl⟩⟩;rcases u with rfl|rfl;·exact⟨(D.ap (m5 _)).s _,_,ri⟩
 ·exact⟨(D.ap (df _)).s _,by obtain⟨n,c,_⟩:=Ni;exact⟨n,c⟩⟩
theorem alY(c:xY l=I):l=.type "enumerate":=by induction l with|type r=>exact congrArg _ (beq_iff_eq.mp c)|_=>exact nomatch c
theorem Qo(aA:dC au j)(D:aP j A f m){w:aq}{jy ap:bc}(t3:hi w=C)(ar:au.b.lookup w=o .globalImplicit)(bE:pn au.c w=o l)(ri:xY l=I)(gX:fw iD=C){P:aa→aT→Prop}(c:j.e (eD iD j.c) (fun l bQ=>j.e (eT (.type "enumerate") [l]) P S bQ) S m.b):j.e (eD (.Call (.Name w jy) [iD] [] ap) j.c) P S m.b:=by obtain rfl:=alY ri;rw[Ja rfl];refine bo (GN aA.k (aA.n ar nofun) (Kt D.R aA.r aA.t (aA.s▸bE) ?_) (sU t3));show j.e (v3 ap (.type "enumerate") [] (lX ap (kT [iD] j.c)) []) _ _ _;rw[vC gX];exact PySem.callWith_type rfl (xe rfl (yN (gs c (fun l bQ eV=>tI eV) fun _ _ d=>d)))
theorem aiS(aA:dC au j){w:aq}{jy n4 ap d7:bc}{aQ:List a0}{cz:Nat}{e:List cX}{g:a5}(t3:hi w=C)(ar:au.b.lookup w=o .globalImplicit)(bE:pn au.c w=o l)(ri:xY l=I)(gX:fw iD=C)(aX:c4 j iD i)(H:nu j (.Tuple aQ cz d7) hZ)(L:ol j e g):lG j (.For (.Tuple aQ cz d7) (.Call (.Name w jy) [iD] [] n4) e [] ap) (.i I hZ i g):=fun A f m D=>cq.b (fun u c=>wpAny_For (Q:=kE u) (Qo aA D t3 ar bE ri gX c) (fun d=>rfl)) (cq.c (w:=fun d f=>(sZ I d).bind fun p=>jd (fun dF A f=>fG (j.u hZ (.b dF) A f) (j.q g)) p A f) (ao:=fun l bQ u=>j.e (eT (.type "enumerate") [l]) (fun d bQ=>j.e (pY d) (fun a' cE=>kq j.b.i j.i (.forLoop (.Tuple aQ cz d7) a' e [] j.c) (fun t am=>match t with|.ok w=>kE u w am|.error b=>yS j.b.i j.i j.c u.c b am) cE) u.c bQ) u.c bQ) (aX.e A f m D) fun d bW l ba cH bG cs n b u Z=>d4 b fun p aw b=>gb aw cs fun k al aw=>Lc aw al fun cG gW aw=>eO aw fun jA aw=>by obtain⟨v1,N,r,aj,aW⟩:=gW;subst aw;exact Qm bG ⟨r,bG.p _ _ aj⟩ fun dh a' bB l3 rn C5 dd o5 _ bD jw n9=>QX aA (Ud aA.i l3 rn C5 (o5▸aW) (.inr (.inl ⟨_,o5▸aj⟩))) H L bD jw n9 b (Z.b dd))
theorem am6(D:aP j A f m)(b:mN f d=o p)(t:b7 j.b m d l):∃g N,l=.ref g∧wO m.b.heap g N∧dV j.b m.d p N∧((∃n,m.d g=o n)∨iP m.f g):=by induction d using K.casesOn with
 |b k=>induction k using M.casesOn with|f p=>obtain rfl:=aJ b;obtain⟨g,N,r,aj,u⟩:=qM t;exact⟨g,N,rfl,⟨r,D.p _ _ aj⟩,u,.inl ⟨_,aj⟩⟩|_=>exact bb b
 |c v=>exact tg D b t fun k n bE al aj t b=>by induction t with|mF aU N H u=>obtain rfl:=aJ b;exact⟨_,N,bE,H,u,.inr ⟨k,dZ al,.inl rfl⟩⟩|_=>exact bb b
 |d=>exact bb b
theorem aer(aA:dC au j)(g7:qo j.c cg){w d G:aq}{jy n4 fd ic ap d7:bc}{cz:Nat}{dv:List a0}(t3:hi w=C)(ar:au.b.lookup w=o .globalImplicit)(bE:pn au.c w=o l)(ri:xY l=I)(gX:fw iD=C)(aX:c4 j iD i)(cS:∀cL,qn (j.r cg cL [d,G] I) I (.Tuple [.Name d fd,.Name G ic] cz d7) c7 dv hZ q b):c4 j (.ListComp c7 [⟨.Tuple [.Name d fd,.Name G ic] cz d7,.Call (.Name w jy) [iD] [] n4,dv,0⟩] cg ap) (.u b q i I):=.k (fun _=>rfl) fun A f m D=>by
 show d3 j _ _ _ _ (bU (j.n i A f) fun d f=>uJ I (mY I (gz j.l dm q) (gz j.l dm b) []) d f);refine bL.c (fun P S c=>Mf (use:=U) rfl (fun _=>rfl) (D3 g7.e) g7.c g7.k (Qo aA D t3 ar bE ri gX c)) ((aX.e A f m D).b (ao:=fun l bQ P S=>j.e (eT (.type "enumerate") [l]) (fun l bQ=>j.e (pY l) (AB j cg (.ListComp c7 [⟨.Tuple [.Name d fd,.Name G ic] cz d7,.Call (.Name w jy) [iD] [] n4,dv,0⟩] cg ap) (fun aE cL=>compPost j.b.i j.i S U P aE cL) S) S bQ) S bQ) fun gk bW l ba cH bG cs t a1 dh P S Z=>?_);refine d4 dh fun p aw dh=>d4 dh fun cG kt dh=>Mine.eO kt fun jA kt=>d4 dh fun⟨ds,el⟩aN dh=>?_;obtain⟨rfl,rfl⟩:=bw (aJ dh);subst kt;obtain⟨g,N,rfl,aj,aW,ar⟩:=am6 bG aw cs;refine Sy aN fun Og cN b4=>Qm bG aj fun dh a' bB l3 rn C5 dd o5 f1 bD jw n9=>P0 (bq:=I) aA.p g7 cS (fun cL am=>Ud (j:=j.r cg cL [d,G] I) (m:=bB.l j I am) aA.i l3 rn C5 (show dV j.b bB.d p N from o5▸aW) ?_) bD jw n9 (by rw[Qn];exact jA) cN ((PZ b4 Z).c dd);rcases ar with⟨n,aY⟩|aY;·exact .inr (.inl ⟨n,show bB.d g=o n from o5▸aY⟩)
 ·have u:nC j bB I g:=.inr ⟨rfl,f1▸aY⟩;obtain⟨n,H,_⟩:=u.b (am:=am) bD;exact .inr (.inr ⟨fun c=>(bG.G g c).2.1 aY,n,H⟩)
end
end
section
open PySem PySem.W PyProof.Rows PySem.Calls
theorem aet{ap:bc}{g e:Int}{q g_:aa}(p:List aa)(c:tK p):q6 ap (p++[q8 g,q8 e,q])=o g_→q6 ap p=o g_∨g_=q:=by fun_induction tK p with
 |case1=>intro u;rw[List.nil_append]at u;exact eO (show(if _ then o q else U)=o g_ from u) fun _ b=>.inr b.symm
 |case2 d s G ad m fE ak=>
  intro u;rw[show q6 ap (.int d s::.int G ad::m::fE)=if(d==(ap.line:Int)&&G==(ap.col:Int))=I then o m else q6 ap fE from rfl];have u:(if(d==(ap.line:Int)&&G==(ap.col:Int))=I then o m else q6 ap (fE++[q8 g,q8 e,q]))=o g_:=u;by_cases b:(d==(ap.line:Int)&&G==(ap.col:Int))=I;·rw[if_pos b]at u⊢;exact .inl u
  ·rw[if_neg b]at u⊢;exact ak c u
 |case3=>exact c.elim
theorem arG{g e:Int}{q:aa}(p:List aa)(c:tK p):tK (p++[q8 g,q8 e,q]):=by fun_induction tK p with|case1=>exact trivial|case2 d s G ad m fE ak=>exact ak c|case3=>exact c.elim
def OR(c bl:eh)(u:aq)(g_:aa):Prop:=∃(q:aD)(gv:cm)(N:Array aa)(s:Tok),g_=.ref q∧c.objs.size≤q∧bl.get? q=o gv∧gv.cls=.type "code"∧gv.data=.fields N∧N[1]?=o (.str u s)
section
variable{fP:Model}{aS:g6}{S:aa→aT→Prop}{y:aT}{c1 uh:aq}{HY:Arguments}{bY:a0}{cg:ir}{aL:dQ}{q R:aD}{T:Array aa}{ap:bc}{Wd:Nat}{k1:aq→Option aa}{CD:List (aq×aD)}{P:aa→aT→Prop}
theorem anU{c bl:eh}{es:aD}{sc:aD}{u:aq}(sq:c.objs.size≤es)(t_:bl.CodeRec (.ref es) u)(bu:bl.TableAt es sc #[]):OR c bl u (.ref es):=by obtain⟨q,n,N,s,b,H,L,aR⟩:=t_;obtain rfl:=GR b;obtain⟨⟨cf,sy,aG,aK,bA,dN⟩,_⟩:=bu;obtain rfl:=aJ (H.symm.trans aG);exact⟨es,n,N,s,rfl,sq,H,aK,L,aR⟩
theorem amv(sp:closureFor cg aL=d6 CD)(Ng:aL.globals=hW)(cN:y.heap.Ns hW k1)(zr:aL.code=.ref q)(X:CodeHd y.heap q R)(jz:y.heap.get? R=o (oS T))(bu:tK T.toList)(aN:y.heap.BuiltinsAt k1 R)(c:∀(g_ q':aa)(bl:eh)(cz:Tok)(uf:Array aa),Heap.ExtBut R y.heap bl→bl.get? R=o (oS uf)→tK uf.toList→(∀zP v4,q6 zP uf.toList=o v4→q6 zP T.toList=o v4∨v4=g_)→(q6 ap T.toList=o g_∨OR y.heap bl uh g_)→y.heap.objs.size≤bl.objs.size→P (.ref bl.objs.size) {y with heap:=bl.push {cls:=.type "function",data:=.func (kla_fn c1 uh HY bY cg CD ((k1 "__name__").getD .none) g_ q')},toks:=cz}):da fP aS (makeFunction c1 uh HY (.expr bY) cg aL [] [] [] ap Wd) P S y:=by
 have Nf:hW≠R:=fun u=>by obtain⟨n,az,dn,b,aI,_⟩:=cN;obtain rfl:=aJ (jz.symm.trans (u▸b));exact Data.noConfusion aI
 rcases a3:q6 ap T.toList with _|g_;·
  rw[makeFunction_eq];simp only[List.zip_nil_right,List.filterMap_nil,List.isEmpty_nil,if_true,pure_bind];obtain⟨ms,N',M3,Nv,_,Nw,M4,CM,wd,CO⟩:=aN;have hr:∀{es:aD}{q':aa}{bl:eh}{cz:Tok},Heap.ExtBut R y.heap bl→y.heap.objs.size≤es→es<bl.objs.size→bl.CodeRec (.ref es) uh→bl.TableAt q R (T++ #[q8 ap.line,q8 ap.col,.ref es])→(∃sc,bl.TableAt es sc #[])→P (.ref bl.objs.size) {y with heap:=bl.push {cls:=.type "function",data:=.func (kla_fn c1 uh HY bY cg CD ((k1 "__name__").getD .none) (.ref es) q')},toks:=cz}:=by
   intro es q' bl cz aH sq kZ t_ zB HD;obtain⟨sc,HD⟩:=HD;have cO:=anU sq t_ HD;refine c _ q' bl cz _ aH zB.2 ?_ (fun zP v4 u=>?_) (.inr cO) (oQ (gR sq kZ));·rw[Array.toList_append];exact arG _ bu
   ·rw[Array.toList_append]at u;exact aet _ bu u
  unfold makeTail;rw[sp,Ng];refine bo (c9 ?_);rcases CD with _|⟨u,t⟩;·simp only[List.isEmpty_nil,if_true];refine bo (c9 ?_);refine bo (wpAny_functionCodeX zr (X.code jz bu) (X.tab jz) a3 fun es bl cz aH sq kZ _ t_ zB Hv=>?_);have t6:=cN.extBut aH Nf;refine bo (wpAny_builtinsFor t6 M3 Nv (aH _ _ Nw M4) CM wd CO ?_);refine bo (wpAny_nsGet t6 ?_);exact bo (c9 (GY (hr aH sq kZ t_ zB (by obtain⟨sc,_,_,s⟩:=Hv;exact⟨sc,s⟩)) (by size_fits)))
  ·simp only[List.isEmpty_cons,Bool.false_eq_true,if_false];refine bo (wpAny_newTextTuple ?_);refine bo (wpAny_functionCodeX zr ((X.keeps fun e n b=>gr _ b).code (gr _ jz) bu) ((X.keeps fun e n b=>gr _ b).tab (gr _ jz)) a3 fun es bl cz aH sq kZ _ t_ zB Hv=>?_);have t6:=(cN.push _).extBut aH Nf;have zC:Heap.ExtBut R y.heap bl:=fun e n CK b=>aH e n CK (gr _ b);have Xc:y.heap.objs.size≤es:=bt (bt (m5 _) (ff (Heap.size_push ..).symm)) sq;refine bo (wpAny_builtinsFor t6 M3 Nv (zC _ _ Nw M4) CM wd CO ?_);refine bo (wpAny_nsGet t6 ?_);exact bo (c9 (GY (hr zC Xc kZ t_ zB (by obtain⟨sc,_,_,s⟩:=Hv;exact⟨sc,s⟩)) (by size_fits)))
 ·exact kla_makeFunctionHit sp Ng cN zr X jz bu a3 aN fun q' bl cz ar ia=>c g_ q' bl cz T (fun e n _ b=>ar e n b) (ar _ _ jz) bu (fun _ _ u=>.inl u) (.inl a3) ia
end
theorem SH{V bg:Type}{w:V→Option bg}{p:List V}:∀{t:List bg},p.mapM w=o t→t.length=p.length∧∀(i:Nat)(d:V)(G:bg),p[i]?=o d→t[i]?=o G→w d=o G:=by induction p with|nil=>exact fun c=>by obtain rfl:=aJ c;exact⟨rfl,fun i d G c=>bb c⟩|cons g p ak=>
 intro t c;rw[List.mapM_cons]at c;refine d4 (show(w g).bind _=o t from c) fun e H c=>d4 (show(p.mapM w).bind _=o t from c) fun ds L c=>?_;obtain rfl:=aJ c;obtain⟨cx,cU⟩:=ak L;refine⟨congrArg pT cx,fun i d G aG aK=>?_⟩;rcases i with _|i;·obtain rfl:=aJ aG;obtain rfl:=aJ aK;exact H
 ·exact cU i d G aG aK
noncomputable def uS(sx:gw)(aC:gw):Bool:=aC.all fun G=>G.2 !=.cell&&((G.2 !=.local||aC.lookup G.1==o .local)&&(G.2 !=.free||(sx.lookup G.1==o .cell||sx.lookup G.1==o .free)))
theorem Eh{sx aC:gw}(c:uS sx aC=I)(G:aq×lp)(a8:G∈aC):G.2≠.cell∧(G.2=.local→aC.lookup G.1=o .local)∧(G.2=.free→sx.lookup G.1=o .cell∨sx.lookup G.1=o .free):=by
 obtain⟨H,c⟩:=bX (fe.mp c G a8);obtain⟨L,aR⟩:=bX c;refine⟨bne_iff_ne.mp H,fun b=>?_,fun b=>?_⟩;·rw[b]at L;exact beq_iff_eq.mp L
 ·rw[b]at aR;exact(tw.mp (show(sx.lookup G.1==o .cell||sx.lookup G.1==o .free)=I from aR)).imp beq_iff_eq.mp beq_iff_eq.mp
theorem anC{d:aq}{aC:gw}(c:d∈hy aC):(d,Cr)∈aC:=by unfold hy at c;obtain⟨⟨g,e⟩,a8,b⟩:=vT.mp c;refine eO (show(if(e==Cr)=I then o g else U)=o d from b) fun u b=>?_;rw[←beq_iff_eq.mp u,←b];exact a8
section
variable{j:b5}{au:dU}{A:List (Option K)}{f a1:af}{m:ay}{S:aa→aT→Prop}
theorem Q3(aA:dC au j){aC:gw}(c:uS au.b aC=I)(d:aq)(aH:d∈hy aC):∃g,j.c.cells.lookup d=o g:=aA.z d ((Eh c _ (anC aH)).2.2 rfl)
theorem amu(aA:dC au j){bY:a0}{bN:ir}{ap:bc}{f0:List Nat}{b:aZ}(Hr:bN.kind=.function)(t5:uS au.b bN.names=I)(Ho:bN.isGenerator=C)(Hf:bN.isCoroutine=C){w:gw→a0→Option aZ}(gW:w bN.names bY=o b)(Hg:(hy bN.names).mapM (fun d=>jK d au.e)=o f0)(Xl:au.i=o w):c4 j (.Lambda ⟨[],[],U,[],[],U,[]⟩ bY bN ap) (.y b f0):=.k (fun _=>rfl) fun A f m D x a1 dh P S Z=>by obtain⟨cw,⟨q,zr,Xf⟩,Wv⟩:=aA.L w Xl;have gW:=Wv _ _ _ gW;have Nd:=Q3 aA t5;refine d4 (show((f[0]?).bind fun G=>(RV G).bind fun _=>(f0.mapM (j.p[·]?)).bind fun eK=>cW (K.d b eK) f)=o (x,a1)from dh) fun G aX dh=>d4 dh fun ad cu dh=>d4 dh fun eK Xg dh=>?_;obtain⟨rfl,rfl⟩:=bw (aJ dh);obtain⟨k,al⟩:∃k,m.f[0]?=o k:=⟨_,hT (D.E▸(eg.mp aX).1)⟩;have Oh:=D.S 0 k G al aX;induction Oh with
 |sM aU T jz NM nd=>
  subst aU;obtain⟨k1,cN,aN⟩:=j.b.q _ D.R;refine kla_eval rfl (amv (D3 Nd) aA.r cN zr (Xf _ D.R) jz NM aN fun g_ q' bl cz uf aH Wz XK W_ CN ia=>?_);rw[←cw]at CN;generalize Hn:({cls:=.type "function",data:=.func (kla_fn "<lambda>" (j.c.qual++("<lambda>":aq)) _ bY bN (rP j.c bN.names) ((k1 "__name__").getD .none) g_ q')}:cm)=jl;have kZ:=h9 jz;have MV:=gr jl Wz;have ar:∀e n,m.b.heap.get? e=o n→(((bl.push jl).update j.b.f fun _=>oS T)).get? e=o n:=fun e n aN=>by
   by_cases u:e=j.b.f;·subst u;obtain rfl:=aJ (jz.symm.trans aN);exact vY (fun _=>oS T) MV rfl
   ·exact GP _ (sb u) (gr _ (aH e n u aN))
  have ah:∀e n,m.b.heap.objs.size≤e→(bl.push jl).get? e=o n→((bl.push jl).update j.b.f fun _=>oS T).get? e=o n:=fun e n aN=>GP _ (ll (fg kZ aN));generalize wi:({m.b with heap:=(bl.push jl).update j.b.f fun _=>oS T,toks:=cz}:aT)=dx;have Xi:∀e n,m.b.heap.get? e=o n→dx.heap.get? e=o n:=by rw[←wi];exact ar
  have Mn:aP j A f (m.k dx):=D.aA Xi (by rw[←wi];exact⟨rfl,rfl,rfl⟩);obtain⟨i7,m0,HB,f1,UX,gD,c'⟩:∃i7,(m.k dx).c i7∧i7.b=dx∧i7.f=m.f∧aP j A f i7∧z9 i7.d g_ j.b.k∧ci j i7 bl.objs.size:=by
   have gV:ci j (m.k dx) bl.objs.size:=(D.ap ia).s _;rcases CN with CN|⟨g9,gv,N,s,aG,aK,bA,dN⟩;·exact⟨m.k dx,ay.c.p _,rfl,rfl,Mn,nd _ _ CN,gV⟩
   ·have zh:ci j (m.k dx) g9:=(D.ap aK).s _;exact⟨(m.k dx).t g9 gv,.r gv zh.d,rfl,rfl,Mn.ax zh (by show dx.heap.get? _=_;rw[←wi];exact ah g9 gv aK (gr _ bA)),⟨g9,gv,N,s,aG,oF,dN⟩,⟨qO gV.d (pS (h9 bA)),gV.i,gV.p,gV.l,gV.r⟩⟩
  have UY:=UX.ax c' (n:=jl) (by rw[HB,←wi];exact ah _ _ ia (ko _ (by rw[←Hn];rfl)));have li:=m0.k (ay.c.r jl c'.d);have O:=(ay.c.d (m:=m) dx).k (li.k (ay.c.d (m:=i7.t bl.objs.size jl) {m.b with heap:=bl.push jl,toks:=cz}));have sr:f.set 0 .c=f:=List.ext_getElem? fun i=>by
   rcases i with _|i;·rw[Cb (eg.mp aX).1,aX]
   ·rw[Gs (Nat.succ_ne_zero i).symm]
  have Mo:=UY.aB (am:={m.b with heap:=bl.push jl,toks:=cz}) (n:=.c) (show i7.f[0]?=o (j.b.f,j.b.f)from f1▸al) (fun e n aN _ u=>by refine(GQ (h:=bl.push jl) (fun _=>oS T) (sb aN)).symm.trans ?_;have u:i7.b.heap.get? e=o n:=u;rw[HB,←wi]at u;exact u) (by rw[show(i7.t bl.objs.size jl).b=dx from HB,←wi];exact⟨rfl,rfl,rfl⟩) (.sM rfl uf MV XK fun zP v4 u=>(W_ zP v4 u).elim (fun u=>(nd _ _ u).b O.f) fun u=>u▸gD.b (ay.c.r jl c'.d).f);rw[sr]at Mo;refine Z _ ((i7.t bl.objs.size jl).k {m.b with heap:=bl.push jl,toks:=cz}) O Mo ⟨_,rfl,?_⟩;obtain⟨st,rm⟩:=SH Hg;obtain⟨HR,HS⟩:=SH Xg;obtain⟨g9,YF,Y4,gY,na,p6,sj,v6,G2⟩:=gD.b (ay.c.r jl c'.d).f;rw[cw]at G2;refine⟨_,jl,bY,oF,by rw[←Hn],by rw[←Hn],rfl,gW,Hr,Ho,Hf,rfl,rfl,fun d aH=>(Eh t5 d aH).1,rfl,rfl,by rw[HR,st],fun i d Q H L=>?_,g9,YF,Y4,gY,na,p6,sj,v6,G2⟩;have a4:i<f0.length:=st▸(eg.mp H).1;have M6:f0[i]?=o f0[i]:=hT a4;have cx:=rV (rm i d _ H M6);rw[aA.u]at cx;obtain⟨nX,WP⟩:=Nd d (dZ H);obtain⟨Vf,M2⟩:=Q2 (dZ H) WP;obtain⟨k,al,rfl⟩:=D.Y.2 f0[i] Q d Vf (HS i _ Q M6 L) cx (Q0 M2);exact⟨k,O.i al,M2⟩
 |_=>exact bb cu
end
end
section
open PySem PySem.W PyProof.Rows PySem.Calls
section
variable{V:Type}
theorem Kw{bM:List aq}:∀{N:List V},bM.Nodup→∀{i:Nat}{d:aq},bM[i]?=o d→(bM.zip N).lookup d=N[i]?:=by induction bM with|nil=>exact fun _ _ _ c=>bb c|cons r aC ak=>
 intro N ah i d c;obtain⟨g,e⟩:=Cg.mp ah;rcases N with _|⟨x,N⟩;·rfl
 ·rw[List.zip_cons_cons,pK];rcases i with _|i;·rw[aJ c,beq_self_eq_true];rfl
  ·have c:aC[i]?=o d:=c;rw[beq_eq_false_iff_ne.mpr fun b:d=r=>g (b▸dZ c)];exact ak e c
noncomputable def DM(zW:List (aq×V))(d:aq×V):List (aq×V):=if(zW.lookup d.1).isNone=I then zW++[d]else zW
theorem aiP{O:List (aq×V)}:∀{kV:List (aq×V)}{d:aq},(O.foldl DM kV).lookup d=(kV.lookup d).or (O.lookup d):=by induction O with|nil=>exact fun{kV d}=>(Option.or_none ..).symm|cons k O ak=>
 intro kV d;rw[Gn,ak,show k::O=[k]++O from rfl,List.lookup_append,←Option.or_assoc];congr 1;unfold DM;rcases u:kV.lookup k.1 with _|l;·exact List.lookup_append
 ·show List.lookup d kV=_;obtain⟨r,F⟩:=k;rcases q:(d==r)with _|_;·rw[show[(r,F)].lookup d=U from by rw[pK,q];rfl,Option.or_none]
  ·rw[beq_iff_eq.mp q,u];rfl
theorem aiv{O:List (aq×V)}{bM:List aq}:∀{N:List V},(∀(i:Nat)(d:aq),bM[i]?=o d→O.lookup d=N[i]?)→N.length=bM.length→bM.filterMap (fun r=>(O.lookup r).map (r,·))=bM.zip N:=by induction bM with|nil=>exact fun _ _=>rfl|cons r aC ak=>
 intro N c aw;rcases N with _|⟨l,N⟩;·exact nomatch aw
 ·rw[vN (b:=(r,l)) (by rw[c 0 r rfl];rfl),List.zip_cons_cons,ak (N:=N) (fun i d g=>c (i+1) d g) (yM aw)]
theorem aiQ{V bg:Type}(w:V→bg→bg)(p:List V):∀(e:bg),(forIn p e fun d G=>(d6 (mq (w d G)):Sem (ForInStep bg)))=d6 (p.foldl (fun G d=>w d G) e):=by induction p with|nil=>exact fun e=>rfl|cons d t ak=>exact fun e=>by rw[Gp];exact ak (w d e)
theorem acU{g e q i:Nat}(L:g≤e+q)(aR:q≤g)(c:e≤i):q+e-g+(i-e)=i-(g-q):=by obtain⟨F,rfl⟩:=L7 aR;obtain⟨b,rfl⟩:=L7 c;rw[Nat.add_sub_add_left,yJ,yJ,Nat.sub_add_comm (Nat.le_of_add_le_add_left (bt L (ff (lV e q))))]
theorem Pp{g e q:Nat}(H:e≤g)(L:g≤e+q):e+(q-(q+e-g))=g:=by obtain⟨F,rfl⟩:=L7 H;rw[lV q e,Nat.add_sub_add_left,Nat.sub_sub_self (Nat.le_of_add_le_add_left L)]
theorem acS{bM:List aq}{gZ b2:List V}(ah:bM.Nodup)(H:gZ.length≤bM.length)(L:bM.length≤gZ.length+b2.length)(aR:b2.length≤bM.length)(i:Nat)(d:aq)(c:bM[i]?=o d):((bM.zip gZ).lookup d).or (((bM.drop (bM.length-b2.length)).zip b2).lookup d)=(gZ++b2.drop (b2.length+gZ.length-bM.length))[i]?:=by
 rw[Kw ah c,Gq];by_cases q:i<gZ.length;·rw[if_pos q,hT q];rfl
 ·have a4:=(eg.mp c).1;have aG:bM.length-b2.length+(i-(bM.length-b2.length))=i:=Nat.add_sub_cancel' (Nat.sub_le_of_le_add (bt L (pP (jS.mp q) b2.length)));have aK:b2.length+gZ.length-bM.length+(i-gZ.length)=i-(bM.length-b2.length):=acU L aR (jS.mp q);rw[if_neg q,List.getElem?_eq_none (jS.mp q),Option.none_or,Kw (ah.sublist (List.drop_sublist ..)) (i:=i-(bM.length-b2.length)) (by rw[vP,aG];exact c),vP,aK]
end
section
variable{fP:Model}{aS:g6}{S:aa→aT→Prop}{y:aT}
theorem acR(ai:ep){aM:List Arg}{h0:List (Option a0)}{hG:List a0}(al:ai.params=⟨[],aM,U,[],h0,U,hG⟩)(gZ:List aa):∃(aG aK:Option (Array aa)→Sem (List (aq×aa))),bindArgs ai ⟨gZ,[]⟩=seqItems? ai.defaults>>=fun t=>if(a6 (gZ.length>(aM.map hU).length)&&I)=I then aG t else if(!(((aM.map hU).take ((aM.map hU).length-((t.getD #[]).toList.drop ((t.getD #[]).toList.length-(aM.map hU).length)).length)).filter fun r=>(((aM.map hU).zip gZ).lookup r).isNone).isEmpty)=I then aK t else(forIn (((aM.map hU).drop ((aM.map hU).length-((t.getD #[]).toList.drop ((t.getD #[]).toList.length-(aM.map hU).length)).length)).zip ((t.getD #[]).toList.drop ((t.getD #[]).toList.length-(aM.map hU).length))) ((aM.map hU).zip gZ) fun d G=>if(G.lookup d.1).isNone=I then(d6 (mq (G++[(d.1,d.2)])):Sem (ForInStep (List (aq×aa))))else d6 (mq G))>>=fun zW=>d6 (((aM.map hU)++[]).filterMap fun r=>(zW.lookup r).map (r,·)):=by rcases ai with⟨⟩;subst al;exact⟨_,_,rfl⟩
theorem IX{ai:ep}{aM:List Arg}{h0:List (Option a0)}{hG:List a0}{gZ b2:List aa}{P:List (aq×aa)→aT→Prop}(al:ai.params=⟨[],aM,U,[],h0,U,hG⟩)(rk:(aM.map hU).Nodup)(aI:(ai.defaults=.none∧b2=[])∨∃aB n r,ai.defaults=.ref aB∧y.heap.get? aB=o n∧n.data=.seq b2.toArray r)(H:gZ.length≤(aM.map hU).length)(L:(aM.map hU).length≤gZ.length+b2.length)(aR:b2.length≤(aM.map hU).length)(c:P ((aM.map hU).zip (gZ++b2.drop (b2.length+gZ.length-(aM.map hU).length))) y):da fP aS (bindArgs ai ⟨gZ,[]⟩) P S y:=by
 obtain⟨aG,aK,b⟩:=acR ai al gZ;rw[b];clear b;have XH:∀{tz:Option (Array aa)→aT→Prop},(∀t,(t.getD #[]).toList=b2→tz t y)→da fP aS (seqItems? ai.defaults) tz S y:=by
  intro tz cw;rcases aI with⟨aG,aK⟩|⟨aB,n,r,aG,aK,bA⟩;·subst aK;rw[aG];exact bo (c9 (c9 (cw U rfl)))
  ·rw[aG];exact wpAny_seqItems aK bA (cw _ rfl)
 generalize aM.map hU=bM at rk H L aR c⊢;refine bo (XH fun t b4=>?_);rw[b4,Nat.sub_eq_zero_of_le aR,List.drop_zero];have Xq:(bM.take (bM.length-b2.length)).filter (fun r=>((bM.zip gZ).lookup r).isNone)=[]:=List.filter_eq_nil_iff.mpr fun r ah=>by obtain⟨i,a4,b⟩:=List.mem_take_iff_getElem.mp ah;rw[Kw rk (eg.mpr ⟨_,b⟩),hT (fg (fg a4 (Nat.min_le_left ..)) (Nat.sub_le_iff_le_add.mpr L))];exact Bool.false_ne_true
 rw[Xq,decide_eq_false (jS.mpr H)];have a3:(fun(d:aq×aa)(G:List (aq×aa))=>if(G.lookup d.1).isNone=I then(d6 (mq (G++[(d.1,d.2)])):Sem (ForInStep (List (aq×aa))))else d6 (mq G))=fun d G=>d6 (mq (DM G d)):=by funext d G;unfold DM;rcases(G.lookup d.1).isNone<;>rfl
 rw[a3,aiQ];show da fP aS (d6 ((bM++[]).filterMap _)) P S y;rw[hE,aiv (N:=gZ++b2.drop (b2.length+gZ.length-bM.length)) (fun i d g=>by rw[aiP];exact acS rk H L aR i d g) (by rw[fy,lj,Pp H L])];exact c9 c
end
end
section
open PySem PySem.W PyProof.Rows PySem.Calls
section
variable{j:b5}{au:dU}{A:List (Option K)}{f el:af}{m bB:ay}{d G:K}{l:aa}{E:cV}{f4 ek:od}{r:Nat}{k:aD×aD}{n:eJ}
noncomputable def ay.u(m:ay)(f4:od):ay:={m with f:=f4}
theorem b7.g(t:b7 E m d l):Bu m.f.length d=I:=by induction d using K.casesOn with|b k=>rfl|c v=>obtain⟨k,c,_⟩:=t;exact decide_eq_true (eg.mp c).1|d b eK=>obtain⟨g,_,ai,nj,bY,H,L,aR,bh,dB,d2,et,hH,gh,jm,h_,h',re,o1,sm,_⟩:=t;refine fe.mpr fun Q bZ=>decide_eq_true ?_;obtain⟨i,a4⟩:=vQ bZ;obtain⟨k,c,_⟩:=sm i _ Q (hT (o1▸(eg.mp a4).1)) a4;exact(eg.mp c).1
theorem Jk(f1:m.f=f4++ek){v:Nat}(c:m.f[v]?=o k)(ar:v<f4.length):f4[v]?=o k:=by rw[f1,Ca ar]at c;exact c
theorem Ar(f1:m.f=f4++ek){v:Nat}(c:f4[v]?=o k):m.f[v]?=o k:=by rw[f1,Ca (eg.mp c).1];exact c
theorem b7.e(t:b7 E m d l)(f1:m.f=f4++ek)(aw:Bu f4.length d=I):b7 E (m.u f4) d l:=by induction d using K.casesOn with|b k=>exact t|c v=>obtain⟨k,H,L⟩:=t;exact⟨k,Jk f1 H (of_decide_eq_true aw),L⟩|d b eK=>obtain⟨g,aX,ai,nj,bY,H,L,aR,bh,dB,d2,et,hH,gh,jm,h_,h',re,o1,sm,q,gv,N,s,v',wa,zn,wb,wc⟩:=t;exact⟨g,aX,ai,nj,bY,H,L,aR,bh,dB,d2,et,hH,gh,jm,h_,h',re,o1,fun i d Q c_ e3=>by obtain⟨k,cx,cU⟩:=sm i d Q c_ e3;exact⟨k,Jk f1 cx (of_decide_eq_true (fe.mp aw Q (dZ e3))),cU⟩,q,gv,N,s,v',wa,zn,wb,wc⟩
theorem ais{V:Type}{g:bF}{p:List (bF×V)}{G:V}(c:fH g p=o G):(g,G)∈p:=by induction p with|nil=>exact bb c|cons b p ak=>
 change(if b.1=g then o b.2 else fH g p)=o G at c;by_cases q:b.1=g;·rw[if_pos q]at c;rw[←q,←aJ c];exact .head _
 ·rw[if_neg q]at c;exact .tail _ (ak c)
theorem iN.ZB(t:iN E m k n)(f1:m.f=f4++ek)(aw:mO f4.length n=I):iN E (m.u f4) k n:=by induction t with|mF aU N aj t=>exact .mF aU N aj t|oe aU a8 b1 aj t=>exact .oe aU a8 b1 aj t|pc aU X az r bf gD aj aI t=>exact .pc aU X az r bf gD aj aI ⟨t.1,fun d G c=>by obtain⟨l,g,e⟩:=t.2.1 d G c;exact⟨l,g,e.e f1 (fe.mp aw _ (ais c))⟩,t.2.2⟩|wR aU n aj aI=>exact .wR aU n aj aI|sL aU n ad aj aI t=>exact .sL aU n ad aj aI (t.e f1 aw)|sM aU T aj bu bf=>exact .sM aU T aj bu bf
theorem aP.br(D:aP j A f m)(bD:aP j A el bB)(f1:bB.f=m.f++ek)(a9:(el.take f.length).all (mO f.length)=I):aP j A (el.take f.length) (bB.u m.f)where
 ao:=bD.ao;p:=bD.p;Z:=bD.Z;ai:=bD.ai;x:=⟨bD.x.1,bD.x.2.1,D.x.2.2⟩;y:=fun v k al=>bD.y v k (Ar f1 al);G:=fun g c=>by obtain⟨H,_,aR⟩:=bD.G g c;exact⟨H,(D.G g c).2.1,aR⟩
 P:=by obtain⟨z,H,L,aR⟩:=bD.P;obtain⟨eX,_,at2,Wp⟩:=D.P;exact⟨z,H,L,fun i d aH=>⟨fun l bE=>by obtain⟨ad,g,e⟩:=(aR i d aH).1 l bE;exact⟨ad,g,e.e f1 (by obtain⟨_,_,q⟩:=(Wp i d aH).1 l bE;exact q.g)⟩,(aR i d aH).2⟩⟩
 E:=by rw[Gx,vV];exact D.E;rw[←D.E,←bD.E,f1,fy];exact ho ..
 ag:=fun i Q k u al cw=>bD.ag i Q k u (Ar f1 al) (Ar f1 cw);S:=fun v k n al aj=>by have ar:v<f.length:=D.E▸(eg.mp al).1;have qa:=aj;rw[List.getElem?_take_of_lt ar]at aj;exact(bD.S v k n (Ar f1 al) aj).ZB f1 (D.E▸fe.mp a9 n (dZ qa))
 Y:=D.Y;J:=bD.J
theorem ci.N(D:aP j A f m)(f1:m.f=f4++ek){v:Nat}(c:m.f[v]?=o k)(ar:¬v<f4.length):ci j (m.u f4) k.1∧ci j (m.u f4) k.2:=by
 have a9:=dZ c;have u:=D.y v k c;have fR:∀e,(e=k.1∨e=k.2)→¬iP f4 e:=fun e aN⟨t,b4,CK⟩=>by
  obtain⟨Q,bZ⟩:=vQ b4;obtain⟨na,p6,sj,v6⟩:=D.ag v Q k t c (Ar f1 bZ) fun b=>ar (b▸(eg.mp bZ).1);rcases aN with rfl|rfl;·exact CK.elim na p6
  ·exact CK.elim sj v6
 exact⟨⟨u.1.1,u.2.1,fun b=>D.x.2.2 ⟨k,a9,.inl b.symm⟩,fR _ (.inl rfl),fun b=>(D.G _ b).2.1 ⟨k,a9,.inl rfl⟩⟩,⟨u.1.2,u.2.2,fun b=>D.x.2.2 ⟨k,a9,.inr b.symm⟩,fR _ (.inr rfl),fun b=>(D.G _ b).2.1 ⟨k,a9,.inr rfl⟩⟩⟩
theorem aiX{ae:ay}{a1:af}(dE:aP j A a1 ae)(aW:ae.b=m.b)(o5:ae.d=m.d)(Xz:∀(v:Nat)(k:aD×aD)(n:eJ),m.f[v]?=o k→f[v]?=o n→iN j.b m k n)(ar:∀(v:Nat)(k:aD×aD),m.f[v]?=o k→(v<r→ae.f[v]?=o k)∧(¬v<r→ci j ae k.1))(b:AQ r f d=o G)(t:b7 j.b m d l){P:aa→aT→Prop}(Z:∀gH,ae.c gH→gH.b=ae.b→aP j A a1 gH→b7 j.b gH G l→P l ae.b):P l ae.b:=by induction d using K.casesOn with
 |b k=>obtain rfl:=aJ b;exact Z ae (ay.c.p _) rfl dE (show ca j.b ae.d k l from o5▸t)
 |c v=>
  obtain⟨k,al,rfl⟩:=t;change(if v<r then o (K.c v)else(f[v]?).bind Ei)=o G at b;by_cases q:v<r;·rw[if_pos q]at b;obtain rfl:=aJ b;exact Z ae (ay.c.p _) rfl dE ⟨k,(ar v k al).1 q,rfl⟩
  ·rw[if_neg q]at b;have w:=(ar v k al).2 q;refine d4 b fun n aj b=>?_;have nk:=Xz v k n al aj;have zQ:∀(u:M)(nj:cm),G=.b u→m.b.heap.get? k.1=o nj→(∀gH,ae.c gH→gH.d k.1=o nj→ca j.b gH.d u (.ref k.1))→P (.ref k.1) ae.b:=fun u nj a8 aj b4=>by subst a8;exact Z (ae.t k.1 nj) (.r nj w.d) rfl (dE.ax w (by rw[aW];exact aj)) (b4 _ (.r nj w.d) oF)
   induction nk with|mF aU N aX t=>obtain⟨z,aX⟩:=aX;exact zQ _ _ (aJ b).symm aX fun gH O c=>.rD N _ c ⟨z,rfl⟩ t.1 fun i k l g e=>(t.2 i k l g e).mG fun g n u=>O.f g n (o5▸u)|oe aU a8 b1 aX t=>obtain⟨nj,az,dn,H,L⟩:=aX;exact zQ _ nj (aJ b).symm H fun gH O c=>.Ag b1 nj c a8 (fun bl u=>⟨nj,az,dn,u,L⟩) t.1 t.2.1 fun i k l g e=>(t.2.2 i k l g e).mG fun g n u=>O.f g n (o5▸u)|_=>exact bb b
 |d=>exact bb b
end
end
section
open PySem PySem.W PyProof.Rows PySem.Calls
noncomputable def JV(ao:di)(iv:Option (gw→a0→Option aZ))(ai:ep):dU:={b:=ai.scope.names,g:=pr ai.scope.names,e:=lI ai.scope.names,c:=ao,i:=iv}
structure wJ(E:cV)(g:aD)(ai:ep)(F:bn)(T:List aq)(iv:Option (gw→a0→Option aZ))(bY:List cX):Prop where
 S:∃n,E.b.lookup g=o n∧n.data=.func ai
 t:ai.body=.stmts bY
 Y:∀j:b5,dC (JV E.b iv ai) j→j.b=E→ol j bY F.e
 V:∃aM h0 hG,ai.params=⟨[],aM,U,[],h0,U,hG⟩∧aM.map hU=T
 m:T.length=F.c
 l:T.Nodup
 z:(ai.defaults=.none∧F.d=[])∨∃aB n r b2,ai.defaults=.ref aB∧E.b.lookup aB=o n∧n.data=.seq (List.toArray b2) r∧b2.map qU=F.d.map o
 D:F.d.length≤F.c
 s:ai.scope.kind=.function
 H:ai.scope.isGenerator=C
 x:ai.scope.isCoroutine=C
 J:ai.globals=hW
 u:ai.builtins=m8
 v:ai.closure=[]
 y:codeIn E.b ai.code ai.qualname=I
 P:∀G∈ai.scope.names,G.2≠.free
 R:F.f=(pr ai.scope.names).length
 Q:F.c≤F.f
 f:F.b=(lI ai.scope.names).map fun q=>jK q T
 X:∀k∈T,ai.scope.names.lookup k=o .local∨ai.scope.names.lookup k=o .cell
 Z:∀(i:Nat)(d:aq),(pr ai.scope.names)[i]?=o d→(T[i]?=o d∧ai.scope.names.lookup d=o .local)∨(d∉T∧∀k,T[i]?=o k→ai.scope.names.lookup k=o .cell)
 O:(pr ai.scope.names).Nodup
 p:∀d∈lI ai.scope.names,ai.scope.names.lookup d=o .cell
 N:(lI ai.scope.names).Nodup
 L:∀w,iv=o w→E.k=ai.qualname++(".<locals>.":aq)++("<lambda>":aq)∧(∃q,ai.code=.ref q∧∀c:eh,E.b.In c→CodeHd c q E.f)∧∀bN e b,w bN e=o b→E.j bN e b
theorem PS{bM:gw}:∀{r:Nat}{aE:List (aq×aD)}{d:aq},d∈lI bM∨(aE.lookup d).isSome=I→((cellsFrom r bM aE).lookup d).isSome=I:=by induction bM with|nil=>exact fun c=>c.elim (fun c=>nomatch c) id|cons k t ak=>
 obtain⟨G,v⟩:=k;intro r aE d c;unfold cellsFrom;rcases u:(v==NameKind.cell)with _|_;·rw[if_neg (by decide)];rw[lI,Gk (by rw[u];rfl)]at c;exact ak c
 ·rw[if_pos rfl];rw[lI,vN (b:=G) (by rw[u];rfl)]at c;rcases q:(d==G)with _|_;·refine ak ?_;rw[pK,q];exact c.imp (fun c=>(gQ.mp c).resolve_left fun b=>beq_eq_false_iff_ne.mp q b) id
  ·exact ak (.inr (by rw[pK,q];rfl))
theorem rX{V:Type}{d:aq}{g:V}{p:List (aq×V)}(c:p.lookup d=o g):(d,g)∈p:=by induction p with|nil=>exact bb c|cons k p ak=>
 obtain⟨G,e⟩:=k;rw[pK]at c;rcases u:(d==G)with _|_;·rw[u]at c;exact .tail _ (ak c)
 ·rw[u]at c;rw[beq_iff_eq.mp u,aJ c];exact .head _
theorem Jc{d:aq}{bM:gw}(c:bM.lookup d=o .cell):d∈lI bM:=vT.mpr ⟨(d,.cell),rX c,rfl⟩
section
variable{ls:aq→Option lp}{d:aq}{bM:List aq}
theorem IY:∀{N:List aa}{z:aq→Option aa},d∉bM→bindL ls (bM.zip N) z d=z d:=by induction bM with|nil=>exact fun _=>rfl|cons r aC ak=>
 intro N z c;rcases N with _|⟨l,N⟩;·rfl
 ·show bindL ls (aC.zip N) (if ls r=o .local then fun G=>if G=r then o l else z G else z) d=_;rw[ak fun u=>c (.tail _ u)];by_cases q:ls r=o .local;·rw[if_pos q,if_neg fun b:d=r=>c (b▸.head _)]
  ·rw[if_neg q]
theorem Pn(ar:ls d=o .local):∀{N:List aa}{z:aq→Option aa},bM.Nodup→∀{i:Nat}{l:aa},bM[i]?=o d→N[i]?=o l→bindL ls (bM.zip N) z d=o l:=by induction bM with|nil=>exact fun _ _ _ c=>bb c|cons r aC ak=>
 intro N z ah i l H L;obtain⟨g,e⟩:=Cg.mp ah;rcases N with _|⟨x,N⟩;·exact bb L
 ·show bindL ls (aC.zip N) (if ls r=o .local then fun G=>if G=r then o x else z G else z) d=_;rcases i with _|i;·obtain rfl:r=d:=aJ H;rw[IY g,if_pos ar,if_pos rfl];exact L
  ·exact ak e H L
theorem Pm:∀{N:List aa}{z:aq→Option aa},d∉bM→bindC ls (bM.zip N) z d=z d:=by induction bM with|nil=>exact fun _=>rfl|cons r aC ak=>
 intro N z c;rcases N with _|⟨l,N⟩;·rfl
 ·show bindC ls (aC.zip N) (if ls r=o .local then z else fun G=>if G=r then o l else z G) d=_;rw[ak fun u=>c (.tail _ u)];by_cases q:ls r=o .local;·rw[if_pos q]
  ·rw[if_neg q,if_neg fun b:d=r=>c (b▸.head _)]
theorem acQ(ar:ls d≠o .local):∀{N:List aa}{z:aq→Option aa},bM.Nodup→∀{i:Nat}{l:aa},bM[i]?=o d→N[i]?=o l→bindC ls (bM.zip N) z d=o l:=by induction bM with|nil=>exact fun _ _ _ c=>bb c|cons r aC ak=>
 intro N z ah i l H L;obtain⟨g,e⟩:=Cg.mp ah;rcases N with _|⟨x,N⟩;·exact bb L
 ·show bindC ls (aC.zip N) (if ls r=o .local then z else fun G=>if G=r then o x else z G) d=_;rcases i with _|i;·obtain rfl:r=d:=aJ H;rw[Pm g,if_neg ar,if_pos rfl];exact L
  ·exact ak e H L
theorem RJ{p:List aq}(c:jK d p=U):d∉p:=fun u=>by have:=List.findIdx?_eq_none_iff.mp c d u;rw[beq_self_eq_true]at this;exact nR this
end
noncomputable def rI(aL:dQ)(q:aq):aD:=(aL.cells.lookup q).getD 0
theorem aee{V:Type}(ev:List K)(w:V→Option Nat)(p:List V):qw ev (p.map w)=p.map fun q=>.d ((w q).bind (ev[·]?)):=by induction p with|nil=>rfl|cons g p ak=>rw[pL,pL,←ak];rcases w g with _|i<;>rfl
theorem Ss{F:bn}{ev:List K}{i:Nat}{G:K}(aH:ev[i]?=o G):(kO F ev)[i]?=o (if F.b.contains (o i)then U else o G):=by unfold kO;have a4:=(eg.mp aH).1;rw[Ca (by rw[dA,L4];exact a4),jQ,List.getElem?_zipIdx,aH,q0];rfl
theorem amS{F:bn}{ev:List K}{i:Nat}(c:ev[i]?=U){G:Option K}(a8:(kO F ev)[i]?=o G):G=U:=by unfold kO at a8;rw[yE (by rw[dA,L4];exact Gr.mp c)]at a8;obtain⟨_,a8⟩:=eg.mp a8;rw[List.getElem_replicate]at a8;exact a8.symm
section
variable{j:b5}{A:List (Option K)}
theorem ci.J{m:ay}{g e:aD}(w:ci j m g)(c:g≠e):ci j (m.s [(e,e)]) g:=⟨w.d,w.i,w.p,fun u=>(IQ u).elim w.l fun u=>(IR u).elim c c,w.r⟩
theorem aib(m:ay)(g e:od):(m.s g).s e=m.s (g++e):=by show ay.mk m.d m.i (m.f++g++e) m.b=ay.mk m.d m.i (m.f++(g++e)) m.b;rw[kQ]
theorem aP.bm{V:Type}{w:V→aD}{v:V→eJ}{f0:List V}:∀{f:af}{m:ay},aP j A f m→(∀q∈f0,ci j m (w q))→(f0.Pairwise fun g e=>w g≠w e)→(∀q∈f0,∀ae,m.c ae→ae.b=m.b→iN j.b ae (w q,w q) (v q))→aP j A (f++f0.map v) (m.s (f0.map fun q=>(w q,w q))):=by induction f0 with|nil=>exact fun{f m}D _ _ _=>by show aP j A (f++[]) ⟨_,_,m.f++[],_⟩;rw[hE,hE];exact D|cons q f0 ak=>intro f m D a3 al aj;obtain⟨H,L⟩:=List.pairwise_cons.mp al;have bG:=D.aM (k:=(w q,w q)) (a3 q (.head _)) (a3 q (.head _)) (aj q (.head _) _ (ay.c.s ..) rfl);have:=ak bG (fun es bf=>(a3 es (.tail _ bf)).J (H es bf).symm) L fun es bf ae O b=>aj es (.tail _ bf) ae ((ay.c.s ..).k O) b;rw[aib,kQ]at this;exact this
end
end
section
open PySem PySem.W PyProof.Rows PySem.Calls
set_option backward.match.sparseCases true in theorem PX{dI:m6}{x:cJ}{aS:g6}{y:aT}{bk:lq→aT→Prop}{g:aD}{n:cm}{ai:ep}{bY:List cX}{gZ:List aa}{y7:List (aq×aa)}(HA:aS.depth<recursionLimit)(aj:y.heap.get? g=o n)(CO:n.data=.func ai)(jA:y.heap.NoLimit)(nd:y.heap.CodeRec ai.code ai.qualname)(WU:ai.body=.stmts bY)(He:BindsTo y ai ⟨gZ,[]⟩ y7)(CL:ai.closure=[])(Hr:∀d∈y7,ai.scope.names.lookup d.1=o .local∨(ai.scope.names.lookup d.1=o .cell∧((cellsFrom (y.heap.objs.size+1) ai.scope.names []).lookup d.1).isSome=I))(c:∀bQ,InCallC y (sf ai y.heap.objs.size g).locals (bindL (sf ai y.heap.objs.size g).kindOf y7 fun _=>U) (sf ai y.heap.objs.size g).cells (bindC (sf ai y.heap.objs.size g).kindOf y7 fun _=>U) bQ→da (c6 dI x) (aS.deeper (sf ai y.heap.objs.size g)) (m9 bY (sf ai y.heap.objs.size g)) (fun w am=>bk (.ok (.ret (match w with|.ret l=>l|_=>.none))) am) (fun b am=>da (c6 dI x) (aS.deeper (sf ai y.heap.objs.size g)) (leaving (sf ai y.heap.objs.size g) b) (fun _ l4=>bk (.error b) l4) (fun dh l4=>bk (.error dh) l4) am) bQ)(Hf:ai.scope.isCoroutine=C)(Ho:ai.scope.isGenerator=C)(ar:ai.scope.kind=.function):kq (c6 dI x) aS (.call (.ref g) ⟨gZ,[]⟩) bk y:=by refine codeAny_call_function HA aj CO Hf Ho WU nd ?_;rw[CL];refine He _ _ _ _ (wpAny_newFunctionEnv_cells ar Hr fun aL aU am d=>?_);subst aU;exact⟨jA.keeps d.toInCall.keep,codeAny_func (c am d)⟩
structure k4(aS:g6)(dg:List aD)(r:Nat):Prop where
 d:aS.handled=U
 c:aS.depth+2*r≤900
 e:aS.units+20*r≤9000
 i:∃p,aS.frames=o p∧∀b∈p,b.scope.kind≠.module∧∃g∈dg,b.frame=o g
structure rv(aS:g6)(dg:List aD)(r:Nat):Prop where
 l:aS.handled=U
 d:aS.depth+1+2*r≤900
 n:aS.units+3+20*r≤9000
 k:∃p,aS.frames=o p∧∀b∈p,b.scope.kind≠.module∧∃g∈dg,b.frame=o g
section
variable{aS:g6}{dg:List aD}{r:Nat}
theorem k4.k(ej:k4 aS dg (r+1)):rv aS dg r:=⟨ej.d,bt (by rw[lk,lV 1];exact r' (m5 _) _) ej.c,bt (by rw[lk,lV 3];exact r' (r' (by decide) _) _) ej.e,ej.i⟩
theorem F2{g q F z r e:Nat}(nd:q≤F+z)(c:g+F+z*(r+1)≤e):g+q+z*r≤e:=bt (pP (r' nd g) (z*r)) (bt (ff (by rw[Nat.mul_succ,←lk g F z,lk (g+F),lV z])) c)
theorem k4.l(ej:k4 aS dg (r+1))(X:aD)(N:List aa):rv (aS.under (.builtin "type.__call__" ⟨.ref X::N,[]⟩)) dg r:=⟨ej.d,F2 (q:=2) (F:=0) (by decide) ej.c,F2 (q:=4) (F:=0) (by decide) ej.e,ej.i⟩
theorem rv.c(ej:rv aS dg r){aL:dQ}{O:aD}(aU:aL.frame=o O)(ar:aL.scope.kind=.function):k4 (aS.deeper aL) (O::dg) r:=by
 obtain⟨H,L,aR,p,bh,cT⟩:=ej;refine⟨H,L,aR,aL::p,by show aS.frames.map _=_;rw[bh];rfl,fun b a9=>?_⟩;rcases gQ.mp a9 with rfl|a9;·exact⟨by rw[ar];exact nofun,O,.head _,aU⟩
 ·obtain⟨g,e,q,F⟩:=cT b a9;exact⟨g,e,.tail _ q,F⟩
theorem rv.i(ej:rv aS dg r){aL:dQ}{O:aD}(aU:aL.frame=o O)(ar:aL.scope.kind=.function):pb (aS.deeper aL) aL (O::dg):=by obtain⟨_,_,_,p,bh,cT⟩:=ej.c aU ar;obtain⟨_,_,_,cG,Wq,_⟩:=ej;have b:p=aL::cG:=aJ (bh.symm.trans (show aS.frames.map _=_ by rw[Wq];rfl));subst b;exact⟨⟨O,aU,.head _⟩,_,aL,cG,bh,List.dropWhile_cons_of_neg (by rw[bne_self_eq_false];decide),rfl,cT⟩
end
section
variable{j:b5}{au:dU}{A:List (Option K)}{f el:af}{m bB:ay}{r:Nat}{er:ea}
theorem ag6{b2:List aa}{T:List M}(c:b2.map qU=T.map o):b2.length=T.length∧∀(i:Nat)(k:M)(l:aa),T[i]?=o k→b2[i]?=o l→qU l=o k:=by
 refine⟨by rw[←dA (as:=b2) qU,c,dA],fun i k l H L=>?_⟩;have:(b2.map qU)[i]?=(T.map o)[i]?:=by rw[c]
 rw[jQ,jQ,H,L]at this;exact aJ this
theorem aji{OC:aT→ay}{g:aD}{ai:ep}{F:bn}{T:List aq}{iv:Option (gw→a0→Option aZ)}{bY:List cX}(ei:wJ j.b g ai F T iv bY)(D:aP j A f m){ag ev:List K}{N:List aa}(t:∀am,em j.b (OC am) ag N)(a3:sR F ag=o ev):∃o0:List aa,ev.length=F.c∧(∀am,em j.b (OC am) ev o0)∧BindsTo m.b ai ⟨N,[]⟩ (T.zip o0):=eO a3 fun bf a3=>by
 subst a3;obtain⟨b2,CR,aI⟩:∃b2:List aa,b2.map qU=F.d.map o∧((ai.defaults=.none∧b2=[])∨∃aB n r,ai.defaults=.ref aB∧m.b.heap.get? aB=o n∧n.data=.seq b2.toArray r):=by
  rcases ei.z with⟨aG,aK⟩|⟨aB,n,r,b2,aG,aK,bA,dN⟩;·exact⟨[],by rw[aK];rfl,.inl ⟨aG,rfl⟩⟩
  ·exact⟨b2,dN,.inr ⟨aB,n,r,aG,D.R _ _ aK,bA⟩⟩
 obtain⟨aw,bE⟩:=ag6 CR;obtain⟨aM,h0,hG,al,j1⟩:=ei.V;have W6:=ei.D;have sw:=(t m.b).1;have zy:(aM.map hU).length=F.c:=j1▸ei.m;refine⟨N++b2.drop (b2.length+N.length-(aM.map hU).length),?_,fun am=>⟨?_,fun i d l H L=>?_⟩,fun fP aS S P cw=>?_⟩;·rw[fy,dA,lj];exact Pp bf.1 bf.2
 ·rw[fy,fy,lj,dA,dA,lj,sw,aw,←zy,dA]
 ·rw[Gq]at H L;rw[sw]at L;by_cases a4:i<ag.length;·rw[if_pos a4]at H L;exact(t am).2 i d l H L
  ·rw[if_neg a4]at H L;rw[jQ]at H;obtain⟨k,bh,rfl⟩:=nS.mp H;rw[vP]at bh L;rw[aw,zy]at L;exact Uv (bE _ k l bh L)
 ·rw[←j1]at cw;exact IX al (j1▸ei.l) aI (by rw[zy,sw];exact bf.1) (by rw[zy,sw,aw];exact bf.2) (by rw[zy,aw];exact W6) cw
noncomputable def D0(bk:lq→aT→Prop):iM:=⟨bk (.ok (.ret .none)),fun _=>False,fun l=>bk (.ok (.ret l)),fun b=>bk (.error b)⟩
theorem ja.d{aA:pb j.i j.c j.k}{bk:lq→aT→Prop}{n:bV}(Z:ja j m (D0 bk) n):ja j m {D0 bk with c:=fun b am=>j.e (PySem.leaving j.c b) (fun _ l4=>bk (.error b) l4) (fun dh l4=>bk (.error dh) l4) am} n:=by
 rcases n with⟨cM,a1⟩|⟨cM,a1⟩|⟨d,a1⟩|⟨k,a1⟩;·exact Z
 ·exact Z
 ·exact Z
 ·exact fun b ae cM O D d=>Sl D d aA fun am dE e_ _=>Z b (ae.k am) cM (O.k (ay.c.d _)) dE e_
noncomputable def uD(f:af)(b:Option ((aD×aD)×eJ)):af:=match b with|none=>f|some b=>f++[b.2]
noncomputable def mc(m:ay)(b:Option ((aD×aD)×eJ)):ay:=match b with|none=>m|some b=>m.s [b.1]
theorem Z1{b:Option ((aD×aD)×eJ)}:(mc m b).b=m.b:=by rcases b<;>rfl
theorem aP.bg{b:Option ((aD×aD)×eJ)}(D:aP j A f m)(c:∀k z,b=o (k,z)→ci j m k.1∧ci j m k.2∧iN j.b (m.s [k]) k z):aP j A (uD f b) (mc m b):=by
 rcases b with _|⟨k,z⟩;·exact D
 ·obtain⟨cC,c',aR⟩:=c k z rfl;exact D.aM cC c' aR
theorem ci.G{b:Option ((aD×aD)×eJ)}{e:aD}(w:ci j m e)(c:∀k z,b=o (k,z)→e≠k.1∧e≠k.2):ci j (mc m b) e:=by
 rcases b with _|⟨k,z⟩;·exact w
 ·exact⟨w.d,w.i,w.p,fun u=>(IQ u).elim w.l fun u=>(IR u).elim (c k z rfl).1 (c k z rfl).2,w.r⟩
theorem I'{g:aD}{ai:ep}{F:bn}{T:List aq}{iv:Option (gw→a0→Option aZ)}{bq:Bool}{aS:g6}{b:Option ((aD×aD)×eJ)}{bY:List cX}(ei:wJ j.b g ai F T iv bY)(oU:qp j.b)(ej:rv aS j.k r)(eF:∀fz ha,k4 fz ha r→sI j.b fz ha er)(D:aP j A f m){ag ev:List K}{N:List aa}(b4:∀am,em j.b (mc (m.l j bq am) b) ag N)(n3:sR F ag=o ev)(M':∀k z,b=o (k,z)→ci j m k.1∧ci j m k.2∧(∃n,m.b.heap.get? k.1=o n)∧(∃n,m.b.heap.get? k.2=o n)∧∀ae,(∀e n,m.b.heap.get? e=o n→ae.b.heap.get? e=o n)→iN j.b ae k z){n:bV}(aj:Mine.dK er dm ((de F.b.length).map ((uD (cond bq [] f) b).length+·)) F.e (kO F ev) (uD (cond bq [] f) b++qw ev F.b)=o n){bk:lq→aT→Prop}(Z:∀(fz:g6)(aL:dQ)(O:aD)(cD oY:List aq)(ax:List Nat)(cE:aT)(ek:od),ci j m O→ja ⟨j.b,fz,aL,O,O::j.k,cD,oY,ax,er⟩ ((mc (m.l j bq cE) b).s ek) (D0 bk) n):kq j.b.i aS (.call (.ref g) ⟨N,[]⟩) bk m.b:=by
 obtain⟨aus,Xy,W2⟩:=ei.S;obtain⟨o0,Hl,t5,He⟩:=aji ei D b4 n3;have W5:aS.depth<recursionLimit:=gR (bt (bt (ho _ 1) (ho ..)) ej.d) (by decide);refine PX W5 (D.R _ _ Xy) W2 (j.b.l _ D.R) (codeRec_of D.R ei.y) ei.t He ei.v (fun d aH=>?_) (fun cE d=>?_) ei.x ei.H ei.s;·
  rcases ei.X d.1 (List.of_mem_zip aH).1 with c|c;·exact .inl c
  ·exact .inr ⟨c,PS (.inl (Jc c))⟩
 have lY:=D.ap (df _);generalize gW:m.b.heap.objs.size=O at d lY⊢;generalize jY:sf ai O g=aL at d⊢;have zu:aL.frame=o O:=by rw[←jY];rfl
 have zA:aL.scope=ai.scope:=by rw[←jY];rfl
 have Nl:aL.kindOf=fun d=>ai.scope.names.lookup d:=by unfold Env.kindOf;rw[zA]
 have sp:aL.cells=cellsFrom (O+1) ai.scope.names []:=by rw[←jY];rfl
 have sn:∀q∈lI ai.scope.names,aL.cells.lookup q=o (rI aL q):=fun q bf=>by obtain⟨nX,c⟩:=L_.mp (PS (r:=O+1) (aE:=[]) (.inl bf));rw[←sp]at c;unfold rI;rw[c];rfl
 rw[show aL.locals=O from by rw[←jY];rfl,Nl]at d;obtain⟨ss,cz,XI⟩:=d.toInCall.same;have Nz:∀{i:Nat}{G:aq},T[i]?=o G→∃x ad,ev[i]?=o x∧o0[i]?=o ad∧b7 j.b (mc (m.l j bq cE) b) x ad:=fun{i G}c=>by
  have a4:i<ev.length:=by rw[Hl,←ei.m];exact(eg.mp c).1
  have b:=hT a4;have dh:=hT ((t5 cE).1▸a4);exact⟨_,_,b,dh,(t5 cE).2 i _ _ b dh⟩
 have Vp:∀{i:Nat}{q:aq},F.b.contains (o i)=I→T[i]?=o q→ai.scope.names.lookup q=o .cell:=fun{i q}c bf=>by rw[ei.f]at c;obtain⟨es,H,L⟩:=pN.mp (Gh.mp c);obtain rfl:=aJ (bf.symm.trans (rV L));exact ei.p _ H
 have Ya:∀{i:Nat}{q:aq},ai.scope.names.lookup q=o .cell→T[i]?=o q→F.b.contains (o i)=I:=fun{i q}c bf=>by
  rw[ei.f];refine Gh.mpr (pN.mpr ⟨q,Jc c,?_⟩);rcases u:jK q T with _|Q;·exact absurd (dZ bf) (RJ u)
  ·have bZ:=rV u;rw[(List.getElem?_inj (eg.mp bZ).1 ei.l).mp (bZ.trans bf.symm)]
 have Hj:(mc (m.l j bq cE) b).b=cE:=Z1;have Os:∀e n,m.b.heap.get? e=o n→cE.heap.get? e=o n:=d.toInCall.keep;have hr:∀{e:aD},ci j m e→e≠O→ci ⟨j.b,aS.deeper aL,aL,O,O::j.k,[],[],[],er⟩ (m.l j bq cE) e:=fun{e}w c=>⟨w.d,(nB fun u=>u.elim w.p fun u=>w.l u.2).trans w.i,c,fun u=>w.l (Av u),fun u=>(gQ.mp u).elim c w.r⟩;have Cl:aP ⟨j.b,aS.deeper aL,aL,O,O::j.k,[],[],[],er⟩ [] (uD (cond bq [] f) b) (mc (m.l j bq cE) b):=by have Cl:aP ⟨j.b,aS.deeper aL,aL,O,O::j.k,[],[],[],er⟩ [] (cond bq [] f) (m.l j bq cE):=D.aQ Os (by rw[XI];exact⟨rfl,rfl,rfl⟩) lY (fun g c=>(gQ.mp c).symm) (fun g c=>.tail _ c) ⟨_,d.toInCall.ns,rfl,fun i G a8=>bb a8⟩ ⟨rfl,fun i v d g c=>bb c⟩;refine Cl.bg fun k z u=>?_;obtain⟨cC,c',⟨hs,H⟩,⟨ix,L⟩,aR⟩:=M' k z u;exact⟨hr cC (gW▸ll (h9 H)),hr c' (gW▸ll (h9 L)),aR _ Os⟩
 have bG:=aP.bm (w:=rI aL) (v:=fun q=>eJ.d ((jK q T).bind (ev[·]?))) (f0:=lI ai.scope.names) Cl (fun q bf=>?_) ?_ (fun q bf ae db b=>?_);rotate_left;·have aY:=d.above q _ (rX (sn q bf));have w:=hr (D.ap (g:=rI aL q) (by rw[gW];exact oQ aY)) (pS aY);refine w.G fun k z u=>?_;obtain⟨_,_,⟨hs,H⟩,⟨ix,L⟩,_⟩:=M' k z u;exact⟨pS (lW (gW▸h9 H) aY),pS (lW (gW▸h9 L) aY)⟩
 ·refine List.Pairwise.imp_of_mem (fun{q es}bf WV c b=>c ?_) ei.N;exact name_of_addr d.apart (rX (sn q bf)) (by rw[b];exact rX (sn es WV))
 ·obtain⟨gv,CW,CP⟩:=d.cell q _ (sn q bf);have CW:ae.b.heap.get? (rI aL q)=o gv:=by rw[b,Hj];exact CW
  have Xj:=ei.p q bf;rcases u:jK q T with _|Q;·rw[Pm (RJ u)]at CP;exact .wR rfl gv CW CP
  ·obtain⟨x,ad,c2,cu,t⟩:=Nz (rV u);rw[acQ (by rw[Xj];exact nofun) ei.l (rV u) cu]at CP;rw[q1,c2];exact .sL rfl gv ad CW CP (t.b db)
 have Yp:(kO F ev).length=(pr ai.scope.names).length:=by unfold kO;rw[fy,dA,L4,List.length_replicate,Hl,Nat.add_sub_cancel' ei.Q,ei.R]
 have NY:∀(i:Nat)(G:aq),(pr ai.scope.names)[i]?=o G→(∀l,(kO F ev)[i]?=o (o l)→∃ad,bindL (fun d=>ai.scope.names.lookup d) (T.zip o0) (fun _=>U) G=o ad∧b7 j.b (mc (m.l j bq cE) b) l ad)∧((kO F ev)[i]?=o U→bindL (fun d=>ai.scope.names.lookup d) (T.zip o0) (fun _=>U) G=U):=fun i G a8=>by
  rcases ei.Z i G a8 with⟨al,ar⟩|⟨al,ar⟩;·obtain⟨x,ad,c2,cu,t⟩:=Nz al;have Hu:F.b.contains (o i)=C:=F_.mpr fun u=>nomatch aJ ((Vp u al).symm.trans ar);rw[Ss c2,Hu];exact⟨fun l bE=>aJ (aJ bE)▸⟨ad,Pn ar ei.l al cu,t⟩,fun bE=>nomatch aJ bE⟩
  ·have Xx:∀{G:Option K},(kO F ev)[i]?=o G→G=U:=fun{G}bE=>by
    rcases u:ev[i]?with _|x;·exact amS u bE
    ·have a4:i<T.length:=by rw[ei.m,←Hl];exact(eg.mp u).1
     have NH:=hT a4;rw[Ss u,Ya (ar _ NH) NH]at bE;exact(aJ bE).symm
   exact⟨fun l bE=>(nomatch Xx bE),fun _=>IY al⟩
 rw[←aee,←ei.f]at bG;have t7:aL.scope.kind=.function:=zA▸ei.s;have jV:=ej.i zu t7;have nc:=ej.c zu t7;have bD:aP ⟨j.b,aS.deeper aL,aL,O,O::j.k,pr ai.scope.names,lI ai.scope.names,(de F.b.length).map ((uD (cond bq [] f) b).length+·),er⟩ (kO F ev) (uD (cond bq [] f) b++qw ev F.b) ((mc (m.l j bq cE) b).s ((lI ai.scope.names).map fun q=>(rI aL q,rI aL q))):={bG with P:=⟨_,(by show Heap.Ns (mc _ b).b.heap _ _;rw[Hj];exact d.toInCall.ns),Yp,fun i G a8=>⟨fun l bE=>by obtain⟨ad,g,e⟩:=(NY i G a8).1 l bE;exact⟨ad,g,e.b (ay.c.s ..)⟩,(NY i G a8).2⟩⟩,Y:=⟨by rw[dA,List.length_range,ei.f,dA],fun i v q nX H L aR=>by rw[jQ]at H;obtain⟨qb,bh,rfl⟩:=nS.mp H;have cT:=(eg.mp bh);obtain⟨_,cT⟩:=cT;rw[List.getElem_range]at cT;subst cT;refine⟨(rI aL q,rI aL q),?_,aJ (aR.symm.trans (sn q (dZ L)))⟩;show((mc (m.l j bq cE) b).f++_)[_]?=_;rw[←Cl.E,yE (ho ..),yJ,jQ,L];rfl⟩};have GM:dC (JV j.b.b iv ai) ⟨j.b,aS.deeper aL,aL,O,O::j.k,pr ai.scope.names,lI ai.scope.names,(de F.b.length).map ((uD (cond bq [] f) b).length+·),er⟩:={k:=t7,z:=fun G a8=>a8.elim (fun a8=>⟨_,sn G (Jc a8)⟩) fun a8=>absurd rfl (ei.P _ (rX a8)),H:=fun G v a8=>.inl (by rw[Nl];exact a8),J:=rfl,u:=rfl,s:=rfl,L:=fun w c=>by obtain⟨H,⟨q,L,aR⟩,bh⟩:=ei.L w c;refine⟨?_,⟨q,by rw[←jY];exact L,aR⟩,bh⟩;rw[←jY];exact H,r:=by rw[←jY];exact ei.J,t:=by rw[←jY];exact ei.u,D:=by rw[←jY];rfl,N:=ei.O,i:=nc.d,F:=bt (ho ..) nc.c,E:=gR (pP (bt (ho ..) nc.e) 64) (by decide),p:=jV,x:=oU,y:=eF _ _ nc};have zT:=ei.Y _ GM rfl _ _ _ bD n aj _ (ja.d (aA:=jV) (Z _ _ _ _ _ _ _ _ lY));rw[show((mc (m.l j bq cE) b).s _).b=cE from Hj]at zT;refine gs zT (fun w am a3=>?_) fun _ _ c=>c;induction w with|next=>exact a3|cont=>exact a3.elim|brk=>exact a3.elim|ret l=>exact a3
end
end
section
open PySem PySem.W PyProof.Rows PySem.Calls
section
variable{j dR:b5}{au:dU}{A rs:List (Option K)}{f el:af}{m bB:ay}{r:Nat}{er:ea}{bq:Bool}{am:aT}{k:M}{g:aD}{S:aa→aT→Prop}
noncomputable abbrev ay.w(m bB:ay)(bq:Bool):ay:=m.r (bB.u (cond bq [] m.f)) bq
theorem Pi(O:(m.l j bq am).c bB):(m.l j bq am).c (bB.u (cond bq [] m.f)):=⟨⟨O.f,[],(hE _).symm⟩,O.v⟩
theorem IP(D:aP j A f m)(cN:dR.b=j.b)(w:ci j m dR.m)(n2:∀g∈dR.k,g∈j.k∨g=dR.m)(jZ:∀g∈j.k,g∈dR.k)(O:(m.l j bq am).c bB)(bD:aP dR rs el bB)(a9:(el.take (cond bq [] f:af).length).all (mO (cond bq [] f:af).length)=I):m.c (m.w bB bq)∧aP j A (cond bq f (el.take (cond bq [] f:af).length)) (m.w bB bq)∧∀(v:Nat)(k:aD×aD),bB.f[v]?=o k→(v<(cond bq [] f:af).length→(m.w bB bq).f[v]?=o k)∧(¬v<(cond bq [] f:af).length→ci j (m.w bB bq) k.1∧ci j (m.w bB bq) k.2):=by
 obtain⟨ek,f1⟩:=O.j;have db:=Pi O;have XR:(cond bq [] f:af).length=(cond bq [] m.f:od).length:=by rcases bq;exact D.E.symm;rfl
 have f1:bB.f=(cond bq [] m.f)++ek:=f1;refine⟨db.w,?_,fun v k al=>⟨fun ar=>?_,fun ar=>?_⟩⟩;·
  have Mp:=aP.aC D cN w n2 jZ O bD;rcases bq;·exact aP.br D Mp f1 a9
  ·exact Mp
 ·rcases bq;·exact Jk f1 al (D.E▸ar)
  ·exact absurd ar (tG _)
 ·obtain⟨cC,c'⟩:=ci.N bD f1 al (XR▸ar);exact⟨cC.x D jZ db,c'.x D jZ db⟩
theorem eZ.Zp{f4 ek:od}(d:eZ j m k g)(f1:m.f=f4++ek):eZ j (m.u f4) k g:=by have fR:∀{e},ci j m e→ci j (m.u f4) e:=fun w=>⟨w.d,w.i,w.p,by rintro⟨u,cw,aN⟩;exact w.l ⟨u,by rw[f1];exact pM _ cw,aN⟩,w.r⟩;obtain⟨L,eL,N,cr,az,z,l,aR,bh,cT,dB,d2,et,gh,jm,h_,h',lZ⟩:=d;exact⟨fR L,eL,N,cr,az,z,l,aR,bh,cT,dB,d2.imp id (by rintro⟨aB,fS,aQ,c_,e3,gT,nW⟩;exact⟨aB,fS,aQ,c_,e3,fR gT,nW⟩),et,gh,jm,h_,h',lZ⟩
def AA(P:aa→aT→Prop)(S:aa→aT→Prop)(t:lq)(am:aT):Prop:=match t with|.ok w=>(match w with|.ret l=>P l am|_=>False)|.error b=>S b am
theorem O8{ag:List K}(c:ph ag=I)(d:K)(aH:d∈ag):∃k,d=.b k:=by induction ag with|nil=>exact nomatch aH|cons G t ak=>
 rcases G with k|v|⟨b,eK⟩;·
  rcases gQ.mp aH with rfl|aH;·exact⟨k,rfl⟩
  ·exact ak c aH
 ·exact nomatch c
 ·exact nomatch c
theorem u5{V:Type}{R:Prop}{e:Bool}{ad:Option V}{q:V}(b:an e ad U=o q)(v:e=I→ad=o q→R):R:=by
 rcases e;·exact bb b
 ·exact v rfl b
theorem aiy(D:aP j A f m){n:bV}{t:Except M K}{aO:af}(b:j_ (cond bq [] f:af).length (o n)=o (t,aO)){P:aa→aT→Prop}(Z:ux j (b7 j.b) A m P S t (cond bq f aO))(fz:g6)(aL:dQ)(O:aD)(cD oY:List aq)(ax:List Nat)(cE:aT)(ek:od)(w:ci j m O):ja ⟨j.b,fz,aL,O,O::j.k,cD,oY,ax,er⟩ ((m.l j bq cE).s ek) (D0 (AA P S)) n:=by
 have n2:∀g∈O::j.k,g∈j.k∨g=O:=fun g c=>(gQ.mp c).symm;have jZ:∀g∈j.k,g∈O::j.k:=fun g c=>.tail _ c;have MR:∀{d G:K}{l:aa}{el:af}{bB:ay}{rs:List (Option K)},(m.l j bq cE).c bB→aP ⟨j.b,fz,aL,O,O::j.k,cD,oY,ax,er⟩ rs el bB→b7 j.b bB d l→AQ (cond bq [] f:af).length el d=o G→x5 (cond bq [] f:af).length el G=o (t,aO)→P l bB.b:=fun{d G l el bB rs}O bD d' a8 ar=>u5 ar fun a9 ar=>by obtain⟨rfl,rfl⟩:=bw (aJ ar);obtain⟨dw,dM,fp⟩:=IP (dR:=⟨j.b,fz,aL,_,_::j.k,cD,oY,ax,er⟩) D rfl w n2 jZ O bD a9;exact aiX (m:=bB) dM rfl rfl bD.S (fun v k al=>⟨(fp v k al).1,fun q=>((fp v k al).2 q).1⟩) a8 d' fun gH db aW UW Og=>aW▸Z l gH (dw.k db) UW Og
 rcases n with⟨cM,a1⟩|⟨cM,a1⟩|⟨d,a1⟩|⟨k,a1⟩;·exact fun bB O bD=>MR ((ay.c.s ..).k O) bD (d:=.b .e) (ca.qr) rfl b
 ·exact bb b
 ·exact fun l bB cM O bD d'=>d4 b fun G a8 b=>MR ((ay.c.s ..).k O) bD d' a8 b
 ·exact fun g bB cM U3 bD d=>u5 b fun a9 b=>by have nU:=(ay.c.s ..).k U3;obtain⟨rfl,rfl⟩:=bw (aJ b);obtain⟨dw,dM,fp⟩:=IP (dR:=⟨j.b,fz,aL,_,_::j.k,cD,oY,ax,er⟩) D rfl w n2 jZ nU bD a9;obtain⟨OD,f1⟩:=nU.j;exact Z g (m.w bB bq) dw dM ((d.Zp (f4:=cond bq [] m.f) f1).Ir (dR:=⟨j.b,fz,aL,O,O::j.k,cD,oY,ax,er⟩) D rfl jZ (Pi nU))
theorem aiN{ai:ep}{F:bn}{T:List aq}{iv:Option (gw→a0→Option aZ)}{bY:List cX}(ei:wJ j.b g ai F T iv bY)(oU:qp j.b)(ej:k4 j.i j.k (r+1))(eF:∀fz ha,k4 fz ha r→sI j.b fz ha er)(D:aP j A f m){ag:List K}{N:List aa}(b4:em j.b m ag N):d3 j (b7 j.b) A m (eT (.ref g) N) (vt er dm F ag f):=fun t aO b P S Z=>by
 have zT:∀(bq:Bool)(aO:af),(bq=I→ph ag=I∧qE F=I)→j_ (cond bq [] f:af).length (ju er dm F ag (cond bq [] f))=o (t,aO)→ux j (b7 j.b) A m P S t (cond bq f aO)→j.e (eT (.ref g) N) P S m.b:=fun bq aO al b Z=>by
  have XE:∀am,em j.b (mc (m.l j bq am) U) ag N:=fun am=>⟨b4.1,fun i d l g e=>by
   have t:=b4.2 i d l g e;rcases bq;·exact t.c ⟨fun _ _ c=>c,[],(hE _).symm⟩
   ·obtain⟨k,rfl⟩:=O8 (al rfl).1 d (dZ g);exact t⟩;rcases n3:sR F ag with _|ev;·rw[ju,n3]at b;exact bb b
  ·rw[ju,n3,q1]at b;rcases aj:Mine.dK er dm ((de F.b.length).map ((cond bq [] f:af).length+·)) F.e (kO F ev) (cond bq [] f++qw ev F.b)with _|n;·rw[aj]at b;exact bb b
   ·rw[aj]at b;refine p0 (codeAny_mono (I' (b:=U) ei oU ej.k eF D XE n3 (fun _ _ c=>nomatch c) aj (bk:=AA P S) (aiy D b Z)) fun ds am c=>?_);rcases ds with d|w;·exact c
    ·induction w with|_=>exact c
 rcases aN:ph ag&&qE F with _|_;·rw[vt,aN]at b;exact zT C aO nofun b Z
 ·rw[vt,aN]at b;refine d4 (show(j_ 0 (ju er dm F ag [])).bind _=o (t,aO)from b) fun ds c b=>?_;obtain⟨ds,Zg⟩:=ds;obtain⟨rfl,rfl⟩:=bw (aJ b);exact zT I Zg (fun _=>bX aN) c Z
end
end
section
open PySem PySem.W PyProof.Rows PySem.Calls
structure OK(E:cV)(q:Nat)(g ks:aD)(ai:ep)(F:bn)(T:List aq)(bY:List cX):Prop where
 b:f_[q]?=o g
 k:rJ E.b q g=I
 i:makesIn E.b g=I
 e:hV E.b (.ref g) "__init__"=o (o (.ref ks))
 d:typeIn E.b (.ref ks)=o (.type "function")
 c:wJ E ks ai F T U bY
section
variable{j:b5}{au:dU}{A rs:List (Option K)}{f el:af}{m bB:ay}{r:Nat}{er:ea}{gC:Bool}{g:aD}{S:aa→aT→Prop}
theorem K'(d:bF){p:List (bF×K)}:∀{cG:List (bF×M)},Bo p=o cG→fH d p=(fH d cG).map .b:=by induction p with|nil=>exact fun c=>by obtain rfl:=aJ c;rfl|cons b t ak=>
 intro cG c;obtain⟨G,l⟩:=b;rcases l with k|v|⟨b,eK⟩;·
  obtain⟨Ym,bh,rfl⟩:=nS.mp (show(Bo t).map ((G,k)::·)=o cG from c);show(if G=d then o (K.b k)else fH d t)=(if G=d then o k else fH d Ym).map .b;by_cases q:G=d;·rw[if_pos q,if_pos q];rfl
  ·rw[if_neg q,if_neg q];exact ak bh
 ·exact bb c
 ·exact bb c
theorem aem{q:Nat}{ks:aD}{ai:ep}{F:bn}{T:List aq}{bY:List cX}(cA:OK j.b q g ks ai F T bY)(oU:qp j.b)(ej:k4 j.i j.k (r+1))(eF:∀fz ha,k4 fz ha r→sI j.b fz ha er)(D:aP j A f m){ag:List K}{N:List aa}(b4:em j.b m ag N):d3 j (b7 j.b) A m (eT (.ref g) N) (SG er dm q F gC ag f):=fun t aO b P S Z=>by
 generalize ar:(cond gC [] f:af).length=v at*;have aU:(ju er dm F (.c v::ag) (cond gC [] f++[.e q []])).bind (fun n=>u9 gC v ag n f)=o (t,aO):=by
  subst ar;rcases gC;·exact b
  ·exact b
 clear b;refine d4 aU fun n aj aU=>?_;refine d4 (show(sR F (.c v::ag)).bind _=o n from aj) fun ev n3 aj=>?_;have eu:∀e n,m.b.heap.get? e=o n→((m.b.heap.push q3).push (i1 g m.b.heap.objs.size)).get? e=o n:=fun e n b=>gr _ (gr _ b);have zj:((m.b.heap.push q3).push (i1 g m.b.heap.objs.size)).get? (m.b.heap.objs.size+1)=o (i1 g m.b.heap.objs.size):=by heap_get
 have zk:((m.b.heap.push q3).push (i1 g m.b.heap.objs.size)).get? m.b.heap.objs.size=o q3:=gr _ (ko _ rfl);have cH:=ay.c.d (m:=m) {m.b with heap:=(m.b.heap.push q3).push (i1 g m.b.heap.objs.size)};have bG:=D.aA (am:={m.b with heap:=(m.b.heap.push q3).push (i1 g m.b.heap.objs.size)}) eu ⟨rfl,rfl,rfl⟩;have cC:ci j (ay.k m {m.b with heap:=(m.b.heap.push q3).push (i1 g m.b.heap.objs.size)}) (m.b.heap.objs.size+1):=(D.ap (m5 _)).s _;have c':ci j (ay.k m {m.b with heap:=(m.b.heap.push q3).push (i1 g m.b.heap.objs.size)}) m.b.heap.objs.size:=(D.ap (df _)).s _;generalize mx:ay.k m {m.b with heap:=(m.b.heap.push q3).push (i1 g m.b.heap.objs.size)}=ba at cH bG cC c';have zF:ba.b={m.b with heap:=(m.b.heap.push q3).push (i1 g m.b.heap.objs.size)}:=by rw[←mx];rfl
 have zv:∀am,(ba.l j gC am).f.length=v:=fun am=>by
  rw[←ar];clear aj aU;rcases gC;·exact bG.E
  ·rfl
 rcases n with⟨cM,a1⟩|_|_|_;rotate_left;·exact bb aU
 ·exact bb aU
 ·exact bb aU
 have NI:gC=I→ph ag=I:=fun c=>by clear zv aj ar;subst c;exact u5 (show an (ph ag) ((a1[0]?).bind (JL f)) U=o (t,aO)from aU) fun c _=>c
 have NJ:∀am,em j.b (mc (ba.l j gC am) (o ((m.b.heap.objs.size+1,m.b.heap.objs.size),.e q []))) (.c v::ag) (.ref (m.b.heap.objs.size+1)::N):=fun am=>em.b (d:=.c v) ⟨_,As (zv am),rfl⟩ ⟨b4.1,fun i d l g e=>by
  have t:=b4.2 i d l g e;clear zv aj ar aU;rcases gC;·exact(t.b cH).c ⟨fun _ _ c=>c,_,rfl⟩
  ·obtain⟨k,rfl⟩:=O8 (NI rfl) d (dZ g);exact ca.mG t cH.f⟩;have G0:=I' (b:=o ((m.b.heap.objs.size+1,m.b.heap.objs.size),.e q [])) (bq:=gC) (m:=ba) (bk:=InitBack (m.b.heap.objs.size+1) (AA P S)) cA.c oU (ej.l g N) eF bG NJ n3 (fun k z b=>by obtain⟨rfl,rfl⟩:=bw (aJ b);refine⟨cC,c',⟨_,by rw[zF];exact zj⟩,⟨_,by rw[zF];exact zk⟩,fun ae c=>.pc (ll (pR _)) g [] _ cA.b cA.k (c _ _ (by rw[zF];exact zj)) (c _ _ (by rw[zF];exact zk)) ⟨fun d _=>rfl,fun d G u=>bb u,df _⟩⟩) aj ?_;·
  refine p0 (codeAny_mono (make_core (R:=AA P S) (makes_of D.R cA.i) (q4 D.R cA.e) (fun wx=>bind_fn D.R wx cA.d) (.inl rfl) (zF▸G0)) fun ds am c=>?_);rcases ds with d|w;·exact c
  ·induction w with|_=>exact c
 ·intro fz aL O cD oY ax cE ek w bB dd bD;have n2:∀g∈O::j.k,g∈j.k∨g=O:=fun g c=>(gQ.mp c).symm;have jZ:∀g∈j.k,g∈O::j.k:=fun g c=>.tail _ c;have nU:(ba.l j gC cE).c bB:=(ay.c.s _ _).k ((ay.c.s _ _).k dd);have t2:bB.f[v]?=o (m.b.heap.objs.size+1,m.b.heap.objs.size):=dd.i ((ay.c.s _ _).i (As (zv cE)));refine⟨rfl,?_⟩;show P (.ref (m.b.heap.objs.size+1)) bB.b;clear zv NI NJ aj n3 eu zj zk;rcases gC;·obtain⟨rfl,rfl⟩:=bw (aJ aU);exact Z _ (ba.r bB C) (cH.k nU.w) (bG.aC (dR:=⟨j.b,fz,aL,O,O::j.k,cD,oY,ax,er⟩) rfl w n2 jZ nU bD) ⟨_,t2,rfl⟩
  ·refine u5 (show an (ph ag) ((a1[0]?).bind (JL f)) U=o (t,aO)from aU) fun _ aU=>d4 aU fun z a9 aU=>?_;subst ar;obtain⟨dw,dM,fp⟩:=IP (dR:=⟨j.b,fz,aL,O,O::j.k,cD,oY,ax,er⟩) bG rfl w n2 jZ nU bD rfl;obtain⟨cx,cU⟩:=(fp 0 _ t2).2 (tE _);have nk:=bD.S 0 _ z t2 a9;clear t2 fp bD a9 nU;induction nk with
   | @pc es p mw X az r bf gD aj aI H9=>
    refine d4 (show(Bo p).bind _=o (t,aO)from aU) fun cG kt aU=>?_;obtain⟨rfl,rfl⟩:=bw (aJ aU);have gu:=dM.ax cU aI;have gE:ci j ((ba.w bB I).t m.b.heap.objs.size (fY az r)) (m.b.heap.objs.size+1):=⟨qO cx.d mw.symm,cx.i,cx.p,cx.l,cx.r⟩;have hq:=(ay.c.r (fY az r) cU.d).k (ay.c.r (i1 X m.b.heap.objs.size) gE.d);refine Z (.ref (m.b.heap.objs.size+1)) (((ba.w bB I).t m.b.heap.objs.size (fY az r)).t (m.b.heap.objs.size+1) (i1 X m.b.heap.objs.size)) (cH.k (dw.k hq)) (gu.ax gE aj) (.Dw X m.b.heap.objs.size az r bf gD oF ((ay.c.r (i1 X m.b.heap.objs.size) gE.d).f _ _ oF) (fun d aH=>H9.1 d ?_) (fun d k aH=>?_) fun d k l aH bE=>?_);·rw[K' d kt,aH];rfl
    ·obtain⟨l,c,_⟩:=H9.2.1 d (.b k) (by rw[K' d kt,aH];rfl);exact⟨l,c⟩
    ·obtain⟨f2,c,hI⟩:=H9.2.1 d (.b k) (by rw[K' d kt,aH];rfl);obtain rfl:=aJ (aJ (c.symm.trans bE));exact ca.mG hI hq.f
   |_=>exact bb aU
end
end
section
open PySem PySem.W PyProof.Rows PySem.Calls
section
variable{dI:m6}{x:cJ}{fP:Model}{aS:g6}{bk:lq→aT→Prop}{S:aa→aT→Prop}{c:eh}{E:Array GenState}{F:Drawn}{s:Nat}{av:gf}
variable{cD u:aq}{X cO:aD}{kW ms si:List aa}{CQ:Bool}{qf:List aq}{hu:List aa}{p4:Bool}{p5:Option Bool}{hG:Option aD}{mz eu gi mA mB:Option aa}{hX qd wk:String}
noncomputable abbrev os(X:aD)(wy:aD):cm:={cls:=.ref X,data:=.fields #[.ref wy,.none,.none,.none,.bool C,.none]}
theorem ah7(bC:ExcBaseFacts hX qd wk si)(aB:∀bS e,si.contains (.type bS)=e→ms.contains (.type bS)=e){fE:List aa}(eF:c.get? X=o (yU cD u X cO kW ms CQ qf hu p4 p5 hG mz eu gi mA mB qd))(cw:bk (.ok (.ret (.ref (c.objs.size+1)))) ⟨(c.push {cls:=.type "tuple",data:=.seq fE.toArray}).push (os X c.objs.size),E,F,s,av⟩)(Hz:fE.length≤sh):kq (c6 dI x) aS (.builtin qd ⟨.ref X::fE,[]⟩) bk ⟨c,E,F,s,av⟩:=by
 have at5:=bC.ends;have zq:(lr X::ms).contains (.type hX)=I:=by rw[B',aB _ _ bC.hasB,Bool.or_true]
 have WX:(lr X::ms).contains (.type "AttributeError")=C:=by rw[B',aB _ _ bC.noAttr];rfl
 have WZ:(lr X::ms).contains (.type "NameError")=C:=by rw[B',aB _ _ bC.noName];rfl
 refine codeAny_builtinAt bC.entry ?_;unfold Builtin.«BaseException.__new__»;refine PySem.wpAt_bind ?_;show PySem.wpAt _ _ _ (stack>>=_) _ _ _;refine PySem.wpAt_bind (PySem.wpAt_stack fun k atU=>PySem.wpAt_of_wpAny ?_);wp_walk;refine PySem.wpAt_of_wpAny ?_;rw[bC.owner];repeat(first|with_reducible refine wpAny_madeHere_exc bC.canon eF ?_|with_reducible refine tQ eF ?_|(with_reducible refine GX eF ?_;first|rw[zq]|rw[WX]|rw[WZ])|wp_step)
 show bk _ _;rw[Heap.size_push];exact cw
theorem aef(bC:ExcBaseFacts hX qd wk si)(aB:∀bS e,si.contains (.type bS)=e→ms.contains (.type bS)=e){b:aD}{eL:cm}{fE:List aa}{P:Unit→aT→Prop}(eF:c.get? X=o (yU cD u X cO kW ms CQ qf hu p4 p5 hG mz eu gi mA mB qd))(aU:c.get? b=o eL)(CM:eL.cls=.ref X)(cw:P () ⟨c,E,F,s,av⟩):da fP aS (yT wk ⟨.ref b::fE,[]⟩) P S ⟨c,E,F,s,av⟩:=by
 have zq:(lr X::ms).contains (.type hX)=I:=by rw[B',aB _ _ bC.hasB,Bool.or_true]
 have at8:=bC.noStar;simp only[yT,bC.initKind,bC.initSplit,bC.initRow];repeat(first|(with_reducible refine tQ aU ?_;rw[CM])|with_reducible refine tQ eF ?_|(with_reducible refine GX eF ?_;rw[zq])|wp_step)
 refine wpAny_onRaise ?_;rw[show∀(g e:String)(r:Nat),Bind.check ⟨.positional,"*",hX,.self,[⟨"args",.varPos,C⟩]⟩ g e r (List.map (fun d=>d.fst) ({pos:=lr b::fE}:Args).kw)=d6 ()from fun g e r=>check_star_args _ _ _ _ _ _];exact c9 cw
theorem ah4(bC:ExcBaseFacts hX qd wk si)(aB:∀bS e,si.contains (.type bS)=e→ms.contains (.type bS)=e){b:aD}{wy:aD}{fE:List aa}(eF:c.get? X=o (yU cD u X cO kW ms CQ qf hu p4 p5 hG mz eu gi mA mB qd))(aU:c.get? b=o (os X wy))(Hz:fE.length≤sh)(cw:bk (.ok (.ret .none)) ⟨(c.push {cls:=.type "tuple",data:=.seq fE.toArray}).update b (sd (·.setIfInBounds 0 (.ref c.objs.size))),E,F,s,av⟩):kq (c6 dI x) aS (.call (.builtin wk) ⟨.ref b::fE,[]⟩) bk ⟨c,E,F,s,av⟩:=by refine Me bC.init.plain bC.initEntry (aef bC aB eF aU rfl ?_);wp_walk;exact cw
theorem ad6{fE:List aa}(W0:Looks (c6 dI x) c (yT qd ⟨.ref X::fE,[]⟩) ())(bC:ExcBaseFacts hX qd wk si)(aB:∀bS e,si.contains (.type bS)=e→ms.contains (.type bS)=e){ks:aD}{P:aa→aT→Prop}(eF:c.get? X=o (yU cD u X cO kW ms CQ qf hu p4 p5 hG mz eu gi mA mB qd))(a4:Looks (c6 dI x) c (typeLookup (.ref X) "__init__") (o (.ref ks)))(aN:∀wx,Looks (c6 dI x) c (bindSpecial (.ref ks) wx) (.ref ks,[wx]))(Hz:fE.length≤sh)(cw:kq (c6 dI x) (aS.under (.builtin "type.__call__" ⟨.ref X::fE,[]⟩)) (.call (.ref ks) ⟨.ref (c.objs.size+1)::fE,[]⟩) (InitBack (c.objs.size+1) fun t am=>match t with|.ok (.ret l)=>P l am|.ok _=>False|.error b=>S b am) ⟨(c.push {cls:=.type "tuple",data:=.seq fE.toArray}).push (os X c.objs.size),E,F,s,av⟩):da (c6 dI x) aS (eT (.ref X) fE) P S ⟨c,E,F,s,av⟩:=by
 have cC:=tc_lookup;have c':=tc_bind (.ref X);have MX:(⟨c,E,F,s,av⟩:aT).TypeIs (.ref X) "type":=⟨_,eF,rfl⟩;refine p0 (codeAny_of_tree ?_);show da _ _ (callAny (.ref X) _) _ _ _;repeat(any_goals(first|assumption|with_reducible refine tQ eF ?_|wp_step))
 refine⟨rfl,?_⟩;refine codeAny_call_builtin_at (Code.quiet_builtin _ (by decide+kernel)) entry_typeCall (wpAny_check_type_call_sub eF ?_);repeat(first|with_reducible refine tQ eF ?_|with_reducible refine wpAny_madeBy_exc eF ?_|wp_step)
 refine codeAny_call_builtin_code (Code.quiet_builtin _ bC.quiet) (W0.here ?_);refine ah7 (fE:=fE) bC aB eF ?_ Hz;show da _ _ _ _ _ _;have v:∀e n,c.get? e=o n→((c.push {cls:=.type "tuple",data:=.seq fE.toArray}).push (os X c.objs.size)).get? e=o n:=fun e n b=>gr _ (gr _ b);have Ws:=v _ _ eF;have Xd:((c.push {cls:=.type "tuple",data:=.seq fE.toArray}).push (os X c.objs.size)).get? (c.objs.size+1)=o {cls:=.ref X,data:=.fields #[.ref c.objs.size,.none,.none,.none,.bool C,.none]}:=by heap_get
 have WY:(lr X::ms).contains (.ref X)=I:=by simp
 unfold isInstance;repeat(first|with_reducible refine tQ Xd ?_|(with_reducible refine GX Ws ?_;rw[WY])|wp_step)
 show da _ _ (typeLookup (.ref X) _) _ _ _;refine(a4.keeps v) _ _ _ _ (fun _ _ b=>b) ?_;refine mr (bo (((aN _).keeps v) _ _ _ _ (fun _ _ b=>b) ?_));refine bo (p0 (codeAny_mono cw fun t am m=>?_));rcases t with b|(l|_|_|_)<;>first|exact m|exact m.elim|skip
 obtain⟨rfl,m⟩:=m;wp_walk;exact m
end
end
section
open PySem PySem.W PyProof.Rows PySem.Calls Builtin Builtin.ObjectAttr
noncomputable abbrev sX:List aa:=[.ref 39,.type "Exception",.type "BaseException",.type "object"]
structure Zr where
 m:aq
 n:aq
 b:aD
 d:List aa
 p:List aq
 q:List aa
 c:Bool
 e:Option Bool
 f:Option aD
 g:Option aa
 i:Option aa
 j:Option aa
 k:Option aa
 l:Option aa
abbrev Qw(p:Zr):cm:=yU p.m p.n 64 p.b p.d sX I p.p p.q p.c p.e p.f p.g p.i p.j p.k p.l "Exception.__new__"
structure ExcK(ao:di):Prop where
 b:∃p,ao.lookup 64=o (Qw p)
 f:hV ao (.ref 64) "__setattr__"=o (o (.builtin "object.__setattr__"))
 g:∀d,d=bF.hK∨d=bF.fj→takerIn ao 64 (b8 d)=o U
 e:findCls ao (.type "Exception") (.type "type") (se "__init__")=o (.val (.builtin "Exception.__init__"))
 c:∀(kV:Setting)(fE:List aa),peek ao kV (yT "Exception.__new__" ⟨.ref 64::fE,[]⟩)=o ()
theorem Qx:∀bS e,[Value.type "Exception",.type "BaseException",.type "object"].contains (.type bS)=e→sX.contains (.type bS)=e:=fun bS e c=>by unfold sX;rw[B',c];rfl
section
variable{dI:m6}{x:cJ}{aS:g6}{S:aa→aT→Prop}{y:aT}{ao:di}{bk:lq→aT→Prop}
theorem AM(dD:ExcK ao):∃eU,clsIn ao 64=o eU∧eU.mro=.ref 64::sX∧eU.hasDict=I:=by obtain⟨p,c⟩:=dD.b;exact⟨_,by unfold clsIn;rw[c],rfl,rfl⟩
theorem aoC{gj:cm}{ni:Option cm}{d:aD}{c1:aq}{cz:Tok}{l:aa}(dD:ExcK ao)(bS:ao.In y.heap)(D:tL y.heap d gj 64 ni)(bu:takerIn ao 64 c1=o U)(c:∀e,da (c6 dI x) aS.in1 (storeInOwnDict (.ref d) (.ref 64) (.str c1 cz) c1 l e) (fun hr am=>match hr with|.done w=>bk (.ok w) am|.again es=>es.quiet=I∧kq (c6 dI x) aS es bk am) (fun b am=>bk (.error b) am) y):kq (c6 dI x) aS (.call (.builtin "object.__setattr__") ⟨[.ref d,.str c1 cz,l],[]⟩) bk y:=by
 have y2:=PySem.F.store_object;obtain⟨eU,bf,a9,_⟩:=AM dD;have hu:Looks (c6 dI x) y.heap (isInstance (.ref d) (.type "object")) I:=D.type.andThen (looks_mroIn bS (by unfold mroIn;rw[bf,q1,if_neg (by rw[a9];decide),a9];rfl));refine Me y2.slot.plain y2.entry (@check_slot (c6 dI x) _ _ y "object.__setattr__" "object" "__setattr__" (.ref d) [.str c1 cz,l] [] _ y2.kind y2.split hu (y2.args (.ref d) (.str c1 cz) l) ?_);obtain⟨MC,aY,b4⟩:=Option.bind_eq_some_iff.mp bu;have Xr:Looks (c6 dI x) y.heap (mroOf (.ref 64)) eU.mro:=(looks_clsIn bS bf).andThen .now;have li:Looks (c6 dI x) y.heap (storeTaker? MC) U:=by cases MC with|none=>exact .now|some g=>
  obtain⟨e,aN,b⟩:=nS.mp b4;refine(looks_takesIn bS aN).andThen ?_;cases e;·exact .now
  ·cases b
 rw[osa_eq,refuse_eq];refine bo (bo (D.type.here (bo (Xr.here ?_))));rw[a9,refuseLoop_ref,refuseLoop_ref,PySem.F.store_Exception.passes];refine c9 (bo (D.type.here (bo ((q4 bS aY).here (bo (li.here ?_))))));exact c _
theorem TP{d:aD}{gj:cm}{ni:Option cm}{g:bF}{l:aa}{P:Unit→aT→Prop}(dD:ExcK ao)(bS:ao.In y.heap)(aY:g=.hK∨g=.fj)(D:tL y.heap d gj 64 ni)(c:∀cz e,da (c6 dI x) aS.in1 (storeInOwnDict (.ref d) (.ref 64) (.str (b8 g) cz) (b8 g) l e) (fun hr am=>∃t,hr=.done (.ret t)∧P () am) S {y with toks:=y.toks+1}):da (c6 dI x) aS (setAttr (.ref d) (b8 g) l) P S y:=by refine set_plain bS D dD.f (aoC dD (y:={y with toks:=y.toks+1}) bS D (dD.g g aY) fun e=>gs (c _ e) (fun hr am cw=>?_) fun _ _ b=>b);obtain⟨t,rfl,u⟩:=cw;exact u
theorem aqE{d:aD}{gj:cm}{N:Array aa}{g:bF}{l:aa}{P:Unit→aT→Prop}(dD:ExcK ao)(bS:ao.In y.heap)(aY:g=.hK∨g=.fj)(aH:y.heap.get? d=o gj)(bf:gj.cls=.ref 64)(aI:gj.data=.fields N)(ah:gj.dict=U)(c:∀am aW cz,am.heap.get? d=o {gj with dict:=o y.heap.objs.size}→am.heap.get? y.heap.objs.size=o (fY [⟨aW,.str (b8 g) cz,l⟩] 1)→(∀e n,e≠d→y.heap.get? e=o n→am.heap.get? e=o n)→(am.gens=y.gens∧am.os=y.os∧am.drawn=y.drawn)→P () am):da (c6 dI x) aS (setAttr (.ref d) (b8 g) l) P S y:=by obtain⟨eU,nd,a9,wd⟩:=AM dD;have D:tL y.heap d gj 64 U:=⟨aH,bf,by unfold notCls;rw[aI],by rw[ah];trivial⟩;refine TP dD bS aY D fun cz e=>?_;unfold storeInOwnDict;refine bo (c9 ?_);show da _ _ (ownDictForStores (.ref d)>>=_) _ _ _;unfold ownDictForStores instanceDict;refine bo (bo (yX aH ?_));rw[bf];refine bo ((looks_clsIn bS nd) _ _ _ _ (fun _ _ b=>b) ?_);rw[wd,ah,if_neg (show¬(!I)=I by decide)];rw[if_neg (show¬(!I||!typeHasDict (.ref 64))=I by decide),aI];refine bo (wpAny_alloc ?_);have HG:(y.heap.push {cls:=.type "dict",data:=.dict #[]}).get? d=o gj:=gr _ aH;have zE:d≠y.heap.objs.size:=ll (h9 aH);refine bo (wpAny_update HG ?_);refine c9 ?_;dsimp only;have M7:((y.heap.push {cls:=.type "dict",data:=.dict #[]}).update d fun n=>{cls:=n.cls,dict:=o y.heap.objs.size,data:=n.data,slots:=n.slots}).get? y.heap.objs.size=o (fY [] 0):=(Mb _ _ _ _ zE.symm).trans (Heap.get?_push_at rfl rfl);have XQ:=vY (fun n:cm=>{cls:=n.cls,dict:=o y.heap.objs.size,data:=n.data,slots:=n.slots}) HG (by have t5:=(Heap.get?_some_iff.mp aH).2;clear M7 HG D ah aI bf c aH;obtain⟨gv,ni,YG,auu⟩:=gj;cases YG<;>first|rfl|exact t5);exact Lv M7 rfl (jT _) fun aW am cx cU gE=>⟨_,rfl,c am aW (y.toks+1) (cU _ _ zE XQ) cx (fun e n aN b=>cU e n (ll (h9 b)) ((Mb _ _ _ _ aN).trans (gr _ b))) gE⟩
theorem aqF{d cr:aD}{gj:cm}{N:Array aa}{az:List h8}{r:Nat}{g:bF}{l:aa}{P:Unit→aT→Prop}(dD:ExcK ao)(bS:ao.In y.heap)(aY:g=.hK∨g=.fj)(aH:y.heap.get? d=o gj)(bf:gj.cls=.ref 64)(aI:gj.data=.fields N)(ah:gj.dict=o cr)(o2:y.heap.get? cr=o (fY az r))(mw:cr≠d)(p2:(gg (b8 g) az).isSome=I)(j0:az.length≤50)(c:∀am aW cz ib,am.heap.get? d=o gj→am.heap.get? cr=o (fY (putL (b8 g) aW (.str (b8 g) cz) l az) ib)→(∀e n,e≠cr→y.heap.get? e=o n→am.heap.get? e=o n)→(am.gens=y.gens∧am.os=y.os∧am.drawn=y.drawn)→P () am):da (c6 dI x) aS (setAttr (.ref d) (b8 g) l) P S y:=by obtain⟨eU,nd,a9,wd⟩:=AM dD;have D:tL y.heap d gj 64 (o (fY az r)):=⟨aH,bf,by unfold notCls;rw[aI],by rw[ah];exact o2⟩;refine TP dD bS aY D fun cz e=>?_;unfold storeInOwnDict;refine bo (c9 ?_);show da _ _ (ownDictForStores (.ref d)>>=_) _ _ _;unfold ownDictForStores instanceDict;refine bo (bo (yX aH ?_));rw[bf];refine bo ((looks_clsIn bS nd) _ _ _ _ (fun _ _ b=>b) ?_);rw[wd,ah,if_neg (show¬(!I)=I by decide)];refine c9 ?_;exact Lv (y:={y with toks:=y.toks+1}) o2 p2 j0 fun aW am cx cU gE=>⟨_,rfl,c am aW (y.toks+1) (putN (b8 g) az r) (cU _ _ mw.symm aH) cx (fun e n aN b=>cU e n aN b) gE⟩
end
end
section
open PySem PySem.W PyProof.Rows PySem.Calls
structure pf(ao:di)(g:aD)(ai:ep)(bY:List cX)(T:List aq)(b2:List aa):Prop where
 t:∃n,ao.lookup g=o n∧n.data=.func ai
 e:ai.body=.stmts bY
 u:∃aM h0 hG,ai.params=⟨[],aM,U,[],h0,U,hG⟩∧aM.map hU=T
 d:T.Nodup
 m:(ai.defaults=.none∧b2=[])∨∃aB n r,ai.defaults=.ref aB∧ao.lookup aB=o n∧n.data=.seq b2.toArray r
 p:b2.length≤T.length
 c:ai.scope.kind=.function
 q:ai.scope.isGenerator=C
 j:ai.scope.isCoroutine=C
 s:ai.globals=hW
 f:ai.builtins=m8
 i:ai.closure=[]
 l:codeIn ao ai.code ai.qualname=I
 v:∀G∈ai.scope.names,G.2≠.cell
 b:∀k∈T,ai.scope.names.lookup k=o .local∧hi k=C
structure Ix(y am:aT):Prop where
 b:∀e n,y.heap.get? e=o n→am.heap.get? e=o n
 c:am.gens=y.gens∧am.os=y.os∧am.drawn=y.drawn
structure lE(ai:ep)(aL:dQ)(O:aD)(z:aq→Option aa)(y:aT):Prop where
 e:aL.scope.kind=.function
 m:aL.globals=hW
 l:aL.builtins=m8
 j:aL.kindOf=fun d=>ai.scope.names.lookup d
 f:aL.locals=O
 k:aL.frame=o O
 c:y.heap.Ns O z
theorem lE.i{ai:ep}{O:aD}{aL:dQ}{y am:aT}{z:aq→Option aa}(d:lE ai aL O z y)(v:∀n,y.heap.get? O=o n→am.heap.get? O=o n):lE ai aL O z am:={d with c:=by obtain⟨n,az,dn,b,t⟩:=d.c;exact⟨n,az,dn,v _ b,t⟩}
set_option backward.match.sparseCases true in theorem Lg{dI:m6}{x:cJ}{aS:g6}{y:aT}{bk:lq→aT→Prop}{ao:di}{g:aD}{ai:ep}{bY:List cX}{T:List aq}{b2 N:List aa}(g8:pf ao g ai bY T b2)(bS:ao.In y.heap)(jA:y.heap.NoLimit)(HA:aS.depth<recursionLimit)(H:N.length≤T.length)(L:T.length≤N.length+b2.length)(c:∀aL bQ z,lE ai aL y.heap.objs.size z bQ→Ix y bQ→(∀(i:Nat)(k:aq)(l:aa),T[i]?=o k→(N++b2.drop (b2.length+N.length-T.length))[i]?=o l→z k=o l)→(∀d,d∉T→z d=U)→da (c6 dI x) (aS.deeper aL) (m9 bY aL) (fun w am=>bk (.ok (.ret (match w with|.ret l=>l|_=>.none))) am) (fun b am=>da (c6 dI x) (aS.deeper aL) (leaving aL b) (fun _ l4=>bk (.error b) l4) (fun dh l4=>bk (.error dh) l4) am) bQ):kq (c6 dI x) aS (.call (.ref g) ⟨N,[]⟩) bk y:=by
 obtain⟨n,aj,aI⟩:=g8.t;obtain⟨aM,h0,hG,al,j1⟩:=g8.u;refine PX HA (bS _ _ aj) aI jA (codeRec_of bS g8.l) g8.e (y7:=T.zip (N++b2.drop (b2.length+N.length-T.length))) (fun fP aS S P cw=>?_) g8.i (fun d aH=>.inl (g8.b _ (List.of_mem_zip aH).1).1) (fun bQ d=>?_) g8.j g8.q g8.c;·subst j1;exact IX al g8.d (b2:=b2) (g8.m.imp id (by rintro⟨aB,cf,r,aG,aK,bA⟩;exact⟨aB,cf,r,aG,bS _ _ aK,bA⟩)) H L g8.p cw
 ·have XG:bQ.gens=y.gens∧bQ.os=y.os∧bQ.drawn=y.drawn:=by obtain⟨bl,cz,b⟩:=d.toInCall.same;rw[b];exact⟨rfl,rfl,rfl⟩
  exact c _ bQ _ ⟨g8.c,g8.s,g8.f,rfl,rfl,rfl,d.toInCall.ns⟩ ⟨d.toInCall.keep,XG⟩ (fun i k l aG aK=>Pn (g8.b _ (dZ aG)).1 g8.d aG aK) fun G a8=>IY a8
section
variable{dI:m6}{x:cJ}{aS:g6}{S:aa→aT→Prop}{y mC:aT}{ao:di}{ai:ep}{g O:aD}{aL:dQ}{z:aq→Option aa}
theorem r3(d:lE ai aL O z y){k:aq}{ap:bc}{l:aa}{P:aa→aT→Prop}(aw:ai.scope.names.lookup k=o .local∧hi k=C)(a9:z k=o l)(c:P l y):da (c6 dI x) aS (eD (.Name k ap) aL) P S y:=wpAny_Name (Mg d.e (by rw[d.j];exact aw.1) (d.f▸d.c) a9 c) (sU aw.2)
theorem Tv(d:lE ai aL O z y)(bS:ao.In y.heap){r:aq}{ap:bc}{l:aa}{P:aa→aT→Prop}(aw:ai.scope.names.lookup r=o .globalImplicit∧hi r=C)(bE:nsIn ao hW r=o (o l)∨(nsIn ao hW r=o U∧nsIn ao m8 r=o (o l)))(c:P l y):da (c6 dI x) aS (eD (.Name r ap) aL) P S y:=by
 refine GN d.e (by rw[d.j];exact aw.1) ?_ (sU aw.2);unfold loadGlobal;rw[d.m,d.l];rcases bE with H|⟨H,L⟩;·exact bo ((yQ bS H).here (c9 c))
 ·exact bo ((yQ bS H).here (bo ((yQ bS L).here (c9 c))))
end
inductive wM(ao:di)(ai:ep)(T:List aq)(bY:List cX):Prop|b(b6:aq)(e4:bc)(c_:aq)(gU fC jo jj cx:bc)(dx:aq)(iy iz iA cU kx ky kz gE:bc)(eH gG:aq)(aN:bY=[.Expr (.Call (.Attribute (.Name b6 e4) c_ gU) [.Name dx fC,.Name eH jo] [] jj) cx,.Assign [.Attribute (.Name dx iy) (b8 .hK) iz] (.Name eH iA) cU,.Assign [.Attribute (.Name dx kx) (b8 .fj) ky] (.Name gG kz) gE])(aY:c_=se "__init__")(al:T=[dx,eH,gG])(aw:(gU.endLine==jj.line)=I)(aI:hi b6=C)(cN:ai.scope.names.lookup b6=o .globalImplicit)(H:nsIn ao hW b6=o U)(L:nsIn ao m8 b6=o (o (.type "Exception"))):wM ao ai T bY
section
variable{E:cV}{aS:g6}{S:aa→aT→Prop}{y mC:aT}{ai:ep}{g O:aD}{aL:dQ}{z:aq→Option aa}
theorem aqr{aL:dQ}{ap:bc}{az:List a0}:∀{N:List aa},az.length=N.length→az.any fw=C→(∀(i:Nat)(b:a0)(l:aa),az[i]?=o b→N[i]?=o l→∀P:aa→aT→Prop,P l y→da (c6 E.d E.e) aS (eD b aL) P S y)→∀{P:List aa→aT→Prop},P N y→da (c6 E.d E.e) aS (spliced (lX ap (kT az aL))) P S y:=by induction az with
 |nil=>
  intro N aw _ _ P u;rcases N with _|_;·exact tI u
  ·exact nomatch aw
 |cons b az ak=>
  intro N aw aW c P u;rcases N with _|⟨l,N⟩;·exact nomatch aw
  ·rw[tB,F']at aW;rw[vC aW.1];exact yN (c 0 b l rfl rfl _ (ak (yM aw) aW.2 (fun i b l g e=>c (i+1) b l g e) u))
theorem aia{b:a0}{ap:bc}{P:Flow→aT→Prop}(ar:aL.scope.kind=.function)(aU:u3 b=C)(c:da (c6 E.d E.e) aS (eD b aL) (fun _ am=>P .next am) S y):da (c6 E.d E.e) aS (exec (.Expr b ap) aL) P S y:=wpAny_Expr_any c (by unfold interactive;rw[ar];rfl) (FU aU _ _ _)
theorem Pd{n b:a0}{d:aq}{k ap:bc}{P:Flow→aT→Prop}(aU:u3 b=C)(c:da (c6 E.d E.e) aS (eD b aL) (fun l bQ=>da (c6 E.d E.e) aS (eD n aL) (fun ue cE=>da (c6 E.d E.e) aS (setAttr ue d l) (fun _ fi=>P .next fi) S cE) S bQ) S y):da (c6 E.d E.e) aS (exec (.Assign [.Attribute n d k] b ap) aL) P S y:=by refine GS (gs c (fun l bQ eV=>?_) fun _ _ b=>b) (by unfold swapsWithSole;exact FU aU _ _ _) rfl;rw[Aq (show fw (.Attribute n d k)=C from rfl)];show da _ aS (oT (.Attribute n d k) aL l) _ _ _;rw[assign_Attribute];refine bo (mr (gs eV (fun ue cE ss=>?_) fun _ _ b=>b));exact bo (p1 (bo (mr (gs ss (fun _ fi u=>wpAny_release u) fun _ _ b=>b))))
theorem alR(dD:ExcK E.b)(d:lE ai aL O z y)(Mx:E.b.In mC.heap)(q9:Ix mC y)(gW:mC.heap.objs.size≤O){T:List aq}{bY:List cX}(a3:wM E.b ai T bY)(j1:∀k∈T,ai.scope.names.lookup k=o .local∧hi k=C){b wy:aD}{gF hw:aa}(a9:∀(i:Nat)(k:aq)(l:aa),T[i]?=o k→[lr b,gF,hw][i]?=o l→z k=o l)(CS:mC.heap.get? b=o (os 64 wy))(Wu:E.b.lookup b=U){P:Flow→aT→Prop}(c:∀am cr az r dc,am.heap.get? b=o {cls:=.ref 64,dict:=o cr,data:=.fields #[.ref dc,.none,.none,.none,.bool C,.none]}→am.heap.get? cr=o (fY az r)→gg (b8 .hK) az=o (o gF)→gg (b8 .fj) az=o (o hw)→gg (b8 .jF) az=o U→mC.heap.get? cr=U→(∀e n,e≠b→mC.heap.get? e=o n→am.heap.get? e=o n)→(am.gens=mC.gens∧am.os=mC.os∧am.drawn=mC.drawn)→P .next am):da (c6 E.d E.e) aS (m9 bY aL) P S y:=by
 obtain⟨b6,e4,c_,gU,fC,jo,jj,cx,dx,iy,iz,iA,cU,kx,ky,kz,gE,eH,gG,rfl,rfl,rfl,o3,o2,Xe,Xu,Xv⟩:=a3;have bS:E.b.In y.heap:=Mx.keeps q9.b;have wg:=a9 0 dx _ rfl rfl;have Nr:=a9 1 eH _ rfl rfl;have zx:=a9 2 gG _ rfl rfl;have Hs:=j1 dx (.head _);have Np:=j1 eH (.tail _ (.head _));have zw:=j1 gG (.tail _ (.tail _ (.head _)));obtain⟨p,eF⟩:=dD.b;have Go:=PySem.F.excBase_Exception;have aU:=q9.b _ _ CS;have M9:b≠O:=ll (fg (h9 CS) gW);refine tP (aia d.e rfl ?_);refine KE (j:=⟨E,aS,aL,O,[],[],[],[],fun _ _ _=>U⟩) rfl o3 rfl (by show 2≤20;decide) ?_;refine Tv d bS ⟨Xe,o2⟩ (.inr ⟨Xu,Xv⟩) ?_;refine method_type (h₀:=mC.heap) (L:=O) (m:=z) ⟨d.c,q9.b,gW⟩ Mx (by rfl) (by decide+kernel) dD.e rfl ?_;refine callWith_of (P:=E.b.In) (by rw[vd rfl];rfl) (fun c bS=>Kd (E:=E) _ c bS) (xe (vd rfl) ?_);have qh:lE ai aL O z {y with toks:=y.toks+1}:=d.i fun _ b=>b;refine aqr (N:=[.ref b,gF]) rfl rfl (fun i MM l H L tz j4=>?_) ?_;·
  rcases i with _|_|i;·obtain rfl:=aJ H;obtain rfl:=aJ L;exact r3 qh Hs wg j4
  ·obtain rfl:=aJ H;obtain rfl:=aJ L;exact r3 qh Np Nr j4
  ·exact bb H
 refine⟨bS,?_⟩;show da _ aS (eT (.builtin "Exception.__init__") [.ref b,gF]) _ _ _;refine p0 (ah4 (fE:=[gF]) Go Qx (bS _ _ eF) aU (io (r:=1) (by decide)) ?_);generalize CT:(y.heap.push {cls:=.type "tuple",data:=.seq [gF].toArray}).update b (sd (·.setIfInBounds 0 (.ref y.heap.objs.size)))=gS;show da (c6 E.d E.e) aS (m9 _ aL) P S ⟨gS,y.gens,y.drawn,y.toks+1,y.os⟩;have W8:(y.heap.push {cls:=.type "tuple",data:=.seq [gF].toArray}).get? b=o (os 64 wy):=gr _ aU;have zt:gS.get? b=o (os 64 y.heap.objs.size):=by rw[←CT,vY _ W8 rfl];rfl
 have zK:∀e n,e≠b→y.heap.get? e=o n→gS.get? e=o n:=fun e n aN u=>by rw[←CT,GQ _ _ (sb aN)];exact gr _ u
 have N6:∀{e n},E.b.lookup e=o n→e≠b:=fun{e n}u m=>bb (Wu.symm.trans (m▸u));have Mz:E.b.In gS:=fun e n u=>zK e n (N6 u) (bS e n u);have z4:lE ai aL O z ⟨gS,y.gens,y.drawn,y.toks+1,y.os⟩:=d.i fun n u=>zK O n M9.symm u;have ia:b<gS.objs.size:=h9 zt;refine tP (Pd rfl (r3 z4 Np Nr (r3 z4 Hs wg ?_)));refine aqE (y:=⟨gS,y.gens,y.drawn,y.toks+1,y.os⟩) dD Mz (.inl rfl) zt rfl rfl rfl fun fi aW cz H L aR bh=>?_;have Va:E.b.In fi.heap:=fun e n u=>aR e n (N6 u) (Mz e n u);have wA:lE ai aL O z fi:=z4.i fun n u=>aR O n M9.symm u;refine tP (Pd rfl (r3 wA zw zx (r3 wA Hs wg ?_)));have N5:b8 .hK≠b8 .fj:=fun u=>nomatch Am u;have Yy:b8 .hK≠b8 .jF:=fun u=>nomatch Am u;have Yz:b8 .fj≠b8 .jF:=fun u=>nomatch Am u;have aG:∀G,b8 .hK≠G→gg G [⟨aW,.str (b8 .hK) cz,gF⟩]=o U:=fun G a8=>(AS (aW:=aW) (s:=cz) (l:=gF) (az:=[]) a8).trans rfl;have aK:gg (b8 .hK) [⟨aW,.str (b8 .hK) cz,gF⟩]=o (o gF):=JS (aW:=aW) (s:=cz) (az:=[]);refine aqF dD Va (.inr rfl) H rfl rfl rfl L (pS ia) (by rw[aG _ N5];rfl) (by show 1≤50;decide) fun jq zz auA ib cx cU gE qe=>?_;refine GW (c jq gS.objs.size _ ib y.heap.objs.size cx cU ?_ JS ?_ ?_ (fun e n aN u=>?_) ?_);·rw[AS N5.symm];exact aK
 ·rw[AS Yz];exact aG _ Yy
 ·cases u:mC.heap.get? gS.objs.size with|none=>rfl|some n=>have:=h9 (zK _ _ (pS ia) (q9.b _ _ u));exact absurd this (tE _)
 ·refine gE e n (fun m=>?_) (aR e n aN (zK e n aN (q9.b _ _ u)));have:=h9 (zK _ _ aN (q9.b _ _ u));rw[m]at this;exact tE _ this
 ·exact⟨qe.1.trans (bh.1.trans q9.c.1),qe.2.1.trans (bh.2.1.trans q9.c.2.1),qe.2.2.trans (bh.2.2.trans q9.c.2.2)⟩
end
end
section
open PySem PySem.W PyProof.Rows PySem.Calls
inductive wY(ai:ep)(T:List aq)(bY:List cX):Prop|b(dx:aq)(e4 fC jo iy:bc)(v:Nat)(iz iA:bc)(aN:bY=[.Return (o (.Tuple [.Attribute (.Name dx e4) (b8 .hK) fC,.Attribute (.Name dx jo) (b8 .fj) iy] v iz)) iA])(al:T=[dx]):wY ai T bY
structure kD(E:cV):Prop extends ExcK E.b where
 l:∃ks ai bY T,hV E.b (.ref 64) "__init__"=o (o (.ref ks))∧typeIn E.b (.ref ks)=o (.type "function")∧pf E.b ks ai bY T [.none]∧wM E.b ai T bY
 n:∃lo ai bY T,hV E.b (.ref 64) (b8 .jF)=o (o (.ref lo))∧typeIn E.b (.ref lo)=o (.type "function")∧pf E.b lo ai bY T []∧wY ai T bY∧keepIn E.b (.ref lo)=I
 d:hV E.b (.ref 64) "__getattribute__"=o (o (.builtin "BaseException.__getattribute__"))
 i:s0 E.b 64 .hK=I∧s0 E.b 64 .fj=I
 k:hV E.b (.ref 64) "__getattr__"=o U
section
variable{j:b5}{au:dU}{A:List (Option K)}{f:af}{m:ay}{S:aa→aT→Prop}
noncomputable abbrev Ba(cr dc:aD):cm:={cls:=.ref 64,dict:=o cr,data:=.fields #[.ref dc,.none,.none,.none,.bool C,.none]}
theorem aro(dD:kD j.b)(aA:dC au j)(D:aP j A f m){gF hw:aa}{N:List aa}{k:M}(bE:N=[gF,hw]∨(N=[gF]∧hw=.none))(al:ca j.b m.d k hw)(Hp:tM gF=I){P:aa→aT→Prop}(Z:∀ae b cr dc,m.c ae→aP j A f ae→ae.b.heap.get? b=o (Ba cr dc)→eZ j ae k b→P (.ref b) ae.b):j.e (eT (.ref 64) N) P S m.b:=by
 obtain⟨ks,ai,bY,T,aG,aK,g8,a3⟩:=dD.l;obtain⟨p,eF⟩:=dD.b;have Go:=PySem.F.excBase_Exception;have j1:T.length=3:=by obtain⟨b6,e4,c_,gU,fC,jo,jj,cx,dx,iy,iz,iA,cU,kx,ky,kz,gE,eH,gG,_,_,rfl,_⟩:=a3;rfl
 have HF:N.length≤2∧1≤N.length:=by rcases bE with rfl|⟨rfl,_⟩;exact⟨df _,m5 _⟩;exact⟨m5 _,df _⟩
 have p_:=D.R;have jA:=j.b.l _ p_;obtain⟨bj,nq,f4,⟨d0,t0,y_,l6,av⟩⟩:=m;have gV:∀{g:aD},d0.objs.size≤g→ci j ⟨bj,nq,f4,⟨d0,t0,y_,l6,av⟩⟩ g:=fun c=>D.ap c;refine ad6 (Looks.of_peek p_ (dD.c _ _)) Go Qx (p_ _ _ eF) (q4 p_ aG) (fun wx=>bind_fn p_ wx aK) (io (bt HF.1 (by decide))) ?_;have v:∀e n,d0.get? e=o n→((d0.push {cls:=.type "tuple",data:=.seq N.toArray}).push (os 64 d0.objs.size)).get? e=o n:=fun e n b=>gr _ (gr _ b);have aU:((d0.push {cls:=.type "tuple",data:=.seq N.toArray}).push (os 64 d0.objs.size)).get? (d0.objs.size+1)=o (os 64 d0.objs.size):=by heap_get
 generalize(d0.push {cls:=.type "tuple",data:=.seq N.toArray}).push (os 64 d0.objs.size)=eV at v aU⊢;refine Lg g8 (p_.keeps v) (jA.keeps v) (gR (kn aA.F) (show 901<1000 by decide)) (by rw[j1];exact kn HF.1) (by rw[j1];exact kn (kn HF.2)) fun aL bQ z d ft a9 _=>?_;refine alR (mC:=⟨eV,t0,y_,l6,av⟩) (gF:=gF) (hw:=hw) dD.toExcK d (p_.keeps v) ft (df _) a3 g8.b (fun i k l H L=>a9 i k l H ?_) aU (Option.eq_none_iff_forall_not_mem.mpr fun n c=>Nat.not_succ_le_self _ (Nat.le_of_succ_le (h9 (p_ _ n c)))) ?_;·
  rcases bE with rfl|⟨rfl,rfl⟩;·rw[j1];exact L
  ·rw[j1];exact L
 ·intro am cr az r dc H L aR bh cT dB d2 et;refine⟨rfl,?_⟩;have HT:∀{e n},d0.get? e=o n→e≠d0.objs.size+1:=fun{e n}u=>ll (Co (h9 u));have ub:∀e n,d0.get? e=o n→am.heap.get? e=o n:=fun e n u=>d2 e n (HT u) (v e n u);have bG:=D.aA ub et;have rd:ci j ⟨bj,nq,f4,⟨d0,t0,y_,l6,av⟩⟩ cr:=Classical.byContradiction fun u=>by obtain⟨n,b⟩:=D.aS u;exact bb (dB.symm.trans (v _ _ b))
  have jW:=gV (m5 _);have i5:d0.objs.size+1≠cr:=fun u=>bb (dB.symm.trans (u▸aU));have O:=(ay.c.d (m:=⟨bj,nq,f4,⟨d0,t0,y_,l6,av⟩⟩) am).k (ay.c.r (fY az r) (rd.s am).d);exact Z ((ay.k ⟨bj,nq,f4,⟨d0,t0,y_,l6,av⟩⟩ am).t cr (fY az r)) (d0.objs.size+1) cr dc O (bG.ax (rd.s am) L) H ⟨⟨qO jW.d i5,jW.i,jW.p,jW.l,jW.r⟩,_,_,cr,az,r,hw,H,rfl,rfl,by show 1<6;decide,.inl rfl,rfl,oF,bh,cT,al.mG O.f,gF,aR,Hp⟩
theorem apj{aL:dQ}{d:Sem aa}{y:aT}{P:Flow→aT→Prop}(dD:kD j.b)(d0:j.i.handled=U)(c:j.e d (fun l bQ=>∃b cr dc,l=.ref b∧j.b.b.In bQ.heap∧bQ.heap.get? b=o (Ba cr dc)∧S (.ref b) bQ) S y):j.e (raiseStmt aL (o d) U) P S y:=by
 obtain⟨p,eF⟩:=dD.b;have zq:(lr 64::sX).contains (.type "BaseException")=I:=by decide+kernel
 unfold raiseStmt;refine bo (gs c (fun l bQ eV=>?_) fun _ _ d=>d);obtain⟨b,cr,dc,rfl,bS,aU,rg⟩:=eV;have eF:=bS _ _ eF;obtain⟨al,zi,F,cz,av⟩:=bQ;repeat(first|with_reducible refine tQ aU ?_|with_reducible refine tQ eF ?_|(with_reducible refine GX eF ?_;rw[zq])|wp_step)
 exact wpAny_raiseNew_none d0 rg
theorem api(dD:kD j.b)(aA:dC au j){d:aq}{kw jj ap:bc}{aM:List a0}{NT:aZ}(t3:hi d=C)(ar:au.b.lookup d=o .globalImplicit)(bE:pn au.c d=o (.ref 64))(Wr:f_[2]?=o 64)(gX:aM.any fw=C)(c:oi j jj aM NT):lG j (.Raise (o (.Call (.Name d kw) aM [] jj)) U ap) (.l NT):=fun A f m D=>by
 refine cq.b (tR:=fun u=>j.e (spliced (lX jj (kT aM j.c))) (fun N bQ=>j.b.b.In bQ.heap∧j.e (eT (.ref 64) N) (fun l cE=>∃b cr dc,l=.ref b∧j.b.b.In cE.heap∧cE.heap.get? b=o (Ba cr dc)∧u.c (.ref b) cE) u.c bQ) u.c m.b) (fun u c=>?_) (cq.c (w:=Bt) (ao:=fun N bQ u=>j.b.b.In bQ.heap∧j.e (eT (.ref 64) N) (fun l cE=>∃b cr dc,l=.ref b∧j.b.b.In cE.heap∧cE.heap.get? b=o (Ba cr dc)∧u.c (.ref b) cE) u.c bQ) (c A f m D) fun ag bW N ba cH bG cs n b u Z=>⟨bG.R,?_⟩);·rw[arm_exec_Raise];refine bo (p1 (apj dD aA.i ?_));show j.e (do let l←eD (.Call (.Name d kw) aM [] jj) j.c;standAt ap;d6 l) _ _ _;rw[Ja rfl];exact bo (bo (GN aA.k (aA.n ar nofun) (Kt D.R aA.r aA.t (aA.s▸bE) (gs (callWith_of (P:=j.b.b.In) (by rw[vd gX];rfl) (fun c bS=>keeps_K (aA.x 2 64 Wr) c bS) (xe (vd gX) c)) (fun l am cw=>bo (p1 (c9 cw))) fun _ _ b=>b)) (sU t3)))
 ·have N0:∀{N:List aa}{gF hw:aa}{k:M},(N=[gF,hw]∨(N=[gF]∧hw=.none))→ca j.b ba.d k hw→tM gF=I→n=.c k bW→j.e (eT (.ref 64) N) (fun l cE=>∃b cr dc,l=.ref b∧j.b.b.In cE.heap∧cE.heap.get? b=o (Ba cr dc)∧u.c (.ref b) cE) u.c ba.b:=fun bE al d0 aj=>by subst aj;exact aro dD aA bG bE al d0 fun ae b cr dc O dE c jr=>⟨b,cr,dc,rfl,dE.R,c,Z b ae A O dE jr⟩
  rcases ag with _|⟨d,t⟩;·exact bb b
  ·refine pi cs fun l sy d' wv=>?_;rcases t with _|⟨G,t⟩;·have aj:n=.c .e bW:=oO (R:=fun _=>n=.c .e bW) (w:=fun _=>o (bV.c .e bW)) b d' fun y s b=>(aJ b).symm;exact w1 wv (N0 (.inr ⟨rfl,rfl⟩) .qr (J4 d') aj)
   ·have b:rF t (ed G fun k=>o (bV.c k bW))=o n:=oO (R:=fun _=>rF t (ed G fun k=>o (bV.c k bW))=o n) (w:=fun _=>rF t (ed G fun k=>o (bV.c k bW))) b d' fun y s b=>b;refine pi wv fun ad br YQ wv=>w0 b wv fun b=>gb b YQ fun k al b=>N0 (.inl rfl) al (J4 d') (aJ b).symm
end
end
section
open PySem PySem.W PyProof.Rows PySem.Calls
theorem ahY:entryFor table "BaseException.__getattribute__"=o Builtin.«object.__getattribute__»:=entryFor_alias (id':="object.__getattribute__") (by kernel_rfl) (by first|rfl|decide+kernel) (by decide+kernel) (by kernel_rfl)
theorem Qy:Slot "Exception" "__getattribute__" "BaseException.__getattribute__":=.of (owner:="BaseException") (n:="__getattribute__") (by rw[typeLookup_type,builtinLookup_eq_fast];kernel_rfl) (by decide+kernel) (by decide+kernel) (by decide+kernel) (.inl (by decide+kernel)) (by rw[isSubtype_type];kernel_rfl)
theorem ah2:builtinKind "BaseException.__getattribute__"=o .slot:=by decide+kernel
theorem ah3:splitId "BaseException.__getattribute__"=o ("BaseException","__getattribute__"):=by decide+kernel
theorem ah0(g e:aa):argsOk "BaseException.__getattribute__" ⟨[g,e],[]⟩:=by unfold argsOk;kernel_rfl
theorem ah1:(Manifest.canonical "BaseException.__getattribute__"!="object.__getattribute__")=C:=by decide+kernel
section
variable{E:cV}{aS:g6}{S:aa→aT→Prop}{y:aT}
theorem ah5(dD:kD E){fP:Model}{c:eh}(bS:E.b.In c):Looks fP c (isSubtype (.ref 64) (.type "BaseException")) I:=by obtain⟨eU,bf,a9,_⟩:=AM dD.toExcK;exact looks_mroIn bS (by unfold mroIn;rw[bf,q1,if_neg (by rw[a9];decide),a9];rfl)
theorem Re(dD:kD E)(bS:E.b.In y.heap){d cr:aD}{gj:cm}{az:List h8}{r:Nat}{g:bF}{l:aa}{tV:Bool}{P:aa→aT→Prop}(aY:g=.hK∨g=.fj)(D:tL y.heap d gj 64 (o (fY az r)))(bE:gg (b8 g) az=o (o l))(d0:tM l=I)(c:P l {y with toks:=y.toks+1}):da (c6 E.d E.e) aS (getAttr (.ref d) (b8 g) tV) P S y:=by
 obtain⟨eU,bf,a9,aI⟩:=AM dD.toExcK;have a3:findObj E.b 64 (o (fY az r)) (b8 g)=o (.value l):=by
  refine wK.ON (JR ?_) ⟨eU,bf,aI⟩ (by rw[lookIn_dict];exact bE);rcases aY with rfl|rfl;·exact dD.i.1
  ·exact dD.i.2
 have i3:=D.type (M:=c6 E.d E.e);have oV:=q4 (M:=c6 E.d E.e) bS dD.d;have m0:=q4 (M:=c6 E.d E.e) bS dD.k;have li:=looks_find (M:=c6 E.d E.e) bS D a3;have Cy:Looks (c6 E.d E.e) y.heap (isInstance (.ref d) (.type "BaseException")) I:=i3.andThen (ah5 dD bS);unfold getAttr getAttrBy;refine bo (wpAny_mkText (mr (bo (i3.at (bo (oV.at ?_))))));show da _ _ (getAttrByItsOwn _ _ _ _ _ _) _ _ _;unfold getAttrByItsOwn hookBefore;refine bo (m0.at ?_);refine bo (wpAny_attempt (mr ?_));rw[show callGetattribute (.ref d) (.str (b8 g) y.toks) (.builtin "BaseException.__getattribute__") tV=boundAndCalled (.builtin "BaseException.__getattribute__") (.ref d) (.str (b8 g) y.toks)by cases tV<;>rfl];unfold boundAndCalled;rw[Qy.bind];refine bo (c9 (p0 ?_));refine Me Qy.plain ahY (@check_slot (c6 E.d E.e) _ _ {y with toks:=y.toks+1} "BaseException.__getattribute__" "BaseException" "__getattribute__" (.ref d) [.str (b8 g) y.toks] [] _ ah2 ah3 Cy (ah0 _ _) ?_);unfold Builtin.«object.__getattribute__»;refine bo (c9 (bo (c9 (bo (i3.at (bo (li.at ?_)))))));refine c9 ?_;show da _ _ (handedOut l) _ _ _;rw[handedOut_of d0];exact c9 c
theorem anE(dD:kD E)(bS:E.b.In y.heap){d cr lo:aD}{gj:cm}{az:List h8}{r:Nat}{i6:Sem Bool}{P:aa×List aa→aT→Prop}(D:tL y.heap d gj 64 (o (fY az r)))(o2:gj.dict=o cr)(a3:hV E.b (.ref 64) (b8 .jF)=o (o (.ref lo)))(bu:typeIn E.b (.ref lo)=o (.type "function"))(aw:gg (b8 .jF) az=o U)(c:P (.ref lo,[.ref d]) y):da (c6 E.d E.e) aS (q7 (.ref d) (b8 .jF) i6) P S y:=by unfold q7 specialOf;refine bo (bo (D.type.here ((q4 bS dD.d).here ?_)));dsimp only;rw[ah1,if_neg (by decide)];refine bo (bo (D.type.here ((q4 bS dD.k).here ?_)));refine bo (bo (D.type.here ((q4 bS a3).here (bo ((looks_typeIn bS bu).here ?_)))));rw[if_neg (by decide+kernel)];refine bo (yX D.at_ ?_);have aI:=D.dict;rw[o2]at aI⊢;refine bo (bo (yX aI ?_));rw[nsLook_of (show lookIn (b8 .jF) (fY az r)=o U by rw[lookIn_dict];exact aw)];refine c9 ?_;exact bo (wpAny_rule (c9 c))
end
section
variable{E:cV}{aS:g6}{S:aa→aT→Prop}{y:aT}
theorem Pf{n:aq}{bH ap:bc}{d:aq}{aL:dQ}{P:aa→aT→Prop}(c:da (c6 E.d E.e) aS (eD (.Name n bH) aL) (fun l bQ=>da (c6 E.d E.e) aS (getAttr l d I) P S bQ) S y):da (c6 E.d E.e) aS (eD (.Attribute (.Name n bH) d ap) aL) P S y:=Attribute_any_ c (by with_unfolding_all rfl)
theorem arE(dD:kD E)(aI:aS.depth≤900)(bS:E.b.In y.heap){d cr lo:aD}{gj:cm}{N:Array aa}{az:List h8}{r:Nat}{gF hw:aa}{ai:ep}{bY:List cX}{T:List aq}(g8:pf E.b lo ai bY T [])(a3:wY ai T bY)(aH:y.heap.get? d=o gj)(bf:gj.cls=.ref 64)(W3:gj.data=.fields N)(o2:gj.dict=o cr)(W4:y.heap.get? cr=o (fY az r))(H:gg (b8 .hK) az=o (o gF))(L:gg (b8 .fj) az=o (o hw))(Hp:tM gF=I)(CT:tM hw=I){P:aa→aT→Prop}(Z:∀am aB,Ix y am→IsTup am.heap aB #[gF,hw]→y.heap.objs.size≤aB→P (.ref aB) am):da (c6 E.d E.e) aS (eT (.ref lo) [.ref d]) P S y:=by obtain⟨dx,e4,fC,jo,iy,v,iz,iA,rfl,rfl⟩:=a3;refine p0 (Lg g8 bS (E.l _ bS) (gR aI (by decide)) (df _) (df _) fun aL bQ z bk ft a9 _=>?_);have wg:=a9 0 dx (.ref d) rfl rfl;have aw:=g8.b dx (.head _);have My:=bS.keeps ft.b;have D:∀{s:Tok},tL ({bQ with toks:=s}:aT).heap d gj 64 (o (fY az r)):=fun{s}=>⟨ft.b _ _ aH,bf,by unfold notCls;rw[W3],by rw[o2];exact ft.b _ _ W4⟩;refine tP (GU (GV ?_));rw[vC (show fw (.Attribute _ _ _)=C from rfl)];refine yN (Pf (r3 bk aw wg (Re dD My (cr:=cr) (.inl rfl) (D (s:=bQ.toks)) H Hp ?_)));rw[vC (show fw (.Attribute _ _ _)=C from rfl)];have U6:lE ai aL y.heap.objs.size z {bQ with toks:=bQ.toks+1}:=bk.i fun _ b=>b;refine yN (Pf (r3 U6 aw wg (Re dD (y:={bQ with toks:=bQ.toks+1}) My (cr:=cr) (.inr rfl) (D (s:=bQ.toks+1)) L CT ?_)));refine tI ⟨io (r:=2) (by decide),?_⟩;refine Z _ bQ.heap.objs.size ⟨fun e n b=>gr _ (ft.b e n b),ft.c⟩ ⟨_,ko _ rfl,rfl,0,rfl⟩ ?_;obtain⟨n,az,dn,b,_⟩:=bk.c;exact oQ (h9 b)
end
end
section
open PySem PySem.W PyProof.Rows PySem.Calls
section
variable{j:b5}{au:dU}{A:List (Option K)}{f el:af}{m:ay}{S:aa→aT→Prop}{er:ea}{r:Nat}
noncomputable def JU(ao:di)(bN:gw):dU:={b:=bN,g:=[],e:=hy bN,c:=ao,i:=U}
def Ad(E:cV):Prop:=∀(bN:gw)(e:a0)(b:aZ),E.j bN e b→∀j:b5,dC (JU E.b bN) j→j.b=E→uu j e b
theorem amt(oU:qp j.b)(rg:Ad j.b)(ej:rv j.i j.k r)(eF:∀fz ha,k4 fz ha r→sI j.b fz ha er)(D:aP j A f m){b:aZ}{eK:List Nat}{g:aD}(t:uv j.b m b eK g):d3 j (b7 j.b) A m (eT (.ref g) []) (sS er dm (.d b eK) f):=fun ds aO dh P S Z=>by
 obtain⟨ai,n,bY,H,L,aR,bh,dB,d2,et,hH,gh,jm,h_,h',re,o1,sm,q,gv,N,s,v',wa,zn,wb,wc⟩:=t;refine p0 (kla_callFunE (gR (bt (bt (ho _ 1) (ho ..)) ej.d) (by decide)) (D.p _ _ H) aR hH et bh ⟨q,gv,N,s,v',D.p _ _ wa,wb,wc⟩ ?_);refine IX (gZ:=[]) (b2:=[]) h' yH (.inl ⟨re,rfl⟩) (df _) (df _) (df _) ?_;show da _ _ (newFunctionEnv ai.scope ai.globals ai.closure [] (ai.qualname++".<locals>.") (o g) ai.code U ai.builtins) _ _ m.b;refine wpAny_newFunctionEnv h_ (fun d aH=>nomatch aH) (fun bl t8 CY=>?_) d2;have Nn:∀e n,m.b.heap.get? e=o n→bl.get? e=o n:=fun e n b=>CY.extBut e n (ll (h9 b)) (gr _ b);refine⟨(j.b.l _ D.R).keeps Nn,kla_codeExpr ?_⟩;have lY:=D.ap (df _);generalize gW:m.b.heap.objs.size=O at t8 CY lY⊢;generalize jY:newEnv ai.scope O ai.globals ai.closure (ai.qualname++".<locals>.") (o g) ai.code U ai.builtins=aL;have zu:aL.frame=o O:=by rw[←jY];rfl
 have zA:aL.scope=ai.scope:=by rw[←jY];rfl
 have sp:aL.cells=ai.closure:=by rw[←jY];rfl
 have t7:aL.scope.kind=.function:=zA▸d2;have CL:∀(i:Nat)(d:aq),(hy ai.scope.names)[i]?=o d→∃Q k,eK[i]?=o Q∧m.f[Q]?=o k∧aL.cells.lookup d=o k.1:=fun i d aH=>by have b:=hT (o1▸(eg.mp aH).1);obtain⟨k,cx,cU⟩:=sm i d _ aH b;exact⟨_,k,b,cx,sp▸cU⟩
 have dE:aP ⟨j.b,j.i.deeper aL,aL,O,O::j.k,[],hy ai.scope.names,eK,er⟩ [] f (m.l j C {m.b with heap:=bl,toks:=m.b.toks+([]:List (aq×aa)).length}):=D.aQ (bq:=C) Nn ⟨rfl,rfl,rfl⟩ lY (fun g c=>(gQ.mp c).symm) (fun g c=>.tail _ c) ⟨_,t8,rfl,fun i G a8=>bb a8⟩ ⟨o1.symm,fun i Q d nX cx cU gE=>by obtain⟨ew,k,dw,dM,fp⟩:=CL i d cU;obtain rfl:=aJ (dw.symm.trans cx);exact⟨k,dM,aJ (gE.symm.trans fp)⟩⟩;have nc:=ej.c zu t7;have jV:=ej.i zu t7;have GM:dC (JU j.b.b ai.scope.names) ⟨j.b,j.i.deeper aL,aL,O,O::j.k,[],hy ai.scope.names,eK,er⟩:={k:=t7,z:=fun G a8=>a8.elim (fun a8=>absurd rfl (h_ _ (rX a8))) fun a8=>by obtain⟨i,a4⟩:=vQ (vT.mpr ⟨(G,.free),rX a8,rfl⟩:G∈hy ai.scope.names);obtain⟨Q,k,_,_,fp⟩:=CL i G a4;exact⟨k.1,fp⟩,H:=fun G v a8=>.inl (by show aL.scope.names.lookup G=_;rw[zA];exact a8),J:=rfl,u:=rfl,s:=rfl,L:=nofun,r:=by rw[←jY];exact gh,t:=by rw[←jY];exact jm,D:=by rw[←jY];rfl,N:=yH,i:=nc.d,F:=bt (ho ..) nc.c,E:=gR (pP (bt (ho ..) nc.e) 64) (by decide),p:=jV,x:=oU,y:=eF _ _ nc};have c':∀g∈j.k,g∈O::j.k:=fun g c=>.tail _ c;refine bL.l (rg _ _ _ dB _ GM rfl [] f _ dE) (show bU (d_ er dm b [] eK f) (fun d f=>ed d fun k=>cW (.b k) f)=o (ds,aO)from dh) (fun k b4 d bB dd bD jr=>?_) fun d bW l bB dd bD fv zf=>?_;·subst b4;exact Sl bD jr jV fun fi gu wA _=>Z d (m.r (bB.k fi) C) (dd.k (ay.c.d fi)).w (D.aC (dR:=⟨j.b,j.i.deeper aL,aL,O,O::j.k,[],hy ai.scope.names,eK,er⟩) rfl lY (fun g c=>(gQ.mp c).symm) c' (dd.k (ay.c.d fi)) gu) (wA.Ir (dR:=⟨j.b,j.i.deeper aL,aL,O,O::j.k,[],hy ai.scope.names,eK,er⟩) D rfl c' (dd.k (ay.c.d fi)))
 ·refine gb (w:=fun k=>cW (K.b k) bW) zf fv fun k al zf=>?_;obtain⟨rfl,rfl⟩:=bw (aJ zf);exact Z l (m.r bB C) dd.w (D.aC (dR:=⟨j.b,j.i.deeper aL,aL,O,O::j.k,[],hy ai.scope.names,eK,er⟩) rfl lY (fun g c=>(gQ.mp c).symm) c' dd bD) al
theorem aP.ba(ah:j.t=[])(D:aP j A f m){am:aT}{z:aq→Option aa}(t8:am.heap.Ns j.m z)(aW:vX j.m m.b.heap am.heap)(b4:am.gens=m.b.gens∧am.os=m.b.os∧am.drawn=m.b.drawn):aP j A f (m.k am):=by have cu:∀e n,e≠j.m→m.b.heap.get? e=o n→am.heap.get? e=o n:=fun e n aN b=>SameBut.b aW aN b;obtain⟨cf,ML,atZ,zj,zk,at1⟩:=id t8;exact{
 ao:=D.ao,p:=fun g n c=>cu g n (fun q=>bb (D.x.1.symm.trans (q▸c))) (D.p g n c),Z:=fun g n c=>by obtain⟨cf,H,L⟩:=D.Z g n c;exact⟨cf,cu g cf (fun q=>bb (D.x.2.1.symm.trans (q▸c))) H,L⟩,ai:=D.ai,x:=D.x,y:=D.y,G:=fun g c=>by
  obtain⟨H,L,n,aR,bh⟩:=D.G g c;by_cases q:g=j.m;·exact⟨H,L,cf,q▸zj,fun N=>by rw[zk];exact nofun⟩
  ·exact⟨H,L,n,cu g n q aR,bh⟩,P:=⟨z,t8,by obtain⟨_,_,c,_⟩:=D.P;exact c,fun i d aH=>by rw[ah]at aH;exact bb aH⟩,E:=D.E,ag:=D.ag,S:=fun v k n al aj=>by have a9:=dZ al;have i5:∀e,iP m.f e→e≠j.m:=fun e aN q=>D.x.2.2 (q▸aN);exact(D.S v k n al aj).pd (ay.c.d am).toUp (fun n=>cu k.1 n (i5 _ ⟨k,a9,.inl rfl⟩)) (fun n=>cu k.2 n (i5 _ ⟨k,a9,.inr rfl⟩)),Y:=D.Y,J:=⟨b4.1.trans D.J.1,b4.2.1.trans D.J.2.1,b4.2.2.trans D.J.2.2⟩}
end
end
section
open PySem PySem.W PyProof.Rows PySem.Calls
inductive wL(ao:di)(ai:ep)(T:List aq)(bY:List cX):Prop|b(c_:aq)(e4 fC jo:bc)(d:aq)(iy:bc)(r:aq)(iz gU n0:bc)(v:Nat)(iA kx ky kz o6 wq:bc)(aN:bY=[.Try [.Return (o (.Call (.Name c_ e4) [] [] fC)) jo] [.ExceptHandler (o (.Name d iy)) (o r) [.Return (o (.List [.Subscript (.Call (.Attribute (.Name r iz) (b8 .jF) gU) [] [] n0) (.Constant (.int 1) v iA) kx] ky)) kz] o6] [] [] wq])(al:T=[c_])(H:nsIn ao hW d=o (o (.ref 64)))(L:ai.scope.names.lookup d=o .globalImplicit)(aR:hi d=C)(bh:ai.scope.names.lookup r=o .local)(cT:hi r=C)(dB:(gU.endLine==n0.line)=I):wL ao ai T bY
section
variable{j:b5}{au:dU}{A:List (Option K)}{f el:af}{m bB:ay}{S:aa→aT→Prop}{er:ea}{r:Nat}
theorem alC(dD:kD j.b)(ah:j.t=[])(aI:j.i.depth≤900)(D:aP j [] f m){b:aD}{k:M}(jr:eZ j m k b){ai:ep}{aL:dQ}{z:aq→Option aa}(bk:lE ai aL j.m z m.b)(jY:j.c=aL){cD:aq}{iz gU n0 iA kx ky kz:bc}{v:Nat}(o4:ai.scope.names.lookup cD=o .local)(rk:hi cD=C)(a9:z cD=o (.ref b))(o3:(gU.endLine==n0.line)=I){P:Flow→aT→Prop}(Z:∀ae l,m.c ae→aP j [] f ae→ca j.b ae.d (.f [k]) l→P (.ret l) ae.b):j.e (m9 [.Return (o (.List [.Subscript (.Call (.Attribute (.Name cD iz) (b8 .jF) gU) [] [] n0) (.Constant (.int 1) v iA) kx] ky)) kz] aL) P S m.b:=by obtain⟨lo,at0,atV,auy,gY,dc,U5,j5,Ia⟩:=dD.n;obtain⟨atX,n,N,cr,az,HT,hw,na,p6,sj,v6,G2,G3,Vu,Vv,Vr,MG,gF,Vs,Vt⟩:=jr;have o2:=D.p _ _ Vu;refine tP (GU (wpAny_List_spliced ?_));rw[vC (show fw (.Subscript _ _ _)=C from rfl)];refine yN (Subscript_ ?_);rw[←jY];refine KE rfl o3 rfl (by show 0≤20;decide) ?_;rw[jY];refine wpAny_Name (Mg bk.e (by rw[bk.j];exact o4) (bk.f▸bk.c) a9 ?_) (sU rk);refine anE dD D.R (gj:=n) (cr:=cr) (az:=az) (r:=HT) ⟨na,p6,by unfold notCls;rw[sj],by rw[G3];exact o2⟩ G3 gY dc Vr ?_;refine callWith_of (P:=j.b.b.In) rfl (fun c bS=>keeps_K Ia c bS) (xe rfl (tI ⟨D.R,?_⟩));show j.e (eT (.ref lo) [.ref b]) _ _ _;refine arE dD aI D.R U5 j5 na p6 sj G3 o2 Vs Vv Vt (RC MG) fun o9 atJ Mm MY _=>?_;rw[eval_Constant];refine fun _ _ _=>?_;refine tail_any (s:={o9 with toks:=o9.toks+1}) (T:="tuple") MY.typeIs PySem.F.slot_tuple_getitem.lookup (PyProof.Rows.getItem_tuple (s:={o9 with toks:=o9.toks+1}) (j:=1) MY (by decide) (by decide) rfl rfl ?_) (T3 rfl _ _);refine tI ⟨io (r:=1) (by decide),?_⟩;have Mt:=D.aA Mm.b Mm.c;have p3:=Mt.aE (ps [hw]) (o9.toks+1);have w:ci j ((m.k o9).k {o9 with heap:=o9.heap.push (ps [hw]),toks:=o9.toks+1}) o9.heap.objs.size:=(Mt.ap (df _)).s _;have O:=((ay.c.d (m:=m) o9).k (ay.c.d _)).k (ay.c.r (ps [hw]) w.d);exact Z _ _ O (p3.ax w (ko _ rfl)) (.rD [hw] _ oF ⟨0,rfl⟩ rfl fun i u ad g e=>(TO (MG.mG O.f)).2 i u ad g e)
theorem aP.a'(D:aP j A f m)(fz:g6):aP {j with i:=fz} A f m:={D with}
theorem eZ.Zq{k:M}{b:aD}(d:eZ j m k b)(fz:g6):eZ {j with i:=fz} m k b:=by have fR:∀{e},ci j m e→ci {j with i:=fz} m e:=fun w=>⟨w.d,w.i,w.p,w.l,w.r⟩;obtain⟨L,eL,N,cr,az,z,l,aR,bh,cT,dB,d2,et,gh,jm,h_,h',lZ⟩:=d;exact⟨fR L,eL,N,cr,az,z,l,aR,bh,cT,dB,d2.imp id (by rintro⟨aB,fS,aQ,c_,e3,gT,nW⟩;exact⟨aB,fS,aQ,c_,e3,fR gT,nW⟩),et,gh,jm,h_,h',lZ⟩
theorem arl(dD:kD j.b)(D:aP j A f m){b:aD}{k:M}(jr:eZ j m k b){ai:ep}{z:aq→Option aa}(bk:lE ai j.c j.m z m.b){d:aq}{iy o6:bc}(zD:nsIn j.b.b hW d=o (o (.ref 64)))(aH:ai.scope.names.lookup d=o .globalImplicit∧hi d=C){aS:g6}{P:Except aa Flow→aT→Prop}(u:P (.ok .brk) m.b):kq (c6 j.b.d j.b.e) aS (.handlers (.ref b) [.ExceptHandler (o (.Name d iy)) U [] o6] j.c) P m.b:=by refine codeAny_handlers_test (Tv bk D.R aH (.inl zD) ?_);obtain⟨p,eF⟩:=dD.b;obtain⟨_,eL,_,_,_,_,_,dw,dM,_⟩:=jr;exact wpAny_excMatches_sub_self (h:=m.b.heap) (D.R _ _ eF) dw dM (by decide+kernel) ((if_pos (c:=I=I) rfl).symm▸u)
theorem aqY(dD:kD j.b)(ah:j.t=[])(aI:j.i.depth≤900)(D:aP j [] f m){b:aD}{k:M}(jr:eZ j m k b)(um:qs m.b.heap b){ai:ep}{z:aq→Option aa}{bQ:aT}(bk:lE ai j.c j.m z bQ){cD:aq}{iz gU n0 iA kx ky kz o6:bc}{v:Nat}(wf:j.c.kindOf cD=o .local)(wh:(j.c.scope.kind==.class||(j.c.scope.kind==.module&&j.c.locals !=j.c.globals))=C)(o4:ai.scope.names.lookup cD=o .local)(rk:hi cD=C)(o3:(gU.endLine==n0.line)=I){P:Except aa Flow→aT→Prop}(Z:∀ae l,m.c ae→aP j [] f ae→ca j.b ae.d (.f [k]) l→P (.ok (.ret l)) ae.b):kq (c6 j.b.d j.b.e) j.i (.handlers (.ref b) [.ExceptHandler U (o cD) [.Return (o (.List [.Subscript (.Call (.Attribute (.Name cD iz) (b8 .jF) gU) [] [] n0) (.Constant (.int 1) v iA) kx] ky)) kz] o6] j.c) P m.b:=by have No:=bk.f;refine codeAny_handlers_suite_as (BF D jr um fun nm Ms Zd _=>?_);obtain⟨auo,Nt,_⟩:=Ms.P;refine wpAny_storeName_local wf (No▸Nt) (fun HI Hx HC=>?_) wh;rw[No]at Hx HC;refine alC (m:=m.k {nm with heap:=HI,toks:=nm.toks+1}) dD ah aI (Ms.ba (am:={nm with heap:=HI,toks:=nm.toks+1}) ah Hx HC ⟨rfl,rfl,rfl⟩) (Zd.Iq (am:={nm with heap:=HI,toks:=nm.toks+1}) Nt HC) {bk with c:=Hx} rfl o4 rk (if_pos rfl) o3 fun pa l ty p3 o7=>?_;exact Z pa l ((ay.c.d _).k ty) p3 o7
theorem aah(oU:qp j.b)(rg:Ad j.b)(ej:rv j.i j.k r)(eF:∀fz ha,k4 fz ha r→sI j.b fz ha j.l)(D:aP j A f m){nX:aD}{C1:aZ}{eK:List Nat}(Cz:uv j.b m C1 eK nX){ai:ep}{z:aq→Option aa}(bk:lE ai j.c j.m z m.b){c_:aq}{e4 fC:bc}(zw:ai.scope.names.lookup c_=o .local∧hi c_=C)(zx:z c_=o (.ref nX)):d3 j (b7 j.b) A m (eD (.Call (.Name c_ e4) [] [] fC) j.c) (sS j.l dm (.d C1 eK) f):=fun t aO aU P S Z=>by
 rw[show eD (.Call (.Name c_ e4) [] [] fC) j.c=(do v3 fC (←eD (.Name c_ e4) j.c) [] (lX fC (kT [] j.c)) (backToKw fC (keywordEach [] j.c)))from rfl];refine bo (r3 bk zw zx ?_);have U2:=Cz;obtain⟨CI,n,_,cx,_,cU,_⟩:=U2;refine callWith_of (P:=fun c=>∃n ai,c.get? nX=o n∧n.data=.func ai) rfl (fun c u=>⟨.frame,.inl rfl,fun aS P S y v j4=>?_⟩) (xe rfl (tI ⟨⟨n,CI,D.p _ _ cx,cU⟩,?_⟩));·obtain⟨n,ai,cx,cU⟩:=u;unfold keeperOf;refine bo (wpAny_load (v _ _ cx) ?_);rw[cU];exact c9 j4
 ·exact amt oU rg ej eF D Cz t aO aU P S Z
theorem ad9(dD:kD j.b)(ah:j.t=[])(D:aP j [] f m){b:aD}{k u:M}(jr:eZ j m k b){ai:ep}{z:aq→Option aa}(bk:lE ai j.c j.m z m.b){d cD:aq}{iy o6:bc}{ME:cX}(zD:nsIn j.b.b hW d=o (o (.ref 64)))(aH:ai.scope.names.lookup d=o .globalImplicit∧hi d=C)(o4:ai.scope.names.lookup cD=o .local){P:Flow→aT→Prop}(Hb:(j.c.kindOf cD=o .local)→((j.c.scope.kind==.class||(j.c.scope.kind==.module&&j.c.locals !=j.c.globals))=C)→∀{R:Except aa Flow→aT→Prop},(∀ae l,m.c ae→aP j [] f ae→ca j.b ae.d u l→R (.ok (.ret l)) ae.b)→kq (c6 j.b.d j.b.e) (j.i.mark (o (.ref b))) (.handlers (.ref b) [.ExceptHandler U (o cD) [ME] o6] j.c) R m.b)(Z:∀ae l,m.c ae→aP j [] f ae→ca j.b ae.d u l→P (.ret l) ae.b):j.e (handleBy (.ref b) j.c [.ExceptHandler (o (.Name d iy)) (o cD) [ME] o6]) P S m.b:=by
 have wh:(j.c.scope.kind==.class||(j.c.scope.kind==.module&&j.c.locals !=j.c.globals))=C:=by rw[bk.e];rfl
 have wf:j.c.kindOf cD=o .local:=by rw[bk.j];exact o4
 refine wpAny_handleBy_cons (arl dD D jr bk zD aH (Hb wf wh fun pa l ty p3 o7=>?_)) (fun u=>nomatch u);obtain⟨aup,Xt,_⟩:=p3.P;refine wpAny_nameGoes wf (bk.f▸Xt) wh fun NR auq Nx NK=>?_;rw[bk.f]at Nx NK;exact Z (pa.k {pa.b with heap:=NR,toks:=pa.b.toks+1}) l (ty.k (ay.c.d _)) (p3.ba (am:={pa.b with heap:=NR,toks:=pa.b.toks+1}) ah Nx NK ⟨rfl,rfl,rfl⟩) o7
theorem arI(jV:pb j.i j.c j.k){CB:a0}{HH:ExceptHandler}{jo wq:bc}{x:bJ K}(c2:d3 j (b7 j.b) [] m (eD CB j.c) x){P:Flow→aT→Prop}{t:Except M K}{aO:af}(aU:xU x=o (t,aO))(Hb:∀{ae:ay}{b:aD}{k:M}{tz:Flow→aT→Prop},aP j [] aO ae→eZ j ae k b→qs ae.b.heap b→(∀bB l,ae.c bB→aP j [] aO bB→ca j.b bB.d (.f [k]) l→tz (.ret l) bB.b)→j.e (handleBy (.ref b) j.c [HH]) tz S ae.b)(Z:∀ae G l,t=.ok G→m.c ae→aP j [] aO ae→b7 j.b ae G l→P (.ret l) ae.b):j.e (m9 [.Try [.Return (o CB) jo] [HH] [] [] wq] j.c) P S m.b:=by
 rcases x with _|⟨x,el⟩;·exact bb aU
 refine tP (wpAny_Try_except (tP (GU (c2 _ _ rfl _ _ ?_))));rcases x with k|G;·obtain⟨rfl,rfl⟩:=bw (aJ aU);exact fun b bB dd bD jr=>E9 bD jr jV fun fi gu wA YY=>BF gu wA YY fun jq i2 Dl Ib=>Hb i2 Dl Ib fun pa l ty p3 o7=>Z pa _ l rfl (dd.k ((ay.c.d fi).k ((ay.c.d jq).k ty))) p3 o7
 ·obtain⟨rfl,rfl⟩:=bw (aJ aU);exact fun l bB dd bD fv=>Z bB G l rfl dd bD fv
theorem alJ(dD:kD j.b)(oU:qp j.b)(rg:Ad j.b)(ej:k4 j.i j.k (r+1))(eF:∀fz ha,k4 fz ha r→sI j.b fz ha er)(D:aP j A f m){g:aD}{ai:ep}{bY:List cX}{T:List aq}(g8:pf j.b.b g ai bY T [])(a3:wL j.b.b ai T bY){ag:List K}{N:List aa}(b4:em j.b m ag N):d3 j (b7 j.b) A m (eT (.ref g) N) (mb ag fun d=>xU (sS er dm d f)):=fun t aO aU P S Z=>by
 rcases ag with _|⟨d,ag⟩;·exact bb aU
 refine pi b4 fun l N zU wv=>w0 aU wv fun aU=>?_;rcases d with k|v|⟨C1,eK⟩;·exact bb aU
 ·exact bb aU
 obtain⟨nX,rfl,Cz⟩:=zU;have aU:xU (sS er dm (.d C1 eK) f)=o (t,aO):=aU;obtain⟨c_,e4,fC,jo,d,iy,cD,iz,gU,n0,NV,iA,kx,ky,kz,o6,wq,rfl,rfl,zD,XO,XN,o4,rk,o3⟩:=a3;have G_:=ej.k;refine p0 (Lg g8 D.R (j.b.l _ D.R) (gR (bt (bt (ho _ 1) (ho ..)) G_.d) (by decide)) (df _) (df _) fun aL bQ z bk ft a9 _=>?_);have zx:=a9 0 c_ _ rfl rfl;have zw:=g8.b c_ (.head _);have lY:=D.ap (df _);generalize m.b.heap.objs.size=O at bk lY;have bG:aP ⟨j.b,j.i.deeper aL,aL,O,O::j.k,[],[],[],er⟩ [] f (m.l j C bQ):=D.aQ (bq:=C) ft.b ft.c lY (fun g c=>(gQ.mp c).symm) (fun g c=>.tail _ c) ⟨_,bk.c,rfl,fun i G a8=>bb a8⟩ ⟨rfl,fun i v d g c=>bb c⟩;have nc:=G_.c bk.k bk.e;have aI:(j.i.deeper aL).depth≤900:=bt (ho ..) nc.c;have CB:=aah (j:=⟨j.b,j.i.deeper aL,aL,O,O::j.k,[],[],[],er⟩) (e4:=e4) (fC:=fC) oU rg ⟨nc.d,F2 (q:=2) (F:=0) (by decide) ej.c,F2 (q:=6) (F:=0) (by decide) ej.e,nc.i⟩ eF bG (Cz.OP ⟨fun _ _ c=>c,[],(hE _).symm⟩) bk zw zx;refine arI (j:=⟨j.b,j.i.deeper aL,aL,O,O::j.k,[],[],[],er⟩) (G_.i bk.k bk.e) CB aU (fun i2 Dl Ib Z=>?_) fun bB G l b4 dd bD fv=>?_;·obtain⟨aun,Xs,_⟩:=i2.P;exact ad9 (j:=⟨j.b,j.i.deeper aL,aL,O,O::j.k,[],[],[],er⟩) dD rfl i2 Dl {bk with c:=Xs} zD ⟨XO,XN⟩ o4 (fun wf wh _ Z=>aqY (j:=⟨j.b,(j.i.deeper aL).mark _,aL,O,O::j.k,[],[],[],er⟩) dD rfl aI (i2.a' _) (Dl.Zq _) Ib bk wf wh o4 rk o3 fun pa l ty p3 o7=>Z pa l ty (p3.a' _) o7) Z
 ·subst b4;exact Z l (m.r bB C) dd.w (D.aC (dR:=⟨j.b,j.i.deeper aL,aL,O,O::j.k,[],[],[],er⟩) rfl lY (fun g c=>(gQ.mp c).symm) (fun g c=>.tail _ c) dd bD) (fv.c ⟨fun _ _ c=>c,[],(hE _).symm⟩)
end
end
section
open PySem PySem.W PyProof.Rows PySem.Calls
noncomputable def hz{V:Type}(e:Bool)(w:e=I→Option V):Option V:=match e,w with|true,w=>w rfl|false,_=>U
noncomputable def gM{V:Type}(e:Bool)(w:e=C→Option V):Option V:=match e,w with|false,w=>w rfl|true,_=>U
noncomputable def ik{V bg:Type}(n:Option V)(w:∀g,n=o g→Option bg):Option bg:=match n,w with|some g,w=>w g rfl|none,_=>U
theorem II{d:aq}{g:bF}(c:DP d=o g):d=b8 g:=aqL (beq_iff_eq.mp (show(g.ru==d.cps.toList)=I from Gl (p:=fun g:bF=>g.ru==d.cps.toList) c)).symm
abbrev iH(au:dU)(b:a0):=Option {g:aZ//∀j,dC au j→c4 j b g}
abbrev Zm(au:dU)(b:Option a0):=Option {g:aZ//∀j,dC au j→Af j b g}
abbrev OH(au:dU)(ap:bc)(az:List a0):=Option {g:aZ//∀j,dC au j→oi j ap az g}
abbrev Zl(au:dU)(ap:bc)(eW:List (Option a0))(N:List a0):=Option {g:aZ//(∀j,dC au j→z_ j ap eW N g)∧(eW=[]→g=.e)}
noncomputable def FA(aL:dQ)(k:aq×lp):aq×lp:=if(k.2==.free&&aL.scope.kind==.function&&aL.kindOf k.1==o .cell)=I then(k.1,.cell)else k
theorem app{aL:dQ}{d:aq}{v:lp}{p:gw}(c:p.lookup d=o v):(p.map (FA aL)).lookup d=o v∨(v=.free∧(p.map (FA aL)).lookup d=o .cell):=by induction p with|nil=>exact bb c|cons G p ak=>
 obtain⟨r,fq⟩:=G;rw[pK]at c;rw[pL];rcases cU:(fq==Cr&&aL.scope.kind==.function&&aL.kindOf r==o .cell)with _|_;·
  rw[show FA aL (r,fq)=(r,fq)from if_neg (by rw[cU];decide),pK];rcases u:(d==r)with _|_;·rw[u]at c;exact ak c
  ·rw[u]at c;exact .inl c
 ·rw[show FA aL (r,fq)=(r,.cell)from if_pos cU,pK];rcases u:(d==r)with _|_;·rw[u]at c;exact ak c
  ·rw[u]at c;exact .inr ⟨(aJ c).symm.trans (beq_iff_eq.mp (bX (bX cU).1).1),rfl⟩
theorem apq{aL:dQ}{cg:ir}{d:aq}{v:lp}(c:cg.names.lookup d=o v):(relabel cg aL).names.lookup d=o v∨(v=.free∧(relabel cg aL).names.lookup d=o .cell):=app (aL:=aL) c
theorem D6{au:dU}{j:b5}(aA:dC au j){cg:ir}(H:(cg.kind==.function)=I)(L:uS au.b cg.names=I):qo j.c cg:=⟨beq_iff_eq.mp H,fun G a8=>(Eh L G a8).1,fun G a8=>(Eh L G a8).2.1,Q3 aA L⟩
noncomputable def rR(au:dU)(bN:gw)(bM:List aq)(bq:Bool):dU:={b:=bN,g:=bM,e:=cond bq [] au.e,c:=au.c,i:=U}
theorem dC.l{au:dU}{j:b5}(aA:dC au j){cg:ir}(g7:qo j.c cg){bM:List aq}(ah:bM.Nodup){bq:Bool}(cL:aD):dC (rR au cg.names bM bq) (j.r cg cL bM bq)where
 k:=g7.c;z:=fun d aH=>aH.elim (fun aH=>absurd rfl (g7.n _ (rX aH))) fun aH=>by have a9:d∈hy cg.names:=vT.mpr ⟨(d,.free),rX aH,rfl⟩;obtain⟨g,aY⟩:=g7.e d a9;exact Q2 a9 aY
 H:=fun d v aH=>apq aH;J:=rfl;u:=congrArg (cond bq []) aA.u;s:=aA.s;L:=nofun;r:=aA.r;t:=aA.t;D:=rfl;N:=ah;i:=aA.i;F:=aA.F;E:=aA.E;p:=⟨aA.p.c,aA.p.e⟩;x:=aA.x;y:=aA.y
section
variable{j:b5}{au:dU}{A:List (Option K)}{f:af}
theorem S2{V:Type}{d:V}:[d].Nodup:=Cg.mpr ⟨List.not_mem_nil,yH⟩
theorem aex{k:M}{cM eM:List (Option K)}{d:aq}{bM:List aq}(ah:bM=[d])(aw:eM.length=bM.length)(aW:tn C k=o cM):j.u (.b 0) (.b k) eM f=o (.b cM f):=by subst ah;obtain rfl:=aJ aW;obtain⟨g,rfl⟩:=List.length_eq_one_iff.mp aw;rfl
theorem aey{k:M}{cM eM:List (Option K)}{d G:aq}{bM:List aq}(ah:bM=[d,G])(aw:eM.length=bM.length)(aW:tn I k=o cM):j.u (.e (.c (.b 0) (.c (.b 1) .d))) (.b k) eM f=o (.b cM f):=by
 subst ah;obtain⟨g,e,rfl⟩:∃g e,eM=[g,e]:=by
  rcases eM with _|⟨g,_|⟨e,_|_⟩⟩;·exact nomatch aw
  ·exact nomatch aw
  ·exact⟨g,e,rfl⟩
  ·exact nomatch aw
 induction k using M.casesOn with
  |j p=>
   rcases p with _|⟨k,_|⟨u,_|_⟩⟩;·exact bb aW
   ·exact bb aW
   ·obtain rfl:=aJ aW;rfl
   ·exact bb aW
  |_=>exact bb aW
theorem arm{dv:List a0}(c:dv=[])(A:List (Option K))(f:af)(m:ay)(D:aP j A f m):d3 j kC A m (r8 dv j.c) (hm (j.n (.b (.g I)) A f)):=by subst c;exact bL.e (f:=f) (d:=I) fun P S Z=>wpAny_tests_nil (Z I m (ay.c.p m) D rfl)
theorem arn{q:a0}{g:aZ}(c:c4 j q g)(A:List (Option K))(f:af)(m:ay)(D:aP j A f m):d3 j kC A m (r8 [q] j.c) (hm (j.n g A f)):=bL.c (fun P S=>wpAny_tests_one) (c.i A f m D)
theorem aqq{b:a0}{g:aZ}(c:c4 j b g):Af j (o b) g:=fun A f m D=>by rw[evalPart_some];exact c.e A f m D
theorem aep(aA:dC au j){cg:ir}(g7:qo j.c cg){d:aq}{fd:bc}{c7:a0}{dv:List a0}{q b:aZ}(aH:cg.names.lookup d=o .local)(bu:∀dR:b5,dC (rR au cg.names [d] C) dR→∀A f m,aP dR A f m→d3 dR kC A m (r8 dv dR.c) (hm (dR.n q A f)))(aU:∀dR,dC (rR au cg.names [d] C) dR→c4 dR c7 b)(cL:aD):qn (j.r cg cL [d] C) C (.Name d fd) c7 dv (.b 0) q b:=have nV:=aA.l g7 (bM:=[d]) (S2) (bq:=C) cL;⟨A7 nV rfl (nV.n aH nofun),fun k cM eM f H L=>aex rfl H L,bu _ nV,(aU _ nV).e⟩
theorem aeq(aA:dC au j){cg:ir}(g7:qo j.c cg){d G:aq}{fd ic d7:bc}{cz:Nat}{c7:a0}{dv:List a0}{q b:aZ}(XP:(d==G)=C)(aH:cg.names.lookup d=o .local)(a8:cg.names.lookup G=o .local)(bu:∀dR:b5,dC (rR au cg.names [d,G] I) dR→∀A f m,aP dR A f m→d3 dR kC A m (r8 dv dR.c) (hm (dR.n q A f)))(aU:∀dR,dC (rR au cg.names [d,G] I) dR→c4 dR c7 b)(cL:aD):qn (j.r cg cL [d,G] I) I (.Tuple [.Name d fd,.Name G ic] cz d7) c7 dv (.e (.c (.b 0) (.c (.b 1) .d))) q b:=have nV:=aA.l g7 (bM:=[d,G]) (Cg.mpr ⟨fun c=>beq_eq_false_iff_ne.mp XP (m4.mp c),S2⟩) (bq:=I) cL;⟨Ub nV.i rfl rfl (Jg rfl (A7 nV rfl (nV.n aH nofun)) (Jg rfl (A7 nV rfl (nV.n a8 nofun)) KL)),fun k cM eM f H L=>aey rfl H L,bu _ nV,(aU _ nV).e⟩
end
section
variable(ak:∀(au:dU)(b:a0),iH au b)(au:dU)
noncomputable def adk(q:Const)(v:Nat)(ap:bc):iH au (.Constant q v ap):=ik (P3 q) fun k c=>o ⟨.b k,fun j aA=>aeF c⟩
noncomputable def adt(d:aq)(ap:bc):iH au (.Name d ap):=gM (hi d) fun aI=>ik (au.b.lookup d) fun v ar=>match v,ar with|.local,ar=>ik (jK d au.g) fun i a4=>o ⟨.c i,fun j aA=>amR aA aI ar a4⟩|.cell,ar=>gM (EA d) fun bf=>ik (jK d au.e) fun i a4=>o ⟨.v i,fun j aA=>PR aA aI bf (.inl ar) a4⟩|.free,ar=>gM (EA d) fun bf=>ik (jK d au.e) fun i a4=>o ⟨.v i,fun j aA=>PR aA aI bf (.inr ar) a4⟩|.globalImplicit,ar=>ik (pn au.c d) fun l bE=>ik (qU l) fun k al=>o ⟨.b k,fun j aA=>ajw aA aI ar bE al⟩|_,_=>U
noncomputable def Pv(bH:pU)(ap:bc):∀N:List a0,iH au (.BoolOp bH N ap)|[]=>U|d::t=>(match t with|[]=>(ak au d).map fun g=>⟨g.1,fun j aA=>ac0 (g.2 j aA)⟩|G::t=>(ak au d).bind fun g=>(Pv bH ap (G::t)).map fun e=>⟨.p bH g.1 e.1,fun j aA=>ac2 (g.2 j aA) (e.2 j aA)⟩)
noncomputable def ade(p:a0)(bH:pV)(t:a0)(ap:bc):iH au (.BinOp p bH t ap):=(ak au p).bind fun g=>(ak au t).map fun e=>⟨.f bH g.1 e.1,fun j aA=>acP (g.2 j aA) (e.2 j aA)⟩
noncomputable def ady(bH:UnaryOp)(d:a0)(ap:bc):iH au (.UnaryOp bH d ap):=match bH with|.Not=>(ak au d).map fun g=>⟨.s g.1,fun j aA=>aoj (g.2 j aA)⟩|.USub=>(ak au d).map fun g=>⟨.t g.1,fun j aA=>anT (g.2 j aA)⟩|.Invert=>(ak au d).map fun g=>⟨.A g.1,fun j aA=>alX (g.2 j aA)⟩|_=>U
noncomputable def adp(s g e:a0)(ap:bc):iH au (.IfExp s g e ap):=(ak au s).bind fun s=>(ak au g).bind fun g=>(ak au e).map fun e=>⟨.m s.1 g.1 e.1,fun j aA=>al9 (s.2 j aA) (g.2 j aA) (e.2 j aA)⟩
noncomputable def adh(p:a0)(ap:bc)(C_:List jh)(nl:List a0):iH au (.Compare p C_ nl ap):=match C_,nl with|[bH],[t]=>gM (ov t) fun c=>(ak au p).bind fun g=>(ak au t).map fun e=>⟨.i bH g.1 e.1,fun j aA=>aen c aA.E (g.2 j aA) (e.2 j aA)⟩|[hs,ix],[t,u]=>gM (ov u) fun c=>(ak au p).bind fun g=>(ak au t).bind fun e=>(ak au u).map fun q=>⟨.z g.1 hs e.1 ix q.1,fun j aA=>aeo c aA.E (g.2 j aA) (e.2 j aA) (q.2 j aA)⟩|_,_=>U
noncomputable def w6(ap:bc):∀az:List a0,OH au ap az|[]=>o ⟨.e,fun j aA=>SX⟩|b::t=>gM (fw b) fun c=>(ak au b).bind fun g=>(w6 ap t).map fun e=>⟨.d g.1 e.1,fun j aA=>P2 c (g.2 j aA).e (e.2 j aA)⟩
noncomputable def adf(w:a0)(aM:List a0)(ap:bc):iH au (.Call w aM [] ap):=gM (J_ w) fun a3=>gM (aM.any fw) fun aW=>(ak au w).bind fun g=>(w6 ak au ap aM).map fun e=>⟨.g g.1 e.1,fun j aA=>ad4 aA a3 aW (g.2 j aA) (e.2 j aA)⟩
def ads(n:a0)(d:aq)(gU:bc)(aM:List a0)(ap:bc):iH au (.Call (.Attribute n d gU) aM [] ap):=gM (xZ n) fun H=>hz (gU.endLine==ap.line) fun L=>gM (aM.any fw) fun aR=>hz (a6 (aM.length≤20)) fun bh=>ik (DP d) fun G a8=>(ak au n).bind fun g=>(w6 ak au ap aM).map fun e=>⟨.j g.1 G e.1,fun j aA=>II a8▸anL aA H L aR (of_decide_eq_true bh) (g.2 j aA) (e.2 j aA)⟩
def adg(w:a0)(aM:List a0)(eW:List Keyword)(ap:bc):iH au (.Call w aM eW ap):=match eW with|[]=>(match w with|.Attribute n d gU=>ads ak au n d gU aM ap|w=>adf ak au w aM ap)|_::_=>U
def adc(n:a0)(d:aq)(ap:bc):iH au (.Attribute n d ap):=gM (xZ n) fun H=>ik (DP d) fun G a8=>(ak au n).map fun g=>⟨.l g.1 G,fun j aA=>II a8▸aaj H (g.2 j aA)⟩
noncomputable def PC(b:Option a0):Zm au b:=match b with|none=>o ⟨.b .e,fun j aA=>aog⟩|some b=>(ak au b).map fun g=>⟨g.1,fun j aA=>aqq (g.2 j aA)⟩
noncomputable def adv(n i:a0)(ap:bc):iH au (.Subscript n i ap):=gM (Ka i) fun c=>(ak au n).bind fun g=>(ak au i).map fun e=>⟨.k g.1 e.1,fun j aA=>aqS c (g.2 j aA) (e.2 j aA)⟩
noncomputable def adw(n i:a0)(ap:bc):iH au (.Subscript n i ap):=match i with|.Slice p ad y k=>(match y with|none=>(ak au n).bind fun g=>(PC ak au p).bind fun e=>(PC ak au ad).map fun q=>⟨.q g.1 e.1 q.1,fun j aA=>aqe (g.2 j aA) (e.2 j aA) (q.2 j aA)⟩|some _=>U)|i=>adv ak au n i ap
noncomputable def Px(ap:bc):∀(eW:List (Option a0))(N:List a0),Zl au ap eW N|[],[]=>o ⟨.e,fun j aA=>an0,fun _=>rfl⟩|some v::eW,l::N=>(ak au v).bind fun g=>(ak au l).bind fun e=>(Px ap eW N).map fun q=>⟨.d g.1 (.d e.1 q.1),fun j aA=>aeC (g.2 j aA) (e.2 j aA) (q.2.1 j aA),nofun⟩|_,_=>U
noncomputable def adl(eW:List (Option a0))(N:List a0)(ap:bc):iH au (.Dict eW N ap):=hz (eW.all (·.isSome)) fun H=>hz (eW.length==N.length) fun L=>hz (a6 (eW.length≤15)) fun aR=>(Px ak au ap eW N).map fun g=>⟨.x g.1,fun j aA=>ag2 H (beq_iff_eq.mp L) (of_decide_eq_true aR) (fun b=>⟨Ce.mp (by rw[←beq_iff_eq.mp L,b];rfl),g.2.2 b⟩) (g.2.1 j aA)⟩
structure Zk(d:aq)(fd:bc)(c7 a':a0)(dv:List a0)(bN:ir)where
 g:aZ
 e:aZ
 k:aZ
 c:ov a'=C∧∀j,dC au j→qo j.c bN∧c4 j a' k∧∀cL,qn (j.r bN cL [d] C) C (.Name d fd) c7 dv (.b 0) e g
noncomputable def PF(dv:List a0):Option {q:aZ//∀j:b5,dC au j→∀A f m,aP j A f m→d3 j kC A m (r8 dv j.c) (hm (j.n q A f))}:=match dv with|[]=>o ⟨.b (.g I),fun j aA=>arm rfl⟩|[q]=>(ak au q).map fun g=>⟨g.1,fun j aA=>arn (g.2 j aA)⟩|_::_::_=>U
noncomputable def Pw(d:aq)(fd:bc)(c7 a':a0)(dv:List a0)(bN:ir):Option (Zk au d fd c7 a' dv bN):=gM (ov a') fun aX=>hz (bN.kind==.function) fun H=>hz (uS au.b bN.names) fun L=>hz (bN.names.lookup d==o .local) fun aR=>(ak au a').bind fun i=>(PF ak (rR au bN.names [d] C) dv).bind fun q=>(ak (rR au bN.names [d] C) c7).map fun b=>⟨b.1,q.1,i.1,aX,fun j aA=>⟨D6 aA H L,i.2 j aA,aep aA (D6 aA H L) (beq_iff_eq.mp aR) q.2 b.2⟩⟩
noncomputable def adj(d G w:aq)(fd ic d7 jy n4:bc)(cz:Nat)(c7 iD:a0)(dv:List a0)(bN:ir)(ap:bc):iH au (.ListComp c7 [⟨.Tuple [.Name d fd,.Name G ic] cz d7,.Call (.Name w jy) [iD] [] n4,dv,0⟩] bN ap):=hz (bN.kind==.function) fun H=>hz (uS au.b bN.names) fun L=>hz (bN.names.lookup d==o .local) fun aR=>hz (bN.names.lookup G==o .local) fun bh=>gM (d==G) fun cT=>gM (hi w) fun dB=>hz (au.b.lookup w==o .globalImplicit) fun d2=>ik (pn au.c w) fun l et=>hz (xY l) fun hH=>gM (fw iD) fun gh=>(ak au iD).bind fun i=>(PF ak (rR au bN.names [d,G] I) dv).bind fun q=>(ak (rR au bN.names [d,G] I) c7).map fun b=>⟨.u b.1 q.1 i.1 I,fun j aA=>aer aA (D6 aA H L) dB (beq_iff_eq.mp d2) et hH gh (i.2 j aA) (aeq aA (D6 aA H L) cT (beq_iff_eq.mp aR) (beq_iff_eq.mp bh) q.2 b.2)⟩
noncomputable def adi(c7:a0)(mv:List Comprehension)(bN:ir)(ap:bc):iH au (.ListComp c7 mv bN ap):=match mv with|[⟨.Name d fd,a',dv,.ofNat 0⟩]=>(Pw ak au d fd c7 a' dv bN).map fun g=>⟨.u g.g g.e g.k C,fun j aA=>PW aA (g.c.2 j aA).1 g.c.1 (g.c.2 j aA).2.1 (g.c.2 j aA).2.2⟩|[⟨.Tuple [.Name d fd,.Name G ic] cz d7,.Call (.Name w jy) [iD] [] n4,dv,.ofNat 0⟩]=>adj ak au d G w fd ic d7 jy n4 cz c7 iD dv bN ap|_=>U
noncomputable def adq(g:Arguments)(bY:a0)(bN:ir)(ap:bc):iH au (.Lambda g bY bN ap):=match g with|⟨[],[],U,[],[],U,[]⟩=>ik au.i fun w a3=>ik (w bN.names bY) fun b gW=>ik ((hy bN.names).mapM fun d=>jK d au.e) fun f0 Hg=>hz (bN.kind==.function) fun H=>hz (uS au.b bN.names) fun L=>gM bN.isGenerator fun aR=>gM bN.isCoroutine fun bh=>o ⟨.y b f0,fun j aA=>amu aA (beq_iff_eq.mp H) L aR bh gW Hg a3⟩|_=>U
def aqA(b:a0):iH au b:=match b with|.Constant q v k=>adk au q v k|.Name d k=>adt au d k|.BoolOp bH N k=>Pv ak au bH k N|.BinOp p bH t k=>ade ak au p bH t k|.UnaryOp bH d k=>ady ak au bH d k|.IfExp s g e k=>adp ak au s g e k|.Compare p C_ nl k=>adh ak au p k C_ nl|.Call w aM eW k=>adg ak au w aM eW k|.Attribute n d k=>adc ak au n d k|.Subscript n i k=>adw ak au n i k|.Tuple az v k=>(w6 ak au k az).map fun g=>⟨.n g.1,fun j aA=>arK (g.2 j aA)⟩|.List az k=>(w6 ak au k az).map fun g=>⟨.r g.1,fun j aA=>am8 (g.2 j aA)⟩|.Dict eW N k=>adl ak au eW N k|.ListComp c7 mv bN k=>adi ak au c7 mv bN k|.Lambda g e bN k=>adq au g e bN k|_=>U
end
def Py(r:Nat):∀(au:dU)(b:a0),iH au b:=Nat.rec (motive:=fun _=>∀(au:dU)(b:a0),iH au b) (fun _ _=>U) (fun _ ak au b=>aqA ak au b) r
end
section
open PySem PySem.W PyProof.Rows PySem.Calls
abbrev z8(au:dU)(b:a0):=Option {s:dO//∀j,dC au j→nu j b s}
abbrev Zo(au:dU)(az:List a0):=Option {s:dO//(∀j,dC au j→uy j az s)∧h5 s=az.length}
abbrev Zn(au:dU)(aC:List aq):=Option {s:dO//(∀j,dC au j→Ak j aC s)∧h5 s=aC.length}
abbrev mD(au:dU)(y:cX):=Option {k:a5//∀j,dC au j→kD j.b→lG j y k}
abbrev OI(au:dU)(y:List cX):=Option {k:a5//∀j,dC au j→kD j.b→ol j y k}
theorem anV{j:b5}{ap:bc}:c4 j (.List [] ap) .w:=.k (fun _=>rfl) anW
theorem Ku{au:dU}{j:b5}(aA:dC au j){d:aq}{i:Nat}(c:jK d au.g=o i):j.t[i]?=o d:=by rw[←aA.J];exact rV c
section
variable(S:∀(au:dU)(b:a0),iH au b)(au:dU)
noncomputable def T5(d:aq)(ap:bc):z8 au (.Name d ap):=ik (au.b.lookup d) fun v ar=>match v,ar with|.local,ar=>ik (jK d au.g) fun i a4=>o ⟨.b i,fun j aA=>A7 aA (Ku aA a4) (aA.n ar nofun)⟩|.cell,ar=>ik (jK d au.e) fun i a4=>o ⟨.i i,fun j aA=>aed aA a4 ar⟩|_,_=>U
def arb(n:a0)(d:aq)(ap:bc):z8 au (.Attribute n d ap):=ik (DP d) fun G a8=>(S au n).map fun g=>⟨.f g.1 G,fun j aA=>II a8▸aak (g.2 j aA)⟩
noncomputable def ari(n i:a0)(ap:bc):z8 au (.Subscript n i ap):=(S au n).bind fun g=>(S au i).map fun e=>⟨.g g.1 e.1,fun j aA=>aqX (g.2 j aA) (e.2 j aA)⟩
def PE(b:a0):z8 au b:=match b with|.Name d k=>T5 au d k|.Attribute n d k=>arb S au n d k|.Subscript n i k=>ari S au n i k|_=>U
def I2:∀az:List a0,Zo au az|[]=>o ⟨.d,fun j aA=>KL,rfl⟩|b::t=>gM (fw b) fun c=>(PE S au b).bind fun g=>(I2 t).map fun e=>⟨.c g.1 e.1,fun j aA=>Jg c (g.2 j aA) (e.2.1 j aA),congrArg pT e.2.2⟩
def PD(b:a0):z8 au b:=match b with|.Tuple az v k=>gM (az.any fw) fun c=>(I2 S au az).map fun g=>⟨.e g.1,fun j aA=>Ub aA.i c g.2.2 (g.2.1 j aA)⟩|b=>PE S au b
noncomputable def PG:∀aC:List aq,Zn au aC|[]=>o ⟨.d,fun j aA=>an1,rfl⟩|d::t=>hz (au.b.lookup d==o .local) fun c=>ik (jK d au.g) fun i a4=>(PG t).map fun e=>⟨.c (.b i) e.1,fun j aA=>aeD aA (Ku aA a4) (aA.n (beq_iff_eq.mp c) nofun) (e.2.1 j aA),congrArg pT e.2.2⟩
noncomputable def PA(b:a0):iH au b:=match b with|.List az k=>(match az with|[]=>o ⟨.w,fun j aA=>anV⟩|d::t=>S au (.List (d::t) k))|b=>S au b
noncomputable def I1(ap:bc):∀az:List a0,OH au ap az|[]=>o ⟨.e,fun j aA=>SX⟩|b::t=>gM (fw b) fun c=>(PA S au b).bind fun g=>(I1 ap t).map fun e=>⟨.d g.1 e.1,fun j aA=>P2 c (g.2 j aA).e (e.2 j aA)⟩
noncomputable def adr(aQ az:List a0)(v fq:Nat)(d7 dn ap:bc):mD au (.Assign [.Tuple aQ v d7] (.Tuple az fq dn) ap):=hz (Lx au.b aQ az) fun c=>(I1 S au dn az).bind fun g=>(PG au (aQ.filterMap (vD au.b (oA aQ))).reverse).map fun s=>⟨.j s.1 g.1,fun j aA _=>anx aA (s.2.2.trans (Gw ..)) (aq2 aA c) (g.2 j aA) (s.2.1 j aA)⟩
def PB(aQ az:List a0)(v fq:Nat)(d7 dn ap:bc)(c2:∀aL,pZ [.Tuple aQ v d7] (.Tuple az fq dn) aL=d6 U):mD au (.Assign [.Tuple aQ v d7] (.Tuple az fq dn) ap):=gM (aQ.any fw) fun c=>(I1 S au dn az).bind fun g=>(I2 S au aQ).map fun s=>⟨.p s.1 g.1,fun j aA _=>anz aA c s.2.2 (c2 j.c) (g.2 j aA) (s.2.1 j aA)⟩
def adx(aQ az:List a0)(v fq:Nat)(d7 dn ap:bc):mD au (.Assign [.Tuple aQ v d7] (.Tuple az fq dn) ap):=match aQ with|.Subscript n i k::aQ=>PB S au (.Subscript n i k::aQ) az v fq d7 dn ap fun aL=>aq3|aQ=>(match c:(aQ.length==2||aQ.length==3)with|true=>adr S au aQ az v fq d7 dn ap|false=>PB S au aQ az v fq d7 dn ap fun aL=>aq1 c)
def DU(s b:a0)(ap:bc)(gX:fw s=C)(c2:∀aL,pZ [s] b aL=d6 U):mD au (.Assign [s] b ap):=gM (u3 b) fun c=>(PA S au b).bind fun g=>(PD S au s).map fun s=>⟨.e s.1 g.1,fun j aA _=>aag c gX (c2 j.c) (g.2 j aA) (s.2 j aA)⟩
noncomputable def ada(G:aq)(ic:bc)(c7:a0)(mv:List Comprehension)(bN:ir)(k ap:bc):mD au (.Assign [.Name G ic] (.ListComp c7 mv bN k) ap):=match mv with|[⟨.Name d fd,a',dv,.ofNat 0⟩]=>hz (au.b.lookup G==o .local) fun c=>ik (jK G au.g) fun Q bZ=>(Pw S au d fd c7 a' dv bN).map fun g=>⟨.e (.b Q) (.u g.g g.e g.k C),fun j aA _=>aaf aA (g.c.2 j aA).1 g.c.1 (g.c.2 j aA).2.1 (g.c.2 j aA).2.2 (A7 aA (Ku aA bZ) (aA.n (beq_iff_eq.mp c) nofun))⟩|_=>U
def adb(s b:a0)(ap:bc):mD au (.Assign [s] b ap):=match s with|.Tuple aQ v d7=>(match b with|.Tuple az fq dn=>adx S au aQ az v fq d7 dn ap|b=>gM (RW b) fun c=>DU S au (.Tuple aQ v d7) b ap rfl fun aL=>aq4 c)|.Name G ic=>(match b with|.ListComp c7 mv bN k=>ada S au G ic c7 mv bN k ap|b=>DU S au (.Name G ic) b ap rfl fun aL=>rfl)|.Attribute n d k=>DU S au (.Attribute n d k) b ap rfl fun aL=>rfl|.Subscript n i k=>DU S au (.Subscript n i k) b ap rfl fun aL=>rfl|_=>U
variable(bS:∀y:cX,mD au y)
noncomputable def uH:∀e:List cX,OI au e|[]=>o ⟨.c,fun j aA _=>an2⟩|y::t=>(bS y).bind fun g=>(uH t).map fun e=>⟨.b g.1 e.1,fun j aA ao=>aeE (g.2 j aA ao) (e.2 j aA ao)⟩
noncomputable def adn(d:aq)(fd:bc)(a':a0)(e:List cX)(ap:bc):mD au (.For (.Name d fd) a' e [] ap):=gM (ov a') fun c=>(S au a').bind fun i=>(T5 au d fd).bind fun s=>(uH au bS e).map fun g=>⟨.i C s.1 i.1 g.1,fun j aA ao=>aiR aA c (fun _ _=>rfl) (i.2 j aA) (s.2 j aA) (g.2 j aA ao)⟩
def ado(aQ:List a0)(cz:Nat)(d7 jy n4:bc)(w:aq)(iD:a0)(e:List cX)(ap:bc):mD au (.For (.Tuple aQ cz d7) (.Call (.Name w jy) [iD] [] n4) e [] ap):=gM (hi w) fun H=>hz (au.b.lookup w==o .globalImplicit) fun L=>ik (pn au.c w) fun l aR=>hz (xY l) fun bh=>gM (fw iD) fun cT=>(S au iD).bind fun i=>(PD S au (.Tuple aQ cz d7)).bind fun s=>(uH au bS e).map fun g=>⟨.i I s.1 i.1 g.1,fun j aA ao=>aiS aA H (beq_iff_eq.mp L) aR bh cT (i.2 j aA) (s.2 j aA) (g.2 j aA ao)⟩
def adm(s a':a0)(e:List cX)(ap:bc):mD au (.For s a' e [] ap):=match s with|.Name d fd=>adn S au bS d fd a' e ap|.Tuple aQ cz d7=>(match a' with|.Call (.Name w jy) [iD] [] n4=>ado S au bS aQ cz d7 jy n4 w iD e ap|_=>U)|_=>U
noncomputable def RS(l:aa):Bool:=match l with|.ref g=>bR g 64|_=>C
theorem apn{l:aa}(c:RS l=I):l=.ref 64:=by induction l with|ref g=>exact congrArg _ (g5 c)|_=>exact nomatch c
theorem ajk:f_[2]?=o 64:=rfl
theorem acG{j:b5}{dj:cX}:lG j dj .m:=fun A f m D=>cq.g
noncomputable def adu(d:aq)(kw jj ap:bc)(aM:List a0):mD au (.Raise (o (.Call (.Name d kw) aM [] jj)) U ap):=gM (hi d) fun H=>hz (au.b.lookup d==o .globalImplicit) fun L=>ik (pn au.c d) fun l aR=>(match bh:RS l with|true=>gM (aM.any fw) fun cT=>(w6 S au jj aM).map fun g=>⟨.l g.1,fun j aA ao=>api ao aA H (beq_iff_eq.mp L) (aR.trans (congrArg o (apn bh))) ajk cT (g.2 j aA)⟩|false=>o ⟨.m,fun j aA ao=>acG⟩)
def aqB(y:cX):mD au y:=match y with|.Expr b k=>gM (u3 b) fun c=>(S au b).map fun g=>⟨.g g.1,fun j aA _=>ah9 aA c (g.2 j aA)⟩|.Return n k=>(match n with|none=>o ⟨.d (.b .e),fun j aA _=>apr⟩|some b=>(S au b).map fun g=>⟨.d g.1,fun j aA _=>aps (g.2 j aA)⟩)|.Assign aQ b k=>(match aQ with|[s]=>adb S au s b k|_=>U)|.If q g e k=>(S au q).bind fun q=>(uH au bS g).bind fun g=>(uH au bS e).map fun e=>⟨.f q.1 g.1 e.1,fun j aA ao=>ama (q.2 j aA) (g.2 j aA ao) (e.2 j aA ao)⟩|.While q g n k=>(match n with|[]=>(S au q).bind fun q=>(uH au bS g).map fun g=>⟨.k q.1 g.1,fun j aA ao=>asw aA (q.2 j aA) (g.2 j aA ao)⟩|_::_=>U)|.For s a' g n k=>(match n with|[]=>adm S au bS s a' g k|_::_=>U)|.Raise (o (.Call (.Name d kw) aM [] jj)) U k=>adu S au d kw jj k aM|.Continue k=>o ⟨.n,fun j aA _=>aeG⟩|_=>U
end
def adz(au:dU)(r:Nat):∀y:cX,mD au y:=Nat.rec (motive:=fun _=>∀y:cX,mD au y) (fun _=>U) (fun _ ak y=>aqB (Py 40) au ak y) r
def Pz(au:dU)(e:List cX):OI au e:=uH au (adz au 20) e
theorem apF{au:dU}{e:List cX}{k:a5}(c:(Pz au e).map (·.1)=o k)(j:b5)(aA:dC au j)(ao:kD j.b):ol j e k:=by obtain⟨g,_,rfl⟩:=nS.mp c;exact g.2 j aA ao
def EM(ao:di)(bN:gw)(e:a0):Option aZ:=(Py 20 (JU ao bN) e).map (·.1)
theorem amw{E:cV}(c:∀bN e b,E.j bN e b→EM E.b bN e=o b):Ad E:=fun bN e b aN j aA cN=>by obtain⟨g,_,rfl⟩:=nS.mp (c bN e b aN);exact(g.2 j aA).e
end
section
open PySem PySem.W PyProof.Rows PySem.Calls
structure Dy(E:cV):Prop where
 b:qp E
 e:kD E
 i:Ad E
 c:∀w g F,f_[w]?=o g→pm w=.b F→∃ai T iv bY,wJ E g ai F T iv bY
 d:∀w g v F gC,f_[w]?=o g→pm w=.c v F gC→∃ks ai T bY,OK E w g ks ai F T bY
 f:∀w g,f_[w]?=o g→pm w=.e→∃ai bY T,pf E.b g ai bY T []∧wL E.b ai T bY
theorem ad8{E:cV}(bk:Dy E)(r:Nat):∀aS dg,k4 aS dg r→sI E aS dg (bp ab r):=by induction r with|zero=>exact fun aS dg ej aL O bM kX ax A f m w g ag N D cN b4 t a1 b=>bb b|succ r ak=>
 intro aS dg ej aL O bM kX ax A f m w g ag N D cN b4;show d3 _ _ _ _ _ (pj ab (bp ab r) w ag f);unfold pj;rw[show ab.c w=pm w from rfl,show ab.b=dm from rfl];rcases Hm:pm w with F|⟨v,F,gC⟩|_|_;·obtain⟨ai,T,iv,bY,ei⟩:=bk.c w g F cN Hm;exact aiN (j:=⟨E,aS,aL,O,dg,bM,kX,ax,bp ab (r+1)⟩) ei bk.b ej ak D b4
 ·obtain⟨ks,ai,T,bY,cA⟩:=bk.d w g v F gC cN Hm;exact aem (j:=⟨E,aS,aL,O,dg,bM,kX,ax,bp ab (r+1)⟩) cA bk.b ej ak D b4
 ·obtain⟨ai,bY,T,g8,a3⟩:=bk.f w g cN Hm;exact alJ (j:=⟨E,aS,aL,O,dg,bM,kX,ax,bp ab (r+1)⟩) bk.e bk.b bk.i ej ak D g8 a3 b4
 ·exact bL.d
end
section
open PySem PySem.W PyProof.Rows PySem.Calls
theorem aiM{R:Prop}{n:cm}{ai:ep}(c:JI n=o ai)(v:n.data=.func ai→R):R:=by unfold JI at c;obtain⟨q,F,tU,b'⟩:=n;induction tU with
 |func w=>induction q with|type r=>exact Mine.eO c fun _ c=>v (congrArg _ c)|_=>exact bb c
 |_=>exact bb c
theorem Rc{ao:di}{g:aD}{ai:ep}(c:qz ao g=o ai):∃n,ao.lookup g=o n∧n.data=.func ai:=d4 c fun n H L=>aiM L fun b=>⟨n,H,b⟩
noncomputable def Lo(n:cm):Option (List aa):=match n.data with|.seq N _=>o N.toList|_=>U
theorem apX{n:cm}{N:List aa}(c:Lo n=o N):∃r,n.data=.seq N.toArray r:=by unfold Lo at c;rcases u:n.data with _|_|_|_|_|_|_|_|_|_|_|_|_|_|_|_;all_goals first|(rw[u]at c;exact bb c)|(rw[u]at c;obtain rfl:=aJ c;exact⟨_,rfl⟩)
noncomputable def AD(ao:di)(l:aa):Option (List aa):=match l with|.none=>o []|.ref aB=>(ao.lookup aB).bind Lo|_=>U
theorem Qe{ao:di}{l:aa}{N:List aa}(c:AD ao l=o N):(l=.none∧N=[])∨∃aB n r,l=.ref aB∧ao.lookup aB=o n∧n.data=.seq N.toArray r:=by induction l with|none=>exact .inl ⟨rfl,(aJ c).symm⟩|ref aB=>exact d4 c fun n H L=>by obtain⟨r,aR⟩:=apX L;exact .inr ⟨aB,n,r,rfl,H,aR⟩|_=>exact bb c
noncomputable def Ax(ai:ep):Option (List cX):=match ai.body with|.stmts e=>o e|_=>U
theorem Pt{ai:ep}{e:List cX}(c:Ax ai=o e):ai.body=.stmts e:=by unfold Ax at c;rcases u:ai.body with oW|b;all_goals first|(rw[u]at c;exact congrArg _ (aJ c))|(rw[u]at c;exact bb c)
def Fb(ao:di)(iv:Option (gw→a0→Option aZ))(g:aD):Option (a5×List (Option M)):=(qz ao g).bind fun ai=>(Ax ai).bind fun e=>((Pz (JV ao iv ai) e).map (·.1)).bind fun k=>(AD ao ai.defaults).map fun b2=>(k,b2.map qU)
def Sk(ao:di)(g:aD):Option (gw→a0→Option aZ):=match bR g 1071 with|true=>o (EM ao)|false=>U
def D5(ao:di)(w:Nat):Option (a5×List (Option M)):=match pm w with|.b _=>(f_[w]?).bind fun g=>Fb ao (Sk ao g) g|.c v _ _=>(f_[v]?).bind (Fb ao U)|_=>U
noncomputable def F6(w:Nat):Option (a5×List (Option M)):=match pm w with|.b F=>o (F.e,F.d.map o)|.c _ F _=>o (F.e,F.d.map o)|_=>U
noncomputable def nH(ai:ep):List aq:=ai.params.args.map hU
noncomputable def Tf(k:Arguments):Bool:=k.posonlyargs.isEmpty&&(k.vararg.isNone&&(k.kwonlyargs.isEmpty&&k.kwarg.isNone))
theorem aoH{k:Arguments}(c:Tf k=I):∃aM h0 hG,k=⟨[],aM,U,[],h0,U,hG⟩∧aM.map hU=k.args.map hU:=by obtain⟨H,c⟩:=bX c;obtain⟨L,c⟩:=bX c;obtain⟨aR,bh⟩:=bX c;obtain⟨aux,aM,wz,auh,h0,auj,hG⟩:=k;obtain rfl:=yF.mp H;obtain rfl:=Option.isNone_iff_eq_none.mp L;obtain rfl:=yF.mp aR;obtain rfl:=Option.isNone_iff_eq_none.mp bh;exact⟨aM,h0,hG,rfl,rfl⟩
noncomputable def IJ(ao:di)(ai:ep):Bool:=Tf ai.params&&(a6 (nH ai).Nodup&&(ai.scope.kind==.function&&(!ai.scope.isGenerator&&(!ai.scope.isCoroutine&&(bR ai.globals hW&&(bR ai.builtins m8&&(ai.closure.isEmpty&&codeIn ao ai.code ai.qualname)))))))
structure Zh(ao:di)(ai:ep):Prop where
 k:∃aM h0 hG,ai.params=⟨[],aM,U,[],h0,U,hG⟩∧aM.map hU=nH ai
 j:(nH ai).Nodup
 i:ai.scope.kind=.function
 f:ai.scope.isGenerator=C
 d:ai.scope.isCoroutine=C
 g:ai.globals=hW
 b:ai.builtins=m8
 c:ai.closure=[]
 e:codeIn ao ai.code ai.qualname=I
theorem te{e:Bool}(c:(!e)=I):e=C:=(m1 _).mp c
theorem O'{ao:di}{ai:ep}(c:IJ ao ai=I):Zh ao ai:=by obtain⟨H,c⟩:=bX c;obtain⟨L,c⟩:=bX c;obtain⟨aR,c⟩:=bX c;obtain⟨bh,c⟩:=bX c;obtain⟨cT,c⟩:=bX c;obtain⟨dB,c⟩:=bX c;obtain⟨d2,c⟩:=bX c;obtain⟨et,hH⟩:=bX c;exact⟨aoH H,of_decide_eq_true L,beq_iff_eq.mp aR,te bh,te cT,g5 dB,g5 d2,yF.mp et,hH⟩
noncomputable def Lr(T:List aq)(bN:gw)(d:aq×Nat):Bool:=match T[d.2]?with|some k=>(k==d.1&&bN.lookup d.1==o .local)||(!T.contains d.1&&bN.lookup k==o .cell)|none=>!T.contains d.1
theorem aqj{T:List aq}{bN:gw}{d:aq}{i:Nat}(c:Lr T bN (d,i)=I):(T[i]?=o d∧bN.lookup d=o .local)∨(d∉T∧∀k,T[i]?=o k→bN.lookup k=o .cell):=by
 have cD:(!T.contains d)=I→d∉T:=fun c a9=>nomatch(te c).symm.trans (Gh.mpr a9);unfold Lr at c;rcases u:T[i]?with _|k;·rw[u]at c;exact .inr ⟨cD c,fun k b=>bb b⟩
 ·rw[u]at c;rcases tw.mp c with c|c;·obtain⟨H,L⟩:=bX c;exact .inl ⟨congrArg o (beq_iff_eq.mp H),beq_iff_eq.mp L⟩
  ·obtain⟨H,L⟩:=bX c;exact .inr ⟨cD H,fun dF b=>aJ b▸beq_iff_eq.mp L⟩
noncomputable def Eg(ao:di)(F:bn)(ai:ep):Bool:=IJ ao ai&&(bR (nH ai).length F.c&&(a6 (F.d.length≤F.c)&&(ai.scope.names.all (fun G=>G.2 !=.free)&&(bR F.f (pr ai.scope.names).length&&(a6 (F.c≤F.f)&&(a6 (F.b=(lI ai.scope.names).map fun q=>jK q (nH ai))&&((nH ai).all (fun k=>ai.scope.names.lookup k==o .local||ai.scope.names.lookup k==o .cell)&&((pr ai.scope.names).zipIdx.all (Lr (nH ai) ai.scope.names)&&(a6 (pr ai.scope.names).Nodup&&(a6 (lI ai.scope.names).Nodup&&(lI ai.scope.names).all fun d=>ai.scope.names.lookup d==o .cell))))))))))
theorem QW{E:cV}{g:aD}{F:bn}{iv:Option (gw→a0→Option aZ)}(S:kD E)(bf:Fb E.b iv g=o (F.e,F.d.map o))(c:((qz E.b g).map (Eg E.b F))=o I)(aw:∀ai,qz E.b g=o ai→∀w,iv=o w→E.k=ai.qualname++(".<locals>.":aq)++("<lambda>":aq)∧(∃q,ai.code=.ref q∧∀c:eh,E.b.In c→CodeHd c q E.f)∧∀bN e b,w bN e=o b→E.j bN e b):∃ai T bY,wJ E g ai F T iv bY:=by refine d4 bf fun ai H bf=>d4 bf fun e L bf=>d4 bf fun k aR bf=>gN bf fun b2 bh bf=>?_;obtain⟨rfl,CR⟩:=bw bf;rw[H]at c;have c:Eg E.b F ai=I:=aJ c;obtain⟨eu,c⟩:=bX c;obtain⟨gi,c⟩:=bX c;obtain⟨mA,c⟩:=bX c;obtain⟨HN,c⟩:=bX c;obtain⟨mB,c⟩:=bX c;obtain⟨Yf,c⟩:=bX c;obtain⟨Yg,c⟩:=bX c;obtain⟨Yh,c⟩:=bX c;obtain⟨Yi,c⟩:=bX c;obtain⟨Yc,c⟩:=bX c;obtain⟨Yd,Ye⟩:=bX c;have aS:=O' eu;exact⟨ai,nH ai,e,{S:=Rc H,t:=Pt L,Y:=fun j aA cN=>apF aR j aA (cN▸S),V:=aS.k,m:=g5 gi,l:=aS.j,z:=(Qe bh).imp (by rintro⟨aG,aK⟩;exact⟨aG,by subst aK;exact(List.map_eq_nil_iff.mp CR.symm)⟩) (by rintro⟨aB,n,r,aG,aK,bA⟩;exact⟨aB,n,r,b2,aG,aK,bA,CR⟩),D:=of_decide_eq_true mA,s:=aS.i,H:=aS.f,x:=aS.d,J:=aS.g,u:=aS.b,v:=aS.c,y:=aS.e,P:=fun G a8=>bne_iff_ne.mp (fe.mp HN G a8),R:=g5 mB,Q:=of_decide_eq_true Yf,f:=of_decide_eq_true Yg,X:=fun k al=>(tw.mp (fe.mp Yh k al)).imp beq_iff_eq.mp beq_iff_eq.mp,Z:=fun i d aH=>aqj (fe.mp Yi (d,i) (List.mk_mem_zipIdx_iff_getElem?.mpr aH)),O:=of_decide_eq_true Yc,N:=of_decide_eq_true Yd,p:=fun d aH=>beq_iff_eq.mp (fe.mp Ye d aH),L:=aw ai H}⟩
noncomputable def Tu(ao:di)(b2:List aa)(ai:ep):Bool:=IJ ao ai&&((match AD ao ai.defaults with|some N=>N==b2|none=>C)&&(a6 (b2.length≤(nH ai).length)&&(ai.scope.names.all (fun G=>G.2 !=.cell)&&(nH ai).all fun k=>ai.scope.names.lookup k==o .local&&!hi k)))
theorem apl{ao:di}{g:aD}{ai:ep}{e:List cX}{b2:List aa}(H:qz ao g=o ai)(L:Ax ai=o e)(c:Tu ao b2 ai=I):pf ao g ai e (nH ai) b2:=by
 obtain⟨eu,c⟩:=bX c;obtain⟨gi,c⟩:=bX c;obtain⟨mA,c⟩:=bX c;obtain⟨HN,mB⟩:=bX c;have aS:=O' eu;have aI:AD ao ai.defaults=o b2:=by
  rcases u:AD ao ai.defaults with _|N;·rw[u]at gi;exact nomatch gi
  ·rw[u]at gi;exact congrArg o (beq_iff_eq.mp gi)
 exact{t:=Rc H,e:=Pt L,u:=aS.k,d:=aS.j,m:=Qe aI,p:=of_decide_eq_true mA,c:=aS.i,q:=aS.f,j:=aS.d,s:=aS.g,f:=aS.b,i:=aS.c,l:=aS.e,v:=fun G a8=>bne_iff_ne.mp (fe.mp HN G a8),b:=fun k al=>by obtain⟨cx,cU⟩:=bX (fe.mp mB k al);exact⟨beq_iff_eq.mp cx,te cU⟩}
end
section
open PySem PySem.W PyProof.Rows PySem.Calls
abbrev nt(R:Prop):=Option {_u:Unit//R}
theorem nt.b{R:Prop}{n:nt R}(c:n.isSome=I):R:=by
 rcases n with _|ad;·exact nomatch c
 ·exact ad.2
theorem alS{b6 c_ dx jp ul eH hc gG gl hd:aq}{e4 gU fC jo jj cx iy iz iA cU kx ky kz gE:bc}(aG:jp=dx)(aK:ul=dx)(bA:hc=eH)(dN:gl=b8 .hK)(hY:hd=b8 .fj):([.Expr (.Call (.Attribute (.Name b6 e4) c_ gU) [.Name dx fC,.Name eH jo] [] jj) cx,.Assign [.Attribute (.Name jp iy) gl iz] (.Name hc iA) cU,.Assign [.Attribute (.Name ul kx) hd ky] (.Name gG kz) gE]:List cX)=[.Expr (.Call (.Attribute (.Name b6 e4) c_ gU) [.Name dx fC,.Name eH jo] [] jj) cx,.Assign [.Attribute (.Name dx iy) (b8 .hK) iz] (.Name eH iA) cU,.Assign [.Attribute (.Name dx kx) (b8 .fj) ky] (.Name gG kz) gE]:=by subst aG aK bA dN hY;rfl
theorem alT{ao:di}{ai:ep}{T:List aq}{b6 c_ dx jp ul eH hc gG gl hd:aq}{e4 gU fC jo jj cx iy iz iA cU kx ky kz gE:bc}(c:(jp==dx&&(ul==dx&&(hc==eH&&(gl==b8 .hK&&(hd==b8 .fj&&(c_==se "__init__"&&(T==[dx,eH,gG]&&(gU.endLine==jj.line&&(!hi b6&&(ai.scope.names.lookup b6==o .globalImplicit&&(nsIn ao hW b6==o U&&nsIn ao m8 b6==o (o (.type "Exception")))))))))))))=I):wM ao ai T [.Expr (.Call (.Attribute (.Name b6 e4) c_ gU) [.Name dx fC,.Name eH jo] [] jj) cx,.Assign [.Attribute (.Name jp iy) gl iz] (.Name hc iA) cU,.Assign [.Attribute (.Name ul kx) hd ky] (.Name gG kz) gE]:=have g:=bX c;have e:=bX g.2;have q:=bX e.2;have F:=bX q.2;have b:=bX F.2;have w:=bX b.2;have E:=bX w.2;have i:=bX E.2;have Q:=bX i.2;have v:=bX Q.2;have p:=bX v.2;⟨b6,e4,c_,gU,fC,jo,jj,cx,dx,iy,iz,iA,cU,kx,ky,kz,gE,eH,gG,alS (beq_iff_eq.mp g.1) (beq_iff_eq.mp e.1) (beq_iff_eq.mp q.1) (beq_iff_eq.mp F.1) (beq_iff_eq.mp b.1),beq_iff_eq.mp w.1,beq_iff_eq.mp E.1,i.1,te Q.1,beq_iff_eq.mp v.1,beq_iff_eq.mp p.1,beq_iff_eq.mp p.2⟩
def ang(ao:di)(ai:ep)(T:List aq)(e:List cX):nt (wM ao ai T e):=match e with|[.Expr (.Call (.Attribute (.Name _ _) _ _) [.Name _ _,.Name _ _] [] _) _,.Assign [.Attribute (.Name _ _) _ _] (.Name _ _) _,.Assign [.Attribute (.Name _ _) _ _] (.Name _ _) _]=>hz _ fun c=>o ⟨(),alT c⟩|_=>U
theorem arF{ai:ep}{T:List aq}{dx jp gl hd:aq}{e4 fC jo iy iz iA:bc}{v:Nat}(c:(jp==dx&&(gl==b8 .hK&&(hd==b8 .fj&&T==[dx])))=I):wY ai T [.Return (o (.Tuple [.Attribute (.Name dx e4) gl fC,.Attribute (.Name jp jo) hd iy] v iz)) iA]:=by obtain⟨H,c⟩:=bX c;obtain⟨L,c⟩:=bX c;obtain⟨aR,bh⟩:=bX c;obtain rfl:=beq_iff_eq.mp H;obtain rfl:=beq_iff_eq.mp L;obtain rfl:=beq_iff_eq.mp aR;exact⟨_,_,_,_,_,_,_,_,rfl,beq_iff_eq.mp bh⟩
def ank(ai:ep)(T:List aq)(e:List cX):nt (wY ai T e):=match e with|[.Return (o (.Tuple [.Attribute (.Name _ _) _ _,.Attribute (.Name _ _) _ _] _ _)) _]=>hz _ fun c=>o ⟨(),arF c⟩|_=>U
theorem alI{ao:di}{ai:ep}{T:List aq}{c_ d r rn G:aq}{e4 fC jo iy iz gU n0 iA kx ky kz o6 wq:bc}{v:Nat}(c:(rn==r&&(G==b8 .jF&&(T==[c_]&&(nsIn ao hW d==o (o (.ref 64))&&(ai.scope.names.lookup d==o .globalImplicit&&(!hi d&&(ai.scope.names.lookup r==o .local&&(!hi r&&gU.endLine==n0.line))))))))=I):wL ao ai T [.Try [.Return (o (.Call (.Name c_ e4) [] [] fC)) jo] [.ExceptHandler (o (.Name d iy)) (o r) [.Return (o (.List [.Subscript (.Call (.Attribute (.Name rn iz) G gU) [] [] n0) (.Constant (.int (.ofNat 1)) v iA) kx] ky)) kz] o6] [] [] wq]:=have g:=bX c;have e:=bX g.2;have q:=bX e.2;have F:=bX q.2;have b:=bX F.2;have w:=bX b.2;have E:=bX w.2;have i:=bX E.2;⟨_,_,_,_,_,_,_,_,_,_,_,_,_,_,_,_,_,by rw[beq_iff_eq.mp g.1,beq_iff_eq.mp e.1];rfl,beq_iff_eq.mp q.1,beq_iff_eq.mp F.1,beq_iff_eq.mp b.1,te w.1,beq_iff_eq.mp E.1,te i.1,i.2⟩
def anf(ao:di)(ai:ep)(T:List aq)(e:List cX):nt (wL ao ai T e):=match e with|[.Try [.Return (o (.Call (.Name _ _) [] [] _)) _] [.ExceptHandler (o (.Name _ _)) (o _) [.Return (o (.List [.Subscript (.Call (.Attribute (.Name _ _) _ _) [] [] _) (.Constant (.int (.ofNat 1)) _ _) _] _)) _] _] [] [] _]=>hz _ fun c=>o ⟨(),alI c⟩|_=>U
noncomputable def Lf(ao:di)(g:aD)(b2:List aa){bC:ep→List aq→List cX→Prop}(z:∀ai T e,nt (bC ai T e)):nt (∃ai bY T,pf ao g ai bY T b2∧bC ai T bY):=ik (qz ao g) fun ai H=>ik (Ax ai) fun e L=>hz (Tu ao b2 ai) fun aR=>(z ai (nH ai) e).map fun ad=>⟨(),ai,e,nH ai,apl H L aR,ad.2⟩
def Dv(n:Option cm):Prop:=∃p,n=o (Qw p)
theorem ahZ{s r:String}{hG:Option aD}{cD u:aq}{kW uc:List aa}{cO:aD}{aI:Bool}{qf:List aq}{hu:List aa}{p4:Bool}{p5:Option Bool}{y':Bool}{mz eu gi mA mB:Option aa}(aG:s="type")(aK:uc=.ref 64::sX)(bA:aI=I)(dN:y'=C)(hY:r="Exception.__new__"):(⟨.type s,hG,.cls ⟨cD,kW,uc,cO,u,aI,qf,hu,p4,p5,y'⟩,⟨[mz,eu,gi,mA,o (.builtin r),mB]⟩⟩:cm)=yU cD u 64 cO kW sX I qf hu p4 p5 hG mz eu gi mA mB "Exception.__new__":=by subst aG aK bA dN hY;rfl
theorem ah6{s r:String}{hG:Option aD}{cD u:aq}{kW uc:List aa}{cO:aD}{aI:Bool}{qf:List aq}{hu:List aa}{p4:Bool}{p5:Option Bool}{y':Bool}{mz eu gi mA mB:Option aa}(c:(s=="type"&&(uc==.ref 64::sX&&(aI&&(!y'&&r=="Exception.__new__"))))=I):Dv (o ⟨.type s,hG,.cls ⟨cD,kW,uc,cO,u,aI,qf,hu,p4,p5,y'⟩,⟨[mz,eu,gi,mA,o (.builtin r),mB]⟩⟩):=have g:=bX c;have e:=bX g.2;have q:=bX e.2;have F:=bX q.2;⟨⟨cD,u,cO,kW,qf,hu,p4,p5,hG,mz,eu,gi,mA,mB⟩,congrArg o (ahZ (beq_iff_eq.mp g.1) (beq_iff_eq.mp e.1) q.1 (te F.1) (beq_iff_eq.mp F.2))⟩
noncomputable def am9(n:cm):nt (Dv (o n)):=match n with|⟨.type _,_,.cls ⟨_,_,_,_,_,_,_,_,_,_,_⟩,⟨[_,_,_,_,o (.builtin _),_]⟩⟩=>hz _ fun c=>o ⟨(),ah6 c⟩|_=>U
noncomputable def ahX(ao:di):nt (Dv (ao.lookup 64)):=ik (ao.lookup 64) fun n c=>(am9 n).map fun ad=>⟨(),c▸ad.2⟩
noncomputable def RT(l:Option CFound):Bool:=match l with|some (.val (.builtin r))=>r=="Exception.__init__"|_=>C
end
section
open PySem PySem.W PyProof.Rows PySem.Calls
def Jy(ao:di):Bool:=hV ao (.ref 64) "__setattr__"==o (o (.builtin "object.__setattr__"))&&(takerIn ao 64 (b8 .hK)==o U&&(takerIn ao 64 (b8 .fj)==o U&&(RT (findCls ao (.type "Exception") (.type "type") (se "__init__"))&&(hV ao (.ref 64) "__init__"==o (o (.ref 29))&&(typeIn ao (.ref 29)==o (.type "function")&&(hV ao (.ref 64) (b8 .jF)==o (o (.ref 36))&&(typeIn ao (.ref 36)==o (.type "function")&&(keepIn ao (.ref 36)&&(hV ao (.ref 64) "__getattribute__"==o (o (.builtin "BaseException.__getattribute__"))&&(s0 ao 64 .hK&&(s0 ao 64 .fj&&hV ao (.ref 64) "__getattr__"==o U)))))))))))
theorem al0{l:Option CFound}(c:RT l=I):l=o (.val (.builtin "Exception.__init__")):=by
 rcases l with _|l;·exact nomatch c
 ·induction l with
  |val l=>induction l with|builtin r=>exact congrArg (fun r=>o (CFound.val (.builtin r))) (beq_iff_eq.mp c)|_=>exact nomatch c
  |_=>exact nomatch c
structure Dt(ao:di):Prop where
 c:Jy ao=I
 d:Dv (ao.lookup 64)
 f:∃ai bY T,pf ao 29 ai bY T [.none]∧wM ao ai T bY
 g:∃ai bY T,pf ao 36 ai bY T []∧wY ai T bY
 e:∃ai bY T,pf ao 1064 ai bY T []∧wL ao ai T bY
 b:∀(kV:Setting)(fE:List aa),peek ao kV (yT "Exception.__new__" ⟨.ref 64::fE,[]⟩)=o ()
theorem Jz{E:cV}(X:Dt E.b):kD E:=by have c:=bX X.c;have g:=bX c.2;have e:=bX g.2;have q:=bX e.2;have F:=bX q.2;have b:=bX F.2;have w:=bX b.2;have i:=bX w.2;have Q:=bX i.2;have v:=bX Q.2;have p:=bX v.2;have z:=bX p.2;obtain⟨ai,bY,T,H,L⟩:=X.f;obtain⟨CI,Vm,uf,aR,bh⟩:=X.g;exact{b:=X.d,f:=beq_iff_eq.mp c.1,g:=fun d aH=>aH.elim (fun b=>b▸beq_iff_eq.mp g.1) fun b=>b▸beq_iff_eq.mp e.1,e:=al0 q.1,c:=X.b,l:=⟨29,ai,bY,T,beq_iff_eq.mp F.1,beq_iff_eq.mp b.1,H,L⟩,n:=⟨36,CI,Vm,uf,beq_iff_eq.mp w.1,beq_iff_eq.mp i.1,aR,bh,Q.1⟩,d:=beq_iff_eq.mp v.1,i:=⟨p.1,z.1⟩,k:=beq_iff_eq.mp z.2}
def Jf(ao:di)(w:Nat)(F:bn)(g e:aD):Bool:=((qz ao e).map (Eg ao F)).getD C&&(rJ ao w g&&(makesIn ao g&&(hV ao (.ref g) "__init__"==o (o (.ref e))&&typeIn ao (.ref e)==o (.type "function"))))
def Bd(ao:di)(w:Nat):Bool:=match pm w with|.b F=>(f_[w]?).all fun g=>((qz ao g).map (Eg ao F)).getD C|.c v F _=>(f_[w]?).all fun g=>(f_[v]?).any (Jf ao w F g)|.e=>(f_[w]?).all fun g=>bR g 1064|.d=>I
structure Im(ao:di):Prop where
 b:(de 145).all (Bd ao)=I
 c:(de 145).map (D5 ao)=(de 145).map F6
 d:f_.all (fun g=>keepIn ao (.ref g))=I
theorem JO{w:Nat}{g:aD}(b:f_[w]?=o g):w<145:=fg (eg.mp b).1 (show f_.length≤145 from by decide+kernel)
theorem Rd{n:Option Bool}(c:n.getD C=I):n=o I:=by
 rcases n with _|e;·exact nomatch c
 ·exact congrArg o c
structure OQ(E:cV):Prop where
 f:∀ai,qz E.b 1071=o ai→E.k=ai.qualname++(".<locals>.":aq)++("<lambda>":aq)∧∃q,ai.code=.ref q∧∀c:eh,E.b.In c→CodeHd c q E.f
 d:∀bN e b,E.j bN e b↔EM E.b bN e=o b
theorem apm{E:cV}(X:Dt E.b)(be:Im E.b)(GE:OQ E):Dy E where
 b:=fun i g b=>fe.mp be.d g (dZ b);e:=Jz X;i:=amw fun bN e b=>(GE.d bN e b).mp;c:=fun w g F b a3=>by
  have a9:=gc.mpr (JO b);have c:=fe.mp be.b w a9;have q:=List.map_inj_left.mp be.c w a9;unfold Bd at c;unfold D5 F6 at q;rw[a3,b]at c q;obtain⟨ai,T,bY,ei⟩:=QW (Jz X) q (Rd c) fun ai Hk k al=>by
   unfold Sk at al;rcases u:bR g 1071 with _|_;·rw[u]at al;exact bb al
   ·rw[u]at al;obtain rfl:=aJ al;obtain rfl:=g5 u;obtain⟨H,L⟩:=GE.f ai Hk;exact⟨H,L,fun bN e b=>(GE.d bN e b).mpr⟩
  exact⟨ai,T,_,bY,ei⟩
 d:=fun w g v F gC b a3=>by
  have a9:=gc.mpr (JO b);have c:=fe.mp be.b w a9;have q:=List.map_inj_left.mp be.c w a9;unfold Bd at c;unfold D5 F6 at q;rw[a3]at c q;rw[b]at c;have c:(f_[v]?).any (Jf E.b w F g)=I:=c;have q:(f_[v]?).bind (Fb E.b U)=o (F.e,F.d.map o):=q;rcases u:f_[v]?with _|e;·rw[u]at c;exact nomatch c
  rw[u]at c q;have c:Jf E.b w F g e=I:=c;have c_:=bX c;have e3:=bX c_.2;have gT:=bX e3.2;have nW:=bX gT.2;obtain⟨ai,T,bY,ei⟩:=QW (Jz X) q (Rd c_.1) fun _ _ _ c=>bb c;exact⟨e,ai,T,bY,b,e3.1,gT.1,beq_iff_eq.mp nW.1,beq_iff_eq.mp nW.2,ei⟩
 f:=fun w g b a3=>by have c:=fe.mp be.b w (gc.mpr (JO b));unfold Bd at c;rw[a3,b]at c;obtain rfl:=g5 (show bR g 1064=I from c);exact X.e
end
section
open PySem PySem.W PyProof.Rows PySem.Calls
noncomputable def J1:List aD:=[3,0,2,4,39,38,52,51,64,63,114,113,727,726,937,936,115,116,728,729,938,939,40]++f_.flatMap fun g=>[g,g-1,g-7]
noncomputable def js(R:eC):di:=J1.filterMap fun g=>((xT R (rT R)).get g).map fun n=>(g,n)
theorem Sv{g:aD}{n:cm}{ao:di}(c:ao.lookup g=o n):(g,n)∈ao:=by induction ao with|nil=>exact bb c|cons k p ak=>
 obtain⟨G,e⟩:=k;rw[pK]at c;rcases u:(g==G)with _|_;·rw[u]at c;exact .tail _ (ak c)
 ·rw[u]at c;rw[beq_iff_eq.mp u,aJ c];exact .head _
theorem Su{w:aD→Option cm}{g:aD}{n:cm}{p:List aD}(c:(p.filterMap fun g=>(w g).map fun n=>(g,n)).lookup g=o n):g∈p∧w g=o n:=by obtain⟨e,aN,b⟩:=vT.mp (Sv c);obtain⟨cf,H,b⟩:=nS.mp b;obtain⟨rfl,rfl⟩:=bw b;exact⟨aN,H⟩
theorem ajJ{R:eC}{c:eh}(kZ:J1.all (fun g=>a6 (g<1072))=I)(cS:∀g n,(k6 R).get? g=o n→c.get? g=o n)(Hc:∀g n,(js R).lookup g=o n→alive n=o n):(js R).In c:=fun g n b=>by obtain⟨d,G⟩:=Su b;exact cS g n ((PySem.W.abs_get (of_decide_eq_true (fe.mp kZ g d)) G).trans (Hc g n b))
theorem Rq{R:eC}{g:aD}(c:J1.contains g=C):(js R).lookup g=U:=by
 rcases u:(js R).lookup g with _|n;·rfl
 ·exact nomatch c.symm.trans (Gh.mpr (Su u).1)
set_option backward.match.sparseCases true in noncomputable def aqI(b:h8):Bool:=match b.key with|.str _ _=>I|_=>C
noncomputable def ahb(n:cm):Option (Array h8):=match n.data with|.dict az _=>o az|_=>U
noncomputable def AG(ao:di)(g:aD)(w:(aq→Option aa)→Bool):Bool:=((ao.lookup g).bind ahb).any fun az=>az.all aqI&&w (nsFind az)
theorem IK{V:Type}{R:Prop}{n:Option V}{w:V→Bool}(c:n.any w=I)(v:∀g,n=o g→w g=I→R):R:=by
 rcases n with _|g;·exact nomatch c
 ·exact v g rfl c
theorem Jt{ao:di}{g:aD}{w:(aq→Option aa)→Bool}{c:eh}(bS:ao.In c)(b:AG ao g w=I):c.Ns g (c.nsMap g)∧w (c.nsMap g)=I:=IK b fun az aG aK=>d4 aG fun n H L=>by have aj:=bS _ _ H;obtain⟨q,F,tU,b'⟩:=n;induction tU with
 |dict ML dn=>
  obtain rfl:=aJ L;have aK:=bX aK;refine⟨Heap.Ns.of_isNs (by unfold Heap.isNs;rw[aj];exact aK.1),?_⟩;have:c.nsMap g=nsFind ML:=by funext d;unfold Heap.nsMap;rw[aj]
  rw[this];exact aK.2
 |_=>exact bb L
noncomputable def SM(n:cm):Bool:=match n with|⟨.type s,o F,.plain,_⟩=>s=="module"&&bR F m8|_=>C
theorem anH{n:cm}(c:SM n=I):∃b',n=⟨.type "module",o m8,.plain,b'⟩:=by rcases n with⟨q,F,d,b'⟩;induction q using Value.casesOn with
 |type s=>
  rcases F with _|F;·exact nR (show C=I from c)
  ·induction d using Data.casesOn with|plain=>have c:=bX c;rw[beq_iff_eq.mp c.1,g5 c.2];exact⟨_,rfl⟩|_=>exact nR (show C=I from c)
 |_=>exact nR (show C=I from c)
noncomputable def Ej(ao:di):Bool:=AG ao 3 (fun z=>z "__builtins__"==o (.ref 4))&&(ao.lookup 4).any SM
theorem ajv{ao:di}(b:Ej ao=I)(c:eh)(bS:ao.In c):∃k1,c.Ns hW k1∧c.BuiltinsAt k1 1066:=by have b:=bX b;obtain⟨g,e⟩:=Jt bS b.1;refine⟨_,g,IK b.2 fun n H L=>?_⟩;obtain⟨b',rfl⟩:=anH L;exact⟨4,_,beq_iff_eq.mp e,by decide,by decide,by decide,bS _ _ H,rfl,rfl,rfl⟩
noncomputable def EP(ao:di):Bool:=AG ao 2 (fun z=>z "sys.recursionlimit"==U)
theorem amK{ao:di}(b:EP ao=I)(c:eh)(bS:ao.In c):c.NoLimit:=by obtain⟨g,e⟩:=Jt bS b;exact⟨_,g,beq_iff_eq.mp e⟩
noncomputable def Si(ao:di):Bool:=(qz ao 1071).any (fun ai=>ai.qualname++(".<locals>.":aq)++("<lambda>":aq)==("law.<locals>.<lambda>":aq)&&ai.code==.ref 1070)&&codeHdIn ao 1070 1066
noncomputable def KF(x:cJ)(ao:di)(y:aT)(e:(ao.lookup 64).isSome=I)(G9:Ej ao=I)(HW:EP ao=I):cV where
 d:=cb;e:=x;b:=ao;j:=fun bN e b=>EM ao bN e=o b;p:=by obtain⟨n,c⟩:=L_.mp e;exact⟨64,n,c,df _⟩
 f:=1066;k:="law.<locals>.<lambda>";q:=ajv G9;l:=amK HW;m:=y
theorem amy{x:cJ}{ao:di}{y:aT}{e:(ao.lookup 64).isSome=I}{G9:Ej ao=I}{HW:EP ao=I}(c:Si ao=I):OQ (KF x ao y e G9 HW)where
 f:=fun ai Hk=>by have c:=bX c;refine IK c.1 fun CI H L=>?_;obtain rfl:=aJ (Hk.symm.trans H);have L:=bX L;exact⟨(beq_iff_eq.mp L.1).symm,1070,beq_iff_eq.mp L.2,fun bl bS=>codeHd_of_K bS c.2⟩
 d:=fun bN e b=>Iff.rfl
theorem aeu{ao:di}{c:eh}(bS:ao.In c)(b:codeHdIn ao 1070 1066=I):isCodeTable c 1066:=by obtain⟨n,N,_,_,_,_,_,_,_,H,L,aR,bh,_⟩:=codeHd_of_K bS b;exact⟨_,n,N,H,L,aR,bh⟩
theorem ad7{r:Nat}(ah:r≤200):k4 pW [] r where d:=rfl;c:=bt (km (show pW.depth≤400 by decide) (tF 2 ah)) (by decide);e:=bt (km (show pW.units≤4 by decide) (tF 20 ah)) (by decide);i:=⟨[],rfl,fun b c=>nomatch c⟩
theorem aiY{r:Nat}{f:af}{d:K}{e:Bool}(c:AQ r f d=o (.b (.g e))):d=.b (.g e):=by
 rcases d with k|v|⟨b,eK⟩;·exact aJ c
 ·change(if v<r then o (K.c v)else(f[v]?).bind Ei)=o (.b (.g e))at c;by_cases q:v<r;·rw[if_pos q]at c;exact bb (congrArg ki (aJ c))
  ·rw[if_neg q]at c;exact d4 c fun n _ c=>by induction n with|b=>exact bb (congrArg ki (aJ c))|f=>exact bb (congrArg ki (aJ c))|_=>exact bb c
 ·exact bb c
end
section
open PySem PySem.W PyProof.Rows PySem.Calls
open Classical in noncomputable def tu(ao:di)(y:aT)(g iu R:aD):ay:=⟨fun e=>if(ao.lookup e).isSome=I∨e=g then y.heap.get? e else U,fun e=>if(ao.lookup e).isSome=I∨e=g∨e=iu∨e=R then U else y.heap.get? e,[(R,R)],y⟩
theorem amB {E : cV} (bk : Dy E) {y : aT} (aW : E.m = y) (bS : E.b.In y.heap) {g iu dg : aD} (jz : y.heap.get? E.f = o (oS #[])) (MU : (E.b.lookup E.f).isSome = C) (Wx : ∃ z, y.heap.Ns iu z) (Ww : (E.b.lookup iu).isSome = C) (mw : E.f ≠ iu) (M1 : g ≠ E.f) (WN : g ≠ iu)
    (W1 : isCodeTable y.heap E.f) {w : Nat} {F : bn} (a3 : pm w = .b F) (Hu : qE F = C) (Xb : f_[w]? = o dg) {k : M} (b4 : ca E (tu E.b y g iu E.f).d k (.ref g)) {r : Nat} (ah : r + 1 ≤ 200)
    (cS : bp ab (r + 1) w [.b k] [.c] = o (.ok (.b (.g I)), [.c])) :
    da (c6 E.d E.e) pW (eT (.ref dg) [.ref g]) (fun l am => l = .bool I ∧ OldK y.heap am.heap ∧ am.gens = y.gens ∧ am.os = y.os) (fun _ _ => False) y := by
  obtain ⟨ai, T, iv, bY, ei⟩ := bk.c w dg F Xb a3
  have ej : k4 pW [] (r + 1) := ad7 ah
  have Hd : ∀ e, iP [(E.f, E.f)] e → e = E.f := fun e ⟨k, al, c⟩ => by
    rw [m4.mp al] at c; exact c.elim id id
  have HU : ∀ {e : aD}, (E.b.lookup e).isSome = C → e ≠ g → (tu E.b y g iu E.f).d e = U := fun H L => if_neg fun c => c.elim (fun c => nomatch H.symm.trans c) L
  have D : aP ⟨E, pW, default, iu, [], [], [], [], bp ab r⟩ [] [.c] (tu E.b y g iu E.f) := {
    ao := fun e n c => (if_pos (.inl (by rw [c]; rfl))).trans (bS e n c)
    p := fun e n c => by
      by_cases q : (E.b.lookup e).isSome = I ∨ e = g
      · exact (if_pos q).symm.trans c
      · exact bb ((if_neg q).symm.trans c)
    Z := fun e n c => by
      by_cases q : (E.b.lookup e).isSome = I ∨ e = g ∨ e = iu ∨ e = E.f
      · exact bb ((if_pos q).symm.trans c)
      · exact ⟨n, (if_neg q).symm.trans c, .inl rfl⟩
    ai := fun e n c => by
      by_cases q : (E.b.lookup e).isSome = I ∨ e = g ∨ e = iu ∨ e = E.f
      · exact bb ((if_pos q).symm.trans c)
      · exact if_neg fun u => q (u.imp id .inl)
    x := ⟨HU Ww (sb WN), if_pos (.inr (.inr (.inl rfl))), fun u => mw (Hd _ u).symm⟩
    y := fun v u cw => by
      have b := Hd u.1 ⟨u, dZ cw, .inl rfl⟩
      have dh := Hd u.2 ⟨u, dZ cw, .inr rfl⟩
      rw [b, dh]
      exact ⟨⟨HU MU M1.symm, HU MU M1.symm⟩, if_pos (.inr (.inr (.inr rfl))), if_pos (.inr (.inr (.inr rfl)))⟩
    G := fun e c => nomatch c
    P := by obtain ⟨z, a9⟩ := Wx; exact ⟨z, a9, rfl, fun i d c => bb c⟩
    E := rfl
    ag := fun i Q k u a4 bZ Xh => absurd ((GH.mp (eg.mp a4).1).trans (GH.mp (eg.mp bZ).1).symm) Xh
    S := fun v u n cw aj => by
      obtain rfl : v = 0 := GH.mp (eg.mp cw).1
      obtain rfl := aJ cw
      obtain rfl := aJ aj
      exact .sM rfl #[] jz trivial fun ap g_ u => bb u
    Y := ⟨rfl, fun i v d g c => bb c⟩
    J := by rw [show (⟨E, pW, default, iu, [], [], [], [], bp ab r⟩ : b5).b.m = y from aW]; exact ⟨rfl, rfl, rfl⟩ }
  have p8 : j_ 1 (ju (bp ab r) dm F [.b k] [.c]) = o (.ok (.b (.g I)), [.c]) := by
    have cS : pj ab (bp ab r) w [.b k] [.c] = _ := cS
    unfold pj at cS
    rw [show ab.c w = pm w from rfl, a3] at cS
    have cS : an (qE F) _ (j_ 1 (ju (bp ab r) dm F [.b k] [.c])) = _ := cS
    rw [Hu] at cS
    exact cS
  rcases n3 : sR F [.b k] with _ | ev
  · rw [ju, n3] at p8; exact bb p8
  rw [ju, n3, q1] at p8
  rcases aj : dK (bp ab r) dm ((de F.b.length).map ([eJ.c].length + ·)) F.e (kO F ev) ([eJ.c] ++ qw ev F.b) with _ | n
  · rw [aj] at p8; exact bb p8
  rw [aj] at p8
  refine p0 (codeAny_mono (I' (j := ⟨E, pW, default, iu, [], [], [], [], bp ab r⟩) (m := tu E.b y g iu E.f) (bq := C) (b := U) (bk := AA (fun l am => l = .bool I ∧ OldK y.heap am.heap ∧ am.gens = y.gens ∧ am.os = y.os) fun _ _ => False) ei bk.b ej.k (ad8 bk r) D (fun am => em.b (d := .b k) b4 em.e) n3 (fun _ _ c => nomatch c) aj ?_) fun ds am c => ?_)
  rotate_left
  · rcases ds with d | jX
    · exact c
    · induction jX with
      | _ => exact c
  · intro fz aL O cD oY ax cE ek lY
    rcases n with ⟨cM, a1⟩ | ⟨cM, a1⟩ | ⟨d, a1⟩ | ⟨u, a1⟩
    · exact u5 p8 fun _ c => bb (congrArg ki (Except.ok.inj (bw (aJ c)).1))
    · exact bb p8
    · intro l bB rs dd bD d'
      refine d4 p8 fun G a8 c => u5 c fun _ c => ?_
      obtain ⟨H, L⟩ := bw (aJ c)
      obtain rfl := Except.ok.inj H
      obtain rfl := aiY a8
      have nU : (ay.l ⟨E, pW, default, iu, [], [], [], [], bp ab r⟩ (tu E.b y g iu E.f) C cE).c bB := (ay.c.s _ ek).k dd
      have ub : ∀ e n, y.heap.get? e = o n → e ≠ E.f → bB.b.heap.get? e = o n := fun e n aN al => by
        have Od : ∀ {cf : cm}, (ay.l ⟨E, pW, default, iu, [], [], [], [], bp ab r⟩ (tu E.b y g iu E.f) C cE).i e = o cf → e ≠ O → bB.b.heap.get? e = o cf := fun {cf} c WS => by
          obtain ⟨C9, cx, cU⟩ := bD.Z e cf (nU.v ▸ c)
          rcases cU with rfl | ⟨cU, _⟩
          · exact cx
          · exact absurd (m4.mp cU) WS
        by_cases q : (E.b.lookup e).isSome = I ∨ e = g
        · exact bD.p e n (nU.f e n ((if_pos q).trans aN))
        · by_cases mt : e = iu
          · obtain ⟨cf, cx, cU⟩ := nC.b (am := cE) (bq := C) D (g := e) (.inl mt)
            obtain rfl := aJ (aN.symm.trans cU)
            exact Od cx fun b => lY.p (b ▸ mt)
          · have y8 : (tu E.b y g iu E.f).i e = o n := (if_neg fun u => by
              rcases u with u | u | u | u
              · exact q (.inl u)
              · exact q (.inr u)
              · exact mt u
              · exact al u).trans aN
            exact Od (J9 D y8) fun b => bb (lY.i.symm.trans (b ▸ y8))
      have NL : ∃ T, bB.b.heap.get? E.f = o (oS T) := by
        have aX : a1[0]? = o .c := by
          have := congrArg (·[0]?) L
          rw [List.getElem?_take_of_lt (by decide)] at this
          exact this
        have H : bB.f[0]? = o (E.f, E.f) := nU.i (show (tu E.b y g iu E.f).f[0]? = _ from rfl)
        have nk := bD.S 0 _ _ H aX
        rcases nk with _ | _ | _ | _ | _ | ⟨_, T, c, _⟩
        exact ⟨T, c⟩
      refine ⟨K7 d', ⟨fun e n aN => ?_, fun e n aN => ?_⟩, bD.J.1.trans (by rw [← aW]), bD.J.2.1.trans (by rw [← aW])⟩
      · by_cases u : e = E.f
        · obtain ⟨T, c⟩ := NL
          subst u
          obtain rfl := aJ (jz.symm.trans aN)
          exact .inr (.inl ⟨W1, rfl, #[], T, rfl, by rw [c, Array.empty_append]⟩)
        · exact .inl (ub e n aN u)
      · by_cases u : e = E.f
        · obtain ⟨T, c⟩ := NL
          exact ⟨_, u ▸ c⟩
        · exact ⟨n, ub e n aN u⟩
    · exact u5 p8 fun _ c => nomatch (bw (aJ c)).1
end
section
open PySem PySem.W PyProof.Rows PySem.Calls
noncomputable def O7(n:cm):Bool:=match n.data with|.freed=>C|_=>I
noncomputable def Tw(ao:di):Bool:=(ao.lookup 64).isSome&&(Ej ao&&(EP ao&&(Si ao&&(Jy ao&&ao.all fun k=>O7 k.2))))
theorem SF(R:eC):Tw (js R)=I:=by kernel_rfl
theorem ann(R:eC):(ahX (js R)).isSome=I:=by kernel_rfl
theorem anp(R:eC):(Lf (js R) 29 [.none] (ang (js R))).isSome=I:=by kernel_rfl
theorem anq(R:eC):(Lf (js R) 36 [] ank).isSome=I:=by kernel_rfl
theorem ano(R:eC):(Lf (js R) 1064 [] (anf (js R))).isSome=I:=by kernel_rfl
theorem anl(R:eC)(kV:Setting)(fE:List aa):peek (js R) kV (yT "Exception.__new__" ⟨.ref 64::fE,[]⟩)=o ():=by kernel_rfl
theorem ans(R:eC):f_.all (fun g=>keepIn (js R) (.ref g))=I:=by kernel_rfl
end
section
open PySem PySem.W PyProof.Rows PySem.Calls
theorem anr(R:eC):(de 145).all (Bd (js R))=I:=by kernel_rfl
theorem anm(R:eC):(de 145).map (D5 (js R))=(de 145).map F6:=by kernel_rfl
end
section
open PySem PySem.W PySem.W.X PyProof.Rows
section
theorem ant(R:eC):((xT R (rT R)).get 6,(xT R (rT R)).get 1066,AG (js R) 3 (fun z=>z "law"==o (.ref 1071)))=(o {cls:=.type "dict",data:=.dict #[]},o (oS #[]),I):=by kernel_rfl
theorem ali:lL.1.name="law":=by kernel_rfl
theorem Z6{n:cm}(c:O7 n=I):alive n=o n:=by obtain⟨q,F,tU,b'⟩:=n;induction tU with|freed=>exact nomatch c|_=>rfl
theorem aeg(R:eC)(b:Jy (js R)=I):Dt (js R):=⟨b,nt.b (ann R),nt.b (anp R),nt.b (anq R),nt.b (ano R),anl R⟩
theorem aeh(R:eC):Im (js R):=⟨anr R,anm R,ans R⟩
theorem amz(ao:di)(x:cJ)(bf:Dt ao)(aI:Im ao)(t:Tw ao=I){y:aT}(bS:ao.In y.heap)(dB:y.heap.get? 6=o {cls:=.type "dict",data:=.dict #[]})(jz:y.heap.get? 1066=o (oS #[]))(C6:ao.lookup 6=U)(C7:ao.lookup 1066=U){g:aD}{N:List aa}{aC:List Int}(aY:1072≤g)(aw:y.heap.PlainList g N.toArray)(a4:IntsAre N aC)(y1:bp ab 60 125 [.b (.f (aC.map .b))] [.c]=o (.ok (.b (.g I)),[.c])):da (c6 cb x) pW (eT (.ref 1071) [.ref g]) (fun l am=>l=.bool I∧OldK y.heap am.heap∧am.gens=y.gens∧am.os=y.os) (fun _ _=>False) y:=by have jC:=bX t;have k2:=bX jC.2;have wu:=bX k2.2;have Oi:=bX wu.2;obtain⟨r,aw⟩:=aw;have bk:Dy (KF x ao y jC.1 k2.1 wu.1):=apm bf aI (amy Oi.1);have t8:y.heap.Ns 6 (y.heap.nsMap 6):=Heap.Ns.of_isNs (by unfold Heap.isNs;rw[dB];exact Array.all_toList.symm);have i5:∀e,e<1072→g≠e:=fun e aN b=>tE _ (fg aN (b▸aY));refine amB (E:=KF x ao y jC.1 k2.1 wu.1) bk rfl bS (iu:=6) (dg:=1071) (g:=g) jz (show(ao.lookup 1066).isSome=C from by rw[C7];rfl) ⟨_,t8⟩ (show(ao.lookup 6).isSome=C from by rw[C6];rfl) (show(1066:Nat)≠6 by decide) (i5 1066 (by decide)) (i5 6 (by decide)) (aeu bS (bX Oi.1).2) (w:=125) (F:=Qb) rfl rfl rfl (k:=.f (aC.map .b)) (.rD N _ ((if_pos (.inr rfl)).trans aw) ⟨r,rfl⟩ (by rw[a4.length,dA]) fun i k l H L=>?_) (r:=59) (by decide) y1;obtain⟨v,s,rfl,aR⟩:=a4.at i l L;rw[jQ,aR]at H;obtain rfl:=aJ H;exact .ns v s
theorem ajH(R:eC):(k6 R).objs.size=1072:=by unfold k6;exact absHeap_size _ _ _
theorem Ro{R:eC}{g:Nat}{n:cm}(c:g<1072)(E:(xT R (rT R)).get g=o n)(aY:alive n=o n):(k6 R).get? g=o n:=by unfold k6;exact(abs_get c E).trans aY
theorem aiq{ao:di}{c:eh}{k1:aq→Option aa}{dg:aD}{d:aq}(bS:ao.In c)(b:AG ao 3 (fun z=>z d==o (.ref 1071))=I)(p9:c.Ns hW k1)(a9:k1 d=o (.ref dg)):dg=1071:=by
 obtain⟨_,e⟩:=Jt bS b;obtain⟨n,az,dn,aG,aK,_,dN⟩:=p9;have:c.nsMap 3 d=k1 d:=by unfold Heap.nsMap;rw[show c.get? 3=o n from aG];dsimp only;rw[aK];exact dN d
 rw[this,a9]at e;exact GR (aJ (beq_iff_eq.mp e))
theorem aoT(fQ:List WData):uX.claim.post fQ (.bool I) fQ=I:=by kernel_rfl
theorem aoh(fQ:List WData)(Vq:ExcName):uX.claim.raises fQ Vq=C:=rfl
theorem asp(y1:∀aC:List Int,aC.length≤63→bp ab 60 125 [.b (.f (aC.map .b))] [.c]=o (.ok (.b (.g I)),[.c])):WalkX nz rS (fun _ _=>True) Ep AV uX lL.1 lL.2 fun w N=>eT w N:=by intro x mC bQ k1 aum ft G dg n sv eU atY G4 aug aj aI nd jn Nq cN fQ gZ aM O XD Xm XF XM Xo;wrow_args XD Xm XF XM Xo;rename_i aC aW at6 at3 at7 rj atR atS g bm atT Wt ui eH Oh rh b4 j0 NM;obtain⟨NO,at9⟩:=bw G;obtain⟨t2,ia⟩:=script_at O;rw[NO,ajH]at t2;have ar:∀e n,(k6 x.params).get? e=o n→bQ.heap.get? e=o n:=fun e n b=>O.keeps e n (by rw[NO];exact b);have Hc:=(bX (bX (bX (bX (bX (SF x.params)).2).2).2).2).2;have bS:(js x.params).In bQ.heap:=ajJ (by decide+kernel) ar fun g n b=>Z6 (fe.mp Hc _ (Sv b));obtain⟨Ys,z⟩:=bw (ant x.params);obtain⟨Yt,Yv⟩:=bw z;rw[ali]at Nq;obtain rfl:=aiq bS Yv ft.T.g Nq;have aw:bQ.heap.PlainList g bm.toArray:=⟨0,script_obj O Wt⟩;have b4:=SF x.params;refine gs (amz (js x.params) x (aeg _ (bX (bX (bX (bX (bX b4).2).2).2).2).1) (aeh _) b4 bS (ar _ _ (Ro (by decide) Ys rfl)) (ar _ _ (Ro (by decide) Yt rfl)) (Rq (by decide+kernel)) (Rq (by decide+kernel)) (ff t2.symm) aw rh (y1 aC (by omega))) (fun l am c=>?_) (fun _ _ c=>c.elim);obtain⟨rfl,Wy,t6,XA⟩:=c;exact⟨.inl ⟨.bool I,.bool I,[],rfl,aoh _,ReadsW.bool _,aoT _,fun _=>⟨yH,fun g c=>nomatch c⟩⟩,Wy,XA,by rw[t6,cN];intro G a8;simp at a8⟩
theorem auI(y1:∀aC:List Int,aC.length≤63→bp ab 60 125 [.b (.f (aC.map .b))] [.c]=o (.ok (.b (.g I)),[.c])):L'.Holds:=alk (asp y1)
end
end
end
end Mine
theorem PySem.Challenge.cw_ok0181_01_holds : PySem.Challenge.rw_ok0181_01.Holds :=
  Mine.auI fun _ hn=>Mine.auS hn
