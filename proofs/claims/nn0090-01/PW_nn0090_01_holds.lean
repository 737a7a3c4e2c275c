import PyProof.Rows.All
import PyProof.AutoListH
import PyProof.AutoSeq1
import PyProof.CallStr
import PyProof.PlainList
import PyProof.ConsumeWalk
import PyProof.Conv_int
import PyProof.Conv_int_bool
import PyProof.DictRoadsH
import PyProof.DictTable
import PyProof.ExcBaseAll.Exception
import PyProof.ExcInit
import PyProof.SliceStr
import PyProof.SliceStr2
import PyProof.StrBlock
import PyProof.RangeFor
import PyProof.ListCopy
import PyProof.ListIndexNeg
import PyProof.P3In
import PyProof.StrCalls2
import PyProof.Rows.SeqSlice
import PyProof.SliceMore
import PyProof.Rows.EqDataRows
import PyProof.Rows.SumAny
import PyProof.TupleOfSeq
import Wide.BytesFacts
import Wide.BytesRules
import KE.KxBytes
import KE.BytesMake
import KE.IntText
import KE.KBytesWalk
import KE.KBytesCut
import KE.KIntText
import Wide.FinOn
import OpenK.AllK
import Wide.All
import Lean
import PySem.Challenge.RW_nn0090_01
set_option maxRecDepth 100000
set_option linter.all false
set_option backward.match.sparseCases false
set_option bootstrap.genMatcherCode false
set_option genSizeOf false
set_option genInjectivity false
set_option Elab.async false
namespace Mine
local macro_rules | `(tactic| rfl') => `(tactic| kernel_rfl)
section
set_option backward.match.sparseCases true
set_option bootstrap.genMatcherCode true
set_option genInjectivity true
set_option genSizeOf true
open PySem PySem.W PyProof.Rows PySem.Calls
theorem qU{a b:Bool}(x:a=true)(y:b=true):(a&&b)=true:=by rw[x,y];rfl
noncomputable abbrev pQ:Program:=PySem.Challenge.pw_nn0090_01
theorem Uv:sreFenced pQ.main=true:=by rfl'
theorem Uw:((moduleNames pQ.main.body).isEmpty||lookedIntoSs (moduleNames pQ.main.body) pQ.main.body)=true:=by rfl'
theorem Ux:namesResolve pQ=true:=by rfl'
theorem Uy:pQ.boundNames.all (fun n=> !worldNames.contains n)=true:=by rfl'
theorem Uz:noRoadLSs {strict:= !(importedModules pQ.main.body).all cThrough.contains,foot:=none,bare:=(["vars","dir","locals"]:List Str).filter (readsOut pQ pQ.main.body)} pQ.main.body=true:=by rfl'
theorem UA:namesMeet pQ pQ.main.body (fun _ n=>attrL n)=true:=by rfl'
theorem xd:looksOpen pQ=true:=qU (qU (qU (qU (qU Uv Uw) Ux) Uy) Uz) UA
theorem xf:PySem.Challenge.rw_nn0090_01.row.partSaid=true:=by
 unfold OpenRow.partSaid
 repeat' with_reducible apply qU
 ·exact xd
 all_goals rfl'
theorem yZ:PySem.Challenge.rw_nn0090_01.row.wellSaid=true:=by
 unfold OpenRow.wellSaid
 repeat' with_reducible apply qU
 ·with_reducible exact xf
 all_goals rfl'
theorem y0:PySem.Challenge.rw_nn0090_01.wellSaid=true:=by
 unfold OpenLaw.wellSaid
 repeat' with_reducible apply qU
 ·with_reducible exact yZ
 all_goals rfl'
end
section
set_option backward.match.sparseCases true
set_option bootstrap.genMatcherCode true
set_option genInjectivity true
set_option genSizeOf true
open PySem
noncomputable def fu:List Stmt->Nat->Stmt
 |[],_=> .Pass ⟨0,0,0,0⟩
 |s::_,0=>s
 |_::r,n+1=>fu r n
noncomputable def fP:Stmt->Arguments
 | .FunctionDef _ a _ _ _ _ _ _ _ _=>a
 |_=> {posonlyargs:=[],args:=[],vararg:=none,kwonlyargs:=[],kw_defaults:=[],kwarg:=none,defaults:=[]}
noncomputable def fB:Stmt->List Stmt
 | .FunctionDef _ _ b _ _ _ _ _ _ _=>b
 | .ClassDef _ _ _ b _ _ _ _ _ _ _=>b
 |_=>[]
noncomputable def fS:Stmt->Scope
 | .FunctionDef _ _ _ _ _ _ s _ _ _=>s
 |_=> {kind:= .function,names:=[],isGenerator:=false,isCoroutine:=false,more:=[]}
noncomputable def aR(p:Program)(i:Nat):Stmt:=fu p.main.body i
noncomputable def lU(p:Program)(i j:Nat):Stmt:=fu (fB (fu p.main.body i)) j
end
section
open PySem
inductive T where
 |none|bool (b:Bool)|int (i:Int)|str (s:Str)|bytes (b:List UInt8)
 |tup (xs:List T)|lst (xs:List T)|dict (es:List (T×T))|inst (c:Nat) (fs:List (Str×T))
 |gl (a:Nat)|bi (s:String)|ty (s:String)|H5 (n:Nat)
inductive V where
 |t (x:T)|loc (i:Nat)
inductive Cell where
 |lst (xs:List V)|tup (xs:List V)|inst (c:Nat) (fs:List (Str×V))|dict (es:List (T×V))|cg (t:T)
inductive R where
 |ok (v:V)|exc
noncomputable abbrev aa:=List Cell
noncomputable abbrev Loc:=List (Str×V)
noncomputable abbrev aq:=Option (R×aa)
noncomputable abbrev Kn:=R->aa->aq
noncomputable abbrev Spec:=List V->aa->Kn->aq
noncomputable abbrev Tab:=Nat->Option Spec
noncomputable abbrev Kx:=aa->aq
noncomputable abbrev EM(α:Type):=(α->aa->aq)->Kx->aq
section
variable{α β:Type}
noncomputable def aJ(a:α)(c:aa):EM α:=fun k _=>k a c
noncomputable def jo:EM α:=fun _ _=>none
noncomputable def aF(m:EM α)(f:α->aa->EM β):EM β:=fun k kx=>m (fun a c=>f a c k kx) kx
noncomputable def bT(b:Bool)(m:EM α):EM α:=fun k kx=>bif b then m k kx else none
noncomputable def lF(b:Bool)(m n:EM α):EM α:=fun k kx=>bif b then m k kx else n k kx
noncomputable def ob(o:Option α)(f:α->Option β):Option β:=match o with
 |some a=>f a
 |none=>none
noncomputable def aG(o:Option α)(f:α->EM β):EM β:=fun k kx=>ob o fun a=>f a k kx
noncomputable def bn(o:Option α)(f:α->β)(d:β):β:=match o with
 |some a=>f a
 |none=>d
end
noncomputable def e2(m:Kn->aq):EM V:=fun k kx=>m fun r c=>match r with
 | .ok v=>k v c
 | .exc=>kx c
noncomputable def k2(m:EM V):Kn->aq:=fun k=>m (fun v c=>k (.ok v) c) (fun c=>k .exc c)
noncomputable def xg(y:Cell)(c:aa):EM V:=aJ (.loc c.length) (c++[y])
noncomputable def big:Nat:=2^20
noncomputable def bC(s:Str):Bool:=decide (s.cps.size<=big)&&s.cps.all (·<0x110000)
noncomputable def JA:List Nat->List Nat->Bool
 |[],[]=>true
 |a::x,b::y=>Nat.beq a b&&JA x y
 |_,_=>false
noncomputable def sEq(a b:Str):Bool:=JA a.cps.toList b.cps.toList
theorem u8:∀a b:List Nat,JA a b=true↔a=b
 |[],[]=>by simp [JA]
 |[],_::_=>by simp [JA]
 |_::_,[]=>by simp [JA]
 |a::x,b::y=>by
  have h:Nat.beq a b=true↔a=b:=⟨Nat.eq_of_beq_eq_true,fun e=>by subst e;exact Nat.beq_refl a⟩
  simp [JA,u8 x y,h]
theorem km(a b:Str):sEq a b=(a==b):=by
 rw[Bool.eq_iff_iff,beq_iff_eq]
 unfold sEq
 rw[u8]
 obtain⟨⟨a⟩⟩:=a
 obtain⟨⟨b⟩⟩:=b
 simp
theorem bZ{a b:Str}(h:sEq a b=true):a=b:=by rw[km]at h;exact beq_iff_eq.mp h
noncomputable def look{α:Type}:List (Str×α)->Str->Option α
 |[],_=>none
 |(y,v)::r,x=>bif sEq y x then some v else look r x
noncomputable def dP{α:Type}:List (Str×α)->Str->α->List (Str×α)
 |[],x,v=>[(x,v)]
 |(y,w)::r,x,v=>bif sEq y x then(y,v)::r else(y,w)::dP r x v
inductive Sh where
 |lst (xs:List V)|tup (xs:List V)|inst (c:Nat) (fs:List (Str×V))|dict (es:List (T×V))|at (t:T)|bad
noncomputable def vF:List (α×T)->List (α×V):=List.map fun p=>(p.1,.t p.2)
noncomputable def UB:T->Sh
 | .lst xs=> .lst (xs.map .t)
 | .tup xs=> .tup (xs.map .t)
 | .inst k fs=> .inst k (vF fs)
 | .dict es=> .dict (vF es)
 |t=> .at t
noncomputable def XI:Cell->Sh
 | .cg t=>UB t
 | .lst xs=> .lst xs
 | .tup xs=> .tup xs
 | .inst k fs=> .inst k fs
 | .dict es=> .dict es
noncomputable def Oh:Option Cell->Sh
 |some x=>XI x
 |none=> .bad
noncomputable def shape(c:aa):V->Sh
 | .t t=>UB t
 | .loc i=>Oh c[i]?
noncomputable def iO:T->Option Int
 | .int i=>some i
 |_=>none
noncomputable def tB:T->Option Str
 | .str i=>some i
 |_=>none
noncomputable def lG:T->Option (List UInt8)
 | .bytes i=>some i
 |_=>none
noncomputable def oh:T->Option (List T)
 | .tup i=>some i
 |_=>none
noncomputable def y4:T->Option (List T)
 | .lst i=>some i
 |_=>none
noncomputable def qV:V->Option T
 | .t x=>some x
 |_=>none
noncomputable def lH(f:T->Option α):V->Option α
 | .t x=>f x
 |_=>none
noncomputable def jp:V->Option Int:=lH iO
noncomputable def iu:V->Option Str:=lH tB
noncomputable def nS:V->Option (List UInt8):=lH lG
noncomputable def UC:V->Option (List T):=lH oh
noncomputable def Sh.lst? :Sh->Option (List V)
 | .lst xs=>some xs
 |_=>none
noncomputable def Sh.tup? :Sh->Option (List V)
 | .tup xs=>some xs
 |_=>none
noncomputable def Sh.inst? :Sh->Option (Nat×List (Str×V))
 | .inst k fs=>some (k,fs)
 |_=>none
noncomputable def Sh.dict? :Sh->Option (List (T×V))
 | .dict es=>some es
 |_=>none
noncomputable def listOf(c:aa)(v:V):Option (List V):=(shape c v).lst?
noncomputable def qW(c:aa)(v:V):Option (List V):=(shape c v).tup?
noncomputable def fieldsOf(c:aa)(v:V):Option (Nat×List (Str×V)):=(shape c v).inst?
noncomputable def dictOf(c:aa)(v:V):Option (List (T×V)):=(shape c v).dict?
noncomputable def mE(c:aa)(v:V):Option (List V):=bn (listOf c v) some (qW c v)
noncomputable def nT(f:V->Option T):List V->Option (List T)
 |[]=>some []
 |x::r=>ob (f x) fun t=>ob (nT f r) fun ts=>some (t::ts)
noncomputable def DV{α:Type}(f:V->Option T):List (α×V)->Option (List (α×T))
 |[]=>some []
 |p::r=>ob (f p.2) fun t=>ob (DV f r) fun ts=>some ((p.1,t)::ts)
noncomputable def Oi(f:V->Option T):Cell->Option T
 | .cg t=>some t
 | .lst xs=>ob (nT f xs) fun ts=>some (.lst ts)
 | .tup xs=>ob (nT f xs) fun ts=>some (.tup ts)
 | .inst k fs=>ob (DV f fs) fun ts=>some (.inst k ts)
 | .dict es=>ob (DV f es) fun ts=>some (.dict ts)
noncomputable def Oj(f:Nat->Option T):V->Option T
 | .t x=>some x
 | .loc i=>f i
noncomputable def res:Nat->aa->V->Option T
 |0,_=>Oj fun _=>none
 |n+1,c=>Oj fun i=>ob c[i]? (Oi (res n c))
noncomputable def iF(f:aa->V->Option (T×aa)):aa->List V->Option (List T×aa)
 |c,[]=>some ([],c)
 |c,x::r=>ob (f c x) fun p=>ob (iF f p.2 r) fun q=>some (p.1::q.1,q.2)
noncomputable def Ol{α:Type}(f:aa->V->Option (T×aa)):aa->List (α×V)->Option (List (α×T)×aa)
 |c,[]=>some ([],c)
 |c,x::r=>ob (f c x.2) fun p=>ob (Ol f p.2 r) fun q=>some ((x.1,p.1)::q.1,q.2)
noncomputable def pf:Cell->Bool
 | .cg _=>true
 |_=>false
noncomputable def cW(c:aa)(i:Nat)(t:T):Option (T×aa):=ob c[i]? fun x=>bif pf x then none else some (t,c.set i (.cg t))
noncomputable def UD(f:aa->V->Option (T×aa))(c:aa)(i:Nat):Cell->Option (T×aa)
 | .cg t=>some (t,c)
 | .lst xs=>ob (iF f c xs) fun p=>cW p.2 i (.lst p.1)
 | .tup xs=>ob (iF f c xs) fun p=>cW p.2 i (.tup p.1)
 | .inst k fs=>ob (Ol f c fs) fun p=>cW p.2 i (.inst k p.1)
 | .dict es=>ob (Ol f c es) fun p=>cW p.2 i (.dict p.1)
noncomputable def XJ(f:Nat->Option (T×aa))(c:aa):V->Option (T×aa)
 | .t x=>some (x,c)
 | .loc i=>f i
noncomputable def fr:Nat->aa->V->Option (T×aa)
 |0,c=>XJ (fun _=>none) c
 |n+1,c=>XJ (fun i=>ob c[i]? (UD (fr n) c i)) c
noncomputable def aN:Nat:=12
noncomputable def y5:T->Option Bool
 | .none=>some true
 | .bool _=>some false
 | .int _=>some false
 | .str _=>some false
 | .tup _=>some false
 | .lst _=>some false
 |_=>none
noncomputable def y6(a:Bool):T->Option Bool
 | .bool b=>some (a==b)
 |_=>none
noncomputable def H6(a:Int):T->Option Bool
 | .int b=>some (decide (a=b))
 | .none=>some false
 | .str _=>some false
 |_=>none
noncomputable def H7(a:Str):T->Option Bool
 | .str b=>some (a==b)
 | .none=>some false
 | .int _=>some false
 |_=>none
noncomputable def H8(f:List T->Option Bool):T->Option Bool
 | .tup b=>f b
 | .none=>some false
 |_=>none
noncomputable def H9(f:List T->Option Bool):T->Option Bool
 | .lst b=>f b
 | .none=>some false
 |_=>none
noncomputable def both(a b:Option Bool)(f:Bool->Bool->Bool):Option Bool:=ob a fun x=>ob b fun y=>some (f x y)
mutual
noncomputable def eqT(x y:T):Option Bool:=match x with
 | .none=>y5 y
 | .bool a=>y6 a y
 | .int a=>H6 a y
 | .str a=>H7 a y
 | .tup a=>H8 (jq a) y
 | .lst a=>H9 (jq a) y
 |_=>none
noncomputable def jq:List T->List T->Option Bool
 |[],[]=>some true
 |[],_::_=>some false
 |_::_,[]=>some false
 |x::xs,y::ys=>both (eqT x y) (jq xs ys) (·&&·)
end
noncomputable def jr:Nat->T->Bool
 |_,.none=>true
 |_,.bool _=>true
 |_,.int _=>true
 |_,.str _=>true
 |n+1,.tup xs=>xs.all (jr n)
 |n+1,.lst xs=>xs.all (jr n)
 |_,_=>false
noncomputable def YD(a b:T):Option Bool:=bn (lG a) (fun a=>ob (lG b) fun b=>some (a==b)) (bif jr 30 a&&jr 30 b then eqT a b else none)
noncomputable def u9(c:aa)(x y:V):Option Bool:=ob (res aN c x) fun a=>ob (res aN c y) (YD a)
noncomputable def JB(c:aa)(v:V):Option Nat:=ob (mE c v) fun xs=>some xs.length
noncomputable def sizeOf?(c:aa)(v:V):Option Nat:=bn (nS v) (fun b=>some b.length) (JB c v)
noncomputable def pg:T->Option Bool
 | .none=>some false
 | .bool b=>some b
 |_=>none
noncomputable def truthy?(_:aa):V->Option Bool:=lH pg
noncomputable def y7(x:T):List T->Option Bool
 |[]=>some false
 |y::r=>both (eqT y x) (y7 x r) (·||·)
noncomputable def tC(x:T)(ys:List T):Option Bool:=bif jr 29 x&&ys.all (jr 29)then y7 x ys else none
noncomputable def mF:List Str:=[⟨#[114,101,108,56]⟩,⟨#[114,101,108,51,50]⟩,⟨#[114,109,54,52]⟩,⟨#[117,105,109,109,49,54]⟩,⟨#[117,105,109,109,56]⟩,⟨#[114,109,49,54]⟩,⟨#[114,109,51,50]⟩,⟨#[114,109,56]⟩,⟨#[114,56]⟩,⟨#[114,49,54]⟩,⟨#[114,51,50]⟩,⟨#[114,54,52]⟩,⟨#[111,56]⟩,⟨#[105,109,109,56]⟩,⟨#[111,49,54]⟩,⟨#[105,109,109,49,54]⟩,⟨#[111,51,50]⟩,⟨#[105,109,109,51,50]⟩,⟨#[115,105,109,109,51,50]⟩,⟨#[111,54,52]⟩,⟨#[105,109,109,54,52]⟩,⟨#[109]⟩,⟨#[97,108]⟩,⟨#[97,120]⟩,⟨#[101,97,120]⟩,⟨#[114,97,120]⟩,⟨#[115,105,109,109,56]⟩]
noncomputable def y8:List Str:=[⟨#[111,32,110,111,32,98,32,97,101,32,101,32,110,101,32,98,101,32,97,32,115,32,110,115,32,112,32,110,112,32,108,32,103,101,32,108,101,32,103]⟩,
 ⟨#[97,100,100,32,97,100,99,32,97,110,100,32,111,114,32,115,98,98,32,115,117,98,32,120,111,114,32,105,110,99,32,100,101,99,32,110,101,103,32,110,111,116,32,120,99,104,103,32,120,97,100,100,32,99,109,112,120,99,104,103,32,98,116,115,32,98,116,114,32,98,116,99]⟩,
 ⟨#[109,111,118,115,98,32,109,111,118,115,119,32,109,111,118,115,100,32,109,111,118,115,113,32,115,116,111,115,98,32,115,116,111,115,119,32,115,116,111,115,100,32,115,116,111,115,113,32,108,111,100,115,98,32,108,111,100,115,119,32,108,111,100,115,100,32,108,111,100,115,113]⟩,
 ⟨#[99,109,112,115,98,32,99,109,112,115,119,32,99,109,112,115,100,32,99,109,112,115,113,32,115,99,97,115,98,32,115,99,97,115,119,32,115,99,97,115,100,32,115,99,97,115,113]⟩,
 ⟨#[97,108,32,99,108,32,100,108,32,98,108,32,115,112,108,32,98,112,108,32,115,105,108,32,100,105,108]⟩,
 ⟨#[97,120,32,99,120,32,100,120,32,98,120,32,115,112,32,98,112,32,115,105,32,100,105]⟩,
 ⟨#[101,97,120,32,101,99,120,32,101,100,120,32,101,98,120,32,101,115,112,32,101,98,112,32,101,115,105,32,101,100,105]⟩,
 ⟨#[114,97,120,32,114,99,120,32,114,100,120,32,114,98,120,32,114,115,112,32,114,98,112,32,114,115,105,32,114,100,105]⟩,
 ⟨#[97,104,32,99,104,32,100,104,32,98,104]⟩]
noncomputable def qX(l:List Str)(s:Str):Bool:=l.any fun y=>sEq y s
noncomputable def tD:Str:=⟨#[105,109,109]⟩
noncomputable def y9:Str:=⟨#[114,109,111,120]⟩
noncomputable def ph(a:List Nat):List Nat->Bool
 |[]=>a.isEmpty
 |x::r=>a.isPrefixOf (x::r)||ph a r
noncomputable def qY(x:T):List (T×α)->Option Bool
 |[]=>some false
 |p::r=>both (eqT x p.1) (qY x r) (·||·)
noncomputable def intsOf:List T->Option (List Int)
 |[]=>some []
 |x::r=>ob (iO x) fun i=>ob (intsOf r) fun l=>some (i::l)
noncomputable def iQ:T->Bool
 | .str _=>true
 |_=>false
noncomputable def kq:T->Bool
 | .tup _=>true
 |_=>false
noncomputable def cX{α:Type}(x:T)(es:List (T×α)):Bool:=bn (oh x) (fun xs=>(intsOf xs).isSome&&Nat.ble xs.length 100&&es.all fun p=>kq p.1) (iQ x&&es.all fun p=>iQ p.1)
noncomputable def YE(x:T)(b:List UInt8):Option Bool:=ob (iO x) fun i=>bif decide (0<=i)&&decide (i<256)then some (b.any fun o=>decide ((o.toNat:Int)=i))else none
noncomputable def YF(x:T)(b:Str):Option Bool:=ob (tB x) fun a=>bif sEq a tD&&qX mF b then some (ph a.cps.toList b.cps.toList)else none
noncomputable def XK(x:T):T->Option Bool
 | .str b=>YF x b
 | .bytes b=>YE x b
 |_=>none
noncomputable def UE(c:aa)(x:T):Sh->Option Bool
 | .lst ys=>ob (nT (res aN c) ys) (tC x)
 | .tup ys=>ob (nT (res aN c) ys) (tC x)
 | .at t=>XK x t
 |_=>none
noncomputable def za:V->Option Nat
 | .loc i=>some i
 |_=>none
noncomputable def JC:Cell->Option (List V)
 | .lst xs=>some xs
 |_=>none
noncomputable def Om:Cell->Option (List (T×V))
 | .dict xs=>some xs
 |_=>none
noncomputable def UF:Cell->Option (Nat×List (Str×V))
 | .inst k xs=>some (k,xs)
 |_=>none
noncomputable def On(c:aa)(y:V):Option (List (T×V)):=ob (za y) fun i=>ob c[i]? Om
noncomputable def UG(c:aa)(x y:V):Option Bool:=ob (res aN c x) fun x=>bn (On c y) (fun es=>bif cX x es then qY x es else none) (UE c x (shape c y))
noncomputable def Oo:Sh->Option Bool
 | .at .none=>some true
 | .lst _=>some false
 | .tup _=>some false
 | .inst _ _=>some false
 | .dict _=>some false
 |_=>none
noncomputable def Ia:V->Bool
 | .t .none=>true
 |_=>false
noncomputable def UH(c:aa)(x y:V):Option Bool:=bif Ia y then Oo (shape c x)else none
noncomputable def zb(f:Int->Int->Bool)(x y:V):Option Bool:=ob (jp x) fun a=>ob (jp y) fun b=>some (f a b)
noncomputable def qZ(o:Option Bool):Option Bool:=ob o fun b=>some (!b)
noncomputable def iR(c:aa)(op:CmpOp)(x y:V):Option Bool:=match op with
 | .Eq=>u9 c x y
 | .NotEq=>qZ (u9 c x y)
 | .Lt=>zb (fun a b=>decide (a<b)) x y
 | .LtE=>zb (fun a b=>decide (a<=b)) x y
 | .Gt=>zb (fun a b=>decide (b<a)) x y
 | .GtE=>zb (fun a b=>decide (b<=a)) x y
 | .Is=>UH c x y
 | .IsNot=>qZ (UH c x y)
 | .In=>UG c x y
 | .NotIn=>qZ (UG c x y)
noncomputable def iw:List V->Option (List T)
 |[]=>some []
 |x::r=>ob (qV x) fun t=>ob (iw r) fun ts=>some (t::ts)
noncomputable def Oq:Operator->Int->Int->Bool
 | .Add,_,_=>true
 | .Sub,_,_=>true
 | .Mult,a,b=>decide (a.natAbs<2^64)||decide (b.natAbs<2^64)
 | .FloorDiv,_,b=> !decide (b=0)&&decide (b.natAbs<2^30)
 | .Mod,_,b=> !decide (b=0)
 | .Pow,a,b=>decide (0<=b)&&decide (b<=64)&&decide (a.natAbs<2^64)
 | .LShift,a,b=>decide (0<=b)&&decide (b<=1024)&&decide (0<=a)&&decide (a<2^64)
 | .RShift,a,b=>decide (0<=b)&&decide (0<=a)
 | .BitOr,a,b=>decide (0<=a)&&decide (0<=b)
 | .BitAnd,a,b=>decide (0<=a)&&decide (0<=b)
 |_,_,_=>false
noncomputable def xh:Operator->Int->Int->Int
 | .Add,a,b=>a+b
 | .Sub,a,b=>a-b
 | .Mult,a,b=>a*b
 | .FloorDiv,a,b=>a.fdiv b
 | .Mod,a,b=>a.fmod b
 | .Pow,a,b=>a^b.toNat
 | .LShift,a,b=>a*2^b.toNat
 | .RShift,a,b=>a/2^b.toNat
 | .BitOr,a,b=>Int.ofNat (a.toNat|||b.toNat)
 | .BitAnd,a,b=>Int.ofNat (a.toNat&&&b.toNat)
 |_,a,_=>a
noncomputable def xc:Operator->Bool
 | .Add=>true
 |_=>false
noncomputable def JD(op:Operator)(x y:V)(c:aa):EM V:=
 bn (jp x) (fun a=>aG (jp y) fun b=>bT (Oq op a b) (aJ (.t (.int (xh op a b))) c))
 (bn (iu x) (fun a=>aG (iu y) fun b=>bT (xc op) (bT (decide (a.cps.size+b.cps.size<=big)) (aJ (.t (.str (a++b))) c)))
 (bn (nS x) (fun a=>aG (nS y) fun b=>bT (xc op) (bT (decide (a.length+b.length<=big)) (aJ (.t (.bytes (a++b))) c)))
 (bT (xc op) (aG (listOf c x) fun xs=>aG (listOf c y) fun ys=>bT (decide (xs.length+ys.length<=big)) (xg (.lst (xs++ys)) c)))))
noncomputable def nU(op:Operator)(x y:V)(c:aa):Kn->aq:=k2 (JD op x y c)
noncomputable def atK:List V->Nat->(V->aq)->aq
 |[],_,_=>none
 |x::r,j,k=>bif Nat.beq j 0 then k x else atK r (j-1) k
noncomputable def UI(xs:List V)(j:Nat)(c:aa):EM V:=fun k _=>atK xs j fun v=>k v c
noncomputable def a8{α:Type}(xs:List α)(lo hi:Option Int):List α:=
 let n:Int:=xs.length
 let place (i:Int):Nat:=(if i<0 then max 0 (i+n)else min i n).toNat
 let a:=match lo with|some i=>place i|none=>0
 let b:=match hi with|some i=>place i|none=>n.toNat
 (xs.drop a).take (b-a)
noncomputable def pi(x:T):List (T×V)->(V->aq)->aq
 |[],_=>none
 |p::r,k=>ob (eqT x p.1) fun b=>bif b then k p.2 else pi x r k
noncomputable def Ib(o i:V)(c:aa):EM V:=
 bn (nS o) (fun b=>aG (jp i) fun j=>bT (decide (0<=j)&&decide (j<b.length)) (aJ (.t (.int (b.getD j.toNat 0).toNat)) c))
 (bn (mE c o) (fun xs=>aG (jp i) fun j=>lF (decide (0<=j)) (UI xs j.toNat c) (bT (decide (-(xs.length:Int)<=j)) (UI xs (xs.length-j.natAbs) c)))
 (aG (dictOf c o) fun es=>aG (res aN c i) fun x=>bT (cX x es) (fun k _=>pi x es fun v=>k v c)))
noncomputable def UJ:T->Option (Option Int)
 | .none=>some none
 | .int i=>some (some i)
 |_=>none
noncomputable def kr:V->Option (Option Int):=lH UJ
noncomputable def zc(f:List T->T)(g:List V->Cell)(vs:List V)(c:aa):EM V:=fun k _=>bn (iw vs) (fun ts=>k (.t (f ts)) c) (k (.loc c.length) (c++[g vs]))
noncomputable def DW(o:V)(lo hi:Option Int)(c:aa):EM V:=
 bn (nS o) (fun b=>aJ (.t (.bytes (a8 b lo hi))) c)
 (bn (iu o) (fun s=>aJ (.t (.str ⟨(a8 s.cps.toList lo hi).toArray⟩)) c)
 (aG (listOf c o) fun xs=>zc .lst .lst (a8 xs lo hi) c))
noncomputable def DX(o:V)(lo hi:V)(c:aa):EM V:=aG (kr lo) fun lo=>aG (kr hi) fun hi=>DW o lo hi c
noncomputable def JE(o:V)(lo hi:V)(c:aa):Kn->aq:=k2 (DX o lo hi c)
noncomputable def gB:List (Nat×List Str):=[
 (234,[⟨#[110,97,109,101]⟩,⟨#[107,105,110,100,115]⟩,⟨#[111,112,99,111,100,101]⟩,⟨#[101,115,99,97,112,101]⟩,⟨#[100,105,103,105,116]⟩,⟨#[115,105,122,101]⟩,⟨#[109,117,115,116]⟩,⟨#[105,115,95,119,105,100,101]⟩,⟨#[110,117,109,98,101,114]⟩,⟨#[112,108,97,99,101,115]⟩]),
 (290,[⟨#[107,105,110,100]⟩]),
 (325,[⟨#[107,105,110,100]⟩,⟨#[114,101,103,105,115,116,101,114]⟩]),
 (359,[⟨#[107,105,110,100]⟩,⟨#[119,111,114,116,104]⟩,⟨#[110,97,109,101]⟩]),
 (400,[⟨#[107,105,110,100]⟩,⟨#[119,111,114,116,104]⟩,⟨#[110,97,109,101]⟩]),
 (453,[⟨#[107,105,110,100]⟩,⟨#[98,97,115,101]⟩,⟨#[105,110,100,101,120]⟩,⟨#[115,99,97,108,101]⟩,⟨#[119,111,114,116,104]⟩,⟨#[115,105,122,101]⟩,⟨#[115,101,103,109,101,110,116]⟩,⟨#[110,97,109,101]⟩]),
 (506,[⟨#[110,97,109,101]⟩,⟨#[111,112,101,114,97,110,100,115]⟩,⟨#[112,114,101,102,105,120]⟩]),
 (562,[⟨#[110,97,109,101]⟩,⟨#[107,105,110,100]⟩,⟨#[110,117,109,98,101,114]⟩,⟨#[115,105,122,101]⟩]),
 (738,[⟨#[115,101,103,109,101,110,116]⟩,⟨#[105,115,95,100,97,116,97]⟩,⟨#[114,101,112,101,97,116]⟩,⟨#[105,115,95,108,111,99,107]⟩,⟨#[114,101,120]⟩]),
 (787,[⟨#[105,110,115,116,114,117,99,116,105,111,110]⟩,⟨#[108,101,110,103,116,104]⟩,⟨#[102,111,114,109]⟩,⟨#[112,114,101,102,105,120,101,115]⟩]),
 (843,[⟨#[98,101,103,105,110]⟩,⟨#[112,114,101,102,105,120,101,115]⟩,⟨#[99,111,100,101,95,97,116]⟩,⟨#[119]⟩,⟨#[114]⟩,⟨#[120]⟩,⟨#[98]⟩,⟨#[101,115,99,97,112,101]⟩,⟨#[111,112,99,111,100,101]⟩,⟨#[109,117,115,116]⟩,⟨#[109,111,100,114,109,95,97,116]⟩,⟨#[109,111,100]⟩,⟨#[114,101,103]⟩,⟨#[114,109]⟩,⟨#[115,105,98]⟩,⟨#[100,105,115,112]⟩,⟨#[119,105,100,116,104]⟩,⟨#[114,101,115,116,95,97,116]⟩]),
 (1121,[⟨#[102,111,114,109,115]⟩,⟨#[98,121,95,110,97,109,101]⟩,⟨#[98,121,95,99,111,100,101]⟩])]
noncomputable def lV:List (Nat×List Str)->Nat->Str->Bool
 |[],_,_=>false
 |(D,ns)::r,C,x=>bif Nat.beq D C then ns.any (fun n=>sEq n x)else lV r C x
noncomputable def pj(C:Nat)(x:Str):Bool:=lV gB C x
noncomputable def YG:T->Bool
 | .bi _=>true
 |_=>false
noncomputable def YH:V->Bool
 | .t x=>YG x
 |_=>false
noncomputable def Ic(v:V):Bool:= !YH v
noncomputable def zd(c:aa)(o:V)(name:Str):Option V:=ob (fieldsOf c o) fun p=>bif pj p.1 name then ob (look p.2 name) fun v=>bif Ic v then some v else none else none
noncomputable def q0:List V->(List UInt8->aq)->aq
 |[],k=>k []
 |v::r,k=>ob (jp v) fun i=>bif decide (0<=i)&&decide (i<256)then q0 r fun l=>k (UInt8.ofNat i.toNat::l)else none
noncomputable def oi:List V->Option (List UInt8)
 |[]=>some []
 |v::r=>ob (nS v) fun b=>ob (oi r) fun l=>some (b++l)
noncomputable def sumK:List V->Int->(Int->aq)->aq
 |[],a,k=>k a
 |v::r,a,k=>ob (jp v) fun i=>sumK r (a+i) k
noncomputable def JF:T->Option Bool
 | .bool b=>some b
 |_=>none
noncomputable def JG(c:aa):List V->(Bool->aq)->aq
 |[],k=>k false
 |v::r,k=>ob (lH JF v) fun b=>JG c r fun b' =>k (b||b')
noncomputable def lX(sep:Nat):List Nat->List Nat->List (List Nat)
 |acc,[]=>[acc.reverse]
 |acc,x::r=>if Nat.beq x sep then acc.reverse::lX sep [] r else lX sep (x::acc) r
noncomputable def rc(s:Str):Option Int:=
 if s==⟨#[56]⟩then some 8 else if s==⟨#[49,54]⟩then some 16 else if s==⟨#[51,50]⟩then some 32 else if s==⟨#[54,52]⟩then some 64 else none
noncomputable def dD(n:Nat):Str:=if n<10 then⟨#[48+n]⟩else⟨#[48+n/10,48+n %10]⟩
noncomputable def lY(a:List Nat):List Nat->Nat->Option Nat
 |[],i=>if a.isEmpty then some i else none
 |x::r,i=>if a.isPrefixOf (x::r)then some i else lY a r (i+1)
noncomputable def tE:T->Option (List T)
 | .bytes b=>some (b.map fun o=> .int o.toNat)
 | .H5 n=>some ((List.range n).map fun i=> .int (Int.ofNat i))
 | .lst xs=>some xs
 | .tup xs=>some xs
 |_=>none
inductive BF where
 |len|abs|sum|any|int|str|range|tuple|list|bytes
noncomputable def BF.t:BF->T
 | .len=> .bi "len"| .abs=> .bi "abs"| .sum=> .bi "sum"| .any=> .bi "any"| .int=> .ty "int"| .str=> .ty "str"| .range=> .ty "range"| .tuple=> .ty "tuple"| .list=> .ty "list"| .bytes=> .ty "bytes"
noncomputable def Os:V->Option BF
 | .t (.bi s)=>bif s=="len" then some .len else bif s=="abs" then some .abs else bif s=="sum" then some .sum else bif s=="any" then some .any else none
 | .t (.ty s)=>bif s=="int" then some .int else bif s=="str" then some .str else bif s=="range" then some .range else bif s=="tuple" then some .tuple else bif s=="list" then some .list else bif s=="bytes" then some .bytes else none
 |_=>none
noncomputable def JH:T->Option Int
 | .int i=>some i
 | .bool b=>some (bif b then 1 else 0)
 | .str s=>rc s
 |_=>none
noncomputable def toInt:V->Option Int:=lH JH
noncomputable def mG:List V->aa->EM V:=zc .lst .lst
noncomputable def pm:List V->aa->EM V:=zc .tup .tup
noncomputable def mH(vs:List V)(c:aa):Kn->aq:=k2 (mG vs c)
noncomputable def ze(vs:List V)(c:aa):Kn->aq:=k2 (pm vs c)
noncomputable def gC(f:BF)(v:V)(c:aa):EM V:=match f with
 | .len=>aG (sizeOf? c v) fun n=>aJ (.t (.int n)) c
 | .abs=>aG (jp v) fun i=>aJ (.t (.int i.natAbs)) c
 | .sum=>aG (listOf c v) fun xs k _=>sumK xs 0 fun i=>k (.t (.int i)) c
 | .any=>aG (listOf c v) fun xs k _=>JG c xs fun b=>k (.t (.bool b)) c
 | .int=>aG (toInt v) fun i=>aJ (.t (.int i)) c
 | .str=>aG (jp v) fun i=>bT (decide (0<=i)&&decide (i<100)) (aJ (.t (.str (dD i.toNat))) c)
 | .range=>aG (jp v) fun i=>bT (decide (0<=i)&&decide (i<=big)) (aJ (.t (.H5 i.toNat)) c)
 | .tuple=>bn (UC v) (fun ts=>aJ (.t (.tup ts)) c) (aG (listOf c v) fun xs=>pm xs c)
 | .list=>aG (mE c v) fun xs=>xg (.lst xs) c
 | .bytes=>bn (nS v) (fun b=>aJ (.t (.bytes b)) c) (aG (listOf c v) fun xs k _=>q0 xs fun l=>k (.t (.bytes l)) c)
noncomputable def one(args:List α):Option α:=match args with
 |[v]=>some v
 |_=>none
noncomputable def JI(args:List α):Option (α×α):=match args with
 |[v,u]=>some (v,u)
 |_=>none
noncomputable def zf(f:V)(args:List V)(c:aa):EM V:=aG (Os f) fun b=>aG (one args) fun v=>gC b v c
noncomputable def mI(n:Nat)(l:List Nat):T:= .lst ((lX n [] l).map fun l=> .str ⟨l.toArray⟩)
noncomputable def bJ(x:T):List (T×V)->V->(V->aq)->aq
 |[],d,k=>k d
 |p::r,d,k=>ob (eqT x p.1) fun b=>bif b then k p.2 else bJ x r d k
inductive BM where
 |split|lstrip|index|join|get|append|extend
noncomputable def BM.id:BM->String
 | .split=>"str.split"| .lstrip=>"str.lstrip"| .index=>"str.index"| .join=>"bytes.join"| .get=>"dict.get"| .append=>"list.append"| .extend=>"list.extend"
noncomputable def sepOk:List V->Bool
 |[]=>true
 |v::r=>(bn (iu v) (fun a=>sEq a ⟨#[32]⟩) false)&&r.isEmpty
noncomputable def setM(i:Nat)(y:Cell)(c:aa):EM V:=aJ (.t .none) (c.set i y)
noncomputable def zg(m:BM)(o:V)(args:List V)(c:aa):EM V:=match m with
 | .split=>aG (iu o) fun s=>bT (qX y8 s) (bT (sepOk args) (aJ (.t (mI 32 s.cps.toList)) c))
 | .lstrip=>aG (iu o) fun s=>aG (one args) fun a=>aG (iu a) fun a=>bT (qX mF s&&sEq a y9) (aJ (.t (.str ⟨(s.cps.toList.dropWhile fun x=>a.cps.toList.contains x).toArray⟩)) c)
 | .index=>aG (iu o) fun s=>aG (one args) fun a=>aG (iu a) fun a=>bT (qX mF s&&sEq a tD) (aG (lY a.cps.toList s.cps.toList 0) fun i=>aJ (.t (.int i)) c)
 | .join=>aG (nS o) fun b=>bT b.isEmpty (aG (one args) fun v=>aG (listOf c v) fun xs=>aG (oi xs) fun b=>bT (decide (b.length<=big)) (aJ (.t (.bytes b)) c))
 | .get=>aG (dictOf c o) fun es=>aG (JI args) fun p=>aG (res aN c p.1) fun x=>bT (kq x&&cX x es) (fun k _=>bJ x es p.2 fun v=>k v c)
 | .append=>aG (za o) fun i=>aG (one args) fun v=>aG c[i]? fun y=>aG (JC y) fun xs=>bT (decide (xs.length<big)) (setM i (.lst (xs++[v])) c)
 | .extend=>aG (za o) fun i=>aG (one args) fun v=>aG c[i]? fun y=>aG (JC y) fun xs=>aG (listOf c v) fun ys=>bT (decide (xs.length+ys.length<=big)) (setM i (.lst (xs++ys)) c)
structure Cx where
 tab:Tab
 glob:Str->Option T
 cw:Nat->Str->Option Nat
 scope:Scope
inductive NK where
 |loc|tw|yK|va|bad
noncomputable def nk:Option NameKind->NK
 |some .local=> .loc
 |some .cell=> .tw
 |some .free=> .yK
 |some .globalImplicit=> .va
 |_=> .bad
noncomputable def bp(sc:Scope)(id:Str):NK:=nk (look sc.names id)
noncomputable def vb:NK->Bool
 | .va=>true
 |_=>false
noncomputable def dp:NK->Bool
 | .yK=>true
 |_=>false
noncomputable def zh(x:Cx)(l:Loc)(id:Str):Option V:=match bp x.scope id with
 | .loc=>look l id
 | .tw=>look l id
 | .yK=>bif id==Str.ofString "__classdict__" then none else look l id
 | .va=>ob (x.glob id) fun t=>some (.t t)
 | .bad=>none
noncomputable def zi:Const->Option T
 | .none=>some .none
 | .bool b=>some (.bool b)
 | .int i=>some (.int i)
 | .str s=>bif bC s then some (.str s)else none
 | .bytes b=>bif Nat.ble b.length big then some (.bytes b)else none
 |_=>none
inductive DY where
 |own (a:Nat)|cls (a:Nat)|bi (m:BM)
noncomputable def Ot(name:Str):Option BM:=
 bif sEq name ⟨#[115,112,108,105,116]⟩then some .split else bif sEq name ⟨#[108,115,116,114,105,112]⟩then some .lstrip else bif sEq name ⟨#[105,110,100,101,120]⟩then some .index else none
noncomputable def Ou(name:Str):Option BM:=
 bif sEq name ⟨#[97,112,112,101,110,100]⟩then some .append else bif sEq name ⟨#[101,120,116,101,110,100]⟩then some .extend else none
noncomputable def Ov(x:Cx)(name:Str):T->Option DY
 | .str _=>ob (Ot name) fun m=>some (.bi m)
 | .bytes _=>bif sEq name ⟨#[106,111,105,110]⟩then some (.bi .join)else none
 | .gl C=>ob (x.cw C name) fun a=>some (.cls a)
 |_=>none
noncomputable def Id(x:Cx)(name:Str):Sh->Option DY
 | .at t=>Ov x name t
 | .dict _=>bif sEq name ⟨#[103,101,116]⟩then some (.bi .get)else none
 | .inst C fs=>bif(look fs name).isSome then none else ob (x.cw C name) fun a=>some (.own a)
 | .lst _=>ob (Ou name) fun m=>some (.bi m)
 |_=>none
noncomputable def gD(x:Cx)(c:aa)(o:V)(name:Str):Option DY:=Id x name (shape c o)
noncomputable def TR:T->Option Nat
 | .gl a=>some a
 |_=>none
noncomputable def lI(tab:Tab)(a:Nat)(args:List V)(c:aa)(k:Kn):aq:=ob (tab a) fun sp=>sp args c k
noncomputable def zj(x:Cx)(f:V)(args:List V)(c:aa):EM V:=bn (lH TR f) (fun a=>e2 (lI x.tab a args c)) (zf f args c)
noncomputable def Ie(x:Cx)(f:V)(args:List V)(c:aa):Kn->aq:=k2 (zj x f args c)
noncomputable def pn(x:Cx)(m:DY)(o:V)(args:List V)(c:aa):EM V:=match m with
 | .own a=>e2 (lI x.tab a (o::args) c)
 | .cls a=>e2 (lI x.tab a args c)
 | .bi m=>zg m o args c
noncomputable def mJ(x:Cx)(m:DY)(o:V)(args:List V)(c:aa):Kn->aq:=k2 (pn x m o args c)
noncomputable def JJ:NK->Bool
 | .loc=>true
 | .tw=>true
 |_=>false
noncomputable def fv(sc:Scope)(l:Loc)(id:Str)(v:V):Option Loc:=bif JJ (bp sc id)then some (dP l id v)else none
inductive Vw where
 |name (id:Str)|tup (es:List Expr)|call (f:Expr) (es:List Expr) (kw:List Keyword)|attr (o:Expr) (name:Str) (p:Pos)|slice (lo hi st:Option Expr)|comp|set|star|no
noncomputable def vw:Expr->Vw
 | .Name id _=> .name id
 | .Tuple es _ _=> .tup es
 | .Call f es kw _=> .call f es kw
 | .Attribute o n p=> .attr o n p
 | .Slice lo hi st _=> .slice lo hi st
 | .ListComp .. => .comp
 | .SetComp .. => .comp
 | .DictComp .. => .comp
 | .Set .. => .set
 | .Starred .. => .star
 |_=> .no
noncomputable def Vw.name? :Vw->Option Str
 | .name id=>some id
 |_=>none
noncomputable def Vw.tup? :Vw->Option (List Expr)
 | .tup es=>some es
 |_=>none
noncomputable def Vw.attr? :Vw->Option (Expr×Str×Pos)
 | .attr o n p=>some (o,n,p)
 |_=>none
noncomputable def Vw.slice? :Vw->Option (Option Expr×Option Expr)
 | .slice lo hi none=>some (lo,hi)
 |_=>none
noncomputable def Vw.call? :Vw->Option (Expr×List Expr)
 | .call f es []=>some (f,es)
 |_=>none
noncomputable def Vw.plain:Vw->Bool
 | .star=>false
 |_=>true
noncomputable def Vw.cY:Vw->Bool
 | .comp=>true
 |_=>false
noncomputable def Vw.isSet:Vw->Bool
 | .set=>true
 |_=>false
noncomputable def bv(e:Expr):Option Str:=(vw e).name?
noncomputable def d7(e:Expr):Option (List Expr):=(vw e).tup?
noncomputable def gE(e:Expr):Option (Str×List Expr):=ob (vw e).call? fun p=>ob (bv p.1) fun id=>some (id,p.2)
noncomputable def cY(e:Expr):Bool:=(vw e).cY
noncomputable def isSet(e:Expr):Bool:=(vw e).isSet
noncomputable def isTup(e:Expr):Bool:=(d7 e).isSome
noncomputable def cy(e:Expr):Bool:=(vw e).plain
noncomputable def kg(es:List Expr):Bool:=Nat.blt es.length 30&&es.all cy
noncomputable def eA(e:Expr):Bool:=bn (gE e) (fun p=>id p.1==Str.ofString "super") false
noncomputable def ir(sc:Scope):List Expr->List T->Loc->Option Loc
 |[],[],l=>some l
 |t::ts,x::xs,l=>ob (bv t) fun id=>ob (fv sc l id (.t x)) fun l=>ir sc ts xs l
 |_,_,_=>none
noncomputable def mK(sc:Scope)(e:Expr)(v:T)(l:Loc):Option Loc:=bn (bv e) (fun id=>fv sc l id (.t v)) (ob (d7 e) fun ts=>ob (oh v) fun xs=>ir sc ts xs l)
noncomputable def tF:List T->List T->List T
 |[],_=>[]
 |_,[]=>[]
 |x::xs,y::ys=> .tup [x,y]::tF xs ys
noncomputable def re:Nat->List T->List T
 |_,[]=>[]
 |n,x::r=> .tup [.int n,x]::re (n+1) r
noncomputable abbrev Ev:=Expr->Loc->aa->Kn->aq
noncomputable abbrev Em:=Expr->Loc->aa->EM V
noncomputable abbrev Te:=Expr->Loc->aa->(Bool->aa->aq)->Kx->aq
noncomputable def kt(ev:Em):List Expr->Loc->aa->EM (List V)
 |[],_,c=>aJ [] c
 |e::es,l,c=>aF (ev e l c) fun v c=>aF (kt ev es l c) fun vs c=>aJ (v::vs) c
noncomputable def po(ev:Ev):List Expr->Loc->aa->EM (List V):=kt fun e l c=>e2 (ev e l c)
noncomputable def zk(ev:Em)(e:Option Expr)(l:Loc)(c:aa):EM V:=bn e (fun e=>ev e l c) (aJ (.t .none) c)
noncomputable def tG(te:Te):List Expr->Loc->aa->EM Bool
 |[],_,c=>aJ true c
 |e::es,l,c=>aF (te e l c) fun b c=>lF b (tG te es l c) (aJ false c)
noncomputable def NJ(te:Te):List Expr->Loc->aa->EM Bool
 |[],_,c=>aJ false c
 |e::es,l,c=>aF (te e l c) fun b c=>lF b (aJ true c) (NJ te es l c)
noncomputable def DZ(v:V)(c:aa):EM Bool:=aG (truthy? c v) fun b=>aJ b c
noncomputable def zm(ev:Em)(Ig:Bool):List Expr->Loc->aa->EM V
 |[],_,_=>jo
 |e::es,l,c=>bif es.isEmpty then ev e l c else aF (ev e l c) fun v c=>aF (DZ v c) fun b c=>lF (b==Ig) (zm ev Ig es l c) (aJ v c)
noncomputable def JK(op:CmpOp)(x y:V)(c:aa):EM Bool:=aG (iR c op x y) fun b=>aJ b c
noncomputable def iT(ev:Em):V->List CmpOp->List Expr->Loc->aa->EM Bool
 |x,op::ops,e::es,l,c=>aF (ev e l c) fun y c=>aF (JK op x y c) fun b c=>bif es.isEmpty&&ops.isEmpty then aJ b c else lF b (iT ev y ops es l c) (aJ false c)
 |_,_,_,_,_=>jo
noncomputable def vc(ev:Em):List (Option Expr)->List Expr->Loc->aa->EM (List (T×T))
 |[],[],_,c=>aJ [] c
 |a::as,e::es,l,c=>aG a fun a=>aF (ev a l c) fun u c=>aG (iu u) fun s=>aF (ev e l c) fun v c=>aG (qV v) fun v=>aF (vc ev as es l c) fun rest c=>aJ ((.str s,v)::rest) c
 |_,_,_,_=>jo
noncomputable def gh(sc:Scope)(ev:Em)(te:Te)(elt:Expr)(ifs:List Expr)(tg:Expr):List T->List V->Loc->aa->EM (List V)
 |[],acc,_,c=>aJ acc c
 |x::xs,acc,l,c=>aG (mK sc tg x l) fun l=>aF (tG te ifs l c) fun b c=>lF b (aF (ev elt l c) fun v c=>gh sc ev te elt ifs tg xs (acc++[v]) l c) (gh sc ev te elt ifs tg xs acc l c)
noncomputable def aS(sc:Scope)(ev:Ev)(te:Te)(elt:Expr)(ifs:List Expr)(tg:Expr)(xs:List T)(acc:List V)(l:Loc)(c:aa)(k:List V->aa->aq):aq:=gh sc (fun e l c=>e2 (ev e l c)) te elt ifs tg xs acc l c k fun _=>none
noncomputable def hJ:List (T×T)->Bool
 |[]=>true
 |p::r=>bn (tB p.1) (fun s=>r.all fun q=>bn (tB q.1) (fun y=> !(s==y)) false) false&&hJ r
noncomputable def zn(ks:List (Option Expr))(es:List Expr):Bool:=ks.all (·.isSome)&&(ks.length==es.length)&&Nat.ble ks.length 15&&Nat.ble 1 ks.length
noncomputable def bK(sc:Scope):Loc->Loc
 |[]=>[]
 |p::r=>bif dp (bp sc p.1)then p::bK sc r else bK sc r
noncomputable def NL{α:Type}(m:EM α):EM α:=fun k _=>m k fun _=>none
noncomputable def zo(v:V)(c:aa):EM (Bool×List T):=aG (fr aN c v) fun p=>aG (tE p.1) fun xs=>aJ (false,xs) p.2
noncomputable def pq(v:V)(c:aa)(k:Bool->List T->aa->aq):aq:=zo v c (fun p c=>k p.1 p.2 c) fun _=>none
noncomputable def Ih(vs:List V)(c:aa):EM (Bool×List T):=aG (one vs) fun v=>aG (nS v) fun b=>aJ (true,re 0 (b.map fun o=> .int o.toNat)) c
noncomputable def Ow(vs:List V)(c:aa):EM (Bool×List T):=aG (JI vs) fun p=>aG (fr aN c p.1) fun u=>aG (oh u.1) fun xs=>aG (fr aN u.2 p.2) fun v=>aG (y4 v.1) fun ys=>aJ (true,tF xs ys) v.2
noncomputable def D0(x:Cx)(id:Str)(n:String):Bool:=vb (bp x.scope id)&&bn (x.glob id) (fun| .ty m=>m==n|_=>false) false
noncomputable def Ii:NK->Bool
 | .loc=>true
 |_=>false
noncomputable def Ox:NK->Bool
 | .tw=>true
 |_=>false
noncomputable def vd(o i:Scope)(y:Str×NameKind):Bool:=match nk (some y.2)with
 | .loc=>Ii (bp i y.1)
 | .va=>vb (bp i y.1)
 | .yK=>dp (bp i y.1)&&Ox (bp o y.1)
 |_=>false
noncomputable def pt:ScopeKind->Bool
 | .function=>true
 |_=>false
noncomputable def bL(o i:Scope):Bool:=pt i.kind&&i.names.all (vd o i)&&Nat.ble (i.names.filter fun y=>dp (nk (some y.2))).length 1
structure ve where
 E:Cx->Em
 te:Cx->Te
 S:Cx->Expr->Loc->aa->EM (Bool×List T)
noncomputable def JL(ev:Em)(i:Expr)(u:V)(l:Loc)(c:aa):EM V:=bn (vw i).slice? (fun p=>aF (zk ev p.1 l c) fun a c=>aF (zk ev p.2 l c) fun b c=>DX u a b c) (aF (ev i l c) fun w c=>Ib u w c)
noncomputable def XL(op:UnaryOp)(v:V)(c:aa):EM V:=match op with
 | .USub=>aG (jp v) fun i=>aJ (.t (.int (-i))) c
 | .Not=>aF (DZ v c) fun b c=>aJ (.t (.bool (!b))) c
 |_=>jo
noncomputable def zp:BoolOp->Bool
 | .And=>true
 | .Or=>false
noncomputable def XM(x:Cx)(ev:Em)(f:Expr)(es:List Expr)(p:Pos)(l:Loc)(c:aa):EM V:=bT (kg es) (bn (vw f).attr? (fun q=>bT (!eA q.1&&(q.2.2.endLine==p.line)) (aF (ev q.1 l c) fun u c=>aG (gD x c u q.2.1) fun m=>aF (kt ev es l c) fun vs c=>pn x m u vs c))
 (aF (ev f l c) fun u c=>aF (kt ev es l c) fun vs c=>zj x u vs c))
noncomputable def TS(x:Cx)(E:ve)(elt:Expr)(g:Comprehension)(sc:Scope)(l:Loc)(c:aa):EM V:=bT ((g.is_async==0)&&bL x.scope sc) (aF (E.S x g.iter l c) fun p c=>bT (!(p.1&& !isTup g.target)) (aF (NL (gh sc (E.E {x with scope:=sc}) (E.te {x with scope:=sc}) elt g.ifs g.target p.2 [] (bK sc l) c)) fun vs c=>mG vs c))
noncomputable def zq(ev:Em)(ks:List (Option Expr))(es:List Expr)(l:Loc)(c:aa):EM V:=bif ks.isEmpty&&es.isEmpty then xg (.dict []) c else bT (zn ks es) (aF (NL (vc ev ks es l c)) fun ts c=>bT (hJ ts&&Nat.ble ts.length 15) (aJ (.t (.dict ts)) c))
noncomputable def Ij(x:Cx)(E:ve)(e:Expr)(l:Loc)(c:aa):EM V:=match e with
 | .Constant v _ _=>aG (zi v) fun t=>aJ (.t t) c
 | .Name id _=>bT (!sEq id ⟨#[95,95,100,101,98,117,103,95,95]⟩) (aG (zh x l id) fun v=>aJ v c)
 | .BinOp a op b _=>aF (E.E x a l c) fun u c=>aF (E.E x b l c) fun w c=>JD op u w c
 | .UnaryOp op a _=>aF (E.E x a l c) fun v c=>XL op v c
 | .BoolOp op es _=>zm (E.E x) (zp op) es l c
 | .IfExp t a b _=>aF (E.te x t l c) fun v c=>lF v (E.E x a l c) (E.E x b l c)
 | .Compare a ops es _=>bT (!lastMarks ops es) (aF (E.E x a l c) fun u c=>aF (iT (E.E x) u ops es l c) fun b c=>aJ (.t (.bool b)) c)
 | .Tuple es _ _=>bT (kg es) (aF (kt (E.E x) es l c) fun vs c=>pm vs c)
 | .List es _=>bT (kg es) (aF (kt (E.E x) es l c) fun vs c=>xg (.lst vs) c)
 | .Dict ks es _=>zq (E.E x) ks es l c
 | .Attribute o name _=>bT (!eA o) (aF (E.E x o l c) fun u c=>aG (zd c u name) fun v=>aJ v c)
 | .Subscript o i _=>aF (E.E x o l c) fun u c=>JL (E.E x) i u l c
 | .Call f es kw p=>bT kw.isEmpty (XM x (E.E x) f es p l c)
 | .ListComp elt gens sc _=>aG (one gens) fun g=>TS x E elt g sc l c
 |_=>jo
noncomputable def plainT(x:Cx)(E:ve)(e:Expr)(l:Loc)(c:aa):EM Bool:=aF (E.E x e l c) fun v c=>DZ v c
noncomputable def Ik(x:Cx)(E:ve)(e:Expr)(l:Loc)(c:aa):EM Bool:=match e with
 | .UnaryOp op a p=>(match op with
  | .Not=>aF (E.te x a l c) fun b c=>aJ (!b) c
  |op=>plainT x E (.UnaryOp op a p) l c)
 | .BoolOp op es _=>(match op with
  | .And=>tG (E.te x) es l c
  | .Or=>NJ (E.te x) es l c)
 | .IfExp t a b _=>aF (E.te x t l c) fun v c=>lF v (E.te x a l c) (E.te x b l c)
 | .Compare a ops es _=>bT (!lastMarks ops es) (aF (E.E x a l c) fun u c=>iT (E.E x) u ops es l c)
 |e=>plainT x E e l c
noncomputable def Oy(x:Cx)(id:Str)(es:List Expr):Option (Option (List V->aa->EM (Bool×List T))):=
 bif(id==Str.ofString "enumerate")&&(es.length==1)then some (bif D0 x id "enumerate" then some Ih else none)
 else bif(id==Str.ofString "zip")&&(es.length==2)then some (bif D0 x id "zip" then some Ow else none)else none
noncomputable def Oz(x:Cx)(E:ve)(e:Expr)(l:Loc)(c:aa):EM (Bool×List T):=bT (!isSet e)
 (bn (ob (gE e) fun p=>ob (Oy x p.1 p.2) fun f=>some (p.2,f)) (fun q=>bT (kg q.1) (aG q.2 fun F=>aF (kt (E.E x) q.1 l c) F)) (aF (E.E x e l c) fun v c=>zo v c))
noncomputable def D3:Nat->ve
 |0=>⟨fun _ _ _ _=>jo,fun _ _ _ _=>jo,fun _ _ _ _=>jo⟩
 |n+1=>⟨fun x=>Ij x (D3 n),fun x=>Ik x (D3 n),fun x=>Oz x (D3 n)⟩
noncomputable def ai(x:Cx)(n:Nat)(e:Expr)(l:Loc)(c:aa):Kn->aq:=k2 ((D3 n).E x e l c)
noncomputable def aB(x:Cx)(n:Nat)(e:Expr)(l:Loc)(c:aa):EM Bool:=(D3 n).te x e l c
noncomputable def dQ(x:Cx)(n:Nat)(e:Expr)(l:Loc)(c:aa)(k:Bool->List T->aa->aq)(kx:Kx):aq:=(D3 n).S x e l c (fun p c=>k p.1 p.2 c) kx
inductive Out where
 |next|ret (v:V)|brk|cont|exc
noncomputable abbrev Ko:=Out->Loc->aa->aq
noncomputable abbrev SM:=Ko->aq
noncomputable abbrev AM:=(Loc->aa->aq)->aq
noncomputable def yL{α:Type}(m:EM α)(l:Loc)(f:α->aa->SM):SM:=fun k=>m (fun a c=>f a c k) fun c=>k .exc l c
noncomputable def lJ(o:Out)(l:Loc)(c:aa):SM:=fun k=>k o l c
noncomputable def oj:SM:=fun _=>none
noncomputable def gG(b:Bool)(m:SM):SM:=fun k=>bif b then m k else none
noncomputable def JM(b:Bool)(m n:SM):SM:=fun k=>bif b then m k else n k
noncomputable def jt{α:Type}(o:Option α)(f:α->SM):SM:=fun k=>ob o fun a=>f a k
noncomputable def mL(m:AM):SM:=fun k=>m fun l c=>k .next l c
noncomputable def rg(o i v:V)(c:aa)(k:aa->aq):aq:=ob (za o) fun a=>ob c[a]? fun y=>
 bn (JC y) (fun xs=>ob (jp i) fun j=>bif decide (0<=j)&&decide (j<xs.length)then k (c.set a (.lst (xs.set j.toNat v)))else none)
 (ob (Om y) fun es=>ob (qV i) fun x=>ob (qY x es) fun b=>bif b|| !cX x es then none else bif decide (es.length<big)then k (c.set a (.dict (es++[(x,v)])))else none)
noncomputable def rh(o:V)(name:Str)(v:V)(c:aa)(k:aa->aq):aq:=ob (za o) fun a=>ob c[a]? fun y=>ob (UF y) fun p=>bif Nat.blt p.2.length 100&&pj p.1 name then k (c.set a (.inst p.1 (dP p.2 name v)))else none
noncomputable def D4(x:Cx)(ev:Em)(t:Expr)(v:V)(l:Loc)(c:aa):AM:=match t with
 | .Name id _=>fun k=>ob (fv x.scope l id v) fun l=>k l c
 | .Attribute o name _=>fun k=>ev o l c (fun u c=>rh u name v c fun c=>k l c) fun _=>none
 | .Subscript o i _=>fun k=>ev o l c (fun u c=>ev i l c (fun w c=>rg u w v c fun c=>k l c) fun _=>none) fun _=>none
 |_=>fun _=>none
noncomputable def fw(x:Cx)(ev:Em):List Expr->List V->Loc->aa->AM
 |[],[],l,c=>fun k=>k l c
 |t::ts,v::vs,l,c=>fun k=>D4 x ev t v l c fun l c=>fw x ev ts vs l c k
 |_,_,_,_=>fun _=>none
noncomputable abbrev Ex:=List Stmt->Loc->aa->Ko->aq
noncomputable def gH(again:Loc->aa->aq)(k:Ko):Ko:=fun o l c=>match o with
 | .next=>again l c
 | .cont=>again l c
 | .brk=>k .next l c
 |o=>k o l c
noncomputable def mM(te:Te)(ex:Ex)(test:Expr)(body:List Stmt):Nat->Loc->aa->Ko->aq
 |0,_,_=>oj
 |m+1,l,c=>yL (te test l c) l fun b c=>JM b (fun k=>ex body l c (gH (fun l c=>mM te ex test body m l c k) k)) (lJ .next l c)
noncomputable def dz(x:Cx)(n:Nat)(ex:Ex)(test:Expr)(body:List Stmt):Nat->Loc->aa->Ko->aq:=mM (aB x n) ex test body
noncomputable def bM(sc:Scope)(ex:Ex)(tg:Expr)(body:List Stmt):List T->Loc->aa->Ko->aq
 |[],l,c=>lJ .next l c
 |v::vs,l,c=>jt (mK sc tg v l) fun l k=>ex body l c (gH (fun l c=>bM sc ex tg body vs l c k) k)
noncomputable def zr(ts es:List Expr):Bool:=es.all (constantsAlone 8)|| !(ts.length==es.length)
noncomputable def pu(e:Expr):Bool:=match e with
 | .Constant .none _ _=>true
 |_=>false
noncomputable def lZ(ts:List Expr):Option Str:=ob (one ts) bv
noncomputable def vf(sc:Scope)(s:Stmt)(l:Loc)(c:aa):SM:=match s with
 | .Return e _=>jt e fun e=>gG (pu e) (lJ (.ret (.t .none)) l c)
 | .Assign ts e _=>jt (lZ ts) fun y=>gG (pu e) (jt (fv sc l y (.t .none)) fun l=>lJ .next l c)
 |_=>oj
noncomputable def zt:Stmt->Option (Option Str×Expr)
 | .Return e _=>ob e fun e=>some (none,e)
 | .Assign ts e _=>ob (lZ ts) fun y=>some (some y,e)
 |_=>none
noncomputable def vg{α:Type}(o:Option α):Bool:= !o.isSome
noncomputable def pw(body:List Stmt)(hs:List ExceptHandler)(orelse fin:List Stmt):Option (Str×Stmt×Stmt):=bif orelse.isEmpty&&fin.isEmpty then ob (one body) fun st=>ob (one hs) fun
 | .ExceptHandler ty nm hb _=>bif vg nm then ob ty fun e=>ob (bv e) fun id=>ob (one hb) fun nV=>some (id,st,nV)else none
 else none
noncomputable def turns:Nat:=24
noncomputable def ad:Nat:=83
noncomputable def rj(x:Cx)(id:Str):Bool:=bn (ob (x.glob id) TR) (fun a=>Nat.beq a ad&&vb (bp x.scope id)&& !(id==Str.ofString "__debug__")) false
structure Xs where
 S:Cx->Stmt->Loc->aa->SM
 B:Cx->List Stmt->Loc->aa->SM
noncomputable def JN:List Expr->Bool
 |t::_=>vg (bv t)
 |[]=>false
noncomputable def JO(x:Cx)(ev:Em)(ts:List Expr)(e:Expr)(l:Loc)(c:aa):SM:=gG (kg ts) (bn (d7 e)
 (fun es=>gG (kg es&& !zr ts es&&(Nat.beq ts.length 2||JN ts)) (yL (kt ev es l c) l fun vs c=>mL (fw x ev ts vs l c)))
 (yL (ev e l c) l fun v c=>jt (qW c v) fun vs=>gG (ts.length==vs.length) (mL (fw x ev ts vs l c))))
noncomputable def OA(x:Cx)(ev:Em)(t e:Expr)(l:Loc)(c:aa):SM:=gG (!cY e) (bn (d7 t) (fun ts=>JO x ev ts e l c) (yL (ev e l c) l fun v c=>mL (D4 x ev t v l c)))
noncomputable def zu(x:Cx)(ev:Em)(exc cause:Option Expr)(l:Loc)(c:aa):SM:=gG (vg cause) (jt (ob exc gE) fun p=>jt (one p.2) fun a=>gG (rj x p.1&&cy a) fun k=>ev a l c (fun v c=>ob (iu v) fun _=>k .exc l c) fun _=>none)
noncomputable def OB(x:Cx)(ev:Em)(q:Str×Stmt×Stmt)(l:Loc)(c:aa):SM:=gG (rj x q.1) (jt (zt q.2.1) fun r=>gG (!(r.1.isSome&&cY r.2)) fun k=>ev r.2 l c
 (fun v c=>bn r.1 (fun y=>ob (fv x.scope l y v) fun l=>k .next l c) (k (.ret v) l c)) (fun c=>vf x.scope q.2.2 l c k))
noncomputable def zv(x:Cx)(E:ve)(X:Xs)(s:Stmt)(l:Loc)(c:aa):SM:=match s with
 | .Expr e _=>gG (!cY e) (yL (E.E x e l c) l fun _ c=>lJ .next l c)
 | .Pass _=>lJ .next l c
 | .Continue _=>lJ .cont l c
 | .Return e _=>bn e (fun e=>yL (E.E x e l c) l fun v c=>lJ (.ret v) l c) (lJ (.ret (.t .none)) l c)
 | .Assign ts e _=>jt (one ts) fun t=>OA x (E.E x) t e l c
 | .If t a b _=>yL (E.te x t l c) l fun v c=>JM v (X.B x a l c) (X.B x b l c)
 | .While t body orelse _=>gG orelse.isEmpty (mM (E.te x) (X.B x) t body turns l c)
 | .For tg it body orelse _=>gG orelse.isEmpty (yL (E.S x it l c) l fun p c=>gG (!(p.1&& !isTup tg)) (bM x.scope (X.B x) tg body p.2 l c))
 | .Raise exc cause _=>zu x (E.E x) exc cause l c
 | .Try body hs orelse fin _=>jt (pw body hs orelse fin) fun q=>OB x (E.E x) q l c
 |_=>oj
noncomputable def OC(X:Xs)(x:Cx):List Stmt->Loc->aa->SM
 |[],l,c=>lJ .next l c
 |s::ss,l,c=>fun k=>X.S x s l c fun o l c=>match o with
  | .next=>X.B x ss l c k
  |o=>k o l c
noncomputable def NM:Nat->Xs
 |0=>⟨fun _ _ _ _=>oj,fun _ _ _ _=>oj⟩
 |n+1=>⟨fun x=>zv x (D3 n) (NM n),OC (NM n)⟩
noncomputable def aD(x:Cx)(n:Nat)(s:Stmt)(l:Loc)(c:aa):Ko->aq:=(NM n).S x s l c
noncomputable def ah(x:Cx)(n:Nat)(b:List Stmt)(l:Loc)(c:aa):Ko->aq:=(NM n).B x b l c
structure Fn where
 params:List Str
 dflt:List T
 body:List Stmt
 scope:Scope
inductive Mode where
 |pure|shared|raw|yM
noncomputable def bindG{α:Type}(names:List Str)(vals ds:List α):Option (List (Str×α)):=
 if vals.length>names.length then none else
 if !((names.take (names.length-(ds.drop (ds.length-names.length)).length)).filter fun n=>((names.zip vals).lookup n).isNone).isEmpty then none else
 some (names.filterMap fun n=>((((names.drop (names.length-(ds.drop (ds.length-names.length)).length)).zip (ds.drop (ds.length-names.length))).foldl (fun r p=>if(r.lookup p.1).isNone=true then r++[(p.1,p.2)]else r) (names.zip vals)).lookup n).map (n,·))
structure Gl where
 glob:Str->Option T
 cw:Nat->Str->Option Nat
noncomputable def outF(k:Kn):Ko:=fun o _ c=>match o with
 | .next=>k (.ok (.t .none)) c
 | .ret v=>k (.ok v) c
 | .exc=>k .exc c
 |_=>none
noncomputable def an(g:Gl)(tab:Tab)(f:Fn)(args:List V)(c:aa)(k:Kn):aq:=ob (bindG f.params args (f.dflt.map .t)) fun l=>ah ⟨tab,g.glob,g.cw,f.scope⟩ 40 f.body l c (outF k)
noncomputable def rk(n:Nat):V->Bool
 | .t _=>true
 | .loc i=>Nat.blt i n
noncomputable def cZ(n:Nat):Cell->Bool
 | .lst xs=>xs.all (rk n)
 | .tup xs=>xs.all (rk n)
 | .inst _ fs=>fs.all fun p=>rk n p.2
 | .dict es=>es.all fun p=>rk n p.2
 | .cg _=>true
noncomputable def Il(g:Gl)(tab:Tab)(f:Fn):Spec:=fun args c k=>ob (iF (fr aN) c args) fun p=>an g tab f (p.1.map .t) [] fun r c' =>match r with
  | .exc=>k .exc p.2
  | .ok v=>ob (fr aN c' v) fun q=>k (.ok (.t q.1)) p.2
noncomputable def ju(n:Nat)(c:aa)(f:aa->aq):aq:=bif(c.take n).all (cZ n)then f (c.take n)else none
noncomputable def vh(g:Gl)(tab:Tab)(f:Fn):Spec:=fun args c k=>an g tab f args c fun r c' =>match r with
  | .exc=>ju c.length c' (k .exc)
  | .ok v=>ob (fr aN c' v) fun q=>ju c.length q.2 (k (.ok (.t q.1)))
noncomputable def tH:List V->Option (List V)
 | .loc 0::as=>some as
 |_=>none
noncomputable def OD(g:Gl)(tab:Tab)(f:Fn):Spec:=fun args c k=>ob (tH args) fun as=>ob (iF (fr aN) c as) fun q=>ob q.2[0]? fun p=>bif cZ 1 p then an g tab f (.loc 0::q.1.map .t) [p] (fun r c' =>match r with
  | .exc=>none
  | .ok v=>ob (fr aN c' v) fun w=>ob w.2[0]? fun p' =>bif cZ 1 p' then k (.ok (.t w.1)) (q.2.set 0 p')else none)else none
noncomputable def OE(sp:Spec)(C:Nat)(args:List V)(c:aa)(f:aa->aq):aq:=sp (.loc c.length::args) (c++[.inst C []]) fun r c' =>match r with
  | .ok (.t .none)=>f c'
  |_=>none
noncomputable def Im(tab:Tab)(C init:Nat)(kind:Nat):Spec:=fun args c k=>ob (tab init) fun sp=>match kind with
  |0=>OE sp C args c fun c' =>k (.ok (.loc c.length)) c'
  |1=>ob (iF (fr aN) c args) fun p=>OE sp C (p.1.map .t) [] fun c' =>ob (fr aN c' (.loc 0)) fun q=>k (.ok (.t q.1)) p.2
  |_=>OE sp C args c fun c' =>ob (fr aN c' (.loc c.length)) fun q=>ju c.length q.2 (k (.ok (.t q.1)))
end
section
set_option backward.match.sparseCases true
set_option bootstrap.genMatcherCode true
set_option genInjectivity true
set_option genSizeOf true
open PySem
noncomputable def fnAt(s:Stmt)(d:List T):Fn:=⟨(fP s).args.map (·.arg),d,fB s,fS s⟩
noncomputable def rn:List (Str×T):=[
 (⟨#[95,119,97,108,108]⟩,.gl 21),
 (⟨#[77,105,110,116,69,114,114,111,114]⟩,.gl 46),
 (⟨#[79,112,101,114,97,110,100,69,114,114,111,114]⟩,.gl 59),
 (⟨#[69,110,99,111,100,101,69,114,114,111,114]⟩,.gl 71),
 (⟨#[68,101,99,111,100,101,69,114,114,111,114]⟩,.gl 83),
 (⟨#[109,97,115,107]⟩,.gl 92),
 (⟨#[119,114,97,112]⟩,.gl 99),
 (⟨#[115,105,103,110,101,100]⟩,.gl 106),
 (⟨#[102,114,111,109,95,108,105,116,116,108,101]⟩,.gl 113),
 (⟨#[102,114,111,109,95,108,105,116,116,108,101,95,115,105,103,110,101,100]⟩,.gl 120),
 (⟨#[67,79,78,68,73,84,73,79,78,83]⟩,.str (⟨#[111,32,110,111,32,98,32,97,101,32,101,32,110,101,32,98,101,32,97,32,115,32,110,115,32,112,32,110,112,32,108,32,103,101,32,108,101,32,103]⟩)),
 (⟨#[76,79,67,75,69,68]⟩,.str (⟨#[97,100,100,32,97,100,99,32,97,110,100,32,111,114,32,115,98,98,32,115,117,98,32,120,111,114,32,105,110,99,32,100,101,99,32,110,101,103,32,110,111,116,32,120,99,104,103,32,120,97,100,100,32,99,109,112,120,99,104,103,32,98,116,115,32,98,116,114,32,98,116,99]⟩)),
 (⟨#[77,79,86,69,68]⟩,.str (⟨#[109,111,118,115,98,32,109,111,118,115,119,32,109,111,118,115,100,32,109,111,118,115,113,32,115,116,111,115,98,32,115,116,111,115,119,32,115,116,111,115,100,32,115,116,111,115,113,32,108,111,100,115,98,32,108,111,100,115,119,32,108,111,100,115,100,32,108,111,100,115,113]⟩)),
 (⟨#[67,79,77,80,65,82,69,68]⟩,.str (⟨#[99,109,112,115,98,32,99,109,112,115,119,32,99,109,112,115,100,32,99,109,112,115,113,32,115,99,97,115,98,32,115,99,97,115,119,32,115,99,97,115,100,32,115,99,97,115,113]⟩)),
 (⟨#[99,111,110,100,105,116,105,111,110,95,110,97,109,101,115]⟩,.gl 127),
 (⟨#[105,115,95,102,105,120,101,100]⟩,.gl 134),
 (⟨#[105,115,95,105,109,109,101,100,105,97,116,101]⟩,.gl 141),
 (⟨#[105,115,95,114,101,108,97,116,105,118,101]⟩,.gl 148),
 (⟨#[116,97,107,101,115,95,109,101,109,111,114,121]⟩,.gl 155),
 (⟨#[107,105,110,100,95,115,105,122,101]⟩,.gl 162),
 (⟨#[107,105,110,100,95,119,105,100,116,104]⟩,.gl 169),
 (⟨#[115,108,111,116,95,111,102]⟩,.gl 176),
 (⟨#[70,111,114,109]⟩,.gl 234),
 (⟨#[99,97,110,95,108,111,99,107]⟩,.gl 245),
 (⟨#[114,101,112,101,97,116,115]⟩,.gl 252),
 (⟨#[79,112,101,114,97,110,100]⟩,.gl 290),
 (⟨#[82,101,103]⟩,.gl 325),
 (⟨#[73,109,109]⟩,.gl 359),
 (⟨#[82,101,108]⟩,.gl 400),
 (⟨#[77,101,109]⟩,.gl 453),
 (⟨#[73,110,115,116,114,117,99,116,105,111,110]⟩,.gl 506),
 (⟨#[78,65,77,69,83,95,56]⟩,.str (⟨#[97,108,32,99,108,32,100,108,32,98,108,32,115,112,108,32,98,112,108,32,115,105,108,32,100,105,108]⟩)),
 (⟨#[78,65,77,69,83,95,49,54]⟩,.str (⟨#[97,120,32,99,120,32,100,120,32,98,120,32,115,112,32,98,112,32,115,105,32,100,105]⟩)),
 (⟨#[78,65,77,69,83,95,51,50]⟩,.str (⟨#[101,97,120,32,101,99,120,32,101,100,120,32,101,98,120,32,101,115,112,32,101,98,112,32,101,115,105,32,101,100,105]⟩)),
 (⟨#[78,65,77,69,83,95,54,52]⟩,.str (⟨#[114,97,120,32,114,99,120,32,114,100,120,32,114,98,120,32,114,115,112,32,114,98,112,32,114,115,105,32,114,100,105]⟩)),
 (⟨#[72,73,71,72,95,78,65,77,69,83]⟩,.str (⟨#[97,104,32,99,104,32,100,104,32,98,104]⟩)),
 (⟨#[82,101,103,105,115,116,101,114]⟩,.gl 562),
 (⟨#[101,97,114,108,121,95,110,97,109,101,115]⟩,.gl 573),
 (⟨#[108,97,116,101,95,101,110,100,105,110,103]⟩,.gl 580),
 (⟨#[103,112,114]⟩,.gl 587),
 (⟨#[104,105,103,104]⟩,.gl 594),
 (⟨#[120,109,109]⟩,.gl 601),
 (⟨#[114,105,112]⟩,.gl 608),
 (⟨#[78,79,95,73,78,68,69,88]⟩,.int (4)),
 (⟨#[78,79,95,66,65,83,69]⟩,.int (5)),
 (⟨#[87,73,84,72,95,83,73,66]⟩,.int (4)),
 (⟨#[70,82,79,77,95,82,73,80]⟩,.int (5)),
 (⟨#[117,110,112,97,99,107,95,116,104,114,101,101]⟩,.gl 615),
 (⟨#[117,110,112,97,99,107,95,109,111,100,114,109]⟩,.gl 622),
 (⟨#[117,110,112,97,99,107,95,115,105,98]⟩,.gl 629),
 (⟨#[111,99,116,101,116,95,97,116]⟩,.gl 636),
 (⟨#[100,105,115,112,95,119,105,100,116,104,95,111,102]⟩,.gl 643),
 (⟨#[114,101,97,100,95,109,111,100,114,109]⟩,.gl 650),
 (⟨#[109,101,109,111,114,121,95,111,102]⟩,.gl 657),
 (⟨#[70,83]⟩,.int (100)),
 (⟨#[71,83]⟩,.int (101)),
 (⟨#[68,65,84,65,95,112,114,101,102,105,120,101,115]⟩,.int (102)),
 (⟨#[82,69,80,78,69]⟩,.int (242)),
 (⟨#[82,69,80]⟩,.int (243)),
 (⟨#[76,79,67,75]⟩,.int (240)),
 (⟨#[114,101,120,95,98,105,116,115]⟩,.gl 664),
 (⟨#[105,115,95,114,101,120]⟩,.gl 671),
 (⟨#[115,101,103,109,101,110,116,95,111,99,116,101,116]⟩,.gl 678),
 (⟨#[115,111,114,116,95,111,102]⟩,.gl 685),
 (⟨#[80,114,101,102,105,120,101,115]⟩,.gl 738),
 (⟨#[119,105,116,104,95,114,101,120]⟩,.gl 749),
 (⟨#[119,105,116,104,95,108,101,103,97,99,121]⟩,.gl 756),
 (⟨#[114,101,97,100,95,112,114,101,102,105,120,101,115]⟩,.gl 763),
 (⟨#[77,79,83,84,95,79,67,84,69,84,83]⟩,.int (15)),
 (⟨#[69,83,67,65,80,69]⟩,.int (15)),
 (⟨#[68,65,84,65,95,100,101,99,111,100,101,114]⟩,.int (102)),
 (⟨#[78,79,80]⟩,.int (144)),
 (⟨#[82,69,71,73,83,84,69,82]⟩,.int (3)),
 (⟨#[68,101,99,111,100,101,100]⟩,.gl 787),
 (⟨#[70,114,97,109,101]⟩,.gl 843),
 (⟨#[102,105,116,115,95,115,105,122,101]⟩,.gl 854),
 (⟨#[102,105,116,115,95,109,111,100]⟩,.gl 859),
 (⟨#[102,105,116,115,95,110,111,112]⟩,.gl 866),
 (⟨#[112,105,99,107,101,100]⟩,.gl 873),
 (⟨#[114,101,103,105,115,116,101,114,95,97,116]⟩,.gl 880),
 (⟨#[114,101,103,95,111,112,101,114,97,110,100]⟩,.gl 887),
 (⟨#[114,109,95,111,112,101,114,97,110,100]⟩,.gl 894),
 (⟨#[112,108,117,115,95,111,112,101,114,97,110,100]⟩,.gl 901),
 (⟨#[102,105,120,101,100,95,111,112,101,114,97,110,100]⟩,.gl 908),
 (⟨#[102,105,101,108,100,95,97,116]⟩,.gl 915),
 (⟨#[119,114,105,116,116,101,110,95,111,112,101,114,97,110,100]⟩,.gl 922),
 (⟨#[111,112,101,114,97,110,100,115,95,111,102]⟩,.gl 929),
 (⟨#[99,104,101,99,107,95,117,115,101,100]⟩,.gl 934),
 (⟨#[112,114,101,102,105,120,95,119,111,114,100]⟩,.gl 941),
 (⟨#[114,101,97,100,95,102,114,97,109,101]⟩,.gl 946),
 (⟨#[100,101,99,111,100,101]⟩,.gl 954),
 (⟨#[100,101,99,111,100,101,95,111,114,95,110,111,110,101]⟩,.gl 962),
 (⟨#[105,115,95,105,110,115,116,114,117,99,116,105,111,110]⟩,.gl 969),
 (⟨#[100,101,99,111,100,101,95,97,108,108]⟩,.gl 976),
 (⟨#[108,101,110,103,116,104,115]⟩,.gl 981),
 (⟨#[97,110,97,116,111,109,121]⟩,.gl 989),
 (⟨#[106,117,109,112,95,102,111,114,109,115]⟩,.gl 996),
 (⟨#[99,97,108,108,95,102,111,114,109,115]⟩,.gl 1003),
 (⟨#[108,111,111,112,95,102,111,114,109,115]⟩,.gl 1010),
 (⟨#[116,114,97,112,95,102,111,114,109,115]⟩,.gl 1017),
 (⟨#[99,97,114,114,121,95,102,111,114,109,115]⟩,.gl 1024),
 (⟨#[115,116,114,105,110,103,95,102,111,114,109,115]⟩,.gl 1031),
 (⟨#[110,111,112,95,102,111,114,109,115]⟩,.gl 1038),
 (⟨#[102,108,111,119,95,102,111,114,109,115]⟩,.gl 1045),
 (⟨#[99,111,100,101,115,95,111,102]⟩,.gl 1050),
 (⟨#[73,110,115,116,114,117,99,116,105,111,110,83,101,116]⟩,.gl 1121),
 (⟨#[115,105,122,101,100,95,102,111,114,109,115]⟩,.gl 1133),
 (⟨#[98,111,116,104,95,119,97,121,115]⟩,.gl 1140),
 (⟨#[109,111,118,95,102,111,114,109,115]⟩,.gl 1147),
 (⟨#[108,101,97,95,102,111,114,109,115]⟩,.gl 1154),
 (⟨#[97,99,99,117,109,117,108,97,116,111,114]⟩,.gl 1161),
 (⟨#[120,99,104,103,95,102,111,114,109,115]⟩,.gl 1168),
 (⟨#[115,116,97,99,107,95,102,111,114,109,115]⟩,.gl 1175),
 (⟨#[95,108,97,119,95,112,101,110]⟩,.gl 1180),
 (⟨#[95,108,97,119,95,100,114,97,119]⟩,.gl 1187),
 (⟨#[95,108,97,119,95,112,105,99,107]⟩,.gl 1194),
 (⟨#[95,108,97,119,95,99,111,100,101,115]⟩,.gl 1201),
 (⟨#[95,108,97,119,95,114,111,119]⟩,.gl 1208),
 (⟨#[95,108,97,119,95,105,109,109,101,100,105,97,116,101]⟩,.gl 1215),
 (⟨#[95,108,97,119,95,112,97,114,116,115]⟩,.gl 1220),
 (⟨#[95,108,97,119,95,104,101,97,114,100]⟩,.gl 1227),
 (⟨#[95,108,97,119,95,119,111,114,116,104]⟩,.gl 1232),
 (⟨#[95,108,97,119,95,98,101,97,114,115]⟩,.gl 1239),
 (⟨#[95,108,97,119,95,97,110,97,116,111,109,121,95,114,105,103,104,116]⟩,.gl 1244),
 (⟨#[95,108,97,119,95,114,111,119,95,114,105,103,104,116]⟩,.gl 1249),
 (⟨#[108,97,119]⟩,.gl 1254),
 (⟨#[108,101,110]⟩,.bi "len"),
 (⟨#[97,98,115]⟩,.bi "abs"),
 (⟨#[115,117,109]⟩,.bi "sum"),
 (⟨#[97,110,121]⟩,.bi "any"),
 (⟨#[105,110,116]⟩,.ty "int"),
 (⟨#[115,116,114]⟩,.ty "str"),
 (⟨#[114,97,110,103,101]⟩,.ty "range"),
 (⟨#[116,117,112,108,101]⟩,.ty "tuple"),
 (⟨#[108,105,115,116]⟩,.ty "list"),
 (⟨#[98,121,116,101,115]⟩,.ty "bytes"),
 (⟨#[69,120,99,101,112,116,105,111,110]⟩,.ty "Exception"),
 (⟨#[122,105,112]⟩,.ty "zip"),
 (⟨#[101,110,117,109,101,114,97,116,101]⟩,.ty "enumerate")]
noncomputable def meths:List (Nat×List (Str×Nat)):=[
 (234,[(⟨#[95,95,105,110,105,116,95,95]⟩,189),(⟨#[116,111,108,100]⟩,196),(⟨#[115,108,111,116,115]⟩,203),(⟨#[104,97,115,95,109,111,100,114,109]⟩,210),(⟨#[104,97,115,95,112,108,117,115]⟩,217),(⟨#[109,101,109,111,114,121,95,115,105,122,101]⟩,224),(⟨#[110,101,101,100,115,95,109,101,109,111,114,121]⟩,231)]),
 (290,[(⟨#[95,95,105,110,105,116,95,95]⟩,266),(⟨#[116,111,108,100]⟩,273),(⟨#[115,121,109,98,111,108]⟩,280),(⟨#[114,101,103,105,115,116,101,114,115]⟩,287)]),
 (325,[(⟨#[95,95,105,110,105,116,95,95]⟩,308),(⟨#[116,111,108,100]⟩,315),(⟨#[115,121,109,98,111,108]⟩,280),(⟨#[114,101,103,105,115,116,101,114,115]⟩,322)]),
 (359,[(⟨#[95,95,105,110,105,116,95,95]⟩,342),(⟨#[116,111,108,100]⟩,349),(⟨#[115,121,109,98,111,108]⟩,356),(⟨#[114,101,103,105,115,116,101,114,115]⟩,287)]),
 (400,[(⟨#[95,95,105,110,105,116,95,95]⟩,376),(⟨#[116,111,108,100]⟩,383),(⟨#[115,121,109,98,111,108]⟩,390),(⟨#[114,101,103,105,115,116,101,114,115]⟩,287),(⟨#[116,97,114,103,101,116]⟩,397)]),
 (453,[(⟨#[95,95,105,110,105,116,95,95]⟩,417),(⟨#[116,111,108,100]⟩,424),(⟨#[115,121,109,98,111,108]⟩,431),(⟨#[114,101,103,105,115,116,101,114,115]⟩,436),(⟨#[105,115,95,114,105,112]⟩,443),(⟨#[105,115,95,97,98,115,111,108,117,116,101]⟩,450)]),
 (506,[(⟨#[95,95,105,110,105,116,95,95]⟩,470),(⟨#[116,111,108,100]⟩,475),(⟨#[109,101,109,111,114,121,95,97,116]⟩,482),(⟨#[109,101,109,111,114,121]⟩,489),(⟨#[115,121,109,98,111,108,115]⟩,496),(⟨#[114,101,112,108,97,99,101,100]⟩,503)]),
 (562,[(⟨#[95,95,105,110,105,116,95,95]⟩,524),(⟨#[99,111,100,101]⟩,531),(⟨#[105,115,95,101,120,116,101,110,100,101,100]⟩,538),(⟨#[105,115,95,104,105,103,104]⟩,545),(⟨#[110,101,101,100,115,95,114,101,120]⟩,552),(⟨#[116,111,108,100]⟩,559)]),
 (738,[(⟨#[95,95,105,110,105,116,95,95]⟩,700),(⟨#[116,111,108,100]⟩,707),(⟨#[104,97,115,95,114,101,120]⟩,714),(⟨#[98,105,116,115]⟩,721),(⟨#[99,111,117,110,116]⟩,728),(⟨#[111,99,116,101,116,115]⟩,735)]),
 (787,[(⟨#[95,95,105,110,105,116,95,95]⟩,777),(⟨#[116,111,108,100]⟩,784)]),
 (843,[(⟨#[95,95,105,110,105,116,95,95]⟩,805),(⟨#[104,97,115,95,114,101,120]⟩,812),(⟨#[105,115,95,110,97,114,114,111,119]⟩,819),(⟨#[116,97,107,101,95,99,111,100,101]⟩,826),(⟨#[116,97,107,101,95,109,117,115,116]⟩,833),(⟨#[116,97,107,101,95,109,111,100,114,109]⟩,840)]),
 (1121,[(⟨#[95,95,105,110,105,116,95,95]⟩,1064),(⟨#[116,111,108,100]⟩,1069),(⟨#[102,105,110,100]⟩,1076),(⟨#[104,97,115]⟩,1083),(⟨#[97,116]⟩,1090),(⟨#[110,97,109,101,115]⟩,1097),(⟨#[99,111,100,101,115]⟩,1104),(⟨#[99,111,117,110,116,115]⟩,1111),(⟨#[109,101,109,111,114,121,95,115,105,122,101,115]⟩,1118)])]
noncomputable def aw{α:Type}:List (Nat×α)->Nat->Option α
 |[],_=>none
 |(y,v)::r,x=>bif Nat.beq y x then some v else aw r x
noncomputable def bD:Gl:=⟨look rn,fun C n=>ob (aw meths C) (look · n)⟩
noncomputable def OF:List (Nat×List T):=[(189,[.int (0),.int (-1),.int (0),.int (0),.bool false]),(342,[.str (⟨#[]⟩)]),(376,[.str (⟨#[]⟩)]),(417,[.int (0),.str (⟨#[]⟩),.str (⟨#[]⟩)]),(470,[.str (⟨#[]⟩)]),(700,[.str (⟨#[]⟩),.bool false,.int (0),.bool false,.int (-1)]),(954,[.int (0)]),(962,[.int (0)]),(989,[.int (0)]),(1133,[.int (-1),.int (0)])]
noncomputable def md:Nat->Mode
 |0=> .pure
 |1=> .shared
 |2=> .raw
 |_=> .yM
noncomputable def stN(p:Program)(i:Nat):Nat->Stmt
 |0=>aR p i
 |j+1=>lU p i j
noncomputable def rows:List Nat:=[6029696,6488512,6947328,7406144,7864960,8324096,8782912,9241728,9700544,10159360,10618176,11076992,11535808,12420609,12846594,13305347,13764100,14222853,14681606,15140359,16057920,16516736,17467137,17893122,18351875,18810628,20219713,20645698,21104451,22448001,22873986,23332739,24676289,25102274,25561027,26019780,27363329,27789314,28248067,28575748,29034501,29493254,30836801,31131714,31590467,32049220,32507973,32966726,34376193,34802178,35260931,35719684,36178437,36637190,37554752,38013568,38472384,38931200,39390016,39848832,40307968,40766784,41225600,41684416,42143232,42602048,43060864,43520128,43978944,44437760,44896576,45912449,46338434,46797187,47255940,47714693,48173446,49091008,49549824,50008640,50959361,51385346,52794433,53220418,53679171,54154308,54613061,55071814,55972992,56300736,56759552,57218368,57677184,58136000,58594816,59053632,59512448,59971264,60430080,60888896,61216640,61675456,62003200,62527552,63051904,63510720,63969536,64297280,64821632,65313280,65772096,66230912,66689728,67148544,67607360,68066176,68524992,68820032,69770369,70065282,70524035,70982788,71441541,71900294,72359047,72817800,73276553,74292480,74751296,75210112,75668928,76094976,76586560,77045376,77373184,77848384,78307200,78766016,79224832,79634496,79962240,80421056,80748800,81207616,81535360,81912256,82190848]
noncomputable def zw(r:Nat):Nat:=r/65536
noncomputable def tI(p:Program)(r:Nat):Stmt:=stN p (r/64 %256) (r %64)
noncomputable def D5(r:Nat):List T:=(aw OF (zw r)).getD []
noncomputable def defs(p:Program):List (Nat×Mode×Fn):=rows.map fun r=>(zw r,md (r/16384 %4),fnAt (tI p r) (D5 r))
noncomputable def makes:List (Nat×Nat×Nat):=[(234,(189,0)),(290,(266,1)),(325,(308,1)),(359,(342,1)),(400,(376,1)),(453,(417,1)),(506,(470,1)),(562,(524,1)),(738,(700,1)),(787,(777,1)),(843,(805,0)),(1121,(1064,2))]
noncomputable def gJ(g:Gl)(tab:Tab)(m:Mode)(f:Fn):Spec:=match m with
 | .pure=>Il g tab f
 | .shared=>vh g tab f
 | .raw=>an g tab f
 | .yM=>OD g tab f
noncomputable def zx(p:Program):Nat->Tab
 |0=>fun _=>none
 |n+1=>fun a=>bn (aw (defs p) a) (fun q=>some (gJ bD (zx p n) q.1 q.2)) (ob (aw makes a) fun q=>some (Im (zx p n) a q.1 q.2))
end
section
open PySem PySem.W PyProof.Rows PySem.Calls
noncomputable abbrev pW:Program:=PySem.Challenge.pw_nn0090_01
noncomputable abbrev lw:OpenLaw:=PySem.Challenge.rw_nn0090_01
noncomputable def OG{a b c d H:Prop}{P:World->Prop}(_:H->a/\b/\c/\d/\∀w,P w):World->Prop:=P
noncomputable def PW:World->Prop:=OG (H:=lw.row.Holds) fun h=>h
noncomputable def w0:World:= @Classical.epsilon World ⟨⟨fun _ _=>0,{strHash:=fun _=>0,shareClass:=fun _=>0,mergeTok:=fun t=>t,idOf:=fun _=>0,idOfShared:=fun _ _=>0,followText:=fun _=>false,idOfImm:=fun _=>0}⟩⟩ fun w=>¬PW w
theorem OH(h:PW w0)(w:World):PW w:=Classical.byContradiction fun q=>Classical.epsilon_spec (p:=fun w=>¬PW w) ⟨w,q⟩ h
theorem JP(h1:lw.row.wellSaid=true)(h2:lw.row.toRowW.promised)(h3:lw.row.claim.prog.bare/\opensWell lw.row.claim.prog=true/\lw.row.claim.makers=[])(h4:∃args,lw.row.claim.pre args=true/\WData.layableAll args=true)(h:PW w0):lw.row.Holds:=⟨h1,h2,h3,h4,OH h⟩
noncomputable abbrev M0:Model:=model pW w0
noncomputable def fN:Stmt->Str
 | .FunctionDef n _ _ _ _ _ _ _ _ _=>n
 | .ClassDef n _ _ _ _ _ _ _ _ _ _=>n
 |_=>⟨#[]⟩
noncomputable abbrev SV(s:String)(t:Nat):Value:= .str (.ofString s) t
noncomputable def qual(p:Program)(i:Nat):Nat->Str
 |0=>fN (aR p i)
 |k+1=>fN (aR p i)++Str.ofString "."++fN (lU p i k)
noncomputable abbrev Mo:=String×Nat
noncomputable abbrev YI:Mo:=("__main__",164)
noncomputable abbrev JQ:Mo:=("octetmint.basics",194)
noncomputable abbrev rq:Mo:=("octetmint.forms",323)
noncomputable abbrev lf:Mo:=("octetmint.operands",485)
noncomputable abbrev yN:Mo:=("octetmint.registers",817)
noncomputable abbrev JR:Mo:=("octetmint.modrm",942)
noncomputable abbrev xj:Mo:=("octetmint.prefixes",1022)
noncomputable abbrev jw:Mo:=("octetmint.decoder",1169)
noncomputable abbrev Io:Mo:=("octetmint.flow",1515)
noncomputable abbrev DC:Mo:=("octetmint.iset",1572)
noncomputable abbrev tJ:Mo:=("octetmint.moves",1676)
noncomputable abbrev ku:Mo:=("law_nn0090_01",1742)
noncomputable def kF(a i j:Nat)(dv:Value)(m:Mo)(t l n k z:Nat):(Nat×Obj)×(Nat×Obj):=((a,⟨.type "function",none,.func {name:=fN (stN pW i j),qualname:=qual pW i j,params:=fP (stN pW i j),body:= .stmts (fB (stN pW i j)),scope:=fS (stN pW i j),globals:=3,closure:=[],defaults:=dv,kwdefaults:= .none,pyModule:=SV m.1 m.2,code:= .ref (a-1)},#[]⟩),
 (a-1,⟨.type "code",none,.fields #[.str (fN (stN pW i j)) t,.str (qual pW i j) (t+1),SV "/claim/cut.py" (t+2),.int l 0,.int n 0,.int 0 0,.int 0 0,.int 3 0,bif Nat.beq z 1 then .ref (a-6)else .ref (a-4),.bool true,.int 181 0,bif Nat.beq z 1 then .ref (a-5)else .ref (a-3),.none,bif Nat.beq z 1 then .ref (a-4)else .none,bif Nat.beq z 1 then .ref (a-3)else .none,.ref (a-2),.int k 0,.int l 0,SV "/claim/cut.py" (k+1)],#[]⟩))
noncomputable def funcs:List ((Nat×Obj)×(Nat×Obj)):=[kF 21 0 0 .none YI 187 1 1 191 1,kF 36 2 1 (.ref 29) JQ 208 7 3 214 1,kF 43 2 2 .none JQ 217 12 1 221 1,kF 92 6 0 .none JQ 282 22 1 286 1,kF 99 7 0 .none JQ 289 24 2 294 1,kF 106 8 0 .none JQ 297 26 2 303 1,kF 113 9 0 .none JQ 306 31 1 313 1,kF 120 10 0 .none JQ 316 38 1 320 1,kF 127 16 0 .none rq 333 47 0 336 1,kF 134 17 0 .none rq 339 49 1 343 1,kF 141 18 0 .none rq 346 51 1 350 1,kF 148 19 0 .none rq 353 53 1 357 1,kF 155 20 0 .none rq 360 55 1 364 1,kF 162 21 0 .none rq 367 57 1 371 1,kF 169 22 0 .none rq 374 65 1 378 1,kF 176 23 0 .none rq 381 71 1 385 1,kF 189 24 1 (.ref 184) rq 405 83 9 408 0,kF 196 24 2 .none rq 411 95 1 415 1,kF 203 24 3 .none rq 418 98 1 422 1,kF 210 24 4 .none rq 425 101 1 429 1,kF 217 24 5 .none rq 432 104 1 436 1,kF 224 24 6 .none rq 439 107 1 443 1,kF 231 24 7 .none rq 446 110 1 450 1,kF 245 25 0 .none rq 471 112 1 475 1,kF 252 26 0 .none rq 478 114 1 482 1,kF 266 28 1 .none lf 499 121 2 504 1,kF 273 28 2 .none lf 507 124 1 511 1,kF 280 28 3 .none lf 514 127 1 518 1,kF 287 28 4 .none lf 521 130 1 525 1,kF 308 29 1 .none lf 549 134 2 554 1,kF 315 29 2 .none lf 557 138 1 561 1,kF 322 29 3 .none lf 564 141 1 568 1,kF 342 30 1 (.ref 335) lf 589 145 3 595 1,kF 349 30 2 .none lf 598 150 1 602 1,kF 356 30 3 .none lf 605 153 1 609 1,kF 376 31 1 (.ref 369) lf 631 157 3 637 1,kF 383 31 2 .none lf 640 162 1 644 1,kF 390 31 3 .none lf 647 165 1 651 1,kF 397 31 4 .none lf 654 168 2 659 1,kF 417 32 1 (.ref 410) lf 683 172 8 694 1,kF 424 32 2 .none lf 697 182 1 703 1,kF 431 32 3 .none lf 706 187 1 710 1,kF 436 32 4 .none lf 713 190 1 716 0,kF 443 32 5 .none lf 719 193 1 723 1,kF 450 32 6 .none lf 726 196 1 730 1,kF 470 33 1 (.ref 463) lf 757 200 4 764 1,kF 475 33 2 .none lf 767 205 1 770 0,kF 482 33 3 .none lf 773 208 1 779 1,kF 489 33 4 .none lf 782 214 1 787 1,kF 496 33 5 .none lf 790 218 1 794 1,kF 503 33 6 .none lf 797 221 3 803 1,kF 524 40 1 .none yN 841 231 5 849 1,kF 531 40 2 .none yN 852 237 1 856 1,kF 538 40 3 .none yN 859 240 1 863 1,kF 545 40 4 .none yN 866 243 1 870 1,kF 552 40 5 .none yN 873 246 1 877 1,kF 559 40 6 .none yN 880 249 1 884 1,kF 573 41 0 .none yN 899 251 1 903 1,kF 580 42 0 .none yN 906 261 1 910 1,kF 587 43 0 .none yN 913 269 2 919 1,kF 594 44 0 .none yN 922 276 1 926 1,kF 601 45 0 .none yN 929 280 1 933 1,kF 608 46 0 .none yN 936 284 0 939 1,kF 615 52 0 .none JR 952 291 1 956 1,kF 622 53 0 .none JR 959 293 1 963 1,kF 629 54 0 .none JR 966 295 1 970 1,kF 636 55 0 .none JR 973 297 2 978 1,kF 643 56 0 .none JR 981 301 3 987 1,kF 650 57 0 .none JR 990 311 2 1001 1,kF 657 58 0 .none JR 1004 323 8 1019 1,kF 664 66 0 .none xj 1036 340 1 1040 1,kF 671 67 0 .none xj 1043 344 1 1047 1,kF 678 68 0 .none xj 1050 346 1 1054 1,kF 685 69 0 .none xj 1057 352 1 1061 1,kF 700 70 1 (.ref 693) xj 1080 364 6 1089 1,kF 707 70 2 .none xj 1092 371 1 1096 1,kF 714 70 3 .none xj 1099 374 1 1103 1,kF 721 70 4 .none xj 1106 377 1 1110 1,kF 728 70 5 .none xj 1113 380 1 1117 1,kF 735 70 6 .none xj 1120 383 1 1125 1,kF 749 71 0 .none xj 1141 402 2 1146 1,kF 756 72 0 .none xj 1149 404 2 1156 1,kF 763 73 0 .none xj 1159 426 2 1166 1,kF 777 80 1 .none jw 1193 448 5 1201 1,kF 784 80 2 .none jw 1204 454 1 1208 1,kF 805 81 1 .none jw 1235 458 4 1243 1,kF 812 81 2 .none jw 1246 479 1 1250 1,kF 819 81 3 .none jw 1253 482 1 1257 1,kF 826 81 4 .none jw 1260 485 2 1266 1,kF 833 81 5 .none jw 1269 496 2 1275 1,kF 840 81 6 .none jw 1278 502 2 1284 1,kF 854 82 0 .none jw 1313 507 2 1318 1,kF 859 83 0 .none jw 1321 515 2 1324 0,kF 866 84 0 .none jw 1327 517 2 1333 1,kF 873 85 0 .none jw 1336 522 2 1342 1,kF 880 86 0 .none jw 1345 529 3 1351 1,kF 887 87 0 .none jw 1354 533 2 1360 1,kF 894 88 0 .none jw 1363 538 2 1371 1,kF 901 89 0 .none jw 1374 546 2 1380 1,kF 908 90 0 .none jw 1383 549 1 1387 1,kF 915 91 0 .none jw 1390 557 3 1397 1,kF 922 92 0 .none jw 1400 562 3 1406 1,kF 929 93 0 .none jw 1409 568 3 1420 1,kF 934 94 0 .none jw 1423 584 3 1426 0,kF 941 95 0 .none jw 1429 592 2 1436 1,kF 946 96 0 .none jw 1439 602 3 1442 0,kF 954 97 0 (.ref 947) jw 1446 611 3 1457 1,kF 962 98 0 (.ref 955) jw 1461 619 3 1467 1,kF 969 99 0 .none jw 1470 624 2 1476 1,kF 976 100 0 .none jw 1479 627 2 1487 1,kF 981 101 0 .none jw 1490 636 2 1493 0,kF 989 102 0 (.ref 982) jw 1497 638 3 1512 1,kF 996 104 0 .none Io 1517 652 0 1523 1,kF 1003 105 0 .none Io 1526 659 0 1529 1,kF 1010 106 0 .none Io 1532 661 0 1535 1,kF 1017 107 0 .none Io 1538 663 0 1541 1,kF 1024 108 0 .none Io 1544 665 0 1547 1,kF 1031 109 0 .none Io 1550 667 0 1556 1,kF 1038 110 0 .none Io 1559 675 0 1562 1,kF 1045 111 0 .none Io 1565 677 0 1569 1,kF 1050 113 0 .none DC 1574 687 1 1577 0,kF 1064 114 1 .none DC 1592 693 2 1600 1,kF 1069 114 2 .none DC 1603 708 1 1606 0,kF 1076 114 3 .none DC 1609 711 2 1614 1,kF 1083 114 4 .none DC 1617 714 2 1622 1,kF 1090 114 5 .none DC 1625 717 4 1632 1,kF 1097 114 6 .none DC 1635 720 1 1639 1,kF 1104 114 7 .none DC 1642 723 1 1646 1,kF 1111 114 8 .none DC 1649 726 2 1654 1,kF 1118 114 9 .none DC 1657 729 2 1662 1,kF 1133 116 0 (.ref 1126) tJ 1681 732 5 1693 1,kF 1140 117 0 .none tJ 1696 740 2 1702 1,kF 1147 118 0 .none tJ 1705 746 0 1709 1,kF 1154 119 0 .none tJ 1712 757 0 1717 1,kF 1161 120 0 .none tJ 1720 762 1 1724 1,kF 1168 121 0 .none tJ 1727 770 0 1732 1,kF 1175 122 0 .none tJ 1735 777 0 1739 1,kF 1180 124 0 .none ku 1744 793 1 1747 0,kF 1187 125 0 .none ku 1750 795 2 1760 1,kF 1194 126 0 .none ku 1763 812 2 1768 1,kF 1201 127 0 .none ku 1771 814 2 1778 1,kF 1208 128 0 .none ku 1781 823 2 1790 1,kF 1215 129 0 .none ku 1793 833 4 1800 1,kF 1220 130 0 .none ku 1803 847 1 1806 0,kF 1227 131 0 .none ku 1809 863 3 1815 1,kF 1232 132 0 .none ku 1818 868 1 1821 0,kF 1239 133 0 .none ku 1824 870 2 1829 1,kF 1244 134 0 .none ku 1832 872 3 1835 0,kF 1249 135 0 .none ku 1838 882 4 1841 0,kF 1254 136 0 .none ku 1844 897 1 1847 0]
noncomputable def ix(a:Nat)(s:String)(bs mro sub:List Value)(x:Option Value)(t:Nat)(n:String):Nat×Obj:=(a,⟨.type "type",none,.cls ⟨.ofString s,bs,.ref a::mro,a-1,.ofString s,true,[],sub,false,none,false⟩,#[x,none,some (SV s t),some (SV s (t+8)),some (.builtin n),some (.bool true)]⟩)
noncomputable def UK:List (Nat×Obj):=[ix 46 "MintError" [.type "Exception"] [.type "Exception",.type "BaseException",.type "object"] [.ref 59,.ref 71,.ref 83] (some (.ref 22)) 196 "Exception.__new__",
 ix 59 "OperandError" [.ref 46] [.ref 46,.type "Exception",.type "BaseException",.type "object"] [] (some (.ref 50)) 234 "Exception.__new__",
 ix 71 "EncodeError" [.ref 46] [.ref 46,.type "Exception",.type "BaseException",.type "object"] [] (some (.ref 62)) 250 "Exception.__new__",
 ix 83 "DecodeError" [.ref 46] [.ref 46,.type "Exception",.type "BaseException",.type "object"] [] (some (.ref 74)) 266 "Exception.__new__",
 ix 234 "Form" [.type "object"] [.type "object"] [] none 388 "object.__new__",
 ix 290 "Operand" [.type "object"] [.type "object"] [.ref 325,.ref 359,.ref 400,.ref 453] none 487 "object.__new__",
 ix 325 "Reg" [.ref 290] [.ref 290,.type "object"] [] (some (.ref 295)) 537 "object.__new__",
 ix 359 "Imm" [.ref 290] [.ref 290,.type "object"] [] (some (.ref 328)) 576 "object.__new__",
 ix 400 "Rel" [.ref 290] [.ref 290,.type "object"] [] (some (.ref 362)) 618 "object.__new__",
 ix 453 "Mem" [.ref 290] [.ref 290,.type "object"] [] (some (.ref 403)) 668 "object.__new__",
 ix 506 "Instruction" [.type "object"] [.type "object"] [] none 744 "object.__new__",
 ix 562 "Register" [.type "object"] [.type "object"] [] none 829 "object.__new__",
 ix 738 "Prefixes" [.type "object"] [.type "object"] [] none 1064 "object.__new__",
 ix 787 "Decoded" [.type "object"] [.type "object"] [] none 1181 "object.__new__",
 ix 843 "Frame" [.type "object"] [.type "object"] [] none 1223 "object.__new__",
 ix 1121 "InstructionSet" [.type "object"] [.type "object"] [] none 1580 "object.__new__"]
noncomputable def UL:List (Nat×Obj):=[(29,[.none]),(184,[(.int (0) 400),(.int (-1) 402),(.int (0) 403),(.int (0) 404),(.bool false)]),(335,[(.str (.ofString "") 588)]),(369,[(.str (.ofString "") 630)]),(410,[(.int (0) 680),(.str (.ofString "") 681),(.str (.ofString "") 682)]),(463,[(.str (.ofString "") 756)]),(693,[(.str (.ofString "") 1076),(.bool false),(.int (0) 1077),(.bool false),(.int (-1) 1079)]),(947,[(.int (0) 1445)]),(955,[(.int (0) 1460)]),(982,[(.int (0) 1496)]),(1126,[(.int (-1) 1679),(.int (0) 1680)])].map fun r=>(r.1,⟨.type "tuple",none,.seq r.2.toArray 0,#[]⟩)
section
variable(P:Params)
noncomputable def kE(s:String)(t:Nat)(v:Value):DictEntry:=⟨PyData.keyHash P (.ofString s),SV s t,v⟩
noncomputable def kD(a:Nat)(es:List DictEntry)(n:Nat):Nat×Obj:=(a,⟨bif Nat.beq a 2 then .none else .type "dict",none,.dict es.toArray n,#[]⟩)
noncomputable def OI:List (Nat×Obj):=[kD 2 [kE P "type.__subclasses__.Exception.0" 230 (.int 46 0),kE P "type.__subclasses__.Exception.n" 231 (.int 1 0)] 2,
 kD 3 [kE P "__name__" 165 (SV "law_nn0090_01" 1742),kE P "__doc__" 166 .none,kE P "__package__" 167 .none,kE P "__loader__" 168 (.builtin "__main__.__loader__#opaque"),kE P "__spec__" 169 .none,kE P "__annotations__" 170 (.ref 6),kE P "__builtins__" 171 (.ref 4),kE P "__file__" 173 (SV "/claim/cut.py" 172),kE P "__cached__" 174 .none,kE P "_wall" 193 (.ref 21),kE P "MintError" 233 (.ref 46),kE P "OperandError" 249 (.ref 59),kE P "EncodeError" 265 (.ref 71),kE P "DecodeError" 281 (.ref 83),kE P "mask" 288 (.ref 92),kE P "wrap" 296 (.ref 99),kE P "signed" 305 (.ref 106),kE P "from_little" 315 (.ref 113),kE P "from_little_signed" 322 (.ref 120),kE P "CONDITIONS" 326 (SV "o no b ae e ne be a s ns p np l ge le g" 325),kE P "LOCKED" 328 (SV "add adc and or sbb sub xor inc dec neg not xchg xadd cmpxchg bts btr btc" 327),kE P "MOVED" 330 (SV "movsb movsw movsd movsq stosb stosw stosd stosq lodsb lodsw lodsd lodsq" 329),kE P "COMPARED" 332 (SV "cmpsb cmpsw cmpsd cmpsq scasb scasw scasd scasq" 331),kE P "condition_names" 338 (.ref 127),kE P "is_fixed" 345 (.ref 134),kE P "is_immediate" 352 (.ref 141),kE P "is_relative" 359 (.ref 148),kE P "takes_memory" 366 (.ref 155),kE P "kind_size" 373 (.ref 162),kE P "kind_width" 380 (.ref 169),kE P "slot_of" 387 (.ref 176),kE P "Form" 470 (.ref 234),kE P "can_lock" 477 (.ref 245),kE P "repeats" 484 (.ref 252),kE P "Operand" 536 (.ref 290),kE P "Reg" 575 (.ref 325),kE P "Imm" 617 (.ref 359),kE P "Rel" 667 (.ref 400),kE P "Mem" 743 (.ref 453),kE P "Instruction" 816 (.ref 506),kE P "NAMES_8" 820 (SV "al cl dl bl spl bpl sil dil" 819),kE P "NAMES_16" 822 (SV "ax cx dx bx sp bp si di" 821),kE P "NAMES_32" 824 (SV "eax ecx edx ebx esp ebp esi edi" 823),kE P "NAMES_64" 826 (SV "rax rcx rdx rbx rsp rbp rsi rdi" 825),kE P "HIGH_NAMES" 828 (SV "ah ch dh bh" 827),kE P "Register" 898 (.ref 562),kE P "early_names" 905 (.ref 573),kE P "late_ending" 912 (.ref 580),kE P "gpr" 921 (.ref 587),kE P "high" 928 (.ref 594),kE P "xmm" 935 (.ref 601),kE P "rip" 941 (.ref 608),kE P "NO_INDEX" 945 (.int 4 944),kE P "NO_BASE" 947 (.int 5 946),kE P "WITH_SIB" 949 (.int 4 948),kE P "FROM_RIP" 951 (.int 5 950),kE P "unpack_three" 958 (.ref 615),kE P "unpack_modrm" 965 (.ref 622),kE P "unpack_sib" 972 (.ref 629),kE P "octet_at" 980 (.ref 636),kE P "disp_width_of" 989 (.ref 643),kE P "read_modrm" 1003 (.ref 650),kE P "memory_of" 1021 (.ref 657),kE P "FS" 1025 (.int 100 1024),kE P "GS" 1027 (.int 101 1026),kE P "DATA_prefixes" 1029 (.int 102 1028),kE P "REPNE" 1031 (.int 242 1030),kE P "REP" 1033 (.int 243 1032),kE P "LOCK" 1035 (.int 240 1034),kE P "rex_bits" 1042 (.ref 664),kE P "is_rex" 1049 (.ref 671),kE P "segment_octet" 1056 (.ref 678),kE P "sort_of" 1063 (.ref 685),kE P "Prefixes" 1140 (.ref 738),kE P "with_rex" 1148 (.ref 749),kE P "with_legacy" 1158 (.ref 756),kE P "read_prefixes" 1168 (.ref 763),kE P "MOST_OCTETS" 1172 (.int 15 1171),kE P "ESCAPE" 1174 (.int 15 1173),kE P "DATA_decoder" 1176 (.int 102 1175),kE P "NOP" 1178 (.int 144 1177),kE P "REGISTER" 1180 (.int 3 1179),kE P "Decoded" 1222 (.ref 787),kE P "Frame" 1312 (.ref 843),kE P "fits_size" 1320 (.ref 854),kE P "fits_mod" 1326 (.ref 859),kE P "fits_nop" 1335 (.ref 866),kE P "picked" 1344 (.ref 873),kE P "register_at" 1353 (.ref 880),kE P "reg_operand" 1362 (.ref 887),kE P "rm_operand" 1373 (.ref 894),kE P "plus_operand" 1382 (.ref 901),kE P "fixed_operand" 1389 (.ref 908),kE P "field_at" 1399 (.ref 915),kE P "written_operand" 1408 (.ref 922),kE P "operands_of" 1422 (.ref 929),kE P "check_used" 1428 (.ref 934),kE P "prefix_word" 1438 (.ref 941),kE P "read_frame" 1444 (.ref 946),kE P "decode" 1459 (.ref 954),kE P "decode_or_none" 1469 (.ref 962),kE P "is_instruction" 1478 (.ref 969),kE P "decode_all" 1489 (.ref 976),kE P "lengths" 1495 (.ref 981),kE P "anatomy" 1514 (.ref 989),kE P "jump_forms" 1525 (.ref 996),kE P "call_forms" 1531 (.ref 1003),kE P "loop_forms" 1537 (.ref 1010),kE P "trap_forms" 1543 (.ref 1017),kE P "carry_forms" 1549 (.ref 1024),kE P "string_forms" 1558 (.ref 1031),kE P "nop_forms" 1564 (.ref 1038),kE P "flow_forms" 1571 (.ref 1045),kE P "codes_of" 1579 (.ref 1050),kE P "InstructionSet" 1675 (.ref 1121),kE P "sized_forms" 1695 (.ref 1133),kE P "both_ways" 1704 (.ref 1140),kE P "mov_forms" 1711 (.ref 1147),kE P "lea_forms" 1719 (.ref 1154),kE P "accumulator" 1726 (.ref 1161),kE P "xchg_forms" 1734 (.ref 1168),kE P "stack_forms" 1741 (.ref 1175),kE P "_law_pen" 1749 (.ref 1180),kE P "_law_draw" 1762 (.ref 1187),kE P "_law_pick" 1770 (.ref 1194),kE P "_law_codes" 1780 (.ref 1201),kE P "_law_row" 1792 (.ref 1208),kE P "_law_immediate" 1802 (.ref 1215),kE P "_law_parts" 1808 (.ref 1220),kE P "_law_heard" 1817 (.ref 1227),kE P "_law_worth" 1823 (.ref 1232),kE P "_law_bears" 1831 (.ref 1239),kE P "_law_anatomy_right" 1837 (.ref 1244),kE P "_law_row_right" 1843 (.ref 1249),kE P "law" 1849 (.ref 1254)] 135,
 kD 45 [kE P "__module__" 203 (SV "octetmint.basics" 194),kE P "__firstlineno__" 207 (.int 5 206),kE P "__init__" 216 (.ref 36),kE P "told" 223 (.ref 43),kE P "__static_attributes__" 226 (.ref 44),kE P "__weakref__" 228 (.ref 47),kE P "__doc__" 229 .none] 3,
 kD 58 [kE P "__module__" 241 (SV "octetmint.basics" 194),kE P "__firstlineno__" 245 (.int 16 244),kE P "__static_attributes__" 246 (.ref 57),kE P "__doc__" 247 .none] 2,
 kD 70 [kE P "__module__" 257 (SV "octetmint.basics" 194),kE P "__firstlineno__" 261 (.int 18 260),kE P "__static_attributes__" 262 (.ref 69),kE P "__doc__" 263 .none] 2,
 kD 82 [kE P "__module__" 273 (SV "octetmint.basics" 194),kE P "__firstlineno__" 277 (.int 20 276),kE P "__static_attributes__" 278 (.ref 81),kE P "__doc__" 279 .none] 2,
 kD 233 [kE P "__module__" 395 (SV "octetmint.forms" 323),kE P "__firstlineno__" 399 (.int 81 398),kE P "__init__" 410 (.ref 189),kE P "told" 417 (.ref 196),kE P "slots" 424 (.ref 203),kE P "has_modrm" 431 (.ref 210),kE P "has_plus" 438 (.ref 217),kE P "memory_size" 445 (.ref 224),kE P "needs_memory" 452 (.ref 231),kE P "__static_attributes__" 463 (.ref 232),kE P "__dict__" 465 (.ref 235),kE P "__weakref__" 467 (.ref 236),kE P "__doc__" 468 .none] 4,
 kD 289 [kE P "__module__" 494 (SV "octetmint.operands" 485),kE P "__firstlineno__" 498 (.int 119 497),kE P "__init__" 506 (.ref 266),kE P "told" 513 (.ref 273),kE P "symbol" 520 (.ref 280),kE P "registers" 527 (.ref 287),kE P "__static_attributes__" 529 (.ref 288),kE P "__dict__" 531 (.ref 291),kE P "__weakref__" 533 (.ref 292),kE P "__doc__" 534 .none] 4,
 kD 324 [kE P "__module__" 544 (SV "octetmint.operands" 485),kE P "__firstlineno__" 548 (.int 132 547),kE P "__init__" 556 (.ref 308),kE P "told" 563 (.ref 315),kE P "registers" 570 (.ref 322),kE P "__static_attributes__" 572 (.ref 323),kE P "__doc__" 573 .none] 2,
 kD 358 [kE P "__module__" 583 (SV "octetmint.operands" 485),kE P "__firstlineno__" 587 (.int 143 586),kE P "__init__" 597 (.ref 342),kE P "told" 604 (.ref 349),kE P "symbol" 611 (.ref 356),kE P "__static_attributes__" 614 (.ref 357),kE P "__doc__" 615 .none] 2,
 kD 399 [kE P "__module__" 625 (SV "octetmint.operands" 485),kE P "__firstlineno__" 629 (.int 155 628),kE P "__init__" 639 (.ref 376),kE P "told" 646 (.ref 383),kE P "symbol" 653 (.ref 390),kE P "target" 661 (.ref 397),kE P "__static_attributes__" 664 (.ref 398),kE P "__doc__" 665 .none] 2,
 kD 452 [kE P "__module__" 675 (SV "octetmint.operands" 485),kE P "__firstlineno__" 679 (.int 170 678),kE P "__init__" 696 (.ref 417),kE P "told" 705 (.ref 424),kE P "symbol" 712 (.ref 431),kE P "registers" 718 (.ref 436),kE P "is_rip" 725 (.ref 443),kE P "is_absolute" 732 (.ref 450),kE P "__static_attributes__" 740 (.ref 451),kE P "__doc__" 741 .none] 2,
 kD 505 [kE P "__module__" 751 (SV "octetmint.operands" 485),kE P "__firstlineno__" 755 (.int 198 754),kE P "__init__" 766 (.ref 470),kE P "told" 772 (.ref 475),kE P "memory_at" 781 (.ref 482),kE P "memory" 789 (.ref 489),kE P "symbols" 796 (.ref 496),kE P "replaced" 805 (.ref 503),kE P "__static_attributes__" 809 (.ref 504),kE P "__dict__" 811 (.ref 507),kE P "__weakref__" 813 (.ref 508),kE P "__doc__" 814 .none] 4,
 kD 561 [kE P "__module__" 836 (SV "octetmint.registers" 817),kE P "__firstlineno__" 840 (.int 229 839),kE P "__init__" 851 (.ref 524),kE P "code" 858 (.ref 531),kE P "is_extended" 865 (.ref 538),kE P "is_high" 872 (.ref 545),kE P "needs_rex" 879 (.ref 552),kE P "told" 886 (.ref 559),kE P "__static_attributes__" 891 (.ref 560),kE P "__dict__" 893 (.ref 563),kE P "__weakref__" 895 (.ref 564),kE P "__doc__" 896 .none] 4,
 kD 737 [kE P "__module__" 1071 (SV "octetmint.prefixes" 1022),kE P "__firstlineno__" 1075 (.int 362 1074),kE P "__init__" 1091 (.ref 700),kE P "told" 1098 (.ref 707),kE P "has_rex" 1105 (.ref 714),kE P "bits" 1112 (.ref 721),kE P "count" 1119 (.ref 728),kE P "octets" 1127 (.ref 735),kE P "__static_attributes__" 1133 (.ref 736),kE P "__dict__" 1135 (.ref 739),kE P "__weakref__" 1137 (.ref 740),kE P "__doc__" 1138 .none] 4,
 kD 786 [kE P "__module__" 1188 (SV "octetmint.decoder" 1169),kE P "__firstlineno__" 1192 (.int 446 1191),kE P "__init__" 1203 (.ref 777),kE P "told" 1210 (.ref 784),kE P "__static_attributes__" 1215 (.ref 785),kE P "__dict__" 1217 (.ref 788),kE P "__weakref__" 1219 (.ref 789),kE P "__doc__" 1220 .none] 4,
 kD 842 [kE P "__module__" 1230 (SV "octetmint.decoder" 1169),kE P "__firstlineno__" 1234 (.int 456 1233),kE P "__init__" 1245 (.ref 805),kE P "has_rex" 1252 (.ref 812),kE P "is_narrow" 1259 (.ref 819),kE P "take_code" 1268 (.ref 826),kE P "take_must" 1277 (.ref 833),kE P "take_modrm" 1286 (.ref 840),kE P "__static_attributes__" 1305 (.ref 841),kE P "__dict__" 1307 (.ref 844),kE P "__weakref__" 1309 (.ref 845),kE P "__doc__" 1310 .none] 4,
 kD 1120 [kE P "__module__" 1587 (SV "octetmint.iset" 1572),kE P "__firstlineno__" 1591 (.int 691 1590),kE P "__init__" 1602 (.ref 1064),kE P "told" 1608 (.ref 1069),kE P "find" 1616 (.ref 1076),kE P "has" 1624 (.ref 1083),kE P "at" 1634 (.ref 1090),kE P "names" 1641 (.ref 1097),kE P "codes" 1648 (.ref 1104),kE P "counts" 1656 (.ref 1111),kE P "memory_sizes" 1664 (.ref 1118),kE P "__static_attributes__" 1668 (.ref 1119),kE P "__dict__" 1670 (.ref 1122),kE P "__weakref__" 1672 (.ref 1123),kE P "__doc__" 1673 .none] 4]
noncomputable def Kf:Frag:=(UK++UL)++(OI P++(funcs.map (·.1)++funcs.map (·.2)))
end
noncomputable def addrs:List Nat:=[46,59,71,83,234,290,325,359,400,453,506,562,738,787,843,1121,29,184,335,369,410,463,693,947,955,982,1126,2,3,45,58,70,82,233,289,324,358,399,452,505,561,737,786,842,1120,21,36,43,92,99,106,113,120,127,134,141,148,155,162,169,176,189,196,203,210,217,224,231,245,252,266,273,280,287,308,315,322,342,349,356,376,383,390,397,417,424,431,436,443,450,470,475,482,489,496,503,524,531,538,545,552,559,573,580,587,594,601,608,615,622,629,636,643,650,657,664,671,678,685,700,707,714,721,728,735,749,756,763,777,784,805,812,819,826,833,840,854,859,866,873,880,887,894,901,908,915,922,929,934,941,946,954,962,969,976,981,989,996,1003,1010,1017,1024,1031,1038,1045,1050,1064,1069,1076,1083,1090,1097,1104,1111,1118,1133,1140,1147,1154,1161,1168,1175,1180,1187,1194,1201,1208,1215,1220,1227,1232,1239,1244,1249,1254,20,35,42,91,98,105,112,119,126,133,140,147,154,161,168,175,188,195,202,209,216,223,230,244,251,265,272,279,286,307,314,321,341,348,355,375,382,389,396,416,423,430,435,442,449,469,474,481,488,495,502,523,530,537,544,551,558,572,579,586,593,600,607,614,621,628,635,642,649,656,663,670,677,684,699,706,713,720,727,734,748,755,762,776,783,804,811,818,825,832,839,853,858,865,872,879,886,893,900,907,914,921,928,933,940,945,953,961,968,975,980,988,995,1002,1009,1016,1023,1030,1037,1044,1049,1063,1068,1075,1082,1089,1096,1103,1110,1117,1132,1139,1146,1153,1160,1167,1174,1179,1186,1193,1200,1207,1214,1219,1226,1231,1238,1243,1248,1253]
noncomputable def bt(l:List Obj):BT:=(l.foldl (fun(t:BT×Nat) o=>(t.1.ins t.2 o,t.2+1)) (BT.nil,0)).1
noncomputable def rz(H:Heap):BT:=bt H.objs.toList
structure Seen where
 f:Flow
 n:Nat
 life:Life
 gens:Array GenState
 drawn:Drawn
 toks:Nat
 os:OsState
 ok:Bool
 blt:Option Str×List (Str×Value)
noncomputable def zy(o:Obj):Bool:=match o with|⟨_,_,.freed,_⟩=>false|_=>true
noncomputable def vi(p:Program)(H:Heap)(s:SharedT):Bool:=
 let h:=absHeap s.tree s.n s.life
 staticsOk (importedModules p.main.body) H h&&namesBound p h&&gensDone s.abs&&laidKept H h&&h.accountedOkI (importedModules p.main.body)&&h.isNs mainGlobals&&h.isNs builtinsNs&&h.noLimitOk&&h.noDigitsOk&&h.bmainOk
noncomputable def runAll(H:Heap)(dr:Drawn)(tk:Nat)(tb:String->Option Builtin)(p:Program)(w:World)(os:OsState):Option (Seen×List (Option Obj)):=
 match segRunT tb p w 11 (some (.ref 6)) 0 9000 ⟨rz H,11,H.life,#[],dr,tk,os⟩ (topStub p)with
 |some (f,s,_,_)=>some (⟨f,s.n,s.life,s.gens,s.drawn,s.toks,s.os,vi p H s,(absHeap s.tree s.n s.life).bltView⟩,addrs.map s.tree.get)
 |none=>none
noncomputable def K0:Frag:=Kf w0.params
end
section
set_option maxHeartbeats 0
open PySem PySem.W PyProof.Rows PySem.Calls
noncomputable def fnOf(K:Frag)(a:Nat):Option FuncData:=match K.lookup a with
 |some ⟨_,_,.func fd,_⟩=>some fd
 |_=>none
noncomputable def tK:Value->Option T
 | .none=>some .none
 | .bool b=>some (.bool b)
 | .int i _=>some (.int i)
 | .str s _=>bif bC s then some (.str s)else none
 | .ref a=>some (.gl a)
 | .builtin n=>some (.bi n)
 | .type n=>some (.ty n)
 |_=>none
noncomputable def zz(K:Frag):Value->Option (List Value)
 | .none=>some []
 | .ref t=>(match K.lookup t with
  |some ⟨_,_,.seq vs _,_⟩=>some vs.toList
  |_=>none)
 |_=>none
noncomputable abbrev TT:=Arguments×FuncBody×Scope×Addr×Addr×List (Str×Addr)×Bool×Option (List (Option T))
noncomputable def OJ(K:Frag)(a:Nat):Option TT:=(fnOf K a).map fun fd=>(fd.params,fd.body,fd.scope,fd.globals,fd.builtins,fd.closure,codeIn K fd.code fd.qualname,(zz K fd.defaults).map (·.map tK))
noncomputable def OK(st:Stmt)(ds:List T):TT:=(⟨[],(fP st).args,none,[],[],none,(fP st).defaults⟩,.stmts (fB st),fS st,mainGlobals,builtinsNs,[],true,some (ds.map some))
noncomputable abbrev JS:=Bool×Bool×Option (Option Value)×Option (Option Value)×Bool
noncomputable abbrev JT:=Bool×Option (Option Value)×Bool×Option (Option Value)×Bool×Option CFound
noncomputable abbrev UM:=Bool×Option (Option Value)×Option Value×Option (Option Value)
noncomputable def D6(K:Frag)(C:Nat)(n:Str):JS:=(plainGet K C n,hasDictIn K C,findIn K (.ref C) n,findIn K (.ref C) "__setattr__",plainOver K C)
noncomputable def D7(K:Frag)(C:Nat)(n:Str)(f:Nat):JT:=(plainGet K C n,findIn K (.ref C) n,isFn K (.ref f),specialIn K (.ref C) "__getattribute__",readsIn K C (.type "type"),findCls K (.ref C) (.type "type") n)
noncomputable def UN(K:Frag)(C f:Nat):UM:=(makesIn K C,findIn K (.ref C) "__init__",typeIn K (.ref f),specialIn K (.ref C) "__call__")
noncomputable abbrev D8:JS:=(true,true,some none,some (some (.builtin "object.__setattr__")),true)
noncomputable abbrev D9(f:Nat):JT:=(true,some (some (.ref f)),true,some (some (.builtin "type.__getattribute__")),true,some (.val (.ref f)))
noncomputable abbrev XN(f:Nat):UM:=(true,some (some (.ref f)),some (.type "function"),some (some (.builtin "type.__call__")))
noncomputable def iU(K:Frag)(x:Str):Option Value:=match K.lookup mainGlobals with
 |some ⟨_,_,.dict es _,_⟩=>nsFind es x
 |_=>none
noncomputable def mN:Value->Bool
 | .str _ _=>true
 |_=>false
noncomputable def gK(K:Frag):Bool:=match K.lookup mainGlobals with
 |some ⟨_,_,.dict es _,_⟩=>es.toList.all fun e=>mN e.key
 |_=>false
noncomputable def vj(K:Frag)(x:Str):Option T:=bn (iU K x) tK (bif sEq x (.ofString "__name__")then none else ob (bootBuiltins x) tK)
noncomputable abbrev jx:List Value:=[.ref 46,.type "Exception",.type "BaseException",.type "object"]
noncomputable abbrev nW:Obj:=excClassObj (Str.ofString "DecodeError") (Str.ofString "DecodeError") ad 82 [.ref 46] jx true [] [] false none none (some (.ref 74)) none (some (.str (Str.ofString "DecodeError") 266)) (some (.str (Str.ofString "DecodeError") 274)) (some (.bool true)) "Exception.__new__"
noncomputable abbrev rA:Str:=Str.ofString "law"
noncomputable abbrev OL:Obj:=⟨.type "function",none,.func {name:=rA,qualname:=rA,params:=fP (aR pW 136),body:= .stmts (fB (aR pW 136)),scope:=fS (aR pW 136),globals:=3,closure:=[],defaults:= .none,kwdefaults:= .none,pyModule:= .str (Str.ofString "law_nn0090_01") 1742,code:= .ref 1253},#[]⟩
structure View where
 fns:List (Option TT)
 UO:List (List JS)
 UP:List (List JT)
 YJ:List UM
 YK:List (Option T)
 keys:Bool
 err:Option Obj
 init:Option TT
 OM:Option (Option Value)×Option (Option Value)×Option (Option Value)×Option (Option Value)
 fn:Option Value
 base:Option CFound
 YL:Option Obj
 main:Option Value
noncomputable abbrev TU:Stmt:=lU pW 2 0
noncomputable def view(K:Frag):View:=⟨rows.map (fun r=>OJ K (zw r)),gB.map (fun r=>r.2.map (D6 K r.1)),meths.map (fun r=>r.2.map fun n=>D7 K r.1 n.1 n.2),makes.map (fun r=>UN K r.1 r.2.1),rn.map (fun r=>vj K r.1),gK K,K.lookup ad,OJ K 36,
 (findIn K (.ref ad) "__setattr__",findIn K (.ref ad) "what",findIn K (.ref ad) "at",findIn K (.ref ad) "__init__"),typeIn K (.ref 36),findCls K (.type "Exception") (.type "type") "__init__",K.lookup 1254,iU K rA⟩
noncomputable def want:View:=⟨rows.map (fun r=>some (OK (tI pW r) (D5 r))),gB.map (fun r=>r.2.map fun _=>D8),
 meths.map (fun r=>r.2.map fun n=>D9 n.2),makes.map (fun r=>XN r.2.1),rn.map (fun r=>some r.2),true,some nW,some (OK TU [.none]),
 (some (some (.builtin "object.__setattr__")),some none,some none,some (some (.ref 36))),some (.type "function"),some (.val (.builtin "Exception.__init__")),some OL,some (.ref 1254)⟩
lay_quick Mine.runAll
end
section
set_option backward.match.sparseCases true
set_option bootstrap.genMatcherCode true
set_option genInjectivity true
set_option genSizeOf true
set_option maxHeartbeats 0
open PySem PySem.W PyProof.Rows PySem.Calls
noncomputable abbrev told(w:World)(os:OsState):Seen:=⟨.ret .none,1255,(boot_heap w.params).life,#[],boot_drawn,1850,os,true,bltViewBooted⟩
noncomputable def vk(w:World)(os:OsState):Option (Seen×List (Option Obj)):=some (told w os,(Kf w.params).map fun x=>some x.2)
theorem JU:∀(w:World) (os:OsState),PySem.W.Fast.tw11964755741883861546 (boot_heap w.params) boot_drawn boot_toks PySem.W.Fast.tw14364793385576792824 pW w os=vk w os:=by
 intro w os
 rfl'
theorem UQ(w:World)(os:OsState):runAll (boot_heap w.params) boot_drawn boot_toks treeTable pW w os=vk w os:=by
 rw[PySem.W.Fast.te11964755741883861546,PySem.W.Fast.te14364793385576792824]
 exact JU w os
theorem seen(P:Params):view (Kf P)=want:=by rfl'
end
section
set_option autoImplicit true
set_option genInjectivity true
set_option genSizeOf true
open PySem PySem.W PyProof.Rows PySem.Calls
noncomputable abbrev Mp:=Addr->Option Obj
noncomputable def Sub(B B' :Mp):Prop:=∀b o,B b=some o->B' b=some o
theorem Sub.refl:Sub B B:=fun _ _ e=>e
theorem Sub.trans(h:Sub B C)(k:Sub C D):Sub B D:=fun b o e=>k b o (h b o e)
theorem Sub.none(k:Sub B C)(h:C b=none):B b=none:=by
 cases e:B b with
 |none=>rfl
 |some o=>exact nomatch (k b o e).symm.trans h
theorem nn{α:Type}{x:α}{P:Prop}(h:(none:Option α)=some x):P:=nomatch h
theorem ft{P:Prop}(h:false=true):P:=absurd h Bool.false_ne_true
theorem sn{α:Type}{x:α}{P:Prop}{o:Option α}(h:o=some x)(k:o=none):P:=nomatch h.symm.trans k
theorem ae{α β:Type}{o:Option α}{f:α->Option β}{z:β}{G:Prop}(h:ob o f=some z)(k:∀a,o=some a->f a=some z->G):G:=match o,h,k with
 |none,h,_=>nn h
 |some a,h,k=>k a rfl h
theorem cz{α β:Type}{o:Option α}{f:α->β}{d:β}{P:β->Prop}(h1:∀a,o=some a->P (f a))(h2:P d):P (bn o f d):=match o,h1 with
 |none,_=>h2
 |some a,h1=>h1 a rfl
theorem aE{β:Type}{b:Bool}{m:Option β}{z:β}{G:Prop}(h:(bif b then m else none)=some z)(k:b=true->m=some z->G):G:=match b,h,k with
 |false,h,_=>nn h
 |true,h,k=>k rfl h
theorem am{b c:Bool}{G:Prop}(h:(b&&c)=true)(k:b=true->c=true->G):G:=k (Bool.and_eq_true_iff.mp h).1 (Bool.and_eq_true_iff.mp h).2
theorem dW{b:Bool}(h:(!b)=true):b=false:=match b,h with
 |false,_=>rfl
noncomputable abbrev listAt(vs:List Value)(n:Nat):Obj:=⟨.type "list",none,.seq (List.toArray vs) n,#[]⟩
noncomputable abbrev jy(vs:List Value)(n:Nat):Obj:=⟨.type "tuple",none,.seq (List.toArray vs) n,#[]⟩
noncomputable abbrev dictAt(es:List DictEntry)(n:Nat):Obj:=⟨.type "dict",none,.dict (List.toArray es) n,#[]⟩
noncomputable abbrev kz(C d:Addr):Obj:=⟨.ref C,some d,.plain,#[]⟩
noncomputable abbrev Ip(n:Nat)(t u w:Tok):Obj:=⟨.type "range",none,.fields #[.int 0 t,.int n u,.int 1 w],#[]⟩
noncomputable def keyHash(t:T)(h:Int):Prop:=bn (oh t) (fun xs=>∃ks,intsOf xs=some ks/\h=reduceHash (Builtin.Tuple.tupleHashOf (ks.map hashInt))) (bn (tB t) (fun x=>h=hashStr w0 x) False)
noncomputable abbrev fx(n:Str)(e:DictEntry):Prop:=∃t,e.key= .str n t
mutual
noncomputable def ao(B:Mp):T->Value->Prop
 | .none,v=>v= .none
 | .bool b,v=>v= .bool b
 | .int i,v=>∀G:Value->Prop,(∀t,G (.int i t))->G v
 | .str s,v=>∀G:Value->Prop,(∀t,bC s=true->G (.str s t))->G v
 | .bytes b,v=>∀G:Value->Prop,(∀t,b.length<=big->G (.bytes b.toArray t))->G v
 | .tup xs,v=>∀G:Value->Prop,(∀a vs n,B a=some (jy vs n)->xs.length<=big->bN B xs vs->G (.ref a))->G v
 | .lst xs,v=>∀G:Value->Prop,(∀a vs n,B a=some (listAt vs n)->xs.length<=big->bN B xs vs->G (.ref a))->G v
 | .dict es,v=>∀G:Value->Prop,(∀a vs n,B a=some (dictAt vs n)->es.length<=big->(es.map (·.1)).Nodup->zA B es vs->G (.ref a))->G v
 | .inst c fs,v=>∀G:Value->Prop,(∀a d vs n,B a=some (kz c d)->B d=some (dictAt vs n)->fs.length<=100->zB B fs vs->G (.ref a))->G v
 | .gl a,v=>v= .ref a
 | .bi n,v=>v= .builtin n
 | .ty n,v=>v= .type n
 | .H5 n,v=>∀G:Value->Prop,(∀a t u w,B a=some (Ip n t u w)->n<=big->G (.ref a))->G v
noncomputable def bN(B:Mp):List T->List Value->Prop
 |[],vs=>∀G:List Value->Prop,G []->G vs
 |x::xs,vs=>∀G:List Value->Prop,(∀v r,ao B x v->bN B xs r->G (v::r))->G vs
noncomputable def zB(B:Mp):List (Str×T)->List DictEntry->Prop
 |[],vs=>∀G:List DictEntry->Prop,G []->G vs
 |(n,x)::xs,vs=>∀G:List DictEntry->Prop,(∀e r,fx n e->ao B x e.val->zB B xs r->G (e::r))->G vs
noncomputable def zA(B:Mp):List (T×T)->List DictEntry->Prop
 |[],vs=>∀G:List DictEntry->Prop,G []->G vs
 |(k,x)::xs,vs=>∀G:List DictEntry->Prop,(∀e r,ao B k e.key->keyHash k e.hash->ao B x e.val->zA B xs r->G (e::r))->G vs
end
noncomputable def bE(B:Mp)(σ:List Addr):V->Value->Prop
 | .t x,v=>ao B x v
 | .loc i,v=>∀G:Value->Prop,(∀a,σ[i]? =some a->G (.ref a))->G v
section
variable{α β γ:Type}{P Q:α->β->Prop}{x:α}{xs zs:List α}
noncomputable def av(P:α->β->Prop):List α->List β->Prop
 |[],ys=>∀G:List β->Prop,G []->G ys
 |x::xs,ys=>∀G:List β->Prop,(∀y r,P x y->av P xs r->G (y::r))->G ys
theorem av.nil:av P [] []:=fun _ h=>h
theorem av.cons{y:β}{ys:List β}(h:P x y)(t:av P xs ys):av P (x::xs) (y::ys):=fun _ k=>k y ys h t
theorem av.imp(k:∀x y,P x y->Q x y):∀{ys:List β},av P xs ys->av Q xs ys:=by
 induction xs with
 |nil=>exact id
 |cons x xs ih=>exact fun h G g=>h G fun y r h1 h2=>g y r (k _ _ h1) (ih h2)
theorem av.len:∀{ys:List β},av P xs ys->ys.length=xs.length:=by
 induction xs with
 |nil=>exact fun h=>h (fun ys=>ys.length=0) rfl
 |cons x xs ih=>exact fun h=>h (fun ys=>ys.length=_) fun y r _ h2=>congrArg Nat.succ (ih h2)
theorem av.append{ws:List β}(k:av P zs ws):∀{ys:List β},av P xs ys->av P (xs++zs) (ys++ws):=by
 induction xs with
 |nil=>exact fun h=>h (fun ys=>av P zs (ys++ws)) k
 |cons x xs ih=>exact fun h=>h (fun ys=>av P (x::xs++zs) (ys++ws)) fun y r h1 h2=> .cons h1 (ih h2)
theorem av.at{G:Prop}{y:β}:∀{ys:List β} {i:Nat},av P xs ys->ys[i]? =some y->(∀x,xs[i]? =some x->P x y->G)->G:=by
 induction xs with
 |nil=>exact fun h=>h (fun ys=>ys[_]? =some y->_) fun e=>nomatch e
 |cons x xs ih=>
  refine fun{ys i} h=>h (fun ys=>ys[i]? =some y->_) fun z r h1 h2=> ?_
  induction i with
  |zero=>exact fun e k=>k x rfl (Option.some.inj e▸h1)
  |succ i=>exact(ih h2:)
theorem av.fst{G:Prop}{x:α}:∀{ys:List β} {i:Nat},av P xs ys->xs[i]? =some x->(∀y,ys[i]? =some y->P x y->G)->G:=by
 induction xs with
 |nil=>exact fun h e=>nomatch e
 |cons z xs ih=>
  refine fun{ys i} h=>h (fun ys=>(z::xs)[i]? =some x->(∀y,ys[i]? =some y->P x y->G)->G) fun y r h1 h2=> ?_
  induction i with
  |zero=>exact fun e k=>k y rfl (Option.some.inj e▸h1)
  |succ i=>exact(ih h2:)
end
structure cm{α β:Type}(K:α->DictEntry->Prop)(P:β->Value->Prop)(p:α×β)(e:DictEntry):Prop where
 key:K p.1 e
 val:P p.2 e.val
theorem cm.imp{α β γ:Type}{f:β->γ}{K K' :α->DictEntry->Prop}{P:β->Value->Prop}{Q:γ->Value->Prop}(k:∀a e,K a e->K' a e)(p:∀a v,P a v->Q (f a) v){x:α×β}{e:DictEntry}(h:cm K P x e):cm K' Q (x.1,f x.2) e:=⟨k _ _ h.key,p _ _ h.val⟩
structure KD(B:Mp)(k:T)(e:DictEntry):Prop where
 rep:ao B k e.key
 hash:keyHash k e.hash
theorem av.map{α β γ:Type}{P:α->β->Prop}{Q:γ->β->Prop}{f:α->γ}(k:∀x y,P x y->Q (f x) y){xs:List α}:∀{ys:List β},av P xs ys->av Q (xs.map f) ys:=by
 induction xs with
 |nil=>exact id
 |cons x xs ih=>exact fun h G g=>h G fun y r h1 h2=>g y r (k _ _ h1) (ih h2)
theorem ba{xs:List T}:∀{vs:List Value},bN B xs vs↔av (ao B) xs vs:=by
 induction xs with
 |nil=>exact Iff.rfl
 |cons x xs ih=>exact⟨fun h G g=>h G fun v r h1 h2=>g v r h1 (ih.1 h2),fun h G g=>h G fun v r h1 h2=>g v r h1 (ih.2 h2)⟩
theorem mO{xs:List (Str×T)}:∀{vs:List DictEntry},zB B xs vs↔av (cm fx (ao B)) xs vs:=by
 induction xs with
 |nil=>exact Iff.rfl
 |cons x xs ih=>exact⟨fun h G g=>h G fun v r h1 h3 h2=>g v r ⟨h1,h3⟩ (ih.1 h2),fun h G g=>h G fun v r h1 h2=>g v r h1.key h1.val (ih.2 h2)⟩
theorem jz{xs:List (T×T)}:∀{vs:List DictEntry},zA B xs vs↔av (cm (KD B) (ao B)) xs vs:=by
 induction xs with
 |nil=>exact Iff.rfl
 |cons x xs ih=>exact⟨fun h G g=>h G fun v r h1 h4 h3 h2=>g v r ⟨⟨h1,h4⟩,h3⟩ (ih.1 h2),fun h G g=>h G fun v r h1 h2=>g v r h1.key.rep h1.key.hash h1.val (ih.2 h2)⟩
noncomputable def fy(M B:Mp)(P:V->Value->Prop)(s:Sh)(a:Addr):Prop:=∀G:Prop,match s with
 | .lst xs=>(∀vs n,M a=some (listAt vs n)->xs.length<=big->av P xs vs->G)->G
 | .tup xs=>(∀vs n,M a=some (jy vs n)->xs.length<=big->av P xs vs->G)->G
 | .dict es=>(∀vs n,M a=some (dictAt vs n)->es.length<=big->(es.map (·.1)).Nodup->av (cm (KD B) P) es vs->G)->G
 | .inst c fs=>(∀d vs n,M a=some (kz c d)->M d=some (dictAt vs n)->fs.length<=100->av (cm fx P) fs vs->G)->G
 |_=>G->G
noncomputable def xl(M B:Mp)(P:V->Value->Prop)(v:Value):Sh->Prop
 | .at t=>ao B t v
 | .bad=>True
 |s=>∀G:Value->Prop,(∀a,fy M B P s a->G (.ref a))->G v
section
variable{P:V->Value->Prop}(k:∀x v,ao B x v->P (.t x) v)
include k
theorem ao.sh{t:T}{v:Value}(h:ao B t v):xl B B P v (UB t):=by
 cases t with
 |tup xs=>exact fun G g=>h G fun a vs n h1 h2 h3=>g a fun G g=>g vs n h1 (Nat.le_trans (Nat.le_of_eq (List.length_map _)) h2) ((ba.1 h3).map k)
 |lst xs=>exact fun G g=>h G fun a vs n h1 h2 h3=>g a fun G g=>g vs n h1 (Nat.le_trans (Nat.le_of_eq (List.length_map _)) h2) ((ba.1 h3).map k)
 |dict es=>exact fun G g=>h G fun a vs n h1 h2 h3 h4=>g a fun G g=>g vs n h1 (Nat.le_trans (Nat.le_of_eq (List.length_map _)) h2) (by unfold vF;rw[List.map_map];exact h3) ((jz.1 h4).map fun _ _ q=>q.imp (fun _ _ h=>h) k)
 |inst c fs=>exact fun G g=>h G fun a d vs n h1 h2 h3 h4=>g a fun G g=>g d vs n h1 h2 (Nat.le_trans (Nat.le_of_eq (List.length_map _)) h3) ((mO.1 h4).map fun _ _ q=>q.imp (fun _ _ h=>h) k)
 |_=>exact h
end
theorem fy.imp{P Q:V->Value->Prop}(m:Sub M M')(b:∀t v,ao B t v->ao B' t v)(p:∀x v,P x v->Q x v){s:Sh}{a:Addr}(h:fy M B P s a):fy M' B' Q s a:=by
 intro G
 induction s with
 |lst xs=>exact fun g=>h G fun vs n h1 h2 h3=>g vs n (m _ _ h1) h2 (h3.imp p)
 |tup xs=>exact fun g=>h G fun vs n h1 h2 h3=>g vs n (m _ _ h1) h2 (h3.imp p)
 |dict es=>exact fun g=>h G fun vs n h1 h2 h3 h4=>g vs n (m _ _ h1) h2 h3 (h4.imp fun _ _ q=>q.imp (f:=id) (fun _ _ h=>⟨b _ _ h.rep,h.hash⟩) p)
 |inst c fs=>exact fun g=>h G fun d vs n h1 h2 h3 h4=>g d vs n (m _ _ h1) (m _ _ h2) h3 (h4.imp fun _ _ q=>q.imp (f:=id) (fun _ _ h=>h) p)
 |_=>exact h G
theorem xl.imp{P Q:V->Value->Prop}(m:Sub M M')(b:∀t v,ao B t v->ao B' t v)(p:∀x v,P x v->Q x v){s:Sh}{v:Value}(h:xl M B P v s):xl M' B' Q v s:=by
 induction s with
 |«at» t=>exact b _ _ h
 |bad=>exact h
 |_=>exact fun G g=>h G fun a h=>g a (h.imp m b p)
end
section
set_option autoImplicit true
open PySem PySem.W PyProof.Rows PySem.Calls
theorem ao.mono(k:Sub B B'){t:T}:∀{v},ao B t v->ao B' t v:=by
 have:∀v,ao B t v->ao B' t v:=by
  refine T.rec (motive_1:=fun t=>∀v,ao B t v->ao B' t v) (motive_2:=fun t=>∀v,bN B t v->bN B' t v) (motive_3:=fun t=>∀v,zA B t v->zA B' t v) (motive_4:=fun t=>∀v,zB B t v->zB B' t v)
   (motive_5:=fun p=>(∀v,ao B p.1 v->ao B' p.1 v)/\∀v,ao B p.2 v->ao B' p.2 v) (motive_6:=fun p=>∀v,ao B p.2 v->ao B' p.2 v)
   (fun _ h=>h) (fun _ _ h=>h) (fun _ _ h=>h) (fun _ _ h=>h) (fun _ _ h=>h)
   (fun _ ih _ h G g=>h G fun a vs n h1 h2 h3=>g a vs n (k _ _ h1) h2 (ih _ h3))
   (fun _ ih _ h G g=>h G fun a vs n h1 h2 h3=>g a vs n (k _ _ h1) h2 (ih _ h3))
   (fun _ ih _ h G g=>h G fun a vs n h1 h2 h4 h3=>g a vs n (k _ _ h1) h2 h4 (ih _ h3))
   (fun _ _ ih _ h G g=>h G fun a d vs n h1 h4 h2 h3=>g a d vs n (k _ _ h1) (k _ _ h4) h2 (ih _ h3))
   (fun _ _ h=>h) (fun _ _ h=>h) (fun _ _ h=>h)
   (fun _ _ h G g=>h G fun a t u w h1 h2=>g a t u w (k _ _ h1) h2)
   (fun _ h=>h) (fun _ _ i1 i2 _ h G g=>h G fun v r h1 h2=>g v r (i1 _ h1) (i2 _ h2))
   (fun _ h=>h) (fun _ _ i1 i2 _ h G g=>h G fun v r h0 h3 h1 h2=>g v r (i1.1 _ h0) h3 (i1.2 _ h1) (i2 _ h2))
   (fun _ h=>h) (fun _ _ i1 i2 _ h G g=>h G fun v r h0 h1 h2=>g v r h0 (i1 _ h1) (i2 _ h2))
   (fun _ _ i1 i2=>⟨i1,i2⟩) (fun _ _ i2=>i2) t
 exact fun{v}=>this v
theorem bN.mono(k:Sub B B')(h:bN B xs vs):bN B' xs vs:=ba.2 ((ba.1 h).imp fun _ _ h=>ao.mono k h)
noncomputable def Sg(σ σ' :List Addr):Prop:=∀(i:Nat) (a:Addr),σ[i]? =some a->σ'[i]? =some a
theorem bE.mono(k:Sub B B')(g:Sg σ σ'):∀(x:V) (v:Value),bE B σ x v->bE B' σ' x v
 | .t x,v,h=>ao.mono k (t:=x) h
 | .loc i,v,h=>fun G z=>h G fun a e=>z a (g i a e)
noncomputable def Iq(B:Heap):Prop:=∀G:Prop,(∀o es ep e r y t,B.get? sysModules=some o->o.data= .dict es ep->es.toList=e::r->e.key=Value.str y t->G)->G
noncomputable def ON(B:Heap):Prop:=∀G:Prop,(∀mb,B.Ns builtinsNs mb->(∀x,x≠Str.ofString "__name__"->mb x=bootBuiltins x)->G)->G
structure Bs(B:Heap):Prop where
 tM:K0.In B
 Ir:B.NoLimit
 sys:Iq B
 blt:ON B
theorem Bs.up(h:Bs B)(k:B.StaysIn B'):Bs B' :=⟨h.tM.keeps k,h.Ir.keeps k,fun G g=>h.sys G fun o es ep e r y t q=>g o es ep e r y t (k _ _ q),fun G g=>h.blt G fun m q=>g m (q.keeps k)⟩
noncomputable def Plain(h:Heap)(a:Addr):Prop:=∀G:Prop,(∀o,h.get? a=some o->(∀vs,o.data≠.fields vs)->G)->G
noncomputable def et(fs:List Env):List Addr:=fs.filterMap (·.frame)
noncomputable def iy(ow:Addr->Option Nat)(h:Heap)(i:Nat):Mp:=fun a=>if ow a=some i then h.get? a else none
noncomputable def c9(M B:Mp)(P:V->Value->Prop)(x:Cell)(a:Addr):Prop:=match x with
 | .cg t=>ao B t (.ref a)
 |x=>fy M B P (XI x) a
theorem c9.imp{P Q:V->Value->Prop}(m:Sub M M')(b:∀t v,ao B t v->ao B' t v)(p:∀x v,P x v->Q x v){x:Cell}{a:Addr}(h:c9 M B P x a):c9 M' B' Q x a:=by
 induction x with
 |cg t=>exact b _ _ h
 |lst xs=>exact fy.imp (s:= .lst xs) m b p h
 |tup xs=>exact fy.imp (s:= .tup xs) m b p h
 |inst k xs=>exact fy.imp (s:= .inst k xs) m b p h
 |dict xs=>exact fy.imp (s:= .dict xs) m b p h
theorem da(k:∀b o,ow b=some i->h.get? b=some o->NN b=some i/\h'.get? b=some o):Sub (iy ow h i) (iy NN h' i):=fun b o e=>by
 unfold iy at e⊢
 split at e
 ·exact(if_pos (k b o ‹_› e).1).trans (k b o ‹_› e).2
 ·exact nn e
structure St(fs:List Env) where
 B:Mp
 σ:List Addr
 c:aa
 ow:Addr->Option Nat
 s:Shared
 base:∃H,Bs H/\Sub H.get? B
 stay:Sub B s.heap.get?
 kinds:∀e∈fs,e.scope.kind≠.module/\e.frame=some e.locals
 frames:∀a∈et fs,B a=none/\ow a=none/\Plain s.heap a
 own:∀a i,ow a=some i->B a=none/\Plain s.heap a
 len:σ.length=c.length
 cells:∀i x a,c[i]? =some x->σ[i]? =some a->c9 (iy ow s.heap i) B (bE B σ) x a
 gens:s.gens= #[]
noncomputable abbrev St.h(S:St fs):Mp:=S.s.heap.get?
noncomputable abbrev St.R(S:St fs):V->Value->Prop:=bE S.B S.σ
noncomputable abbrev St.Rs(S:St fs):List V->List Value->Prop:=av S.R
structure aQ(Z:List Addr)(S S' :St fs):Prop where
 bb:Sub S.B S'.B
 sg:Sg S.σ S'.σ
 cK:∀b o,S.ow b=none->b∉et fs->b∉Z->S.h b=some o->S'.h b=some o
 d8:∀b o,b∈et fs->b∉Z->S.h b=some o->∃sl,S'.h b=some {o with slots:=sl}
 live:∀b,b∉Z->S'.h b=none->S.h b=none
 keep:∀b o,b∉Z->S.ow b=none->S.h b=some o->S'.ow b=none/\(S.B b=none->S'.B b=none)
 os:S'.s.os=S.s.os
theorem aQ.refl{S:St fs}:aQ Z S S:=⟨.refl,fun _ _ e=>e,fun _ _ _ _ _ e=>e,fun _ o _ _ e=>⟨o.slots,e⟩,fun _ _ e=>e,fun _ _ _ h _=>⟨h,id⟩,rfl⟩
theorem aQ.trans{S S' xm:St fs}(x:aQ Z S S')(y:aQ Z S' xm):aQ Z S xm where
 bb:=x.bb.trans y.bb
 sg:=fun i a e=>y.sg i a (x.sg i a e)
 cK:=fun b o h1 h2 h3 e=>have e' :=x.cK b o h1 h2 h3 e;y.cK b o (x.keep b o h3 h1 e).1 h2 h3 e'
 d8:=fun b o h1 h2 e=>(x.d8 b o h1 h2 e).elim fun sl e1=>(y.d8 b _ h1 h2 e1).elim fun OO e2=>⟨OO,e2⟩
 live:=fun b z e=>x.live b z (y.live b z e)
 keep:=fun b o z h1 e=>by
  cases q:S'.h b with
  |none=>exact nomatch e.symm.trans (x.live b z q)
  |some o' =>exact have k:=x.keep b o z h1 e;have z:=y.keep b o' z k.1 q;⟨z.1,fun h=>z.2 (k.2 h)⟩
 os:=y.os.trans x.os
theorem aQ.zC{S S' :St fs}(x:aQ Z S S')(k:∀b∈Z,b∈Z'):aQ Z' S S' :=⟨x.bb,x.sg,fun b o h1 h2 h3 e=>x.cK b o h1 h2 (fun q=>h3 (k b q)) e,fun b o h1 h2 e=>x.d8 b o h1 (fun q=>h2 (k b q)) e,fun b z=>x.live b fun q=>z (k b q),fun b o z=>x.keep b o fun q=>z (k b q),x.os⟩
theorem aQ.wide{S S' :St fs}(x:aQ [] S S'):aQ Z S S' :=x.zC fun _ h=>nomatch h
theorem aQ.R{S S' :St fs}(x:aQ Z S S'){u:V}{v:Value}(r:S.R u v):S'.R u v:=bE.mono x.bb x.sg _ _ r
theorem aQ.Rs{S S' :St fs}(x:aQ Z S S'){u:List V}{v:List Value}(r:S.Rs u v):S'.Rs u v:=r.imp (bE.mono x.bb x.sg)
noncomputable def St.Al(S:St fs)(b:Addr):Prop:=S.B b=none/\S.ow b=none
noncomputable def St.to(S:St fs)(s' :Shared)(k:∀b o,¬S.Al b->S.h b=some o->s'.heap.get? b=some o)(f:∀a∈et fs,Plain s'.heap a)(g:s'.gens=S.s.gens):St fs where
 B:=S.B
 σ:=S.σ
 c:=S.c
 ow:=S.ow
 s:=s'
 base:=S.base
 stay:=fun b o e=>k b o (fun q=>sn e q.1) (S.stay b o e)
 kinds:=S.kinds
 frames:=fun a h=>⟨(S.frames a h).1,(S.frames a h).2.1,f a h⟩
 own:=fun a i h=>⟨(S.own a i h).1,fun G z=>(S.own a i h).2 G fun o e=>z o (k a o (fun q=>sn h q.2) e)⟩
 len:=S.len
 cells:=fun i x a e1 e2=>(S.cells i x a e1 e2).imp (da fun b o h e=>⟨h,k b o (fun q=>sn h q.2) e⟩) (fun _ _ q=>q) fun _ _ q=>q
 gens:=g.trans S.gens
theorem Plain.up{h h' :Heap}(p:Plain h a)(k:∀o,h.get? a=some o->h'.get? a=some o):Plain h' a:=fun G z=>p G fun o e=>z o (k o e)
noncomputable abbrev St.go(S:St fs)(s' :Shared)(k:Sub S.h s'.heap.get?)(g:s'.gens=S.s.gens):St fs:=S.to s' (fun b o _ e=>k b o e) (fun a h=>(S.frames a h).2.2.up (k a)) g
theorem aQ.same{S:St fs}{k f g}(p:∀b o,b∉Z->S.h b=some o->s'.heap.get? b=some o)(e:s'.os=S.s.os):aQ Z S (S.to s' k f g) where
 bb:= .refl
 sg:=fun _ _ e=>e
 cK:=fun b o _ _ h e=>p b o h e
 d8:=fun b o _ h e=>⟨o.slots,p b o h e⟩
 live:=fun b z e=>match h:S.h b with
  |none=>rfl
  |some o=>nomatch (p b o z h).symm.trans e
 keep:=fun _ _ _ h _=>⟨h,id⟩
 os:=e
theorem St.bk{S:St fs}{k:Sub S.h s'.heap.get?}{g:s'.gens=S.s.gens}(o:s'.os=S.s.os):aQ [] S (S.go s' k g):= .same (fun b o _ e=>k b o e) o
noncomputable def iG(p:Addr->Prop)(M B:Mp):Mp:=fun b=> @ite _ (p b) (Classical.propDecidable _) (M b) (B b)
noncomputable def vl(p:Addr->Prop)(n:Option Nat)(ow:Addr->Option Nat):Addr->Option Nat:=fun b=> @ite _ (p b) (Classical.propDecidable _) n (ow b)
theorem gL{p:Addr->Prop}{x y:α}(h:p b): @ite _ (p b) (Classical.propDecidable _) x y=x:=if_pos h
theorem cL{p:Addr->Prop}{x y:α}(h:¬p b): @ite _ (p b) (Classical.propDecidable _) x y=y:=if_neg h
theorem dE(n:∀b,p b->B b=none):Sub B (iG p M B):=fun b o e=>(cL fun q=>sn e (n b q)).trans e
noncomputable def St.xn(S:St fs)(p:Addr->Prop)(c' :aa)(n:∀b,p b->S.B b=none/\b∉et fs)(l:c'.length=S.c.length)
  (k:∀i x a,c'[i]? =some x->S.σ[i]? =some a->c9 (iy (vl p none S.ow) S.s.heap i) (iG p S.h S.B) (bE (iG p S.h S.B) S.σ) x a):St fs where
 B:=iG p S.h S.B
 σ:=S.σ
 c:=c'
 ow:=vl p none S.ow
 s:=S.s
 base:=S.base.elim fun H h=>⟨H,h.1,h.2.trans (dE fun b q=>(n b q).1)⟩
 stay:=fun b o e=>Classical.byCases (fun q:p b=>(gL q).symm.trans e) fun q=>S.stay b o ((cL q).symm.trans e)
 kinds:=S.kinds
 frames:=fun a h=>have q:=S.frames a h;have z:¬p a:=fun z=>(n a z).2 h;⟨(cL z).trans q.1,(cL z).trans q.2.1,q.2.2⟩
 own:=fun a i h=>have z:¬p a:=fun z=>nomatch (gL z).symm.trans h;have q:=S.own a i ((cL z).symm.trans h);⟨(cL z).trans q.1,q.2⟩
 len:=S.len.trans l.symm
 cells:=k
 gens:=S.gens
theorem aQ.xn{S₀ S:St fs}{n l k}(x:aQ Z S₀ S)(h:∀b o,p b->S₀.ow b=none->S₀.h b=some o->False):aQ Z S₀ (S.xn p c' n l k) where
 bb:=x.bb.trans (dE fun b q=>(n b q).1)
 sg:=x.sg
 cK:=x.cK
 d8:=x.d8
 live:=x.live
 keep:=fun b o z1 h1 e=>have z:¬p b:=fun z=>h b o z h1 e;have q:=x.keep b o z1 h1 e;⟨(cL z).trans q.1,fun w=>(cL z).trans (q.2 w)⟩
 os:=x.os
noncomputable def St.adopt(S:St fs)(D:Addr)(n:S.Al D)(f:D∉et fs):St fs:=S.xn (·=D) S.c (fun b e=>e▸⟨n.1,f⟩) rfl fun i x a e1 e2=>
 have k:Sub S.B (iG (·=D) S.h S.B):=dE fun b e=>e▸n.1
 (S.cells i x a e1 e2).imp (da fun b o h e=>⟨(cL fun q=>nomatch (q▸h).symm.trans n.2).trans h,e⟩) (fun _ _ h=>h.mono k) (bE.mono k fun _ _ e=>e)
theorem St.zD{S:St fs}{n f}:(S.adopt D n f).B D=S.h D:=gL rfl
theorem aQ.adopt{S₀ S:St fs}(x:aQ Z S₀ S){n f}(h:S₀.h D=none):aQ Z S₀ (S.adopt D n f):=x.xn fun b o q _ e=>nomatch (q▸e).symm.trans h
theorem Sg.snoc:Sg σ (σ++[a]):=fun i b e=>List.getElem?_append_left (List.getElem?_eq_some_iff.mp e).1▸e
theorem pz{G:Prop}{l:List α}{i:Nat}(e:(l++[a])[i]? =some x)(h1:l[i]? =some x->G)(h2:i=l.length->a=x->G):G:=
 (Nat.lt_trichotomy i l.length).elim (fun q=>h1 ((List.getElem?_append_left q).symm.trans e)) fun q=>q.elim
  (fun q=>h2 q (Option.some.inj (by rw[q,List.getElem?_concat_length]at e;exact e)))
  fun q=>nomatch (List.getElem?_eq_none (by rw[List.length_append];exact q)).symm.trans e
theorem tN{S:St fs}{p:Addr->Prop}{a:Addr}{x:Cell}(n:∀b,p b->S.Al b)(k:c9 (fun b=> @ite _ (p b) (Classical.propDecidable _) (S.h b) none) S.B (bE S.B (S.σ++[a])) x a)(i:Nat)(y:Cell)(b:Addr)(e1:(S.c++[x])[i]? =some y)(e2:(S.σ++[a])[i]? =some b):
  c9 (iy (vl p (some S.c.length) S.ow) S.s.heap i) S.B (bE S.B (S.σ++[a])) y b:=
 pz e1
  (fun e1=>pz e2 (fun e2=>(S.cells i y b e1 e2).imp (da fun z o h e=>⟨(cL fun q=>nomatch (n z q).2.symm.trans h).trans h,e⟩) (fun _ _ q=>q) (bE.mono .refl .snoc))
   fun q _=>absurd (S.len▸q) (Nat.ne_of_lt (List.getElem?_eq_some_iff.mp e1).1))
  fun q e=>pz e2 (fun e2=>absurd q (Nat.ne_of_lt (S.len▸(List.getElem?_eq_some_iff.mp e2).1))) fun _ z=>by
   subst q e z
   refine k.imp (fun z o e=> ?_) (fun _ _ q=>q) fun _ _ q=>q
   refine Classical.byCases (fun q:p z=> ?_) fun q=>nn ((cL q).symm.trans e)
   exact(if_pos (gL q)).trans ((gL q).symm.trans e)
noncomputable def St.cell(S:St fs)(p:Addr->Prop)(a:Addr)(x:Cell)(n:∀b,p b->S.Al b/\b∉et fs/\Plain S.s.heap b)
  (k:c9 (fun b=> @ite _ (p b) (Classical.propDecidable _) (S.h b) none) S.B (bE S.B (S.σ++[a])) x a):St fs where
 B:=S.B
 σ:=S.σ++[a]
 c:=S.c++[x]
 ow:=vl p (some S.c.length) S.ow
 s:=S.s
 base:=S.base
 stay:=S.stay
 kinds:=S.kinds
 frames:=fun b h=>have q:=S.frames b h;⟨q.1,(cL fun z=>(n b z).2.1 h).trans q.2.1,q.2.2⟩
 own:=fun b i h=>Classical.byCases (fun q:p b=>⟨(n b q).1.1,(n b q).2.2⟩) fun q=>S.own b i ((cL q).symm.trans h)
 len:=by rw[List.length_append,List.length_append,S.len];rfl
 cells:=tN (fun b q=>(n b q).1) k
 gens:=S.gens
theorem aQ.cell{S₀ S:St fs}{n k}(x:aQ Z S₀ S)(h:∀b,p b->S₀.h b=none):aQ Z S₀ (S.cell p a y n k) where
 bb:=x.bb
 sg:=fun i b e=>Sg.snoc i b (x.sg i b e)
 cK:=x.cK
 d8:=x.d8
 live:=x.live
 keep:=fun b o z1 h1 e=>have q:=x.keep b o z1 h1 e;⟨(cL fun z=>nomatch (h b z).symm.trans e).trans q.1,q.2⟩
 os:=x.os
theorem St.pA{S:St fs}{n k}:(S.cell p a y n k).R (.loc S.c.length) (.ref a):=fun G g=>g a (by show(S.σ++[a])[S.c.length]? =some a;rw[<-S.len];exact List.getElem?_concat_length)
theorem pB{G:Prop}{c:aa}{i j:Nat}(e:(c.set i y)[j]? =some x)(h1:i=j->y=x->G)(h2:i≠j->c[j]? =some x->G):G:=
 Classical.byCases (fun q:i=j=>h1 q (by
  subst q
  have h:=(List.getElem?_eq_some_iff.mp e).1
  rw[List.length_set]at h
  rw[List.getElem?_set_self h]at e;exact Option.some.inj e)) fun q=>h2 q (by rw[List.getElem?_set_ne q]at e;exact e)
noncomputable def St.turn(S:St fs)(i:Nat)(y:Cell)(s' :Shared)(k:∀b o,S.ow b≠some i->S.h b=some o->s'.heap.get? b=some o)(w:∀b,S.ow b=some i->Plain s'.heap b)(g:s'.gens=S.s.gens)
  (z:∀a,S.σ[i]? =some a->c9 (iy S.ow s'.heap i) S.B (bE S.B S.σ) y a):St fs where
 B:=S.B
 σ:=S.σ
 c:=S.c.set i y
 ow:=S.ow
 s:=s'
 base:=S.base
 stay:=fun b o e=>k b o (fun q=>sn e (S.own b i q).1) (S.stay b o e)
 kinds:=S.kinds
 frames:=fun a h=>have q:=S.frames a h;⟨q.1,q.2.1,q.2.2.up (k a · fun z=>sn z q.2.1)⟩
 own:=fun a j h=>⟨(S.own a j h).1,Classical.byCases (fun q:S.ow a=some i=>w a q) fun q=>(S.own a j h).2.up (k a · q)⟩
 len:=S.len.trans List.length_set.symm
 cells:=fun j x a e1 e2=>pB e1 (fun q e=>by subst q e;exact z a e2) fun q e1=>(S.cells j x a e1 e2).imp (da fun b o h e=>⟨h,k b o (fun z=>q (Option.some.inj (z.symm.trans h))) e⟩) (fun _ _ q=>q) fun _ _ q=>q
 gens:=g.trans S.gens
theorem aQ.turn{S:St fs}{k w g z}(o:s'.os=S.s.os):aQ Z S (S.turn i y s' k w g z) where
 bb:= .refl
 sg:=fun _ _ e=>e
 cK:=fun b o h _ _ e=>k b o (fun q=>sn q h) e
 d8:=fun b o h _ e=>⟨o.slots,k b o (fun q=>sn q (S.frames b h).2.1) e⟩
 live:=fun b _ e=>match h:S.h b with
  |none=>rfl
  |some o=>Classical.byCases (fun q:S.ow b=some i=>w b q _ fun o e' _=>nomatch e'.symm.trans e) fun q=>nomatch (k b o q h).symm.trans e
 keep:=fun _ _ _ h _=>⟨h,id⟩
 os:=o
noncomputable def St.Ea(S:St fs)(i:Nat)(t:T)(z:∀a,S.σ[i]? =some a->ao (iG (S.ow ·=some i) S.h S.B) t (.ref a)):St fs:=S.xn (S.ow ·=some i) (S.c.set i (.cg t)) (fun b e=>⟨(S.own b i e).1,fun h=>sn e (S.frames b h).2.1⟩) List.length_set
 fun j x a e1 e2=>pB e1 (fun q e=>by subst q e;exact z a e2) fun q e1=>have k:Sub S.B (iG (S.ow ·=some i) S.h S.B):=dE fun b e=>(S.own b i e).1
  (S.cells j x a e1 e2).imp (da fun b o h e=>⟨(cL (p:=(S.ow ·=some i)) fun z=>q (Option.some.inj (z.symm.trans h))).trans h,e⟩) (fun _ _ h=>h.mono k) (bE.mono k fun _ _ e=>e)
theorem aQ.Ea{S:St fs}{z}:aQ Z S (S.Ea i t z):=aQ.refl.xn fun b o q h _=>nomatch q.symm.trans h
noncomputable def gj(fl:Value)(h₀:Heap)(S:St fs)(e:Addr):Prop:=∀G:Prop,(∀oe vs a0 t oT ts,h₀.get? e=none->h₀.get? t=none->S.h e=some oe->oe.cls= .ref ad->oe.data= .fields vs->vs[0]? =some a0->vs[1]? =some (Value.ref t)->t≠e->
 S.h t=some oT->oT.data= .fields ts->ts[3]? =some fl->S.B e=none->S.B t=none->G)->G
theorem gj.start{S:St fs}(x:gj fl h₁ S e)(k:∀b,h₁.get? b=none->h₀.get? b=none):gj fl h₀ S e:=fun G g=>x G fun oe vs a0 t oT ts h1 h2=>g oe vs a0 t oT ts (k _ h1) (k _ h2)
noncomputable abbrev Oc:=Mine.R×aa
noncomputable abbrev PT(β:Type):=(β->Shared->Prop)->(Value->Shared->Prop)->Shared->Prop
noncomputable abbrev Rl(fs:List Env)(α β:Type):=St fs->α->β->Prop
noncomputable def It(S:St fs)(R:Rl fs α β)(k:α->aa->aq)(out:Oc)(Q:β->Shared->Prop):Prop:=∀a b (S' :St fs),aQ [] S S' ->R S' a b->k a S'.c=some out->Q b S'.s
noncomputable def OP(S:St fs)(k:Kx)(out:Oc)(E:Value->Shared->Prop):Prop:=∀e (S' :St fs),aQ [] S S' ->gj .none S.s.heap S' e->k S'.c=some out->E (.ref e) S'.s
noncomputable def au(S:St fs)(R:Rl fs α β)(m:EM α)(t:PT β):Prop:=∀k kx out Q E,m k kx=some out->It S R k out Q->OP S kx out E->t Q E S.s
noncomputable abbrev rV:Rl fs V Value:=St.R
noncomputable abbrev rE:Rl fs α α:=fun _ a b=>a=b
theorem It.after{S S' :St fs}{R:Rl fs α β}(h:It S R k out Q)(x:aQ [] S S'):It S' R k out Q:=fun a b xm y=>h a b xm (x.trans y)
theorem OP.after{S S' :St fs}(h:OP S k out E)(x:aQ [] S S'):OP S' k out E:=fun e xm y z=>h e xm (x.trans y) (z.start fun b=>x.live b List.not_mem_nil)
section
variable{S S' :St fs}{R:Rl fs α β}{R' :Rl fs γ δ}{m n:EM α}{t u:PT β}
theorem au.rule(h:∀Q E s,u Q E s->t Q E s)(x:au S R m u):au S R m t:=fun k kx out Q E e ok ex=>h Q E _ (x k kx out Q E e ok ex)
theorem au.here(h:∀Q E,u Q E S.s->t Q E S.s)(x:au S R m u):au S R m t:=fun k kx out Q E e ok ex=>h Q E (x k kx out Q E e ok ex)
theorem au.fin(S' :St fs)(x:aQ [] S S')(r:R S' a b)(h:∀Q E,Q b S'.s->t Q E S.s):au S R (aJ a S'.c) t:=fun k kx out Q E e ok ex=>h Q E (ok a b S' x r e)
theorem au.ret(r:R S a b):au S R (aJ a S.c) fun Q _ s=>Q b s:= .fin S .refl r fun _ _ h=>h
theorem au.pure(r:R S a b):au S R (aJ a S.c) (wpAny M A (pure b)):= .fin S .refl r fun _ _ h=>wpAny_pure h
theorem au.fail:au S R jo t:=fun _ _ _ _ _ e=>nn e
theorem au.eU(h:b=true->au S R m t):au S R (bT b m) t:=fun k kx out Q E e ok ex=>aE e fun q e=>h q k kx out Q E e ok ex
theorem au.ite(h:b=true->au S R m t)(h' :b=false->au S R n t):au S R (lF b m n) t:=by
 induction b
 ·exact h' rfl
 ·exact h rfl
theorem au.opt{f:γ->EM α}(h:∀a,o=some a->au S R (f a) t):au S R (aG o f) t:=fun k kx out Q E e ok ex=>ae e fun a q e=>h a q k kx out Q E e ok ex
theorem au.alt{f:γ->EM α}(h:∀a,o=some a->au S R (f a) t)(h' :au S R m t):au S R (bn o f m) t:=cz (P:=fun m=>au S R m t) h h'
theorem au.bind{f:α->aa->EM γ}{F:β->PT δ}(x:au S R m t)(g:∀a b S',aQ [] S S' ->R S' a b->au S' R' (f a S'.c) (F b)):au S R' (aF m f) fun Q E s=>t (fun b s=>F b Q E s) E s:=
 fun k kx out Q E e ok ex=>x _ kx out _ E e (fun a b S' y r e=>g a b S' y r k kx out Q E e (ok.after y) (ex.after y)) ex
theorem au.lg{m:EM β}{f:β->aa->EM γ}{F:β->PT δ}(x:au S rE m t)(g:∀b S',aQ [] S S' ->au S' R' (f b S'.c) (F b)):au S R' (aF m f) fun Q E s=>t (fun b s=>F b Q E s) E s:=x.bind fun a b S' y r=>(r:a=b)▸g a S' y
theorem au.after(x:aQ [] S S')(h:au S' R m t)(g:∀Q E,t Q E S'.s->u Q E S.s):au S R m u:=fun k kx out Q E e ok ex=>g Q E (h k kx out Q E e (ok.after x) (ex.after x))
theorem au.NL(h:au S R m t):au S R (NL m) t:=fun k kx out Q E e ok ex=>h k _ out Q E e ok fun _ _ _ _ e=>nn e
end
theorem Plain.not{G:Prop}{h:Heap}(p:Plain h a)(e:h.get? a=none):G:=False.elim (p _ fun o q _=>nomatch q.symm.trans e)
theorem St.al{S:St fs}(h:S.h D=none):S.Al D:=⟨Sub.none S.stay h,match q:S.ow D with
 |none=>rfl
 |some i=>(S.own D i q).2.not h⟩
theorem St.off{S:St fs}(h:S.h D=none):D∉et fs:=fun q=>(S.frames D q).2.2.not h
theorem bw(h:Heap):h.get? h.objs.size=none:=match q:h.get? h.objs.size with
 |none=>rfl
 |some o=>absurd (Heap.lt_size q) (Nat.lt_irrefl _)
theorem pC{h:Heap}(k:h.objs.size<=a):h.get? a=none:=match q:h.get? a with
 |none=>rfl
 |some o=>absurd (Heap.lt_size q) (Nat.not_lt.mpr k)
theorem aT{h:Heap}{o:Obj}:Sub h.get? (h.push o).get? :=fun _ _ e=>Heap.get?_push_of_some _ e
theorem aU{h:Heap}{o:Obj}(hf:o.isFreed=false):(h.push o).get? h.objs.size=some o:=Heap.get?_push_size _ hf
theorem rC:big<=sizeLine:=by rw[sizeLine_eq];decide
section
variable{S:St fs}{s' :Shared}(k:Sub S.h s'.heap.get?)(g:s'.gens=S.s.gens)(o:s'.os=S.s.os)(hD:S.h D=none){u:PT Value}
include k g o hD
theorem au.Eb(r:∀B',Sub S.B B' ->B' D=s'.heap.get? D->ao B' t (.ref D))(h:∀Q E,Q (.ref D) s' ->u Q E S.s):au S rV (aJ (.t t) S.c) u:=
 have n:(S.go s' k g).Al D:=St.al (S:=S) hD
 .fin ((S.go s' k g).adopt D n (St.off hD)) ((St.bk o).adopt hD) (r _ (dE fun b e=>e▸n.1) St.zD) h
theorem au.JV(p:Plain s'.heap D)(r:c9 (fun b=> @_root_.ite _ (b=D) (Classical.propDecidable _) (s'.heap.get? b) none) S.B (bE S.B (S.σ++[D])) x D)(h:∀Q E,Q (.ref D) s' ->u Q E S.s):au S rV (xg x S.c) u:=
 .fin ((S.go s' k g).cell (·=D) D x (fun b e=>e▸⟨St.al (S:=S) hD,St.off hD,p⟩) r) ((St.bk o).cell fun b e=>e▸hD) St.pA h
theorem au.pD(e:s'.heap.get? D=some (listAt vs n))(r:S.Rs xs vs)(l:xs.length<=big)(h:∀Q E,Q (.ref D) s' ->u Q E S.s):au S rV (xg (.lst xs) S.c) u:=
 .JV k g o hD (fun G z=>z _ e fun _=>nofun) (fun G z=>z vs n ((if_pos rfl).trans e) l (r.imp (bE.mono .refl .snoc))) h
end
theorem pF{G:Prop}{xs:List V}:∀{ts:List T} {vs:List Value},iw xs=some ts->av (bE B σ) xs vs->(bN B ts vs->ts.length=xs.length->G)->G:=by
 induction xs generalizing G with
 |nil=>exact fun e h g=>g (Option.some.inj e▸h) (Option.some.inj e▸rfl)
 |cons x xs ih=>
  refine fun{_ vs} e h g=>ae e fun t e1 e3=>ae e3 fun ts e2 e4=> ?_
  induction x with
  |loc i=>exact nn e1
  |t x=>
   cases Option.some.inj e1
   cases e4
   exact h (fun vs=>(bN B (t::ts) vs->(t::ts).length=(V.t t::xs).length->G)->G) (fun v r h1 h2 g=>ih e2 h2 fun h3 l=>g (fun G z=>z v r h1 h3) (congrArg Nat.succ l)) g
section
variable{S:St fs}{s' :Shared}(k:Sub S.h s'.heap.get?)(g:s'.gens=S.s.gens)(o:s'.os=S.s.os)(hD:S.h D=none){u:PT Value}(r:S.Rs xs vs)(l:xs.length<=big)(h:∀Q E,Q (.ref D) s' ->u Q E S.s)
include k g o hD r l h
theorem au.ze(e:s'.heap.get? D=some (jy vs n)):au S rV (pm xs S.c) u:=fun k' kx out Q E q ok ex=>cz (o:=iw xs) (P:=fun b=>b=some out->u Q E S.s)
 (fun ts q e' =>pF q r fun r' l' =>au.Eb k g o hD (t:= .tup ts) (fun B' b e2 G z=>z D vs n (e2.trans e) (Nat.le_trans (Nat.le_of_eq l') l) (r'.mono b)) h k' kx out Q E e' ok ex)
 (fun e' =>au.JV k g o hD (x:= .tup xs) (fun G z=>z _ e fun _=>nofun) (fun G z=>z vs n ((if_pos rfl).trans e) l (r.imp (bE.mono .refl .snoc))) h k' kx out Q E e' ok ex) q
theorem au.mH(e:s'.heap.get? D=some (listAt vs n)):au S rV (mG xs S.c) u:=fun k' kx out Q E q ok ex=>cz (o:=iw xs) (P:=fun b=>b=some out->u Q E S.s)
 (fun ts q e' =>pF q r fun r' l' =>au.Eb k g o hD (t:= .lst ts) (fun B' b e2 G z=>z D vs n (e2.trans e) (Nat.le_trans (Nat.le_of_eq l') l) (r'.mono b)) h k' kx out Q E e' ok ex)
 (fun e' =>au.pD k g o hD e r l h k' kx out Q E e' ok ex) q
end
theorem so{P:α->Prop}(e:some x=some z)(h:P x):P z:=Option.some.inj e▸h
theorem cb:Sub (iy ow h i) h.get? :=fun b o e=>by
 unfold iy at e
 split at e
 ·exact e
 ·exact nn e
theorem jA(e:iy ow h i b=some o):ow b=some i:=by
 unfold iy at e
 split at e
 ·assumption
 ·exact nn e
theorem St.sh{S:St fs}(r:S.R v v'):xl S.h S.B S.R v' (shape S.c v):=by
 induction v with
 |t x=>exact(ao.sh (P:=S.R) (fun _ _ h=>h) r).imp S.stay (fun _ _ h=>h) fun _ _ h=>h
 |loc i=>
  refine r (fun v' =>xl S.h S.B S.R v' (Oh S.c[i]?)) fun a ha=> ?_
  cases q:S.c[i]? with
  |none=>trivial
  |some x=>
   have h:=S.cells i x a q ha
   induction x with
   |cg t=>exact(ao.sh (P:=S.R) (fun _ _ h=>h) h).imp S.stay (fun _ _ h=>h) fun _ _ h=>h
   |lst _=>exact fun G g=>g a (fy.imp (s:= .lst _) cb (fun _ _ h=>h) (fun _ _ h=>h) h)
   |tup _=>exact fun G g=>g a (fy.imp (s:= .tup _) cb (fun _ _ h=>h) (fun _ _ h=>h) h)
   |inst _ _=>exact fun G g=>g a (fy.imp (s:= .inst _ _) cb (fun _ _ h=>h) (fun _ _ h=>h) h)
   |dict _=>exact fun G g=>g a (fy.imp (s:= .dict _) cb (fun _ _ h=>h) (fun _ _ h=>h) h)
section
variable{S:St fs}{C:Value->Prop}(r:S.R v v')
include r
theorem St.lst(e:listOf S.c v=some xs)(g:∀a vs n,S.h a=some (listAt vs n)->xs.length<=big->S.Rs xs vs->C (.ref a)):C v' :=by
 have h:=S.sh r
 unfold listOf at e
 revert h e
 cases shape S.c v<;>intro e h<;>first|exact nn e|skip
 cases e
 exact h C fun a h=>h (C (.ref a)) (g a)
theorem St.tup(e:qW S.c v=some xs)(g:∀a vs n,S.h a=some (jy vs n)->xs.length<=big->S.Rs xs vs->C (.ref a)):C v' :=by
 have h:=S.sh r
 unfold qW at e
 revert h e
 cases shape S.c v<;>intro e h<;>first|exact nn e|skip
 cases e
 exact h C fun a h=>h (C (.ref a)) (g a)
theorem St.XO(e:dictOf S.c v=some es)(g:∀a vs n,S.h a=some (dictAt vs n)->es.length<=big->(es.map (·.1)).Nodup->av (cm (KD S.B) S.R) es vs->C (.ref a)):C v' :=by
 have h:=S.sh r
 unfold dictOf at e
 revert h e
 cases shape S.c v<;>intro e h<;>first|exact nn e|skip
 cases e
 exact h C fun a h=>h (C (.ref a)) (g a)
theorem St.ins(e:fieldsOf S.c v=some p)(g:∀a d vs n,S.h a=some (kz p.1 d)->S.h d=some (dictAt vs n)->p.2.length<=100->av (cm fx S.R) p.2 vs->C (.ref a)):C v' :=by
 have h:=S.sh r
 unfold fieldsOf at e
 revert h e
 cases shape S.c v<;>intro e h<;>first|exact nn e|skip
 cases e
 exact h C fun a h=>h (C (.ref a)) (g a)
theorem St.seq(e:mE S.c v=some xs)(g:∀a vs n t,t="list"\/t="tuple"->S.h a=some ⟨.type t,none,.seq (List.toArray vs) n,#[]⟩->xs.length<=big->S.Rs xs vs->C (.ref a)):C v' :=
 cz (P:=fun o=>o=some xs->C v') (fun ys q e=>St.lst r (q.trans e) fun a vs n=>g a vs n _ (.inl rfl)) (fun e=>St.tup r e fun a vs n=>g a vs n _ (.inr rfl)) e
end
section
variable{M:Mp}{P:V->Value->Prop}{f:V->Option T}(F:∀v t v',f v=some t->P v v' ->ao M t v')
include F
theorem pG{xs:List V}:∀{ts:List T} {vs:List Value} {G:Prop},nT f xs=some ts->av P xs vs->(bN M ts vs->ts.length=xs.length->G)->G:=by
 induction xs with
 |nil=>exact fun e h g=>by cases e;exact g h rfl
 |cons x xs ih=>
  exact fun e h g=>ae e fun t e1 e=>ae e fun ts e2 e=>by
   cases e
   exact g (fun C k=>h C fun v r h1 h2=>ih e2 h2 fun h3 _=>k v r (F _ _ _ e1 h1) h3) (h (fun _=>_=_) fun v r h1 h2=>ih e2 h2 fun _ l=>congrArg Nat.succ l)
theorem vm{α:Type}{K K' :α->DictEntry->Prop}(k:∀a e,K a e->K' a e){xs:List (α×V)}:∀{ts:List (α×T)} {vs:List DictEntry} {G:Prop},DV f xs=some ts->av (cm K P) xs vs->(av (cm K' (ao M)) ts vs->ts.map (·.1)=xs.map (·.1)->G)->G:=by
 induction xs with
 |nil=>exact fun e h g=>by cases e;exact g h rfl
 |cons x xs ih=>
  exact fun e h g=>ae e fun t e1 e=>ae e fun ts e2 e=>by
   exact so (P:=fun z=>(av (cm K' (ao M)) z _->z.map (·.1)=_->_)->_) e (fun g=>g (fun C z=>h C fun v r h1 h2=>ih e2 h2 fun h3 _=>z v r ⟨k _ _ h1.key,F _ _ _ e1 h1.val⟩ h3) (h (fun _=>_=_) fun v r h1 h2=>ih e2 h2 fun _ l=>congrArg (x.1::·) l)) g
end
theorem map_len{α β γ:Type}{f:α->γ}{g:β->γ}{xs:List α}{ys:List β}(h:xs.map f=ys.map g):xs.length=ys.length:=(List.length_map f).symm.trans ((congrArg List.length h).trans (List.length_map g))
theorem iV(S:St fs):∀n v t v',res n S.c v=some t->S.R v v' ->ao S.h t v' :=by
 intro n
 have tr:∀x t v',some x=some t->ao S.B x v' ->ao S.h t v' :=fun x t v' e r=>by cases e;exact r.mono S.stay
 induction n with
 |zero=>
  exact fun v t v' e r=>by
   induction v with
   |t x=>exact tr x t v' e r
   |loc i=>exact nn e
 |succ n ih=>
  intro v t v' e r
  induction v with
  |t x=>exact tr x t v' e r
  |loc i=>
   refine ae e fun x e1 e=>r _ fun a ha=> ?_
   have h:=S.cells i x a e1 ha
   induction x with
   |cg t=>exact tr _ _ _ e h
   |lst xs=>
    exact ae e fun ts e2 e=>by
     cases e
     exact fun G g=>h _ fun vs n h1 h2 h3=>pG ih e2 h3 fun i1 i2=>g a vs n (cb _ _ h1) (Nat.le_trans (Nat.le_of_eq i2) h2) i1
   |tup xs=>
    exact ae e fun ts e2 e=>by
     cases e
     exact fun G g=>h _ fun vs n h1 h2 h3=>pG ih e2 h3 fun i1 i2=>g a vs n (cb _ _ h1) (Nat.le_trans (Nat.le_of_eq i2) h2) i1
   |inst k xs=>
    exact ae e fun ts e2 e=>by
     cases e
     exact fun G g=>h _ fun d vs n h1 h4 h2 h3=>vm ih (fun _ _ h=>h) e2 h3 fun i1 i2=>g a d vs n (cb _ _ h1) (cb _ _ h4) (Nat.le_trans (Nat.le_of_eq (map_len i2)) h2) (mO.2 i1)
   |dict xs=>
    exact ae e fun ts e2 e=>by
     cases e
     exact fun G g=>h _ fun vs n h1 h2 h4 h3=>vm ih (fun _ _ h=>⟨h.rep.mono S.stay,h.hash⟩) e2 h3 fun i1 i2=>g a vs n (cb _ _ h1) (Nat.le_trans (Nat.le_of_eq (map_len i2)) h2) (i2▸h4) (jz.2 i1)
structure fR(S S' :St fs):Prop where
 s:S'.s=S.s
 σ:S'.σ=S.σ
 x:aQ [] S S'
 Ea:∀(j:Nat) (x:Cell),S'.c[j]? =some x->pf x=true\/S.c[j]? =some x
theorem fR.refl{S:St fs}:fR S S:=⟨rfl,rfl,.refl,fun _ _=> .inr⟩
theorem fR.trans{S S' xm:St fs}(x:fR S S')(y:fR S' xm):fR S xm:=⟨y.s.trans x.s,y.σ.trans x.σ,x.x.trans y.x,fun j z h=>(y.Ea j z h).elim .inl (x.Ea j z)⟩
noncomputable def OQ(fs:List Env)(f:aa->V->Option (T×aa)):Prop:=∀(S:St fs) v v' p,f S.c v=some p->S.R v v' ->∀G:aa->Prop,(∀S',fR S S' ->ao S'.B p.1 v' ->G S'.c)->G p.2
section
variable{f:aa->V->Option (T×aa)}(F:OQ fs f)
include F
theorem mP{xs:List V}:∀(S:St fs) {p:List T×aa} {vs:List Value},iF f S.c xs=some p->S.Rs xs vs->∀G:aa->Prop,(∀S',fR S S' ->bN S'.B p.1 vs->p.1.length=xs.length->G S'.c)->G p.2:=by
 induction xs with
 |nil=>exact fun S p vs e h G g=>by cases e;exact g S .refl h rfl
 |cons x xs ih=>
  exact fun S p vs e h G g=>ae e fun q e1 e=>ae e fun r e2 e=>by
   cases e
   refine h (fun vs=>(∀S',fR S S' ->bN S'.B (q.1::r.1) vs->_->G S'.c)->G r.2) (fun v vs h1 h2 g=> ?_) g
   refine F S x v q e1 h1 (fun c=>iF f c xs=some r->G r.2) (fun S₁ I₁ R₁ e2=> ?_) e2
   exact ih S₁ e2 (I₁.x.Rs h2) G fun S₂ I₂ R₂ l=>g S₂ (I₁.trans I₂) (fun C k=>k v vs (R₁.mono I₂.x.bb) R₂) (congrArg Nat.succ l)
theorem zE{α:Type}{K:Mp->α->DictEntry->Prop}(k:∀B B' a e,Sub B B' ->K B a e->K B' a e){xs:List (α×V)}:∀(S:St fs) {p:List (α×T)×aa} {vs:List DictEntry},Ol f S.c xs=some p->av (cm (K S.B) S.R) xs vs->
  ∀G:aa->Prop,(∀S',fR S S' ->av (cm (K S'.B) (ao S'.B)) p.1 vs->p.1.map (·.1)=xs.map (·.1)->G S'.c)->G p.2:=by
 induction xs with
 |nil=>exact fun S p vs e h G g=>by cases e;exact g S .refl h rfl
 |cons x xs ih=>
  exact fun S p vs e h G g=>ae e fun q e1 e=>ae e fun r e2 e=>by
   cases e
   refine h (fun vs=>(∀S',fR S S' ->av (cm (K S'.B) (ao S'.B)) ((x.1,q.1)::r.1) vs->_->G S'.c)->G r.2) (fun v vs h1 h2 g=> ?_) g
   refine F S x.2 v.val q e1 h1.val (fun c=>Ol f c xs=some r->G r.2) (fun S₁ I₁ R₁ e2=> ?_) e2
   exact ih S₁ e2 (h2.imp fun _ _ h=>h.imp (f:=id) (fun _ _=>k _ _ _ _ I₁.x.bb) (bE.mono I₁.x.bb I₁.x.sg)) G fun S₂ I₂ R₂ l=>g S₂ (I₁.trans I₂) (fun C z=>z v vs ⟨k _ _ _ _ (I₁.x.bb.trans I₂.x.bb) h1.key,R₁.mono I₂.x.bb⟩ R₂) (congrArg (x.1::·) l)
end
theorem pH{G:aa->Prop}{S S₁:St fs}(I:fR S S₁)(e1:S.c[i]? =some x)(ha:S.σ[i]? =some a)(nf:pf x=false)(e:cW S₁.c i t=some p)(z:S₁.c[i]? =some x->ao (iG (S₁.ow ·=some i) S₁.h S₁.B) t (.ref a))
  (g:∀S',fR S S' ->ao S'.B p.1 (.ref a)->G S'.c):G p.2:=ae e fun y q e=>by
 have hy:pf y=false:=Bool.eq_false_iff.mpr fun h=>by rw[h]at e;exact nn e
 rw[hy]at e
 have hx:S₁.c[i]? =some x:=q.trans ((I.Ea i y q).elim (fun h=>nomatch hy.symm.trans h) fun h=>h.symm.trans e1)
 have J:=aQ.Ea (Z:=[]) (S:=S₁) (i:=i) (t:=t) (z:=fun b hb=>Option.some.inj (((congrArg (·[i]?) I.σ).trans ha).symm.trans hb)▸z hx)
 refine so (P:=fun p:T×aa=>(∀S',fR S S' ->ao S'.B p.1 (.ref a)->G S'.c)->G p.2) e (fun g=> ?_) g
 exact g (S₁.Ea i t _) ⟨I.s,I.σ,I.x.trans J,fun j w (h:(S₁.c.set i (.cg t))[j]? =some w)=>pB h (fun _ q=> .inl (q▸rfl)) fun _ h=>I.Ea j w h⟩ (z hx)
theorem rD{ow:Addr->Option Nat}{M B:Mp}(h:M b=some o)(w:ow b=some i):iG (ow ·=some i) M B b=some o:=(gL (p:=(ow ·=some i)) w).trans h
theorem gM:∀n,OQ fs (fr n):=by
 intro n
 have tr:∀(S:St fs) (x:T) v' p,some (x,S.c)=some p->ao S.B x v' ->∀G:aa->Prop,(∀S',fR S S' ->ao S'.B p.1 v' ->G S'.c)->G p.2:=fun S x v' p e r G g=>so (P:=fun p:T×aa=>(∀S',fR S S' ->ao S'.B p.1 v' ->G S'.c)->G p.2) e (fun g=>g S .refl r) g
 induction n with
 |zero=>
  exact fun S v v' p e r G g=>by
   induction v with
   |t x=>exact tr S x v' p e r G g
   |loc i=>exact nn e
 |succ n ih=>
  intro S v v' p e r G g
  induction v with
  |t x=>exact tr S x v' p e r G g
  |loc i=>
   refine ae e fun x e1 e=>r (fun v' =>(∀S',fR S S' ->ao S'.B p.1 v' ->G S'.c)->G p.2) (fun a ha g=> ?_) g
   have h:=S.cells i x a e1 ha
   have TV:∀{S₁:St fs},fR S S₁->S₁.c[i]? =some x->c9 (iy S₁.ow S₁.s.heap i) S₁.B S₁.R x a:=fun{S₁} I h=>S₁.cells i x a h ((congrArg (·[i]?) I.σ).trans ha)
   have up:∀{S₁:St fs} {b o},fR S S₁->iy S.ow S.s.heap i b=some o->S₁.h b=some o:=fun{S₁ b o} I h=>(congrArg (·.heap.get? b) I.s).trans (cb b o h)
   have gs:∀S₁:St fs,Sub S₁.B (iG (S₁.ow ·=some i) S₁.h S₁.B):=fun S₁=>dE fun b q=>(S₁.own b i q).1
   induction x with
   |cg t=>exact tr S t _ p e h G g
   |lst xs=>
    refine ae e fun q e2 e=>h _ fun vs n h1 h2 h3=>mP ih S e2 h3 (fun c=>cW c i (.lst q.1)=some p->G p.2) (fun S₁ I R l e=> ?_) e
    exact pH I e1 ha rfl e (fun hx C k=>TV I hx (C _) fun _ _ w _ _=>k a vs n (rD (up I h1) (jA w)) (Nat.le_trans (Nat.le_of_eq l) h2) (R.mono (gs S₁))) g
   |tup xs=>
    refine ae e fun q e2 e=>h _ fun vs n h1 h2 h3=>mP ih S e2 h3 (fun c=>cW c i (.tup q.1)=some p->G p.2) (fun S₁ I R l e=> ?_) e
    exact pH I e1 ha rfl e (fun hx C k=>TV I hx (C _) fun _ _ w _ _=>k a vs n (rD (up I h1) (jA w)) (Nat.le_trans (Nat.le_of_eq l) h2) (R.mono (gs S₁))) g
   |inst c xs=>
    refine ae e fun q e2 e=>h _ fun d vs n h1 h4 h2 h3=>zE ih (K:=fun _=>fx) (fun _ _ _ _ _ h=>h) S e2 h3 (fun c' =>cW c' i (.inst c q.1)=some p->G p.2) (fun S₁ I R l e=> ?_) e
    refine pH I e1 ha rfl e (fun hx C k=>TV I hx (C _) fun d' _ _ w w' _ _=> ?_) g
    have ed:d' =d:=by
     have:=(cb _ _ w).symm.trans (up I h1)
     injection this with this
     injection this with _ this
     exact Option.some.inj this
    exact k a d vs n (rD (up I h1) (jA w)) (rD (up I h4) (jA (ed▸w'))) (Nat.le_trans (Nat.le_of_eq (map_len l)) h2) (mO.2 (R.imp fun _ _ h=>h.imp (f:=id) (fun _ _ h=>h) fun _ _ h=>h.mono (gs S₁)))
   |dict xs=>
    refine ae e fun q e2 e=>h _ fun vs n h1 h2 h4 h3=>zE ih (K:=KD) (fun _ _ _ _ k h=>⟨h.rep.mono k,h.hash⟩) S e2 h3 (fun c=>cW c i (.dict q.1)=some p->G p.2) (fun S₁ I R l e=> ?_) e
    exact pH I e1 ha rfl e (fun hx C k=>TV I hx (C _) fun _ _ w _ _ _=>k a vs n (rD (up I h1) (jA w)) (Nat.le_trans (Nat.le_of_eq (map_len l)) h2) (l▸h4) (jz.2 (R.imp fun _ _ h=>h.imp (f:=id) (fun _ _ h=>⟨h.rep.mono (gs S₁),h.hash⟩) fun _ _ h=>h.mono (gs S₁)))) g
noncomputable def St.alone(S:St fs):St fs where
 B:=S.B
 σ:=[]
 c:=[]
 ow:=fun _=>none
 s:=S.s
 base:=S.base
 stay:=S.stay
 kinds:=S.kinds
 frames:=fun a h=>have q:=S.frames a h;⟨q.1,rfl,q.2.2⟩
 own:=fun _ _ h=>nomatch h
 len:=rfl
 cells:=fun _ _ _ h=>nomatch h
 gens:=S.gens
noncomputable def St.back(S S' :St fs)(x:aQ [] S.alone S'):St fs where
 B:=S'.B
 σ:=S.σ
 c:=S.c
 ow:=S.ow
 s:=S'.s
 base:=S'.base
 stay:=S'.stay
 kinds:=S.kinds
 frames:=fun a h=>have q:=S'.frames a h;⟨q.1,(S.frames a h).2.1,q.2.2⟩
 own:=fun a i h=>have q:=S.own a i h;have f:a∉et fs:=fun z=>sn h (S.frames a z).2.1
  ⟨q.2 _ fun o e _=>(x.keep a o List.not_mem_nil rfl e).2 q.1,q.2.up fun o e=>x.cK a o rfl f nofun e⟩
 len:=S.len
 cells:=fun i y a e1 e2=>(S.cells i y a e1 e2).imp (da fun b o h e=>⟨h,x.cK b o rfl (fun z=>sn h (S.frames b z).2.1) nofun e⟩) (fun _ _ h=>h.mono x.bb) (bE.mono x.bb fun _ _ e=>e)
 gens:=S'.gens
theorem aQ.back{S S' :St fs}(x:aQ [] S.alone S'):aQ [] S (S.back S' x):=⟨x.bb,fun _ _ e=>e,fun b o _ h2 h3 e=>x.cK b o rfl h2 h3 e,x.d8,x.live,fun b o z h e=>⟨h,(x.keep b o z rfl e).2⟩,x.os⟩
theorem l3{α:Type}{x:α}{l:List α}{n i:Nat}(h:(l.take n)[i]? =some x):l[i]? =some x:=by
 rw[List.getElem?_take]at h
 split at h
 ·exact h
 ·exact nn h
theorem hO(h:rk n v=true)(r:bE B σ v v'):bE B (σ.take n) v v' :=by
 induction v with
 |t x=>exact r
 |loc i=>exact fun G g=>r G fun a e=>g a ((List.getElem?_take_of_lt (Nat.le_of_ble_eq_true h)).trans e)
theorem l7{α β:Type}{P P' :α->β->Prop}{b:α->Bool}(k:∀x y,b x=true->P x y->P' x y){xs:List α}:∀{ys:List β},xs.all b=true->av P xs ys->av P' xs ys:=by
 induction xs with
 |nil=>exact fun _ h=>h
 |cons x xs ih=>exact fun e h G g=>am e fun e1 e2=>h G fun y r h1 h2=>g y r (k _ _ e1 h1) (ih e2 h2)
theorem mQ{x:Cell}(e:cZ n x=true)(h:c9 M B (bE B σ) x a):c9 M B (bE B (σ.take n)) x a:=by
 induction x with
 |cg t=>exact h
 |lst xs=>exact fun G g=>h G fun vs n h1 h2 h3=>g vs n h1 h2 (l7 (fun _ _=>hO) e h3)
 |tup xs=>exact fun G g=>h G fun vs n h1 h2 h3=>g vs n h1 h2 (l7 (fun _ _=>hO) e h3)
 |dict xs=>exact fun G g=>h G fun vs n h1 h2 h4 h3=>g vs n h1 h2 h4 (l7 (fun _ _ e h=>⟨h.key,hO e h.val⟩) e h3)
 |inst c xs=>exact fun G g=>h G fun d vs n h1 h4 h2 h3=>g d vs n h1 h4 h2 (l7 (fun _ _ e h=>⟨h.key,hO e h.val⟩) e h3)
noncomputable def St.cut(S:St fs)(n:Nat)(e:(S.c.take n).all (cZ n)=true):St fs where
 B:=S.B
 σ:=S.σ.take n
 c:=S.c.take n
 ow:=S.ow
 s:=S.s
 base:=S.base
 stay:=S.stay
 kinds:=S.kinds
 frames:=S.frames
 own:=S.own
 len:=by rw[List.length_take,List.length_take,S.len]
 cells:=fun i y a e1 e2=>mQ (List.all_eq_true.mp e y (List.mem_of_getElem? e1)) (S.cells i y a (l3 e1) (l3 e2))
 gens:=S.gens
theorem aQ.cut{S S' :St fs}{e}(x:aQ Z S S'):aQ Z S (S'.cut S.c.length e):=⟨x.bb,fun i a q=>(List.getElem?_take_of_lt (S.len▸(List.getElem?_eq_some_iff.mp q).1)).trans (x.sg i a q),x.cK,x.d8,x.live,x.keep,x.os⟩
structure bu(d:Nat)(fs:List Env)(A:Around):Prop where
 frames:A.frames=some fs
 handled:A.handled=none
 guards:A.guards=some []
 depth:A.depth+4*d<=900
 units:A.units+40*d<=9000
section
variable{S:St fs}{u:PT Value}{v:Tok->Value}
theorem au.kept(r:∀t',ao S.B t (v t'))(h:∀Q E,(∀h' tk t',Sub S.h h'.get? ->Q (v t') {S.s with heap:=h',toks:=tk})->u Q E S.s):au S rV (aJ (.t t) S.c) u:=
 fun k kx out Q E e ok ex=>h Q E fun h' tk t' q=>ok (.t t) _ (S.go {S.s with heap:=h',toks:=tk} q rfl) (St.bk rfl) (r t') e
theorem au.toks(r:∀t',ao S.B t (v t'))(h:∀Q E,(∀t' n,Q (v t') {S.s with toks:=n})->u Q E S.s):au S rV (aJ (.t t) S.c) u:= .kept r fun Q E k=>h Q E fun t' n=>k S.s.heap n t' .refl
end
theorem fb{α:Type}{C:Prop}{f:T->Option α}{i:α}(e:lH f u=some i)(r:bE B σ u v)(k:∀x,u= .t x->f x=some i->ao B x v->C):C:=by
 induction u with
 |loc=>exact nn e
 |t x=>exact k x rfl e r
theorem cn{x:T}{i:Int}(e:iO x=some i):x= .int i:=by cases x<;>first|exact nn e|exact congrArg T.int (Option.some.inj e)
theorem pI{x:T}{i:Str}(e:tB x=some i):x= .str i:=by cases x<;>first|exact nn e|exact congrArg T.str (Option.some.inj e)
theorem d9{x:T}{i:List UInt8}(e:lG x=some i):x= .bytes i:=by cases x<;>first|exact nn e|exact congrArg T.bytes (Option.some.inj e)
theorem jB{x:T}{i:List T}(e:oh x=some i):x= .tup i:=by cases x<;>first|exact nn e|exact congrArg T.tup (Option.some.inj e)
theorem Ec{x:T}{i:List T}(e:y4 x=some i):x= .lst i:=by cases x<;>first|exact nn e|exact congrArg T.lst (Option.some.inj e)
theorem dA{C:Value->Prop}(e:jp u=some i)(r:bE B σ u v)(k:∀t,u= .t (.int i)->C (.int i t)):C v:=fb e r fun x e1 e2 r=>(cn e2▸r:ao B (.int i) v) C fun t=>k t (e1.trans (congrArg V.t (cn e2)))
theorem gN{C:Value->Prop}(e:iu u=some i)(r:bE B σ u v)(k:∀t,bC i=true->C (.str i t)):C v:=fb e r fun x e1 e2 r=>(pI e2▸r:ao B (.str i) v) C k
theorem fT{C:Value->Prop}(e:nS u=some i)(r:bE B σ u v)(k:∀t,i.length<=big->C (.bytes i.toArray t)):C v:=fb e r fun x e1 e2 r=>(d9 e2▸r:ao B (.bytes i) v) C k
theorem Ed{x:T}(e:pg x=some b):x= .none/\b=false\/x= .bool b:=by cases x<;>first|exact nn e|exact .inl ⟨rfl,(Option.some.inj e).symm⟩|exact .inr (congrArg T.bool (Option.some.inj e))
theorem JW{C:Value->Bool->Prop}(e:truthy? c u=some b)(r:bE B σ u v)(h1:C .none false)(h2:∀b,C (.bool b) b):C v b:=fb e r fun x _ e r=>(Ed e).elim (fun q=>(show v= .none from(q.1▸r:ao B .none v))▸q.2▸h1) fun q=>(show v= .bool b from(q▸r:ao B (.bool b) v))▸h2 b
theorem ao.i{i:Int}{t:Tok}:ao B (.int i) (.int i t):=fun _ g=>g t
theorem ao.s{i:Str}{t:Tok}(h:bC i=true):ao B (.str i) (.str i t):=fun _ g=>g t h
theorem ao.b{i:List UInt8}{t:Tok}(h:i.length<=big):ao B (.bytes i) (.bytes i.toArray t):=fun _ g=>g t h
theorem iW{C:Int->Prop}{a:Int}(h:0<=a)(k:∀n:Nat,C n):C a:=by
 induction a with
 |ofNat n=>exact k n
 |negSucc n=>exact absurd h (Int.not_le.mpr (Int.negSucc_lt_zero n))
theorem dt{p:Prop} [Decidable p](h:decide p=true):p:=of_decide_eq_true h
theorem df{p:Prop} [Decidable p](h:(!decide p)=true):¬p:=of_decide_eq_false (dW h)
theorem iX(n:Nat):Builtin.bitNot (n:Int)=Int.negSucc n:=by induction n<;>rfl
theorem iY(n:Nat):Builtin.bitNot (Int.negSucc n)=(n:Int):=Int.add_sub_cancel (n:Int) 1
theorem xo(a b:Nat):Builtin.bitOr (a:Int) (b:Int)=((a|||b:Nat):Int):=by
 unfold Builtin.bitOr
 rw[iX,iX]
 show Builtin.bitNot (Builtin.bitNot (((Builtin.bitNot (Int.negSucc a)).toNat|||(Builtin.bitNot (Int.negSucc b)).toNat:Nat):Int))=_
 rw[iY,iY,iX,iY];rfl
theorem zF{a:Int}(h:a.natAbs<2^64): -(2^64)<a/\a<2^64:=by omega
theorem Ee{op:Operator}{a b:Int}{Q:Value->Shared->Prop}(h:Oq op a b=true)(q:∀t' n,Q (.int (xh op a b) t') {s with toks:=n}):wpAny M0 A (binaryOp op (.int a t) (.int b u)) Q E s:=by
 induction op with
 |Add=>exact PyProof.Rows.add_int (q _ _)
 |Sub=>exact PyProof.Rows.sub_int (q _ _)
 |Mult=>exact PyProof.Rows.mul_int (q _ _) ((Bool.or_eq_true_iff.mp h).elim (fun h=>have h:=zF (dt h);.of_left (intBits_le_64 h.1 h.2)) fun h=>have h:=zF (dt h);.of_right (intBits_le_64 h.1 h.2))
 |FloorDiv=>exact am h fun h1 h2=>PyProof.Rows.floordiv_int (df h1) (q _ _) (.inl (PyProof.noPylong_small (by have:=dt h2;omega)))
 |Mod=>exact PyProof.Rows.mod_int' (df h) (q _ _)
 |Pow=>exact am h fun h h3=>am h fun h1 h2=>PyProof.Rows.pow_int_small (dt h1) (by have:=dt h2;omega) (dt h3) (q _ _)
 |LShift=>exact am h fun h h4=>am h fun h h3=>am h fun h1 h2=>PyProof.Rows.lshift_int_small (dt h1) (by have:=dt h2;omega) (by have:=dt h3;have:=dt h4;omega) (q _ _)
 |RShift=>exact am h fun h1 h2=>PyProof.Rows.rshift_int (dt h1) (by rw[Int.fdiv_eq_ediv_of_nonneg _ (by exact Int.le_of_lt (Int.pow_pos (by decide)))];exact q _ _)
 |BitOr=>exact am h fun h1 h2=>PyProof.Rows.or_int (iW (C:=fun a=>(∀t' n,Q (.int (xh .BitOr a b) t') {s with toks:=n})->Q (.int (Builtin.bitOr a b) _) _) (dt h1) (fun m=>iW (C:=fun b=>(∀t' n,Q (.int (xh .BitOr m b) t') {s with toks:=n})->Q (.int (Builtin.bitOr m b) _) _) (dt h2) fun n q=>xo m n▸q _ _) q)
 |BitAnd=>exact am h fun h1 h2=>PyProof.Rows.and_int (iW (C:=fun a=>(∀t' n,Q (.int (xh .BitAnd a b) t') {s with toks:=n})->Q (.int (Builtin.bitAnd a b) _) _) (dt h1) (fun m=>iW (C:=fun b=>(∀t' n,Q (.int (xh .BitAnd m b) t') {s with toks:=n})->Q (.int (Builtin.bitAnd m b) _) _) (dt h2) fun n q=>q _ _) q)
 |_=>exact nomatch h
theorem tO{a b:Str}(h1:bC a=true)(h2:bC b=true)(h:a.cps.size+b.cps.size<=big):bC (a++b)=true:=by
 unfold bC at*
 refine am h1 fun _ h1=>am h2 fun _ h2=> ?_
 show(decide ((a.cps++b.cps).size<=big)&&(a.cps++b.cps).all _)=true
 rw[Array.all_append,h1,h2,Array.size_append,decide_eq_true h];rfl
theorem tP{op:Operator}{C:Operator->Prop}(h:xc op=true)(k:C .Add):C op:=by induction op<;>first|exact k|exact nomatch h
theorem bj{n:Nat}(h:n<=big):n<=sizeLine:=Nat.le_trans h rC
theorem JX{S:St fs}(ru:S.R u u')(rv:S.R v v'):au S rV (JD op u v S.c) (wpAny M0 A (binaryOp op u' v')):=by
 refine .alt (fun a e1=> .opt fun b e2=> .eU fun h=>dA (C:=fun u' =>au S rV _ (wpAny M0 A (binaryOp op u' v'))) e1 ru fun t _=>dA (C:=fun v' =>au S rV _ (wpAny M0 A (binaryOp op _ v'))) e2 rv fun t' _=> .toks (fun _=> .i) fun Q E q=>Ee h q) ?_
 refine .alt (fun a e1=> .opt fun b e2=> .eU fun h=> .eU fun l=>tP (C:=fun op=>au S rV _ (wpAny M0 A (binaryOp op u' v'))) h (gN (C:=fun u' =>au S rV _ (wpAny M0 A (binaryOp .Add u' v'))) e1 ru fun t f=>gN (C:=fun v' =>au S rV _ (wpAny M0 A (binaryOp .Add _ v'))) e2 rv fun t' f' => .toks (fun _=> .s (tO f f' (dt l))) fun Q E q=>PyProof.Rows.add_str q (bj (dt l)))) ?_
 refine .alt (fun a e1=> .opt fun b e2=> .eU fun h=> .eU fun l=>tP (C:=fun op=>au S rV _ (wpAny M0 A (binaryOp op u' v'))) h (fT (C:=fun u' =>au S rV _ (wpAny M0 A (binaryOp .Add u' v'))) e1 ru fun t f=>fT (C:=fun v' =>au S rV _ (wpAny M0 A (binaryOp .Add _ v'))) e2 rv fun t' f' => .toks (v:=fun t=> .bytes (a.toArray++b.toArray) t) (fun _=>by rw[List.append_toArray];exact .b (by rw[List.length_append];exact dt l)) fun Q E q=>KBy.add_bytes (by rw[List.size_toArray,List.size_toArray];exact bj (dt l)) q)) ?_
 refine .eU fun h=> .opt fun xs e1=> .opt fun ys e2=> .eU fun l=>tP (C:=fun op=>au S rV _ (wpAny M0 A (binaryOp op u' v'))) h (St.lst (C:=fun u' =>au S rV _ (wpAny M0 A (binaryOp .Add u' v'))) ru e1 fun a vs n g1 l1 r1=>St.lst (C:=fun v' =>au S rV _ (wpAny M0 A (binaryOp .Add _ v'))) rv e2 fun b ws m g2 l2 r2=> ?_)
 refine .pD (s' := {S.s with heap:=S.s.heap.push _}) aT rfl rfl (bw _) (aU rfl) (r2.append r1) (by rw[List.length_append];exact dt l) fun Q E q=>PySem.P.add_list g1 g2 (by rw[List.append_toArray];exact q) (by rw[List.size_toArray,List.size_toArray,r1.len,r2.len];exact bj (dt l))
theorem mS{S:St fs}(r:S.R v v'):au S rE (DZ v S.c) (wpAny M0 A (truthy v')):= .opt fun b e=>JW (C:=fun v' b=>au S rE (aJ b S.c) (wpAny M0 A (truthy v'))) e r (.fin S .refl rfl fun Q E=>PyProof.Rows.truthy_none) fun b=> .fin S .refl rfl fun Q E=>wpAny_truthy_bool
theorem kB:Slot "bytes" "__bytes__" "bytes.__bytes__":=
 .of (owner:="bytes") (n:="__bytes__") (by rw[typeLookup_type,builtinLookup_eq_fast];rfl') (by decide+kernel) (by decide+kernel) (by decide+kernel) (.inr (by decide+kernel)) (by rw[isSubtype_type];rfl')
theorem mT{b:Array UInt8}{Q:Value->Shared->Prop}(h:Q (.bytes b t) s):codeAny M0 A (.call (.builtin "bytes.__new__") ⟨[.type "bytes",.bytes b t],[]⟩) (wants Q E) s:=by
 refine codeAny_of_tree ?_
 show wpAny _ A.in1 (do checkBuiltinCall "bytes.__new__" ⟨[.type "bytes",.bytes b t],[]⟩;again (.builtin "bytes.__new__" ⟨[.type "bytes",.bytes b t],[]⟩)) _ _ s
 refine wpAny_bind (wpAny_of_eq (F.bm_newCall _) (wpAny_pure ⟨plainId_quiet F.bm_plain _,codeAny_builtin F.bm_entry ?_⟩))
 rw[Around.under_plainId F.bm_plain _]
 unfold Builtin.«bytes.__new__»
 refine wpAny_bind (wpAny_of_eq (a:=true) rfl (bm_if_false rfl (wpAny_bind (wpAny_of_eq F.bm_sub (bm_if_false rfl ?_)))))
 refine wpAny_bind (wpAny_of_eq (F.bm_bind _) (wpAny_bind (wpAny_of_eq (a:=()) rfl (wpAny_bind (wpAny_of_eq (a:=()) rfl (bm_if_false rfl ?_))))))
 refine wpAny_bind (wpAny_specialOf (PySem.W.typeIs_bytes _ _ _) kB.lookup ?_)
 exact wpAny_bind (wpAny_rule (wpAny_bind (wpAny_of_eq (a:=Value.type "bytes") rfl (bm_if_true rfl (wpAny_pure h)))))
theorem lK{b:Array UInt8}{Q:Value->Shared->Prop}(h:Q (.bytes b t) s):wpAny M0 A (call (.type "bytes") [.bytes b t]) Q E s:=
 callType_codes (Q₁:=fun obj s₁=>s₁.TypeIs obj "bytes"/\Q obj s₁) F.bm_called (F.bm_typeCall _) F.entry_object_init (mT ⟨PySem.W.typeIs_bytes _ _ _,h⟩) fun obj s₁ h₁=>
  ⟨h₁.1,F.args_object_init_2 obj _,object_init_meets F.bm_called.init.lookup F.bm_called.made (by decide) _ _ A.in1 _ s₁ ⟨h₁.1,rfl,h₁.2⟩⟩
theorem rF{α:Type}{C:Prop}{b:Bool}{x z:α}{y:Option α}(h:(if b=true then some x else y)=some z)(h1:b=true->x=z->C)(h2:y=some z->C):C:=by
 induction b with
 |true=>exact h1 rfl (Option.some.inj h)
 |false=>exact h2 h
theorem int_text{s:Str}{i:Int}(h:rc s=some i):PySem.intText? s=some i/\s.length<=640:=
 rF h (fun e q=>q▸eq_of_beq e▸⟨by decide+kernel,by decide⟩) fun h=>rF h (fun e q=>q▸eq_of_beq e▸⟨by decide+kernel,by decide⟩) fun h=>rF h (fun e q=>q▸eq_of_beq e▸⟨by decide+kernel,by decide⟩) fun h=>
 rF h (fun e q=>q▸eq_of_beq e▸⟨by decide+kernel,by decide⟩) fun h=>nn h
theorem Ef:∀n:Fin 100,bC (dD n)=true/\Str.ofString (toString ((n:Nat):Int))=dD n:=by decide+kernel
theorem xp{vs:List V}:∀{us:List Value} {a:Int} {k:Int->aq} {out:Oc} {G:Prop},sumK vs a k=some out->av (bE B σ) vs us->(∀xs:List (Int×Tok),us=xs.map (fun p=>Value.int p.1 p.2)->k (a+(xs.map (·.1)).sum)=some out->G)->G:=by
 induction vs with
 |nil=>exact fun{us a k out G} h r g=>g [] (r (fun us=>us=[]) rfl) ((Int.add_zero a).symm▸h)
 |cons v vs ih=>
  exact fun{us a k out G} h r g=>ae h fun i e h=>r (fun us=>(∀xs:List (Int×Tok),us=xs.map (fun p=>Value.int p.1 p.2)->k (a+(xs.map (·.1)).sum)=some out->_)->_) (fun u rest h1 h2 g=>dA (C:=fun u=>(∀xs:List (Int×Tok),u::rest=xs.map (fun p=>Value.int p.1 p.2)->k (a+(xs.map (·.1)).sum)=some out->_)->_) e h1 (fun t _ g=>
   ih h h2 fun xs e1 e2=>g ((i,t)::xs) (congrArg (_::·) e1) (Int.add_assoc a i _▸e2)) g) g
theorem xq{vs:List V}:∀{us:List Value} {k:List UInt8->aq} {out:Oc} {G:Prop},q0 vs k=some out->av (bE B σ) vs us->(∀ns:List Int,IntsAre us ns->(∀n∈ns,0<=n/\n<256)->k (ns.map fun n=>n.toNat.toUInt8)=some out->G)->G:=by
 induction vs with
 |nil=>exact fun{us k out G} h r g=>g [] (r (fun us=>IntsAre us []) .nil) nofun h
 |cons v vs ih=>
  exact fun{us k out G} h r g=>ae h fun i e h=>aE h fun hi h=>r (fun us=>(∀ns:List Int,IntsAre us ns->(∀n∈ns,0<=n/\n<256)->k (ns.map fun n=>n.toNat.toUInt8)=some out->_)->_) (fun u rest h1 h2 g=>dA (C:=fun u=>(∀ns:List Int,IntsAre (u::rest) ns->(∀n∈ns,0<=n/\n<256)->k (ns.map fun n=>n.toNat.toUInt8)=some out->_)->_) e h1 (fun t _ g=>
   ih h h2 fun ns e1 e2 e3=>g (i::ns) (.cons _ _ e1) (fun n hn=>(List.mem_cons.mp hn).elim (fun q=>q▸am hi fun a b=>⟨dt a,dt b⟩) (e2 n)) e3) g) g
theorem Eg{x:T}{i:Bool}(e:JF x=some i):x= .bool i:=by cases x<;>first|exact nn e|exact congrArg T.bool (Option.some.inj e)
theorem JY{C:Value->Prop}(e:lH JF u=some b)(r:bE B σ u v)(k:C (.bool b)):C v:=fb e r fun x _ e r=>(show v= .bool b from(Eg e▸r:ao B (.bool b) v))▸k
theorem tQ{vs:List V}:∀{us:List Value} {k:Bool->aq} {out:Oc} {G:Prop},JG c vs k=some out->av (bE B σ) vs us->(∀bs:List Bool,us=bs.map Value.bool->k (bs.any id)=some out->G)->G:=by
 induction vs with
 |nil=>exact fun{us k out G} h r g=>g [] (r (fun us=>us=[]) rfl) h
 |cons v vs ih=>
  exact fun{us k out G} h r g=>ae h fun i e h=>r (fun us=>(∀bs:List Bool,us=bs.map Value.bool->k (bs.any id)=some out->_)->_) (fun u rest h1 h2 g=>JY (C:=fun u=>(∀bs:List Bool,u::rest=bs.map Value.bool->k (bs.any id)=some out->_)->_) e h1 (fun g=>
   ih h h2 fun xs e1 e2=>g (i::xs) (congrArg (_::·) e1) e2) g) g
theorem JZ(bs:List Bool):((List.range bs.length).any fun i=>(bs[i]?).getD false)=bs.any id:=by
 induction bs with
 |nil=>rfl
 |cons b bs ih=>
  rw[List.length_cons,List.range_succ_eq_map,List.any_cons,List.any_cons,List.any_map,<-ih];rfl
theorem gO{C:List Value->Prop}(e:one args=some v)(r:av P args us)(k:∀u,P v u->C [u]):C us:=by
 cases args with
 |nil=>exact nn e
 |cons x l=>cases l with
  |nil=>cases e;exact r C fun u r h1 h2=>h2 (fun r=>C (u::r)) (k u h1)
  |cons=>exact nn e
theorem zG{C:List Value->Prop}(e:JI args=some p)(r:av P args us)(k:∀u v,P p.1 u->P p.2 v->C [u,v]):C us:=by
 cases args with
 |nil=>exact nn e
 |cons x l=>cases l with
  |nil=>exact nn e
  |cons y l=>cases l with
   |nil=>cases e;exact r C fun u r h1 h2=>h2 (fun r=>C (u::r)) fun v r h3 h4=>h4 (fun r=>C (u::v::r)) (k u v h1 h3)
   |cons=>exact nn e
theorem ff{C:Prop}{s:String}{x z:α}{y:Option α}(h:(bif s==t then some x else y)=some z)(h1:s=t->x=z->C)(h2:y=some z->C):C:=by
 cases q:s==t with
 |true=>rw[q]at h;exact h1 (eq_of_beq q) (Option.some.inj h)
 |false=>rw[q]at h;exact h2 h
noncomputable def BF.v:BF->Value
 | .len=> .builtin "len"| .abs=> .builtin "abs"| .sum=> .builtin "sum"| .any=> .builtin "any"| .int=> .type "int"| .str=> .type "str"| .range=> .type "range"| .tuple=> .type "tuple"| .list=> .type "list"| .bytes=> .type "bytes"
theorem Iu(h:Os f=some b)(r:bE B σ f f'):f' =b.v:=by
 cases f with
 |loc=>exact nn h
 |t y=>cases y with
  |bi s=>exact ff h (fun e q=>q▸(show f' =BF.v .len from(show f' = .builtin s from r).trans (congrArg Value.builtin e))) fun h=>ff h (fun e q=>q▸(show f' =BF.v .abs from(show f' = .builtin s from r).trans (congrArg Value.builtin e))) fun h=>ff h (fun e q=>q▸(show f' =BF.v .sum from(show f' = .builtin s from r).trans (congrArg Value.builtin e))) fun h=>ff h (fun e q=>q▸(show f' =BF.v .any from(show f' = .builtin s from r).trans (congrArg Value.builtin e))) fun h=>nn h
  |ty s=>exact ff h (fun e q=>q▸(show f' =BF.v .int from(show f' = .type s from r).trans (congrArg Value.type e))) fun h=>ff h (fun e q=>q▸(show f' =BF.v .str from(show f' = .type s from r).trans (congrArg Value.type e))) fun h=>ff h (fun e q=>q▸(show f' =BF.v .range from(show f' = .type s from r).trans (congrArg Value.type e))) fun h=>ff h (fun e q=>q▸(show f' =BF.v .tuple from(show f' = .type s from r).trans (congrArg Value.type e))) fun h=>ff h (fun e q=>q▸(show f' =BF.v .list from(show f' = .type s from r).trans (congrArg Value.type e))) fun h=>ff h (fun e q=>q▸(show f' =BF.v .bytes from(show f' = .type s from r).trans (congrArg Value.type e))) fun h=>nn h
  |_=>exact nn h
theorem UR{n:Nat}(h:n<=big):(n:Int)<2^63:=Int.lt_of_le_of_lt (Int.ofNat_le.mpr h) (by decide+kernel)
theorem J0{n:Nat}(h:n<=big):n<=1099511627776:=Nat.le_trans h (by decide+kernel)
theorem is_list{h:Heap}(g:h.get? a=some (listAt vs n)):h.IsList a (List.toArray vs):=⟨_,g,rfl,n,rfl⟩
theorem is_tup{h:Heap}(g:h.get? a=some (jy vs n)):h.IsTuple a (List.toArray vs):=⟨_,g,rfl,n,rfl⟩
theorem sz{vs:List Value}:(List.toArray vs).size=vs.length:=List.size_toArray
section
variable{S:St fs}(r:S.R v u)
include r
theorem OR:au S rV (gC .len v S.c) (wpAny M0 A (call (.builtin "len") [u])):= .opt fun n e=>cz (P:=fun o=>o=some n->_)
 (fun b q e=>fT (C:=fun u=>au S rV _ (wpAny M0 A (call (.builtin "len") [u]))) q r fun t l=> .toks (fun _=> .i) fun Q E k=>PySem.W.len_bytes (by rw[List.size_toArray];exact J0 l) (by rw[List.size_toArray,Option.some.inj e];exact k _ _))
 (fun e=>ae e fun xs q e=>St.seq (C:=fun u=>au S rV _ (wpAny M0 A (call (.builtin "len") [u]))) r q fun a vs m t ht g l rs=> .toks (fun _=> .i) fun Q E k=>by
  have l' :((List.toArray vs).size:Int)<2^63:=by rw[sz,rs.len];exact UR l
  have z:∀t k',Q (.int (List.toArray vs).size t) {S.s with toks:=k' }:=by rw[sz,rs.len,Option.some.inj e];exact k
  refine ht.elim (fun h=> ?_) fun h=> ?_<;>subst h
  ·exact call_len_list (is_list g) l' (z _ _)
  ·exact PyProof.Rows.len_tuple (is_tup g) l' (z _ _)) e
theorem OS:au S rV (gC .abs v S.c) (wpAny M0 A (call (.builtin "abs") [u])):= .opt fun i e=>dA (C:=fun u=>au S rV _ (wpAny M0 A (call (.builtin "abs") [u]))) e r fun t _=> .toks (fun _=> .i) fun Q E k=>PyProof.Rows.call_abs_int fun t' m=>(show(if i<0 then-i else i)=(i.natAbs:Int) by split<;>omega)▸k t' m
theorem OT(hh:A.handled=none):au S rV (gC .sum v S.c) (wpAny M0 A (call (.builtin "sum") [u])):= .opt fun vs q=>St.lst (C:=fun u=>au S rV _ (wpAny M0 A (call (.builtin "sum") [u]))) r q fun a ws n g l rs k kx out Q E h ok ex=>
 xp h rs fun xs e h=>by
  subst e
  refine sum_intListG (xs:=xs.toArray) hh ⟨_,g,rfl,n,congrArg (Data.seq · n) (List.map_toArray ..).symm⟩ fun h' tk t' hk=> ?_
  rw[preSum_eq,List.take_of_length_le (Nat.le_of_eq (by rw[List.size_toArray,List.length_map]))]
  exact ok (.t (.int _)) _ (S.go {S.s with heap:=h',toks:=tk} hk rfl) (St.bk rfl) (ao.i (B:=S.B) (t:=t')) (by rw[Int.zero_add]at h;exact h)
theorem OU(hh:A.handled=none):au S rV (gC .any v S.c) (wpAny M0 A (call (.builtin "any") [u])):= .opt fun vs q=>St.lst (C:=fun u=>au S rV _ (wpAny M0 A (call (.builtin "any") [u]))) r q fun a ws n g l rs k kx out Q E h ok ex=>
 tQ h rs fun bs e h=>by
  subst e
  refine call_any_walk (wpAny_pyIter_list (is_list g) ?_)
  refine⟨S.s.heap.objs.size,_,_,_,_,_,fun i=>(bs[i]?).getD false,rfl,Walks.list (A:=A.in1) hh S.s.heap.objs.size a (Nat.ne_of_lt (Heap.lt_size g)) (List.toArray (bs.map Value.bool)),⟨⟨_,aU rfl,rfl,rfl⟩,is_list (aT _ _ g)⟩,?_,fun h' tk hk=> ?_⟩
  ·intro i v s' Q' E' hv hq
   have hv:(bs.map Value.bool)[i]? =some v:=(List.getElem?_toArray ..).symm.trans hv
   rw[List.getElem?_map]at hv
   cases e:bs[i]? with
   |none=>rw[e]at hv;exact nn hv
   |some b=>
    have hq:Q' ((bs[i]?).getD false) s' :=hq
    rw[e]at hv hq
    cases hv
    exact wpAny_truthy_bool hq
  ·rw[sz,List.length_map,JZ]
   exact ok (.t (.bool _)) _ (S.go {S.s with heap:=h',toks:=tk} (fun b o e=>hk b o (fun q=>Nat.ne_of_lt (Heap.lt_size e) (List.mem_singleton.mp q)) (aT _ _ e)) rfl) (St.bk rfl) rfl h
theorem OV:au S rV (gC .int v S.c) (wpAny M0 A (call (.type "int") [u])):= .opt fun i q=>fb q r fun x e1 q r=>by
 cases x with
 |int j=>cases q;exact r (fun u=>au S rV _ (wpAny M0 A (call (.type "int") [u]))) fun t=> .fin S .refl (ao.i (B:=S.B) (t:=t)) fun Q E=>call_int_int
 |bool b=>cases q;cases (r:u=_);exact .toks (v:=fun t=> .int (if b then 1 else 0) t) (fun _=>by cases b<;>exact .i) fun Q E k=>call_int_bool (k S.s.toks _)
 |str s=>exact r (fun u=>au S rV _ (wpAny M0 A (call (.type "int") [u]))) fun t _=> .toks (fun _=> .i) fun Q E k=>KIN.call_text (int_text q).1 (int_text q).2 (k S.s.toks _)
 |_=>exact nn q
theorem OW:au S rV (gC .str v S.c) (wpAny M0 A (call (.type "str") [u])):= .opt fun i e=> .eU fun h=>dA (C:=fun u=>au S rV _ (wpAny M0 A (call (.type "str") [u]))) e r fun t _=>am h fun h1 h2=>
 iW (C:=fun i=>i<100->au S rV (aJ (.t (.str (dD i.toNat))) S.c) (wpAny M0 A (call (.type "str") [.int i t]))) (dt h1) (fun m h2=>have f:=Ef ⟨m,Int.ofNat_lt.mp h2⟩;.toks (v:=fun t=> .str (Str.ofString (toString (m:Int))) t) (fun _=>by rw[f.2];exact .s f.1) fun Q E k=>PySem.P.str_of_int (by
  rw[Int.natAbs_natCast]
  exact Nat.lt_of_le_of_lt (Nat.log2_le_self m) (Nat.lt_trans (Int.ofNat_lt.mp h2) (by decide))) (k S.s.toks _)) (dt h2)
theorem Eh:au S rV (gC .range v S.c) (wpAny M0 A (call (.type "range") [u])):= .opt fun i e=> .eU fun h=>dA (C:=fun u=>au S rV _ (wpAny M0 A (call (.type "range") [u]))) e r fun t _=>am h fun h1 h2=>
 iW (C:=fun i=>i<=big->au S rV (aJ (.t (.H5 i.toNat)) S.c) (wpAny M0 A (call (.type "range") [.int i t]))) (dt h1) (fun m h2=> .Eb (s' := {S.s with heap:=S.s.heap.push (Ip m S.s.toks t (S.s.toks+1)),toks:=S.s.toks+1+1}) aT rfl rfl (bw _) (fun B' _ e G g=>g _ _ _ _ (e.trans (aU rfl)) (Int.ofNat_le.mp h2)) fun Q E=>call_range_1) (dt h2)
theorem Ei:au S rV (gC .tuple v S.c) (wpAny M0 A (call (.type "tuple") [u])):= .alt
 (fun ts q=>fb q r fun x e1 q r=>(jB q▸r:ao S.B (.tup ts) u) (fun u=>au S rV _ (wpAny M0 A (call (.type "tuple") [u]))) fun a vs n g l rs=> .fin S .refl (b:= .ref a) (fun G k=>k a vs n g l rs) fun Q E=>call_tuple_same (is_tup (S.stay _ _ g)))
 (.opt fun vs q=>St.lst (C:=fun u=>au S rV _ (wpAny M0 A (call (.type "tuple") [u]))) r q fun a ws n g l rs k kx out Q E h ok ex=>call_tuple_list (is_list g) (fun h' hk=>
  au.ze (S:=S) (s' := {S.s with heap:=h'.push {cls:= .type "tuple",data:= .seq (List.toArray ws)}}) (u:=fun Q E s=>Q (.ref h'.objs.size) {S.s with heap:=h'.push {cls:= .type "tuple",data:= .seq (List.toArray ws)}}) (fun b o e=>aT b o (hk b o e)) rfl rfl (Sub.none hk (bw _)) rs l (fun _ _ h=>h) (aU rfl) k kx out Q E h ok ex) (by rw[sz,rs.len];exact bj l))
theorem J1:au S rV (gC .list v S.c) (wpAny M0 A (call (.type "list") [u])):= .opt fun vs q=>St.seq (C:=fun u=>au S rV _ (wpAny M0 A (call (.type "list") [u]))) r q fun a ws n t ht g l rs k kx out Q E h ok ex=>call_list_seq a ht g rfl rfl (fun h' c' hk hD=>
  au.pD (S:=S) (s' := {S.s with heap:=h' }) (u:=fun Q E s=>Q (.ref S.s.heap.objs.size) {S.s with heap:=h' }) hk rfl rfl (bw _) hD rs l (fun _ _ h=>h) k kx out Q E h ok ex) (by rw[sz,rs.len];exact bj l)
theorem Ej(hh:A.handled=none):au S rV (gC .bytes v S.c) (wpAny M0 A (call (.type "bytes") [u])):= .alt
 (fun b q=>fT (C:=fun u=>au S rV _ (wpAny M0 A (call (.type "bytes") [u]))) q r fun t l=> .fin S .refl (ao.b (B:=S.B) l) fun Q E=>lK)
 (.opt fun vs q=>St.lst (C:=fun u=>au S rV _ (wpAny M0 A (call (.type "bytes") [u]))) r q fun a ws n g l rs k kx out Q E h ok ex=>xq h rs fun ns hi hr h=>call_bytes_ints (is_list g) hi hr (by rw[rs.len];exact bj l) hh fun h' t m hk=>
  have z:(ns.map fun(n:Int)=>n.toNat.toUInt8).length<=big:=by rw[List.length_map,<-hi.length,rs.len];exact l
  ok (.t (.bytes _)) _ (S.go {S.s with heap:=h',toks:=m} hk rfl) (St.bk rfl) (show ao S.B _ _ from ao.b (t:=t) z) h)
end
theorem xr{S:St fs}(Rm:bu d fs A)(rf:S.R f f')(r:S.Rs args us):au S rV (zf f args S.c) (wpAny M0 A (call f' us)):= .opt fun b q=> .opt fun v q' =>gO (C:=fun us=>au S rV _ (wpAny M0 A (call f' us))) q' r fun u r=>by
 rw[Iu q rf]
 have hh:=Rm.handled
 cases b with
 |len=>exact OR r
 |abs=>exact OS r
 |sum=>exact OT r hh
 |any=>exact OU r hh
 |int=>exact OV r
 |str=>exact OW r
 |range=>exact Eh r
 |tuple=>exact Ei r
 |list=>exact J1 r
 |bytes=>exact Ej r hh
end
section
set_option autoImplicit true
open PySem PySem.W PyProof.Rows PySem.Calls
open Builtin
mutual
noncomputable def pd:T->PyData
 | .bool b=> .bool b
 | .int i=> .int i
 | .str s=> .str s
 | .tup xs=> .tuple (mU xs)
 | .lst xs=> .list (mU xs)
 |_=> .none
noncomputable def mU:List T->List PyData
 |[]=>[]
 |x::xs=>pd x::mU xs
end
noncomputable def Good(h:Heap)(n:Nat)(v:Value)(d:PyData):Prop:=∀G:Prop,(∀as,Reads h v d as->d.canLay0=true->d.depth<=n->G)->G
noncomputable def Iv(h:Heap)(n:Nat)(vs:List Value)(ds:List PyData):Prop:=∀G:Prop,(∀as,ReadsAll h vs ds as->PyData.canLayAll0 ds=true->PyData.depthAll ds<=n->G)->G
theorem mV{h:Heap}(ih:∀t v,jr n t=true->ao h.get? t v->Good h n v (pd t)){ts:List T}:∀{vs:List Value},ts.all (jr n)=true->bN h.get? ts vs->Iv h n vs (mU ts):=by
 induction ts with
 |nil=>exact fun _ r G g=>g _ (r (fun vs=>ReadsAll h vs [] []) .nil) rfl (Nat.zero_le n)
 |cons t ts YM=>exact fun e r=>am e fun e1 e2=>r (fun vs=>Iv h n vs (mU (t::ts))) fun v vs r1 r2 G g=>ih t v e1 r1 G fun as a1 a2 a3=>YM e2 r2 G fun bs b1 b2 b3=>g _ (.cons a1 b1) (by show(_&&_)=_;rw[a2,b2];rfl) (Nat.max_le.mpr ⟨a3,b3⟩)
theorem zH{v:Value}(r:v= .none):Good h n v .none:=by subst r;exact fun G g=>g _ .none rfl (Nat.zero_le _)
theorem zI{v:Value}(r:v= .bool b):Good h n v (.bool b):=by subst r;exact fun G g=>g _ (.bool b) rfl (Nat.zero_le _)
theorem zJ{M:Mp}(r:ao M (.int i) v):Good h n v (.int i):=r (fun v=>Good h n v (.int i)) fun t G g=>g _ (.int i t) rfl (Nat.zero_le _)
theorem zK{M:Mp}(r:ao M (.str s) v):Good h n v (.str s):=r (fun v=>Good h n v (.str s)) fun t f G g=>g _ (.str s t) (Bool.and_eq_true_iff.mp f).2 (Nat.zero_le _)
theorem good:∀n t v,jr n t=true->ao (Heap.get? h) t v->Good h n v (pd t):=by
 intro n
 induction n with
 |zero=>
  intro t v e r
  cases t with
  |none=>exact zH r
  |bool b=>exact zI r
  |int i=>exact zJ r
  |str s=>exact zK r
  |_=>exact ft e
 |succ n ih=>
  intro t v e r
  cases t with
  |none=>exact zH r
  |bool b=>exact zI r
  |int i=>exact zJ r
  |str s=>exact zK r
  |tup xs=>exact r (fun v=>Good h _ v (.tuple (mU xs))) fun a vs n h1 _ h2 G g=>mV ih e h2 G fun as a1 a2 a3=>g _ (.tuple h1 rfl rfl a1) a2 (Nat.succ_le_succ a3)
  |lst xs=>exact r (fun v=>Good h _ v (.list (mU xs))) fun a vs n h1 _ h2 G g=>mV ih e h2 G fun as a1 a2 a3=>g _ (.list h1 rfl rfl a1) a2 (Nat.succ_le_succ a3)
  |_=>exact ft e
theorem xt(e:y5 y=some r):PyData.eqv .none (pd y)=r:=by cases y<;>first|exact nn e|exact Option.some.inj e
theorem xu(e:y6 a y=some r):PyData.eqv (.bool a) (pd y)=r:=by cases y<;>first|exact nn e|exact Option.some.inj e
theorem zL(e:H6 a y=some r):PyData.eqv (.int a) (pd y)=r:=by cases y<;>first|exact nn e|exact Option.some.inj e
theorem zM(e:H7 a y=some r):PyData.eqv (.str a) (pd y)=r:=by cases y<;>first|exact nn e|exact Option.some.inj e
theorem zN{xs:List T}(ih:∀ys r,jq xs ys=some r->PyData.eqvAll (mU xs) (mU ys)=r)(e:H8 (jq xs) y=some r):PyData.eqv (.tuple (mU xs)) (pd y)=r:=by cases y<;>first|exact nn e|exact Option.some.inj e|exact ih _ _ e
theorem zO{xs:List T}(ih:∀ys r,jq xs ys=some r->PyData.eqvAll (mU xs) (mU ys)=r)(e:H9 (jq xs) y=some r):PyData.eqv (.list (mU xs)) (pd y)=r:=by cases y<;>first|exact nn e|exact Option.some.inj e|exact ih _ _ e
theorem pJ{G:Prop}{a b:Option Bool}{r:Bool}(e:both a b f=some r)(k:∀x y,a=some x->b=some y->f x y=r->G):G:=ae e fun x e1 e=>ae e fun y e2 e=>k x y e1 e2 (Option.some.inj e)
theorem zP(x:T):∀y r,eqT x y=some r->PyData.eqv (pd x) (pd y)=r:=
 T.rec (motive_1:=fun x=>∀y r,eqT x y=some r->PyData.eqv (pd x) (pd y)=r) (motive_2:=fun xs=>∀ys r,jq xs ys=some r->PyData.eqvAll (mU xs) (mU ys)=r) (motive_3:=fun _=>True) (motive_4:=fun _=>True) (motive_5:=fun _=>True) (motive_6:=fun _=>True)
  (fun _ _=>xt) (fun _ _ _=>xu) (fun _ _ _=>zL) (fun _ _ _=>zM) (fun _ _ _=>nn) (fun _ ih _ _=>zN ih) (fun _ ih _ _=>zO ih) (fun _ _ _ _=>nn) (fun _ _ _ _ _=>nn) (fun _ _ _=>nn) (fun _ _ _=>nn) (fun _ _ _=>nn) (fun _ _ _=>nn)
  (fun ys r e=>by induction ys<;>exact Option.some.inj e) (fun x xs i1 i2 ys r e=>by
   induction ys with
   |nil=>exact Option.some.inj e
   |cons y ys=>exact pJ e fun a b e1 e2 e=>by show(PyData.eqv (pd x) (pd y)&&PyData.eqvAll (mU xs) (mU ys))=r;rw[i1 y a e1,i2 ys b e2];exact e)
  trivial (fun _ _ _ _=>trivial) trivial (fun _ _ _ _=>trivial) (fun _ _ _ _=>trivial) (fun _ _ _=>trivial) x
theorem zQ{x:T}{ys:List T}:∀{r:Bool},y7 x ys=some r->((mU ys).any fun y=>PyData.eqv y (pd x))=r:=by
 induction ys with
 |nil=>exact fun e=>Option.some.inj e
 |cons y ys ih=>exact fun{r} e=>pJ e fun a b e1 e2 e=>by show(PyData.eqv (pd y) (pd x)||_)=r;rw[zP y x a e1,ih e2];exact e
theorem iZ(Rm:bu d fs A):A.units+64<cLine:=Nat.lt_of_le_of_lt (Nat.add_le_add_right (Nat.le_trans (Nat.le_add_right _ _) Rm.units) 64) (by decide)
noncomputable def gk(A:Around)(s:Shared)(op OX:CmpOp)(u v:Value)(b:Bool):Prop:=∀Q E,(Q (.bool b) s->wpAny M0 A (compareOp op u v) Q E s)/\(Q (.bool !b) s->wpAny M0 A (compareOp OX u v) Q E s)
theorem hY{d:PyData}(h:d.canLay0=true)(k:d.depth<=30):SeqAt.shaped d=true:=by
 show(_&&decide _)=true
 rw[h,decide_eq_true (Nat.le_trans k (by decide))];rfl
theorem Iw{S:St fs}(Rm:bu d fs A)(ru:S.R u u')(rv:S.R v v')(e:u9 S.c u v=some b):gk A S.s .Eq .NotEq u' v' b:=ae e fun x e1 e=>ae e fun y e2 e=>by
 have rx:=iV S aN u x u' e1 ru
 have ry:=iV S aN v y v' e2 rv
 refine cz (P:=fun o=>o=some b->_) (fun a q e=>ae e fun c q' e=> ?_) (fun e=>aE e fun k e=> ?_) e
 ·cases d9 q
  cases d9 q'
  refine rx (fun u' =>gk A S.s .Eq .NotEq u' v' b) fun t _=>ry (fun v' =>gk A S.s .Eq .NotEq _ v' b) fun t' _ Q E=> ?_
  cases e
  exact⟨fun q=>PySem.W.eq_bytes (by simpa using q),fun q=>PySem.W.ne_bytes (by simpa [bne]using q)⟩
 ·refine am k fun k1 k2 Q E=>good 30 x u' k1 rx _ fun as a1 a2 a3=>good 30 y v' k2 ry _ fun bs b1 b2 b3=> ?_
  cases zP x y b e
  exact⟨PyProof.Rows.eq_dataH a1 b1 (hY a2 a3) (hY b2 b3) (iZ Rm),PyProof.Rows.ne_dataH a1 b1 (hY a2 a3) (hY b2 b3) (iZ Rm)⟩
end
section
set_option autoImplicit true
open PySem PySem.W PyProof.Rows PySem.Calls
inductive cP:T->T->Prop where
 |s (a b:Str):cP (.str a) (.str b)
 |t (a b:List Int):cP (.tup (a.map .int)) (.tup (b.map .int))
theorem pK{xs:List T}:∀{ks:List Int},intsOf xs=some ks->xs=ks.map .int:=by
 induction xs with
 |nil=>exact fun e=>by cases e;rfl
 |cons x xs ih=>exact fun e=>ae e fun i e1 e=>ae e fun l e2 e=>by rw[cn e1,ih e2,<-Option.some.inj e];rfl
theorem l8{C:T->Prop}{x:T}(e:iQ x=true)(k:∀s,C (.str s)):C x:=by cases x<;>first|exact k _|exact ft e
theorem Ek{C:T->Prop}{x:T}(e:kq x=true)(k:∀s,C (.tup s)):C x:=by cases x<;>first|exact k _|exact ft e
theorem gP{P:V->Value->Prop}{x:T}{es:List (T×V)}(e:cX x es=true)(r:av (cm (KD B) P) es vs):∀p∈es,cP x p.1:=by
 intro p hp
 unfold cX at e
 refine cz (P:=fun b=>b=true->cP x p.1) (fun xs q e=>am e fun e1 e2=>am e1 fun e1 _=> ?_) (fun e=>am e fun e1 e2=> ?_) e
 ·cases jB q
  obtain⟨ks,hk⟩:=Option.isSome_iff_exists.mp e1
  obtain⟨i,hi⟩:=List.getElem?_of_mem hp
  refine r.fst hi fun en _ h=>Ek (C:=fun y=>keyHash y en.hash->cP (.tup xs) y) (List.all_eq_true.mp e2 p hp) (fun ys hh=> ?_) h.key.hash
  obtain⟨js,hj,_⟩:=hh
  rw[pK hk,pK hj]
  exact .t _ _
 ·exact l8 (C:=fun x=>cP x p.1) e1 fun a=>l8 (C:=fun y=>cP (.str a) y) (List.all_eq_true.mp e2 p hp) fun b=> .s a b
theorem vn{a:List Int}:∀{b:List Int},a.map T.int=b.map T.int->a=b:=by
 induction a with
 |nil=>
  exact fun{b} e=>by
   induction b with
   |nil=>rfl
   |cons=>cases e
 |cons x a ih=>
  exact fun{b} e=>by
   induction b with
   |nil=>cases e
   |cons y b=>
    injection e with e1 e2
    injection e1 with e1
    rw[e1,ih e2]
theorem xv(a:List Int):∀b:List Int,jq (a.map .int) (b.map .int)=some (decide (a=b)):=by
 induction a with
 |nil=>exact fun b=>by induction b<;>rfl
 |cons x a ih=>
  exact fun b=>by
   induction b with
   |nil=>rfl
   |cons y b=>
    show both (some (decide (x=y))) (jq (a.map .int) (b.map .int)) (·&&·)=_
    rw[ih b]
    show some (decide (x=y)&&decide (a=b))=_
    rw[<-Bool.decide_and]
    exact congrArg some (decide_eq_decide.mpr (List.cons.injEq ..).symm.to_iff)
theorem pL(k:cP x y)(e:eqT x y=some b):b=true↔x=y:=by
 induction k with
 |s a c=>exact Option.some.inj e▸⟨fun h=>congrArg _ (eq_of_beq h),fun h=>by injection h with h;exact beq_iff_eq.mpr h⟩
 |t a c=>exact Option.some.inj ((xv a c).symm.trans e)▸⟨fun h=>congrArg (fun l:List Int=>T.tup (l.map .int)) (of_decide_eq_true h),fun h=>by injection h with h;exact decide_eq_true (vn h)⟩
section
variable{x:T}{out:Oc}
theorem rG{es:List (T×V)}:∀{b:Bool},(∀p∈es,cP x p.1)->qY x es=some b->(b=true↔∃p∈es,p.1=x):=by
 induction es with
 |nil=>exact fun _ e=>Option.some.inj e▸(⟨nofun,fun⟨_,h,_⟩=>nomatch h⟩:false=true↔_)
 |cons q es ih=>
  exact fun hk e=>pJ e fun a c e1 e2 e=>e▸by
   rw[Bool.or_eq_true,pL (hk q (.head _)) e1,ih (fun p hp=>hk p (.tail _ hp)) e2]
   exact⟨fun h=>h.elim (fun h=>⟨q,.head _,h.symm⟩) fun⟨p,hp,h⟩=>⟨p,.tail _ hp,h⟩,fun⟨p,hp,h⟩=>(List.mem_cons.mp hp).elim (fun z=> .inl (z▸h.symm)) fun z=> .inr ⟨p,z,h⟩⟩
theorem tR{d:V}{k:V->aq}{es:List (T×V)}{G:Prop}:(∀p∈es,cP x p.1)->bJ x es d k=some out->(∀v,(x,v)∈es->k v=some out->G)->((∀p∈es,p.1≠x)->k d=some out->G)->G:=by
 induction es with
 |nil=>exact fun _ e _ g=>g (fun _ h=>absurd h List.not_mem_nil) e
 |cons q es ih=>
  refine fun hk e g1 g2=>ae e fun b e1 e=> ?_
  have z:=pL (hk q (.head _)) e1
  induction b with
  |true=>exact g1 q.2 (z.mp rfl▸.head _) e
  |false=>exact ih (fun p hp=>hk p (.tail _ hp)) e (fun v hv=>g1 v (.tail _ hv)) fun h=>g2 fun p hp w=>(List.mem_cons.mp hp).elim (fun y=>nomatch z.mpr (y▸w.symm)) fun y=>h p y w
theorem xw{k:V->aq}{es:List (T×V)}{G:Prop}:(∀p∈es,cP x p.1)->pi x es k=some out->(∀v,(x,v)∈es->k v=some out->G)->G:=by
 induction es with
 |nil=>exact fun _ e=>nn e
 |cons q es ih=>
  refine fun hk e g1=>ae e fun b e1 e=> ?_
  induction b with
  |true=>exact g1 q.2 ((pL (hk q (.head _)) e1).mp rfl▸.head _) e
  |false=>exact ih (fun p hp=>hk p (.tail _ hp)) e fun v hv=>g1 v (.tail _ hv)
theorem rH{es:List (T×V)}{u v:V}:(es.map (·.1)).Nodup->(x,u)∈es->(x,v)∈es->u=v:=by
 induction es with
 |nil=>exact fun _ h=>absurd h List.not_mem_nil
 |cons q es ih=>
  refine fun nd h1 h2=>have nd:=List.nodup_cons.mp nd;(List.mem_cons.mp h1).elim (fun e1=>(List.mem_cons.mp h2).elim (fun e2=>congrArg Prod.snd (e1.trans e2.symm)) fun h2=>absurd ?_ nd.1) fun h1=>(List.mem_cons.mp h2).elim (fun e2=>absurd ?_ nd.1) (ih nd.2 h1)
  ·exact e1▸List.mem_map_of_mem (f:=(·.1)) h2
  ·exact e2▸List.mem_map_of_mem (f:=(·.1)) h1
end
theorem tS{ks:List Int}:∀{us:List Value},bN B (ks.map .int) us->ItemsAre (intKind pW w0) ks us:=by
 induction ks with
 |nil=>exact fun r=>r (ItemsAre (intKind pW w0) []) .nil
 |cons k ks ih=>exact fun r=>r (ItemsAre (intKind pW w0) (k::ks)) fun v r r1 r2=>r1 (fun v=>ItemsAre (intKind pW w0) (k::ks) (v::r)) fun t=> .cons (decide_eq_true rfl) (ih r2)
theorem pM{C:Value->Prop}{ks:List Int}(r:ao (Heap.get? h) (.tup (ks.map .int)) v)(k:∀a,IsTupleKey (intKind pW w0) h ks a->C (.ref a)):C v:=r C fun a vs n g _ rs=>k a ⟨_,_,n,g,rfl,rfl,tS rs⟩
theorem cP.tup{C:T->Prop}(h:cP x y)(e:x= .tup xs)(k:∀ks:List Int,C (.tup (ks.map .int))):C y:=by
 induction h with
 |s=>cases e
 |t a b=>exact k b
theorem cP.str{C:T->Prop}{z:Str}(h:cP x y)(e:x= .str z)(k:∀a,C (.str a)):C y:=by
 induction h with
 |s a b=>exact k b
 |t=>cases e
noncomputable abbrev ik:=tupleKind (intKind pW w0)
theorem ints_of(ks:List Int):intsOf (ks.map .int)=some ks:=by
 induction ks with
 |nil=>rfl
 |cons k ks ih=>show(ob (intsOf (ks.map .int)) fun l=>some (k::l))=_;rw[ih];rfl
theorem zR{P:V->Value->Prop}{l:List Int}(b:Sub B (Heap.get? h)){es:List (T×V)}:∀{vs:List DictEntry} {G:Prop},(∀p∈es,cP (.tup (l.map .int)) p.1)->av (cm (KD B) P) es vs->
  (∀xs:List (List Int×Addr×Value),vs=xs.map (entryOfKey ik)->es.map (·.1)=xs.map (fun z=>T.tup (z.1.map .int))->(∀z∈xs,IsTupleKey (intKind pW w0) h z.1 z.2.1)->G)->G:=by
 induction es with
 |nil=>exact fun{vs G} _ r g=>g [] (r (fun vs=>vs=[]) rfl) rfl fun _ h=>absurd h List.not_mem_nil
 |cons q es ih=>
  refine fun{vs G} ko r g=>r (fun vs=>(∀xs:List (List Int×Addr×Value),vs=xs.map (entryOfKey ik)->(q::es).map (·.1)=xs.map (fun z=>T.tup (z.1.map .int))->(∀z∈xs,IsTupleKey (intKind pW w0) h z.1 z.2.1)->G)->G) (fun e vs h1 h2 g=>ih (fun p hp=>ko p (.tail _ hp)) h2 fun xs e1 e2 e3=> ?_) g
  obtain⟨hash,key,val⟩:=e
  refine cP.tup (C:=fun y=>KD B y ⟨hash,key,val⟩->((∀xs:List (List Int×Addr×Value),DictEntry.mk hash key val::vs=xs.map (entryOfKey ik)->y::es.map (·.1)=xs.map (fun z=>T.tup (z.1.map .int))->(∀z∈xs,IsTupleKey (intKind pW w0) h z.1 z.2.1)->G)->G)) (ko q (.head _)) rfl (fun ks z g=> ?_) h1.key g
  obtain⟨js,hj,hh⟩:=z.hash
  cases Option.some.inj ((ints_of ks).symm.trans hj)
  refine pM (C:=fun v=>key=v->G) (z.rep.mono b) (fun a ha ek=>g ((ks,a,val)::xs) ?_ ?_ fun w hw=> ?_) rfl
  ·rw[e1,List.map_cons,ek];exact congrArg (fun h=>DictEntry.mk h _ _::_) hh
  ·rw[List.map_cons,e2]
  ·exact(List.mem_cons.mp hw).elim (fun e=>e▸ha) (e3 w)
section
variable{A:Around}{s:Shared}{a:Addr}{vs:List DictEntry}{key:Value}{P:V->Value->Prop}{es:List (T×V)}{x:T}(hu:A.units<cLine)(b:Sub B (Heap.get? s.heap))(ho:s.heap.get? a=some (dictAt vs n))(r:av (cm (KD B) P) es vs)(nd:(es.map (·.1)).Nodup)(ko:∀p∈es,cP x p.1)(rx:ao s.heap.get? x key)
include hu b ho r nd ko rx
theorem vo{Q:Option Nat->Shared->Prop}(hh:keyHash x l9)(hn:(∀p∈es,p.1≠x)->Q none s)(hs:∀i v e,es[i]? =some (x,v)->vs[i]? =some e->P v e.val->Q (some i) s)(hx:iQ x=true\/∃l:List Int,x= .tup (l.map .int)):wpAny M0 A (dictFind a key l9) Q E s:=by
 rcases hx with hx|⟨l,rfl⟩
 ·revert hh hn hs ko rx
  refine l8 (C:=fun x=>(∀p∈es,cP x p.1)->ao s.heap.get? x key->keyHash x l9->((∀p∈es,p.1≠x)->Q none s)->(∀i v e,es[i]? =some (x,v)->vs[i]? =some e->P v e.val->Q (some i) s)->wpAny M0 A (dictFind a key l9) Q E s) hx fun y ko rx (hh:l9=hashStr w0 y) hn hs=> ?_
  have key:∀(i:Nat) (e:DictEntry) {G:Prop},vs[i]? =some e->(∀z v,es[i]? =some (.str z,v)->P v e.val->Value.isStrOf z e.key=true->e.hash=hashStr w0 z->G)->G:=fun i e G he g=>r.at he fun p hp h=>cP.str (C:=fun t=>p.1=t->G) (ko p (List.mem_of_getElem? hp)) rfl (fun z q=>by
   have hk:=h.key
   rw[q]at hk
   exact hk.rep (fun v=>e.key=v->G) (fun t _ ek=>g z p.2 (hp.trans (congrArg some (Prod.ext q rfl))) h.val (by rw[ek];exact decide_eq_true rfl) hk.hash) rfl) rfl
  subst hh
  refine rx (fun key=>wpAny M0 A (dictFind a key (hashStr w0 y)) Q E s) fun t _=>wpAny_dictFind_of (knd:=PySem.strKind pW w0) (k:=y) (decide_eq_true rfl) ho rfl (fun e he=> ?_) ?_
  ·obtain⟨i,hi⟩:=List.getElem?_of_mem (List.mem_toArray.mp he)
   exact key i e hi fun z v _ _ h1 h2=>⟨z,h1,h2⟩
  ·cases q:(List.toArray vs).findIdx? fun e=>(PySem.strKind pW w0).is y e.key with
   |none=>
    refine hn fun p hp e=> ?_
    obtain⟨i,hi⟩:=List.getElem?_of_mem hp
    refine r.fst hi fun en XP _=>key i en XP fun z v h1 _ h2 _=> ?_
    cases Option.some.inj (hi.symm.trans h1)
    injection e with e
    exact ft ((e▸Array.findIdx?_eq_none_iff.mp q en (List.mem_toArray.mpr (List.mem_of_getElem? XP)):Value.isStrOf z en.key=false).symm.trans h2)
   |some i=>
    obtain⟨hi,hp,_⟩:=Array.findIdx?_eq_some_iff_getElem.mp q
    have he:vs[i]? =some (List.toArray vs)[i]:=List.getElem?_eq_getElem (List.size_toArray (as:=vs)▸hi)
    exact key i _ he fun z v h1 h2 h3 _=>hs i v _ ((PySem.strKind pW w0).inj _ z y h3 hp▸h1) he h2
 ·obtain⟨ks,hk,rfl⟩:=hh
  cases Option.some.inj ((ints_of l).symm.trans hk)
  refine pM (C:=fun key=>wpAny M0 A (dictFind a key _) Q E s) rx fun ka YN=>zR (h:=s.heap) b ko r fun zs z1 z2 z3=> ?_
  have nz:(zs.map (·.1)).Nodup:=by
   rw[z2,show(zs.map fun z=>T.tup (z.1.map .int))=(zs.map (·.1)).map (fun l:List Int=>T.tup (l.map .int)) by rw[List.map_map];rfl]at nd
   exact List.Pairwise.of_map (fun l:List Int=>T.tup (l.map .int)) (fun a b h e=>h (congrArg (fun l:List Int=>T.tup (l.map .int)) e)) nd
  have YO:∀(i:Nat) z {G:Prop},zs[i]? =some z->(∀v,es[i]? =some (T.tup (z.1.map .int),v)->G)->G:=fun i z G hz g=>by
   have h1:(es.map (·.1))[i]? =some (T.tup (z.1.map .int)):=by rw[z2,List.getElem?_map,hz];rfl
   rw[List.getElem?_map,Option.map_eq_some_iff]at h1
   obtain⟨p,h2,h3⟩:=h1
   exact g p.2 (h2.trans (congrArg some (Prod.ext h3 rfl)))
  refine wpAny_dictFind_heap (knd:=ik) (xs:=zs) (k:=l) hu YN ho rfl z1 z3 nz (fun Ix=>hn fun p hp e=> ?_) fun j p hj=>YO j _ hj fun v hv=> ?_
  ·have:T.tup (l.map .int)∈es.map (·.1):=List.mem_map.mpr ⟨p,hp,e⟩
   rw[z2]at this
   obtain⟨z,hz,ez⟩:=List.mem_map.mp this
   obtain⟨i,hi⟩:=List.getElem?_of_mem hz
   injection ez with ez
   exact Ix i z.2 (hi.trans (congrArg some (Prod.ext (vn ez) rfl)))
  ·have he:vs[j]? =some (entryOfKey ik (l,p)):=by rw[z1,List.getElem?_map,hj];rfl
   exact r.at he fun w hw h=>hs j v _ hv he (by have z:=h.val;rw[Option.some.inj (hw.symm.trans hv)]at z;exact z)
theorem vp{Q:Int->Shared->Prop}(hx:iQ x=true\/∃l:List Int,x= .tup (l.map .int))(h:∀k l9,keyHash x l9->Q l9 {s with toks:=k}):wpAny M0 A (pyHash key) Q E s:=by
 clear ko ho r nd b
 rcases hx with hx|⟨l,rfl⟩
 ·exact l8 (C:=fun x=>ao s.heap.get? x key->(∀k l9,keyHash x l9->Q l9 {s with toks:=k})->wpAny M0 A (pyHash key) Q E s) hx (fun y rx h=>rx (fun key=>wpAny M0 A (pyHash key) Q E s) fun t _=>wpAny_pyHash_str (h _ _ rfl)) rx h
 ·exact pM (C:=fun key=>wpAny M0 A (pyHash key) Q E s) rx fun ka hk=>wpAny_pyHash_tuple (knd:=intKind pW w0) hu hk (h _ _ ⟨l,ints_of l,rfl⟩)
theorem fU{Q:Option Value->Shared->Prop}(hx:iQ x=true\/∃l:List Int,x= .tup (l.map .int))(hn:∀k,(∀p∈es,p.1≠x)->Q none {s with toks:=k})(hs:∀k v v',(x,v)∈es->P v v' ->Q (some v') {s with toks:=k}):wpAny M0 A (dictGet a key) Q E s:=by
 unfold dictGet
 refine wpAny_holding (wpAny_bind (vp hu b ho r nd ko rx hx fun k l9 hh=>wpAny_bind (vo (s:= {s with toks:=k}) hu b ho r nd ko rx hh (fun h=>wpAny_pure (hn k h)) (fun i v e h1 h2 h3=> ?_) hx)))
 refine wpAny_bind (wpAny_dictEntries (s:= {s with toks:=k}) ho rfl (wpAny_pure ?_))
 rw[show(List.toArray vs)[i]? =some e from(List.getElem?_toArray ..).trans h2]
 exact hs k v e.val (List.mem_of_getElem? h1) h3
end
theorem gQ{P:V->Value->Prop}{es:List (T×V)}(e:cX x es=true):iQ x=true\/∃l:List Int,x= .tup (l.map .int):=by
 unfold cX at e
 refine cz (P:=fun b=>b=true->_) (fun xs q e=>am e fun e1 e2=>am e1 fun e1 _=> ?_) (fun e=> .inl (am e fun e1 _=>e1)) e
 obtain⟨ks,hk⟩:=Option.isSome_iff_exists.mp e1
 exact .inr ⟨ks,by rw[jB q,pK hk]⟩
theorem St.noSys{S:St fs}(h:S.ow a=some i):(a==sysModules)=false:=beq_eq_false_iff_ne.mpr fun e=>S.base.elim fun H q=>q.1.sys _ fun o es ep en r y t hB _ _ _=>sn (q.2 _ _ hB) (e▸(S.own a i h).1)
theorem rJ{S:St fs}(Rm:bu d fs A)(lo:(a==sysModules)=false){es:List (T×V)}(ho:S.h a=some (dictAt vs n))(r:av (cm (KD S.B) S.R) es vs)(nd:(es.map (·.1)).Nodup)(hk:cX x es=true)(rx:ao S.h x key)(hb:qY x es=some b){Q:Bool->Shared->Prop}(h:∀k,Q b {S.s with toks:=k}):wpAny M0 A (contains (.ref a) key) Q E S.s:=by
 have hT:S.s.TypeIs (.ref a) "dict":=⟨_,ho,rfl⟩
 have kb:=rG (gP hk r) hb
 unfold contains
 refine wpAny_holding (wpAny_bind (wpAny_specialOf hT slot_dict_contains.lookup ?_))
 show wpAny _ _ (if(some (Value.builtin "dict.__contains__")==some Value.none)=true then _ else _) _ E _
 rw[if_neg (by rw[beq_builtin_none];exact Bool.false_ne_true)]
 refine wpAny_bind (wpAny_callSpecialUnlessNone?_slot (name:=Str.ofString "__contains__") hT slot_dict_contains (wpAny_call_entry slot_dict_contains hT entry_dict_contains ?_ (args_dict_contains _ _)))
 show wpAny _ _ (dictGet a key>>=_) _ _ _
 have hu:A.in1.units<cLine:=by show A.units+1<cLine;exact Nat.lt_of_le_of_lt (Nat.add_le_add_left (by decide) A.units) (iZ Rm)
 refine wpAny_bind (fU (A:=A.in1) hu S.stay ho r nd (gP hk r) rx (gQ (P:=S.R) hk) (fun k hn=> ?_) fun k v v' hm rv=> ?_)
 ·rw[show b=false from Bool.eq_false_iff.mpr fun q=>(kb.mp q).elim fun p z=>hn p z.1 z.2]at h
  show wpAny _ _ (Builtin.Dict.pendingKey? a key>>=_) _ _ _
  exact wpAny_bind (wpAny_pendingKey_other lo (wpAny_pure ⟨_,rfl,wpAny_truthy_bool (h k)⟩))
 ·rw[kb.mpr ⟨_,hm,rfl⟩]at h
  exact wpAny_pure ⟨_,rfl,wpAny_truthy_bool (h k)⟩
end
section
set_option autoImplicit true
open PySem PySem.W PyProof.Rows PySem.Calls
open Builtin
theorem om{xs:List V}{P:V->Value->Prop}{f:V->Option T}(F:∀v t v',f v=some t->P v v' ->ao M t v'){G:Prop}(e:ob (nT f xs) (tC x)=some b)(r:av P xs vs)(g:∀ts,tC x ts=some b->bN M ts vs->ts.length=xs.length->G):G:=ae e fun ts e1 e=>pG F e1 r (g ts e)
theorem vq{G:Prop}{s:Shared}(Rm:bu d fs A)(h:tC x ys=some b)(rx:ao s.heap.get? x x')(ry:bN s.heap.get? ys vs)(g:∀as bs,Reads s.heap x' (pd x) as->ReadsAll s.heap vs (mU ys) bs->PyData.canLayAll0 (mU ys)=true->(pd x).canLay0=true->A.units+1+min (PyData.depthAll (mU ys)) (pd x).depth<cLine->((mU ys).any fun y=>PyData.eqv y (pd x))=b->G):G:=
 aE h fun k e=>am k fun k1 k2=>good 29 x x' k1 rx G fun as a1 a2 a3=>mV (good 29) k2 ry G fun bs b1 b2 b3=>g as bs a1 b1 b2 a2 (by have:=iZ Rm;have:=Nat.min_le_right (PyData.depthAll (mU ys)) (pd x).depth;lia) (zQ e)
theorem J2{s:Shared}(Rm:bu d fs A)(h:tC x ys=some b)(rx:ao s.heap.get? x x')(ho:s.heap.get? a=some (listAt vs n))(ry:bN s.heap.get? ys vs):gk A s .In .NotIn x' (.ref a) b:=fun Q E=>vq Rm h rx ry fun as bs a1 b1 b2 a2 hu e=>⟨fun q=>SeqAt.in_list_reads (.list ho rfl rfl b1) a1 b2 a2 hu (by rw[e];exact q),fun q=>SeqAt.notIn_list_reads (.list ho rfl rfl b1) a1 b2 a2 hu (by rw[e];exact q)⟩
theorem J3{s:Shared}(Rm:bu d fs A)(h:tC x ys=some b)(rx:ao s.heap.get? x x')(ho:s.heap.get? a=some (jy vs n))(ry:bN s.heap.get? ys vs):gk A s .In .NotIn x' (.ref a) b:=fun Q E=>vq Rm h rx ry fun as bs a1 b1 b2 a2 hu e=>⟨fun q=>SeqAt.in_tuple_reads (.tuple ho rfl rfl b1) a1 b2 a2 hu (by rw[e];exact q),fun q=>SeqAt.notIn_tuple_reads (.tuple ho rfl rfl b1) a1 b2 a2 hu (by rw[e];exact q)⟩
theorem mW(b:Array UInt8)(i:Int)(t u:Tok)(h0:0<=i)(h1:i<256):Gives («bytes.__contains__» ⟨[.bytes b t,.int i u],[]⟩) (.val (.bool (b.contains i.toNat.toUInt8))):=by
 refine .of_wp fun M A E s Q hq=> ?_
 show wpAny M A (Bytes.containsIn "bytes.__contains__" (.bytes b t) (.int i u)>>=fun r=>ret (.bool r)) _ E s
 refine wpAny_bind ?_
 unfold Bytes.containsIn
 refine wpAny_bind (wpAny_attempt (wpAny_of_eq (a:=i) rfl (wpAny_bind ?_)))
 rw[KBy.buffer_eq]
 refine wpAny_pure ?_
 dsimp only
 rw[show(decide (i<0)||decide (i>=256))=false by rw[decide_eq_false (Int.not_lt.mpr h0),decide_eq_false (Int.not_le.mpr h1)];rfl]
 exact wpAny_pure (wpAny_pure ⟨_,rfl,hq⟩)
theorem xy(b:List UInt8)(n:Nat)(h1:n<256):b.toArray.contains n.toUInt8=b.any fun o=>decide ((o.toNat:Int)=n):=by
 rw[List.contains_toArray]
 induction b with
 |nil=>rfl
 |cons o b ih=>
  rw[List.contains_cons,List.any_cons,ih]
  refine congrArg (·||_) (Bool.eq_iff_iff.mpr (beq_iff_eq.trans (Iff.trans ?_ decide_eq_true_iff.symm)))
  have e:n.toUInt8.toNat=n:=(UInt8.toNat_ofNat' ..).trans (Nat.mod_eq_of_lt h1)
  exact⟨fun h=>by rw[<-h,e],fun h=>UInt8.toNat_inj.mp (e.trans (Int.ofNat.inj h).symm)⟩
theorem ib{l:List Str}(h:qX l s=true):s∈l:=(List.any_eq_true.mp h).elim fun y h=>bZ h.2▸h.1
theorem J4:∀k∈mF,Txt.contains k tD=ph tD.cps.toList k.cps.toList:=by decide+kernel
noncomputable def mX(A:Around)(s:Shared)(op OX:CmpOp)(u v:Value)(b:Bool):Prop:=∀Q E,((∀k,Q (.bool b) {s with toks:=k})->wpAny M0 A (compareOp op u v) Q E s)/\((∀k,Q (.bool !b) {s with toks:=k})->wpAny M0 A (compareOp OX u v) Q E s)
theorem gk.up{s:Shared}(h:gk A s op OX u v b):mX A s op OX u v b:=fun Q E=>⟨fun k=>(h Q E).1 (k s.toks),fun k=>(h Q E).2 (k s.toks)⟩
section
variable{S:St fs}(Rm:bu d fs A)(ru:S.R u u')(rv:S.R v v')
include Rm ru rv
theorem J5(rx:ao S.h x u')(q:shape S.c v= .at t)(e:XK x t=some b):gk A S.s .In .NotIn u' v' b:=by
 have rt:=S.sh rv
 rw[q]at rt
 cases t with
 |str y=>
  exact ae e fun a e1 e2=>aE e2 fun k e3=>am k fun k1 k2=>by
   cases pI e1
   cases bZ k1
   have hy:=J4 y (ib k2)
   cases e3
   exact rx (fun u' =>gk A S.s .In .NotIn u' v' _) fun t _=>(show ao S.B (.str y) v' from rt) (fun v' =>gk A S.s .In .NotIn _ v' _) fun t' _ Q E=>⟨fun q=>SB.contains (by rw[hy];exact q),fun q=>SB.notContains (by rw[hy];exact q)⟩
 |bytes y=>
  exact ae e fun i e1 e2=>aE e2 fun k e3=>am k fun k1 k2=>by
   cases cn e1
   cases e3
   exact rx (fun u' =>gk A S.s .In .NotIn u' v' _) fun t' =>(show ao S.B (.bytes y) v' from rt) (fun v' =>gk A S.s .In .NotIn _ v' _) fun t _ Q E=>by
    have g:=mW y.toArray i t t' (dt k1) (dt k2)
    rw[iW (C:=fun i=>i<256->y.toArray.contains i.toNat.toUInt8=y.any fun o=>decide ((o.toNat:Int)=i)) (dt k1) (fun n h=>xy y n (Int.ofNat_lt.mp h)) (dt k2)]at g
    exact⟨fun q=>in_gives (PySem.W.typeIs_bytes _ _ _) FB.slot_bytes_contains FB.entry_bytes_contains (FB.args_bytes_contains_2 _ _) g q,fun q=>notIn_gives (PySem.W.typeIs_bytes _ _ _) FB.slot_bytes_contains FB.entry_bytes_contains (FB.args_bytes_contains_2 _ _) g q⟩
 |_=>exact nn e
theorem Iy(e:UG S.c u v=some b):mX A S.s .In .NotIn u' v' b:=ae e fun x e1 e2=>by
 have rx:=iV S aN u x u' e1 ru
 refine cz (P:=fun o=>o=some b->_) (fun es q e3=>aE e3 fun hk e4=>ae q fun i q1 q2=>ae q2 fun y q3 q4=> ?_) (fun e=> ?_) e2
 ·induction v with
  |t x=>exact nn q1
  |loc j=>
   cases Option.some.inj q1
   induction y with
   |dict YP=>
    cases Option.some.inj q4
    refine rv (fun v' =>mX A S.s .In .NotIn u' v' b) fun a ha=>S.cells i _ a q3 ha _ fun vs n h1 _ h3 h4 Q E=> ?_
    have c:=fun{Q:Bool->Shared->Prop} (h:∀k,Q b {S.s with toks:=k})=>rJ (E:=E) Rm (St.noSys (jA h1)) (cb _ _ h1) h4 h3 hk rx e4 h
    exact⟨fun ok=>wpAny_bind (f:=fun b=>pure (Value.bool b)) (c fun k=>wpAny_pure (ok k)),fun ok=>wpAny_bind (f:=fun b=>pure (Value.bool (!b))) (c fun k=>wpAny_pure (ok k))⟩
   |_=>exact nn q4
 ·have rt:=S.sh rv
  have z:=fun{t:T}=>J5 (b:=b) (A:=A) (t:=t) Rm ru rv rx
  revert e rt z
  cases shape S.c v with
  |lst ys=>exact fun e rt z=>rt (fun v' =>mX A S.s .In .NotIn u' v' b) fun a o=>o _ fun vs n h1 h2 h3=>om (P:=S.R) (iV S aN) e h3 fun ts e r l=>(J2 Rm e rx h1 r).up
  |tup ys=>exact fun e rt z=>rt (fun v' =>mX A S.s .In .NotIn u' v' b) fun a o=>o _ fun vs n h1 h2 h3=>om (P:=S.R) (iV S aN) e h3 fun ts e r l=>(J3 Rm e rx h1 r).up
  |«at» t=>exact fun e rt z=>(z rfl e).up
  |_=>exact fun e=>nn e
omit Rm rv in
theorem J6{C:Value->Bool->Prop}(e:Oo (shape S.c u)=some b)(h:C .none true)(k:∀a,C (.ref a) false):C u' b:=by
 have r:=S.sh ru
 revert e r
 cases shape S.c u with
 |bad=>exact fun e=>nn e
 |«at» t=>
  cases t with
  |none=>exact fun e (r:u' = .none)=>r▸so e h
  |_=>exact fun e=>nn e
 |_=>exact fun e r=>r (fun u' =>C u' b) fun a _=>so e (k a)
omit Rm ru in
theorem El(e:Ia v=true):v' = .none:=by
 induction v with
 |loc=>cases e
 |t x=>
  cases x with
  |none=>exact rv
  |_=>cases e
omit Rm in
theorem Iz(e:UH S.c u v=some b):mX A S.s .Is .IsNot u' v' b:=aE e fun e1 e2=>El rv e1▸J6 (C:=fun u' b=>mX A S.s .Is .IsNot u' .none b) ru e2 (fun Q E=>⟨fun k=>wpAny_is_self rfl (k _),fun k=>wpAny_isNot_self rfl (k _)⟩) fun a Q E=>⟨fun k=>wpAny_is_other rfl (fun e=>nomatch e) (k _),fun k=>wpAny_isNot_other rfl (fun e=>nomatch e) (k _)⟩
omit Rm in
theorem En{C:Value->Value->Bool->Prop}{f:Int->Int->Bool}(e:zb f u v=some b)(k:∀i j t t',C (.int i t) (.int j t') (f i j)):C u' v' b:=ae e fun i e1 e2=>ae e2 fun j e3 e4=>dA (C:=fun u' =>C u' v' b) e1 ru fun t _=>dA (C:=fun v' =>C _ v' b) e3 rv fun t' _=>so e4 (k i j t t')
omit Rm rv ru in
theorem pN{o:Option Bool}{C:Bool->Prop}(e:qZ o=some b)(k:∀b,o=some b->C (!b)):C b:=ae e fun b e1 e2=>so e2 (k b e1)
noncomputable abbrev rB:Rl fs Bool Value:=fun _ b v=>v= .bool b
theorem tT:au S rB (JK op u v S.c) (wpAny M0 A (compareOp op u' v')):= .opt fun b e=>fun k kx out Q E h ok _=>by
 have f:∀n,Q (.bool b) {S.s with toks:=n}:=fun n=>ok b _ (S.go {S.s with toks:=n} .refl rfl) (St.bk rfl) rfl h
 clear ok h
 have z:=fun{f}=>En (b:=b) (f:=f) (C:=fun u' v' b=>(∀n,Q (.bool b) {S.s with toks:=n})->wpAny M0 A (compareOp op u' v') Q E S.s) ru rv
 induction op with
 |Eq=>exact((Iw Rm ru rv e).up Q E).1 f
 |NotEq=>exact pN (C:=fun b=>(∀n,Q (.bool b) {S.s with toks:=n})->_) e (fun b e=>((Iw Rm ru rv e).up Q E).2) f
 |Lt=>exact z e (fun i j t t' f=>PyProof.Rows.lt_int (f _)) f
 |LtE=>exact z e (fun i j t t' f=>PyProof.Rows.le_int (f _)) f
 |Gt=>exact z e (fun i j t t' f=>PyProof.Rows.gt_int (f _)) f
 |GtE=>exact z e (fun i j t t' f=>PyProof.Rows.ge_int (f _)) f
 |Is=>exact(Iz ru rv e Q E).1 f
 |IsNot=>exact pN (C:=fun b=>(∀n,Q (.bool b) {S.s with toks:=n})->_) e (fun b e=>(Iz ru rv e Q E).2) f
 |In=>exact(Iy Rm ru rv e Q E).1 f
 |NotIn=>exact pN (C:=fun b=>(∀n,Q (.bool b) {S.s with toks:=n})->_) e (fun b e=>(Iy Rm ru rv e Q E).2) f
end
end
section
set_option autoImplicit true
open PySem PySem.W PyProof.Rows PySem.Calls
structure IA(C:Nat)(name:Str):Prop where
 g1:plainGet K0 C name=true
 g2:hasDictIn K0 C=true
 g3:∃attr,findIn K0 (.ref C) name=some attr/\noGet K0 attr=true
 g4:findIn K0 (.ref C) "__setattr__"=some (some (.builtin "object.__setattr__"))
 g5:plainOver K0 C=true
 g6:takerIn K0 C name=some none
structure OY(C:Nat)(name:Str)(f:Nat):Prop where
 g1:plainGet K0 C name=true
 g2:findIn K0 (.ref C) name=some (some (.ref f))
 g3:isFn K0 (.ref f)=true
 g4:specialIn K0 (.ref C) "__getattribute__"=some (some (.builtin "type.__getattribute__"))
 g5:∃mc,readsIn K0 C mc=true/\findCls K0 (.ref C) mc name=some (.val (.ref f))
structure OZ(cw:Nat->Str->Option Nat):Prop where
 get:∀C name,pj C name=true->IA C name
 US:∀C name f,cw C name=some f->OY C name f
theorem oo{k:Value}{n name:Str}(h:∃t,k= .str n t):k.isStr name=sEq n name:=h.elim fun t e=>by
 rw[e,km,Bool.eq_iff_iff];simp [Value.isStr]
section
variable{P:V->Value->Prop}{name:Str}
theorem O0{fs:List (Str×V)}:∀{vs:List DictEntry},av (cm fx P) fs vs->vs.any (·.refKey)=false:=by
 induction fs with
 |nil=>exact fun h=>h (fun vs=>vs.any (·.refKey)=false) rfl
 |cons p r ih=>exact fun h=>h (fun vs=>vs.any (·.refKey)=false) fun e r h1 h2=>h1.key.elim fun t ht=>by rw[List.any_cons,ih h2];unfold DictEntry.refKey;rw[ht];rfl
theorem Eo{fs:List (Str×V)}:∀{vs:List DictEntry},av (cm fx P) fs vs->bn (look fs name) (fun v=>∃e,vs.find? (·.key.isStr name)=some e/\P v e.val) (vs.find? (·.key.isStr name)=none):=by
 induction fs with
 |nil=>exact fun h=>h (fun vs=>vs.find? (·.key.isStr name)=none) rfl
 |cons p r ih=>
  refine fun h=>h (fun vs=>bn (look (p::r) name) (fun v=>∃e,vs.find? (·.key.isStr name)=some e/\P v e.val) (vs.find? (·.key.isStr name)=none)) fun e vs h1 h2=> ?_
  rw[List.find?_cons,oo h1.key]
  show bn (bif sEq p.1 name then some p.2 else look r name) _ _
  cases sEq p.1 name with
  |true=>exact⟨e,rfl,h1.val⟩
  |false=>exact ih h2
theorem J7{v:V}{v' :Value}(hv:P v v'){fs:List (Str×V)}:∀{vs:List DictEntry},av (cm fx P) fs vs->av (cm fx P) (dP fs name v) (putL name l9 (.str name t) v' vs):=by
 induction fs with
 |nil=>exact fun h=>h (fun vs=>av (cm fx P) [(name,v)] (putL name l9 (.str name t) v' vs)) (.cons ⟨⟨t,rfl⟩,hv⟩ .nil)
 |cons p r ih=>
  refine fun h=>h (fun vs=>av (cm fx P) (dP (p::r) name v) (putL name l9 (.str name t) v' vs)) fun e vs h1 h2=> ?_
  rw[putL,oo h1.key]
  show av _ (bif sEq p.1 name then(p.1,v)::r else p::dP r name v) _
  cases sEq p.1 name with
  |true=>exact .cons ⟨h1.key,hv⟩ h2
  |false=>exact .cons h1 (ih h2)
end
theorem zS{α:Type}{name:Str}{v:α}(fs:List (Str×α)):(dP fs name v).length<=fs.length+1:=by
 induction fs with
 |nil=>exact Nat.le_refl _
 |cons p r ih=>
  show(bif sEq p.1 name then(p.1,v)::r else p::dP r name v).length<=_
  cases sEq p.1 name with
  |true=>exact Nat.le_succ _
  |false=>exact Nat.succ_le_succ ih
theorem mY{name:Str}{key v:Value}(vs:List DictEntry):(putL name l9 key v vs).length<=vs.length+1:=by
 induction vs with
 |nil=>exact Nat.le_refl _
 |cons p r ih=>
  unfold putL
  split
  ·exact Nat.le_succ _
  ·exact Nat.succ_le_succ ih
theorem oq{P:V->Value->Prop}{fl:List (Str×V)}{name:Str}(r:av (cm fx P) fl vs):bn (look fl name) (fun v=>∃v',lookIn name (dictAt vs n)=some (some v')/\P v v') (lookIn name (dictAt vs n)=some none):=by
 have h:=Eo (name:=name) r
 unfold lookIn
 dsimp only
 revert h
 cases look fl name with
 |none=>exact fun(h:vs.find? (·.key.isStr name)=none)=>by show(match(List.toArray vs).toList.find? _ with|some e=>_|none=>_)=_;rw[h,O0 r];rfl
 |some v=>exact fun⟨e,h,p⟩=>⟨e.val,by rw[h],p⟩
theorem tU{S:St fs}{v:V}{v' :Value}(h:Ic v=true)(r:S.R v v'):handedIn v' =true:=by
 induction v with
 |loc i=>exact r (fun v' =>handedIn v' =true) fun _ _=>rfl
 |t x=>
  have r:ao S.B x v' :=r
  cases x with
  |bi i=>cases h
  |none=>exact(r:v' =_)▸rfl
  |bool b=>exact(r:v' =_)▸rfl
  |gl b=>exact(r:v' =_)▸rfl
  |ty b=>exact(r:v' =_)▸rfl
  |int=>exact r (fun v' =>handedIn v' =true) fun _=>rfl
  |H5=>exact r (fun v' =>handedIn v' =true) fun _ _ _ _ _ _=>rfl
  |str=>exact r (fun v' =>handedIn v' =true) fun _ _=>rfl
  |bytes=>exact r (fun v' =>handedIn v' =true) fun _ _=>rfl
  |tup=>exact r (fun v' =>handedIn v' =true) fun _ _ _ _ _ _=>rfl
  |lst=>exact r (fun v' =>handedIn v' =true) fun _ _ _ _ _ _=>rfl
  |dict=>exact r (fun v' =>handedIn v' =true) fun _ _ _ _ _ _ _=>rfl
  |inst=>exact r (fun v' =>handedIn v' =true) fun _ _ _ _ _ _ _ _=>rfl
theorem St.X(S:St fs):K0.In S.s.heap:=fun b o e=>S.base.elim fun H h=>S.stay b o (h.2 b o (h.1.tM b o e))
theorem me{h:Heap}(h1:h.get? a=some (kz C d))(h2:h.get? d=some (dictAt vs n)):InstAt h a (kz C d) C (some (dictAt vs n)):=⟨h1,rfl,rfl,h2⟩
theorem Ep{cw:Nat->Str->Option Nat}(hK:OZ cw){S:St fs}(rv:S.R v v'):au S rV (aG (zd S.c v name) fun v=>aJ v S.c) (wpAny M0 A (getAttr v' name true)):= .opt fun r e=>ae e fun p hf e=>aE e fun hn e=>ae e fun u hu e=>aE e fun hb e=>so (P:=fun r=>au S rV (aJ r S.c) (wpAny M0 A (getAttr v' name true))) e
 (St.ins (C:=fun v' =>au S rV (aJ u S.c) (wpAny M0 A (getAttr v' name true))) rv hf fun a d vs n h1 h2 _ hr=>by
  have k:=hK.get _ name hn
  have z:=oq (n:=n) (name:=name) hr
  rw[hu]at z
  exact k.g3.elim fun attr g=>z.elim fun u' w=> .fin (S.go {S.s with toks:=S.s.toks+1} .refl rfl) (St.bk rfl) w.2 fun Q E q=>get_value S.X (me h1 h2) (plainGet_of k.g1).1 (findObj_own k.g2 g.1 g.2 w.1) (tU hb w.2) q)
theorem gm:Slot "bytes" "join" "bytes.join":=
 .of (owner:="bytes") (n:="join") (by rw[typeLookup_type,builtinLookup_eq_fast];rfl') (by decide+kernel) (by decide+kernel) (by decide+kernel) (.inr (by decide+kernel)) (by rw[isSubtype_type];rfl')
theorem kC:entryFor table "bytes.join"=some Builtin.«bytes.join»:=entryFor_of_tree (by rfl')
theorem lL:typeOf (.builtin "bytes.join")=pure (.type "method_descriptor"):=by show builtinType _=_;rw[builtinType_eq_fast];rfl'
theorem jC(a b:Value):argsOk "bytes.join" ⟨[a,b],[]⟩:=by
 unfold argsOk;rw[signature?_of (id:="bytes.join") (n:=['n', 'i', 'o', 'j']) (o:=['s', 'e', 't', 'y', 'b']) (by rfl') FB.owner_bytes];rfl'
noncomputable def lM:DY->Value
 | .own a=> .ref a
 | .cls a=> .ref a
 | .bi m=> .builtin m.id
noncomputable def cJ:DY->Value->List Value
 | .own _,o=>[o]
 | .cls _,_=>[]
 | .bi _,o=>[o]
section
variable{S:St fs}{o:V}{o' :Value}{Q:Value×List Value->Shared->Prop}{A:Around}{E:Value->Shared->Prop}{pl:Sem Bool}
theorem pO{α:Type}{b:Bool}{x y:Option α}{z:α}{G:Prop}(h:(bif b then x else y)=some z)(h1:b=true->x=some z->G)(h2:y=some z->G):G:=by
 induction b with
 |true=>exact h1 rfl h
 |false=>exact h2 h
theorem Er{s:Shared}(e:Ot name=some m)(ok:Q (.builtin m.id,[.str y t]) s):wpAny M0 A (getMethod (.str y t) name pl) Q E s:=by
 refine pO e (fun h e1=> ?_) fun e=>pO e (fun h e1=> ?_) fun e=>aE e fun h e1=> ?_<;>cases e1<;>rw[bZ h]
 ·exact getMethod_builtin (T:="str") (name:=Str.ofString "split") (id:="str.split") (typeIs_str _ _ _) F.plainAttrs_str F.slot_str_split F.type_str_split (fun _ e=>nomatch e) ok
 ·exact getMethod_builtin (T:="str") (name:=Str.ofString "lstrip") (id:="str.lstrip") (typeIs_str _ _ _) F.plainAttrs_str F.slot_str_lstrip F.type_str_lstrip (fun _ e=>nomatch e) ok
 ·exact getMethod_builtin (T:="str") (name:=Str.ofString "index") (id:="str.index") (typeIs_str _ _ _) F.plainAttrs_str F.slot_str_index F.type_str_index (fun _ e=>nomatch e) ok
theorem Es{s:Shared}(g:s.heap.get? a=some (listAt vs n))(e:Ou name=some m)(ok:Q (.builtin m.id,[.ref a]) s):wpAny M0 A (getMethod (.ref a) name pl) Q E s:=by
 refine pO e (fun h e1=> ?_) fun e=>aE e fun h e1=> ?_<;>cases e1<;>rw[bZ h]
 ·exact getMethod_builtin (T:="list") (name:=Str.ofString "append") (id:="list.append") ⟨_,g,rfl⟩ F.plainAttrs_list F.slot_list_append F.type_list_append (fun a e=>by cases e;exact⟨_,g,rfl⟩) ok
 ·exact getMethod_builtin (T:="list") (name:=Str.ofString "extend") (id:="list.extend") ⟨_,g,rfl⟩ F.plainAttrs_list F.slot_list_extend F.type_list_extend (fun a e=>by cases e;exact⟨_,g,rfl⟩) ok
theorem J8{x:Cx}(hK:OZ x.cw)(h:gD x S.c o name=some m)(ro:S.R o o')(ok:∀k,Q (lM m,cJ m o') {S.s with toks:=k}):wpAny M0 A (getMethod o' name pl) Q E S.s:=by
 have r:=S.sh ro
 clear ro
 unfold gD at h
 revert h r
 cases shape S.c o with
 |bad=>exact fun e=>nn e
 |tup=>exact fun e=>nn e
 |lst xs=>
  exact fun e=>ae e fun bm e1 e2 r=>r (fun o' =>(∀k,Q (lM m,cJ m o') {S.s with toks:=k})->wpAny M0 A (getMethod o' name pl) Q E S.s) (fun a r ok=>r _ fun vs n g _ _=>Es g e1 (so (P:=fun m=>(∀k,Q (lM m,cJ m (.ref a)) {S.s with toks:=k})->Q (.builtin bm.id,[.ref a]) S.s) e2 (fun ok=>ok S.s.toks) ok)) ok
 |dict es=>
  exact fun e=>aE e fun h e2 r=>r (fun o' =>(∀k,Q (lM m,cJ m o') {S.s with toks:=k})->wpAny M0 A (getMethod o' name pl) Q E S.s) (fun a r ok=>r _ fun vs n g _ _ _=>by
   rw[bZ h];exact(getMethod_builtin (T:="dict") (name:=Str.ofString "get") (id:="dict.get") ⟨_,g,rfl⟩ F.plainAttrs_dict F.slot_dict_get F.type_dict_get (fun a e=>by cases e;exact⟨_,g,rfl⟩) (so (P:=fun m=>(∀k,Q (lM m,cJ m (.ref a)) {S.s with toks:=k})->Q (.builtin "dict.get",[.ref a]) S.s) e2 (fun ok=>ok S.s.toks) ok))) ok
 |inst C fl=>
  refine fun e r=>r (fun o' =>(∀k,Q (lM m,cJ m o') {S.s with toks:=k})->wpAny M0 A (getMethod o' name pl) Q E S.s) (fun a r ok=>r _ fun d vs n g1 g2 _ rs=> ?_) ok
  have z:=oq (n:=n) (name:=name) rs
  revert e z
  show(bif(look fl name).isSome then none else _)=_->_
  cases look fl name with
  |some=>exact fun e=>nn e
  |none=>
   exact fun e z=>ae e fun f e1 e2=>have k:=hK.US C name f e1;so (P:=fun m=>(∀k,Q (lM m,cJ m (.ref a)) {S.s with toks:=k})->_) e2 (fun ok=>method_fn S.X (me g1 g2) (plainGet_of k.g1).1 (plainGet_of k.g1).2 k.g2 (beq_iff_eq.mp k.g3) (congrArg (Option.map _) z) (ok S.s.toks)) ok
 |«at» t=>
  cases t with
  |str y=>exact fun e r=>ae e fun bm e1 e2=>(r:ao S.B (.str y) o') (fun o' =>(∀k,Q (lM m,cJ m o') {S.s with toks:=k})->wpAny M0 A (getMethod o' name pl) Q E S.s) (fun t _ ok=>Er e1 (so (P:=fun m=>(∀k,Q (lM m,cJ m (.str y t)) {S.s with toks:=k})->Q (.builtin bm.id,[.str y t]) S.s) e2 (fun ok=>ok S.s.toks) ok)) ok
  |bytes y=>exact fun e r=>aE e fun h e2=>(r:ao S.B (.bytes y) o') (fun o' =>(∀k,Q (lM m,cJ m o') {S.s with toks:=k})->wpAny M0 A (getMethod o' name pl) Q E S.s) (fun t _ ok=>by
   rw[bZ h];exact(getMethod_builtin (T:="bytes") (name:=Str.ofString "join") (id:="bytes.join") (PySem.W.typeIs_bytes _ _ _) FB.plainAttrs_bytes gm lL (fun _ e=>nomatch e) (so (P:=fun m=>(∀k,Q (lM m,cJ m (.bytes y.toArray t)) {S.s with toks:=k})->Q (.builtin "bytes.join",[.bytes y.toArray t]) S.s) e2 (fun ok=>ok S.s.toks) ok))) ok
  |gl C=>
   exact fun e r=>ae e fun f e1 e2=>by
    have k:=hK.US C name f e1
    obtain⟨mc,g5,g6⟩:=k.g5
    cases Option.some.inj e2
    cases (r:o' = .ref C)
    exact method_cls S.X k.g4 (cls_value S.X g5 g6 rfl (ok _))
  |_=>exact fun e=>nn e
end
theorem au.upd{S:St fs}{R:Rl fs α β}{a:α}{b:β}{D:Addr}{o:Obj}{y:Cell}{s' :Shared}{f:Obj->Obj}{u:PT β}(hD:iy S.ow S.s.heap i D=some o)(hs:s'.heap=S.s.heap.update D f)(hf:(f o).isFreed=false)(p:∀vs,(f o).data≠.fields vs)(g:s'.gens=S.s.gens)(eo:s'.os=S.s.os)
  (z:∀M:Mp,M D=some (f o)->(∀b o',b≠D->iy S.ow S.s.heap i b=some o' ->M b=some o')->∀a,S.σ[i]? =some a->c9 M S.B S.R y a) (r:∀S',R S' a b) (h:∀Q E,Q b s' ->u Q E S.s):au S R (aJ a (S.c.set i y)) u:=
 have e:s'.heap.get? D=some (f o):=hs▸Heap.get?_update_self _ (cb _ _ hD) hf
 have k:∀b,b≠D->s'.heap.get? b=S.h b:=fun b q=>hs▸Heap.get?_update_other _ _ (Ne.symm q)
 .fin (S.turn i y s' (fun b o q e=>(k b fun z=>q (z▸jA hD)).trans e) (fun b q=>Classical.byCases (fun z:b=D=>fun G w=>w _ (z▸e) p) fun z=>(S.own b i q).2.up fun o e=>(k b z).trans e) g
   (z _ ((if_pos (jA hD)).trans e) fun b o q e=>(if_pos (jA e)).trans ((k b q).trans (cb _ _ e)))) (.turn eo) (r _) h
noncomputable abbrev rU:Rl fs Unit Unit:=fun _ _ _=>True
theorem lh{vs:List DictEntry}(h:vs.any (·.refKey)=false)(name:Str):(!(List.toArray vs).any (·.key.isStr name)&&(List.toArray vs).any (·.refKey))=false:=by
 rw[show(List.toArray vs).any (·.refKey)=false from(List.any_toArray ..).trans h,Bool.and_false]
theorem J9{s:Shared}{fl:List (Str×V)}{P:V->Value->Prop}{name:Str}{Rr:Result->Shared->Prop}(X:K0.In s.heap)(k:IA C name)(h1:s.heap.get? a=some (kz C d))(h2:s.heap.get? d=some (dictAt vs n))(hl:vs.length<=100)(r:av (cm fx P) fl vs)
  (ok:Rr (.ok (.ret .none)) {s with heap:=s.heap.update d (Obj.putName name (PyData.keyHash w0.params name) (.str name s.toks) v'),toks:=s.toks+1}):codeAny M0 A (.call (.builtin "object.__setattr__") ⟨[.ref a,.str name tk,v'],[]⟩) Rr s:=by
 refine osa_open X (me h1 h2) k.g5 k.g6 fun b=> ?_
 obtain⟨cd,hc,Ka⟩:=any_some k.g2
 refine wpAny_bind (wpAny_pure (wpAny_bind (wpAny_bind (wpAny_loadPart h1 (wpAny_bind ((looks_clsIn X hc).here ?_))))))
 rw[Ka]
 refine wpAny_pure (a:=some d) (wpAny_bind (wpAny_pure (wpAny_bind ?_)))
 unfold nsSet
 refine wpAny_bind (wpAny_bind (wpAny_askSetting (wpAny_pure (wpAny_bind (wpAny_mkText (wpAny_bind (wpAny_loadPart (o:=dictAt vs n) h2 ?_)))))))
 dsimp only
 rw[aRefKeyMayBeTheName_at,lh (O0 r)]
 refine wpAny_updatePart (o:=dictAt vs n) h2 ?_
 refine wpAny_bind (wpAny_lookBehind (o:=dictAt (putL name (PyData.keyHash w0.params name) (.str name s.toks) v' vs) (putN name vs n)) ?_ (pastItsLine_dict ?_) (wpAny_pure ok))
 ·exact(Heap.get?_update_self _ h2 (by rw[putName_dict];rfl)).trans (congrArg some (putName_dict ..))
 ·rw[List.size_toArray];exact Nat.le_trans (mY vs) (Nat.succ_le_succ (Nat.le_trans hl (bj (by decide))))
section
variable{S:St fs}(rv:S.R v v')
include rv
theorem tV{cw:Nat->Str->Option Nat}(hK:OZ cw)(ro:S.R o o'):au S rU (fun k _=>rh o name v S.c (k ())) (wpAny M0 A (PySem.setAttr o' name v')):=fun k kx out Q E e ok ex=>ae e fun i e1 e=>ae e fun y e2 e=>ae e fun p e3 e=>aE e fun q e=>by
 induction o with
 |t=>exact nn e1
 |loc j=>
  cases Option.some.inj e1
  induction y with
  |inst C fl=>
   cases Option.some.inj e3
   refine ro (fun o' =>wpAny M0 A (PySem.setAttr o' name v') Q E S.s) fun a ha=>S.cells _ _ a e2 ha _ fun d vs n h1 h2 hl hr=>am q fun q1 q2=> ?_
   have q1:=Nat.le_of_ble_eq_true q1
   have g:=hK.get _ _ q2
   refine au.upd (u:=wpAny M0 A (PySem.setAttr (.ref a) name v')) (f:=Obj.putName name (PyData.keyHash w0.params name) (.str name (S.s.toks+1)) v') (s' := {S.s with heap:=S.s.heap.update d _,toks:=S.s.toks+2}) h2 rfl ?_ ?_ rfl rfl (fun M m1 m2 b hb=> ?_) (fun _=>trivial) (fun Q E q=>set_plain S.X (me (cb _ _ h1) (cb _ _ h2)) g.g4 (J9 (s:= {S.s with toks:=S.s.toks+1}) S.X g (cb _ _ h1) (cb _ _ h2) (hr.len▸Nat.le_of_lt q1) hr q)) k kx out Q E e ok ex
   ·rw[putName_dict];rfl
   ·rw[putName_dict];exact fun _=>nofun
   ·rw[putName_dict]at m1
    have ne:a≠d:=fun q=>by rw[q]at h1;cases h1.symm.trans h2
    exact Option.some.inj (ha.symm.trans hb)▸fun G w=>w d _ _ (m2 _ _ ne h1) m1 (Nat.le_trans (zS fl) q1) (J7 rv hr)
  |_=>exact nn e3
end
theorem av.set{α β:Type}{P:α->β->Prop}{x:α}{y:β}(k:P x y){xs:List α}:∀{ys:List β} {j:Nat},av P xs ys->av P (xs.set j x) (ys.set j y):=by
 induction xs with
 |nil=>exact fun{ys j} h=>h (fun ys=>av P [] (ys.set j y)) .nil
 |cons z xs ih=>
  refine fun{ys j} h=>h (fun ys=>av P ((z::xs).set j x) (ys.set j y)) fun w r h1 h2=> ?_
  induction j with
  |zero=>exact .cons k h2
  |succ j=>exact .cons h1 (ih h2)
theorem pP{s:Shared}{l:Addr}{items:Array Value}{n:Nat}{j:Int}{t:Tok}{v:Value}{Q:Unit->Shared->Prop}(ho:s.heap.get? l=some ⟨.type "list",none,.seq items n,#[]⟩)(h0:0<=j)(xz:j<2^63)(hn:j.toNat<items.size)
  (hQ:Q () {s with heap:=s.heap.update l (Obj.mapSeq (·.setIfInBounds j.toNat v))}):wpAny M0 A (setItem (.ref l) (.int j t) v) Q E s:=by
 have hT:s.TypeIs (.ref l) "list":=⟨_,ho,rfl⟩
 unfold setItem
 refine wpAny_holding ?_
 refine wpAny_bind (wpAny_sequenceKey hT (by decide) ?_)
 refine wpAny_bind (wpAny_callSpecial?_slot (name:=Str.ofString "__setitem__") hT slot_list_setitem
  (wpAny_call_entry slot_list_setitem hT entry_list_setitem ?_ (args_list_setitem _ _ _)))
 show wpAny _ _ (Builtin.List.listSubscript? (.int j t)>>=_) _ _ s
 refine wpAny_bind (wpAny_listSubscript_int (fitsIndex_of h0 xz) ?_)
 clear xz
 obtain⟨j,rfl⟩:=Int.eq_ofNat_of_zero_le h0
 rw[Int.toNat_natCast]at hn hQ
 show wpAny _ _ ((seqItemAt l j>>=fun r=>pure (r.map (j,·)))>>=_) _ _ s
 refine wpAny_bind (wpAny_bind (wpAny_seqItemAt ho rfl (wpAny_pure ?_)))
 rw[show items[j]? =some items[j]from Array.getElem?_eq_getElem hn]
 show wpAny _ _ (setSeqItemAt l j v>>=_) _ _ s
 exact wpAny_bind (wpAny_setSeqItemAt ho rfl (wpAny_pure ⟨.none,rfl,wpAny_pure hQ⟩))
theorem pR{s:Shared}{P:V->Value->Prop}{es:List (T×V)}{x:T}{Q:Unit->Shared->Prop}(Rm:bu d fs A)(b:Sub B (Heap.get? s.heap))(ho:s.heap.get? a=some (dictAt vs n))(r:av (cm (KD B) P) es vs)(nd:(es.map (·.1)).Nodup)(hk:cX x es=true)(rx:ao s.heap.get? x key)(Ix:∀p∈es,p.1≠x)(hl:vs.length<big)
  (h:∀k l9,keyHash x l9->Q () {s with heap:=s.heap.update a (Obj.mapDictKeys (·.push ⟨l9,key,v'⟩)),toks:=k}):wpAny M0 A (setItem (.ref a) key v') Q E s:=by
 have hT:s.TypeIs (.ref a) "dict":=⟨_,ho,rfl⟩
 unfold setItem
 refine wpAny_holding (wpAny_bind (wpAny_sequenceKey hT (by decide) (wpAny_bind (wpAny_callSpecial?_slot (name:=Str.ofString "__setitem__") hT slot_dict_setitem (wpAny_call_entry slot_dict_setitem hT entry_dict_setitem ?_ (args_dict_setitem _ _ _))))))
 show wpAny _ _ (Builtin.Dict.notOrdered "__setitem__" ⟨[.ref a,key,v'],[]⟩>>=_) _ _ s
 refine wpAny_bind (wpAny_notOrdered_dict hT ?_)
 show wpAny _ _ (dictSet a key v' >>=_) _ _ s
 have hu:A.in1.units<cLine:=by show A.units+1<cLine;exact Nat.lt_of_le_of_lt (Nat.add_le_add_left (by decide) A.units) (iZ Rm)
 have kk:=gQ (P:=P) hk
 unfold dictSet
 refine wpAny_bind (wpAny_holding (wpAny_bind (vp (A:=A.in1) hu b ho r nd (gP hk r) rx kk fun k l9 hh=> ?_)))
 unfold dictSetHashed
 refine wpAny_holding (wpAny_bind (vo (A:=A.in1) (s:= {s with toks:=k}) hu b ho r nd (gP hk r) rx hh (fun _=> ?_) (fun i v e h1 h2 h3=>absurd rfl (Ix _ (List.mem_of_getElem? h1))) kk))
 exact wpAny_bind (wpAny_rule (wpAny_updateDictKeys (s:= {s with toks:=k}) ho rfl (wpAny_pure ⟨.none,rfl,wpAny_pure (h k l9 hh)⟩) (by rw[List.size_toArray];exact Nat.le_trans (Nat.le_of_lt hl) rC)))
theorem O1{α:Type}{a b:Bool}{G:Prop}{x:Option α}{z:α}(h:(bif a|| !b then none else x)=some z)(k:a=false->b=true->x=some z->G):G:=by
 induction a with
 |true=>exact nn h
 |false=>
  induction b with
  |true=>exact k rfl rfl h
  |false=>exact nn h
section
variable{S:St fs}(rv:S.R v v')
include rv
theorem tW(Rm:bu d fs A)(ro:S.R o o')(ri:S.R j j'):au S rU (fun k _=>rg o j v S.c (k ())) (wpAny M0 A (PySem.setItem o' j' v')):=fun k kx out Q E e ok ex=>ae e fun i e1 e=>ae e fun y e2 e=>by
 induction o with
 |t=>exact nn e1
 |loc=>
  cases Option.some.inj e1
  refine ro (fun o' =>wpAny M0 A (PySem.setItem o' j' v') Q E S.s) fun a ha=> ?_
  have h:=S.cells _ _ a e2 ha
  induction y with
  |lst xs=>
   refine ae e fun m e3 e=>aE e fun q e=>am q fun q1 q2=>dA (C:=fun j' =>wpAny M0 A (PySem.setItem (.ref a) j' v') Q E S.s) e3 ri fun t _=>h _ fun us n h1 hl hr=> ?_
   have q1:=dt q1
   have q2:=dt q2
   induction m with
   |negSucc n=>exact absurd q1 (Int.not_le.mpr (Int.negSucc_lt_zero n))
   |ofNat m=>
    have q2:=Int.ofNat_lt.mp q2
    exact au.upd (u:=wpAny M0 A (PySem.setItem (.ref a) (.int m t) v')) (f:=Obj.mapSeq (·.setIfInBounds m v')) (s' := {S.s with heap:=S.s.heap.update a _}) h1 rfl rfl (fun _=>nofun) rfl rfl (fun M m1 m2 b hb=>Option.some.inj (ha.symm.trans hb)▸fun G w=>w (us.set m v') _ (m1.trans (congrArg some (congrArg (fun x=>Obj.mk (.type "list") none (.seq x _) #[]) (List.setIfInBounds_toArray ..)))) (Nat.le_trans (Nat.le_of_eq List.length_set) hl) (hr.set rv)) (fun _=>trivial)
     (fun Q E q=>pP (cb _ _ h1) (Int.natCast_nonneg m) (Int.lt_of_lt_of_le (Int.ofNat_lt.mpr q2) (Int.le_trans (Int.ofNat_le.mpr hl) (by decide))) (by rw[List.size_toArray,hr.len];exact q2) q) k kx out Q E e ok ex
  |dict es=>
   refine ae e fun x e3 e=>ae e fun b e4 e=>O1 e fun e5 q1 e=>aE e fun q2 e9=>h _ fun us n h1 hl nd hr=> ?_
   induction j with
   |loc=>exact nn e3
   |t z=>
    cases Option.some.inj e3
    have Ix:∀p∈es,p.1≠x:=fun p hp q=>ft (e5.symm.trans ((rG (gP q1 hr) e4).mpr ⟨p,hp,q⟩))
    refine pR Rm S.stay (cb _ _ h1) hr nd q1 (ao.mono S.stay (show ao S.B x j' from ri)) Ix (hr.len▸dt q2) fun tk l9 hh=> ?_
    exact au.upd (u:=fun Q _ s=>Q () {s with heap:=s.heap.update a _,toks:=tk}) (f:=Obj.mapDictKeys (·.push ⟨l9,j',v'⟩)) (s' := {S.s with heap:=S.s.heap.update a _,toks:=tk}) h1 rfl rfl (fun _=>nofun) rfl rfl (fun M m1 m2 b hb=>Option.some.inj (ha.symm.trans hb)▸fun G w=>w (us++[⟨l9,j',v'⟩]) _ (m1.trans (congrArg some (congrArg (fun x=>Obj.mk (.type "dict") none (.dict x _) #[]) (List.push_toArray ..)))) (by rw[List.length_append];exact dt q2) (by
      rw[List.map_append,List.nodup_append]
      exact⟨nd,List.nodup_cons.mpr ⟨List.not_mem_nil,.nil⟩,fun y hy w hw=>by cases List.mem_singleton.mp hw;exact(List.mem_map.mp hy).elim fun p hp=>hp.2▸Ix p hp.1⟩) (.append (.cons (show cm (KD S.B) S.R (x,v) ⟨l9,j',v'⟩from⟨⟨ri,hh⟩,rv⟩) .nil) hr)) (fun _=>trivial) (fun Q E q=>q) k kx out Q E e9 ok ex
  |_=>exact nn e
end
theorem Kb{k:V->aq}{out:Oc}{G:Prop}{xs:List V}:∀{j:Nat},atK xs j k=some out->(∀v,xs[j]? =some v->k v=some out->G)->G:=by
 induction xs with
 |nil=>exact fun e=>nn e
 |cons x r ih=>
  intro j
  induction j with
  |zero=>exact fun e g=>g x rfl e
  |succ j=>exact fun e g=>(ih e g:)
theorem pS{s:Shared}{P:V->Value->Prop}{es:List (T×V)}{x:T}{Q:Value->Shared->Prop}(Rm:bu d fs A)(b:Sub B (Heap.get? s.heap))(ho:s.heap.get? a=some (dictAt vs n))(r:av (cm (KD B) P) es vs)(nd:(es.map (·.1)).Nodup)(hk:cX x es=true)(rx:ao s.heap.get? x key)(hv:(x,v)∈es)
  (h:∀k v',P v v' ->Q v' {s with toks:=k}):wpAny M0 A (getItem (.ref a) key) Q E s:=by
 have hT:s.TypeIs (.ref a) "dict":=⟨_,ho,rfl⟩
 unfold getItem
 refine wpAny_holding (wpAny_bind (wpAny_sequenceKey hT (by decide) (wpAny_bind (wpAny_callSpecial?_slot (name:=Str.ofString "__getitem__") hT slot_dict_getitem (wpAny_call_entry slot_dict_getitem hT entry_dict_getitem ?_ (args_dict_getitem _ _))))))
 show wpAny _ _ (dictGet a key>>=_) _ _ s
 have hu:A.in1.units<cLine:=by show A.units+1<cLine;exact Nat.lt_of_le_of_lt (Nat.add_le_add_left (by decide) A.units) (iZ Rm)
 exact wpAny_bind (fU (A:=A.in1) hu b ho r nd (gP hk r) rx (gQ (P:=P) hk) (fun k hn=>absurd rfl (hn _ hv)) fun k u u' hm ru=>wpAny_pure ⟨u',rfl,wpAny_pure (h k u' (rH nd hm hv▸ru))⟩)
theorem Kc{n:Nat}{j:Int}(h:j<0):(j+n).toNat=n-j.natAbs:=by
 induction j with
 |ofNat m=>exact absurd h (Int.not_lt.mpr (Int.natCast_nonneg m))
 |negSucc m=>exact(congrArg Int.toNat (Int.add_comm _ _)).trans (Int.toNat_sub n (m+1))
theorem Ke{n:Nat}{i:Int}(hi:0<=i\/i<0/\-(n:Int)<=i):0<=(if i<0 then i+n else i):=hi.elim (fun h=>by rw[if_neg (Int.not_lt.mpr h)];exact h) fun h=>by rw[if_pos h.1];exact Int.le_trans (Int.le_of_eq (Int.add_left_neg (n:Int)).symm) (Int.add_le_add_right h.2 n)
theorem Kg{n:Nat}{i:Int}(hi:0<=i\/i<0/\-(n:Int)<=i)(tz:(if i<0 then i+n else i).toNat<n):seqIndex? i n=some (if i<0 then i+n else i).toNat:=by
 have h0:=Ke hi
 unfold seqIndex?
 dsimp only
 rw[if_pos]
 rw[decide_eq_true h0,decide_eq_true ((Int.toNat_lt h0).mp tz)];rfl
theorem Kh{i:Int}{n m:Nat}(h:n<=m)(hm:(m:Int)<2^63)(h0:0<=i)(hl:i.toNat<n):i<2^63:=Int.lt_trans ((Int.toNat_lt h0).mp hl) (Int.lt_of_le_of_lt (Int.ofNat_le.mpr h) hm)
theorem Ki{s:Shared}{us:List Value}{Q:Value->Shared->Prop}(hT:t="list"\/t="tuple")(g:s.heap.get? a=some ⟨.type t,none,.seq (List.toArray us) n,#[]⟩)(hl:us.length<=big)(hi:0<=i\/i<0/\-(us.length:Int)<=i)(hj:us[(if i<0 then i+us.length else i).toNat]? =some v)(q:Q v s)
  (hs:∀o i,subscripted slice false o i=operate [o,i] (getItem o i)):wpAny M0 A (subscriptTail value slice (.ref a) (.int i k)) Q E s:=by
 have tz:=(List.getElem?_eq_some_iff.mp hj).1
 have e:=Kg hi tz
 have lo: -2^63<=i/\i<2^63:=hi.elim (fun h=>⟨Int.le_trans (by decide) h,by rw[if_neg (Int.not_lt.mpr h)]at tz;exact Kh hl (by decide) h tz⟩) fun h=>⟨Int.le_trans (Int.le_trans (by decide: -2^63<=-(big:Int)) (Int.neg_le_neg (Int.ofNat_le.mpr hl))) h.2,Int.lt_trans h.1 (by decide)⟩
 rcases hT with rfl|rfl
 ·rcases hi with h0|h0
  ·rw[if_neg (Int.not_lt.mpr h0)]at hj tz
   exact tail_any ⟨_,g,rfl⟩ slot_list_getitem.lookup (wpAny_getItem_list (items:=us.toArray) ⟨_,g,rfl,n,rfl⟩ h0 lo.2 ((List.getElem?_toArray ..).trans hj) q) (hs _ _)
  ·rw[if_pos h0.1]at hj
   exact tail_any ⟨_,g,rfl⟩ slot_list_getitem.lookup (wpAny_getItem_list_neg (items:=us.toArray) ⟨_,g,rfl,n,rfl⟩ h0.1 h0.2 lo.1 ((List.getElem?_toArray ..).trans hj) q) (hs _ _)
 ·exact tail_any ⟨_,g,rfl⟩ F.slot_tuple_getitem.lookup (getItem_tuple (items:=us.toArray) ⟨_,g,rfl,n,rfl⟩ lo.1 lo.2 e ((List.getElem?_toArray ..).trans hj) q) (hs _ _)
theorem Et{S:St fs}{value slice:PySem.Expr}(Rm:bu d fs A)(ru:S.R u u')(rv:S.R v v')(hs:∀o i,subscripted slice false o i=operate [o,i] (getItem o i)):au S rV (Ib u v S.c) (wpAny M0 A (subscriptTail value slice u' v')):=by
 refine .alt (fun b e1=> .opt fun j e2=> .eU fun hj=>fT (C:=fun u' =>au S rV _ (wpAny M0 A (subscriptTail value slice u' v'))) e1 ru fun t hb=>dA (C:=fun v' =>au S rV _ (wpAny M0 A (subscriptTail value slice _ v'))) e2 rv fun t' _=> .toks (v:=Value.int _) (fun _=> .i) fun Q E q=>
  am hj fun h1 h2=>tail_any (PySem.W.typeIs_bytes _ _ _) FB.slot_bytes_getitem.lookup (getItem_bytes (Nat.le_trans hb (by decide)) (dt h1) (dt h2) (q _ _)) (hs _ _)) (.alt (fun xs e1=> .opt fun j e2=>dA (C:=fun v' =>au S rV _ (wpAny M0 A (subscriptTail value slice u' v'))) e2 rv fun t' _=>St.seq (C:=fun u' =>au S rV _ (wpAny M0 A (subscriptTail value slice u' _))) ru e1 fun a vs n T hT g hl hr=> ?_) ?_)
 ·have fin:∀{i:Nat},(0<=j\/j<0/\-(vs.length:Int)<=j)->(if j<0 then j+vs.length else j).toNat=i->au S rV (UI xs i S.c) (wpAny M0 A (subscriptTail value slice (.ref a) (.int j t'))):=fun h1 h2 k kx out Q E e ok ex=>Kb e fun v e1 e2=>hr.fst e1 fun v' e3 r=>Ki hT g (hr.len▸hl) h1 (h2.symm▸e3) (ok v v' S .refl r e2) hs
  refine .ite (fun h=>fin (.inl (dt h)) (by rw[if_neg (Int.not_lt.mpr (dt h))])) fun h=> .eU fun h2=> ?_
  have h:=Int.not_le.mp (of_decide_eq_false h)
  have h2:=dt h2
  rw[<-hr.len]at h2⊢
  exact fin (.inr ⟨h,h2⟩) (by rw[if_pos h];exact Kc h)
 ·exact .opt fun es e1=> .opt fun x e2=> .eU fun hk k kx out Q E e ok ex=>St.XO (C:=fun u' =>wpAny M0 A (subscriptTail value slice u' v') Q E S.s) ru e1 fun a vs n g hl nd hr=>xw (gP hk hr) e fun v hv e3=>tail_any ⟨_,g,rfl⟩ slot_dict_getitem.lookup (pS Rm S.stay g hr nd hk (iV S aN _ x v' e2 rv) hv fun n v' r=>ok v v' (S.go {S.s with toks:=n} .refl rfl) (St.bk rfl) r e3) (hs _ _)
theorem tX{n:Nat}{i:Int}:clipAt n i=(if i<0 then max 0 (i+n)else min i n).toNat:=by
 unfold clipAt
 split
 ·rename_i h
  rw[Int.min_eq_left (by lia)]
 ·rename_i h
  rw[Int.max_eq_right (by omega)]
theorem fV{α:Type}{xs:List α}{lo hi:Option Int}:a8 xs lo hi=(xs.drop (lo.elim 0 (clipAt xs.length))).take (hi.elim xs.length (clipAt xs.length)-lo.elim 0 (clipAt xs.length)):=by
 induction lo<;>induction hi<;>first|rfl|(dsimp only[Option.elim];simp only[tX];rfl)
theorem fz{α:Type}{xs:List α}{lo hi:Option Int}:List.Sublist (a8 xs lo hi) xs:=fV▸(List.take_sublist _ _).trans (List.drop_sublist _ _)
theorem av.take{α β:Type}{P:α->β->Prop}{xs:List α}:∀{ys:List β} {n:Nat},av P xs ys->av P (xs.take n) (ys.take n):=by
 induction xs with
 |nil=>exact fun{ys n} h=>h (fun ys=>av P (List.take n []) (ys.take n)) (by rw[List.take_nil,List.take_nil];exact .nil)
 |cons z xs ih=>
  refine fun{ys n} h=>h (fun ys=>av P ((z::xs).take n) (ys.take n)) fun w r h1 h2=> ?_
  induction n with
  |zero=>exact .nil
  |succ j=>exact .cons h1 (ih h2)
theorem av.drop{α β:Type}{P:α->β->Prop}{xs:List α}:∀{ys:List β} {n:Nat},av P xs ys->av P (xs.drop n) (ys.drop n):=by
 induction xs with
 |nil=>exact fun{ys n} h=>h (fun ys=>av P (List.drop n []) (ys.drop n)) (by rw[List.drop_nil,List.drop_nil];exact .nil)
 |cons z xs ih=>
  refine fun{ys n} h=>h (fun ys=>av P ((z::xs).drop n) (ys.drop n)) fun w r h1 h2=> ?_
  induction n with
  |zero=>exact .cons h1 h2
  |succ j=>exact(ih h2:)
theorem av.cut{α β:Type}{P:α->β->Prop}{xs:List α}{ys:List β}{lo hi:Option Int}(h:av P xs ys):av P (a8 xs lo hi) (a8 ys lo hi):=by
 rw[fV,fV,h.len];exact h.drop.take
theorem zT{us:List Value}{lo hi:Option Int}:slicePick us.toArray lo hi none=List.toArray (a8 us lo hi):=by
 rw[fV,<-Array.toArray_toList (xs:=slicePick us.toArray lo hi none),slicePick_plain,List.size_toArray]
theorem part_of{C:Value->Option Int->Prop}(e:kr v=some o)(r:bE B σ v v')(k:∀p:Option (Int×Tok),C (partValue p) (p.map (·.1))):C v' o:=fb e r fun x e1 e2 r=>by
 cases x with
 |none=>exact(show v' = .none from r)▸so e2 (k none)
 |int i=>exact(show ao B (.int i) v' from r) (fun v' =>C v' o) fun t=>so e2 (k (some (i,t)))
 |_=>exact nn e2
theorem mf(p:Option (Int×Tok)):IsPart (partValue p) (p.map (·.1)):=by
 induction p with
 |none=>exact .none
 |some p=>exact .int _ _
theorem Eu{n:Nat}{i:Int}:clipAt n i<=n:=Int.toNat_le.mpr (Int.max_le.mpr ⟨Int.natCast_nonneg n,Int.min_le_right _ _⟩)
theorem str_idx{n:Nat}{lo hi:Option Int}:Builtin.Str.strSliceIndices lo hi 1 n=(List.range (hi.elim n (clipAt n)-lo.elim 0 (clipAt n))).map (lo.elim 0 (clipAt n)+·):=by
 have e:Builtin.Str.strSliceIndices lo hi 1 n=sliceRange (sliceBounds lo hi none n).1 (sliceBounds lo hi none n).2.1 (sliceBounds lo hi none n).2.2:=by
  induction lo<;>induction hi<;>rfl
 rw[e,sliceBounds_plain,sliceRange_one]
theorem tY{x:Str}{lo hi:Option Int}:(Builtin.Str.strSliceIndices lo hi 1 x.length).filterMap (x.cps[·]?)=a8 x.cps.toList lo hi:=by
 rw[str_idx,pick_run,fV];rfl
theorem rK{x:Str}{lo hi:Option Int}:(Builtin.Str.strSliceIndices lo hi 1 x.length).length=(a8 x.cps.toList lo hi).length:=by
 have b:hi.elim x.length (clipAt x.length)<=x.length:=by
  induction hi with
  |none=>exact Nat.le_refl _
  |some i=>exact Eu
 rw[str_idx,List.length_map,List.length_range,fV,List.length_take,List.length_drop]
 exact(Nat.min_eq_left (Nat.sub_le_sub_right b _)).symm
noncomputable abbrev Kj(x:Str)(lo hi:Option Int):Str:=⟨(a8 x.cps.toList lo hi).toArray⟩
theorem i8{x:Str}:bC x=true↔x.cps.toList.length<=big/\∀y∈x.cps.toList,y<0x110000:=by
 unfold bC
 rw[Bool.and_eq_true,decide_eq_true_eq,<-Array.all_toList,List.all_eq_true,Array.length_toList]
 exact and_congr_right fun _=>⟨fun h y q=>of_decide_eq_true (h y q),fun h y q=>decide_eq_true (h y q)⟩
theorem Ew{x:Str}{lo hi:Option Int}(h:bC x=true):bC (Kj x lo hi)=true:=have h:=i8.mp h;i8.mpr ⟨Nat.le_trans fz.length_le h.1,fun y q=>h.2 y (fz.subset q)⟩
theorem Ey{s:Shared}{Q:Value->Shared->Prop}{x:Str}{t:Tok}{l u:Option (Int×Tok)}(hx:bC x=true)(h:∀t' k,Q (.str (Kj x (l.map (·.1)) (u.map (·.1))) t') {s with toks:=k}):(sliceMade x t l u none).post Q s:=by
 unfold sliceMade
 rw[show slicePicked x l u none=Builtin.Str.strSliceIndices (l.map (·.1)) (u.map (·.1)) 1 x.length from rfl,tY]
 refine post_val_or_made (fun _=> ?_) fun t' k=> ?_
 ·exact bj (Nat.le_trans fz.length_le (i8.mp hx).1)
 ·rw[rK]
  split
  ·rename_i q
   exact am q fun _ q=>by
    have e:=fz.eq_of_length (eq_of_beq q)
    have h:=h t' k
    unfold Kj at h
    rw[e]at h
    exact h
  ·exact h t' k
section
variable{S:St fs}{lo hi:Option PySem.Expr}{l r:Option (Int×Tok)}
theorem Ez(Rm:bu d fs A)(ru:S.R u u')(NO:Heap.IsSliceOf S.s.heap i (partValue l) (partValue r) .none):au S rV (DW u (l.map (·.1)) (r.map (·.1)) S.c) (wpAny M0 A (subscriptTail value (.Slice lo hi none pos) u' (.ref i))):=by
 refine .alt (fun b e=>fT (C:=fun u' =>au S rV _ (wpAny M0 A (subscriptTail value (.Slice lo hi none pos) u' (.ref i)))) e ru fun t hb=> ?_) (.alt (fun x e=>gN (C:=fun u' =>au S rV _ (wpAny M0 A (subscriptTail value (.Slice lo hi none pos) u' (.ref i)))) e ru fun t hb=> ?_) (.opt fun xs e=>St.lst (C:=fun u' =>au S rV _ (wpAny M0 A (subscriptTail value (.Slice lo hi none pos) u' (.ref i)))) ru e fun a vs n g hl hr=> ?_))
 ·refine .toks (v:=fun t=> .bytes (a8 b (l.map (·.1)) (r.map (·.1))).toArray t) (fun _=> .b (Nat.le_trans fz.length_le hb)) fun Q E q=>tail_any (PySem.W.typeIs_bytes _ _ _) FB.slot_bytes_getitem.lookup (getItem_meets (typeIs_bytes _ _ _) (by decide) FB.slot_bytes_getitem FB.entry_bytes_getitem (FB.args_bytes_getitem_2 _ _) (KBc.meets_slice2 b.toArray t _ (mf l) (mf r)) ⟨NO,Nat.le_trans (KBc.size_picked_le _ _ _) (Nat.le_trans hb (by decide)),fun t' k=> ?_⟩) rfl
  rw[KBc.picked_eq,List.size_toArray,<-fV]
  exact q _ _
 ·exact .toks (v:= .str _) (fun _=> .s (Ew hb)) fun Q E q=>tail_any (typeIs_str _ _ _) F.slot_str_getitem.lookup (wpAny_getItem_str_slice (l:=l) (u:=r) (st:=none) NO rfl (Ey hb fun t' k=>q t' k)) rfl
 ·have zU:(a8 xs (l.map (·.1)) (r.map (·.1))).length<=big:=Nat.le_trans fz.length_le hl
  exact .mH (s' := {S.s with heap:=S.s.heap.push (listAt (a8 vs (l.map (·.1)) (r.map (·.1))) 0)}) aT rfl rfl (bw _) hr.cut zU (fun Q E q=>tail_any ⟨_,g,rfl⟩ slot_list_getitem.lookup (wpAny_getItem_list_slice (items:=vs.toArray) ⟨_,g,rfl,n,rfl⟩ NO (mf l) (mf r) .none (fun h=>nomatch h) (by rw[zT];exact q) (by rw[List.size_toArray,hr.len];exact bj hl)) rfl) (aU rfl)
end
theorem Kk{S:St fs}{lo hi:Option PySem.Expr}(Rm:bu d fs A)(ru:S.R u u')(ra:S.R a a')(rb:S.R b b'):au S rV (DX u a b S.c) fun Q E s=>wpAny M0 A (newFields "slice" [a',b',.none]) (fun i s₂=>wpAny M0 A (subscriptTail value (.Slice lo hi none pos) u' i) Q E s₂) E s:=
 .opt fun l e1=> .opt fun r e2=>part_of (C:=fun a' l=>au S rV (DW u l r S.c) fun Q E s=>wpAny M0 A (newFields "slice" [a',b',.none]) (fun i s₂=>wpAny M0 A (subscriptTail value (.Slice lo hi none pos) u' i) Q E s₂) E s) e1 ra fun l=>part_of (C:=fun b' r=>au S rV (DW u _ r S.c) fun Q E s=>wpAny M0 A (newFields "slice" [_,b',.none]) (fun i s₂=>wpAny M0 A (subscriptTail value (.Slice lo hi none pos) u' i) Q E s₂) E s) e2 rb fun r=>
  have x:aQ [] S (S.go {S.s with heap:=S.s.heap.push ⟨.type "slice",none,.fields #[partValue l,partValue r,.none],#[]⟩} aT rfl):=St.bk rfl
  .after x (Ez Rm (x.R ru) (Heap.IsSliceOf.new ..)) fun Q E q=>wpAny_newObj_type q (by show 3<=_;exact(by decide:3<=sizeLine+2))
end
section
set_option autoImplicit true
open PySem PySem.W PyProof.Rows PySem.Calls
open Builtin
theorem zV{M:Model}{s:Shared}{E:Value->Shared->Prop}{β:Type}{f:Nat->β->Sem (ForInStep β)}{Q:β->Shared->Prop}{n:Nat}(b:Nat->β)(turn:∀i,i<n->∀Q,Q (.yield (b (i+1))) s->wpAny M A (f i (b i)) Q E s)(h:Q (b n) s):wpAny M A (forIn [0:n] (b 0) f) Q E s:=by
 rw[Std.Legacy.Range.forIn_eq_forIn_range']
 have go:∀k i,i+k=n->wpAny M A (forIn (List.range' i k 1) (b i) f) Q E s:=by
  intro k
  induction k with
  |zero=>exact fun i e=>by induction e;exact wpAny_pure h
  |succ k ih=>
   refine fun i e=> ?_
   rw[List.range'_succ,List.forIn_cons]
   exact wpAny_bind (turn i (by omega) _ (ih (i+1) (by lia)))
 rw[show Std.Legacy.Range.size [0:n]=n by simp [Std.Legacy.Range.size]]
 exact go n 0 (Nat.zero_add n)
theorem EA{id:String}{b:Array UInt8}{t:Tok}:Bytes.takeBuffer? id (.bytes b t) 0=pure (some (b,none)):=by
 unfold Bytes.takeBuffer?
 rw[KBy.special_eq KBy.look_buffer,KBy.own_buffer,show((0:Int)==Bytes.fullReadOnly)=false by decide]
 rw[KBy.buffer_eq]
 rfl'
theorem tZ{M:Model}{s:Shared}{id:String}{b:Array UInt8}{t:Tok}{Q:Option (Array UInt8×Option Value)->Shared->Prop}(h:Q (some (b,none)) s):wpAny M A (Bytes.takeBufferQuiet? id (.bytes b t) 0) Q E s:=by
 unfold Bytes.takeBufferQuiet?
 refine wpAny_bind (wpAny_attempt ?_)
 rw[EA]
 exact wpAny_pure (wpAny_pure h)
theorem Kl{M:Model}{s:Shared}{taken:List (Value×Option Value)}:∀{keep:List Value} {Q:Unit->Shared->Prop},(∀p∈taken,p.2=none)->Q () s->wpAny M A (Bytes.joinLetGo taken keep) Q E s:=by
 induction taken with
 |nil=>exact fun _ h=>wpAny_pure h
 |cons p r ih=>
  obtain⟨x,u⟩:=p
  intro keep Q hp h
  cases hp (x,u) (.head _)
  exact wpAny_bind (f:=fun _=>Bytes.joinLetGo r keep) (wpAny_letGo (ih (fun p Km=>hp p (.tail _ Km)) h))
noncomputable abbrev jv(p:List UInt8×Tok):Value:= .bytes p.1.toArray p.2
noncomputable abbrev jL(ps:List (List UInt8×Tok)):List UInt8:=(ps.map (·.1)).flatten
theorem mZ{l:List (List UInt8×Tok)}:Bytes.joined #[] (l.map (·.1.toArray))=(jL l).toArray:=by
 unfold Bytes.joined
 have go:∀(l:List (List UInt8×Tok)) (n:Nat) (out:Array UInt8),((l.map (·.1.toArray)).zipIdx n).foldl (fun out (p:Array UInt8×Nat)=>(if p.2>0 then out++ #[]else out)++p.1) out=out++(jL l).toArray:=by
  intro l
  induction l with
  |nil=>exact fun n out=>(Array.append_empty ..).symm
  |cons x l ih=>
   intro n out
   rw[List.map_cons,List.zipIdx_cons,List.foldl_cons,ih,Array.append_empty,ite_self,Array.append_assoc];exact congrArg (out++·) (List.append_toArray ..)
 exact(go l 0 #[]).trans (Array.empty_append ..)
theorem zW{l:List (List UInt8×Tok)}:∀{n:Nat},(l.map (·.1.toArray)).foldl (fun x1 x2=>x1+Array.size x2) n=n+(jL l).length:=by
 induction l with
 |nil=>exact rfl
 |cons p l ih=>
  intro n
  rw[List.map_cons,List.foldl_cons,ih,List.size_toArray,Nat.add_assoc]
  exact congrArg (n+·) (List.length_append ..).symm
theorem zX{vs:List V}:∀{us:List Value} {b:List UInt8} {G:Prop},oi vs=some b->av (bE B σ) vs us->(∀ps:List (List UInt8×Tok),us=ps.map jv->b=jL ps->G)->G:=by
 induction vs with
 |nil=>exact fun{us b G} e h g=>g [] (h (fun us=>us=[]) rfl) (Option.some.inj e).symm
 |cons x vs ih=>
  exact fun{us b G} e h g=>ae e fun y e1 e=>ae e fun z e2 e=>h (fun us=>(∀ps:List (List UInt8×Tok),us=ps.map jv->b=jL ps->G)->G) (fun v r h1 h2 g=>fT (C:=fun v=>(∀ps:List (List UInt8×Tok),v::r=ps.map jv->b=jL ps->G)->G) e1 h1 (fun t _ g=>ih e2 h2 fun ps e3 e4=>g ((y,t)::ps) (congrArg (_::·) e3) ((Option.some.inj e).symm.trans (congrArg (y++·) e4))) g) g
section
variable{ps:List (List UInt8×Tok)}{s:Shared}{T:String}
theorem Kp{motive:Array Value->Type}{l:List Value}(h1:∀x,motive #[x])(h2:∀x,motive x)(hl:l.length≠1):Bytes.joinM.match_1 motive (List.toArray l) h1 h2=h2 _:=by
 induction l with
 |nil=>rfl
 |cons x l=>
  induction l with
  |nil=>exact absurd rfl hl
  |cons y l=>rfl
theorem EB(l:List (List UInt8×Tok)):(false||(l.map fun p=>(jv p,(none:Option Value))).any (·.1.onHeap))=false:=by
 induction l with
 |nil=>rfl
 |cons p l ih=>exact ih
theorem t5{t:Tok}{a:Addr}{n:Nat}(hT:T="list"\/T="tuple")(hz:(jL ps).length<=big):
  Meets (Builtin.«bytes.join» ⟨[.bytes #[] t,.ref a],[]⟩) (fun _ R s=>s.heap.get? a=some ⟨.type T,none,.seq (ps.map jv).toArray n,#[]⟩/\∀t' k,R (.ok (.ret (.bytes (jL ps).toArray t'))) {s with toks:=k}):=by
 refine .of_wp fun prog w A R s hS=> ?_
 have ho:=hS.1
 have h:=hS.2
 clear hS
 unfold Builtin.«bytes.join» Bytes.joinM
 show wpAny _ _ (Bytes.joinItems (.ref a)>>=fun r=>_) _ _ s
 refine wpAny_bind ?_
 unfold Bytes.joinItems
 refine wpAny_bind (wpAny_typeOf (T:=T) ⟨_,ho,rfl⟩ (bm_if_true (by rcases hT with rfl|rfl<;>rfl) (wpAny_pure (wpAny_bind (wpAny_seqItems ho rfl (bm_if_true rfl ?_))))))
 by_cases h1:ps.length=1
 ·obtain⟨p,rfl⟩:=List.length_eq_one_iff.mp h1
  refine wpAny_bind (wpAny_typeOf (typeIs_bytes _ _ _) (bm_if_true rfl (wpAny_bind (wpAny_rule (wpAny_pure ⟨_,rfl,?_⟩)))))
  have:=h p.2 s.toks
  rw[show jL [p]=p.1 from List.append_nil _]at this
  exact this
 ·rw[Kp _ _ (by rw[List.length_map];exact h1)]
  refine wpAny_bind (zV (fun i=>(⟨((ps.take i).map (·.1.toArray)).toArray,(ps.take i).map fun p=>(jv p,none)⟩:Array (Array UInt8)×List (Value×Option Value))) (fun i hi Q q=> ?_) ?_)
  ·refine wpAny_bind (wpAny_seqItems ho rfl (bm_if_false (EB _) ?_))
   have NO:i<ps.length:=(List.length_map jv▸List.size_toArray (as:=ps.map jv)▸hi:)
   have hx:(ps.map jv).toArray.getD i .none=jv ps[i]:=by
    rw[Array.getD_eq_getD_getElem?,List.getElem?_toArray,List.getElem?_map,List.getElem?_eq_getElem NO];rfl
   rw[hx]
   refine wpAny_bind (wpAny_holding (tZ ?_))
   refine wpAny_bind (wpAny_seqItems ho rfl (bm_if_false (bne_self_eq_false _) (wpAny_pure ?_)))
   rw[<-List.take_append_getElem NO,List.map_append,List.map_append]at q
   exact List.push_toArray _ _▸q
  ·rw[List.size_toArray,List.length_map,List.take_length]
   refine wpAny_bind (wpAny_of_eq (a:= #[]) rfl (bm_if_false ?_ (wpAny_bind (wpAny_mkBytes (wpAny_bind (wpAny_holding (wpAny_point (wpAny_bind (Kl (fun p hp=>(List.mem_map.mp hp).elim fun _ q=>q.2▸rfl) (wpAny_pure ⟨_,rfl,?_⟩)))))) ?_))))
   ·rw[List.foldl_toArray,zW]
    refine KBy.tooLong_not ?_
    show 0*_+_<=_
    rw[Nat.zero_mul,Nat.zero_add]
    exact Nat.le_trans hz (by decide)
   ·have e:=mZ (l:=ps)
    have h:=h s.toks (s.toks+1)
    rw[<-e]at h
    exact h
   ·show(Bytes.joined #[] (ps.map (·.1.toArray))).size<=sizeLine
    rw[mZ,List.size_toArray];exact bj hz
end
end
section
set_option autoImplicit true
open PySem PySem.W PyProof.Rows PySem.Calls
open Builtin Builtin.Str
noncomputable def fW(x:Str):List Str:=(lX 32 [] x.cps.toList).map fun l=>⟨l.toArray⟩
noncomputable def pT(x:Str):Prop:=((spaceWords x (x.length+1)==[(0,x.length)])=false/\PySem.wordsOf x=fW x/\(decide (x.length<Str.length ⟨#[32]⟩)||decide (strKind x<strKind ⟨#[32]⟩))=false/\(occurrences x ⟨#[32]⟩ 0 x.length (x.length+1)).isEmpty=false/\partsBetween x (occurrences x ⟨#[32]⟩ 0 x.length (x.length+1)) 1=fW x)
  /\(x.length<=1000/\(fW x).length<=1000/\(spaceWords x (x.length+1)).length<=1000/\(fW x).all bC=true)
noncomputable def t6(x:Str):Str:=⟨(x.cps.toList.dropWhile fun y=>y9.cps.toList.contains y).toArray⟩
noncomputable def zY(x:Str):Prop:=Txt.lstripChars x y9=t6 x/\occurrences x tD 0 x.length 1=(lY tD.cps.toList x.cps.toList 0).toList/\x.length<=1000/\bC (t6 x)=true
theorem xA:∀x∈y8,pT x:=by unfold pT;decide+kernel
theorem ot:∀x∈mF,zY x:=by unfold zY;decide+kernel
theorem xB{l:List Str}:∀{n:Nat},l.all bC=true->bN B (l.map .str) (strsFrom n l):=by
 induction l with
 |nil=>exact fun _ G g=>g
 |cons x l ih=>exact fun h=>am h fun h1 h2 G g=>g _ _ (.s h1) (ih h2)
section
variable{S:St fs}
theorem ou{u:PT Value}{x:Str}{k n:Nat}(h:pT x)(f:∀Q E,Q (.ref S.s.heap.objs.size) {S.s with toks:=k,heap:=S.s.heap.push ⟨.type "list",none,.seq (strsFrom n (fW x)).toArray 0,#[]⟩}->u Q E S.s):au S rV (aJ (.t (mI 32 x.cps.toList)) S.c) u:=by
 rw[show mI 32 x.cps.toList= .lst ((fW x).map .str) by unfold mI fW;rw[List.map_map];rfl]
 exact .Eb (s' := {S.s with toks:=k,heap:=S.s.heap.push ⟨.type "list",none,.seq (strsFrom n (fW x)).toArray 0,#[]⟩}) aT rfl rfl (bw _) (fun B' _ e G g=>g _ _ _ (e.trans (aU rfl)) (by rw[List.length_map];exact Nat.le_trans h.2.2.1 (by decide)) (xB h.2.2.2.2)) f
theorem zZ{x:Str}{t:Tok}{us:List Value}(h:pT x)(hu:us=[]\/∃u,us=[.str ⟨#[32]⟩ u]):au S rV (aJ (.t (mI 32 x.cps.toList)) S.c) (wpAny M0 A (call (.builtin "str.split") (.str x t::us))):=by
 have k:1000<=sizeLine:=bj (by decide)
 rcases hu with rfl|⟨u,rfl⟩
 ·refine ou (k:=S.s.toks+(spaceWords x (x.length+1)).length) (n:=S.s.toks) h fun Q E q=>call_meets F.slot_str_split (typeIs_str _ _ _) F.entry_str_split (F.args_str_split_1 _) (meets_str_split_space x t (Nat.le_trans h.2.1 k) (Nat.le_trans h.2.2.2.1 k)) ?_
  show(if _ then _ else _)
  rw[h.1.1,h.1.2.1]
  exact q
 ·refine ou (k:=S.s.toks+(fW x).length) (n:=S.s.toks) h fun Q E q=>call_meets F.slot_str_split (typeIs_str _ _ _) F.entry_str_split (F.args_str_split_2 _ _) (meets_str_split_sep x ⟨#[32]⟩ t u h.1.2.2.1 rfl h.1.2.2.2.1 (Nat.le_trans h.2.1 k) (by show(partsBetween x _ 1).length<=_;rw[h.1.2.2.2.2];exact Nat.le_trans h.2.2.1 k)) ?_
  show wants Q E _ {S.s with toks:=S.s.toks+(partsBetween x (occurrences x ⟨#[32]⟩ 0 x.length (x.length+1)) 1).length,heap:=S.s.heap.push {cls:= .type "list",data:= .seq (strsFrom S.s.toks (partsBetween x (occurrences x ⟨#[32]⟩ 0 x.length (x.length+1)) 1)).toArray}}
  rw[h.1.2.2.2.2]
  exact q
theorem Kq{es:List (T×V)}(g:S.h a=some (dictAt vs n))(r:av (cm (KD S.B) S.R) es vs)(hk:∀p∈es,kq p.1=true):(a==sysModules)=false:=beq_eq_false_iff_ne.mpr fun e=>S.base.elim fun H q=>q.1.sys _ fun o YP ep en r' y t hB hd hl hy=>by
 cases (congrArg S.h e▸g:S.h sysModules=_).symm.trans (S.stay _ _ (q.2 _ _ hB))
 injection hd with hd
 rw[<-hd]at hl
 refine r.at (i:=0) (y:=en) (by rw[show vs=en::r' from hl];rfl) fun p hp h=> ?_
 have h1:=h.key.rep
 have h2:=hk p (List.mem_of_getElem? hp)
 rw[hy]at h1
 revert h1 h2
 cases p.1 with
 |tup zs=>exact fun h1 _=>h1 (fun v=>v= .str y t->False) (fun a _ _ _ _ _ e=>nomatch e) rfl
 |_=>exact fun _ h=>ft h
theorem Kr(Rm:bu d fs A){es:List (T×V)}(g:S.h a=some (dictAt vs n))(nd:(es.map (·.1)).Nodup)(hr:av (cm (KD S.B) S.R) es vs)(hk:cX x es=true)(ht:∀p∈es,kq p.1=true)(rx:ao S.h x key)(rd:S.R dv XQ):au S rV (fun k _=>bJ x es dv fun v=>k v S.c) (wpAny M0 A (call (.builtin "dict.get") [.ref a,key,XQ])):=fun k kx out Q E e ok ex=>by
 have hT:S.s.TypeIs (.ref a) "dict":=⟨_,g,rfl⟩
 refine wpAny_call_entry F.slot_dict_get hT F.entry_dict_get ?_ (F.args_dict_get_3 _ _ _)
 show wpAny _ _ (dictGet a key>>=_) _ _ S.s
 have hu:A.in1.units<cLine:=by show A.units+1<cLine;exact Nat.lt_of_le_of_lt (Nat.add_le_add_left (by decide) A.units) (iZ Rm)
 have fin:∀{v v' n},S.R v v' ->k v S.c=some out->Q v' {S.s with toks:=n}:=fun{v v' n} r e=>ok v v' (S.go {S.s with toks:=n} .refl rfl) (St.bk rfl) r e
 have ko:=gP hk hr
 refine tR ko e (fun v hv e=>wpAny_bind (fU (A:=A.in1) hu S.stay g hr nd ko rx (gQ (P:=S.R) hk) (fun n hn=>absurd rfl (hn _ hv)) fun n u u' hm ru=>wpAny_pure ⟨u',rfl,fin (rH nd hm hv▸ru) e⟩)) fun Ix e=>wpAny_bind (fU (A:=A.in1) hu S.stay g hr nd ko rx (gQ (P:=S.R) hk) (fun n hn=> ?_) fun n u u' hm ru=>absurd rfl (Ix _ hm))
 show wpAny _ _ (Builtin.Dict.missed a key>>=_) _ _ _
 exact wpAny_bind (wpAny_missed_other (Kq g hr ht) (wpAny_pure ⟨XQ,rfl,fin rd e⟩))
section
variable{a:Addr}{xs:List V}{us:List Value}{n:Nat}(g:iy S.ow S.s.heap i a=some (listAt us n))(ha:S.σ[i]? =some a)(hr:S.Rs xs us)
include g ha hr
theorem xC(rv:S.R v v')(hb:xs.length<big):au S rV (setM i (.lst (xs++[v])) S.c) (wpAny M0 A (call (.builtin "list.append") [.ref a,v'])):=
 .upd (f:=Obj.mapSeq fun x=>x.push v') (s' := {S.s with heap:=S.s.heap.update a _}) g rfl rfl (fun _=>nofun) rfl rfl (fun M m1 m2 b UT=>Option.some.inj (ha.symm.trans UT)▸fun G w=>w (us++[v']) _ (m1.trans (congrArg some (congrArg (fun x=>Obj.mk (.type "list") none (.seq x _) #[]) (List.push_toArray ..)))) (by rw[List.length_append];exact hb) (.append (.cons rv .nil) hr)) (fun _=>(rfl:Value.none= .none))
  fun Q E q=>call_meets F.slot_list_append ⟨_,cb _ _ g,rfl⟩ F.entry_list_append (F.args_list_append_2 _ _) (PySem.AutoListH.list_append_list_val_0 a us.toArray n v' (by rw[List.size_toArray,hr.len];exact bj (Nat.le_of_lt hb))) ⟨cb _ _ g,q⟩
theorem xD{ys:List V}{ws:List Value}(g2:S.h b=some (listAt ws m))(TW:S.Rs ys ws)(hb:xs.length+ys.length<=big):au S rV (setM i (.lst (xs++ys)) S.c) (wpAny M0 A (call (.builtin "list.extend") [.ref a,.ref b])):=by
 have hl:us.length+ws.length<=big:=by rw[hr.len,TW.len];exact hb
 refine .upd (f:=Obj.mapSeq fun x=>x++ws.toArray) (s' := {S.s with heap:=S.s.heap.update a _}) g rfl rfl (fun _=>nofun) rfl rfl (fun M m1 m2 b UT=>Option.some.inj (ha.symm.trans UT)▸fun G w=>w (us++ws) _ (m1.trans (congrArg some (congrArg (fun x=>Obj.mk (.type "list") none (.seq x _) #[]) (List.append_toArray ..)))) (by rw[List.length_append];exact hb) (.append TW hr)) (fun _=>(rfl:Value.none= .none))
  fun Q E q=>call_meets F.slot_list_extend ⟨_,cb _ _ g,rfl⟩ F.entry_list_extend (F.args_list_extend_2 _ _) (PySem.AutoSeq1.list_extend_list_list_0 a us.toArray n b ws.toArray m ?_ ?_ ?_) ⟨cb _ _ g,g2,q⟩
 ·exact fun h=>am h fun _ h=>absurd (dt h) (Nat.not_lt.mpr (Nat.le_trans (by rw[List.size_toArray,List.size_toArray];exact hl) (by decide)))
 ·rw[List.size_toArray];exact bj (Nat.le_trans (Nat.le_add_right _ _) hl)
 ·rw[List.size_toArray,List.size_toArray];exact Nat.le_succ_of_le (bj hl)
end
end
section
variable{S:St fs}
theorem pU{C:Value->Prop}{y:Str}(e:iu v=some a)(q:sEq a y=true)(r:S.R v v')(k:∀t,C (.str y t)):C v' :=gN e r fun t _=>(bZ q:a=y)▸k t
theorem EC{o' :Value}{us:List Value}(ro:S.R o o')(r:S.Rs args us):au S rV (zg .join o args S.c) (wpAny M0 A (call (.builtin "bytes.join") (o' ::us))):= .opt fun b e1=> .eU fun hb=> .opt fun v e2=>gO (C:=fun us=>au S rV _ (wpAny M0 A (call (.builtin "bytes.join") (o' ::us)))) e2 r fun u r=> .opt fun xs e3=> .opt fun z e4=> .eU fun hz=>fT (C:=fun o' =>au S rV _ (wpAny M0 A (call (.builtin "bytes.join") [o',u]))) e1 ro fun t _=>St.lst (C:=fun u=>au S rV _ (wpAny M0 A (call (.builtin "bytes.join") [_,u]))) r e3 fun a ws n g _ hr=>zX e4 hr fun ps e5 e6=>by
 induction b with
 |cons=>cases hb
 |nil=>
  rw[e5]at g
  have hz:(jL ps).length<=big:=e6▸dt hz
  exact .toks (v:= .bytes _) (fun _=> .b (dt ‹_›)) fun Q E q=>call_meets gm (PySem.W.typeIs_bytes _ _ _) kC (jC _ _) (t5 (t:=t) (n:=n) (.inl rfl) hz) ⟨g,fun t' n=>e6▸q _ _⟩
theorem ED{o' :Value}{us:List Value}(Rm:bu d fs A)(ro:S.R o o')(r:S.Rs args us):au S rV (zg m o args S.c) (wpAny M0 A (call (.builtin m.id) (o' ::us))):=by
 induction m with
 |split=>
  refine .opt fun x e1=> .eU fun h1=> .eU fun h2=>gN (C:=fun o' =>au S rV _ (wpAny M0 A (call (.builtin "str.split") (o' ::us)))) e1 ro fun t _=>zZ (xA x (ib h1)) ?_
  induction args with
  |nil=>exact r (fun us=>us=[]\/_) (.inl rfl)
  |cons v l=>
   refine am h2 fun h5 h6=>r (fun us=>us=[]\/∃u,us=[.str ⟨#[32]⟩ u]) fun u rest r1 r2=> ?_
   induction l with
   |cons=>cases h6
   |nil=>exact r2 (fun l=>_\/∃w,u::l=[.str ⟨#[32]⟩ w]) (cz (o:=iu v) (P:=fun b=>b=true->_) (fun a e q=>pU (C:=fun u=>_\/∃w,[u]=[.str ⟨#[32]⟩ w]) e q r1 fun t=> .inr ⟨t,rfl⟩) (fun e=>ft e) h5)
 |lstrip=>
  exact .opt fun x e1=> .opt fun v e2=> .opt fun a e3=> .eU fun h=>am h fun h1 h2=>gO (C:=fun us=>au S rV _ (wpAny M0 A (call (.builtin "str.lstrip") (o' ::us)))) e2 r fun u r=>pU (C:=fun u=>au S rV _ (wpAny M0 A (call (.builtin "str.lstrip") [o',u]))) e3 h2 r fun t' =>gN (C:=fun o' =>au S rV _ (wpAny M0 A (call (.builtin "str.lstrip") [o',_]))) e1 ro fun t _=>by
   have k:=ot x (ib h1)
   cases bZ h2
   exact .toks (v:= .str (t6 x)) (fun _=> .s k.2.2.2) fun Q E q=>SC.lstripChars (fun t' n=>by rw[k.1];exact q t' n) (Nat.le_trans k.2.2.1 (bj (by decide)))
 |index=>
  exact .opt fun x e1=> .opt fun v e2=> .opt fun a e3=> .eU fun h=>am h fun h1 h2=> .opt fun i e4=>gO (C:=fun us=>au S rV _ (wpAny M0 A (call (.builtin "str.index") (o' ::us)))) e2 r fun u r=>pU (C:=fun u=>au S rV _ (wpAny M0 A (call (.builtin "str.index") [o',u]))) e3 h2 r fun t' =>gN (C:=fun o' =>au S rV _ (wpAny M0 A (call (.builtin "str.index") [o',_]))) e1 ro fun t _=>by
   have k:=(ot x (ib h1)).2.1
   cases bZ h2
   rw[show lY tD.cps.toList x.cps.toList 0=some i from e4]at k
   exact .toks (v:= .int i) (fun _=> .i) fun Q E q=>SC.index (i:=i) (rest:=[]) k (q _ _)
 |join=>exact EC ro r
 |get=>
  exact .opt fun es e1=> .opt fun p e2=> .opt fun x e3=> .eU fun h=>am h fun h1 h2=>zG (C:=fun us=>au S rV _ (wpAny M0 A (call (.builtin "dict.get") (o' ::us)))) e2 r fun u w r1 r2=>St.XO (C:=fun o' =>au S rV _ (wpAny M0 A (call (.builtin "dict.get") [o',u,w]))) ro e1 fun a vs n g _ nd hr=>Kr Rm g nd hr h2 (fun p hp=>by
   cases x with
   |tup l=>exact am h2 fun _ h=>List.all_eq_true.mp h p hp
   |_=>cases h1) (iV S aN _ x u e3 r1) r2
 |append=>
  exact .opt fun i e1=> .opt fun v e2=> .opt fun y e3=> .opt fun xs e4=> .eU fun hb=>gO (C:=fun us=>au S rV _ (wpAny M0 A (call (.builtin "list.append") (o' ::us)))) e2 r fun u r=>by
   induction o with
   |t=>exact nn e1
   |loc=>
    cases Option.some.inj e1
    induction y with
    |lst=>
     cases Option.some.inj e4
     exact ro (fun o' =>au S rV _ (wpAny M0 A (call (.builtin "list.append") [o',u]))) fun a ha=>S.cells _ _ a e3 ha _ fun vs n g hl hr=>xC g ha hr r (dt hb)
    |_=>exact nn e4
 |extend=>
  exact .opt fun i e1=> .opt fun v e2=> .opt fun y e3=> .opt fun xs e4=> .opt fun ys e5=> .eU fun hb=>gO (C:=fun us=>au S rV _ (wpAny M0 A (call (.builtin "list.extend") (o' ::us)))) e2 r fun u r=>by
   induction o with
   |t=>exact nn e1
   |loc=>
    cases Option.some.inj e1
    induction y with
    |lst=>
     cases Option.some.inj e4
     exact ro (fun o' =>au S rV _ (wpAny M0 A (call (.builtin "list.extend") [o',u]))) fun a ha=>S.cells _ _ a e3 ha _ fun vs n g hl hr=>St.lst (C:=fun u=>au S rV _ (wpAny M0 A (call (.builtin "list.extend") [_,u]))) r e5 fun b ws m g2 _ TW=>xD g ha hr g2 TW (dt hb)
    |_=>exact nn e4
end
end
section
set_option autoImplicit true
open PySem PySem.W PyProof.Rows PySem.Calls
noncomputable def aZ(env:Env):List Addr:=env.locals::env.cells.map (·.2)
structure bx(sc:Scope)(env:Env):Prop where
 kind:env.scope.kind= .function
 globals:env.globals=mainGlobals
 builtins:env.builtins=builtinsNs
 loc:∀id,bp sc id= .loc->env.kindOf id=some .local
 cell:∀id,bp sc id= .tw->env.kindOf id=some .cell
 free:∀id,bp sc id= .yK->env.kindOf id=some .free\/env.kindOf id=some .cell
 glob:∀id,bp sc id= .va->env.kindOf id=some .globalImplicit
 one:env.cells=[]\/∃n k,env.cells=[(n,k)]/\k≠env.locals
noncomputable def gR(glob:Str->Option T):Prop:=∀H,Bs H->∀G:Prop,(∀mg mb,H.Ns mainGlobals mg->H.Ns builtinsNs mb->(∀id t,glob id=some t->∀G:Prop,(∀v,mg id=some v\/(mg id=none/\mb id=some v)->ao H.get? t v->G)->G)->G)->G
theorem St.at{S:St fs}{G:Prop}(g:∀H,Bs H->Sub H.get? S.B->H.StaysIn S.s.heap->G):G:=S.base.elim fun H h=>g H h.1 h.2 fun b o e=>S.stay b o (h.2 b o e)
structure Lc(S:St fs)(env:Env)(l:Loc):Prop where
 fX:∀z∈aZ env,S.Al z/\Plain S.s.heap z
 ns:∀G:Prop,(∀m,S.s.heap.Ns env.locals m->(∀x v,env.kindOf x=some .local->look l x=some v->∀G:Prop,(∀v',m x=some v' ->S.R v v' ->G)->G)->G)->G
 cl:∀x v,(env.kindOf x=some .cell\/env.kindOf x=some .free)->look l x=some v->∀G:Prop,(∀k v',env.cells.lookup x=some k->S.s.heap.IsCell k (some v')->S.R v v' ->G)->G
 cv:∀x,env.kindOf x=some .cell->∀G:Prop,(∀k v₀,env.cells.lookup x=some k->S.s.heap.IsCell k v₀->G)->G
theorem fA{α:Type}{x:Str}{k:α}{l:List (Str×α)}:l.lookup x=some k->k∈l.map (·.2):=by
 induction l with
 |nil=>exact fun e=>nn e
 |cons p r ih=>
  rw[List.lookup_cons]
  cases x==p.1 with
  |true=>exact fun e=>Option.some.inj e▸.head _
  |false=>exact fun e=> .tail _ (ih e)
section
variable{S S' :St fs}{env:Env}{l:Loc}{W:List Addr}(L:Lc S env l)(x:aQ W S S')(w:∀z∈aZ env,z∉W)
include L x w
theorem Lc.get{G:Prop}(hz:z∈aZ env){o:Obj}(e:S.h z=some o)(g:∀sl,S'.h z=some {o with slots:=sl}->G):G:=
 Classical.byCases (fun q:z∈et fs=>(x.d8 z o q (w z hz) e).elim g) fun q=>g o.slots (x.cK z o (L.fX z hz).1.2 q (w z hz) e)
theorem Lc.move:Lc S' env l where
 fX:=fun z hz=>(L.fX z hz).2 _ fun o e q=>have k:=x.keep z o (w z hz) (L.fX z hz).1.2 e;⟨⟨k.2 (L.fX z hz).1.1,k.1⟩,fun G g=>L.get x w hz e fun sl e' =>g _ e' q⟩
 ns:=fun G g=>L.ns G fun m hm hv=>hm.elim fun o h=>h.elim fun es h=>h.elim fun ep h=>L.get x w (.head _) h.1 fun sl e=>g m ⟨_,es,ep,e,h.2⟩ fun y v k e G g=>hv y v k e G fun v' e r=>g v' e (x.R r)
 cl:=fun y v k e G g=>L.cl y v k e G fun k v' e h r=>h.elim fun o h=>L.get x w (.tail _ (fA e)) h.1 fun sl e' =>g k v' e ⟨_,e',h.2⟩ (x.R r)
 cv:=fun y k G g=>L.cv y k G fun k v' e h=>h.elim fun o h=>L.get x w (.tail _ (fA e)) h.1 fun sl e' =>g k v' e ⟨_,e',h.2⟩
end
theorem Lc.ext{S S' :St fs}{env:Env}{l:Loc}(L:Lc S env l)(x:aQ [] S S'):Lc S' env l:=L.move x fun _ _=>List.not_mem_nil
section
variable{S:St fs}{env:Env}{l:Loc}{g:Str->Option T}(G:gR g)(hE:bx sc env)
include G hE
theorem jD{Q:Value->Shared->Prop}{y:Str}(ht:g y=some t)(hk:env.kindOf y=some .globalImplicit)(ok:∀v',ao S.B t v' ->Q v' S.s):wpAny M0 A (loadName env y) Q E S.s:=S.at fun H hH hB stay=>G H hH _ fun mg mb g1 g2 g3=>g3 y t ht _ fun v' h1 h2=>by
 have hg:wpAny M0 A (loadGlobal env y) Q E S.s:=h1.elim (fun h1=>Calls.loadGlobal_global (by rw[hE.globals];exact g1.keeps stay) h1 (ok _ (h2.mono hB))) fun h1=>Calls.loadGlobal_builtin (by rw[hE.globals];exact g1.keeps stay) h1.1 (by rw[hE.builtins];exact g2.keeps stay) h1.2 (ok _ (h2.mono hB))
 have hb:env.blockKind= .function:=by unfold Env.blockKind;rw[hE.kind];rfl
 unfold loadName
 rw[show env.scope.kind.isAnnotationScope=false by rw[hE.kind];rfl,hb,hk]
 exact hg
theorem EF{x:Cx}{y:Str}(hx:x.glob=g)(hs:x.scope=sc)(L:Lc S env l):au S rV (aG (zh x l y) fun v=>aJ v S.c) (wpAny M0 A (loadName env y)):= .opt fun v e=>by
 unfold zh at e
 rw[hx,hs]at e
 have hc:(env.kindOf y=some .cell\/env.kindOf y=some .free/\(y==Str.ofString "__classdict__")=false)->look l y=some v->au S rV (aJ v S.c) (wpAny M0 A (loadName env y)):=fun h e=>L.cl y v (h.imp id fun h=>h.1) e _ fun k v' e1 e2 r=>
  .fin S .refl r fun Q E q=>h.elim (fun h=>wpAny_loadName_cell hE.kind h e1 e2 q) fun h=>wpAny_loadName_free hE.kind h.1 e1 e2 q h.2
 revert e
 cases q:bp sc y with
 |loc=>exact fun e=>L.ns _ fun m n1 n2=>n2 y v (hE.loc y q) e _ fun v' e1 r=> .fin S .refl r fun Q E=>wpAny_loadName_local hE.kind (hE.loc y q) n1 e1
 |tw=>exact hc (.inl (hE.cell y q))
 |yK=>
  exact fun e=>by
   cases q2:y==Str.ofString "__classdict__" with
   |true=>rw[q2]at e;exact nn e
   |false=>rw[q2]at e;exact hc ((hE.free y q).elim (fun h=> .inr ⟨h,q2⟩) .inl) e
 |va=>exact fun e=>ae e fun t ht e=>so (P:=fun v=>au S rV (aJ v S.c) (wpAny M0 A (loadName env y))) e fun k kx out Q E e ok ex=>jD G hE ht (hE.glob y q) fun v' r=>ok (.t t) _ S .refl r e
 |bad=>exact fun e=>nn e
end
noncomputable def bO(d:Nat)(sp:Spec)(a:Addr):Prop:=∀(fs:List Env) (A:Around),bu d fs A->∀(args:List V) (vs:List Value) (S:St fs),S.Rs args vs->au S rV (e2 (sp args S.c)) fun Q E s=>codeAny M0 A (.call (.ref a) ⟨vs,[]⟩) (wants Q E) s
noncomputable def fg(f:Value):Prop:=∃kp,∀H,Bs H->Looks M0 H (keeperOf f) kp
structure ov(d:Nat)(tab:Tab):Prop where
 spec:∀a sp,tab a=some sp->bO d sp a
 keep:∀a sp,tab a=some sp->fg (.ref a)
structure Go(d:Nat)(tab:Tab)(glob:Str->Option T)(cw:Nat->Str->Option Nat):Prop where
 tab:ov d tab
 glob:gR glob
 cw:OZ cw
noncomputable abbrev iz(fs:List Env)(A:Around)(env:Env)(ev:Em):Prop:=∀e (S:St fs) l,Lc S env l->au S rV (ev e l S.c) (wpAny M0 A (eval e env))
noncomputable abbrev pV(fs:List Env)(A:Around)(env:Env)(te:Te):Prop:=∀e (S:St fs) l,Lc S env l->au S rE (te e l S.c) (wpAny M0 A (PySem.isTrue e env (eval e env)))
noncomputable abbrev rN(n:Nat):Rl fs (List V) (List Value):=fun S vs us=>S.Rs vs us/\us.length=n
theorem ch{e:Expr}{es:List Expr}{env:Env}(h:cy e=true):starEach (e::es) env=(false,eval e env)::starEach es env:=by
 cases e with
 |Starred=>cases h
 |_=>rfl
theorem i9{env:Env}(pos:Pos){es:List Expr}:es.all cy=true->(backTo pos (starEach es env)).any (·.1)=false/\(backTo pos (starEach es env)).all (fun p=> !p.1)=true/\(backTo pos (starEach es env)).length=es.length:=by
 induction es with
 |nil=>exact fun _=>⟨rfl,rfl,rfl⟩
 |cons e es ih=>
  exact fun h=>am h fun h1 h2=>by
   rw[ch h1]
   exact(ih h2).imp id fun k=>⟨k.1,congrArg Nat.succ k.2⟩
theorem fh{es:List Expr}{G:Prop}(h:kg es=true)(k:es.length<30->es.all cy=true->G):G:=am h fun h1 h2=>k (Nat.le_of_ble_eq_true h1) h2
theorem pX{es:List Expr}(h:kg es=true):es.length<=big:=fh h fun h _=>Nat.le_trans (Nat.le_of_lt h) (by decide)
section
variable{fs:List Env}{A:Around}{env:Env}{ev:Em}{te:Te}
theorem kG(H:iz fs A env ev)(pos:Pos){es:List Expr}:es.all cy=true->∀{S:St fs} {l:Loc},Lc S env l->au S (rN es.length) (kt ev es l S.c) (wpAny M0 A (spliced (backTo pos (starEach es env)))):=by
 induction es with
 |nil=>exact fun _ S l L=> .fin S .refl ⟨.nil,rfl⟩ fun _ _=>Calls.spliced_nil
 |cons e es ih=>
  refine fun h S l L=>am h fun h1 h2=> ?_
  rw[ch h1]
  exact .rule (fun _ _ _=>Calls.spliced_cons) ((H e S l L).bind fun v v' S₁ x₁ r₁=>(ih h2 (L.ext x₁)).bind fun vs z5 S₂ x₂ r₂=> .ret ⟨.cons (x₂.R r₁) r₂.1,congrArg Nat.succ r₂.2⟩)
theorem Ks(H:pV fs A env te){es:List Expr}:∀{S:St fs} {l:Loc},Lc S env l->au S rE (tG te es l S.c) (wpAny M0 A (allTrue .And es env)):=by
 induction es with
 |nil=>exact fun{S l} L=> .pure rfl
 |cons e es ih=>
  exact fun{S l} L=> .rule (fun _ _ _=>wpAny_allTrue_And_cons) ((H e S l L).lg fun b S₁ x₁=> .ite (fun h=> .rule (fun _ _ _ q=>(if_pos h).mpr q) (ih (L.ext x₁))) fun h=> .fin S₁ .refl rfl fun _ _ q=>by cases h;exact q)
theorem O2(H:pV fs A env te){es:List Expr}:∀{S:St fs} {l:Loc},Lc S env l->au S rE (NJ te es l S.c) (wpAny M0 A (allTrue .Or es env)):=by
 induction es with
 |nil=>exact fun{S l} L=> .pure rfl
 |cons e es ih=>
  exact fun{S l} L=> .rule (fun _ _ _=>wpAny_allTrue_Or_cons) ((H e S l L).lg fun b S₁ x₁=> .ite (fun h=> .fin S₁ .refl rfl fun _ _ q=>by cases h;exact q) fun h=> .rule (fun _ _ _ q=>by cases h;exact q) (ih (L.ext x₁)))
theorem EG(H:iz fs A env ev)(pos:Pos)(op:BoolOp){es:List Expr}:∀{S:St fs} {l:Loc},Lc S env l->au S rV (zm ev (zp op) es l S.c) (wpAny M0 A (boolOp pos op (evalEach es env))):=by
 induction es with
 |nil=>exact fun{S l} L=> .fail
 |cons e es ih=>
  intro S l L
  cases es with
  |nil=>exact H e S l L
  |cons e₂ es=>
   refine .rule (fun _ _ _=>wpAny_bind) ((H e S l L).bind fun v v' S₁ x₁ r₁=> .rule (fun Q E s q=>wpAny_bind (wpAny_standAt (wpAny_bind (wpAny_holding q)))) ((mS r₁).lg fun b S₂ x₂=> .ite (fun h=> ?_) fun h=> ?_))
   ·have k:=ih (x₁.trans x₂|>L.ext)
    cases op<;>cases b<;>first|exact k|cases h
   ·cases op<;>cases b<;>first|exact .pure (x₂.R r₁)|cases h
end
section
variable{fs:List Env}{A:Around}{env:Env}{ev:Em}(Rm:bu d fs A)(H:iz fs A env ev)(pos:Pos)
include Rm H
theorem vr{β:Type}{R:Rl fs Bool β}{F:Value->Sem β}{w:Value->β}(hw:∀S,R S false (w (.bool false))){m:V->aa->EM Bool}{S:St fs}{l:Loc}(L:Lc S env l)(r:S.R u u')(k:∀v v' S',aQ [] S S' ->S'.R v v' ->au S' R (m v S'.c) (wpAny M0 A (F v'))):
  au S R (aF (ev e l S.c) fun y c=>aF (JK op u y c) fun b c=>lF b (m y c) (aJ false c)) (wpAny M0 A (do
  let rv<-holding [u'] (eval e env)
  standAt pos
  let c<-holding [u',rv] (compareOp op u' rv)
  release [u',rv] [c]
  if<-holding [c,rv] (truthy c)then F rv else pure (w c))):=
 .rule (fun _ _ _ q=>wpAny_bind (wpAny_holding q)) ((H e S l L).bind fun v v' S₁ x₁ r₁=> .rule (fun _ _ _ q=>wpAny_bind (wpAny_standAt (wpAny_bind (wpAny_holding q)))) ((tT Rm (x₁.R r) r₁).bind fun b c S₂ x₂ r₂=> .ite
  (fun h=> .rule (fun Q E s q=>wpAny_bind (wpAny_release (wpAny_bind (wpAny_holding (by rw[r₂,h];exact wpAny_truthy_bool q))))) (k v v' S₂ (x₁.trans x₂) (x₂.R r₁)))
  fun h=> .fin S₂ .refl (hw _) fun Q E q=>wpAny_bind (wpAny_release (wpAny_bind (wpAny_holding (by rw[r₂,h];exact wpAny_truthy_bool (wpAny_pure q)))))))
theorem EH{ops:List CmpOp}:∀{es:List Expr} {S:St fs} {l:Loc} {u:V} {u' :Value},Lc S env l->S.R u u' ->au S rE (iT ev u ops es l S.c) (wpAny M0 A (testChain pos u' ops (evalEach es env))):=by
 induction ops with
 |nil=>exact fun{es S l u u'} L r=> .fail
 |cons op ops ih=>
  intro es S l u u' L r
  have k:=fun{e es}=>vr (e:=e) (R:=rE) (F:=fun v=>testChain pos v ops (evalEach es env)) (w:=fun _=>false) (m:=fun v c=>iT ev v ops es l c) (op:=op) Rm H pos (fun _=>rfl) L r fun v v' S' x=>ih (L.ext x)
  cases es with
  |nil=>exact .fail
  |cons e es=>
   have k:=k (es:=es) (e:=e)
   clear ih
   cases ops with
   |nil=>
    cases es with
    |nil=>exact .rule (fun _ _ _ q=>wpAny_bind (wpAny_holding q)) ((H e S l L).bind fun v v' S₁ x₁ r₁=> .rule (fun _ _ _ q=>wpAny_bind (wpAny_standAt (wpAny_bind (wpAny_operate' q)))) ((tT Rm (x₁.R r) r₁).bind fun b w S₂ x₂ r₂=> .fin S₂ .refl rfl fun Q E q=>wpAny_holding (by rw[r₂];exact wpAny_truthy_bool q)))
    |cons=>exact k
   |cons=>cases es<;>exact k
theorem Kt{ops:List CmpOp}:∀{es:List Expr} {S:St fs} {l:Loc} {u:V} {u' :Value},Lc S env l->S.R u u' ->au S rB (iT ev u ops es l S.c) (wpAny M0 A (compareChain pos u' ops (evalEach es env))):=by
 induction ops with
 |nil=>exact fun{es S l u u'} L r=> .fail
 |cons op ops ih=>
  intro es S l u u' L r
  have k:=fun{e es}=>vr (e:=e) (R:=rB) (F:=fun v=>compareChain pos v ops (evalEach es env)) (w:=fun v=>v) (m:=fun v c=>iT ev v ops es l c) (op:=op) Rm H pos (fun _=>rfl) L r fun v v' S' x=>ih (L.ext x)
  cases es with
  |nil=>exact .fail
  |cons e es=>
   have k:=k (es:=es) (e:=e)
   clear ih
   cases ops with
   |nil=>
    cases es with
    |nil=>exact .rule (fun _ _ _ q=>wpAny_bind (wpAny_holding q)) ((H e S l L).bind fun v v' S₁ x₁ r₁=> .rule (fun _ _ _ q=>wpAny_bind (wpAny_standAt (wpAny_operate' q))) ((tT Rm (x₁.R r) r₁).bind fun b w S₂ x₂ r₂=> .ret r₂))
    |cons=>exact k
   |cons=>cases es<;>exact k
end
section
variable{fs:List Env}{A:Around}{env:Env}{E:Value->Shared->Prop}{s:Shared}
theorem pY{f:Value}{pos:Pos}{Q:Args->Shared->Prop}{es:List Expr}(hs:es.all cy=true)(h:wpAny M0 A (spliced (backTo pos (starEach es env))) (fun vs s' =>Q ⟨vs,[]⟩ s') E s):wpAny M0 A (evalArgs f true (backTo pos (starEach es env)) []) Q E s:=by
 cases es with
 |nil=>
  show wpAny M0 A (evalArgs f true [] []) Q E s
  unfold evalArgs
  exact wpAny_bind (wpAny_mono (t:=spliced []) h (fun vs s' h' =>wpAny_bind (wpAny_pure (wpAny_holding (wpAny_bind (wpAny_pure (wpAny_bind (wpAny_pure (wpAny_pure h')))))))) fun _ _ y=>y)
 |cons e es=>
  refine am hs fun h1 _=> ?_
  rw[ch h1]at h⊢
  exact Calls.evalArgs_plain h
theorem ie{t:Sem Value}{Q:Value->Shared->Prop}(ht:wpAny M0 A t Q E s):wpAny M0 A (t>>=fun r=>holding [r] point>>=fun _=>pure r) Q E s:=wpAny_bind (wpAny_mono ht (fun r s₂ hr=>wpAny_bind (wpAny_holding (wpAny_point (wpAny_pure hr)))) fun _ _ y=>y)
theorem eW{UU pos:Pos}{f:Value}{first:List Value}{es:List Expr}{Q:Value->Shared->Prop}(hs:kg es=true)
  (h:wpAny M0 A (spliced (backTo pos (starEach es env))) (fun vs s' =>(∃kp,Looks M0 s'.heap (keeperOf f) kp)/\wpAny M0 A (call f (first++vs)) Q E s') E s):wpAny M0 A (callWith UU f first (backTo pos (starEach es env)) []) Q E s:=fh hs fun hl hp=>by
 unfold callWith
 refine wpAny_bind (wpAny_holding (pY hp (wpAny_mono h (fun vs s' h' => ?_) fun _ _ y=>y)))
 refine wpAny_bind (wpAny_standAt ?_)
 have marked:∀m,wpAny M0 A (callMarked m f (first++vs) []) Q E s' :=fun m=>by unfold callMarked;exact Calls.wpAny_keep h'.2
 rw[(i9 pos hp).1]
 obtain⟨kp,K⟩:=h'.1
 refine wpAny_bind (m:=keeperOf f) (K.here ?_)
 cases kp with
 |machine=>exact ie h'.2
 |caller=>exact ie (wpAny_operate' h'.2)
 |_=>
  refine wpAny_ite ?_
  split
  ·exact ie h'.2
  ·exact ie (marked _)
end
section
variable{fs:List Env}{A:Around}{x:Cx}(Rm:bu d fs A)(g:Go d x.tab x.glob x.cw)
theorem pZ{S:St fs}{f:Value}(h:fg f):∃kp,Looks M0 S.s.heap (keeperOf f) kp:=h.elim fun kp h=>S.at fun H hH _ st=>⟨kp,(h H hH).keeps st⟩
noncomputable abbrev rL(A:Around)(f:Value)(us:List Value):PT Value:=fun Q E s=>(∃kp,Looks M0 s.heap (keeperOf f) kp)/\wpAny M0 A (call f us) Q E s
include Rm g
theorem t7{S:St fs}{args:List V}{us:List Value}(r:S.Rs args us):au S rV (e2 (lI x.tab a args S.c)) (rL A (.ref a) us):=fun k kx out Q E e ok ex=>ae e fun sp e1 e=>⟨pZ (g.tab.keep a sp e1),wpAny_call (g.tab.spec a sp e1 fs A Rm args us S r k kx out Q E e ok ex)⟩
omit Rm g in
theorem O3{C:Value->Prop}(e:lH TR f=some a)(r:bE B σ f f')(k:C (.ref a)):C f' :=fb e r fun y _ e r=>by
 cases y with
 |gl b=>exact(show f' = .ref b from r)▸so (P:=fun a=>C (.ref a)->C (.ref b)) e (fun k=>k) k
 |_=>exact nn e
theorem EI{S:St fs}{args:List V}{us:List Value}(rf:S.R f f')(r:S.Rs args us):au S rV (zj x f args S.c) (rL A f' us):= .alt (fun a e=>O3 (C:=fun f' =>au S rV (e2 (lI x.tab a args S.c)) (rL A f' us)) e rf (t7 Rm g r)) fun k kx out Q E e ok ex=>⟨ae e fun b q _=>pZ (by rw[Iu q rf];induction b<;>exact⟨.machine,fun _ _=>Looks.of_pure rfl⟩),xr Rm rf r k kx out Q E e ok ex⟩
theorem z6{S:St fs}{args:List V}{us:List Value}(ro:S.R o o')(r:S.Rs args us):au S rV (pn x m o args S.c) (rL A (lM m) (cJ m o' ++us)):=by
 induction m with
 |own a=>exact t7 Rm g (.cons ro r)
 |cls a=>exact t7 Rm g r
 |bi m=>exact .here (fun Q E h=>⟨⟨.machine,Looks.of_pure rfl⟩,h⟩) (ED Rm ro r)
end
theorem ja{o:Expr}{name:Str}{env:Env}{whole:Sem Value}(h:eA o=false):attributeBase o name env whole=whole:=by
 cases o with
 |Call f es kw p=>
  cases f with
  |Name y q=>
   induction es with
   |nil=>
    induction kw with
    |nil=>exact if_pos (by rw[show(y !=Str.ofString "super")=true from congrArg not h];rfl)
    |cons=>rfl
   |cons=>rfl
  |_=>rfl
 |_=>rfl
theorem xE{i:Expr}(h:(vw i).slice? =none)(o v:Value):subscripted i false o v=operate [o,v] (getItem o v):=by
 cases i with
 |Slice lo hi st p=>
  induction st with
  |none=>exact nomatch h
  |some=>rfl
 |_=>rfl
theorem z8{C:Expr->Prop}{i:Expr}(h:(vw i).slice? =some p)(k:∀q,C (.Slice p.1 p.2 none q)):C i:=by
 cases i with
 |Slice lo hi st q=>
  induction st with
  |none=>exact so (P:=fun p=>(∀q,C (.Slice p.1 p.2 none q))->C (.Slice lo hi none q)) h (fun k=>k q) k
  |some=>exact nn h
 |_=>exact nn h
section
variable{fs:List Env}{A:Around}{env:Env}{ev:Em}{x:Cx}{S:St fs}{l:Loc}(Rm:bu d fs A)(g:Go d x.tab x.glob x.cw)(H:iz fs A env ev)(L:Lc S env l)
theorem z9{v:Const}:au S rV (aG (zi v) fun t=>aJ (.t t) S.c) (wpAny M0 A (constValue env v)):= .opt fun t e=>by
 induction v with
 |none=>exact so (P:=fun t=>au S rV (aJ (.t t) S.c) (wpAny M0 A (pure .none))) e (.pure rfl)
 |bool b=>exact so (P:=fun t=>au S rV (aJ (.t t) S.c) (wpAny M0 A (pure (.bool b)))) e (.pure rfl)
 |int i=>exact so (P:=fun t=>au S rV (aJ (.t t) S.c) (wpAny M0 A (mkInt i))) e (.toks (v:= .int i) (fun _=> .i) fun Q E q=>wpAny_mkInt (q _ _))
 |str y=>exact aE e fun h e=>so (P:=fun t=>au S rV (aJ (.t t) S.c) (wpAny M0 A (mkText y))) e (.toks (v:= .str y) (fun _=> .s h) fun Q E q=>wpAny_mkText (q _ _))
 |bytes y=>exact aE e fun h e=>so (P:=fun t=>au S rV (aJ (.t t) S.c) (wpAny M0 A (mkTextBytes y.toArray))) e (.toks (v:= .bytes y.toArray) (fun _=> .b (Nat.le_of_ble_eq_true h)) fun Q E q=>wpAny_mkTextBytes (q _ _))
 |_=>exact nn e
include H L
theorem Aa{e:Option Expr}:au S rV (zk ev e l S.c) (wpAny M0 A (valueOrNone (evalOpt e env))):=by
 induction e with
 |none=>exact .pure rfl
 |some e=>exact H e S l L
omit L
include Rm
theorem Ku{value i:Expr}(L:Lc S env l)(ru:S.R u u'):au S rV (JL ev i u l S.c) fun Q E s=>wpAny M0 A (eval i env) (fun i' s=>wpAny M0 A (subscriptTail value i u' i') Q E s) E s:=by
 unfold JL
 cases q:(vw i).slice? with
 |none=>exact(H i S l L).bind fun v v' S₁ x₁ r₁=>Et Rm (x₁.R ru) r₁ (xE q)
 |some p=>
  exact z8 (C:=fun i=>au S rV (aF (zk ev p.1 l S.c) fun a c=>aF (zk ev p.2 l c) fun b c=>DX u a b c) fun Q E s=>wpAny M0 A (eval i env) (fun i' s=>wpAny M0 A (subscriptTail value i u' i') Q E s) E s) q fun pos=>
   .rule (fun Q E s q=>wpAny_bind q) ((Aa H L).bind fun a a' S₁ x₁ r₁=> .rule (fun Q E s q=>wpAny_bind (wpAny_holding q)) ((Aa H (L.ext x₁)).bind fun b b' S₂ x₂ r₂=> .rule (fun Q E s q=>wpAny_bind (wpAny_holding (wpAny_pure q))) (Kk Rm (x₂.R (x₁.R ru)) (x₂.R r₁) r₂)))
theorem O4{op:UnaryOp}(r:S.R v v'):au S rV (XL op v S.c) (wpAny M0 A (unaryOp op v')):=by
 induction op with
 |USub=>exact .opt fun i e=>dA (C:=fun v' =>au S rV (aJ (.t (.int (-i))) S.c) (wpAny M0 A (unaryOp .USub v'))) e r fun t _=> .toks (v:= .int (-i)) (fun _=> .i) fun Q E q=>PyProof.Rows.neg_int (q _ _)
 |Not=>exact .rule (fun _ _ _=>PyProof.Rows.not_of) ((mS r).lg fun b S₁ x₁=> .ret rfl)
 |_=>exact .fail
end
theorem EJ{C:Expr->Prop}{f:Expr}(h:(vw f).attr? =some p)(k:C (.Attribute p.1 p.2.1 p.2.2)):C f:=by
 cases f with
 |Attribute o n q=>exact so (P:=fun p=>C (.Attribute p.1 p.2.1 p.2.2)->C (.Attribute o n q)) h (fun k=>k) k
 |_=>exact nn h
theorem call_plain{f:Expr}{es:List Expr}{pos:Pos}{env:Env}(h:(vw f).attr? =none):eval (.Call f es [] pos) env=eval f env>>=fun u=>callWith pos u [] (backTo pos (starEach es env)) []:=by
 cases f with
 |Attribute=>exact nomatch h
 |_=>rfl
section
variable{fs:List Env}{A:Around}{env:Env}{x:Cx}{T:ve}{S:St fs}{l:Loc}(Rm:bu d fs A)(g:Go d x.tab x.glob x.cw)(hE:bx x.scope env)(H:iz fs A env (T.E x))(Ht:pV fs A env (T.te x))
include Rm
theorem Kv(L:Lc S env l)(H:iz fs A env (T.E x))(h:∀whole,PySem.isTrue e env whole=(do let v<-whole;standAt e.pos;holding [v] (truthy v))):au S rE (plainT x T e l S.c) (wpAny M0 A (PySem.isTrue e env (eval e env))):=
 .rule (fun Q E s q=>isTrue_plain q (h _)) ((H e S l L).bind fun v v' S₁ x₁ r₁=>mS r₁)
include H Ht
theorem Ab{e:Expr}(L:Lc S env l):au S rE (Ik x T e l S.c) (wpAny M0 A (PySem.isTrue e env (eval e env))):=by
 have pl:=fun h=>Kv (e:=e) Rm L H h
 cases e with
 |UnaryOp op a pos=>
  induction op with
  |Not=>exact .rule (fun _ _ _=>wpAny_isTrue_Not) ((Ht a S l L).lg fun b S₁ x₁=> .ret rfl)
  |_=>exact pl fun _=>rfl
 |BoolOp op es pos=>
  refine .rule (fun _ _ _=>wpAny_isTrue_BoolOp) ?_
  induction op with
  |And=>exact Ks Ht L
  |Or=>exact O2 Ht L
 |IfExp t a b pos=>exact .rule (fun _ _ _=>PyProof.Rows.isTrue_IfExp) ((Ht t S l L).lg fun b S₁ x₁=> .ite (fun h=> .rule (fun _ _ _ q=>(if_pos h).mpr q) (Ht _ S₁ l (L.ext x₁))) fun h=> .rule (fun _ _ _ q=>by cases h;exact q) (Ht _ S₁ l (L.ext x₁)))
 |Compare a ops es pos=>
  refine .eU fun h=> ?_
  rw[arm_isTrue_Compare,markedEach_of_false _ _ _ (dW h)]
  exact .rule (fun _ _ _=>wpAny_bind) ((H a S l L).bind fun v v' S₁ x₁ r₁=>EH Rm H pos (L.ext x₁) r₁)
 |_=>exact pl fun _=>rfl
omit Ht
include g
theorem vt{es:List Expr}{pos p:Pos}{f:Value}{us:List Value}{m:List V->aa->EM V}(L:Lc S env l)(hf:kg es=true)(k:∀vs z5 S',aQ [] S S' ->S'.Rs vs z5->au S' rV (m vs S'.c) (rL A f (us++z5))):au S rV (aF (kt (T.E x) es l S.c) m) (wpAny M0 A (callWith p f us (backTo pos (starEach es env)) [])):=
 .rule (fun Q E s q=>eW hf q) ((kG H pos (fh hf fun _ h=>h) L).bind fun vs z5 S₁ x₁ r₁=>k vs z5 S₁ x₁ r₁.1)
theorem O5{f:Expr}{es:List Expr}{pos:Pos}(L:Lc S env l):au S rV (XM x (T.E x) f es pos l S.c) (wpAny M0 A (eval (.Call f es [] pos) env)):= .eU fun hf=>by
 cases q:(vw f).attr? with
 |none=>
  rw[call_plain q]
  exact .rule (fun _ _ _=>wpAny_bind) ((H f S l L).bind fun u u' S₁ x₁ r₁=>vt (us:=[]) Rm g H (L.ext x₁) hf fun vs z5 S₂ x₂ r₂=>EI Rm g (x₂.R r₁) r₂)
 |some p=>
  refine EJ (C:=fun f=>au S rV (bT (!eA p.1&&(p.2.2.endLine==pos.line)) (aF (T.E x p.1 l S.c) fun u c=>aG (gD x c u p.2.1) fun m=>aF (kt (T.E x) es l c) fun vs c=>pn x m u vs c)) (wpAny M0 A (eval (.Call f es [] pos) env))) q (.eU fun h=>am h fun h1 h2=> ?_)
  have hm:methodCallForm (es.length+([]:List Keyword).length) (backTo pos (starEach es env)) (backToKw pos (keywordEach [] env))=true:=fh hf fun hl hp=>by
   unfold methodCallForm
   rw[(i9 pos hp).2.1]
   exact decide_eq_true hl
  show au S rV _ (wpAny M0 A (attributeBase p.1 p.2.1 env (eval p.1 env)>>=_))
  rw[ja (dW h1)]
  refine .rule (fun _ _ _=>wpAny_bind) ((H p.1 S l L).bind fun u u' S₁ x₁ r₁=> .opt fun m qm=> .rule (fun Q E s q=>wpAny_bind (wpAny_standAt q)) ?_)
  unfold methodCall
  rw[hm]
  have UV:methodCallPos true p.1 env p.2.2 pos=pure pos:=by unfold methodCallPos;rw[h2];rfl
  rw[UV]
  exact fun k kx out Q E e ok ex=>wpAny_bind (wpAny_holding (J8 g.cw qm r₁ fun n=>wpAny_bind (wpAny_pure (vt (S:=S₁.go {S₁.s with toks:=n} .refl rfl) Rm g H ((L.ext x₁).ext (St.bk rfl)) hf (fun vs z5 S₂ x₂ r₂=>z6 Rm g (x₂.R r₁) r₂) k kx out Q E e (ok.after (St.bk rfl)) (ex.after (St.bk rfl))))))
end
section
variable{fs:List Env}{A:Around}{env:Env}{x:Cx}{T:ve}{S:St fs}{l:Loc}(Rm:bu d fs A)(g:Go d x.tab x.glob x.cw)(hE:bx x.scope env)(H:iz fs A env (T.E x))(Ht:pV fs A env (T.te x))(L:Lc S env l)
 (hc:∀elt w sc pos,au S rV (TS x T elt w sc l S.c) (wpAny M0 A (eval (.ListComp elt [w] sc pos) env))) (hd:∀ks es pos,au S rV (zq (T.E x) ks es l S.c) (wpAny M0 A (eval (.Dict ks es pos) env)))
include Rm g hE H Ht L hc hd
theorem Ac{e:Expr}:au S rV (Ij x T e l S.c) (wpAny M0 A (eval e env)):=by
 cases e with
 |Constant v k pos=>exact z9
 |Name id pos=>exact .eU fun h=> .rule (fun _ _ _ q=>wpAny_Name q ((km _ _).symm.trans (dW h))) (EF g.glob hE rfl rfl L)
 |BinOp a op b pos=>exact .rule (fun _ _ _=>wpAny_BinOp) ((H a S l L).bind fun u u' S₁ x₁ r₁=>(H b S₁ l (L.ext x₁)).bind fun v v' S₂ x₂ r₂=>JX (x₂.R r₁) r₂)
 |UnaryOp op a pos=>exact .rule (fun _ _ _=>wpAny_UnaryOp) ((H a S l L).bind fun u u' S₁ x₁ r₁=>O4 Rm H r₁)
 |BoolOp op es pos=>exact EG H pos op L
 |IfExp t a b pos=>exact .rule (fun _ _ _=>wpAny_IfExp) ((Ht t S l L).lg fun b S₁ x₁=> .ite (fun h=> .rule (fun _ _ _ q=>(if_pos h).mpr q) (H _ S₁ l (L.ext x₁))) fun h=> .rule (fun _ _ _ q=>by cases h;exact q) (H _ S₁ l (L.ext x₁)))
 |Compare a ops es pos=>
  refine .eU fun h=> ?_
  show au S rV _ (wpAny M0 A (eval a env>>=fun v=>compareChain pos v ops (markedEach ops es (evalEach es env))))
  rw[markedEach_of_false _ _ _ (dW h)]
  exact .rule (fun _ _ _=>wpAny_bind) ((H a S l L).bind fun v v' S₁ x₁ r₁=>(Kt Rm H pos (L.ext x₁) r₁).bind fun b w S₂ x₂ r₂=> .ret r₂)
 |Tuple es kk pos=>exact .eU fun hf=> .rule (fun _ _ _=>wpAny_Tuple) ((kG H pos (fh hf fun _ h=>h) L).bind fun vs z5 S₁ x₁ r₁=>have hb:vs.length<=big:=r₁.1.len▸r₁.2▸pX hf
   .ze (s' := {S₁.s with heap:=S₁.s.heap.push (jy z5 0)}) aT rfl rfl (bw _) r₁.1 hb (fun Q E q=>⟨r₁.1.len▸bj hb,q⟩) (aU rfl))
 |List es pos=>exact .eU fun hf=> .rule (fun _ _ _=>wpAny_List) ((kG H pos (fh hf fun _ h=>h) L).bind fun vs z5 S₁ x₁ r₁=>have hb:vs.length<=big:=r₁.1.len▸r₁.2▸pX hf
   .pD (s' := {S₁.s with heap:=S₁.s.heap.push (listAt z5 0)}) aT rfl rfl (bw _) (aU rfl) r₁.1 hb fun Q E q=>⟨r₁.1.len▸bj hb,q⟩)
 |Dict ks es pos=>exact hd ks es pos
 |Attribute o name pos=>
  refine .eU fun h=> ?_
  show au S rV _ (wpAny M0 A (attributeBase o name env (eval o env)>>=_))
  rw[ja (dW h)]
  exact .rule (fun _ _ _=>wpAny_bind) ((H o S l L).bind fun v v' S₁ x₁ r₁=> .rule (fun Q E s q=>wpAny_bind (wpAny_standAt (wpAny_bind (wpAny_holding q)))) (.rule (fun Q E s q=>q) (.here (fun Q E q=>wpAny_mono q (fun v s h=>wpAny_bind (wpAny_letTemporaryGo (wpAny_pure h))) fun _ _ h=>h) (Ep g.cw r₁))))
 |Subscript o i pos=>exact .rule (fun _ _ _=>Subscript_) ((H o S l L).bind fun u u' S₁ x₁ r₁=>Ku Rm H (L.ext x₁) r₁)
 |Call f es kw pos=>
  refine .eU fun h=> ?_
  induction kw with
  |nil=>exact O5 Rm g H L
  |cons=>cases h
 |ListComp elt gens sc pos=>
  refine .opt fun w e=> ?_
  induction gens with
  |nil=>exact nn e
  |cons w' l=>
   induction l with
   |nil=>exact so (P:=fun w=>au S rV (TS x T elt w sc _ S.c) _) e (hc elt w' sc pos)
   |cons=>exact nn e
 |_=>exact .fail
end
theorem aQ.jE{S S₂ S₃:St fs}(x:aQ Z S S₂)(y:aQ W S₂ S₃)(n:∀b∈W,S.h b=none):aQ Z S S₃ where
 bb:=x.bb.trans y.bb
 sg:=fun i a e=>y.sg i a (x.sg i a e)
 cK:=fun b o h1 h2 h3 e=>y.cK b o (x.keep b o h3 h1 e).1 h2 (fun q=>sn e (n b q)) (x.cK b o h1 h2 h3 e)
 d8:=fun b o h1 h2 e=>(x.d8 b o h1 h2 e).elim fun sl e1=>(y.d8 b _ h1 (fun q=>sn e (n b q)) e1).elim fun OO e2=>⟨OO,e2⟩
 live:=fun b z e=>Classical.byCases (n b) fun q=>x.live b z (y.live b q e)
 keep:=fun b o z h1 e=>by
  have k:=x.keep b o z h1 e
  cases q:S₂.h b with
  |none=>exact nomatch e.symm.trans (x.live b z q)
  |some o' =>exact have z:=y.keep b o' (fun q=>sn e (n b q)) k.1 q;⟨z.1,fun h=>z.2 (k.2 h)⟩
 os:=y.os.trans x.os
theorem au.grown{S S₂:St fs}{t:T}{D:Addr}{s' :Shared}{Q:Value->Shared->Prop}{k:V->aa->aq}{out:Oc}(ok:It S rV k out Q)(x:aQ [] S S₂)(n:S.h D=none)(al:S₂.Al D)(off:D∉et fs)(hs:∀b,b≠D->s'.heap.get? b=S₂.h b)(e:s'.heap.get? D=some o)(g:s'.gens=S₂.s.gens)(eo:s'.os=S₂.s.os)
  (r:∀B',Sub S₂.B B' ->B' D=some o->ao B' t (.ref D)) (h:k (.t t) S₂.c=some out):Q (.ref D) s' :=by
 have ne:∀b,¬S₂.Al b->b≠D:=fun b q e=>q (e▸al)
 let S₃:=S₂.to s' (fun b o q e=>(hs b (ne b q)).trans e) (fun a q=>(S₂.frames a q).2.2.up fun o e=>(hs a fun z=>off (z▸q)).trans e) g
 have y:aQ [D] S₂ S₃:= .same (fun b o q e=>(hs b fun z=>q (z▸.head _)).trans e) eo
 have w:aQ [] S S₃:=x.jE y fun b q=>List.mem_singleton.mp q▸n
 exact ok (.t t) _ (S₃.adopt D al off) (w.adopt n) (r _ (dE fun b e=>e▸al.1) ((gL rfl).trans e)) h
noncomputable abbrev IB(B:Mp)(p:T×T)(q:Value×Value):Prop:=∀G:Prop,(∀x t,p.1= .str x->q.1= .str x t->bC x=true->ao B p.2 q.2->G)->G
noncomputable abbrev rP:Rl fs (List (T×T)) (List (Value×Value)):=fun S=>av (IB S.B)
structure TX(B:Mp)(p:T×T)(q:Str×Value):Prop where
 key:p.1= .str q.1
 fit:bC q.1=true
 val:ao B p.2 q.2
noncomputable abbrev sk:=PySem.strKind pW w0
theorem rM{ts:List (T×T)}:∀{vs:List (Value×Value)} {G:Prop},av (IB B) ts vs->(∀kh,Carries sk vs kh->av (TX B) ts kh->G)->G:=by
 induction ts with
 |nil=>exact fun h g=>g [] (h (fun vs=>Carries sk vs []) trivial) .nil
 |cons p ts ih=>
  exact fun{vs G} h g=>h (fun vs=>(∀kh,Carries sk vs kh->av (TX B) (p::ts) kh->G)->G) (fun q r h1 h2 g=>h1 G fun x t e1 e2 e3 e4=>ih h2 fun kh c1 c2=>g ((x,q.2)::kh) ⟨by rw[e2];exact decide_eq_true rfl,rfl,c1⟩ (.cons ⟨e1,e3,e4⟩ c2)) g
theorem EK{ts:List (T×T)}:∀{kh:List (Str×Value)},av (TX B) ts kh->ts.map (·.1)=(kh.map (·.1)).map T.str:=by
 induction ts with
 |nil=>exact fun h=>h (fun kh=>[]=(kh.map (·.1)).map T.str) rfl
 |cons p ts ih=>exact fun h=>h (fun kh=>p.1::ts.map (·.1)=(kh.map (·.1)).map T.str) fun q r h1 h2=>by rw[ih h2,h1.key];rfl
theorem rO{ts:List (T×T)}:hJ ts=true->(ts.map (·.1)).Nodup:=by
 induction ts with
 |nil=>exact fun _=>List.nodup_nil
 |cons p ts ih=>
  refine fun h=>am h fun h1 h2=>List.nodup_cons.mpr ⟨fun q=> ?_,ih h2⟩
  obtain⟨w,hw,e⟩:=List.mem_map.mp q
  refine cz (o:=tB p.1) (P:=fun b=>b=true->False) (fun s e1 h1=> ?_) (fun e=>ft e) h1
  have:=List.all_eq_true.mp h1 w hw
  rw[e,e1]at this
  exact absurd (dW this) (by rw[beq_self_eq_true];exact fun e=>nomatch e)
theorem p0{kh:List (Str×Value)}:∀{acc:List (Str×Value)},(kh.map (·.1)).Nodup->(∀p∈acc,∀q∈kh,p.1≠q.1)->merged acc kh=acc++kh:=by
 induction kh with
 |nil=>exact fun _ _=>(List.append_nil _).symm
 |cons p r ih=>
  intro acc hn ha
  have hn:=List.nodup_cons.mp hn
  have e:stored acc p.1 p.2=acc++[p]:=if_neg fun q=>(List.any_eq_true.mp q).elim fun z hz=>ha z hz.1 p (.head _) (of_decide_eq_true hz.2)
  show merged (stored acc p.1 p.2) r=_
  rw[e,ih hn.2 fun z hz q hq=>(List.mem_append.mp hz).elim (fun hz=>ha z hz q (.tail _ hq)) fun hz w=>hn.1 (by cases List.mem_singleton.mp hz;show p.1∈r.map (·.1);rw[w];exact List.mem_map_of_mem (f:=(·.1)) hq),List.append_assoc];rfl
theorem Kw{es:List DictEntry}{kh:List (Str×Value)}(p:Pairs sk es kh):∀{ts:List (T×T)},(∀e∈es,∃k,sk.is k e.key=true/\e.hash=sk.hash k)->av (TX B) ts kh->av (cm (KD B) (ao B)) ts es:=by
 induction p with
 |nil=>exact fun{ts} _ h=>by induction ts with
  |nil=>exact .nil
  |cons=>exact h (fun l=>l=[]->_) (fun _ _ _ _ e=>nomatch e) rfl
 |cons h1 h2 h3 ih=>
  rename_i e kv es kh
  intro ts hk h
  induction ts with
  |nil=>exact h (fun l=>l=kv::kh->_) (fun e=>nomatch e) rfl
  |cons q ts=>
   refine h (fun l=>l=kv::kh->av (cm (KD B) (ao B)) (q::ts) (e::es)) (fun w r h4 h5 eq=> ?_) rfl
   injection eq with e1 e2
   rw[e1]at h4
   rw[e2]at h5
   obtain⟨k,k1,k2⟩:=hk e (.head _)
   obtain⟨t,ht⟩:=Value.isStrOf_shape h1
   refine .cons ⟨⟨?_,?_⟩,h2▸h4.val⟩ (ih (fun e he=>hk e (.tail _ he)) h5)<;>rw[h4.key]
   ·rw[ht];exact .s h4.fit
   ·exact(sk.inj _ k kv.1 k1 h1▸k2:e.hash=hashStr w0 kv.1)
theorem EL(e:qV v=some y)(r:bE B σ v v'):ao B y v' :=by
 induction v with
 |loc=>exact nn e
 |t x=>exact Option.some.inj e▸r
section
variable{fs:List Env}{A:Around}{env:Env}{ev:Em}(H:iz fs A env ev)(pos:Pos)
include H
theorem Ad{ks:List (Option Expr)}:∀{es:List Expr} {S:St fs} {l:Loc},Lc S env l->au S rP (vc ev ks es l S.c) (wpAny M0 A (evalPairs (pairTrees ks es env pos))):=by
 induction ks with
 |nil=>
  intro es S l L
  induction es with
  |nil=>exact .fin S .refl .nil fun _ _=>evalPairs_nil
  |cons=>exact .fail
 |cons a ks ih=>
  intro es S l L
  induction es with
  |nil=>exact .fail
  |cons e es=>
   induction a with
   |none=>exact fun k kx out Q E e=>nn e
   |some a=>
    exact .rule (fun _ _ _=>evalPairs_cons) ((H a S l L).bind fun u u' S₁ x₁ r₁=> .opt fun x e1=> .rule (fun Q E s q=>wpAny_bind q) ((H e S₁ l (L.ext x₁)).bind fun v v' S₂ x₂ r₂=> .opt fun y e2=> .rule (fun Q E s q=>wpAny_bind (wpAny_standAt (wpAny_pure q))) ((ih ((L.ext x₁).ext x₂)).bind fun ts vs S₃ x₃ p=> .ret (gN (C:=fun u' =>rP S₃ ((.str x,y)::ts) ((u',v')::vs)) e1 (x₃.R (x₂.R r₁)) fun t f=> .cons (fun G w=>w x t rfl rfl f (EL e2 (x₃.R r₂))) p))))
theorem EN{ks:List (Option Expr)}{es:List Expr}{S:St fs}{l:Loc}(L:Lc S env l):au S rV (zq ev ks es l S.c) (wpAny M0 A (eval (.Dict ks es pos) env)):=by
 have n0:=bw S.s.heap
 have gen:au S rV (bT (zn ks es) (aF (NL (vc ev ks es l S.c)) fun ts c=>bT (hJ ts&&Nat.ble ts.length 15) (aJ (.t (.dict ts)) c))) (wpAny M0 A (eval (.Dict ks es pos) env)):= .eU fun hs=>am hs fun hs h4=>am hs fun hs h3=>am hs fun h1 h2 k kx out Q E e ok ex=>by
  have h0:ks≠[]:=fun q=>by rw[q]at h4;exact ft h4
  let S₁:=S.go {S.s with heap:=S.s.heap.push (dictAt [] 0)} aT rfl
  have x₁:aQ [] S S₁:=St.bk rfl
  refine wpAny_Dict_walk (knd:=sk) h1 (eq_of_beq h2) h0 (Nat.le_of_ble_eq_true h3) ((Ad H pos (L.ext x₁)).NL _ kx out _ E e (fun ts vs S₂ x₂ p e=>aE e fun hf e=>am hf fun hf hl=> ?_) (ex.after x₁))
  have al:=St.al (S:=S) n0
  have g₂:S₂.h S.s.heap.objs.size=some (dictAt [] 0):=x₂.cK _ _ al.2 (St.off n0) List.not_mem_nil (aU rfl)
  have kp:=x₂.keep _ _ List.not_mem_nil al.2 (aU rfl)
  refine rM p fun kh c1 c2=>⟨kh,c1,⟨_,#[],0,g₂,⟨rfl,rfl,rfl⟩,rfl,fun e he=>absurd he (Array.not_mem_empty e),.nil,List.nodup_nil⟩,fun h' hd ki=> ?_⟩
  have nd:=rO hf
  rw[p0 (acc:=[]) (List.Pairwise.of_map T.str (fun a b h e=>h (congrArg T.str e)) (EK c2▸nd)) (fun p hp=>absurd hp List.not_mem_nil),List.nil_append]at hd
  obtain⟨o,YQ,ep,o1,o2,o3,o4,o5,o6⟩:=hd
  refine au.grown (t:= .dict ts) ok (x₁.trans x₂) n0 ⟨kp.2 al.1,kp.1⟩ (St.off n0) ki.2 o1 rfl rfl (fun B' b e G w=>w _ YQ.toList ep ?_ (Nat.le_trans (Nat.le_of_ble_eq_true hl) (by decide)) nd (jz.2 (Kw o5 (fun e he=>o4 e (Array.mem_toList_iff.mp he)) (c2.imp fun _ _ h=>⟨h.key,h.fit,h.val.mono b⟩)))) e
  rw[e]
  obtain⟨oc,od,YR,YS⟩:=o
  obtain⟨q1,q2,q3⟩:=o2
  cases q1;cases q2;cases q3;cases o3;rfl
 induction ks with
 |cons=>exact gen
 |nil=>
  induction es with
  |cons=>exact gen
  |nil=>exact .JV (s' := {S.s with heap:=S.s.heap.push (dictAt [] 0)}) aT rfl rfl n0 (fun G w=>w _ (aU rfl) fun _=>nofun) (fun G w=>w [] 0 ((if_pos rfl).trans (aU rfl)) (Nat.zero_le _) List.nodup_nil .nil) fun Q E=>wpAny_Dict_empty
end
theorem Ae(x:Str):sEq x x=true:=by rw[km];exact beq_self_eq_true x
theorem t8{x y:Str}(h:sEq x y=false):x≠y:=fun e=>by rw[e,Ae]at h;exact nomatch h
theorem bP{α:Type}{C:Option α->Prop}{x y:Str}{v:α}:∀{l:List (Str×α)},(x=y->C (some v))->(x≠y->C (look l y))->C (look (dP l x v) y):=by
 intro l
 induction l with
 |nil=>
  intro h1 h2
  show C (bif sEq x y then some v else none)
  cases q:sEq x y with
  |true=>exact h1 (bZ q)
  |false=>exact h2 (t8 q)
 |cons p r ih=>
  intro h1 h2
  show C (look (bif sEq p.1 x then(p.1,v)::r else p::dP r x v) y)
  have h2:x≠y->C (bif sEq p.1 y then some p.2 else look r y):=h2
  cases q:sEq p.1 x with
  |true=>
   show C (bif sEq p.1 y then some v else look r y)
   cases q2:sEq p.1 y with
   |true=>exact h1 ((bZ q).symm.trans (bZ q2))
   |false=>rw[q2]at h2;exact h2 fun e=>t8 q2 ((bZ q).trans e)
  |false=>
   show C (bif sEq p.1 y then some p.2 else look (dP r x v) y)
   cases q2:sEq p.1 y with
   |true=>rw[q2]at h2;exact h2 fun e=>t8 q ((bZ q2).trans e.symm)
   |false=>rw[q2]at h2;exact ih h1 h2
noncomputable def St.put(S:St fs)(D:Addr)(al:S.Al D)(s' :Shared)(hs:∀b,b≠D->s'.heap.get? b=S.h b)(p:Plain s'.heap D)(g:s'.gens=S.s.gens):St fs:=
 S.to s' (fun b o q e=>(hs b fun z=>q (z▸al)).trans e) (fun a h=>Classical.byCases (fun q:a=D=>q▸p) fun q=>(S.frames a h).2.2.up fun o e=>(hs a q).trans e) g
theorem aQ.put{S:St fs}{al hs p g}(hZ:D∈Z)(o:s'.os=S.s.os):aQ Z S (S.put D al s' hs p g):= .same (fun b o q e=>(hs b fun z=>q (z▸hZ)).trans e) o
noncomputable def Uu(sc:Scope)(env:Env)(Z:List Addr):Prop:=env.locals∈Z/\∀y,bp sc y= .tw->∀z∈aZ env,z∈Z
section
variable{S:St fs}{env:Env}{l l' :Loc}{Z:List Addr}{Q:Unit->Shared->Prop}{K:aa->Prop}(hE:bx sc env)(hZ:Uu sc env Z)(L:Lc S env l)
include hE L
theorem bx.only{y z:Str}(e:env.cells.lookup y=some k)(e' :env.cells.lookup z=some k'):y=z/\k≠env.locals:=hE.one.elim (fun q=>by rw[q]at e;exact nn e) fun q=>by
 obtain⟨n,k₀,q,q2⟩:=q
 rw[q,List.lookup_cons]at e e'
 cases h1:y==n with
 |false=>rw[h1]at e;exact nn e
 |true=>
  cases h2:z==n with
  |false=>rw[h2]at e';exact nn e'
  |true=>rw[h1]at e;exact⟨(eq_of_beq h1).trans (eq_of_beq h2).symm,Option.some.inj e▸q2⟩
theorem Lc.put{al hs g}{p:Plain s'.heap D}(ns:∀G:Prop,(∀m,s'.heap.Ns env.locals m->(∀x v,env.kindOf x=some .local->look l' x=some v->∀G:Prop,(∀v',m x=some v' ->S.R v v' ->G)->G)->G)->G)
  (cl:∀x v,(env.kindOf x=some .cell\/env.kindOf x=some .free)->look l' x=some v->∀G:Prop,(∀k v',env.cells.lookup x=some k->s'.heap.IsCell k (some v')->S.R v v' ->G)->G)
  (cv:∀x,env.kindOf x=some .cell->∀G:Prop,(∀k v₀,env.cells.lookup x=some k->s'.heap.IsCell k v₀->G)->G):Lc (S.put D al s' hs p g) env l' :=
 ⟨fun z hz=>⟨(L.fX z hz).1,Classical.byCases (fun q:z=D=>q▸p) fun q=>(L.fX z hz).2.up fun o e=>(hs z q).trans e⟩,ns,cl,cv⟩
include hZ
theorem fY(h:fv sc l y v=some l')(r:S.R v v')(hk:K S.c)(ok:∀S',aQ Z S S' ->Lc S' env l' ->K S'.c->Q () S'.s):wpAny M0 A (storeName env y v') Q E S.s:=aE h fun hq h=>by
 cases Option.some.inj h
 clear h
 cases q:bp sc y with
 |loc=>
  refine L.ns _ fun m n1 n2=>wpAny_storeName_local (hE.loc y q) n1 (fun h' hn hs=> ?_) (by rw[hE.kind];rfl)
  have p:Plain h' env.locals:=fun G g=>hn.elim fun o h=>h.elim fun es h=>h.elim fun ep h=>g o h.1 fun vs z=>nomatch h.2.1.symm.trans z
  have ne:∀{z k},env.cells.lookup z=some k->k≠env.locals:=fun e=>(hE.only L e e).2
  refine ok (S.put env.locals (L.fX _ (.head _)).1 {S.s with heap:=h',toks:=S.s.toks+1} hs.2 p rfl) (.put hZ.1 rfl) (.put hE L (fun G g=>g _ hn fun x u hx=> ?_) (fun x u hx=> ?_) fun x hx G g=>L.cv x hx G fun k v₀ e w=>g k v₀ e (w.elim fun o w=>⟨o,(hs.2 k (ne e)).trans w.1,w.2⟩)) hk
  ·exact bP (C:=fun o=>o=some u->_) (fun e e2 G g=>g v' (if_pos e.symm) (Option.some.inj e2▸r)) fun e e2 G g=>n2 x u hx e2 G fun v' e3=>g v' ((if_neg (Ne.symm e)).trans e3)
  ·exact bP (C:=fun o=>o=some u->_) (fun e=>by subst e;rw[hE.loc y q]at hx;exact hx.elim (fun h=>nomatch h) fun h=>nomatch h) fun e e2 G g=>L.cl x u hx e2 G fun k v' e w r=>g k v' e (w.elim fun o w=>⟨o,(hs.2 k (ne e)).trans w.1,w.2⟩) r
 |tw=>
  refine L.cv y (hE.cell y q) _ fun k v₀ e1 e2=>wpAny_storeName_cell hE.kind (hE.cell y q) e1 e2 fun h' hc hs=> ?_
  have p:Plain h' k:=fun G g=>hc.elim fun o h=>g o h.1 fun vs z=>nomatch h.2.symm.trans z
  have only:=fun{z k'} (e:env.cells.lookup z=some k')=>(hE.only L e1 e).1
  have hz:k∈aZ env:= .tail _ (fA e1)
  refine ok (S.put k (L.fX _ hz).1 {S.s with heap:=h' } hs.2 p rfl) (.put (hZ.2 y q k hz) rfl) (.put hE L (fun G g=>L.ns G fun m hm n2=>g m (hm.elim fun o w=>⟨o,w.imp fun es w=>w.imp fun ep w=>⟨(hs.2 _ (Ne.symm (hE.only L e1 e1).2)).trans w.1,w.2⟩⟩) fun x u hx=> ?_) (fun x u hx=> ?_) fun x hx G g=>L.cv x hx G fun k' v₀ e w=> ?_) hk
  ·exact bP (C:=fun o=>o=some u->_) (fun e=>by subst e;rw[hE.cell y q]at hx;exact nomatch hx) fun e=>n2 x u hx
  ·exact bP (C:=fun o=>o=some u->_) (fun e e2 G g=>g k v' (e▸e1) hc (Option.some.inj e2▸r)) fun e e2 G g=>L.cl x u hx e2 G fun k' v' e3=>absurd (only e3) e
  ·cases only e
   exact g k _ e1 hc
 |_=>rw[q]at hq;cases hq
end
noncomputable def UW(e:Expr):Vw->Prop
 | .name y=>∀C:Expr->Prop,(∀p,C (.Name y p))->C e
 | .tup es=>∀C:Expr->Prop,(∀k p,C (.Tuple es k p))->C e
 | .call f es kw=>∀C:Expr->Prop,(∀p,C (.Call f es kw p))->C e
 | .star=>True
 |_=>∀es env,assignEach (e::es) env=(false,fun v=>assign e env v)::assignEach es env
theorem vu(e:Expr):UW e (vw e):=by
 cases e<;>first|exact fun _ _=>rfl|exact fun C h=>h _|exact fun C h=>h _ _|exact trivial
theorem ec{C:Expr->Prop}{e:Expr}(h:bv e=some y)(k:∀p,C (.Name y p)):C e:=by
 have z:=vu e
 unfold bv at h
 revert h z
 cases vw e with
 |name y=>exact fun h z=>z C fun p=>so (P:=fun y=>(∀p,C (.Name y p))->C (.Name _ p)) h (fun k=>k p) k
 |_=>exact fun h=>nn h
theorem mh{C:Expr->Prop}{e:Expr}(h:d7 e=some ts)(k:∀n p,C (.Tuple ts n p)):C e:=by
 have z:=vu e
 unfold d7 at h
 revert h z
 cases vw e with
 |tup es=>exact fun h z=>z C fun n p=>so (P:=fun ts=>(∀n p,C (.Tuple ts n p))->C (.Tuple _ n p)) h (fun k=>k n p) k
 |_=>exact fun h=>nn h
theorem fZ{t:Expr}{ts:List Expr}{env:Env}(h:cy t=true):assignEach (t::ts) env=(false,fun v=>assign t env v)::assignEach ts env:=by
 have z:=vu t
 unfold cy at h
 revert h z
 cases vw t with
 |star=>exact fun h=>ft h
 |name y=>exact fun _ z=>z (fun t=>assignEach (t::ts) env=(false,fun v=>assign t env v)::assignEach ts env) fun _=>rfl
 |tup y=>exact fun _ z=>z (fun t=>assignEach (t::ts) env=(false,fun v=>assign t env v)::assignEach ts env) fun _ _=>rfl
 |call=>exact fun _ z=>z (fun t=>assignEach (t::ts) env=(false,fun v=>assign t env v)::assignEach ts env) fun _=>rfl
 |_=>exact fun _ z=>z ts env
noncomputable def kH(B:Mp)(h:Heap):Bool->T->Value->Prop
 |false,t,v=>ao B t v
 |true,t,v=>∀G:Value->Prop,(∀a b a' b' q,t= .tup [a,b]->h.IsTuple q #[a',b']->ao B a a' ->ao B b b' ->G (.ref q))->G v
theorem kH.mono(k:Sub B B'){pr:Bool}{t:T}{v:Value}(x:kH B h pr t v):kH B' h pr t v:=by
 induction pr with
 |false=>exact ao.mono k x
 |true=>exact fun G g=>x G fun a b a' b' q e h1 h2 h3=>g a b a' b' q e h1 (h2.mono k) (h3.mono k)
theorem li{ts:List Expr}{env:Env}:ts.all cy=true->(assignEach ts env).length=ts.length/\(assignEach ts env).findIdx? (·.1)=none:=by
 induction ts with
 |nil=>exact fun _=>⟨rfl,rfl⟩
 |cons t ts ih=>
  exact fun h=>am h fun h1 h2=>by
   rw[fZ h1,List.findIdx?_cons,(ih h2).2]
   exact⟨congrArg Nat.succ (ih h2).1,rfl⟩
theorem t9{sc:Scope}{ts:List Expr}:∀{xs:List T} {l l' :Loc},ir sc ts xs l=some l' ->ts.all cy=true/\ts.length=xs.length:=by
 induction ts with
 |nil=>
  intro xs l l' h
  induction xs with
  |nil=>exact⟨rfl,rfl⟩
  |cons=>exact nn h
 |cons t ts ih=>
  intro xs l l' h
  induction xs with
  |nil=>exact nn h
  |cons x xs=>exact ae h fun y e1 h=>ae h fun l e2 h=>⟨ec (C:=fun t=>(t::ts).all cy=true) e1 fun p=>(ih h).1,congrArg Nat.succ (ih h).2⟩
section
variable{env:Env}{Z:List Addr}{Q:Unit->Shared->Prop}{K:aa->Prop}(hE:bx sc env)(hZ:Uu sc env Z)
include hE hZ
theorem Af{ts:List Expr}:∀{S:St fs} {xs:List T} {vs:List Value} {l l' :Loc},Lc S env l->ir sc ts xs l=some l' ->bN S.B xs vs->K S.c->(∀S',aQ Z S S' ->Lc S' env l' ->K S'.c->Q () S'.s)->wpAny M0 A (assignInOrder ((assignEach ts env).map (·.2)) vs) Q E S.s:=by
 induction ts with
 |nil=>
  intro S xs vs l l' L h r hk ok
  induction xs with
  |nil=>exact r (fun vs=>wpAny M0 A (assignInOrder [] vs) Q E S.s) (wpAny_pure (ok S .refl (Option.some.inj h▸L) hk))
  |cons=>exact nn h
 |cons t ts ih=>
  intro S xs vs l l' L h r hk ok
  induction xs with
  |nil=>exact nn h
  |cons x xs=>
   exact ae h fun y e1 h=>ae h fun l e2 h=>r (fun vs=>wpAny M0 A (assignInOrder ((assignEach (t::ts) env).map (·.2)) vs) Q E S.s) fun v r r1 r2=>ec (C:=fun t=>wpAny M0 A (assignInOrder ((assignEach (t::ts) env).map (·.2)) (v::r)) Q E S.s) e1 fun p=>
    wpAny_assignInOrder_more (wpAny_assign_Name (fY (v:= .t x) hE hZ L e2 r1 hk fun S₁ x₁ L₁ k₁=>ih L₁ h (ba.2 ((ba.1 r2).imp fun _ _=>ao.mono x₁.bb)) k₁ fun S₂ x₂=>ok S₂ (x₁.trans x₂)))
theorem rQ{S:St fs}{l l' :Loc}{tg:Expr}{t:T}{v:Value}{pr:Bool}(Rm:bu d fs A)(L:Lc S env l)(h:mK sc tg t l=some l')(hp:pr=true->isTup tg=true)(r:kH S.B S.s.heap pr t v)(hk:K S.c)(ok:∀S',aQ Z S S' ->Lc S' env l' ->K S'.c->Q () S'.s):wpAny M0 A (assign tg env v) Q E S.s:=by
 unfold mK at h
 cases q:bv tg with
 |some y=>
  rw[q]at h
  induction pr with
  |true=>
   have:=hp rfl
   revert this
   exact ec (C:=fun tg=>isTup tg=true->_) q fun _ h=>ft h
  |false=>exact ec (C:=fun tg=>wpAny M0 A (assign tg env v) Q E S.s) q fun p=>wpAny_assign_Name (fY (v:= .t t) hE hZ L h r hk ok)
 |none=>
  rw[q]at h
  refine ae h fun ts e1 h=>ae h fun xs e2 h=> ?_
  have hs:=t9 h
  have hn:=li (env:=env) hs.1
  have key:∀q vs,S.s.heap.IsTuple q (List.toArray vs)->bN S.B xs vs->wpAny M0 A (assign tg env (.ref q)) Q E S.s:=fun q vs hq rs=>mh (C:=fun tg=>wpAny M0 A (assign tg env (.ref q)) Q E S.s) e1 fun n p=>
   wpAny_assign_Tuple Rm.handled hq (by rw[hn.1,hs.2,List.size_toArray,(ba.1 rs).len]) hn.2 fun h' he=>have x₁:aQ [] S (S.go {S.s with heap:=h' } (fun b o e=>he b o (Nat.ne_of_lt (Heap.lt_size e)) e) rfl):=St.bk rfl;Af hE hZ (L.ext x₁) h rs hk fun S' x=>ok S' (x₁.wide.trans x)
  cases jB e2
  induction pr with
  |false=>exact(r:ao S.B (.tup xs) v) (fun v=>wpAny M0 A (assign tg env v) Q E S.s) fun a vs n g _ rs=>key a vs ⟨_,S.stay _ _ g,rfl,_,rfl⟩ rs
  |true=>exact r (fun v=>wpAny M0 A (assign tg env v) Q E S.s) fun a b a' b' q e hq r1 r2=>key q [a',b'] hq (by injection e with e;exact e▸fun G g=>g _ _ r1 fun G g=>g _ _ r2 fun G g=>g)
end
structure yO(A:Around)(B:Mp)(pr:Bool)(J:Addr)(xs:List T)(fp wr:List Addr)(St:Nat->Heap->Prop):Prop where
 sub:∀b∈wr,b∈fp
 frame:∀i h h',St i h->(∀b∈fp,∀o,h.get? b=some o->h'.get? b=some o)->St i h'
 live:∀i h,St i h->∀b∈fp,∃o,h.get? b=some o
 item:∀(tg:Expr) i t (s:Shared) (Q:Option Value->Shared->Prop) (Q' :Value->Shared->Prop) (E:Value->Shared->Prop),xs[i]? =some t->(pr=true->isTup tg=true)->St i s.heap->Sub B s.heap.get? ->
  (∀v s₁,(wpAny M0 A (letOwnedTupleGo tg (.ref J) v) (fun _ s₂=>Q' v s₂) E s₁)->Q (some v) s₁)->
  (∀v h' tk,kH B h' pr t v->St (i+1) h' ->(∀b o,b∉wr->s.heap.get? b=some o->h'.get? b=some o)->Q' v {s with heap:=h',toks:=tk})->wpAny M0 A (pyNext (.ref J)) Q E s
 self:∀i (s:Shared) (Q:Value->Shared->Prop) (E:Value->Shared->Prop),St i s.heap->Q (.ref J) s->wpAny M0 A (pyIter (.ref J)) Q E s
 done:∀(s:Shared) (Q:Option Value->Shared->Prop) (E:Value->Shared->Prop),St xs.length s.heap->Sub B s.heap.get? ->
  (∀h' tk,(∀b o,b∉wr->s.heap.get? b=some o->h'.get? b=some o)->Q none {s with heap:=h',toks:=tk})->wpAny M0 A (pyNext (.ref J)) Q E s
structure Apart(S₀ S:St fs)(V fp wr:List Addr):Prop where
 fp:∀b∈fp,S.ow b=none/\b∉et fs/\b∉V
 wr:∀b∈wr,S.B b=none/\S₀.h b=none
noncomputable def Walk(A:Around)(S₀ S:St fs)(V:List Addr)(pr:Bool)(J:Addr)(xs:List T):Prop:=∀G:Prop,(∀B ys fp wr P i,yO A B pr J ys fp wr P->Sub B S.B->ys.drop i=xs->i<=ys.length->P i S.s.heap->Apart S₀ S V fp wr->G)->G
section
variable{A:Around}{S₀ S S' :St fs}{V fp wr:List Addr}{pr:Bool}{J:Addr}{xs:List T}{Q:Option Value->Shared->Prop}{E:Value->Shared->Prop}
theorem Apart.ext(h:Apart S₀ S V fp wr)(x:aQ V S S')(sub:∀b∈wr,b∈fp)(live:∀b∈fp,∃o,S.h b=some o):Apart S₀ S' V fp wr:=
 ⟨fun b hb=>(live b hb).elim fun o e=>⟨(x.keep b o (h.fp b hb).2.2 (h.fp b hb).1 e).1,(h.fp b hb).2⟩,fun b hb=>(live b (sub b hb)).elim fun o e=>⟨(x.keep b o (h.fp b (sub b hb)).2.2 (h.fp b (sub b hb)).1 e).2 (h.wr b hb).1,(h.wr b hb).2⟩⟩
theorem Walk.ext(k:Walk A S₀ S V pr J xs)(x:aQ V S S'):Walk A S₀ S' V pr J xs:=fun G g=>k G fun B ys fp wr P i I hB hd hl st ap=>g B ys fp wr P i I (hB.trans x.bb) hd hl (I.frame _ _ _ st fun b hb o e=>have q:=ap.fp b hb;x.cK b o q.1 q.2.1 q.2.2 e) (ap.ext x I.sub (I.live _ _ st))
noncomputable def St.walk(S:St fs){wr:List Addr}(s' :Shared)(k:∀b o,b∉wr->S.h b=some o->s'.heap.get? b=some o)(w:∀b∈wr,S.Al b/\b∉et fs)(g:s'.gens=S.s.gens):St fs:=
 S.to s' (fun b o q e=>k b o (fun z=>q (w b z).1) e) (fun a h=>(S.frames a h).2.2.up fun o e=>k a o (fun z=>(w a z).2 h) e) g
theorem Apart.al(h:Apart S₀ S V fp wr)(sub:∀b∈wr,b∈fp):∀b∈wr,S.Al b/\b∉et fs:=fun b hb=>⟨⟨(h.wr b hb).1,(h.fp b (sub b hb)).1⟩,(h.fp b (sub b hb)).2.1⟩
noncomputable def Step(S₀ S S' :St fs)(V:List Addr):Prop:=∀G:Prop,(∀W,aQ W S S' ->(∀b∈W,b∉V/\S₀.h b=none)->G)->G
theorem vv{h' :Heap}{tk:Nat}(ap:Apart S₀ S V fp wr)(sub:∀b∈wr,b∈fp)(k:∀b o,b∉wr->S.h b=some o->h'.get? b=some o){K:aa->Prop}{C:St fs->Prop}(hk:K S.c)
  (g:∀S',Step S₀ S S' V->K S'.c->Apart S₀ S' V fp wr->S.B=S'.B->S'.s= {S.s with heap:=h',toks:=tk}->C S'):C (S.walk {S.s with heap:=h',toks:=tk} k (ap.al sub) rfl):=
 g _ (fun G q=>q wr (.same k rfl) fun b hb=>⟨(ap.fp b (sub b hb)).2.2,(ap.wr b hb).2⟩) hk ⟨ap.fp,ap.wr⟩ rfl rfl
theorem Walk.next{K:aa->Prop}{tg:Expr}{Q' :Value->Shared->Prop}(k:Walk A S₀ S V pr J (t::xs))(hk:K S.c)(hp:pr=true->isTup tg=true)(hg:∀v s₁,(wpAny M0 A (letOwnedTupleGo tg (.ref J) v) (fun _ s₂=>Q' v s₂) E s₁)->Q (some v) s₁)
  (ok:∀v S',Step S₀ S S' V->K S'.c->Walk A S₀ S' V pr J xs->kH S'.B S'.s.heap pr t v->Q' v S'.s):wpAny M0 A (pyNext (.ref J)) Q E S.s:=k _ fun B ys fp wr P i I hB hd hl st ap=>by
 have hi:ys[i]? =some t:=by rw[<-Nat.add_zero i,<-List.getElem?_drop,hd];rfl
 have Ka:ys.drop (i+1)=xs:=by rw[<-List.drop_drop,hd];rfl
 refine I.item tg i t S.s Q Q' E hi hp st (hB.trans S.stay) hg fun v h' tk iv NP kk=> ?_
 exact vv (C:=fun S' =>Q' v S'.s) ap I.sub kk hk fun S' x hk YT eB es=>ok v S' x hk (fun G g=>g B ys fp wr P (i+1) I (eB▸hB) Ka (List.getElem?_eq_some_iff.mp hi).1 (by rw[es];exact NP) YT) (by rw[es];exact iv.mono (eB▸hB))
theorem Walk.done{K:aa->Prop}(k:Walk A S₀ S V pr J [])(hk:K S.c)(ok:∀S',Step S₀ S S' V->K S'.c->Q none S'.s):wpAny M0 A (pyNext (.ref J)) Q E S.s:=k _ fun B ys fp wr P i I hB hd hl st ap=>by
 cases Nat.le_antisymm hl (List.drop_eq_nil_iff.mp hd)
 exact I.done S.s Q E st (hB.trans S.stay) fun h' tk kk=>vv (C:=fun S' =>Q none S'.s) ap I.sub kk hk fun S' x hk _ _ _=>ok S' x hk
theorem Walk.self{Q:Value->Shared->Prop}(k:Walk A S₀ S V pr J xs)(q:Q (.ref J) S.s):wpAny M0 A (pyIter (.ref J)) Q E S.s:=k _ fun B ys fp wr P i I hB hd hl st ap=>I.self i S.s Q E st q
end
noncomputable def vx(n:String):Bool:= !["enumerate","zip","dict_itemiterator","dict_reverseitemiterator","odict_iterator","itertools.zip_longest","itertools.pairwise"].contains n
section
variable{A:Around}{E:Value->Shared->Prop}{s:Shared}
theorem rR{tg:Expr}{J:Addr}{v:Value}{o:Obj}{n:String}{Q:Unit->Shared->Prop}(ho:s.heap.get? J=some o)(hc:o.cls= .type n)(hn:vx n=true)(q:Q () s):wpAny M0 A (letOwnedTupleGo tg (.ref J) v) Q E s:=by
 have key:∀(a:Addr) (p:Pos),wpAny M0 A (letOwnedTupleGo (.Tuple [] 0 p) (.ref J) (.ref a)) Q E s:=fun a p=>by
  refine wpAny_bind (wpAny_load ho ?_)
  rw[hc]
  induction o.data with
  |fields=>exact bm_if_false (by rw[dW hn];rfl) (wpAny_pure q)
  |_=>exact wpAny_pure q
 cases tg with
 |Tuple es k pos=>
  induction v with
  |ref a=>exact key a pos
  |_=>exact wpAny_pure q
 |List es pos=>
  induction v with
  |ref a=>exact key a pos
  |_=>exact wpAny_pure q
 |_=>exact wpAny_pure q
end
theorem yO.ofWalks{A:Around}{B:Mp}{J:Addr}{xs:List T}{fp wr:List Addr}{n:Nat}{P:Nat->Value->Prop}{St:Nat->Heap->Prop}(W:Walks pW w0 A J fp wr n P St)(nm:String)(YU:vx nm=true)
  (Ag:∀i h,St i h->∃o,h.get? J=some o/\o.cls= .type nm) (live:∀i h,St i h->∀b∈fp,∃o,h.get? b=some o) (hn:n=xs.length) (hP:∀i v t,P i v->xs[i]? =some t->ao B t v):yO A B false J xs fp wr St where
 sub:=W.sub
 frame:=W.frame
 live:=live
 item:=fun tg i t s Q Q' E hi _ st stay hg hQ=>W.item i s Q E (hn▸(List.getElem?_eq_some_iff.mp hi).1) st fun v h' tk pv NP k=>hg v _ ((Ag _ _ NP).elim fun o z=>rR (s:= {s with heap:=h',toks:=tk}) z.1 z.2 YU (hQ v h' tk (hP i v t pv hi) NP k))
 self:=W.self
 done:=fun s Q E st _ hQ=>W.done s Q E (hn▸st) hQ
theorem Ah{C:Expr->Prop}{e:Expr}(h:isTup e=true)(k:∀ts n p,C (.Tuple ts n p)):C e:=(Option.isSome_iff_exists.mp h).elim fun ts q=>mh q (k ts)
theorem yO.rS{A:Around}{B:Mp}{J:Addr}{xs:List T}{fp wr:List Addr}{n:Nat}{Pt:Nat->Array Value->Prop}{St:Nat->Heap->Prop}{YV:Nat->Addr->Heap->Prop}(W:WalksT pW w0 A J fp wr n Pt St YV)
  (live:∀i h,St i h->∀b∈fp,∃o,h.get? b=some o) (hn:n=xs.length) (hP:∀i vals t,Pt i vals->xs[i]? =some t->∀G:Prop,(∀a b a' b',t= .tup [a,b]->vals= #[a',b']->ao B a a' ->ao B b b' ->G)->G):yO A B true J xs fp wr St where
 sub:=W.sub
 frame:=W.frame
 live:=live
 item:=fun tg i t s Q Q' E hi hp st stay hg hQ=>by
  revert hg
  refine Ah (C:=fun tg=>(∀v s₁,(wpAny M0 A (letOwnedTupleGo tg (.ref J) v) (fun _ s₂=>Q' v s₂) E s₁)->Q (some v) s₁)->wpAny M0 A (pyNext (.ref J)) Q E s) (hp rfl) fun es kk pos hg=>W.item i s Q E (hn▸(List.getElem?_eq_some_iff.mp hi).1) st fun D vals h' tk pv hT tup mid k=>hg _ _ ?_
  exact W.go es kk pos i D _ _ _ mid fun TY NP k' =>hP i vals t pv hi _ fun a b a' b' e1 e2 e3 e4=>hQ _ TY tk (fun G g=>tup.elim fun o z=>g a b a' b' D e1 ⟨o,k' D o (W.apart _ _ _ mid) z.1,e2▸z.2⟩ e3 e4) NP fun b o hb e=>k' b o hb (k b o hb e)
 self:=W.self
 done:=fun s Q E st _ hQ=>W.done s Q E (hn▸st) hQ
noncomputable abbrev rW(A:Around)(S₀:St fs)(V:List Addr):Rl fs (Bool×List T) Value:=fun S p v=>∀G:Value->Prop,(∀J,Walk A S₀ S V p.1 J p.2->p.2.length<=big->G (.ref J))->G v
theorem Walk.start{A:Around}{S₀ S S' :St fs}{V:List Addr}(x:aQ [] S₀ S)(k:Walk A S S' V pr J xs):Walk A S₀ S' V pr J xs:=fun G g=>k G fun B ys fp wr P i I hB hd hl st ap=>g B ys fp wr P i I hB hd hl st ⟨ap.fp,fun b hb=>⟨(ap.wr b hb).1,x.live b List.not_mem_nil (ap.wr b hb).2⟩⟩
section
variable{A:Around}{S:St fs}{env:Env}{l:Loc}{D:Addr}{s' :Shared}{fp wr:List Addr}{xs:List T}{P:Nat->Heap->Prop}(k:Sub S.h s'.heap.get?)(g:s'.gens=S.s.gens)(o:s'.os=S.s.os)(L:Lc S env l)(I:yO A S.B pr D xs fp wr P)(st:P 0 s'.heap)(hf:∀b∈fp,S.h b=none\/∃o,S.B b=some o)(hw:∀b∈wr,S.h b=none)(hl:xs.length<=big){u:PT Value}(h:∀Q E,Q (.ref D) s' ->u Q E S.s)
include k g o L I st hf hw hl h
theorem au.walk:au S (rW A S (aZ env)) (aJ (pr,xs) S.c) u:= .fin (S.go s' k g) (St.bk o) (fun G z=>z D (fun G z=>z S.B xs fp wr P 0 I .refl rfl (Nat.zero_le _) st ⟨fun b hb=>(hf b hb).elim (fun e=>⟨(St.al (S:=S) e).2,St.off e,fun q=>(L.fX b q).2.not e⟩) fun⟨o,e⟩=>⟨match q:S.ow b with
  |none=>rfl
  |some i=>sn e (S.own b i q).1,fun q=>sn e (S.frames b q).1,fun q=>sn e (L.fX b q).1.1⟩,fun b hb=>⟨(St.al (S:=S) (hw b hb)).1,hw b hb⟩⟩) hl) h
end
theorem di{α:Type}{P:α->Prop}:∀b∈([]:List α),P b:=fun b h=>nomatch h
theorem bg{α:Type}{P:α->Prop}{a:α}{l:List α}(h:P a)(t:∀b∈l,P b):∀b∈a::l,P b:=fun b hb=>(List.mem_cons.mp hb).elim (fun e=>e▸h) (t b)
theorem qa{xs:List T}{i:Nat}(r:bN B xs vs)(h1:vs[i]? =some v)(h2:xs[i]? =some t):ao B t v:=(ba.1 r).at h1 fun x e r=>Option.some.inj (h2.symm.trans e)▸r
theorem rT{n:Nat}:Builtin.Range.rangeSize 0 (n:Int) 1=(n:Int):=by
 induction n with
 |zero=>rfl
 |succ n=>exact(if_pos (by decide)).trans ((if_pos (Int.ofNat_lt.mpr (Nat.succ_pos n))).trans (by rw[Int.sub_zero,Int.ediv_one,Int.sub_add_cancel]))
theorem xF{n:Nat}(h:n<=big):Builtin.Range.small 0 (n:Int) 1=true:=by
 have hb:(n:Int)<=1048576:=Int.ofNat_le.mpr h
 have f3:Builtin.Range.rangeFitsLong (n:Int)=true:=by unfold Builtin.Range.rangeFitsLong;rw[decide_eq_true (by lia),decide_eq_true (by omega)];rfl
 unfold Builtin.Range.small
 rw[rT,f3,if_pos (by decide),show(n:Int)+(1-1)=n from Int.add_zero _,f3,Bool.or_true]
 rfl
section
variable{A:Around}{S:St fs}{env:Env}{l:Loc}(Rm:bu d fs A)(L:Lc S env l)
include Rm L
theorem EO{t:T}{v:Value}(r:ao S.B t v):au S (rW A S (aZ env)) (aG (tE t) fun xs=>aJ (false,xs) S.c) (wpAny M0 A (pyIter v)):= .opt fun xs e=>by
 have n0:=bw S.s.heap
 have ne:∀{a o},S.B a=some o->a≠S.s.heap.objs.size:=fun e q=>sn (S.stay _ _ e) (q▸n0)
 cases t with
 |lst ys=>
  cases Option.some.inj e
  refine r (fun v=>au S _ _ (wpAny M0 A (pyIter v))) fun a vs n g hl rs=> ?_
  exact .walk (s' := {S.s with heap:=S.s.heap.push _}) aT rfl rfl L (yO.ofWalks (Walks.list Rm.handled S.s.heap.objs.size a (ne g) (List.toArray vs)) "list_iterator" (by decide+kernel) (fun i h st=>st.1.elim fun o z=>⟨o,z.1,z.2.1⟩) (fun i h st=>bg (st.1.elim fun o z=>⟨o,z.1⟩) (bg (st.2.elim fun o z=>⟨o,z.1⟩) di)) (by rw[List.size_toArray,(ba.1 rs).len]) fun i v t pv hi=>qa rs ((List.getElem?_toArray ..).symm.trans pv) hi)
   ⟨⟨_,aU rfl,rfl,rfl⟩,⟨_,Heap.get?_push_of_some _ (S.stay _ _ g),rfl,_,rfl⟩⟩ (bg (.inl n0) (bg (.inr ⟨_,g⟩) di)) (bg n0 di) hl fun Q E=>wpAny_pyIter_list ⟨_,S.stay _ _ g,rfl,_,rfl⟩
 |tup ys=>
  cases Option.some.inj e
  refine r (fun v=>au S _ _ (wpAny M0 A (pyIter v))) fun a vs n g hl rs=> ?_
  exact .walk (s' := {S.s with heap:=S.s.heap.push _}) aT rfl rfl L (yO.ofWalks (Walks.tuple Rm.handled S.s.heap.objs.size a (ne g) (List.toArray vs)) "tuple_iterator" (by decide+kernel) (fun i h st=>st.1.elim fun o z=>⟨o,z.1,z.2.1⟩) (fun i h st=>bg (st.1.elim fun o z=>⟨o,z.1⟩) (bg (st.2.elim fun o z=>⟨o,z.1⟩) di)) (by rw[List.size_toArray,(ba.1 rs).len]) fun i v t pv hi=>qa rs ((List.getElem?_toArray ..).symm.trans pv) hi)
   ⟨⟨_,aU rfl,rfl,rfl⟩,⟨_,Heap.get?_push_of_some _ (S.stay _ _ g),rfl,_,rfl⟩⟩ (bg (.inl n0) (bg (.inr ⟨_,g⟩) di)) (bg n0 di) hl fun Q E=>wpAny_pyIter_tuple ⟨_,S.stay _ _ g,rfl,_,rfl⟩
 |bytes b=>
  cases Option.some.inj e
  refine r (fun v=>au S _ _ (wpAny M0 A (pyIter v))) fun tk hl=> ?_
  exact .walk (s' := {S.s with heap:=S.s.heap.push _}) aT rfl rfl L (yO.ofWalks (KBw.walks Rm.handled S.s.heap.objs.size b.toArray tk) "bytes_iterator" (by decide+kernel) (fun i h st=>st.elim fun o z=>⟨o,z.1,z.2.1⟩) (fun i h st=>bg (st.elim fun o z=>⟨o,z.1⟩) di) (by rw[List.size_toArray,List.length_map]) fun i v t pv hi=>by
    obtain⟨cc,u,e1,e2⟩:=pv
    rw[List.getElem?_map,<-List.getElem?_toArray,e1]at hi
    rw[e2]
    exact so (P:=fun t=>ao S.B t _) hi .i)
   ⟨_,aU rfl,rfl,rfl⟩ (bg (.inl n0) di) (bg n0 di) (by rw[List.length_map];exact hl) fun Q E=>KBw.pyIter_bytes
 |H5 n=>
  cases Option.some.inj e
  refine r (fun v=>au S _ _ (wpAny M0 A (pyIter v))) fun a t u w' g hl=> ?_
  exact .walk (s' := {S.s with heap:=S.s.heap.push _}) aT rfl rfl L (yO.ofWalks (Walks.range Rm.handled S.s.heap.objs.size 0 1 n) "range_iterator" (by decide+kernel) (fun i h st=>⟨_,st,rfl⟩) (fun i h st=>bg ⟨_,st⟩ di) (by rw[List.length_map,List.length_range]) fun i v t pv hi=>by
    obtain⟨tt,e⟩:=pv
    have h1:=(List.getElem?_eq_some_iff.mp hi).1
    rw[List.length_map,List.length_range]at h1
    rw[List.getElem?_map,List.getElem?_range h1]at hi
    rw[e,Int.mul_one,Int.zero_add]
    exact so (P:=fun t=>ao S.B t _) hi .i)
   (by rw[show(0:Int)+(0:Nat)*1=0 from rfl,show(n:Int)-(0:Nat)=n from Int.sub_zero _];exact aU rfl) (bg (.inl n0) di) (bg n0 di) (by rw[List.length_map,List.length_range];exact hl) fun Q E q=>wpAny_pyIter_range (S.stay _ _ g) (xF hl) (by rw[rT];exact q)
 |_=>exact nn e
end
end
section
set_option autoImplicit true
open PySem PySem.W PyProof.Rows PySem.Calls
open Builtin
section
variable{prog:Program}{w:World}{A:Around}{E:Value->Shared->Prop}{s:Shared}
theorem Ai{it t:Addr}{i:Nat}{items:Array Value}{x:Value}{Q:Value->Shared->Prop}(hit:s.heap.IsTupleIter it t i)(ht:s.heap.IsTuple t items)(hx:items[i]? =some x)
  (hQ:∀h',h'.IsTupleIter it t (i+1)->Heap.SameBut it s.heap h' ->Q x {s with heap:=h' }):wpAny (model prog w) A (SmallTypes.nextOf (.ref it)) Q E s:=by
 obtain⟨o,ho,hc,hd⟩:=id hit
 obtain⟨ol,UX,_,nl,O6⟩:=ht
 unfold SmallTypes.nextOf
 refine wpAny_bind (wpAny_callSpecial?_slot (name:=Str.ofString "__next__") hit.typeIs F.slot_tuple_iterator_next (wpAny_call_entry F.slot_tuple_iterator_next hit.typeIs F.entry_tuple_iterator_next ?_ (F.args_tuple_iterator_next_1 _)))
 refine wpAny_bind (m:=field (.ref it) 0) (wpAny_field ho hd (x:= .ref t) rfl ?_)
 show wpAny _ _ (if(Value.ref t==Value.none)=true then _ else _) _ _ s
 rw[if_neg (show¬((Value.ref t==Value.none)=true)from Bool.false_ne_true)]
 refine wpAny_bind (m:=field (.ref it) 1) (wpAny_field ho hd (x:= .int i 0) rfl ?_)
 refine wpAny_bind (m:=seqItems? (.ref t)) (wpAny_seqItems UX O6 ?_)
 simp only[Int.toNat_natCast,hx]
 refine wpAny_bind (wpAny_setField ho hd (by simp) (wpAny_pure ⟨x,rfl,wpAny_pure (hQ _ ?_ (Heap.SameBut.update ..))⟩))
 exact⟨_,Heap.get?_update_self _ ho (Obj.isFreed_of_fields (Obj.data_mapFields hd _)),(Obj.cls_mapFields ..).trans hc,by rw[Obj.data_mapFields hd];simp [rawInt]⟩
theorem ua{it:Addr}{b:Array UInt8}{t:Tok}{i:Nat}{u:UInt8}{Q:Value->Shared->Prop}(hit:KBw.IsBytesIter s.heap it b t i)(hx:b[i]? =some u)
  (hQ:∀h',KBw.IsBytesIter h' it b t (i+1)->Heap.SameBut it s.heap h' ->Q (.int (u.toNat:Int) s.toks) {s with heap:=h',toks:=s.toks+1}):wpAny (model prog w) A (SmallTypes.nextOf (.ref it)) Q E s:=by
 obtain⟨o,ho,hc,hd⟩:=id hit
 unfold SmallTypes.nextOf
 refine wpAny_bind (wpAny_callSpecial?_slot (name:=Str.ofString "__next__") (KBw.iter_typeIs hit) KBw.slot_next (wpAny_call_entry KBw.slot_next (KBw.iter_typeIs hit) KBw.entry_next ?_ (KBw.args_next _)))
 refine wpAny_bind (m:=field (.ref it) 0) (wpAny_field ho hd (x:= .bytes b t) rfl ?_)
 show wpAny _ _ (if(Value.bytes b t==Value.none)=true then _ else _) _ _ s
 rw[if_neg (show¬((Value.bytes b t==Value.none)=true)from Bool.false_ne_true)]
 refine wpAny_bind (m:=field (.ref it) 1) (wpAny_field ho hd (x:= .int i 0) rfl ?_)
 refine wpAny_bind (wpAny_of_eq (a:=b) rfl ?_)
 simp only[Int.toNat_natCast,hx]
 refine wpAny_bind (wpAny_setField ho hd (by simp) (wpAny_bind (wpAny_mkInt (wpAny_pure ⟨_,rfl,wpAny_pure (hQ _ ?_ (Heap.SameBut.update ..))⟩))))
 exact⟨_,Heap.get?_update_self _ ho (Obj.isFreed_of_fields (Obj.data_mapFields hd _)),(Obj.cls_mapFields ..).trans hc,by rw[Obj.data_mapFields hd];simp [rawInt]⟩
theorem Aj{it t:Addr}{i:Nat}{items:Array Value}{Q:Value->Shared->Prop}(hh:A.handled=none)(hit:s.heap.IsTupleIter it t i)(ht:s.heap.IsTuple t items)(hx:items[i]? =none)
  (hE:∀h' e,Heap.ExtBut it s.heap h' ->(∃o,h'.get? e=some o/\o.cls= .type "StopIteration")->E (.ref e) {s with heap:=h' }):wpAny (model prog w) A (SmallTypes.nextOf (.ref it)) Q E s:=by
 obtain⟨o,ho,hc,hd⟩:=id hit
 obtain⟨ol,UX,_,nl,O6⟩:=ht
 unfold SmallTypes.nextOf
 refine wpAny_bind (wpAny_callSpecial?_slot (name:=Str.ofString "__next__") hit.typeIs F.slot_tuple_iterator_next (wpAny_call_entry F.slot_tuple_iterator_next hit.typeIs F.entry_tuple_iterator_next ?_ (F.args_tuple_iterator_next_1 _)))
 refine wpAny_bind (m:=field (.ref it) 0) (wpAny_field ho hd (x:= .ref t) rfl ?_)
 show wpAny _ _ (if(Value.ref t==Value.none)=true then _ else _) _ _ s
 rw[if_neg (show¬((Value.ref t==Value.none)=true)from Bool.false_ne_true)]
 refine wpAny_bind (m:=field (.ref it) 1) (wpAny_field ho hd (x:= .int i 0) rfl ?_)
 refine wpAny_bind (m:=seqItems? (.ref t)) (wpAny_seqItems UX O6 ?_)
 simp only[Int.toNat_natCast,hx]
 refine wpAny_bind (wpAny_rule (wpAny_bind (wpAny_setField ho hd (by simp) ?_)))
 refine wpAny_bind (m:=newExc (.type "StopIteration") []) ?_
 simp only[newExc,newTuple]
 refine wpAny_bind (wpAny_newObj_type ?_ (by size_fits))
 refine wpAny_bind (m:=firstArgMember _ _) (wpAny_of_eq (a:=Value.none) (by first|rfl|(simp only[firstArgMember];rfl)) ?_)
 refine wpAny_newObj_type ?_ (by size_fits)
 simp only[raiseNew]
 refine wpAny_bind (wpAny_handled ?_)
 first|rw[show A.in1.handled=none from hh]|rw[hh]
 refine wpAny_bind (wpAny_pure (wpAny_throw ?_))
 exact hE _ _ (((Heap.SameBut.update ..).extBut.push _).push _) ⟨_,Heap.get?_push_size _ rfl,rfl⟩
theorem ub{it:Addr}{b:Array UInt8}{t:Tok}{i:Nat}{Q:Value->Shared->Prop}(hh:A.handled=none)(hit:KBw.IsBytesIter s.heap it b t i)(hx:b[i]? =none)
  (hE:∀h' e,Heap.ExtBut it s.heap h' ->(∃o,h'.get? e=some o/\o.cls= .type "StopIteration")->E (.ref e) {s with heap:=h' }):wpAny (model prog w) A (SmallTypes.nextOf (.ref it)) Q E s:=by
 obtain⟨o,ho,hc,hd⟩:=id hit
 unfold SmallTypes.nextOf
 refine wpAny_bind (wpAny_callSpecial?_slot (name:=Str.ofString "__next__") (KBw.iter_typeIs hit) KBw.slot_next (wpAny_call_entry KBw.slot_next (KBw.iter_typeIs hit) KBw.entry_next ?_ (KBw.args_next _)))
 refine wpAny_bind (m:=field (.ref it) 0) (wpAny_field ho hd (x:= .bytes b t) rfl ?_)
 show wpAny _ _ (if(Value.bytes b t==Value.none)=true then _ else _) _ _ s
 rw[if_neg (show¬((Value.bytes b t==Value.none)=true)from Bool.false_ne_true)]
 refine wpAny_bind (m:=field (.ref it) 1) (wpAny_field ho hd (x:= .int i 0) rfl ?_)
 refine wpAny_bind (wpAny_of_eq (a:=b) rfl ?_)
 simp only[Int.toNat_natCast,hx]
 refine wpAny_bind (wpAny_rule (wpAny_bind (wpAny_setField ho hd (by simp) ?_)))
 refine wpAny_bind (m:=newExc (.type "StopIteration") []) ?_
 simp only[newExc,newTuple]
 refine wpAny_bind (wpAny_newObj_type ?_ (by size_fits))
 refine wpAny_bind (m:=firstArgMember _ _) (wpAny_of_eq (a:=Value.none) (by first|rfl|(simp only[firstArgMember];rfl)) ?_)
 refine wpAny_newObj_type ?_ (by size_fits)
 simp only[raiseNew]
 refine wpAny_bind (wpAny_handled ?_)
 first|rw[show A.in1.handled=none from hh]|rw[hh]
 refine wpAny_bind (wpAny_pure (wpAny_throw ?_))
 exact hE _ _ (((Heap.SameBut.update ..).extBut.push _).push _) ⟨_,Heap.get?_push_size _ rfl,rfl⟩
end
theorem Ak{prog:Program}{w:World}{A:Around}(hh:A.handled=none)(it l:Addr)(O7:l≠it)(items:Array Value):
  Draws prog w A it [it,l] items.size (fun i v=>items[i]? =some v) (fun i h=>h.IsTupleIter it l i/\h.IsTuple l items) where
 live:=fun _ _ st=>let⟨o,ho,_⟩:=st.1;⟨o,ho⟩
 frame:=fun _ _ _ st hk=>⟨st.1.at fun o e=>hk it (by simp) o e,st.2.at fun o e=>hk l (by simp) o e⟩
 item:=fun i s Q E hi st hQ=>by
  refine Ai st.1 st.2 (x:=items[i]) (by simp [hi]) fun h' Ky ki=> ?_
  exact hQ _ h' s.toks (by simp [hi]) ⟨Ky,st.2.extBut ki.extBut O7⟩ ki
 done:=fun s Q E st hE=>Aj hh st.1 st.2 (by simp) hE
theorem uc{prog:Program}{w:World}{A:Around}(hh:A.handled=none)(it:Addr)(b:Array UInt8)(t:Tok):
  Draws prog w A it [it] b.size (fun i v=>∃c u,b[i]? =some c/\v= .int (c.toNat:Int) u) (fun i h=>KBw.IsBytesIter h it b t i) where
 live:=fun _ _ st=>let⟨o,ho,_⟩:=st;⟨o,ho⟩
 frame:=fun _ _ _ st hk=>let⟨o,ho,r⟩:=st;⟨o,hk it (by simp) o ho,r⟩
 item:=fun i s Q E hi st hQ=>by
  refine ua st (u:=b[i]) (by simp [hi]) fun h' Ky ki=> ?_
  exact hQ _ h' (s.toks+1) ⟨_,_,by simp [hi],rfl⟩ Ky ki
 done:=fun s Q E st hE=>ub hh st (by simp) hE
section
variable{prog:Program}{w:World}{A:Around}{E:Value->Shared->Prop}{s:Shared}
structure qb(z TI TO i1 i2:Addr)(xG xH:List Addr):Prop where
 TIz:TI≠z
 TOz:TO≠z
 TITO:TI≠TO
 i1z:i1≠z
 i2z:i2≠z
 TIi1:TI≠i1
 TIi2:TI≠i2
 TOi1:TO≠i1
 TOi2:TO≠i2
 z1:z∉xG
 z2:z∉xH
 t1:TO∉xG
 t2:TO∉xH
 XR:i1∉xH
 YW:i2∉xG
 m1:i1∈xG
 m2:i2∈xH
variable{z TI TO i1 i2:Addr}{xG xH:List Addr}{n1 n2:Nat}{P1 P2:Nat->Value->Prop}{S1 S2:Nat->Heap->Prop}
theorem xI{i:Nat}{a b:Value}{Q:Value->Shared->Prop}(X:qb z TI TO i1 i2 xG xH)(D1:Draws prog w A i1 xG n1 P1 S1)(D2:Draws prog w A i2 xH n2 P2 S2)
  (hz:IsZip s.heap z TI TO .none) (vy:IsPair s.heap TI (.ref i1) (.ref i2)) (vz:IsPair s.heap TO a b) (h1:S1 i s.heap) (h2:S2 i s.heap) (l1:i<n1) (l2:i<n2)
  (hQ:∀x y h' tk,P1 i x->P2 i y->IsZip h' z TI TO (rawInt s.heap.objs.size)->IsPair h' TI (.ref i1) (.ref i2)->IsPair h' TO x y->S1 (i+1) h' ->S2 (i+1) h' ->IsPair h' s.heap.objs.size x y->
   (∀c o,c≠z->c≠TO->c≠i1->c≠i2->s.heap.get? c=some o->h'.get? c=some o)->Q (.ref s.heap.objs.size) {s with heap:=h',toks:=tk}):
  wpAny (model prog w) A (Builtin.«zip.__next__» ⟨[.ref z],[]⟩) (fun fin s' =>∃v,fin= .done (.ret v)/\Q v s') E s:=by
 refine wpAny_bind (m:=field (.ref z) 2) (wpAny_field hz rfl (x:= .bool false) rfl ?_)
 refine wpAny_bind (m:=field (.ref z) 3) (wpAny_field hz rfl (x:= .ref TI) rfl ?_)
 refine wpAny_bind (wpAny_seqItems vy rfl ?_)
 refine wpAny_bind (m:=SmallTypes.ownedTupleIsFree (.ref z)) ?_
 unfold SmallTypes.ownedTupleIsFree
 refine wpAny_bind (wpAny_field hz rfl (x:= .none) rfl (wpAny_pure ?_))
 simp only[if_true]
 refine wpAny_bind (wpAny_rule ?_)
 refine wpAny_bind (wpAny_field hz rfl (x:= .ref TO) rfl ?_)
 refine wpAny_bind (wpAny_setField_rec hz (by simp) fun g₁ IC Am=> ?_)
 replace IC:IsZip g₁ z TI TO .ellipsis:=IC
 have a1:S1 i g₁:=D1.frame _ _ _ h1 fun b hb o e=>Am.extBut b o (fun q=>X.z1 (q▸hb)) e
 have a2:S2 i g₁:=D2.frame _ _ _ h2 fun b hb o e=>Am.extBut b o (fun q=>X.z2 (q▸hb)) e
 have Kz:IsPair g₁ TO a b:=Am.extBut _ _ X.TOz vz
 refine wpAny_bind ?_
 simp only[List.zipIdx_cons,List.zipIdx_nil,List.forIn_cons,List.forIn_nil]
 refine wpAny_bind (wpAny_bind (wpAny_onRaise ?_))
 refine wpAny_bind (m:=SmallTypes.nextOf (.ref i1)) (D1.item i _ _ _ l1 a1 fun x g₂ YX px a1 xJ=>wpAny_pure ?_)
 have a2:S2 i g₂:=D2.frame _ _ _ a2 fun b hb o e=>xJ.extBut b o (fun q=>X.XR (q▸hb)) e
 have NQ:IsZip g₂ z TI TO .ellipsis:=xJ.extBut _ _ X.i1z.symm IC
 have An:IsPair g₂ TO a b:=xJ.extBut _ _ X.TOi1 Kz
 refine wpAny_bind (wpAny_seqItems An rfl ?_)
 refine wpAny_bind (wpAny_updateSeq_pair An fun g₃ EP yP=> ?_)
 replace EP:IsPair g₃ TO x b:=EP
 refine wpAny_bind (wpAny_letGo (wpAny_pure ?_))
 have a1:S1 (i+1) g₃:=D1.frame _ _ _ a1 fun b hb o e=>yP.extBut b o (fun q=>X.t1 (q▸hb)) e
 have a2:S2 i g₃:=D2.frame _ _ _ a2 fun b hb o e=>yP.extBut b o (fun q=>X.t2 (q▸hb)) e
 have UY:IsZip g₃ z TI TO .ellipsis:=yP.extBut _ _ X.TOz.symm NQ
 refine wpAny_bind (wpAny_bind (wpAny_onRaise ?_))
 refine wpAny_bind (m:=SmallTypes.nextOf (.ref i2)) (D2.item i _ _ _ l2 a2 fun y g₄ Z0 py a2 ID=>wpAny_pure ?_)
 have a1:S1 (i+1) g₄:=D1.frame _ _ _ a1 fun b hb o e=>ID.extBut b o (fun q=>X.YW (q▸hb)) e
 have TZ:IsZip g₄ z TI TO .ellipsis:=ID.extBut _ _ X.i2z.symm UY
 have O8:IsPair g₄ TO x b:=ID.extBut _ _ X.TOi2 EP
 refine wpAny_bind (wpAny_seqItems O8 rfl ?_)
 refine wpAny_bind (wpAny_updateSeq_pair O8 fun g₅ EQ DD=> ?_)
 replace EQ:IsPair g₅ TO x y:=EQ
 refine wpAny_bind (wpAny_letGo (wpAny_pure (wpAny_pure ?_)))
 have a1:S1 (i+1) g₅:=D1.frame _ _ _ a1 fun b hb o e=>DD.extBut b o (fun q=>X.t1 (q▸hb)) e
 have a2:S2 (i+1) g₅:=D2.frame _ _ _ a2 fun b hb o e=>DD.extBut b o (fun q=>X.t2 (q▸hb)) e
 have XS:IsZip g₅ z TI TO .ellipsis:=DD.extBut _ _ X.TOz.symm TZ
 refine wpAny_bind (wpAny_seqItems EQ rfl ?_)
 refine wpAny_bind (wpAny_newTuple ?_)
 have hsz:g₅.objs.size=s.heap.objs.size:=by rw[DD.1,ID.1,yP.1,xJ.1,Am.1]
 have XT:∀c o,c≠z->c≠TO->c≠i1->c≠i2->s.heap.get? c=some o->g₅.get? c=some o:=fun c o c1 c2 c3 c4 e=>
  DD.extBut _ _ c2 (ID.extBut _ _ c4 (yP.extBut _ _ c2 (xJ.extBut _ _ c3 (Am.extBut _ _ c1 e))))
 have UZ:=XT TI _ X.TIz X.TITO X.TIi1 X.TIi2 vy
 have O9:z<g₅.objs.size:=Heap.lt_size XS
 refine wpAny_bind (m:=SmallTypes.ownedTupleHandOut (.ref z) (.ref g₅.objs.size)) ?_
 unfold SmallTypes.ownedTupleHandOut
 have YY:IsZip (g₅.push {cls:= .type "tuple",data:= .seq #[x,y]}) z TI TO .ellipsis:=Heap.get?_push_of_some _ XS
 refine wpAny_bind (wpAny_setField_rec YY (by simp) fun g₇ U0 XU=> ?_)
 replace U0:IsZip g₇ z TI TO (rawInt g₅.objs.size):=U0
 refine wpAny_setField_rec U0 (by simp) fun g₈ T0 XV=> ?_
 replace T0:IsZip g₈ z TI TO (rawInt g₅.objs.size):=T0
 have up:∀c o,c≠z->g₅.get? c=some o->g₈.get? c=some o:=fun c o c1 e=>XV.extBut _ _ c1 (XU.extBut _ _ c1 (Heap.get?_push_of_some _ e))
 have XW:IsPair g₈ g₅.objs.size x y:=XV.extBut _ _ (Nat.ne_of_gt O9) (XU.extBut _ _ (Nat.ne_of_gt O9) (Heap.get?_push_size _ rfl))
 have b1:S1 (i+1) g₈:=D1.frame _ _ _ a1 fun b hb o e=>up b o (fun q=>X.z1 (q▸hb)) e
 have b2:S2 (i+1) g₈:=D2.frame _ _ _ a2 fun b hb o e=>up b o (fun q=>X.z2 (q▸hb)) e
 rw[hsz]at T0 XW
 refine wpAny_pure ⟨_,rfl,?_⟩
 show Q (.ref g₅.objs.size) _
 rw[hsz]
 exact hQ x y g₈ _ px py T0 (up _ _ X.TIz UZ) (up _ _ X.TOz EQ) b1 b2 XW fun c o c1 c2 c3 c4 e=>up c o c1 (XT c o c1 c2 c3 c4 e)
theorem Ao{i:Nat}{a b:Value}{Q:Fin->Shared->Prop}(X:qb z TI TO i1 i2 xG xH)(D1:Draws prog w A i1 xG n1 P1 S1)(D2:Draws prog w A i2 xH n2 P2 S2)
  (hz:IsZip s.heap z TI TO .none) (vy:IsPair s.heap TI (.ref i1) (.ref i2)) (vz:IsPair s.heap TO a b) (h1:S1 i s.heap) (h2:S2 i s.heap) (U1:i=n1\/(i<n1/\i=n2))
  (hE:∀h' tk e,(∀c o,c≠z->c≠TO->c≠i1->c≠i2->s.heap.get? c=some o->h'.get? c=some o)->(∃o,h'.get? e=some o/\o.cls= .type "StopIteration")->E (.ref e) {s with heap:=h',toks:=tk}):
  wpAny (model prog w) A (Builtin.«zip.__next__» ⟨[.ref z],[]⟩) Q E s:=by
 refine wpAny_bind (m:=field (.ref z) 2) (wpAny_field hz rfl (x:= .bool false) rfl ?_)
 refine wpAny_bind (m:=field (.ref z) 3) (wpAny_field hz rfl (x:= .ref TI) rfl ?_)
 refine wpAny_bind (wpAny_seqItems vy rfl ?_)
 refine wpAny_bind (m:=SmallTypes.ownedTupleIsFree (.ref z)) ?_
 unfold SmallTypes.ownedTupleIsFree
 refine wpAny_bind (wpAny_field hz rfl (x:= .none) rfl (wpAny_pure ?_))
 simp only[if_true]
 refine wpAny_bind (wpAny_rule ?_)
 refine wpAny_bind (wpAny_field hz rfl (x:= .ref TO) rfl ?_)
 refine wpAny_bind (wpAny_setField_rec hz (by simp) fun g₁ IC Am=> ?_)
 replace IC:IsZip g₁ z TI TO .ellipsis:=IC
 have a1:S1 i g₁:=D1.frame _ _ _ h1 fun b hb o e=>Am.extBut b o (fun q=>X.z1 (q▸hb)) e
 have a2:S2 i g₁:=D2.frame _ _ _ h2 fun b hb o e=>Am.extBut b o (fun q=>X.z2 (q▸hb)) e
 have Kz:IsPair g₁ TO a b:=Am.extBut _ _ X.TOz vz
 refine wpAny_bind ?_
 simp only[List.zipIdx_cons,List.zipIdx_nil,List.forIn_cons,List.forIn_nil]
 refine wpAny_bind (wpAny_bind (wpAny_onRaise ?_))
 rcases U1 with rfl|⟨l1,rfl⟩
 ·refine wpAny_bind (m:=SmallTypes.nextOf (.ref i1)) (D1.done _ _ _ a1 fun g₂ e xJ he=> ?_)
  obtain⟨oe,ER,Pa⟩:=he
  have NQ:IsZip g₂ z TI TO .ellipsis:=xJ _ _ X.i1z.symm IC
  have U2:e≠z:=fun x=>by subst x;rw[NQ]at ER;cases ER;simp at Pa
  refine wpAny_setField_rec NQ (by simp) fun g₃ _ yP=>hE g₃ _ e (fun c o c1 _ c3 _ x=>yP.extBut _ _ c1 (xJ _ _ c3 (Am.extBut _ _ c1 x))) ⟨oe,yP.extBut _ _ U2 ER,Pa⟩
 ·refine wpAny_bind (m:=SmallTypes.nextOf (.ref i1)) (D1.item i _ _ _ l1 a1 fun x g₂ YX px a1 xJ=>wpAny_pure ?_)
  have a2:S2 i g₂:=D2.frame _ _ _ a2 fun b hb o e=>xJ.extBut b o (fun q=>X.XR (q▸hb)) e
  have NQ:IsZip g₂ z TI TO .ellipsis:=xJ.extBut _ _ X.i1z.symm IC
  have An:IsPair g₂ TO a b:=xJ.extBut _ _ X.TOi1 Kz
  refine wpAny_bind (wpAny_seqItems An rfl ?_)
  refine wpAny_bind (wpAny_updateSeq_pair An fun g₃ EP yP=> ?_)
  refine wpAny_bind (wpAny_letGo (wpAny_pure ?_))
  have a2:S2 i g₃:=D2.frame _ _ _ a2 fun b hb o e=>yP.extBut b o (fun q=>X.t2 (q▸hb)) e
  have UY:IsZip g₃ z TI TO .ellipsis:=yP.extBut _ _ X.TOz.symm NQ
  refine wpAny_bind (wpAny_bind (wpAny_onRaise ?_))
  refine wpAny_bind (m:=SmallTypes.nextOf (.ref i2)) (D2.done _ _ _ a2 fun g₄ e ID he=> ?_)
  obtain⟨oe,ER,Pa⟩:=he
  have TZ:IsZip g₄ z TI TO .ellipsis:=ID _ _ X.i2z.symm UY
  have U2:e≠z:=fun x=>by subst x;rw[TZ]at ER;cases ER;simp at Pa
  refine wpAny_setField_rec TZ (by simp) fun g₅ _ DD=>hE g₅ _ e (fun c o c1 c2 c3 c4 x=>DD.extBut _ _ c1 (ID _ _ c4 (yP.extBut _ _ c2 (xJ.extBut _ _ c3 (Am.extBut _ _ c1 x))))) ⟨oe,DD.extBut _ _ U2 ER,Pa⟩
end
end
section
set_option autoImplicit true
open PySem PySem.W PyProof.Rows PySem.Calls
open Builtin
open AutoSeq1 (wpAny_loadPart')
set_option maxHeartbeats 2000000 in
theorem kI(b:Array UInt8)(t:Tok):
  Meets (Builtin.«enumerate.__new__» ⟨[.type "enumerate",.bytes b t],[]⟩) (fun _ R s=>
   R (.ok (.ret (.ref (s.heap.push {cls:= .type "bytes_iterator",data:= .fields #[.bytes b t,.int 0 0]}).objs.size)))
    {s with heap:=(s.heap.push {cls:= .type "bytes_iterator",data:= .fields #[.bytes b t,.int 0 0]}).push {cls:= .type "enumerate",data:= .fields #[.none,.bool false,.ref s.heap.objs.size,rawInt 0,.none,.none]}}):=
 .of_wp fun prog w A R s h=>by
  obtain⟨hp,g,d,tk,os⟩:=s
  have nX:=sub_enumerate
  wp_walk
  refine wpAny_stack_any fun st=>wpAny_pure ?_
  split
  ·rename_i c _ _ _ _ _
   cases (c==Value.type "enumerate")
   ·wp_walk using KBw.pyIter_bytes
    exact⟨_,rfl,h⟩
   ·wp_walk using KBw.pyIter_bytes
    exact⟨_,rfl,h⟩
  ·wp_walk using KBw.pyIter_bytes
   exact⟨_,rfl,h⟩
noncomputable abbrev T3(h:Heap)(l1:Addr):Heap:=h.push {cls:= .type "tuple_iterator",data:= .fields #[.ref l1,.int 0 0]}
noncomputable abbrev T4(h:Heap)(l1 l2:Addr):Heap:=(T3 h l1).push {cls:= .type "list_iterator",data:= .fields #[.ref l2,.int 0 0]}
noncomputable abbrev T5(h:Heap)(l1 l2:Addr):Heap:=(T4 h l1 l2).push {cls:= .type "tuple",data:= .seq #[.ref h.objs.size,.ref (T3 h l1).objs.size]}
noncomputable abbrev T6(h:Heap)(l1 l2:Addr):Heap:=(T5 h l1 l2).push {cls:= .type "tuple",data:= .seq #[.none,.none]}
noncomputable abbrev NR(h:Heap)(l1 l2:Addr):Heap:=(T6 h l1 l2).push {cls:= .type "zip",data:= .fields #[.none,.bool false,.bool false,.ref (T4 h l1 l2).objs.size,.ref (T5 h l1 l2).objs.size]}
set_option maxHeartbeats 2000000 in
theorem qc(l1 l2:Addr)(xs ys:Array Value):
  Meets (Builtin.«zip.__new__» ⟨[.type "zip",.ref l1,.ref l2],[]⟩) (fun _ R s=>s.heap.IsTuple l1 xs/\s.heap.IsList l2 ys/\
   R (.ok (.ret (.ref (T6 s.heap l1 l2).objs.size))) {s with heap:=NR s.heap l1 l2}):=
 .of_wp fun prog w A R s h=>by
  obtain⟨hp,g,d,tk,os⟩:=s;obtain⟨U3,U4,h⟩:=h
  have nX:=sub_zip
  have YZ:Heap.IsTuple (Shared.heap ⟨hp,g,d,tk,os⟩) l1 xs:=U3
  have Y0:Heap.IsList (Shared.heap ⟨hp.push {cls:= .type "tuple_iterator",data:= .fields #[.ref l1,.int 0 0]},g,d,tk,os⟩) l2 ys:=Heap.IsList.push U4 _
  wp_walk using wpAny_pyIter_tuple YZ,wpAny_pyIter_list Y0
  exact⟨_,rfl,h⟩
section
variable{prog:Program}{w:World}{A:Around}{E:Value->Shared->Prop}{s:Shared}
theorem lN{b:Array UInt8}{t:Tok}{Q:Value->Shared->Prop}
  (h:∀h',IsEnum h' (s.heap.objs.size+1) s.heap.objs.size 0 .none->KBw.IsBytesIter h' s.heap.objs.size b t 0->(∀b o,s.heap.get? b=some o->h'.get? b=some o)->Q (.ref (s.heap.objs.size+1)) {s with heap:=h' }):
  wpAny (model prog w) A (call (.type "enumerate") [.bytes b t]) Q E s:=by
 refine callType_new F.called_enumerate (by decide) (F.typeCall_enumerate_1 _) (F.newCall_enumerate_1 _) (fun obj=>F.args_object_init_2 obj _) F.entry_enumerate_new (kI b t) ?_
 have hz:(s.heap.push {cls:= .type "bytes_iterator",data:= .fields #[.bytes b t,.int 0 0]}).objs.size=s.heap.objs.size+1:=Heap.size_push ..
 have he:IsEnum ((s.heap.push {cls:= .type "bytes_iterator",data:= .fields #[.bytes b t,.int 0 0]}).push {cls:= .type "enumerate",data:= .fields #[.none,.bool false,.ref s.heap.objs.size,rawInt 0,.none,.none]}) (s.heap.objs.size+1) s.heap.objs.size 0 .none:=by
  have:=Heap.get?_push_size (s.heap.push {cls:= .type "bytes_iterator",data:= .fields #[.bytes b t,.int 0 0]}) (o:= {cls:= .type "enumerate",data:= .fields #[.none,.bool false,.ref s.heap.objs.size,rawInt 0,.none,.none]}) rfl
  rw[hz]at this;exact this
 show _/\_
 rw[hz]
 exact⟨⟨_,he,rfl⟩,h _ he ⟨_,Heap.get?_push_of_some _ (Heap.get?_push_size _ rfl),rfl,rfl⟩ fun b o x=>Heap.get?_push_of_some _ (Heap.get?_push_of_some _ x)⟩
theorem rX{l1 l2:Addr}{xs ys:Array Value}{Q:Value->Shared->Prop}(U3:s.heap.IsTuple l1 xs)(U4:s.heap.IsList l2 ys)
  (h:∀h',IsZip h' (s.heap.objs.size+4) (s.heap.objs.size+2) (s.heap.objs.size+3) .none->IsPair h' (s.heap.objs.size+2) (.ref s.heap.objs.size) (.ref (s.heap.objs.size+1))->
   IsPair h' (s.heap.objs.size+3) .none .none->h'.IsTupleIter s.heap.objs.size l1 0->h'.IsListIter (s.heap.objs.size+1) l2 0->
   (∀c o,s.heap.get? c=some o->h'.get? c=some o)->Q (.ref (s.heap.objs.size+4)) {s with heap:=h' }):
  wpAny (model prog w) A (call (.type "zip") [.ref l1,.ref l2]) Q E s:=by
 refine callType_new F.called_zip (by decide) (F.typeCall_zip_2 _ _) (F.newCall_zip_2 _ _) (fun obj=>F.args_object_init_3 obj _ _) F.entry_zip_new (qc l1 l2 xs ys) ⟨U3,U4,?_⟩
 have z1:(T3 s.heap l1).objs.size=s.heap.objs.size+1:=Heap.size_push ..
 have z2:(T4 s.heap l1 l2).objs.size=s.heap.objs.size+2:=by rw[Heap.size_push,z1]
 have z3:(T5 s.heap l1 l2).objs.size=s.heap.objs.size+3:=by rw[Heap.size_push,z2]
 have z4:(T6 s.heap l1 l2).objs.size=s.heap.objs.size+4:=by rw[Heap.size_push,z3]
 have g5:(NR s.heap l1 l2).get? (T6 s.heap l1 l2).objs.size=some _:=Heap.get?_push_size _ rfl
 have g4:(NR s.heap l1 l2).get? (T5 s.heap l1 l2).objs.size=some _:=Heap.get?_push_of_some _ (Heap.get?_push_size _ rfl)
 have g3:(NR s.heap l1 l2).get? (T4 s.heap l1 l2).objs.size=some _:=Heap.get?_push_of_some _ (Heap.get?_push_of_some _ (Heap.get?_push_size _ rfl))
 have g2:(NR s.heap l1 l2).get? (T3 s.heap l1).objs.size=some _:=Heap.get?_push_of_some _ (Heap.get?_push_of_some _ (Heap.get?_push_of_some _ (Heap.get?_push_size _ rfl)))
 have g1:(NR s.heap l1 l2).get? s.heap.objs.size=some _:=Heap.get?_push_of_some _ (Heap.get?_push_of_some _ (Heap.get?_push_of_some _ (Heap.get?_push_of_some _ (Heap.get?_push_size _ rfl))))
 show _/\_
 rw[z2,z3,z4]at g5
 rw[z1,z2]at g3
 rw[z3]at g4
 rw[z1]at g2
 rw[z4]
 exact⟨⟨_,g5,rfl⟩,h _ g5 g3 g4 ⟨_,g1,rfl,rfl⟩ ⟨_,g2,rfl,rfl⟩ fun c o x=>Heap.get?_push_of_some _ (Heap.get?_push_of_some _ (Heap.get?_push_of_some _ (Heap.get?_push_of_some _ (Heap.get?_push_of_some _ x))))⟩
end
theorem ES{prog:Program}{w:World}{A:Around}{z TI TO i1 i2:Addr}{xG xH:List Addr}{n1 n2:Nat}{P1 P2:Nat->Value->Prop}{S1 S2:Nat->Heap->Prop}(X:qb z TI TO i1 i2 xG xH)(D1:Draws prog w A.in1 i1 xG n1 P1 S1)(D2:Draws prog w A.in1 i2 xH n2 P2 S2):
  WalksT prog w A z (z::TI::TO::(xG++xH)) [z,TO,i1,i2] (min n1 n2) (fun i vals=>∃x y,P1 i x/\P2 i y/\vals= #[x,y])
   (fun i h=>IsZip h z TI TO .none/\IsPair h TI (.ref i1) (.ref i2)/\(∃a b,IsPair h TO a b)/\S1 i h/\S2 i h)
   (fun i T h=>IsZip h z TI TO (rawInt T)/\IsPair h TI (.ref i1) (.ref i2)/\(∃a b,IsPair h TO a b)/\S1 (i+1) h/\S2 (i+1) h/\T≠z/\T≠TO/\T≠i1/\T≠i2) where
 sub:=fun c hc=>by
  simp only[List.mem_cons,List.not_mem_nil,or_false]at hc
  rcases hc with rfl|rfl|rfl|rfl
  ·simp
  ·simp
  ·exact .tail _ (.tail _ (.tail _ (List.mem_append_left _ X.m1)))
  ·exact .tail _ (.tail _ (.tail _ (List.mem_append_right _ X.m2)))
 frame:=fun i h h' nV hk=>by
  obtain⟨hz,vy,⟨a,b,vz⟩,h1,h2⟩:=nV
  exact⟨hk z (by simp) _ hz,hk TI (by simp) _ vy,⟨a,b,hk TO (by simp) _ vz⟩,D1.frame _ _ _ h1 fun b hb o e=>hk b (by simp [hb]) o e,D2.frame _ _ _ h2 fun b hb o e=>hk b (by simp [hb]) o e⟩
 item:=fun i s Q E hi nV hQ=>by
  obtain⟨hz,vy,⟨a,b,vz⟩,h1,h2⟩:=nV
  have hT:s.TypeIs (.ref z) "zip":=⟨_,hz,rfl⟩
  unfold pyNext
  refine wpAny_bind (wpAny_attempt (wpAny_callSpecial?_slot (name:=Str.ofString "__next__") hT F.slot_zip_next (wpAny_call_entry F.slot_zip_next hT F.entry_zip_next
   (xI X D1 D2 hz vy vz h1 h2 (Nat.lt_of_lt_of_le hi (Nat.min_le_left ..)) (Nat.lt_of_lt_of_le hi (Nat.min_le_right ..)) fun x y h' tk px py a1 a2 a3 a4 a5 a6 hk=>wpAny_pure ?_) (F.args_zip_next_1 _))))
  have lt:∀{c o},s.heap.get? c=some o->s.heap.objs.size≠c:=fun e=>Nat.ne_of_gt (Heap.lt_size e)
  have l1:s.heap.objs.size≠i1:=by obtain⟨o,e⟩:=D1.live _ _ h1;exact lt e
  have l2:s.heap.objs.size≠i2:=by obtain⟨o,e⟩:=D2.live _ _ h2;exact lt e
  exact hQ s.heap.objs.size #[x,y] h' tk ⟨x,y,px,py,rfl⟩ (Nat.le_refl _) ⟨_,a6,rfl,_,rfl⟩ ⟨a1,a2,⟨_,_,a3⟩,a4,a5,lt hz,lt vz,l1,l2⟩
   fun c o hc e=>hk c o (fun x=>hc (by simp [x])) (fun x=>hc (by simp [x])) (fun x=>hc (by simp [x])) (fun x=>hc (by simp [x])) e
 go:=fun elts k pos i T s Q E hm hQ=>by
  obtain⟨hz,vy,⟨a,b,vz⟩,h1,h2,_⟩:=hm
  refine wpAny_letOwnedTupleGo_zip hz fun h' T7 ki=>hQ h' ⟨T7,ki.extBut _ _ X.TIz vy,⟨a,b,ki.extBut _ _ X.TOz vz⟩,D1.frame _ _ _ h1 fun b hb o e=>ki.extBut b o (fun q=>X.z1 (q▸hb)) e,D2.frame _ _ _ h2 fun b hb o e=>ki.extBut b o (fun q=>X.z2 (q▸hb)) e⟩
   fun c o hc e=>ki.extBut _ _ (fun x=>hc (by simp [x])) e
 apart:=fun i T h hm hT=>by
  obtain⟨_,_,_,_,_,t1,t2,t3,t4⟩:=hm
  simp at hT
  rcases hT with rfl|rfl|rfl|rfl
  ·exact t1 rfl
  ·exact t2 rfl
  ·exact t3 rfl
  ·exact t4 rfl
 done:=fun s Q E nV hQ=>by
  obtain⟨hz,vy,⟨a,b,vz⟩,h1,h2⟩:=nV
  have hT:s.TypeIs (.ref z) "zip":=⟨_,hz,rfl⟩
  unfold pyNext
  refine wpAny_bind (wpAny_attempt (wpAny_callSpecial?_slot (name:=Str.ofString "__next__") hT F.slot_zip_next (wpAny_call_entry F.slot_zip_next hT F.entry_zip_next
   (Ao X D1 D2 hz vy vz h1 h2 (by lia) fun h' tk e hk he=> ?_) (F.args_zip_next_1 _))))
  obtain⟨o,ho,hc⟩:=he
  refine wpAny_bind (wpAny_isInstance (T:="StopIteration") (b:=true) ⟨o,ho,hc⟩ isSubtype_stop ?_)
  exact wpAny_pure (hQ _ _ fun c o hc e=>hk c o (fun x=>hc (by simp [x])) (fun x=>hc (by simp [x])) (fun x=>hc (by simp [x])) (fun x=>hc (by simp [x])) e)
 self:=fun i s Q E nV hQ=>wpAny_pyIter_zip nV.1 hQ
end
section
set_option autoImplicit true
open PySem PySem.W PyProof.Rows PySem.Calls
theorem ET{xs:List T}:∀{n i:Nat},(re n xs)[i]? =(xs[i]?).map fun x=> .tup [.int (n+i:Nat),x]:=by
 induction xs with
 |nil=>exact rfl
 |cons x xs ih=>
  intro n i
  induction i with
  |zero=>rfl
  |succ i=>
   show(re (n+1) xs)[i]? =(xs[i]?).map _
   rw[ih,Nat.add_right_comm];rfl
theorem rY{xs:List T}:∀{n:Nat},(re n xs).length=xs.length:=by
 induction xs with
 |nil=>exact rfl
 |cons x xs ih=>exact congrArg Nat.succ ih
theorem EU{t:T}{G:Prop}{xs:List T}:∀{ys:List T} {i:Nat},(tF xs ys)[i]? =some t->(∀x y,xs[i]? =some x->ys[i]? =some y->t= .tup [x,y]->G)->G:=by
 induction xs with
 |nil=>exact fun{ys i} h=>nn h
 |cons x xs ih=>
  intro ys i h g
  induction ys with
  |nil=>exact nn h
  |cons y ys=>
   induction i with
   |zero=>exact g x y rfl rfl (Option.some.inj h).symm
   |succ i=>exact(ih h g:)
theorem rZ{xs:List T}:∀{ys:List T},(tF xs ys).length=min xs.length ys.length:=by
 induction xs with
 |nil=>exact fun{ys}=>(Nat.zero_min _).symm
 |cons x xs ih=>
  intro ys
  induction ys with
  |nil=>rfl
  |cons y ys=>exact(congrArg Nat.succ ih).trans (Nat.succ_min_succ ..).symm
theorem fold_plain{it:Expr}{env:Env}(h:isSet it=false)(v:Value):foldedSetIterable it env v=pure v:=by
 cases it<;>first|exact rfl|exact nomatch h
theorem au.rel{S:St fs}{R R' :Rl fs α β}{m:EM α}{t:PT β}(h:∀S' a b,R S' a b->R' S' a b)(x:au S R m t):au S R' m t:=fun k kx out Q E e ok ex=>x k kx out Q E e (fun a b S' y r=>ok a b S' y (h _ _ _ r)) ex
theorem rW.start{A:Around}{S₀ S:St fs}{V:List Addr}(x:aQ [] S₀ S)(S' :St fs)(p:Bool×List T)(v:Value)(h:rW A S V S' p v):rW A S₀ V S' p v:=fun G g=>h G fun J k=>g J (k.start x)
noncomputable abbrev dX(A:Around)(t:PT Value):PT Value:=fun Q E s=>t (fun v s=>wpAny M0 A (pyIter v) Q E s) E s
theorem m3{h:Heap}(j:Nat):h.get? (h.objs.size+j)=none:=pC (Nat.le_add_right _ _)
section
variable{A:Around}{S:St fs}{env:Env}{l:Loc}(Rm:bu d fs A)(L:Lc S env l)
include Rm L
theorem EV{vs:List V}{us:List Value}(r:S.Rs vs us):au S (rW A S (aZ env)) (Ih vs S.c) (dX A (wpAny M0 A (call (.type "enumerate") us))):= .opt fun v e1=> .opt fun b e2=>gO (C:=fun us=>au S _ _ (dX A (wpAny M0 A (call (.type "enumerate") us)))) e1 r fun u r=>fT (C:=fun u=>au S _ _ (dX A (wpAny M0 A (call (.type "enumerate") [u])))) e2 r fun tk hb k kx out Q E e ok ex=>by
 refine lN fun h' he hi hk=>wpAny_pyIter_enum he ?_
 have n1:=bw S.s.heap
 have n2:S.h (S.s.heap.objs.size+1)=none:=m3 1
 refine au.walk (s' := {S.s with heap:=h' }) (u:=fun Q _ _=>Q _ _) hk rfl rfl L (yO.rS (WalksT.enumerateD (uc (prog:=pW) (w:=w0) (A:=A.in1) Rm.handled S.s.heap.objs.size b.toArray tk) (S.s.heap.objs.size+1) (Nat.succ_ne_self _) (fun h=>Nat.succ_ne_self _ (List.mem_singleton.mp h)) (.head _)) (fun i h st=> ?_) ?_ fun i vals t pv hi G g=> ?_)
  ⟨⟨_,he⟩,hi⟩ (bg (.inl n2) (bg (.inl n1) di)) (bg n2 (bg n1 di)) (by rw[rY,List.length_map];exact hb) (fun Q E q=>q) k kx out Q E e ok ex
 ·exact st.1.elim fun old e1=>st.2.elim fun o z=>bg ⟨_,e1⟩ (bg ⟨o,z.1⟩ di)
 ·rw[rY,List.length_map,List.size_toArray]
 ·obtain⟨tt,xx,⟨cc,u,e1,e2⟩,e3⟩:=pv
  rw[ET,List.getElem?_map,<-List.getElem?_toArray,e1]at hi
  exact g _ _ _ _ (Option.some.inj hi).symm e3 (by rw[Nat.zero_add];exact .i) (by rw[e2];exact .i)
omit Rm L in
theorem Y1{N a1 a2:Nat}(l1:a1<N)(l2:a2<N):qb (N+4) (N+2) (N+3) N (N+1) [N,a1] [N+1,a2]:=by
 constructor<;>simp<;>(intro e;have e:=(show @Eq Nat _ _ from e);lia)
theorem EW{xs ys:List T}{u v:Value}(ru:ao S.B (.tup xs) u)(rv:ao S.B (.lst ys) v):au S (rW A S (aZ env)) (aJ (true,tF xs ys) S.c) (dX A (wpAny M0 A (call (.type "zip") [u,v]))):=ru (fun u=>au S _ _ (dX A (wpAny M0 A (call (.type "zip") [u,v])))) fun a1 Y2 m1 h1 b1 r1=>rv (fun v=>au S _ _ (dX A (wpAny M0 A (call (.type "zip") [_,v])))) fun a2 Y3 m2 h2 b2 r2 k kx out Q E e ok ex=>by
 have s1:=S.stay _ _ h1
 have s2:=S.stay _ _ h2
 refine rX ⟨_,s1,rfl,_,rfl⟩ ⟨_,s2,rfl,_,rfl⟩ fun h' hz vy vz Y4 Y5 hk=>wpAny_pyIter_zip hz ?_
 have n:=fun j=>m3 (h:=S.s.heap) j
 have n0:=bw S.s.heap
 have XX:=Heap.lt_size s1
 have XY:=Heap.lt_size s2
 refine au.walk (s' := {S.s with heap:=h' }) (u:=fun Q _ _=>Q _ _) hk rfl rfl L (yO.rS (ES (Y1 XX XY) (Ak (prog:=pW) (w:=w0) (A:=A.in1) Rm.handled S.s.heap.objs.size a1 (Nat.ne_of_lt XX) (List.toArray Y2)) (Draws.list (prog:=pW) (w:=w0) (A:=A.in1) Rm.handled (S.s.heap.objs.size+1) a2 (Nat.ne_of_lt (Nat.lt_succ_of_lt XY)) (List.toArray Y3))) (fun i h st=> ?_) ?_ fun i vals t pv hi G g=> ?_)
  ⟨hz,vy,⟨_,_,vz⟩,⟨Y4,⟨_,hk _ _ s1,rfl,_,rfl⟩⟩,⟨Y5,⟨_,hk _ _ s2,rfl,_,rfl⟩⟩⟩ (bg (.inl (n 4)) (bg (.inl (n 2)) (bg (.inl (n 3)) (bg (.inl n0) (bg (.inr ⟨_,h1⟩) (bg (.inl (n 1)) (bg (.inr ⟨_,h2⟩) di))))))) (bg (n 4) (bg (n 3) (bg n0 (bg (n 1) di)))) (by rw[rZ];exact Nat.le_trans (Nat.min_le_left _ _) b1) (fun Q E q=>q) k kx out Q E e ok ex
 ·obtain⟨e1,e2,⟨_,_,e3⟩,⟨⟨o4,e4,_⟩,⟨o5,e5,_⟩⟩,⟨⟨o6,e6,_⟩,⟨o7,e7,_⟩⟩⟩:=st
  exact bg ⟨_,e1⟩ (bg ⟨_,e2⟩ (bg ⟨_,e3⟩ (bg ⟨_,e4⟩ (bg ⟨_,e5⟩ (bg ⟨_,e6⟩ (bg ⟨_,e7⟩ di))))))
 ·rw[rZ,List.size_toArray,List.size_toArray,(ba.1 r1).len,(ba.1 r2).len]
 ·obtain⟨x,y,p1,p2,e⟩:=pv
  exact EU hi fun tx ty e1 e2 e3=>g tx ty x y e3 e (qa r1 ((List.getElem?_toArray ..).symm.trans p1) e1) (qa r2 ((List.getElem?_toArray ..).symm.trans p2) e2)
theorem KA{vs:List V}{us:List Value}(r:S.Rs vs us):au S (rW A S (aZ env)) (Ow vs S.c) (dX A (wpAny M0 A (call (.type "zip") us))):= .opt fun p e1=> .opt fun u e2=> .opt fun xs e3=>zG (C:=fun us=>au S _ _ (dX A (wpAny M0 A (call (.type "zip") us)))) e1 r fun u' v' r1 r2=>
 gM aN S p.1 u' u e2 r1 (fun c=>au S (rW A S (aZ env)) (aG (fr aN c p.2) fun v=>aG (y4 v.1) fun ys=>aJ (true,tF xs ys) v.2) (dX A (wpAny M0 A (call (.type "zip") [u',v'])))) fun S₁ I₁ q1=> .opt fun v e4=> .opt fun ys e5=>
  gM aN S₁ p.2 v' v e4 (I₁.x.R r2) (fun c=>au S (rW A S (aZ env)) (aJ (true,tF xs ys) c) (dX A (wpAny M0 A (call (.type "zip") [u',v'])))) fun S₂ I₂ q2=>
   have x:=I₁.x.trans I₂.x
   .after x (.rel (rW.start x) (EW Rm (L.ext x) (jB e3▸q1.mono I₂.x.bb) (Ec e5▸q2))) fun Q E h=>(I₂.s.trans I₁.s)▸h
theorem EY{v:V}{v' :Value}(r:S.R v v'):au S (rW A S (aZ env)) (zo v S.c) (wpAny M0 A (pyIter v')):= .opt fun p e=>
 gM aN S v v' p e r (fun c=>au S (rW A S (aZ env)) (aG (tE p.1) fun xs=>aJ (false,xs) c) (wpAny M0 A (pyIter v'))) fun S₁ I q=> .after I.x (.rel (rW.start I.x) (EO Rm (L.ext I.x) q)) fun Q E h=>I.s▸h
end
theorem vA{C:Expr->Prop}{e:Expr}(h:gE e=some p)(k:∀n q,C (.Call (.Name p.1 n) p.2 [] q)):C e:=by
 have z:=vu e
 unfold gE at h
 revert h z
 cases vw e with
 |call f es kw=>
  induction kw with
  |nil=>exact fun h z=>z C fun q=>ae (o:=bv f) (f:=fun y=>some (y,es)) h fun y e1 e2=>ec (C:=fun f=>C (.Call f es [] q)) e1 fun n=>so (P:=fun p:Str×List Expr=>(∀n q,C (.Call (.Name p.1 n) p.2 [] q))->C (.Call (.Name y n) es [] q)) e2 (fun k=>k n q) k
  |cons=>exact fun h=>nn h
 |_=>exact fun h=>nn h
theorem Pb{t:T}{n:String}(h:(match t with| .ty m=>m==n|_=>false)=true):t= .ty n:=by
 cases t with
 |ty m=>exact congrArg T.ty (eq_of_beq h)
 |_=>exact ft h
section
variable{fs:List Env}{A:Around}{env:Env}{x:Cx}{ev:Em}{S:St fs}{l:Loc}(Rm:bu d fs A)(g:Go d x.tab x.glob x.cw)(hE:bx x.scope env)(H:iz fs A env ev)(L:Lc S env l)
include hE g
theorem Pc{y:Str}{n:String}{Q:Value->Shared->Prop}(h:D0 x y n=true)(hd:(y==Str.ofString "__debug__")=false)(q:Q (.type n) S.s):wpAny M0 A (eval (.Name y p) env) Q E S.s:=am h fun h1 h2=>wpAny_Name (by
 revert h2
 refine cz (P:=fun b=>b=true->_) (fun t ht h=>jD g.glob hE ht (hE.glob y ?_) fun v' r=> ?_) fun h=>ft h
 ·revert h1;cases bp x.scope y<;>first|exact fun _=>rfl|exact fun h=>ft h
 ·cases Pb h;cases (r:v' = .type n);exact q) hd
include H L
theorem vB{y:Str}{es:List Expr}{n:String}{np pos:Pos}{F:List V->aa->EM (Bool×List T)}(yQ:(y==Str.ofString n)=true)(hd:(Str.ofString n==Str.ofString "__debug__")=false)(h:D0 x y n=true)(hf:kg es=true)
  (hF:∀vs us (S' :St fs),Lc S' env l->S'.Rs vs us->au S' (rW A S' (aZ env)) (F vs S'.c) (dX A (wpAny M0 A (call (.type n) us)))):au S (rW A S (aZ env)) (aF (kt ev es l S.c) F) (dX A (wpAny M0 A (eval (.Call (.Name y np) es [] pos) env))):=by
 rw[call_plain rfl]
 refine .here (fun Q E q=>wpAny_bind (Pc (S:=S) g hE h (by rw[eq_of_beq yQ];exact hd) (eW hf q))) ((kG H pos (fh hf fun _ h=>h) L).bind fun vs us S₁ x₁ r₁=> .here (fun Q E q=>⟨⟨.machine,Looks.of_pure rfl⟩,q⟩) (.rel (rW.start x₁) (hF vs us S₁ (L.ext x₁) r₁.1)))
include Rm
theorem KB{T:ve}{e:Expr}(hT:T.E x=ev):au S (rW A S (aZ env)) (Oz x T e l S.c) (dX A (wpAny M0 A (eval e env))):= .eU fun _=>by
 rw[hT]
 refine .alt (fun q h=>ae h fun p e1 h=>ae h fun f e2 h=> .eU fun hf=> ?_) ((H e S l L).bind fun v v' S₁ x₁ r₁=> .rel (rW.start x₁) (EY Rm (L.ext x₁) r₁))
 cases Option.some.inj h
 refine .opt fun F e3=>vA (C:=fun e=>au S _ _ (dX A (wpAny M0 A (eval e env)))) e1 fun np pos=>pO e2 (fun h1 h=> ?_) fun h=>aE h fun h1 h=> ?_
 ·cases Option.some.inj h
  refine aE e3 fun h2 h=> ?_
  cases Option.some.inj h
  exact am h1 fun h1 _=>vB g hE H L h1 (by decide+kernel) h2 hf fun vs us S' L' r=>EV Rm L' r
 ·cases Option.some.inj h
  refine aE e3 fun h2 h=> ?_
  cases Option.some.inj h
  exact am h1 fun h1 _=>vB g hE H L h1 (by decide+kernel) h2 hf fun vs us S' L' r=>KA Rm L' r
end
theorem f4{α:Type}{x:Str}{l:List (Str×α)}:look l x=l.lookup x:=by
 induction l with
 |nil=>rfl
 |cons p r ih=>
  rw[List.lookup_cons]
  show(bif sEq p.1 x then some p.2 else look r x)=_
  rw[ih,km,show(p.1==x)=(x==p.1)from Bool.eq_iff_iff.mpr ⟨fun h=>beq_iff_eq.mpr (beq_iff_eq.mp h).symm,fun h=>beq_iff_eq.mpr (beq_iff_eq.mp h).symm⟩]
  cases x==p.1<;>rfl
theorem eD{α:Type}{x:Str}{k:α}{l:List (Str×α)}:look l x=some k->(x,k)∈l:=by
 induction l with
 |nil=>exact fun h=>nn h
 |cons p r ih=>
  show(bif sEq p.1 x then some p.2 else look r x)=_->_
  cases q:sEq p.1 x with
  |true=>exact fun h=>(bZ q:p.1=x)▸Option.some.inj h▸.head _
  |false=>exact fun h=> .tail _ (ih h)
theorem vC{o:Option NameKind}{C:Option NameKind->NK->Prop}(h1:C (some .local) .loc)(h2:C (some .cell) .tw)(h3:C (some .free) .yK)(h4:C (some .globalImplicit) .va)(h5:∀o,C o .bad):C o (nk o):=by
 induction o with
 |none=>exact h5 _
 |some k=>induction k<;>first|exact h1|exact h2|exact h3|exact h4|exact h5 _
noncomputable def KC(k:NameKind):NameKind:=if k== .free then .cell else k
noncomputable def ci(cells:List (Str×Addr)):List (Str×NameKind)->List (Str×Addr)
 |[]=>[]
 |p::r=>bif dp (nk (some p.2))then[(p.1,(cells.lookup p.1).getD 0)]else ci cells r
section
variable{o i:Scope}{env:Env}(G:bL o i=true)(hE:bx o env)
include G hE
theorem jF{y:Str×NameKind}(h:y∈i.names):vd o i y=true:=am G fun G _=>am G fun _ G=>List.all_eq_true.mp G y h
theorem kJ:i.kind= .function:=am G fun G _=>am G fun h _=>by revert h;induction i.kind<;>first|exact fun _=>rfl|exact fun h=>ft h
theorem fC{y:Str}(h:(y,NameKind.free)∈i.names):bp o y= .tw:=am (jF G hE h) fun _ h=>by revert h;cases bp o y<;>first|exact fun _=>rfl|exact fun h=>ft h
theorem Pd{y:Str×NameKind}(h:y∈i.names):(if(y.2==NameKind.free&&env.scope.kind== .function&&env.kindOf y.1==some .cell)then(y.1,NameKind.cell)else(y.1,y.2))=(y.1,KC y.2):=by
 obtain⟨n,k⟩:=y
 unfold KC
 induction k with
 |free=>rw[hE.kind,hE.cell n (fC G hE h)];rfl
 |_=>rfl
theorem qd{C:Addr}{cl:List (Str×Addr)}{x:Str}:(compEnvC i cl C env).kindOf x=(look i.names x).map KC:=by
 show(i.names.map fun(n,k)=>if(k==NameKind.free&&env.scope.kind== .function&&env.kindOf n==some .cell)then(n,NameKind.cell)else(n,k)).lookup x=_
 rw[f4,List.map_congr_left (g:=fun y=>(y.1,KC y.2)) fun y h=>Pd G hE h]
 generalize i.names=l
 induction l with
 |nil=>rfl
 |cons p r ih=>
  rw[List.map_cons,List.lookup_cons,List.lookup_cons,ih]
  cases x==p.1<;>rfl
theorem Ap{C:Addr}{cl:List (Str×Addr)}{x:Str}(h:(compEnvC i cl C env).kindOf x=some .cell\/(compEnvC i cl C env).kindOf x=some .free):(x,NameKind.free)∈i.names:=by
 rw[qd G hE]at h
 cases q:look i.names x with
 |none=>rw[q]at h;exact h.elim (fun h=>nn h) fun h=>nn h
 |some k=>
  rw[q]at h
  have m:=eD q
  have g:=jF G hE m
  induction k with
  |free=>exact m
  |cell=>exact ft g
  |_=>exact h.elim (fun h=>nomatch h) fun h=>nomatch h
end
section
variable{cells:List (Str×Addr)}{f:Str×NameKind->List (Str×Addr)->Sem (ForInStep (List (Str×Addr)))}(h1:∀p r,dp (nk (some p.2))=false->f p r=pure (.yield r))
include h1
theorem Aq{names:List (Str×NameKind)}{acc:List (Str×Addr)}:(names.filter fun y=>dp (nk (some y.2)))=[]->forIn names acc f=(pure acc:Sem _):=by
 induction names with
 |nil=>exact fun _=>rfl
 |cons p r ih=>
  rw[List.filter_cons]
  intro h
  cases q:dp (nk (some p.2))with
  |true=>rw[q]at h;exact nomatch h
  |false=>rw[q]at h;rw[List.forIn_cons,h1 p acc q,pure_bind];exact ih h
theorem EZ{names:List (Str×NameKind)}(h2:∀p∈names,dp (nk (some p.2))=true->f p []=pure (.yield [(p.1,(cells.lookup p.1).getD 0)])):(names.filter fun y=>dp (nk (some y.2))).length<=1->forIn names [] f=(pure (ci cells names):Sem _):=by
 induction names with
 |nil=>exact fun _=>rfl
 |cons p r ih=>
  rw[List.filter_cons]
  show _->_=pure (bif dp (nk (some p.2))then[(p.1,(cells.lookup p.1).getD 0)]else ci cells r)
  intro h
  cases q:dp (nk (some p.2))with
  |true=>rw[q]at h;rw[List.forIn_cons,h2 p (.head _) q,pure_bind];exact Aq h1 (List.eq_nil_of_length_eq_zero (Nat.le_zero.mp (Nat.le_of_succ_le_succ h)))
  |false=>rw[q]at h;rw[List.forIn_cons,h1 p [] q,pure_bind];exact ih (fun p hp=>h2 p (.tail _ hp)) h
end
theorem ud{C:List (Str×Addr)->Prop}{cells:List (Str×Addr)}{names:List (Str×NameKind)}(one:(names.filter fun y=>dp (nk (some y.2))).length<=1)(h0:(∀x,(x,NameKind.free)∉names)->C [])(h1:∀n,(n,NameKind.free)∈names->(∀x,(x,NameKind.free)∈names->x=n)->C [(n,(cells.lookup n).getD 0)]):C (ci cells names):=by
 have go:∀(names:List (Str×NameKind)),(names.filter fun y=>dp (nk (some y.2))).length<=1->(ci cells names=[]/\∀x,(x,NameKind.free)∉names)\/∃n,ci cells names=[(n,(cells.lookup n).getD 0)]/\(n,NameKind.free)∈names/\∀x,(x,NameKind.free)∈names->x=n:=by
  intro names
  induction names with
  |nil=>exact fun _=> .inl ⟨rfl,fun _=>List.not_mem_nil⟩
  |cons p r ih=>
   rw[List.filter_cons]
   intro h
   cases q:dp (nk (some p.2))with
   |true=>
    rw[q]at h
    have e:=List.eq_nil_of_length_eq_zero (Nat.le_zero.mp (Nat.le_of_succ_le_succ h))
    refine .inr ⟨p.1,congrArg (fun b=>bif b then[(p.1,(cells.lookup p.1).getD 0)]else ci cells r) q,?_,fun x hx=>(List.mem_cons.mp hx).elim (fun e=>e▸rfl) fun hx=> ?_⟩
    ·obtain⟨n,k⟩:=p
     induction k<;>first|exact .head _|exact nomatch q
    ·exact absurd (List.mem_filter.mpr ⟨hx,rfl⟩) (by rw[e];exact List.not_mem_nil)
   |false=>
    rw[q]at h
    have ne:∀x,(x,NameKind.free)=p->False:=fun x e=>by rw[<-e]at q;exact nomatch q
    have e:ci cells (p::r)=ci cells r:=congrArg (fun b=>bif b then[(p.1,(cells.lookup p.1).getD 0)]else ci cells r) q
    rw[e]
    exact(ih h).imp (And.imp id fun h x hx=>(List.mem_cons.mp hx).elim (ne x) (h x)) fun⟨n,h1,h2,h3⟩=>⟨n,h1,.tail _ h2,fun x hx=>(List.mem_cons.mp hx).elim (fun e=>(ne x e).elim) (h3 x)⟩
 rcases go names one with⟨e,h⟩|⟨n,e,h2,h3⟩
 ·exact e▸h0 h
 ·exact e▸h1 n h2 h3
theorem E0{k:NameKind}(h:KC k= .local):nk (some k)= .loc:=by
 revert h
 induction k<;>first|exact fun _=>rfl|exact fun h=>absurd h (by decide)
theorem KE{k:NK}(h:dp k=true):k= .yK:=by induction k<;>first|rfl|exact nomatch h
theorem m4{x:Str}{v:V}{l:Loc}:look (bK sc l) x=some v->bp sc x= .yK/\look l x=some v:=by
 induction l with
 |nil=>exact fun h=>nn h
 |cons p r ih=>
  show look (bif dp (bp sc p.1)then p::bK sc r else bK sc r) x=_->_/\(bif sEq p.1 x then some p.2 else look r x)=some v
  cases q:dp (bp sc p.1)with
  |true=>
   show(bif sEq p.1 x then some p.2 else look (bK sc r) x)=_->_
   cases q2:sEq p.1 x with
   |true=>exact fun h=>⟨bZ q2▸KE q,h⟩
   |false=>exact ih
  |false=>
   intro h
   have k:=ih h
   cases q2:sEq p.1 x with
   |true=>rw[bZ q2,k.1]at q;exact nomatch q
   |false=>exact k
section
variable{o i:Scope}{env:Env}{S:St fs}{l:Loc}(G:bL o i=true)(hE:bx o env)(L:Lc S env l)
include G hE
theorem jG:(i.names.filter fun y=>dp (nk (some y.2))).length<=1:=am G fun _ h=>Nat.le_of_ble_eq_true h
include L
theorem E1{z:Addr}(hz:z∈(ci env.cells i.names).map (·.2)):z∈env.cells.map (·.2):=by
 revert hz
 refine ud (C:=fun cl=>z∈cl.map (·.2)->_) (jG G hE) (fun _ h=>absurd h List.not_mem_nil) fun n hn _ h=> ?_
 refine L.cv n (hE.cell n (fC G hE hn)) _ fun k v₀ e _=> ?_
 rw[e]at h
 exact List.mem_singleton.mp h▸fA e
theorem Ar{x:Str}{k:Addr}(hx:(x,NameKind.free)∈i.names)(e:env.cells.lookup x=some k):(ci env.cells i.names).lookup x=some k:=ud (C:=fun cl=>cl.lookup x=some k) (jG G hE) (fun h=>absurd hx (h x)) fun n _ h=>by
 rw[<-h x hx,e,List.lookup_cons,beq_self_eq_true];rfl
theorem KF:closureFor i env=pure (ci env.cells i.names):=by
 have k:=EZ (cells:=env.cells) (names:=i.names) (f:=fun x r=>match x with|(name,kind)=>if(kind== .free)=true then do let a<-cellOf env name;pure (ForInStep.yield ((name,a)::r))else pure (ForInStep.yield r)) (fun p r q=> ?_) (fun p hp q=> ?_) (jG G hE)
 ·show(forIn i.names [] _>>=fun cs=>pure cs)=_
  exact(congrArg (·>>=fun cs=>pure cs) k).trans (pure_bind ..)
 ·obtain⟨n,k⟩:=p
  induction k<;>first|rfl|exact nomatch q
 ·obtain⟨n,k⟩:=p
  induction k with
  |free=>
   refine L.cv n (hE.cell n (fC G hE hp)) _ fun k v₀ e _=> ?_
   show(cellOf env n>>=fun a=>pure (ForInStep.yield [(n,a)]))=_
   unfold cellOf
   rw[e,pure_bind];rfl
  |_=>exact nomatch q
variable{C:Addr}
theorem As(hC:∀k∈env.cells.map (·.2),k≠C):bx i (compEnvC i (ci env.cells i.names) C env):=by
 have kd:∀y (P:NK->Prop),(∀k,look i.names y=some k->(compEnvC i (ci env.cells i.names) C env).kindOf y=some (KC k)->vd o i (y,k)=true->P (nk (some k)))->P .bad->P (bp i y):=fun y P h1 h2=>by
  unfold bp
  cases q:look i.names y with
  |none=>exact h2
  |some k=>exact h1 k q ((qd G hE).trans (congrArg (Option.map KC) q)) (jF G hE (eD q))
 refine⟨(kJ G hE:i.kind= .function),hE.globals,hE.builtins,fun y=>kd y (fun n=>n= .loc->_) (fun k _ e _=> ?_) (fun h=>nomatch h),fun y=>kd y (fun n=>n= .tw->_) (fun k _ e g=> ?_) (fun h=>nomatch h),fun y=>kd y (fun n=>n= .yK->_) (fun k _ e _=> ?_) (fun h=>nomatch h),fun y=>kd y (fun n=>n= .va->_) (fun k _ e _=> ?_) (fun h=>nomatch h),?_⟩
 ·induction k<;>first|exact fun _=>e|exact fun h=>nomatch h
 ·induction k<;>first|exact ft g|exact fun h=>nomatch h
 ·induction k<;>first|exact fun _=> .inr e|exact fun h=>nomatch h
 ·induction k<;>first|exact fun _=>e|exact fun h=>nomatch h
 ·exact ud (C:=fun cl=>cl=[]\/∃n k,cl=[(n,k)]/\k≠C) (jG G hE) (fun _=> .inl rfl) fun n hn _=> .inr ⟨n,_,rfl,L.cv n (hE.cell n (fC G hE hn)) _ fun k v₀ e _=>by rw[e];exact hC k (fA e)⟩
theorem r4{z:Addr}(hz:z∈aZ (compEnvC i (ci env.cells i.names) C env)):z=C\/z∈aZ env:=(List.mem_cons.mp hz).imp id fun h=> .tail _ (E1 G hE L h)
theorem At(aC:S.Al C)(hn:S.s.heap.Ns C m):Lc S (compEnvC i (ci env.cells i.names) C env) (bK i l):=by
 refine⟨fun z hz=>(r4 G hE L hz).elim (fun e=>e▸⟨aC,fun G g=>hn.elim fun o h=>h.elim fun es h=>h.elim fun ep h=>g o h.1 fun vs z=>nomatch h.2.1.symm.trans z⟩) (L.fX z),fun G' g=>g m hn fun x v hk hx=> ?_,fun x v hk hx G' g=> ?_,fun x hk G' g=> ?_⟩
 ·have h:=(qd G hE).symm.trans hk
  have e:=(m4 hx).1
  unfold bp at e
  revert h e
  cases look i.names x with
  |none=>exact fun h=>nn h
  |some k=>exact fun h e=>nomatch e.symm.trans (E0 (Option.some.inj h))
 ·have hf:=Ap G hE hk
  exact L.cl x v (.inl (hE.cell x (fC G hE hf))) (m4 hx).2 G' fun k v' e h r=>g k v' (Ar G hE L hf e) h r
 ·have hf:=Ap G hE (.inl hk)
  exact L.cv x (hE.cell x (fC G hE hf)) G' fun k v₀ e h=>g k v₀ (Ar G hE L hf e) h
end
noncomputable def IE(A:Around)(elt target:Expr)(ifs:List Expr)(it acc:Value)(env:Env)(R:Result->Shared->Prop)(I:Nat->Shared->Prop)(n:Nat)(s:Shared):Prop:=wpAny M0 A (pyNext it) (fun r s₁=>match r with
   |none=>R (.ok .next) s₁
   |some v=>wpAny M0 A (letOwnedTupleGo target it v) (fun _ s₀=>wpAny M0 A (assign target env v) (fun _ s₂=>
     wpAny M0 A (forIn ifs true fun c r=>if r=true then do let ok<-isTrue c env (eval c env);pure (ForInStep.yield ok)else pure (ForInStep.yield r)) (fun ok s₃=>if ok=true then wpAny M0 A (eval elt env) (fun x s₄=>
      wpAny M0 A (call (.builtin "list.append") [acc,x]) (fun _ s₅=>∃m,m<n/\I m s₅) (notedBy M0 A env fun e s' =>R (.error e) s') s₄) (notedBy M0 A env fun e s' =>R (.error e) s') s₃
      else∃m,m<n/\I m s₃) (notedBy M0 A env fun e s' =>R (.error e) s') s₂)
     (notedBy M0 A env fun e s' =>R (.error e) s') s₀) (notedBy M0 A env fun e s' =>R (.error e) s') s₁) (notedBy M0 A env fun e s' =>R (.error e) s') s
theorem xK{A:Around}{s:Shared}{elt target iter:Expr}{ifs:List Expr}{scope:Scope}{pos:Pos}{it acc:Value}{env:Env}{R:Result->Shared->Prop}(I:Nat->Shared->Prop)
  (turn:∀n s,I n s->IE A elt target ifs it acc env R I n s)
  (n:Nat) (h:I n s):codeAny M0 A (.compLoop (.ListComp elt [⟨target,iter,ifs,0⟩] scope pos) 0 it acc env) R s:=by
 refine codeAny_loop rfl I (fun n s hI=> ?_) n h
 show wpAny _ A ((compTurn (.ListComp elt [⟨target,iter,ifs,0⟩] scope pos) 0 it acc env).onRaise (fun x=>do noteFrame x env;theTreesLotGoes x)) _ _ s
 refine wpAny_noted ?_
 rw[compTurn_list]
 refine wpAny_bind (wpAny_standAt (wpAny_bind (wpAny_mono (turn n s hI) (fun r s₁ h₁=> ?_) fun _ _ h' =>h')))
 induction r with
 |none=>exact wpAny_pure h₁
 |some v=>
  refine wpAny_bind (wpAny_mono h₁ (fun _ s₀ Y6=> ?_) fun _ _ h' =>h')
  refine wpAny_bind (wpAny_mono Y6 (fun _ s₂ h₂=> ?_) fun _ _ h' =>h')
  refine wpAny_bind (wpAny_mono h₂ (fun Y7 s₃ h₃=> ?_) fun _ _ h' =>h')
  induction Y7 with
  |false=>exact wpAny_pure ⟨rfl,h₃⟩
  |true=>exact wpAny_bind (wpAny_bind (wpAny_mono h₃ (fun x s₄ h₄=>wpAny_bind (wpAny_mono h₄ (fun _ s₅ h₅=>wpAny_pure (wpAny_pure ⟨rfl,h₅⟩)) fun _ _ h' =>h')) fun _ _ h' =>h'))
section
variable{fs:List Env}{A:Around}{env:Env}{te:Te}
noncomputable abbrev qe(env:Env)(ifs:List Expr)(b:Bool):Sem Bool:=forIn ifs b fun c r=>if r=true then do let ok<-isTrue c env (eval c env);pure (ForInStep.yield ok)else pure (ForInStep.yield r)
theorem Au{s:Shared}{Q:Bool->Shared->Prop}{E:Value->Shared->Prop}{ifs:List Expr}(h:Q false s):wpAny M0 A (qe env ifs false) Q E s:=by
 induction ifs with
 |nil=>exact wpAny_pure h
 |cons e es ih=>
  unfold qe
  rw[List.forIn_cons]
  exact wpAny_bind (bm_if_false rfl (wpAny_pure ih))
theorem Av(H:pV fs A env te){es:List Expr}:∀{S:St fs} {l:Loc},Lc S env l->au S rE (tG te es l S.c) (wpAny M0 A (qe env es true)):=by
 induction es with
 |nil=>exact fun L=> .pure rfl
 |cons e es ih=>
  intro S l L
  unfold qe
  rw[List.forIn_cons]
  exact .rule (fun _ _ _ q=>wpAny_bind (bm_if_true rfl (wpAny_bind q))) ((H e S l L).lg fun b S₁ x₁=> .rule (fun _ _ _=>wpAny_pure) (.ite (fun h=>by rw[h];exact ih (L.ext x₁)) fun h=>by rw[h];exact .fin S₁ .refl rfl fun _ _ q=>Au q))
end
structure IF(S₀ S:St fs)(D:Addr)(acc:List V)(ys:List Value):Prop where
 x:aQ [] S₀ S
 al:S.Al D
 lst:∃n,S.h D=some (listAt ys n)
 rs:S.Rs acc ys
theorem IF.move{S₀ S S' :St fs}(h:IF S₀ S D acc ys)(y:aQ W S S')(hD:D∉W)(hf:D∉et fs)(n:∀b∈W,S₀.h b=none):IF S₀ S' D acc ys:=
 h.lst.elim fun m e=>have k:=y.keep D _ hD h.al.2 e;⟨h.x.jE y n,⟨k.2 h.al.1,k.1⟩,⟨m,y.cK D _ h.al.2 hf hD e⟩,y.Rs h.rs⟩
theorem ue{S S₂:St fs}{k:V->aa->aq}{kx:Kx}{Q:Value->Shared->Prop}(ok:It S rV k out Q)(n:S.h D=none)(off:D∉et fs)(c:IF S S₂ D vs ys)(hl:vs.length<=big)(h:mG vs S₂.c k kx=some out):Q (.ref D) S₂.s:=c.lst.elim fun m e=>cz (o:=iw vs) (P:=fun b=>b=some out->_)
 (fun ts q e' =>pF q c.rs fun r' l' =>ok (.t (.lst ts)) _ (S₂.adopt D c.al off) (c.x.adopt n) (fun G z=>z D ys m ((gL rfl).trans e) (Nat.le_trans (Nat.le_of_eq l') hl) (r'.mono (dE fun b e=>e▸c.al.1))) e')
 (fun e' =>ok _ _ (S₂.cell (·=D) D (.lst vs) (fun b q=>q▸⟨c.al,off,fun G z=>z _ e fun _=>nofun⟩) fun G z=>z ys m ((if_pos rfl).trans e) hl (c.rs.imp (bE.mono .refl .snoc))) (c.x.cell fun b q=>q▸n) St.pA e') h
noncomputable def DA(A:Around)(S₀:St fs)(dj:Env)(D:Addr)(pr:Bool)(J:Addr)(m:List T->List V->Loc->aa->EM (List V))(k:List V->aa->aq)(out:Oc)(n:Nat)(s:Shared):Prop:=∀G:Nat->Shared->Prop,
 (∀(S:St fs) xs acc ys l,Walk A S₀ S (D::aZ dj) pr J xs->Lc S dj l->IF S₀ S D acc ys->acc.length+xs.length<=big->m xs acc l S.c k (fun _=>none)=some out->G xs.length S.s)->G n s
section
variable{fs:List Env}{A:Around}{dj:Env}{ev:Em}{te:Te}{S₀:St fs}{D:Addr}{elt tg it:Expr}{ifs:List Expr}{pr:Bool}{k:List V->aa->aq}{out:Oc}{R:Result->Shared->Prop}(Rm:bu d fs A)(hE:bx sc dj)(H:iz fs A dj ev)(Ht:pV fs A dj te)(vD:∀y,bp sc y≠.tw)(dF:D∉et fs)(dO:D∉aZ dj)(cN:S₀.h dj.locals=none)(dN:S₀.h D=none)(hp:pr=true->isTup tg=true)
 (fin:∀vs ys S' l,IF S₀ S' D vs ys->Lc S' dj l->vs.length<=big->k vs S'.c=some out->R (.ok .next) S'.s)
theorem vE{S S' :St fs}{acc ys l}{G:Prop}(st:Step S₀ S S' (D::aZ dj))(dF:D∉et fs)(c:IF S₀ S D acc ys)(L:Lc S dj l)(g:IF S₀ S' D acc ys->Lc S' dj l->G):G:=st G fun W y hW=>g (c.move y (fun q=>(hW D q).1 (.head _)) dF fun b q=>(hW b q).2) (L.move y fun z hz q=>(hW z q).1 (.tail _ hz))
include Rm hE H Ht vD dF dO cN dN hp fin
theorem uf{n:Nat}{s:Shared}(hI:DA A S₀ dj D pr J (gh sc ev te elt ifs tg) k out n s):codeAny M0 A (.compLoop (.ListComp elt [⟨tg,it,ifs,0⟩] Z1 pos) 0 (.ref J) (.ref D) dj) R s:=by
 refine xK (DA A S₀ dj D pr J (gh sc ev te elt ifs tg) k out) (fun n s hI=>hI (IE A elt tg ifs (.ref J) (.ref D) dj R (DA A S₀ dj D pr J (gh sc ev te elt ifs tg) k out)) fun S xs acc ys l W L c hl h=> ?_) n hI
 have hZ:Uu sc dj [dj.locals]:=⟨.head _,fun y q=>absurd q (vD y)⟩
 induction xs with
 |nil=>exact W.done (K:=fun c=>k acc c=some out) h fun S' st hk=>vE st dF c L fun c L=>fin acc ys S' l c L hl hk
 |cons t xs=>
  refine ae h fun l' e1 h=>W.next (K:=fun c=>aF (tG te ifs l' c) (fun b c=>lF b (aF (ev elt l' c) fun v c=>gh sc ev te elt ifs tg xs (acc++[v]) l' c) (gh sc ev te elt ifs tg xs acc l' c)) k (fun _=>none)=some out) (tg:=tg) h hp (fun v s₁ q=>q) fun v S₁ st hk W₁ iv=>vE st dF c L fun c₁ L₁=> ?_
  refine rQ (K:=fun c=>aF (tG te ifs l' c) (fun b c=>lF b (aF (ev elt l' c) fun v c=>gh sc ev te elt ifs tg xs (acc++[v]) l' c) (gh sc ev te elt ifs tg xs acc l' c)) k (fun _=>none)=some out) hE hZ Rm L₁ e1 hp iv hk fun S₂ x₂ L₂ h₂=> ?_
  have c₂:=c₁.move x₂ (fun q=>dO (List.mem_singleton.mp q▸.head _)) dF fun b q=>List.mem_singleton.mp q▸cN
  have W₂:=W₁.ext (x₂.zC fun b q=>List.mem_singleton.mp q▸.tail _ (.head _))
  have Y8:acc.length+xs.length<=big:=Nat.le_trans (Nat.add_le_add_left (Nat.le_succ _) _) hl
  refine Av Ht L₂ _ _ out _ _ h₂ (fun b b' S₃ x₃ eb e=> ?_) fun _ _ _ _ e=>nn e
  have c₃:=c₂.move x₃ List.not_mem_nil dF di
  have W₃:=W₂.ext x₃.wide
  have L₃:=L₂.ext x₃
  cases (eb:b=b')
  induction b with
  |false=>exact(if_neg Bool.false_ne_true).mpr ⟨xs.length,Nat.lt_succ_self _,fun G g=>g S₃ xs acc ys l' W₃ L₃ c₃ Y8 e⟩
  |true=>
   refine(if_pos rfl).mpr (H elt S₃ l' L₃ _ _ out _ _ e (fun v v' S₄ x₄ r₄ e=> ?_) fun _ _ _ _ e=>nn e)
   have c₄:=c₃.move x₄ List.not_mem_nil dF di
   obtain⟨m,e₄⟩:=c₄.lst
   refine wpAny_list_append_plain (hsz:=by rw[List.size_toArray,c₄.rs.len];exact bj (Nat.le_trans (Nat.le_add_right _ _) hl)) ⟨m,e₄⟩ fun h₅ Y9 DD=> ?_
   obtain⟨m₅,e₅⟩:=Y9
   rw[List.push_toArray]at e₅
   have x₅:aQ [D] S₄ (S₄.put D c₄.al {S₄.s with heap:=h₅} DD.2 (fun G g=>g _ e₅ fun _=>nofun) rfl):= .put (.head _) rfl
   exact⟨xs.length,Nat.lt_succ_self _,fun G g=>g _ xs (acc++[v]) (ys++[v']) l' ((W₃.ext x₄.wide).ext (x₅.zC fun b q=>List.mem_singleton.mp q▸.head _)) ((L₃.ext x₄).move x₅ fun z hz q=>dO (List.mem_singleton.mp q▸hz))
    ⟨c₄.x.jE x₅ (fun b q=>List.mem_singleton.mp q▸dN),c₄.al,⟨m₅,e₅⟩,.append (.cons r₄ .nil) c₄.rs⟩ (by rw[List.length_append,Nat.add_right_comm];exact hl) e⟩
end
theorem Walk.more{A:Around}{S₀ S:St fs}{V V' :List Addr}(k:Walk A S₀ S V pr J xs)(h:∀b∈V',b∈V\/S.h b=none):Walk A S₀ S V' pr J xs:=fun G g=>k G fun B ys fp wr P i I hB hd hl st ap=>g B ys fp wr P i I hB hd hl st ⟨fun b hb=>have q:=ap.fp b hb;⟨q.1,q.2.1,fun z=>(h b z).elim q.2.2 fun e=>(I.live _ _ st b hb).elim fun o e' =>sn e' e⟩,ap.wr⟩
theorem Aw{a b:Bool}(h:(!(a&& !b))=true)(q:a=true):b=true:=by
 induction b with
 |true=>rfl
 |false=>rw[q]at h;exact ft h
theorem E2{y:Str}(h:bp i y= .loc):look i.names y=some .local:=by
 unfold bp at h
 revert h
 cases look i.names y with
 |none=>exact fun h=>nomatch h
 |some k=>induction k<;>first|exact fun _=>rfl|exact fun h=>nomatch h
theorem E3{y:Str}(h:bp i y= .tw):(y,NameKind.cell)∈i.names:=by
 unfold bp at h
 cases q:look i.names y with
 |none=>rw[q]at h;exact nomatch h
 |some k=>
  rw[q]at h
  have m:=eD q
  induction k with
  |cell=>exact m
  |_=>exact nomatch h
theorem vG{o i:Scope}{env:Env}{y:Str}(G:bL o i=true)(hE:bx o env)(h:(y,NameKind.cell)∈i.names):False:=ft (jF G hE h)
theorem Ax{o i:Scope}{env:Env}{y:Str×NameKind}(G:bL o i=true)(hE:bx o env)(h:y∈i.names)(hl:y.2= .local):i.names.lookup y.1=some .local:=by
 have g:=jF G hE h
 unfold vd at g
 rw[hl]at g
 rw[<-f4]
 refine E2 ?_
 revert g
 show Ii (bp i y.1)=true->_
 cases bp i y.1 with
 |loc=>exact fun _=>rfl
 |_=>exact fun h=>ft h
section
variable{fs:List Env}{A:Around}{env:Env}{x:Cx}{Z:ve}{S:St fs}{l:Loc}(Rm:bu d fs A)(hE:bx x.scope env)(L:Lc S env l)
 (hS:∀e l c k kx out,Z.S x e l c k kx=some out->isSet e=false) (Hs:∀e (S:St fs) l,Lc S env l->au S (rW A S (aZ env)) (Z.S x e l S.c) (dX A (wpAny M0 A (eval e env))))
 (HN:∀sc dj,bx sc dj->iz fs A dj (Z.E {x with scope:=sc})/\pV fs A dj (Z.te {x with scope:=sc}))
include Rm hE L hS Hs HN
theorem Ay{S₁:St fs}{elt tg it:Expr}{ifs:List Expr}{sc:Scope}{pos:Pos}{pr:Bool}{J C D:Addr}{xs:List T}{k:V->aa->aq}{kx:Kx}{out:Oc}{Q E:Value->Shared->Prop}{h₂:Heap}{tk:Nat}(G:bL x.scope sc=true)(x₁:aQ [] S S₁)(W:Walk A S S₁ (aZ env) pr J xs)(hl:xs.length<=big)(hp:pr=true->isTup tg=true)(ok:It S rV k out Q)
  (kk:Sub S₁.h h₂.get?) (nD:S₁.h D=none) (nC:S₁.h C=none) (ne:D≠C) (hD:h₂.get? D=some (listAt [] n)) (hn:h₂.Ns C m)
  (e:gh sc (Z.E {x with scope:=sc}) (Z.te {x with scope:=sc}) elt ifs tg xs [] (bK sc l) S₁.c (fun vs c=>mG vs c k kx) (fun _=>none)=some out):
  codeAny M0 A (.compStart (.ListComp elt [⟨tg,it,ifs,0⟩] sc pos) 0 (.ref J) (.ref D) (compEnvC sc (ci env.cells sc.names) C env)) (compPost M0 A E none Q (.ref D) C) {S₁.s with heap:=h₂,toks:=tk}:=by
 let S₂:=S₁.go {S₁.s with heap:=h₂,toks:=tk} kk rfl
 have x₂:aQ [] S₁ S₂:=St.bk rfl
 have L₁:=L.ext x₁
 have no:∀{b},S₁.h b=none->b∉aZ env:=fun e q=>(L₁.fX _ q).2.not e
 have aC:S₂.Al C:=St.al (S:=S₁) nC
 have L₂:=L₁.ext x₂
 have E4:=As G hE L₂ (C:=C) fun k hk q=>no nC (q▸.tail _ hk)
 have L' :=At G hE L₂ aC hn
 have own:=fun{z} (hz:z∈aZ (compEnvC sc (ci env.cells sc.names) C env))=>r4 G hE L₂ hz
 have hh:=HN sc _ E4
 have dO:D∉aZ (compEnvC sc (ci env.cells sc.names) C env):=fun q=>(own q).elim ne (no nD)
 have dN:=x₁.live D List.not_mem_nil nD
 have cN:=x₁.live C List.not_mem_nil nC
 have W₂:=(W.more (V' :=D::aZ (compEnvC sc (ci env.cells sc.names) C env)) fun b hb=>(List.mem_cons.mp hb).elim (fun q=> .inr (q▸nD)) fun q=>(own q).elim (fun q=> .inr (q▸nC)) .inl).ext x₂.wide
 have vD:∀y,bp sc y≠.tw:=fun y q=>vG G hE (E3 q)
 have loop:codeAny M0 A (.compLoop (.ListComp elt [⟨tg,it,ifs,0⟩] sc pos) 0 (.ref J) (.ref D) (compEnvC sc (ci env.cells sc.names) C env)) (compPost M0 A E none Q (.ref D) C) S₂.s:=
  uf Rm E4 hh.1 hh.2 vD (St.off nD) dO cN dN hp (fun vs ys S' l' c L hl h=>L.ns _ fun m hm _=>⟨m,hm,fun h' hs=>by
   have al:=(L.fX C (.head _)).1
   have k₃:∀b o,b∉[C]->S'.h b=some o->h'.get? b=some o:=fun b o q e=>(hs.2 b fun z=>q (z▸.head _)).trans e
   let S₃:=S'.walk {S'.s with heap:=h' } k₃ (fun b q=>List.mem_singleton.mp q▸⟨al,St.off nC⟩) rfl
   have y:aQ [C] S' S₃:= .same k₃ rfl
   exact ue ok dN (St.off nD) (c.move y (fun q=>ne (List.mem_singleton.mp q)) (St.off nD) fun b q=>List.mem_singleton.mp q▸cN) hl h⟩)
   (fun G g=>g S₂ xs [] [] (bK sc l) W₂ L' ⟨x₁.trans x₂,St.al (S:=S₁) nD,⟨_,hD⟩,.nil⟩ ((Nat.zero_add _).symm▸hl) e)
 exact codeAny_compStart_list loop (W₂.self loop)
theorem E5{elt:Expr}{w:Comprehension}{sc:Scope}{pos:Pos}:au S rV (TS x Z elt w sc l S.c) (wpAny M0 A (eval (.ListComp elt [w] sc pos) env)):= .eU fun h=>am h fun ha G k kx out Q E e ok ex=>by
 obtain⟨tg,it,ifs,ia⟩:=w
 cases eq_of_beq ha
 rw[eval_ListComp]
 refine wpAny_comprehension_free (use:=none) rfl (fold_plain (hS _ _ _ _ _ _ e)) (KF G hE L) (kJ G hE) (fun y hy hl=> ?_) ?_
 ·exact Ax G hE hy hl
 refine Hs it S l L _ kx out _ _ e (fun p U5 S₁ x₁ w e=>aE e fun hp e=>w (fun U5=>wpAny M0 A (newList []) (fun acc s₃=>wpAny M0 A (newFunctionEnv sc env.globals (ci env.cells sc.names) [] env.qual none .none (some env)) (fun dj s₄=>codeAny M0 A (.compStart (.ListComp elt [⟨tg,it,ifs,0⟩] sc pos) 0 U5 acc {dj with scope:=relabel sc env}) (compPost M0 A E none Q acc dj.locals) s₄) E s₃) E S₁.s) fun J W hl=> ?_) ex
 refine wpAny_newObj_type (wpAny_newFunctionEnv ?_ (fun y hy=>absurd hy List.not_mem_nil) (fun h₂ Za XZ=> ?_) (kJ G hE))
 ·exact fun y hy q=>vG G hE (y:=y.1) (by rw[<-q];exact hy)
 have L₁:=L.ext x₁
 have nD:=bw S₁.s.heap
 have nC:S₁.h (S₁.s.heap.push (listAt [] 0)).objs.size=none:=by rw[Heap.size_push];exact m3 1
 have ne:S₁.s.heap.objs.size≠(S₁.s.heap.push (listAt [] 0)).objs.size:=by rw[Heap.size_push];exact Nat.ne_of_lt (Nat.lt_succ_self _)
 have kk:Sub S₁.h h₂.get? :=fun b o e=>XZ.extBut b o (fun q=>sn e (q▸nC)) (Heap.get?_push_of_some _ (Heap.get?_push_of_some _ e))
 refine Ay (n:=0) Rm hE L hS Hs HN G x₁ W hl (fun q=> ?_) ok kk nD nC ?_ ?_ Za e
 ·exact Aw hp q
 ·exact ne
 ·exact XZ.extBut _ _ ne (Heap.get?_push_of_some _ (aU rfl))
end
noncomputable abbrev Pe(fs:List Env)(A:Around)(env:Env)(sr:Expr->Loc->aa->EM (Bool×List T)):Prop:=∀e (S:St fs) l,Lc S env l->au S (rW A S (aZ env)) (sr e l S.c) (dX A (wpAny M0 A (eval e env)))
structure KH(fs:List Env)(A:Around)(env:Env)(x:Cx)(Z:ve):Prop where
 E:iz fs A env (Z.E x)
 T:pV fs A env (Z.te x)
 S:Pe fs A env (Z.S x)
 set:∀e l c k kx out,Z.S x e l c k kx=some out->isSet e=false
theorem Pf{fs:List Env}{A:Around}(Rm:bu d fs A){n:Nat}:∀(x:Cx) (env:Env),Go d x.tab x.glob x.cw->bx x.scope env->KH fs A env x (D3 n):=by
 induction n with
 |zero=>exact fun x env g hE=>⟨fun _ _ _ _=> .fail,fun _ _ _ _=> .fail,fun _ _ _ _=> .fail,fun _ _ _ _ _ _ h=>nn h⟩
 |succ n ih=>
  intro x env g hE
  have H:=ih x env g hE
  exact⟨fun e S l L=>Ac Rm g hE H.E H.T L (fun elt w sc pos=>E5 Rm hE L H.set H.S fun sc dj h=>have k:=ih {x with scope:=sc} dj g h;⟨k.E,k.T⟩) fun ks es pos=>EN H.E pos L,
   fun e S l L=>Ab Rm H.E H.T L,fun e S l L=>KB Rm g hE H.E L rfl,fun e l c k kx out h=>aE h fun h _=>dW h⟩
noncomputable def m5(h₀:Heap)(S:St fs)(e:Addr):Prop:=∀G:Prop,(∀oe vs a0,h₀.get? e=none->S.h e=some oe->oe.cls= .ref ad->oe.data= .fields vs->vs[0]? =some a0->vs[1]? =some Value.none->S.B e=none->G)->G
noncomputable def qf(L:Addr)(h₀:Heap)(S:St fs)(e:Addr):Prop:=m5 h₀ S e\/gj .none h₀ S e\/gj (rawInt L) h₀ S e
noncomputable def Pg(S:St fs):Out->Flow->Prop
 | .next,f=>f= .next
 | .ret v,f=>∀G:Flow->Prop,(∀v',S.R v v' ->G (.ret v'))->G f
 | .brk,f=>f= .brk
 | .cont,f=>f= .cont
 | .exc,_=>False
noncomputable def NS(S:St fs)(env:Env)(k:Ko)(out:Oc)(Q:Flow->Shared->Prop):Prop:=∀o f (S' :St fs) l,aQ (aZ env) S S' ->Lc S' env l->Pg S' o f->k o l S'.c=some out->Q f S'.s
noncomputable def KI(S:St fs)(env:Env)(k:Ko)(out:Oc)(E:Value->Shared->Prop):Prop:=∀e (S' :St fs) l,aQ (aZ env) S S' ->Lc S' env l->qf env.locals S.s.heap S' e->k .exc l S'.c=some out->E (.ref e) S'.s
noncomputable def bc(S:St fs)(env:Env)(m:SM)(t:PT Flow):Prop:=∀k out Q E,m k=some out->NS S env k out Q->KI S env k out E->t Q E S.s
noncomputable def Az(S:St fs)(env:Env)(m:AM)(t:PT Unit):Prop:=∀k out Q E,m k=some out->(∀(S' :St fs) l,aQ (aZ env) S S' ->Lc S' env l->k l S'.c=some out->Q () S'.s)->t Q E S.s
section
variable{fs:List Env}{S S' :St fs}{env:Env}{l:Loc}{k:Ko}{out:Oc}
theorem qf.start(x:qf L h₁ S e)(w:∀b,h₁.get? b=none->h₀.get? b=none):qf L h₀ S e:=x.imp (fun x G g=>x G fun oe vs a0 h1=>g oe vs a0 (w _ h1)) fun x=>x.imp (·.start w) (·.start w)
theorem Lc.live(L:Lc S' env l)(x:aQ (aZ env) S S')(b:Addr)(h:S'.h b=none):S.h b=none:=Classical.byCases (fun q:b∈aZ env=>(L.fX b q).2.not h) fun q=>x.live b q h
theorem NS.after{Q:Flow->Shared->Prop}(h:NS S env k out Q)(x:aQ (aZ env) S S'):NS S' env k out Q:=fun o f xm l y=>h o f xm l (x.trans y)
theorem KI.after{E:Value->Shared->Prop}(h:KI S env k out E)(x:aQ (aZ env) S S')(L:Lc S' env l):KI S' env k out E:=fun e xm l' y L' z=>h e xm l' (x.trans y) L' (z.start (L.live x))
theorem KI.exp{E:Value->Shared->Prop}(h:KI S env k out E)(L:Lc S env l):OP S (fun c=>k .exc l c) out E:=fun e S' y z=>h e S' l y.wide (L.ext y) (.inr (.inl z))
end
section
variable{fs:List Env}{S S' :St fs}{env:Env}{l:Loc}{m n:SM}{t u:PT Flow}
theorem bc.rule(h:∀Q E s,u Q E s->t Q E s)(x:bc S env m u):bc S env m t:=fun k out Q E e ok ex=>h Q E _ (x k out Q E e ok ex)
theorem bc.here(h:∀Q E,u Q E S.s->t Q E S.s)(x:bc S env m u):bc S env m t:=fun k out Q E e ok ex=>h Q E (x k out Q E e ok ex)
theorem bc.out(L:Lc S env l)(r:Pg S o f)(h:∀Q E,Q f S.s->t Q E S.s):bc S env (lJ o l S.c) t:=fun k out Q E e ok ex=>h Q E (ok o f S l .refl L r e)
theorem bc.fail:bc S env oj t:=fun _ _ _ _ e=>nn e
theorem bc.eU(h:b=true->bc S env m t):bc S env (gG b m) t:=fun k out Q E e ok ex=>aE e fun q e=>h q k out Q E e ok ex
theorem bc.ite(h:b=true->bc S env m t)(h' :b=false->bc S env n t):bc S env (JM b m n) t:=by
 induction b
 ·exact h' rfl
 ·exact h rfl
theorem bc.opt{α:Type}{o:Option α}{f:α->SM}(h:∀a,o=some a->bc S env (f a) t):bc S env (jt o f) t:=fun k out Q E e ok ex=>ae e fun a q e=>h a q k out Q E e ok ex
theorem bc.alt{α:Type}{o:Option α}{f:α->SM}(h:∀a,o=some a->bc S env (f a) t)(h' :bc S env m t):bc S env (bn o f m) t:=cz (P:=fun m=>bc S env m t) h h'
theorem bc.after(x:aQ (aZ env) S S')(L:Lc S' env l)(h:bc S' env m t)(g:∀Q E,t Q E S'.s->u Q E S.s):bc S env m u:=fun k out Q E e ok ex=>g Q E (h k out Q E e (ok.after x) (ex.after x L))
theorem bc.do{α β:Type}{R:Rl fs α β}{m:EM α}{t:PT β}{f:α->aa->SM}{F:β->PT Flow}(L:Lc S env l)(x:au S R m t)(g:∀a b S',aQ [] S S' ->Lc S' env l->R S' a b->bc S' env (f a S'.c) (F b)):bc S env (yL m l f) fun Q E s=>t (fun b s=>F b Q E s) E s:=
 fun k out Q E e ok ex=>x _ _ out _ E e (fun a b S' y r e=>g a b S' y (L.ext y) r k out Q E e (ok.after y.wide) (ex.after y.wide (L.ext y))) (ex.exp L)
theorem bc.Zb{β:Type}{m:EM β}{t:PT β}{f:β->aa->SM}{F:β->PT Flow}(L:Lc S env l)(x:au S rE m t)(g:∀b S',aQ [] S S' ->Lc S' env l->bc S' env (f b S'.c) (F b)):bc S env (yL m l f) fun Q E s=>t (fun b s=>F b Q E s) E s:= .do L x fun a b S' y L r=>(r:a=b)▸g a S' y L
theorem bc.asg{m:AM}{t:PT Unit}(x:Az S env m t):bc S env (mL m) fun Q E s=>t (fun _ s=>Q .next s) E s:=fun k out Q E e ok ex=>x _ out _ E e fun S' l y L e=>ok .next .next S' l y L rfl e
end
section
variable{fs:List Env}{A:Around}{env:Env}{x:Cx}{ev:Em}(Rm:bu d fs A)(g:Go d x.tab x.glob x.cw)(hE:bx x.scope env)(H:iz fs A env ev)
include Rm g hE H
theorem AA{S:St fs}{l:Loc}{t:Expr}(L:Lc S env l)(r:S.R v v'):Az S env (D4 x ev t v l S.c) (wpAny M0 A (assign t env v')):=by
 cases t with
 |Name y p=>exact fun k out Q E e ok=>ae e fun l' q e=>wpAny_assign_Name (fY (K:=fun c=>k l' c=some out) hE ⟨.head _,fun _ _ _ h=>h⟩ L q r e fun S' x L hk=>ok S' l' x L hk)
 |Attribute o name p=>
  exact fun k out Q E e ok=>by
   rw[assign_Attribute]
   exact wpAny_bind (wpAny_holding (H o S l L _ _ out _ E e (fun u u' S₁ x₁ r₁ e=>wpAny_bind (wpAny_standAt (wpAny_bind (wpAny_holding (tV (x₁.R r) g.cw r₁ _ (fun _=>none) out _ E e (fun _ _ S₂ x₂ _ e=>wpAny_release (ok S₂ l (x₁.trans x₂).wide ((L.ext x₁).ext x₂) e)) fun _ _ _ _ e=>nn e))))) fun _ _ _ _ e=>nn e))
 |Subscript o i p=>
  exact fun k out Q E e ok=>by
   rw[assign_Subscript]
   exact wpAny_bind (wpAny_holding (H o S l L _ _ out _ E e (fun u u' S₁ x₁ r₁ e=>wpAny_bind (wpAny_holding (H i S₁ l (L.ext x₁) _ _ out _ E e (fun w w' S₂ x₂ r₂ e=>wpAny_bind (wpAny_standAt (wpAny_bind (wpAny_holding (tW (x₂.R (x₁.R r)) Rm (x₂.R r₁) r₂ _ (fun _=>none) out _ E e (fun _ _ S₃ x₃ _ e=>wpAny_release (ok S₃ l ((x₁.trans x₂).trans x₃).wide (((L.ext x₁).ext x₂).ext x₃) e)) fun _ _ _ _ e=>nn e))))) fun _ _ _ _ e=>nn e))) fun _ _ _ _ e=>nn e))
 |_=>exact fun k out Q E e=>nn e
theorem E6{ts:List Expr}:ts.all cy=true->∀{S:St fs} {l:Loc} {vs:List V} {us:List Value},Lc S env l->S.Rs vs us->Az S env (fw x ev ts vs l S.c) (wpAny M0 A (assignInOrder ((assignEach ts env).map (·.2)) us)):=by
 induction ts with
 |nil=>
  intro _ S l vs us L r
  induction vs with
  |nil=>exact r (fun us=>Az S env _ (wpAny M0 A (assignInOrder [] us))) fun k out Q E e ok=>wpAny_pure (ok S l .refl L e)
  |cons=>exact fun k out Q E e=>nn e
 |cons t ts ih=>
  refine fun h {S l vs us} L r=>am h fun h1 h2=> ?_
  induction vs with
  |nil=>exact fun k out Q E e=>nn e
  |cons v vs=>
   rw[fZ h1]
   exact r (fun us=>Az S env _ (wpAny M0 A (assignInOrder _ us))) fun u us r1 r2 k out Q E e ok=>wpAny_assignInOrder_more (AA Rm g hE H L r1 _ out _ E e fun S₁ l₁ x₁ L₁ e=>ih h2 L₁ (x₁.Rs r2) k out Q E e fun S₂ l₂ x₂=>ok S₂ l₂ (x₁.trans x₂))
end
theorem Lc.congr{S:St fs}{env:Env}{l l' :Loc}(L:Lc S env l)(e:∀y,look l' y=look l y):Lc S env l' :=⟨L.fX,fun G g=>L.ns G fun m hm hv=>g m hm fun y v k q=>hv y v k (e y▸q),fun y v k q=>L.cl y v k (e y▸q),L.cv⟩
theorem xL{a b:Str}(h:a≠b)(l:Loc)(u v:V)(y:Str):look (dP (dP l a u) b v) y=look (dP (dP l b v) a u) y:=
 bP (C:=fun o=>o=look (dP (dP l b v) a u) y) (fun e=>bP (C:=fun o=>some v=o) (fun e' =>absurd (e'.trans e.symm) h) fun _=>bP (C:=fun o=>some v=o) (fun _=>rfl) fun e' =>absurd e e')
  fun e=>bP (C:=fun o=>o=look (dP (dP l b v) a u) y) (fun e' =>bP (C:=fun o=>some u=o) (fun _=>rfl) fun KJ=>absurd e' KJ) fun e' =>bP (C:=fun o=>look l y=o) (fun KJ=>absurd KJ e') fun _=>bP (C:=fun o=>look l y=o) (fun KJ=>absurd KJ e) fun _=>rfl
theorem KL{f:Expr->Option Str}{t1 t2:Expr}{G:Prop}(h:([t1,t2].filterMap f).length=2)(g:∀a b,f t1=some a->f t2=some b->[t1,t2].filterMap f=[a,b]->G):G:=by
 rw[List.filterMap_cons,List.filterMap_cons,List.filterMap_nil]at h g
 cases e1:f t1 with
 |none=>
  rw[e1]at h
  cases e2:f t2<;>rw[e2]at h<;>exact nomatch h
 |some a=>
  rw[e1]at h g
  cases e2:f t2 with
  |none=>rw[e2]at h;exact nomatch h
  |some b=>rw[e2]at g;exact g a b rfl rfl rfl
theorem E7{a b:Str}(h:[a,b].eraseDups.length=2):a≠b:=fun e=>by
 subst e
 simp [List.eraseDups_cons]at h
theorem vH{f:Expr->Option Str}{t:Expr}{a:Str}{G:Prop}(hn:∀t,bv t=none->f t=none)(hy:∀y p a,f (.Name y p)=some a->y=a)(h:f t=some a)(g:∀p,t= .Name a p->G):G:=by
 cases q:bv t with
 |none=>exact sn h (hn t q)
 |some y=>exact ec (C:=fun t=>f t=some a->(∀p,t= .Name a p->G)->G) q (fun p h g=>g p (congrArg (Expr.Name · p) (hy y p a h))) h g
theorem E8{f:Expr->Option Str}{t1 t2:Expr}{G:Prop}(h:([t1,t2].filterMap f).length=2)(hn:∀t,bv t=none->f t=none)(hy:∀y p a,f (.Name y p)=some a->y=a)(g:∀a b p q,t1= .Name a p->t2= .Name b q->[t1,t2].filterMap f=[a,b]->G):G:=
 KL h fun a b e1 e2 e3=>vH hn hy e1 fun p e1=>vH hn hy e2 fun q e2=>g a b p q e1 e2 e3
theorem AB{t1:Expr}{ts es:List Expr}{env:Env}{n m:Nat}{p q:Pos}(h:bv t1=none):swappedStores [.Tuple (t1::ts) n p] (.Tuple es m q) env=pure none:=by
 unfold swappedStores
 refine Classical.byCases (fun q1=>if_pos q1) fun q1=>(if_neg q1).trans (Classical.byCases (fun q1=>if_pos q1) fun q1=>(if_neg q1).trans (if_pos ?_))
 refine Bool.or_eq_true_iff.mpr (.inl (bne_iff_ne.mpr (Nat.ne_of_lt ?_)))
 cases t1<;>first|exact nn h.symm|(show(List.filterMap _ ts).length<ts.length+1;exact Nat.lt_succ_of_le (List.length_filterMap_le _ _))
theorem AC{t1 t2:Expr}{es:List Expr}{env:Env}{n m:Nat}{p q:Pos}{G:Prop}(hc:es.all (constantsAlone 8)=false)(h0:swappedStores [.Tuple [t1,t2] n p] (.Tuple es m q) env=pure none->G)
  (h1:∀a b p' q',t1= .Name a p' ->t2= .Name b q' ->a≠b->swappedStores [.Tuple [t1,t2] n p] (.Tuple es m q) env=pure (some [a,b])->G):G:=by
 unfold swappedStores at h0 h1
 dsimp only at h0 h1
 refine Classical.byCases (fun q1=>h0 (if_pos q1)) fun q1=> ?_
 rw[if_neg q1]at h0 h1
 refine Classical.byCases (fun q1=>h0 (if_pos q1)) fun q1=> ?_
 rw[if_neg q1]at h0 h1
 refine Classical.byCases (fun q1=>h0 (if_pos q1)) fun q2=> ?_
 rw[if_neg q2]at h0 h1
 refine Classical.byCases (fun q1=>h0 (if_pos q1)) fun q1=> ?_
 rw[if_neg q1,hc,if_neg Bool.false_ne_true]at h1
 have q2:=Bool.or_eq_false_iff.mp (Bool.eq_false_iff.mpr q2)
 have l1:=bne_eq_false_iff_eq.mp q2.1
 have l2:=(bne_eq_false_iff_eq.mp q2.2).trans l1
 revert l2 h1
 refine E8 l1 (fun t h=> ?_) (fun y p a h=> ?_) fun a b p q e1 e2 e3=> ?_
 ·cases t<;>first|rfl|exact nn h.symm
 ·exact rF h (fun _ e=>e) fun h=>nn h
 ·rw[e3]
  exact fun h1 l2=>h1 a b p q e1 e2 (E7 l2) rfl
theorem f5{e:Expr}{env:Env}(h:cY e=false)(tg:Option Expr)(ln:Nat):swapsWith e tg ln env=pure false:=by
 cases e<;>first|rfl|exact nomatch h
theorem lj{e:Expr}{env:Env}(h:cY e=false)(ts:List Expr)(ln:Nat):swapsWithSole ts e ln env=pure false:=by
 unfold swapsWithSole
 split
 ·exact f5 h _ _
 ·rfl
section
variable{fs:List Env}{A:Around}{env:Env}
theorem r6{e t:Expr}{pos:Pos}{s:Shared}{Q:Flow->Shared->Prop}{E:Value->Shared->Prop}(hc:cY e=false)(h:wpAny M0 A (eval e env) (fun v s=>wpAny M0 A (swappedStores [t] e env) (fun ns s=>wpAny M0 A (assignStores env v ns ((assignEach [t] env).map (·.2))) Q E s) E s) E s):wpAny M0 A (exec (.Assign [t] e pos) env) Q E s:=by
 show wpAny _ _ (standAt pos>>=_) _ _ _
 refine wpAny_bind (wpAny_standAt (wpAny_bind ?_))
 rw[lj hc]
 exact wpAny_pure (bm_if_false rfl (wpAny_bind (wpAny_mono h (fun v s h=>wpAny_bind h) fun _ _ h=>h)))
theorem m6{t:Expr}{v:Value}{s:Shared}{Q:Flow->Shared->Prop}{E:Value->Shared->Prop}(ht:cy t=true)(h:wpAny M0 A (assign t env v) (fun _ s=>Q .next s) E s):wpAny M0 A (assignStores env v none ((assignEach [t] env).map (·.2))) Q E s:=by
 rw[fZ ht]
 unfold assignStores
 exact wpAny_bind (wpAny_mono (t:=assign t env v) h (fun _ s h=>wpAny_pure h) fun _ _ h=>h)
end
theorem Zc{b:Bool}(h:(!b)=false):b=true:=by
 cases b with
 |true=>rfl
 |false=>exact nomatch h
theorem AD{o:Option α}(h:vg o=true):o=none:=by cases o<;>first|rfl|exact ft h
theorem E9{e:Expr}{ts:List Expr}{env:Env}(h:d7 e=none):swappedStores [.Tuple ts n p] e env=pure none:=by
 cases e<;>first|rfl|exact nomatch h
section
variable{fs:List Env}{A:Around}{env:Env}{x:Cx}{ev:Em}(Rm:bu d fs A)(g:Go d x.tab x.glob x.cw)(hE:bx x.scope env)(H:iz fs A env ev)
include Rm g hE H
theorem AE{S:St fs}{l:Loc}{ts:List Expr}{vs:List V}{us:List Value}{q:Addr}(hs:ts.all cy=true)(hl:ts.length=vs.length)(L:Lc S env l)(r:S.Rs vs us)(hq:S.s.heap.IsTuple q (List.toArray us)):bc S env (mL (fw x ev ts vs l S.c)) (wpAny M0 A (assignStores env (.ref q) none ((assignEach [.Tuple ts n p] env).map (·.2)))):=fun k out Q E e ok ex=>m6 rfl (by
 have hn:=li (env:=env) hs
 refine wpAny_assign_Tuple Rm.handled hq (by rw[hn.1,hl,List.size_toArray,r.len]) hn.2 fun h' he=> ?_
 have x₁:aQ [] S (S.go {S.s with heap:=h' } (fun b o e=>he b o (Nat.ne_of_lt (Heap.lt_size e)) e) rfl):=St.bk rfl
 exact E6 Rm g hE H hs (L.ext x₁) (x₁.Rs r) _ out _ E e fun S₂ l₂ x₂ L₂ e=>ok .next .next S₂ l₂ (x₁.wide.trans x₂) L₂ rfl e)
omit Rm g H in
theorem vI{C:Loc->Prop}(h:fv x.scope l y v=some l')(k:(∀l v,fv x.scope l y v=some (dP l y v))->C (dP l y v)):C l' :=aE h fun hc h=>so h (k fun l v=>by unfold fv;rw[hc];rfl)
theorem Fa{S:St fs}{l:Loc}{a b:Str}{p' q' :Pos}{vs:List V}{us:List Value}{q:Addr}{st:List (Value->Sem Unit)}(ne:a≠b)(L:Lc S env l)(r:S.Rs vs us)(hq:S.s.heap.IsTuple q (List.toArray us)):bc S env (mL (fw x ev [.Name a p',.Name b q'] vs l S.c)) (wpAny M0 A (assignStores env (.ref q) (some [a,b]) st)):=fun k out Q E e ok ex=>by
 cases vs with
 |nil=>exact nn e
 |cons u vs=>
  refine ae e fun l1 e1 e=>vI (C:=fun l1=>fw x ev [.Name b q'] vs l1 S.c (fun l c=>k .next l c)=some out->_) hE e1 (fun s1 e=> ?_) e
  cases vs with
  |nil=>exact nn e
  |cons v vs=>
   refine ae e fun l2 e2 e=>vI (C:=fun l2=>fw x ev [] vs l2 S.c (fun l c=>k .next l c)=some out->_) hE e2 (fun s2 e=> ?_) e
   cases vs with
   |cons=>exact nn e
   |nil=>
    refine r (fun us=>S.s.heap.IsTuple q (List.toArray us)->wpAny M0 A (assignStores env (.ref q) (some [a,b]) st) Q E S.s) (fun u' us r1 r2=>r2 (fun us=>S.s.heap.IsTuple q (List.toArray (u' ::us))->wpAny M0 A (assignStores env (.ref q) (some [a,b]) st) Q E S.s) fun v' us r2 r3=>r3 (fun us=>S.s.heap.IsTuple q (List.toArray (u' ::v' ::us))->wpAny M0 A (assignStores env (.ref q) (some [a,b]) st) Q E S.s) fun hq=> ?_) hq
    refine wpAny_bind (wpAny_rule (wpAny_bind (wpAny_unpackItems_tuple (items:=List.toArray [u',v']) Rm.handled hq fun h' he=> ?_)))
    have x₁:aQ [] S (S.go {S.s with heap:=h' } (fun b o e=>he b o (Nat.ne_of_lt (Heap.lt_size e)) e) rfl):=St.bk rfl
    have own:Uu x.scope env (aZ env):=⟨.head _,fun _ _ _ h=>h⟩
    exact wpAny_bind (wpAny_assignInOrder_more (wpAny_bindName (fY (K:=fun c=>k .next (dP (dP l a u) b v) c=some out) hE own (L.ext x₁) (s2 l v) (x₁.R r2) e fun S₂ x₂ L₂ e=>wpAny_assignInOrder_more (wpAny_bindName (fY (K:=fun c=>k .next (dP (dP l a u) b v) c=some out) hE own L₂ (s1 _ u) (x₂.R (x₁.R r1)) e fun S₃ x₃ L₃ e=>
     wpAny_pure (wpAny_pure (ok .next .next S₃ _ ((x₁.wide.trans x₂).trans x₃) (L₃.congr (xL ne l u v)) rfl e)))))))
theorem KM{S:St fs}{l:Loc}{ts:List Expr}{e:Expr}{n:Nat}{p pos:Pos}(hc:cY e=false)(L:Lc S env l):bc S env (JO x ev ts e l S.c) (wpAny M0 A (exec (.Assign [.Tuple ts n p] e pos) env)):= .eU fun h1=> .rule (fun _ _ _=>r6 hc) (by
 have fin:∀{e:Expr} {ts:List Expr} {S₁:St fs} {vs us q},kg ts=true->Lc S₁ env l->S₁.Rs vs us->ts.length=vs.length->S₁.s.heap.IsTuple q (List.toArray us)->swappedStores [.Tuple ts n p] e env=pure none->bc S₁ env (mL (fw x ev ts vs l S₁.c)) fun Q E s=>wpAny M0 A (swappedStores [.Tuple ts n p] e env) (fun ns s=>wpAny M0 A (assignStores env (.ref q) ns ((assignEach [.Tuple ts n p] env).map (·.2))) Q E s) E s:=fun h1 L r hl hq h=> .rule (fun Q E s q=>wpAny_of_eq h q) (AE Rm g hE H (fh h1 fun _ h=>h) hl L r hq)
 cases q:d7 e with
 |none=>exact .do L (H e S l L) fun v v' S₁ x₁ L₁ r₁=> .opt fun vs e1=> .eU fun hl=>St.tup (C:=fun v' =>bc S₁ env (mL (fw x ev ts vs l S₁.c)) fun Q E s=>wpAny M0 A (swappedStores [.Tuple ts n p] e env) (fun ns s=>wpAny M0 A (assignStores env v' ns ((assignEach [.Tuple ts n p] env).map (·.2))) Q E s) E s) r₁ e1 fun a us m g1 _ rs=>fin h1 L₁ rs (eq_of_beq hl) ⟨_,g1,rfl,_,rfl⟩ (E9 q)
 |some es=>
  refine .eU fun h2=>am h2 fun h2 h4=>am h2 fun h2 h3=> ?_
  refine mh (C:=fun e=>bc S env (yL (kt ev es l S.c) l fun vs c=>mL (fw x ev ts vs l c)) fun Q E s=>wpAny M0 A (eval e env) (fun v s=>wpAny M0 A (swappedStores [.Tuple ts n p] e env) (fun ns s=>wpAny M0 A (assignStores env v ns ((assignEach [.Tuple ts n p] env).map (·.2))) Q E s) E s) E s) q fun m ep=> .rule (fun _ _ _=>wpAny_Tuple) (.do L (kG H ep (fh h2 fun _ h=>h) L) fun vs us S₁ x₁ L₁ r₁=> ?_)
  have h3:=Bool.or_eq_false_iff.mp (dW h3)
  have hl:ts.length=vs.length:=(eq_of_beq (Zc h3.2)).trans (r₁.2.symm.trans r₁.1.len)
  have x₂:aQ [] S₁ (S₁.go {S₁.s with heap:=S₁.s.heap.push (jy us 0)} aT rfl):=St.bk rfl
  have hq:(S₁.s.heap.push (jy us 0)).IsTuple S₁.s.heap.objs.size (List.toArray us):=⟨_,aU rfl,rfl,_,rfl⟩
  refine .after x₂.wide (L₁.ext x₂) (?_:bc _ env (mL (fw x ev ts vs l _)) _) fun Q E h=>⟨r₁.2▸bj (pX h2),h⟩
  refine(Bool.or_eq_true_iff.mp h4).elim (fun h4=> ?_) fun h4=> ?_
  ·revert h4 hl h1
   cases ts with
   |nil=>exact fun _ _ h=>ft h
   |cons t1 ts=>
    cases ts with
    |nil=>exact fun _ _ h=>ft h
    |cons t2 ts=>
     cases ts with
     |cons=>exact fun _ _ h=>ft h
     |nil=>
      exact fun h1 hl _=>AC (n:=n) (p:=p) h3.1 (fun hs=>fin h1 (L₁.ext x₂) (x₂.Rs r₁.1) hl hq hs) fun a b p' q' e1 e2 ne hs=>by
       rw[e1,e2]at hs⊢
       exact .rule (fun Q E s q=>wpAny_of_eq hs q) (Fa Rm g hE H ne (L₁.ext x₂) (x₂.Rs r₁.1) hq)
  ·revert h4 hl h1
   cases ts with
   |nil=>exact fun _ _ h=>ft h
   |cons t1 ts=>exact fun h1 hl h4=>fin h1 (L₁.ext x₂) (x₂.Rs r₁.1) hl hq (AB (AD h4)))
end
noncomputable abbrev KN(fs:List Env)(A:Around)(env:Env)(ex:Stmt->Loc->aa->SM):Prop:=∀s (S:St fs) l,Lc S env l->bc S env (ex s l S.c) (wpAny M0 A (exec s env))
noncomputable abbrev xM(fs:List Env)(A:Around)(env:Env)(ex:List Stmt->Loc->aa->SM):Prop:=∀b (S:St fs) l,Lc S env l->bc S env (ex b l S.c) (wpAny M0 A (execs b env))
theorem Fb{x:Cx}{ev:Em}{t:Expr}{v:V}{l:Loc}{c:aa}{k:Loc->aa->aq}{out:Oc}(h:D4 x ev t v l c k=some out):cy t=true/\∀e env,swappedStores [t] e env=pure none:=by
 cases t with
 |Name=>exact⟨rfl,fun _ _=>rfl⟩
 |Attribute=>exact⟨rfl,fun _ _=>rfl⟩
 |Subscript=>exact⟨rfl,fun _ _=>rfl⟩
 |_=>exact nn h
section
variable{fs:List Env}{A:Around}{env:Env}{x:Cx}{ev:Em}{Z:ve}{X:Xs}{S:St fs}{l:Loc}(Rm:bu d fs A)(g:Go d x.tab x.glob x.cw)(hE:bx x.scope env)(H:KH fs A env x Z)
theorem KO(h1:KN fs A env (X.S x))(h2:xM fs A env (X.B x)):xM fs A env (OC X x):=fun b S l L=>by
 induction b with
 |nil=>exact .out L rfl fun _ _=>wpAny_execs_nil
 |cons s ss=>
  exact fun k out Q E e ok ex=>wpAny_execs_cons (h1 s S l L _ out _ E e (fun o f S₁ l₁ x₁ L₁ r e=>by
   induction o with
   |next=>cases (r:f= .next);exact h2 ss S₁ l₁ L₁ k out Q E e (ok.after x₁) (ex.after x₁ L₁)
   |ret v=>apply(r:∀G:Flow->Prop,(∀v',S₁.R v v' ->G (.ret v'))->G f);exact fun v' r=>ok (.ret v) (.ret v') S₁ l₁ x₁ L₁ (fun G g=>g v' r) e
   |brk=>cases (r:f= .brk);exact ok .brk .brk S₁ l₁ x₁ L₁ rfl e
   |cont=>cases (r:f= .cont);exact ok .cont .cont S₁ l₁ x₁ L₁ rfl e
   |exc=>exact r.elim) fun e' S' l' y L' z e=>ex e' S' l' y L' z e)
include Rm g hE H
theorem xO{ts:List Expr}{e:Expr}{pos:Pos}(L:Lc S env l):bc S env (jt (one ts) fun t=>OA x (Z.E x) t e l S.c) (wpAny M0 A (exec (.Assign ts e pos) env)):= .opt fun t e1=>by
 induction ts with
 |nil=>exact nn e1
 |cons t' ts=>
  induction ts with
  |cons=>exact nn e1
  |nil=>
   cases Option.some.inj e1
   refine .eU fun hc=> ?_
   have hc:=dW hc
   cases q:d7 t with
   |some ts=>exact mh (C:=fun t=>bc S env (JO x (Z.E x) ts e l S.c) (wpAny M0 A (exec (.Assign [t] e pos) env))) q fun n p=>KM Rm g hE H.E hc L
   |none=>
    exact .rule (fun _ _ _=>r6 hc) (.do L (H.E e S l L) fun v v' S₁ x₁ L₁ r₁ k out Q E h ok ex=>by
     have z:=(bc.asg (AA (t:=t) Rm g hE H.E L₁ r₁)) k out Q E h ok ex
     have w:=Fb h
     exact wpAny_of_eq (w.2 _ _) (m6 w.1 z))
end
noncomputable def m7(h:Heap)(p:Addr->Bool):Heap:=⟨h.objs.mapIdx fun i o=>if p i then o else{o with data:= .freed},h.life⟩
theorem qg(h:Heap)(p:Addr->Bool)(b:Addr):(m7 h p).get? b=if p b then h.get? b else none:=by
 unfold m7 Heap.get?
 simp only[Array.getElem?_mapIdx]
 cases hb:h.objs[b]? with
 |none=>simp
 |some o=>
  simp only[Option.map_some]
  cases p b with
  |true=>rfl
  |false=>rfl
noncomputable def eE(h:Heap)(off:List Addr):Heap:=m7 h fun b=> !off.contains b
theorem jH{h:Heap}{off:List Addr}{b:Addr}:(eE h off).get? b=if b∈off then none else h.get? b:=by
 unfold eE
 rw[qg]
 by_cases e:b∈off
 ·rw[if_pos e,show off.contains b=true from List.contains_iff_mem.mpr e];rfl
 ·rw[if_neg e,show off.contains b=false from Bool.eq_false_iff.mpr fun q=>e (List.contains_iff_mem.mp q)];rfl
theorem f6{h:Heap}{off:List Addr}:(eE h off).StaysIn h:=fun b o e=>by
 rw[jH]at e
 split at e
 ·exact nn e
 ·exact e
theorem r7{h:Heap}{off:List Addr}{b:Addr}(m:b∈off):(eE h off).get? b=none:=jH.trans (if_pos m)
theorem Fc{h:Heap}{off:List Addr}{b:Addr}(m:b∉off)(e:h.get? b=some o):(eE h off).get? b=some o:=jH.trans ((if_neg m).trans e)
theorem f7{fs:List Env}{env:Env}(h:env∈fs)(e:env.frame=some L):L∈et fs:=List.mem_filterMap.mpr ⟨env,h,e⟩
theorem ug{base h:Heap}{fs:List Env}:(∀e∈fs,e.scope.kind≠.module/\e.frame=some e.locals)->(∀a∈et fs,base.get? a=none/\Plain h a)->h.FunFrames base fs:=by
 induction fs with
 |nil=>exact fun _ _=>trivial
 |cons e fs ih=>
  intro k f
  have ke:=k e (.head _)
  have fe:=f e.locals (f7 (.head _) ke.2)
  exact⟨ke.1,fe.2 _ fun o h1 h2=>⟨e.locals,o,ke.2,fe.1,h1,h2⟩,ih (fun e h=>k e (.tail _ h)) fun a h=>f a (by
   obtain⟨e',h1,h2⟩:=List.mem_filterMap.mp h
   exact f7 (.tail _ h1) h2)⟩
section
variable{S:St fs}{ex:List Addr}{h' :Heap}(hx:∀a∈ex,S.Al a)(k1:(eE S.s.heap (et fs++ex)).StaysIn h')(k4:S.s.heap.UpToSlots h')
include k1 in
theorem m8{b:Addr}{o:Obj}(h1:b∉et fs)(h2:b∉ex)(e:S.h b=some o):h'.get? b=some o:=k1 b o (Fc (fun q=>(List.mem_append.mp q).elim h1 h2) e)
noncomputable def St.exc:St fs:=S.to {S.s with heap:=h' } (fun b o q e=>m8 k1 (fun z=>q ⟨(S.frames b z).1,(S.frames b z).2.1⟩) (fun z=>q (hx b z)) e) (fun a q=>fun G g=>(S.frames a q).2.2 G fun o e p=>(k4 a o e p).elim fun sl e' =>g _ e' p) rfl
theorem aQ.exc:aQ ex S (S.exc hx k1 k4) where
 bb:= .refl
 sg:=fun _ _ e=>e
 cK:=fun b o _ h2 h3 e=>m8 k1 h2 h3 e
 d8:=fun b o h1 _ e=>(S.frames b h1).2.2 _ fun o' e' p=>k4 b o e (Option.some.inj (e'.symm.trans e)▸p)
 live:=fun b z e=>match q:S.h b with
  |none=>rfl
  |some o=>Classical.byCases (fun f:b∈et fs=>(S.frames b f).2.2 _ fun o' e' p=>(k4 b o' e' p).elim fun sl KJ=>nomatch KJ.symm.trans e) fun f=>nomatch (m8 k1 f z q).symm.trans e
 keep:=fun _ _ _ h _=>⟨h,id⟩
 os:=rfl
end
section
variable{S:St fs}{ex:List Addr}{h' :Heap}
theorem St.fld{b:Addr}(hB:S.B b=none)(e:S.h b=some o)(d:o.data= .fields vs):S.Al b:=⟨hB,match q:S.ow b with
 |none=>rfl
 |some i=>False.elim ((S.own b i q).2 _ fun o' e' p=>p vs (Option.some.inj (e'.symm.trans e)▸d))⟩
theorem jI{h₀:Heap}{hx:∀a∈ex,S.Al a}{k1:(eE S.s.heap (et fs++ex)).StaysIn h'}{k4:S.s.heap.UpToSlots h'}(X0:∀a∈ex,h₀.get? a=none)(live:∀b,S.h b=none->h₀.get? b=none)(he:e∈ex)(t:h'.TracedAtW (eE S.s.heap (et fs++ex)) e (.ref ad) a0 fl):gj fl h₀ (S.exc hx k1 k4) e:=fun G g=>by
 obtain⟨oe,vs,T,oT,ts,q1,q2,q4,q5,q6,q7,q8,q9,Ph⟩:=t
 have w:h₀.get? T=none/\S.B T=none:=Classical.byCases (fun f:T∈et fs=>(S.frames T f).2.2 _ fun o e p=>(k4 T o e p).elim fun sl e' =>absurd (by rw[<-Option.some.inj (e'.symm.trans q8)]at q9;exact q9) (p ts)) fun f=>Classical.byCases (fun f:T∈ex=>⟨X0 T f,(hx T f).1⟩) fun f' =>by
  rw[jH,if_neg fun q=>(List.mem_append.mp q).elim f f']at q6
  exact⟨live T q6,(St.al (S:=S) q6).1⟩
 exact g oe vs a0 T oT ts (X0 e he) w.1 q1 q2.1 q4 q2.2 q5 q7 q8 q9 Ph (hx e he).1 w.2
theorem m9{h₀:Heap}{G:Prop}(x:gj fl h₀ S e)(g:∀t a0,(∀a∈[e,t],S.Al a)->(∀a∈[e,t],h₀.get? a=none)->(∀base:Heap,base.get? t=none->S.s.heap.TracedAtW base e (.ref ad) a0 fl)->G):G:=x G fun oe vs a0 t oT ts h1 h2 h3 h4 h5 h6 h7 h8 h9 X1 Zd Ze Zf=>
 g t a0 (bg (St.fld Ze h3 h5) (bg (St.fld Zf h9 X1) di)) (bg h1 (bg h2 di)) fun base hb=>⟨oe,vs,t,oT,ts,h3,⟨h4,h6⟩,h5,h7,hb,h8,h9,X1,Zd⟩
theorem gn{a:Addr}(m:a∈ex):(eE S.s.heap (et fs++ex)).get? a=none:=r7 (List.mem_append_right _ m)
theorem ox:S.s.heap.FunFrames (eE S.s.heap (et fs++ex)) fs:=ug S.kinds fun a h=>⟨r7 (List.mem_append_left _ h),(S.frames a h).2.2⟩
end
section
variable{env:Env}{S:St (env::fs)}{h₀:Heap}{e:Addr}{A:Around}{E:Value->Shared->Prop}(hA:A.frames=some (env::fs))(hf:env.frame=some env.locals)(live:∀b,S.h b=none->h₀.get? b=none)
include hA hf live
theorem AF{K:aa->Prop}{Q:Unit->Shared->Prop}(x:qf env.locals h₀ S e)(hk:K S.c)(ok:∀(S' :St (env::fs)) ex,aQ ex S S' ->K S'.c->(∀a∈ex,h₀.get? a=none)->gj .none h₀ S' e->Q () S'.s):wpAny M0 A (leaving env (.ref e)) Q E S.s:=by
 rcases x with x|x|x
 ·refine x _ fun oe vs a0 h1 h2 h3 h4 h5 h6 h7=> ?_
  have hx:∀a∈[e],S.Al a:=bg (St.fld h7 h2 h4) di
  have h0:∀a∈[e],h₀.get? a=none:=bg h1 di
  refine wpAny_leaving_firstW (base:=eE S.s.heap (et (env::fs)++[e])) hA ox hf h2 f6 (gn (.head _)) h4 h6 h5 fun h' k=> ?_
  obtain⟨k1,k2,k3,k4⟩:=k
  exact ok (S.exc hx k1 k4) _ (.exc hx k1 k4) hk h0 (jI h0 live (.head _) (h3▸k3))
 ·refine m9 x fun t a0 hx h0 tr=> ?_
  refine wpAny_leaving_nextW (base:=eE S.s.heap (et (env::fs)++[e,t])) hA ox hf (tr _ (gn (.tail _ (.head _)))) f6 (gn (.head _)) fun h' k=> ?_
  obtain⟨k1,k2,k3,k4⟩:=k
  exact ok (S.exc hx k1 k4) _ (.exc hx k1 k4) hk h0 (jI h0 live (.head _) k3)
 ·refine m9 x fun t a0 hx h0 tr=> ?_
  have tr:=tr (eE S.s.heap (et (env::fs)++[e,t])) (gn (.tail _ (.head _)))
  unfold leaving
  refine wpAny_bind (wpAny_noteFrame_againW hf tr (wpAny_landsW (base:=eE S.s.heap (et (env::fs)++[e,t])) (l:=env::fs) ⟨f6,gn (.head _),ox,tr⟩ fun h' k k4=> ?_))
  obtain⟨k1,_,k2,k3⟩:=k
  exact ok (S.exc hx k1 k4) _ (.exc hx k1 k4) hk h0 (jI h0 live (.head _) k3)
end
theorem set_same{ts:Array Value}{i:Nat}{v:Value}(q:ts[i]? =some v):ts.setIfInBounds i v=ts:=Array.ext_getElem? fun j=>by
 rw[Array.getElem?_setIfInBounds]
 split
 ·rename_i h
  rw[<-h,q,if_pos (Array.getElem?_eq_some_iff.mp q).1]
 ·rfl
theorem r9{h:Heap}{t:Addr}{oT:Obj}{ts:Array Value}{i:Nat}{v:Value}(e:h.get? t=some oT)(d:oT.data= .fields ts)(q:ts[i]? =some v)(b:Addr):(h.update t (Obj.mapFields (·.setIfInBounds i v))).get? b=h.get? b:=Classical.byCases (fun hb:b=t=>by
 have hm:Obj.mapFields (·.setIfInBounds i v) oT=oT:=by
  obtain⟨c,dd,dt,sl⟩:=oT
  cases d
  exact congrArg (fun x=>Obj.mk c dd (.fields x) sl) (set_same q)
 rw[hb,Heap.get?_update_self _ e (by rw[hm];exact Obj.isFreed_of_fields d),hm,e]) fun hb=>Heap.get?_update_other _ _ (Ne.symm hb)
section
variable{env:Env}{S:St (env::fs)}{h₀:Heap}{e:Addr}{A:Around}{E:Value->Shared->Prop}(hf:env.frame=some env.locals)(live:∀b,S.h b=none->h₀.get? b=none){K:aa->Prop}(hk:K S.c)(ok:∀(S' :St (env::fs)) ex,aQ ex S S' ->K S'.c->(∀a∈ex,h₀.get? a=none)->gj (rawInt env.locals) h₀ S' e->E (.ref e) S'.s)
include hf live hk ok
theorem qh{ex:List Addr}{h' :Heap}(hx:∀a∈ex,S.Al a)(h0:∀a∈ex,h₀.get? a=none)(he:e∈ex)(k1:(eE S.s.heap (et (env::fs)++ex)).StaysIn h')(k3:h'.TracedAtW (eE S.s.heap (et (env::fs)++ex)) e (.ref ad) a0 (rawInt env.locals))(k4:S.s.heap.UpToSlots h'):cameBackBy M0 A env E (.ref e) {S.s with heap:=h' }:=by
 obtain⟨oe,vs,T,oT,ts,q1,q2,q4,q5,q6,q7,q8,q9,Ph⟩:=k3
 unfold cameBackBy
 refine wpAny_bind (wpAny_field q1 q4 q5 ?_)
 rw[if_neg (show¬((Value.ref T==Value.none)=true)from Bool.false_ne_true)]
 unfold setFlight
 refine wpAny_bind (wpAny_field q1 q4 q5 ?_)
 rw[if_pos (show(Value.ref T !=Value.none)=true from rfl),hf]
 refine wpAny_setField q8 q9 (Array.getElem?_eq_some_iff.mp Ph).1 ?_
 show E (.ref e) {S.s with heap:=h'.update T (Obj.mapFields (·.setIfInBounds 3 (rawInt env.locals)))}
 have hs:=r9 q8 q9 Ph
 generalize h'.update T _=TY at hs⊢
 have X2:(eE S.s.heap (et (env::fs)++ex)).StaysIn TY:=fun b o q=>(hs b).trans (k1 b o q)
 have X3:S.s.heap.UpToSlots TY:=fun b o q p=>(k4 b o q p).imp fun sl q=>(hs b).trans q
 exact ok (S.exc hx X2 X3) _ (.exc hx X2 X3) hk h0 (jI h0 live he ⟨oe,vs,T,oT,ts,(hs e).trans q1,q2,q4,q5,q6,q7,(hs T).trans q8,q9,Ph⟩)
theorem AG(hA:A.frames=some (env::fs))(x:qf env.locals h₀ S e):notedBy M0 A env (cameBackBy M0 A env E) (.ref e) S.s:=by
 unfold notedBy
 rcases x with x|x|x
 ·refine x _ fun oe vs a0 h1 h2 h3 h4 h5 h6 h7=> ?_
  unfold noteFrame
  rw[hf]
  refine wpAny_bind (wpAny_field h2 h4 h6 ?_)
  rw[if_neg (show¬((Value.none !=Value.none)=true) by decide)]
  refine wpAny_entryW (base:=eE S.s.heap (et (env::fs)++[e])) hA ox hf h2 f6 (gn (.head _)) h4 (Array.getElem?_eq_some_iff.mp h6).1 h5 fun h' k=> ?_
  obtain⟨k1,k2,k3,k4⟩:=k
  exact qh hf live hk ok (bg (St.fld h7 h2 h4) di) (bg h1 di) (.head _) k1 (h3▸k3) k4
 ·refine m9 x fun t a0 hx h0 tr=>wpAny_noteFrame_onW (base:=eE S.s.heap (et (env::fs)++[e,t])) hA ox hf (tr _ (gn (.tail _ (.head _)))) f6 (gn (.head _)) fun h' k=> ?_
  obtain⟨k1,k2,k3,k4⟩:=k
  exact qh hf live hk ok hx h0 (.head _) k1 k3 k4
 ·refine m9 x fun t a0 hx h0 tr=> ?_
  have tr:=tr (eE S.s.heap (et (env::fs)++[e,t])) (gn (.tail _ (.head _)))
  exact wpAny_noteFrame_againW hf tr (qh hf live hk ok hx h0 (.head _) f6 tr fun b o q _=>⟨o.slots,q⟩)
end
noncomputable def Fe:Prop:=∀(A:Around) (s:Shared) (e:Addr) (oe:Obj) (Q:Bool->Shared->Prop) (E:Value->Shared->Prop) (H:Heap),Bs H->H.StaysIn s.heap->s.heap.get? e=some oe->oe.cls= .ref ad->Q true s->wpAny M0 A (excMatches (.ref e) (.ref ad)) Q E s
theorem KP{k:NK}(h:vb k=true):k= .va:=by induction k<;>first|rfl|exact nomatch h
theorem Pi{t:T}{a:Nat}(h:TR t=some a):t= .gl a:=by
 cases t with
 |gl b=>exact congrArg T.gl (Option.some.inj h)
 |_=>exact nn h
theorem AH{x:Cx}{y:Str}{G:Prop}(h:rj x y=true)(g:x.glob y=some (.gl ad)->bp x.scope y= .va->(y==Str.ofString "__debug__")=false->G):G:=by
 refine cz (P:=fun b=>b=true->G) (fun a e h=>am h fun h h3=>am h fun h1 h2=> ?_) (fun h=>ft h) h
 exact ae e fun t e1 e2=>g (by rw[e1,Pi e2,Nat.eq_of_beq_eq_true h1]) (KP h2) (dW h3)
section
variable{env:Env}{S:St (env::fs)}{h₀:Heap}{e:Addr}{A:Around}{x:Cx}{E:Value->Shared->Prop}(hX:Fe)(hA:A.frames=some (env::fs))(hf:env.frame=some env.locals)(g:gR x.glob)(hE:bx x.scope env)
include hX hA hf g hE
theorem AI{K:aa->Prop}{y:Str}{np pos:Pos}{nV:Stmt}{Q:Flow->Shared->Prop}(xe:gj .none h₀ S e)(yQ:rj x y=true)(hk:K S.c)(ok:∀(S' :St (env::fs)) ex,aQ ex S S' ->K S'.c->(∀a∈ex,h₀.get? a=none)->wpAny M0 (A.mark (some (.ref e))) (execs [nV] env) Q (fun _ _=>False) S'.s):
  wpAny M0 A (noteFrame (.ref e) env) (fun _ s₂=>wpAny M0 A (setFlight (.ref e) none) (fun _ s₃=>wpAny M0 A (handleBy (.ref e) env [.ExceptHandler (some (.Name y np)) none [nV] pos]) Q E s₃) E s₂) E S.s:=m9 xe fun t a0 hx h0 tr=>AH yQ fun hg Zg hd=>by
 refine wpAny_noteFrame_onW (base:=eE S.s.heap (et (env::fs)++[e,t])) hA ox hf (tr _ (gn (.tail _ (.head _)))) f6 (gn (.head _)) fun h' k=> ?_
 obtain⟨k1,k2,k3,k4⟩:=k
 refine wpAny_landsW (base:=eE S.s.heap (et (env::fs)++[e,t])) (l:=env::fs) (cls:= .ref ad) (a0:=a0) (L:=env.locals) ⟨k1,gn (.head _),k2,k3⟩ fun h₂ f₂ u₂=> ?_
 have u₂:=Heap.UpToSlots.trans k4 u₂
 have up:=f₂.1
 obtain⟨oe,ER,Ag⟩:=f₂.there
 refine wpAny_handleBy_cons (codeAny_handlers_test ?_) (fun q=>nomatch q)
 refine wpAny_Name (jD (S:=S.exc hx f₂.1 u₂) g hE hg (hE.glob y Zg) fun v' r=> ?_) hd
 cases (r:v' = .ref ad)
 refine(S.exc hx f₂.1 u₂).at fun H hH _ st=>hX _ _ e oe _ _ H hH st ER Ag (codeAny_handlers_suite ?_)
 refine lands_againW (base:=eE S.s.heap (et (env::fs)++[e,t])) (l:=env::fs) (cls:= .ref ad) (a0:=a0) f₂ fun h₃ f₃ u₃=> ?_
 have u₃:=Heap.UpToSlots.trans u₂ u₃
 exact wpAny_mono (ok (S.exc hx f₃.1 u₃) _ (.exc hx f₃.1 u₃) hk h0) (fun f s' hq=>hq) fun _ _ z=>z.elim
end
theorem kK{α:Type}{a:α}{C:List α->Prop}{l:List α}(h:one l=some a)(k:C [a]):C l:=by
 induction l with
 |nil=>exact nn h
 |cons x l=>
  induction l with
  |nil=>exact so (P:=fun a=>C [a]->C [x]) h (fun k=>k) k
  |cons=>exact nn h
theorem qi{α:Type}{C:List α->Prop}{l:List α}(h:l.isEmpty=true)(k:C []):C l:=by
 induction l with
 |nil=>exact k
 |cons=>exact ft h
theorem KQ{C:Stmt->Prop}{body:List Stmt}{hs:List ExceptHandler}{orelse fin:List Stmt}{q:Str×Stmt×Stmt}(h:pw body hs orelse fin=some q)(k:∀np hp,C (.Try [q.2.1] [.ExceptHandler (some (.Name q.1 np)) none [q.2.2] hp] [] [] pos)):C (.Try body hs orelse fin pos):=
 aE h fun h1 h=>am h1 fun h1 h2=>qi (C:=fun l=>C (.Try body hs l fin pos)) h1 (qi (C:=fun l=>C (.Try body hs [] l pos)) h2 (ae h fun st e1 h=>kK (C:=fun l=>C (.Try l hs [] [] pos)) e1 (ae h fun hd e2 h=>kK (C:=fun l=>C (.Try [st] l [] [] pos)) e2 (by
  obtain⟨ty,nm,hb,hp⟩:=hd
  induction nm with
  |some=>exact nn h
  |none=>
   induction ty with
   |none=>exact nn h
   |some e=>exact ae (o:=bv e) h fun y e3 h=>ec (C:=fun e=>C (.Try [st] [.ExceptHandler (some e) none hb hp] [] [] pos)) e3 fun np=>ae h fun nV e4 h=>kK (C:=fun l=>C (.Try [st] [.ExceptHandler (some (.Name y np)) none l hp] [] [] pos)) e4 (by cases Option.some.inj h;exact k np hp)))))
theorem Pj{C:Stmt->Prop}{st:Stmt}{r:Option Str×Expr}(h:zt st=some r)(h1:r.1=none->∀p,C (.Return (some r.2) p))(h2:∀y,r.1=some y->∀np p,C (.Assign [.Name y np] r.2 p)):C st:=by
 cases st with
 |Return e p=>exact ae (o:=e) h fun e' e1 h=>by cases e1;cases Option.some.inj h;exact h1 rfl p
 |Assign ts e p=>exact ae (o:=lZ ts) h fun y e1 h=>ae e1 fun t e2 e3=>kK (C:=fun ts=>C (.Assign ts e p)) e2 (ec (C:=fun t=>C (.Assign [t] e p)) e3 fun np=>by cases Option.some.inj h;exact h2 y rfl np p)
 |_=>exact nn h
theorem vJ{C:Expr->Prop}{e:Expr}(h:pu e=true)(k:∀u p,C (.Constant .none u p)):C e:=by
 cases e with
 |Constant v u p=>
  induction v with
  |none=>exact k u p
  |_=>exact ft h
 |_=>exact ft h
section
variable{fs:List Env}{A:Around}{env:Env}{x:Cx}(hE:bx x.scope env)
include hE
theorem Ff{S:St fs}{l:Loc}{nV:Stmt}{k:Ko}{out:Oc}{Q:Flow->Shared->Prop}{E:Value->Shared->Prop}(L:Lc S env l)(h:vf x.scope nV l S.c k=some out)(ok:NS S env k out Q):wpAny M0 A (execs [nV] env) Q E S.s:=by
 refine wpAny_execs_cons ?_
 cases nV with
 |Return e p=>exact ae (o:=e) h fun e' e1 h=>aE h fun h1 h=>e1▸vJ (C:=fun e=>wpAny M0 A (exec (.Return (some e) p) env) _ E S.s) h1 fun u p' =>wpAny_Return_some (wpAny_pure (ok (.ret (.t .none)) (.ret .none) S l .refl L (fun G g=>g _ rfl) h))
 |Assign ts e p=>
  exact ae (o:=lZ ts) h fun y e1 h=>aE h fun h1 h=>ae h fun l' e4 h=>ae e1 fun t e2 e3=>kK (C:=fun ts=>wpAny M0 A (exec (.Assign ts e p) env) _ E S.s) e2 (ec (C:=fun t=>wpAny M0 A (exec (.Assign [t] e p) env) _ E S.s) e3 fun np=>vJ (C:=fun e=>wpAny M0 A (exec (.Assign [.Name y np] e p) env) _ E S.s) h1 fun u p' =>
   wpAny_Assign_Name (wpAny_pure (fY (v:= .t .none) (K:=fun c=>k .next l' c=some out) hE ⟨.head _,fun _ _ _ h=>h⟩ L e4 rfl h fun S₁ x₁ L₁ h=>wpAny_execs_nil (ok .next .next S₁ l' x₁ L₁ rfl h))))
 |_=>exact nn h
end
section
variable{fs:List Env}{A:Around}{env:Env}{x:Cx}{ev:Em}{S:St (env::fs)}{l:Loc}(hX:Fe)(hA:A.frames=some (env::fs))(hf:env.frame=some env.locals)(g:gR x.glob)(hE:bx x.scope env)(H:iz (env::fs) A env ev)(L:Lc S env l)
theorem Lc.apart{S₀:St Z2}{ex:List Addr}(L:Lc S₀ env l)(h:∀a∈ex,S₀.s.heap.get? a=none):∀z∈aZ env,z∉ex:=fun z hz q=>(L.fX z hz).2.not (h z q)
include hX hA hf g hE H L
theorem AJ{e:Expr}{y:Str}{np hp:Pos}{nV:Stmt}{k:Ko}{kk:V->aa->aq}{out:Oc}{Q:Flow->Shared->Prop}{E:Value->Shared->Prop}{Q₀:Value->Shared->Prop}(yQ:rj x y=true)(h:ev e l S.c kk (fun c=>vf x.scope nV l c k)=some out)(ok:NS S env k out Q)(Zh:It S rV kk out Q₀):
  wpAny M0 A (eval e env) Q₀ (fun e₁ s₁=>wpAny M0 A (noteFrame e₁ env) (fun _ s₂=>wpAny M0 A (setFlight e₁ none) (fun _ s₃=>wpAny M0 A (handleBy e₁ env [.ExceptHandler (some (.Name y np)) none [nV] hp]) Q E s₃) E s₂) E s₁) S.s:=
 H e S l L kk _ out _ _ h Zh fun e₁ S₁ x₁ fl h=>AI (h₀:=S.s.heap) (K:=fun c=>vf x.scope nV l c k=some out) hX hA hf g hE fl yQ h fun S₂ ex x₂ h n=>
  have x:=x₁.jE x₂ n
  Ff hE ((L.ext x₁).move x₂ (L.apart n)) h (ok.after x.wide)
theorem KR{body:List Stmt}{hs:List ExceptHandler}{orelse fin:List Stmt}{pos:Pos}:bc S env (jt (pw body hs orelse fin) fun q=>OB x ev q l S.c) (wpAny M0 A (exec (.Try body hs orelse fin pos) env)):= .opt fun q e1=> .eU fun yQ=> .opt fun r e2=> .eU fun hc k out Q E e ok ex=>by
 refine KQ (C:=fun s=>wpAny M0 A (exec s env) Q E S.s) e1 fun np hp=>wpAny_Try_except (wpAny_execs_cons ?_)
 generalize q.2.1=st at e2⊢
 apply Pj e2
 ·intro q p
  rw[q]at e
  exact wpAny_Return_some (AJ hX hA hf g hE H L yQ e ok fun v v' S₁ x₁ r h=>ok (.ret v) (.ret v') S₁ l x₁.wide (L.ext x₁) (fun G g=>g v' r) h)
 ·intro y q np p
  rw[q]at e hc
  exact wpAny_Assign_Name (AJ hX hA hf g hE H L yQ e ok fun v v' S₁ x₁ r h=>ae h fun l' e4 h=>fY (K:=fun c=>k .next l' c=some out) hE ⟨.head _,fun _ _ _ h=>h⟩ (L.ext x₁) e4 r h fun S₂ x₂ L₂ h=>wpAny_execs_nil (wpAny_execs_nil (ok .next .next S₂ l' (x₁.wide.trans x₂) L₂ rfl h))) (f5 (dW hc) _ _)
end
theorem Fg(e:iu v=some t)(r:bE B σ v u):ao B (.str t) u:=fb e r fun x _ e2 r=>pI e2▸r
structure oy(d:Nat):Prop where
 Pk:Fe
 call:∀{fs A} {S:St fs} {t v'} {K:aa->Prop} {Q:Value->Shared->Prop} {E},bu d fs A->ao S.B (.str t) v' ->K S.c->(∀(S' :St fs) e,aQ [] S S' ->K S'.c->m5 S.s.heap S' e->Q (.ref e) S'.s)->wpAny M0 A (call (.ref ad) [v']) Q E S.s
 keep:fg (.ref ad)
 raise:∀{fs A s env E} {x:Sem Value} {Q:Flow->Shared->Prop},A.handled=none->wpAny M0 A x (fun v s₁=>∀G:Prop,(∀(S₁:St fs) h₀ e,v= .ref e->s₁=S₁.s->m5 h₀ S₁ e->E (.ref e) S₁.s->G)->G) E s->wpAny M0 A (raiseStmt env (some x) none) Q E s
section
variable{fs:List Env}{A:Around}{env:Env}{x:Cx}{ev:Em}{S:St fs}{l:Loc}(Rm:bu d fs A)(er:oy d)(g:gR x.glob)(hE:bx x.scope env)(H:iz fs A env ev)(L:Lc S env l)
include Rm er g hE H L
theorem AK{exc cause:Option Expr}{pos:Pos}:bc S env (zu x ev exc cause l S.c) (wpAny M0 A (exec (.Raise exc cause pos) env)):= .eU fun h1=> .opt fun p e1=> .opt fun a e2=> .eU fun h2=>am h2 fun yQ hp k out Q E e ok ex=>by
 induction cause with
 |some=>exact ft h1
 |none=>
  refine ae e1 fun e' e3 e4=>AH yQ fun hg hk hd=> ?_
  cases e3
  refine vA (C:=fun e' =>wpAny M0 A (exec (.Raise (some e') none pos) env) Q E S.s) e4 fun np KS=>kK (C:=fun es=>wpAny M0 A (exec (.Raise (some (.Call (.Name p.1 np) es [] KS)) none pos) env) Q E S.s) e2 ?_
  show wpAny M0 A (standAt pos>>=fun _=>raiseStmt env (some (eval (.Call (.Name p.1 np) [a] [] KS) env>>=fun v=>standAt pos>>=fun _=>pure v)) none) Q E S.s
  refine wpAny_bind (wpAny_standAt (er.raise (fs:=fs) Rm.handled (wpAny_bind ?_)))
  rw[call_plain rfl]
  refine wpAny_bind (wpAny_Name (jD (S:=S) g hE hg (hE.glob p.1 hk) fun v' r=> ?_) hd)
  cases (r:v' = .ref ad)
  have hf:kg [a]=true:=by unfold kg;rw[List.all_cons,hp];rfl
  refine eW hf (kG H KS (fh hf fun _ h=>h) L (fun vs c=>ob (one vs) fun v=>ob (iu v) fun _=>k .exc l c) (fun _=>none) out _ E ?_ (fun vs us S₁ x₁ r₁ h=> ?_) fun _ _ _ _ e=>nn e)
  ·exact e
  ·refine⟨pZ er.keep,ae h fun v q h=> ?_⟩
   apply gO q r₁.1
   exact fun u r=>ae h fun t q2 h=>er.call (K:=fun c=>k .exc l c=some out) Rm (Fg q2 r) h fun S₂ e₂ x₂ hk m=>wpAny_bind (wpAny_standAt (wpAny_pure fun G gg=>gg S₂ S₁.s.heap e₂ rfl rfl m (ex e₂ S₂ l (x₁.trans x₂).wide (L.ext (x₁.trans x₂)) ((qf.start (L:=env.locals) (.inl m)) fun b=>x₁.live b List.not_mem_nil) hk)))
end
section
variable{fs:List Env}{A:Around}{env:Env}{S:St (env::fs)}{l₀:Loc}{k:Ko}{out:Oc}(hA:A.frames=some (env::fs))(hf:env.frame=some env.locals)(L₀:Lc S env l₀)
include hA hf L₀
theorem na{S₁:St (env::fs)}{l:Loc}{E:Value->Shared->Prop}(ex:KI S env k out E)(X:aQ (aZ env) S S₁)(L:Lc S₁ env l)(z:qf env.locals S.s.heap S₁ e)(h:k .exc l S₁.c=some out):notedBy M0 A env (cameBackBy M0 A env E) (.ref e) S₁.s:=
 AG hf (L.live X) (K:=fun c=>k .exc l c=some out) h (fun S' Zi x' hk n fl=>ex e S' l (X.jE x' n) (L.move x' (L₀.apart n)) (.inr (.inr fl)) hk) hA z
noncomputable def NI(S:St (env::fs))(te:Te)(ex:Ex)(test:Expr)(body:List Stmt)(k:Ko)(out:Oc)(m:Nat)(s:Shared):Prop:=∀G:Nat->Shared->Prop,(∀m (S₁:St (env::fs)) l,mM te ex test body m l S₁.c k=some out->aQ (aZ env) S S₁->Lc S₁ env l->G m S₁.s)->G m s
theorem AL{te:Te}{AN:List Stmt->Loc->aa->SM}{test:Expr}{body:List Stmt}{m:Nat}{pos:Pos}(Ht:pV (env::fs) A env te)(HB:xM (env::fs) A env AN):bc S env (mM te AN test body m l₀ S.c) (wpAny M0 A (exec (.While test body [] pos) env)):=fun k out Q E e ok ex=>by
 refine wpAny_While (codeAny_whileLoop (NI S te AN test body k out) (fun m s hI=> ?_) m fun G g=>g m S l₀ e .refl L₀)
 apply hI
 intro m S₁ l₁ h₁ X₁ L₁
 induction m with
 |zero=>exact nn h₁
 |succ m=>
  refine Ht test S₁ l₁ L₁ _ _ out _ _ h₁ (fun b b' S₂ x₂ eb h₂=> ?_) fun e S' y z h=>na hA hf L₀ ex (X₁.trans y.wide) (L₁.ext y) ((qf.start (L:=env.locals) (.inr (.inl z))) (L₁.live X₁)) h
  cases (eb:b=b')
  have L₂:=L₁.ext x₂
  have X₂:=X₁.trans x₂.wide
  induction b with
  |false=>exact(if_neg Bool.false_ne_true).mpr (wpAny_execs_nil (ok .next .next S₂ l₁ X₂ L₂ rfl h₂))
  |true=>
   refine(if_pos rfl).mpr (HB body S₂ l₁ L₂ _ out _ _ h₂ (fun o f S₃ l₃ x₃ L₃ r h₃=> ?_) fun e S' l' y L' z h=>na hA hf L₀ ex (X₂.trans y) L' (z.start (L₂.live X₂)) h)
   have X₃:=X₂.trans x₃
   induction o with
   |next=>cases (r:f= .next);exact⟨m,Nat.lt_succ_self m,fun G g=>g m S₃ l₃ h₃ X₃ L₃⟩
   |cont=>cases (r:f= .cont);exact⟨m,Nat.lt_succ_self m,fun G g=>g m S₃ l₃ h₃ X₃ L₃⟩
   |brk=>cases (r:f= .brk);exact ok .next .next S₃ l₃ X₃ L₃ rfl h₃
   |ret v=>
    apply(r:∀G:Flow->Prop,(∀v',S₃.R v v' ->G (.ret v'))->G f)
    exact fun v' r=>ok (.ret v) (.ret v') S₃ l₃ X₃ L₃ (fun G g=>g v' r) h₃
   |exc=>exact r.elim
end
section
variable{fs:List Env}{A:Around}{env:Env}{x:Cx}{S:St (env::fs)}{l₀:Loc}(hA:A.frames=some (env::fs))(hf:env.frame=some env.locals)(L₀:Lc S env l₀)(Rm:bu d (env::fs) A)(hE:bx x.scope env)
noncomputable def U6(A:Around)(S:St (env::fs))(sc:Scope)(ex:Ex)(tg:Expr)(body:List Stmt)(pr:Bool)(J:Addr)(k:Ko)(out:Oc)(m:Nat)(s:Shared):Prop:=∀G:Nat->Shared->Prop,(∀(S₁:St (env::fs)) xs l,Walk A S S₁ (aZ env) pr J xs->bM sc ex tg body xs l S₁.c k=some out->aQ (aZ env) S S₁->Lc S₁ env l->G xs.length S₁.s)->G m s
theorem sa{S₁ S' :St (env::fs)}{l:Loc}{G:Prop}(st:Step S S₁ S' (aZ env))(X:aQ (aZ env) S S₁)(L:Lc S₁ env l)(g:aQ (aZ env) S S' ->Lc S' env l->G):G:=st G fun W y hW=>g (X.jE y fun b q=>(hW b q).2) (L.move y fun z hz q=>(hW z q).1 hz)
include hA hf L₀ Rm hE
theorem KT{sr:Expr->Loc->aa->EM (Bool×List T)}{AN:List Stmt->Loc->aa->SM}{tg it:Expr}{body:List Stmt}{pos:Pos}(HR:Pe (env::fs) A env sr)(set:∀e l c k kx out,sr e l c k kx=some out->isSet e=false)(HB:xM (env::fs) A env AN):
  bc S env (yL (sr it l₀ S.c) l₀ fun p c=>gG (!(p.1&& !isTup tg)) (bM x.scope AN tg body p.2 l₀ c)) (wpAny M0 A (exec (.For tg it body [] pos) env)):=fun k out Q E e ok ex=>by
 refine wpAny_For ?_ (fold_plain (set _ _ _ _ _ _ e))
 refine HR it S l₀ L₀ _ _ out _ E e (fun p U5 S₁ x₁ w e=>aE e fun hp e=> ?_) (ex.exp L₀)
 have hp:=fun q=>Aw hp q
 apply w
 intro J W hl
 refine codeAny_forLoop_any (U6 A S x.scope AN tg body p.1 J k out) (fun m s hI=> ?_) p.2.length fun G g=>g S₁ p.2 l₀ W e x₁.wide (L₀.ext x₁)
 apply hI
 intro S₁ xs l₁ W h₁ X₁ L₁
 induction xs with
 |nil=>exact W.done (K:=fun c=>k .next l₁ c=some out) h₁ fun S' st hk=>sa st X₁ L₁ fun X' L' =>wpAny_execs_nil (ok .next .next S' l₁ X' L' rfl hk)
 |cons t xs=>
  refine ae h₁ fun l' e1 h=>W.next (K:=fun c=>AN body l' c (gH (fun l c=>bM x.scope AN tg body xs l c k) k)=some out) (tg:=tg) h hp (fun v s₁ q=>q) fun v S' st hk W' iv=>sa st X₁ L₁ fun X' L' => ?_
  refine rQ (K:=fun c=>AN body l' c (gH (fun l c=>bM x.scope AN tg body xs l c k) k)=some out) hE ⟨.head _,fun _ _ _ h=>h⟩ Rm L' e1 hp iv hk fun S₂ x₂ L₂ h₂=> ?_
  have X₂:=X'.trans x₂
  refine HB body S₂ l' L₂ _ out _ _ h₂ (fun o f S₃ l₃ x₃ L₃ r h₃=> ?_) fun e S' l' y L' z h=>na hA hf L₀ ex (X₂.trans y) L' (z.start (L₂.live X₂)) h
  have X₃:=X₂.trans x₃
  have W₃:=W'.ext (x₂.trans x₃)
  induction o with
  |next=>cases (r:f= .next);exact⟨xs.length,Nat.lt_succ_self _,fun G g=>g S₃ xs l₃ W₃ h₃ X₃ L₃⟩
  |cont=>cases (r:f= .cont);exact⟨xs.length,Nat.lt_succ_self _,fun G g=>g S₃ xs l₃ W₃ h₃ X₃ L₃⟩
  |brk=>cases (r:f= .brk);exact ok .next .next S₃ l₃ X₃ L₃ rfl h₃
  |ret v=>
   apply(r:∀G:Flow->Prop,(∀v',S₃.R v v' ->G (.ret v'))->G f)
   exact fun v' r=>ok (.ret v) (.ret v') S₃ l₃ X₃ L₃ (fun G g=>g v' r) h₃
  |exc=>exact r.elim
end
section
variable{fs:List Env}{A:Around}{env:Env}{x:Cx}(hA:A.frames=some (env::fs))(hf:env.frame=some env.locals)(Rm:bu d (env::fs) A)(g:Go d x.tab x.glob x.cw)(er:oy d)(hE:bx x.scope env)
include hA hf Rm g er hE
theorem xP{Z:ve}{X:Xs}(H:KH (env::fs) A env x Z)(HB:xM (env::fs) A env (X.B x)):KN (env::fs) A env (zv x Z X):=fun s S l L=>by
 cases s with
 |Expr e pos=>exact .eU fun hc=> .rule (fun Q E s q=>wpAny_Expr_any q (by unfold interactive;rw[hE.kind];rfl) (f5 (dW hc) _ _)) (.do L (H.E e S l L) fun v v' S₁ x₁ L₁ r₁=> .out L₁ rfl fun _ _ q=>q)
 |Pass pos=>exact .out L rfl fun _ _=>wpAny_Pass
 |Continue pos=>exact .out L rfl fun _ _=>wpAny_Continue
 |Return e pos=>
  induction e with
  |none=>exact .out (f:= .ret .none) L (fun G g=>g _ rfl) fun _ _=>wpAny_Return_none
  |some e=>exact .rule (fun _ _ _=>wpAny_Return_some) (.do L (H.E e S l L) fun v v' S₁ x₁ L₁ r₁=> .out L₁ (fun G g=>g _ r₁) fun _ _ q=>q)
 |Assign ts e pos=>exact xO Rm g hE H L
 |If t a b pos=>exact .rule (fun _ _ _=>wpAny_If) (.Zb L (H.T t S l L) fun b S₁ x₁ L₁=> .ite (fun h=> .rule (fun _ _ _ q=>(if_pos h).mpr q) (HB _ S₁ l L₁)) fun h=> .rule (fun _ _ _ q=>by cases h;exact q) (HB _ S₁ l L₁))
 |While t body orelse pos=>exact .eU fun h=>qi (C:=fun l' =>bc S env _ (wpAny M0 A (exec (.While t body l' pos) env))) h (AL hA hf L H.T HB)
 |For tg it body orelse pos=>exact .eU fun h=>qi (C:=fun l' =>bc S env _ (wpAny M0 A (exec (.For tg it body l' pos) env))) h (KT hA hf L Rm hE H.S H.set HB)
 |Raise exc cause pos=>exact AK Rm er g.glob hE H.E L
 |Try body hs orelse fin pos=>exact KR er.Pk hA hf g.glob hE H.E L
 |_=>exact .fail
theorem Fh{n:Nat}:KN (env::fs) A env ((NM n).S x)/\xM (env::fs) A env ((NM n).B x):=by
 induction n with
 |zero=>exact⟨fun _ _ _ _=> .fail,fun _ _ _ _=> .fail⟩
 |succ n ih=>exact⟨xP hA hf Rm g er hE (Pf Rm x env g hE) ih.2,KO ih.1 ih.2⟩
end
theorem eH:∀(l:List (Str×Value)) (slots:List (Str×Value)),
  (forIn l slots fun(p:Str×Value) (r:List (Str×Value))=>(if(r.lookup p.1).isNone=true then pure (ForInStep.yield (r++[(p.1,p.2)]))else pure (ForInStep.yield r):Sem (ForInStep (List (Str×Value)))))=
   pure (l.foldl (fun r p=>if(r.lookup p.1).isNone=true then r++[(p.1,p.2)]else r) slots)
 |[],slots=>by simp
 |p::l,slots=>by
  rw[List.forIn_cons,List.foldl_cons]
  split
  ·simp only[pure_bind];exact eH l _
  ·simp only[pure_bind];exact eH l _
theorem xQ{ns:List Str}{vals ds:List Value}{binds:List (Str×Value)}(h:bindG ns vals ds=some binds):¬vals.length>ns.length/\
  ¬(!((ns.take (ns.length-(ds.drop (ds.length-ns.length)).length)).filter fun n=>((ns.zip vals).lookup n).isNone).isEmpty)=true/\
  ns.filterMap (fun n=>((((ns.drop (ns.length-(ds.drop (ds.length-ns.length)).length)).zip (ds.drop (ds.length-ns.length))).foldl (fun r p=>if(r.lookup p.1).isNone=true then r++[(p.1,p.2)]else r) (ns.zip vals)).lookup n).map (n,·))=binds:=by
 unfold bindG at h
 by_cases h1:vals.length>ns.length
 ·rw[if_pos h1]at h;exact nn h
 ·rw[if_neg h1]at h
  refine⟨h1,?_⟩
  split at h
  ·exact nn h
  ·rename_i h2
   exact⟨h2,Option.some.inj h⟩
theorem Fi{AO:Value}{ds:List Value}{s:Shared}{M:Model}{A:Around}{E:Value->Shared->Prop}(hd:(AO= .none/\ds=[])\/∃T o n,AO= .ref T/\s.heap.get? T=some o/\o.data= .seq ds.toArray n):
  ∃U7:Option (Array Value),(U7.getD #[]).toList=ds/\wpAny M A (seqItems? AO) (fun r s' =>r=U7/\s' =s) E s:=by
 rcases hd with⟨rfl,rfl⟩|⟨T,o,n,rfl,ho,Zj⟩
 ·exact⟨none,rfl,wpAny_pure ⟨rfl,rfl⟩⟩
 ·exact⟨some ds.toArray,List.toList_toArray,wpAny_seqItems ho Zj ⟨rfl,rfl⟩⟩
theorem nb{as:List Arg}{AO:List Expr}{vals:List Value}{fd:FuncData}(hp:fd.params=⟨[],as,none,[],[],none,AO⟩):
  ∃(e1 e2:Option (Array Value)->Sem (List (Str×Value))) (f:Str->List (Str×Value)×List Str->Sem (ForInStep (List (Str×Value)×List Str))) (t:List (Str×Value)×List Str->Sem (List (Str×Value))),(bindArgs fd ⟨vals,[]⟩=seqItems? fd.defaults>>=fun o=>
   if(decide (vals.length>(as.map (·.arg)).length)&&(none:Option Arg).isNone)=true then e1 o else
   if(!(((as.map (·.arg)).take ((as.map (·.arg)).length-((o.getD #[]).toList.drop ((o.getD #[]).toList.length-(as.map (·.arg)).length)).length)).filter fun n=>(((as.map (·.arg)).zip vals).lookup n).isNone).isEmpty)=true then e2 o else
   (forIn (((as.map (·.arg)).drop ((as.map (·.arg)).length-((o.getD #[]).toList.drop ((o.getD #[]).toList.length-(as.map (·.arg)).length)).length)).zip ((o.getD #[]).toList.drop ((o.getD #[]).toList.length-(as.map (·.arg)).length))) ((as.map (·.arg)).zip vals)
    fun(p:Str×Value) (r:List (Str×Value))=>(if(r.lookup p.1).isNone=true then pure (ForInStep.yield (r++[(p.1,p.2)]))else pure (ForInStep.yield r):Sem (ForInStep (List (Str×Value)))))>>=fun sl=>forIn ([]:List Str) (sl,([]:List Str)) f>>=t)/\
   ∀sl,t (sl,[])=pure ((as.map (·.arg)).filterMap fun n=>(sl.lookup n).map (n,·)):=by
 obtain⟨a1,a2,a3,a4,a5,a6⟩:=fd
 cases hp
 exact⟨_,_,_,_,rfl,fun sl=>congrArg (fun l=>(pure (l.filterMap fun n=>(sl.lookup n).map (n,·)):Sem _)) (List.append_nil (as.map (·.arg)))⟩
theorem xR{as:List Arg}{AO:List Expr}{vals ds:List Value}{fd:FuncData}{s:Shared}{binds:List (Str×Value)}(hp:fd.params=⟨[],as,none,[],[],none,AO⟩)
  (hd:(fd.defaults= .none/\ds=[])\/∃T o n,fd.defaults= .ref T/\s.heap.get? T=some o/\o.data= .seq ds.toArray n) (h:bindG (as.map (·.arg)) vals ds=some binds):BindsTo s fd ⟨vals,[]⟩ binds:=by
 obtain⟨h1,h2,rfl⟩:=xQ h
 intro M A E Q hq
 obtain⟨U7,Zk,hw⟩:=Fi (M:=M) (A:=A) (E:=E) hd
 subst Zk
 have e1:¬(decide (vals.length>(as.map (·.arg)).length)&&(none:Option Arg).isNone)=true:=by
  rw[decide_eq_false h1];exact Bool.noConfusion
 obtain⟨_,_,_,t,e,ht⟩:=nb (vals:=vals) hp
 rw[e]
 refine wpAny_bind (wpAny_mono hw (fun r s' hr=> ?_) fun _ _ y=>y)
 rw[hr.1,hr.2,if_neg e1,if_neg h2,eH,pure_bind,List.forIn_nil,pure_bind,ht]
 exact wpAny_pure hq
structure Rb(P:α->β->Prop)(p:Str×α)(q:Str×β):Prop where
 key:p.1=q.1
 val:P p.2 q.2
section
variable{α β:Type}{P:α->β->Prop}
theorem AP{ns:List Str}:∀{vs:List α} {us:List β},av P vs us->av (Rb P) (ns.zip vs) (ns.zip us):=by
 induction ns with
 |nil=>exact fun _=> .nil
 |cons n ns ih=>
  intro vs us h
  induction vs with
  |nil=>exact h (fun us=>av (Rb P) [] ((n::ns).zip us)) .nil
  |cons v vs=>exact h (fun us=>av (Rb P) ((n,v)::ns.zip vs) ((n::ns).zip us)) fun u r h1 h2=> .cons ⟨rfl,h1⟩ (ih h2)
theorem qj{x:Str}{C:Option α->Option β->Prop}(h0:C none none)(h1:∀v u,P v u->C (some v) (some u)){l:List (Str×α)}:∀{bs:List (Str×β)},av (Rb P) l bs->C (l.lookup x) (bs.lookup x):=by
 induction l with
 |nil=>exact fun h=>h (fun bs=>C none (bs.lookup x)) h0
 |cons p l ih=>
  refine fun h=>h (fun bs=>C ((p::l).lookup x) (bs.lookup x)) fun q r h2 h3=> ?_
  rw[List.lookup_cons,List.lookup_cons,<-h2.key]
  cases x==p.1 with
  |true=>exact h1 _ _ h2.val
  |false=>exact ih h3
theorem vK{x:Str}{l:List (Str×α)}{bs:List (Str×β)}(h:av (Rb P) l bs):(l.lookup x).isNone=(bs.lookup x).isNone:=qj (P:=P) (x:=x) (C:=fun(a:Option α) (b:Option β)=>a.isNone=b.isNone) rfl (fun _ _ _=>rfl) h
theorem Fj{m:List (Str×α)}:∀{cs:List (Str×β)} {l:List (Str×α)} {bs:List (Str×β)},av (Rb P) m cs->av (Rb P) l bs->av (Rb P) (m.foldl (fun r p=>if(r.lookup p.1).isNone=true then r++[(p.1,p.2)]else r) l) (cs.foldl (fun r p=>if(r.lookup p.1).isNone=true then r++[(p.1,p.2)]else r) bs):=by
 induction m with
 |nil=>exact fun{cs l bs} h h2=>h (fun cs=>av (Rb P) l (cs.foldl _ bs)) h2
 |cons p m ih=>
  refine fun{cs l bs} h h2=>h (fun cs=>av (Rb P) ((p::m).foldl _ l) (cs.foldl _ bs)) fun q r h3 h4=> ?_
  rw[List.foldl_cons,List.foldl_cons]
  refine ih h4 ?_
  rw[vK (x:=p.1) h2,<-h3.key]
  cases (bs.lookup p.1).isNone with
  |true=>exact .append (.cons ⟨rfl,h3.val⟩ .nil) h2
  |false=>exact h2
theorem Fk{l:List (Str×α)}{bs:List (Str×β)}(h:av (Rb P) l bs){ns:List Str}:av (Rb P) (ns.filterMap fun n=>(l.lookup n).map (n,·)) (ns.filterMap fun n=>(bs.lookup n).map (n,·)):=by
 induction ns with
 |nil=>exact .nil
 |cons n ns ih=>
  refine qj (x:=n) (C:=fun a b=>l.lookup n=a->bs.lookup n=b->_) (fun e1 e2=> ?_) (fun v u r e1 e2=> ?_) h rfl rfl
  ·rw[List.filterMap_cons_none (by rw[e1];rfl),List.filterMap_cons_none (by rw[e2];rfl)];exact ih
  ·rw[List.filterMap_cons_some (b:=(n,v)) (by rw[e1];rfl),List.filterMap_cons_some (b:=(n,u)) (by rw[e2];rfl)];exact .cons ⟨rfl,r⟩ ih
end
theorem xS{α β:Type}{P:α->β->Prop}{ns:List Str}{vs ds:List α}{us es:List β}{G:Prop}(h1:av P vs us)(h2:av P ds es){l:List (Str×α)}(h:bindG ns vs ds=some l)(g:∀bs,bindG ns us es=some bs->av (Rb P) l bs->G):G:=by
 unfold bindG at h g
 have e1:=h1.len
 have e2:=h2.len
 have z:av (Rb P) (ns.zip vs) (ns.zip us):=AP h1
 rw[e1,show(es.drop (es.length-ns.length)).length=(ds.drop (ds.length-ns.length)).length by rw[List.length_drop,List.length_drop,e2],show(fun n=>((ns.zip us).lookup n).isNone)=fun n=>((ns.zip vs).lookup n).isNone from funext fun n=>(vK z).symm]at g
 split at h
 ·exact nn h
 ·rename_i c1
  rw[if_neg c1]at g
  split at h
  ·exact nn h
  ·rename_i c2
   rw[if_neg c2]at g
   exact g _ rfl (so (P:=fun l=>av (Rb P) l _) h (e2▸Fk (Fj (AP h2.drop) z)))
theorem uh{α:Type}{f:Str->Option α}{ns:List Str}:ns.Nodup->((ns.filterMap fun n=>(f n).map (n,·)).map (·.1)).Nodup/\∀p∈(ns.filterMap fun n=>(f n).map (n,·)),p.1∈ns:=by
 induction ns with
 |nil=>exact fun _=>⟨List.nodup_nil,fun _ h=>absurd h List.not_mem_nil⟩
 |cons n ns ih=>
  intro h
  have h:=List.nodup_cons.mp h
  have i:=ih h.2
  cases q:f n with
  |none=>rw[List.filterMap_cons_none (by rw[q];rfl)];exact⟨i.1,fun p hp=> .tail _ (i.2 p hp)⟩
  |some v=>
   rw[List.filterMap_cons_some (b:=(n,v)) (by rw[q];rfl)]
   exact⟨List.nodup_cons.mpr ⟨fun hm=>(List.mem_map.mp hm).elim fun p hp=>h.1 (by rw[show n=p.1 from hp.2.symm];exact i.2 p hp.1),i.1⟩,fun p hp=>(List.mem_cons.mp hp).elim (fun e=>e▸.head _) fun hp=> .tail _ (i.2 p hp)⟩
theorem ui{α:Type}{ns:List Str}{vs ds:List α}{l:List (Str×α)}(h:bindG ns vs ds=some l)(hn:ns.Nodup):(l.map (·.1)).Nodup/\∀p∈l,p.1∈ns:=by
 unfold bindG at h
 split at h
 ·exact nn h
 ·split at h
  ·exact nn h
  ·exact so (P:=fun l=>(l.map (·.1)).Nodup/\∀p∈l,p.1∈ns) h (uh hn)
theorem xT{ko:Str->Option NameKind}{x:Str}{v:Value}(hk:ko x=some .local){bs:List (Str×Value)}:∀{m:Str->Option Value},(bs.map (·.1)).Nodup->bs.lookup x=some v\/(x∉bs.map (·.1)/\m x=some v)->bindL ko bs m x=some v:=by
 induction bs with
 |nil=>exact fun _ h=>h.elim (fun h=>nn h) fun h=>h.2
 |cons p bs ih=>
  intro m hn h
  have hn:=List.nodup_cons.mp hn
  refine ih hn.2 ?_
  rw[List.lookup_cons]at h
  by_cases e:x=p.1
  ·rw[show(x==p.1)=true from beq_iff_eq.mpr e]at h
   refine .inr ⟨e▸hn.1,?_⟩
   rw[if_pos (e▸hk),if_pos e]
   exact h.elim id fun h=>absurd (e▸.head _) h.1
  ·rw[show(x==p.1)=false from beq_eq_false_iff_ne.mpr e]at h
   refine h.imp id fun h=>⟨fun q=>h.1 (.tail _ q),?_⟩
   split
   ·exact(if_neg e).trans h.2
   ·exact h.2
theorem xU{ko:Str->Option NameKind}{x:Str}{v:Value}(hk:ko x≠some .local){bs:List (Str×Value)}:∀{m:Str->Option Value},(bs.map (·.1)).Nodup->bs.lookup x=some v\/(x∉bs.map (·.1)/\m x=some v)->bindC ko bs m x=some v:=by
 induction bs with
 |nil=>exact fun _ h=>h.elim (fun h=>nn h) fun h=>h.2
 |cons p bs ih=>
  intro m hn h
  have hn:=List.nodup_cons.mp hn
  refine ih hn.2 ?_
  rw[List.lookup_cons]at h
  by_cases e:x=p.1
  ·rw[show(x==p.1)=true from beq_iff_eq.mpr e]at h
   refine .inr ⟨e▸hn.1,?_⟩
   rw[if_neg (e▸hk),if_pos e]
   exact h.elim id fun h=>absurd (e▸.head _) h.1
  ·rw[show(x==p.1)=false from beq_eq_false_iff_ne.mpr e]at h
   refine h.imp id fun h=>⟨fun q=>h.1 (.tail _ q),?_⟩
   split
   ·exact h.2
   ·exact(if_neg e).trans h.2
noncomputable def St.down(S:St fs)(env:Env)(hk:env.scope.kind≠.module/\env.frame=some env.locals)(al:S.Al env.locals)(p:Plain S.s.heap env.locals):St (env::fs) where
 B:=S.B
 σ:=S.σ
 c:=S.c
 ow:=S.ow
 s:=S.s
 base:=S.base
 stay:=S.stay
 kinds:=fun e h=>(List.mem_cons.mp h).elim (fun q=>q▸hk) (S.kinds e)
 frames:=fun a h=>by
  obtain⟨e,h1,h2⟩:=List.mem_filterMap.mp h
  rcases List.mem_cons.mp h1 with q|q
  ·rw[q,hk.2]at h2;cases h2;exact⟨al.1,al.2,p⟩
  ·exact S.frames a (f7 q h2)
 own:=S.own
 len:=S.len
 cells:=S.cells
 gens:=S.gens
theorem qk{a:Addr}(h:a∈et fs):a∈et (env::fs):=by
 obtain⟨e,h1,h2⟩:=List.mem_filterMap.mp h
 exact f7 (.tail _ h1) h2
noncomputable def St.pop(S:St (env::fs)):St fs where
 B:=S.B
 σ:=S.σ
 c:=S.c
 ow:=S.ow
 s:=S.s
 base:=S.base
 stay:=S.stay
 kinds:=fun e h=>S.kinds e (.tail _ h)
 frames:=fun a h=>S.frames a (qk h)
 own:=S.own
 len:=S.len
 cells:=S.cells
 gens:=S.gens
theorem aQ.pop{S:St fs}{S₁:St fs}{S₂:St (env::fs)}{hk al p}(hf:env.frame=some env.locals)(x:aQ [] S S₁)(n:∀z∈aZ env,S.h z=none)(y:aQ (aZ env) (S₁.down env hk al p) S₂):aQ [] S S₂.pop where
 bb:=x.bb.trans y.bb
 sg:=fun i a e=>y.sg i a (x.sg i a e)
 cK:=fun b o h1 h2 h3 e=>have q:b∉aZ env:=fun q=>sn e (n b q);y.cK b o (x.keep b o h3 h1 e).1 (fun z=>by
  obtain⟨e',z1,z2⟩:=List.mem_filterMap.mp z
  rcases List.mem_cons.mp z1 with w|w
  ·rw[w,hf]at z2;cases z2;exact q (.head _)
  ·exact h2 (f7 w z2)) q (x.cK b o h1 h2 h3 e)
 d8:=fun b o h1 h2 e=>(x.d8 b o h1 h2 e).elim fun sl e1=>(y.d8 b _ (qk h1) (fun q=>sn e (n b q)) e1).elim fun OO e2=>⟨OO,e2⟩
 live:=fun b z e=>Classical.byCases (n b) fun q=>x.live b z (y.live b q e)
 keep:=fun b o z h1 e=>by
  have k:=x.keep b o z h1 e
  cases q:S₁.h b with
  |none=>exact nomatch e.symm.trans (x.live b z q)
  |some o' =>exact have w:=y.keep b o' (fun q=>sn e (n b q)) k.1 q;⟨w.1,fun h=>w.2 (k.2 h)⟩
 os:=y.os.trans x.os
structure ee(f:Fn):Prop where
 kind:f.scope.kind= .function
 gen:f.scope.isGenerator=false
 co:f.scope.isCoroutine=false
 names:f.params.Nodup
 kinds:∀p∈f.params,f.scope.names.lookup p=some .local\/(f.scope.names.lookup p=some .cell/\∀n,((cellsFrom n f.scope.names []).lookup p).isSome=true)
 one:∀n,cellsFrom n f.scope.names []=[]\/∃m,cellsFrom n f.scope.names []=[(m,n)]
 cell:∀n p,f.scope.names.lookup p=some .cell->((cellsFrom n f.scope.names []).lookup p).isSome=true
structure uj(B:Heap)(a:Addr)(f:Fn):Prop where
 ex:∃o fd as AO ds,B.get? a=some o/\o.data= .func fd/\fd.params=⟨[],as,none,[],[],none,AO⟩/\as.map (·.arg)=f.params/\fd.body= .stmts f.body/\fd.scope=f.scope/\fd.globals=mainGlobals/\fd.builtins=builtinsNs/\fd.closure=[]/\
  B.CodeRec fd.code fd.qualname/\((fd.defaults= .none/\ds=[])\/∃T o n,fd.defaults= .ref T/\B.get? T=some o/\o.data= .seq (List.toArray ds) n)/\bN B.get? f.dflt ds
theorem bu.deeper(Rm:bu (d+1) fs A)(env:Env):bu d (env::fs) (A.deeper env):=
 ⟨by show A.frames.map (env::·)=_;rw[Rm.frames];rfl,Rm.handled,Rm.guards,by show A.depth+1+4*d<=900;have:=Rm.depth;lia,by show A.units+3+40*d<=9000;have:=Rm.units;lia⟩
theorem ql{sc:Scope}{y:Str}{C:NK->Option NameKind->Prop}(h:∀o:Option NameKind,C (nk o) o):C (bp sc y) (sc.names.lookup y):=f4 (x:=y) (l:=sc.names)▸h (look sc.names y)
theorem KU{f:Fn}{env:Env}(hs:ee f)(eS:env.scope=f.scope)(eG:env.globals=mainGlobals)(eB:env.builtins=builtinsNs)(one:env.cells=[]\/∃n k,env.cells=[(n,k)]/\k≠env.locals):bx f.scope env:=by
 have eK:∀y,env.kindOf y=f.scope.names.lookup y:=fun y=>by show env.scope.names.lookup y=_;rw[eS]
 refine⟨by rw[eS];exact hs.kind,eG,eB,fun y=> ?_,fun y=> ?_,fun y=> ?_,fun y=> ?_,one⟩<;>rw[eK]
 ·exact ql (C:=fun n o=>n= .loc->o=some .local) fun o=>vC (C:=fun o n=>n= .loc->o=some .local) (fun _=>rfl) (fun h=>nomatch h) (fun h=>nomatch h) (fun h=>nomatch h) fun o h=>nomatch h
 ·exact ql (C:=fun n o=>n= .tw->o=some .cell) fun o=>vC (C:=fun o n=>n= .tw->o=some .cell) (fun h=>nomatch h) (fun _=>rfl) (fun h=>nomatch h) (fun h=>nomatch h) fun o h=>nomatch h
 ·exact ql (C:=fun n o=>n= .yK->o=some .free\/o=some .cell) fun o=>vC (C:=fun o n=>n= .yK->o=some .free\/o=some .cell) (fun h=>nomatch h) (fun h=>nomatch h) (fun _=> .inl rfl) (fun h=>nomatch h) fun o h=>nomatch h
 ·exact ql (C:=fun n o=>n= .va->o=some .globalImplicit) fun o=>vC (C:=fun o n=>n= .va->o=some .globalImplicit) (fun h=>nomatch h) (fun h=>nomatch h) (fun h=>nomatch h) (fun _=>rfl) fun o h=>nomatch h
section
variable{tab:Tab}{g:Gl}(G:Go d tab g.glob g.cw)(er:oy d){f:Fn}{a:Addr}(hs:ee f)(hf:∀H,Bs H->uj H a f)
theorem mem_of_lookup{α:Type}{x:Str}{v:α}{l:List (Str×α)}(h:l.lookup x=some v):(x,v)∈l:=eD (f4.trans h)
theorem AQ{S:St fs}{env:Env}{l:Loc}{bs:List (Str×Value)}{s₀:Shared}(hs:ee f)(eS:env.scope=f.scope)(eC:env.cells=cellsFrom (s₀.heap.objs.size+1) f.scope.names [])(kn:(bs.map (·.1)).Nodup)(tM:∀p∈bs,p.1∈f.params)(rb:av (Rb S.R) l bs)(fX:∀z∈aZ env,S.Al z/\Plain S.s.heap z)
  (ns:S.s.heap.Ns env.locals (bindL env.kindOf bs fun _=>none)) (cell:∀n z,env.cells.lookup n=some z->S.s.heap.IsCell z (bindC env.kindOf bs (fun _=>none) n)):Lc S env l:=by
 have eK:∀y,env.kindOf y=f.scope.names.lookup y:=fun y=>by show env.scope.names.lookup y=_;rw[eS]
 have knd:∀{x v} {G:Prop},look l x=some v->(∀v',bs.lookup x=some v' ->S.R v v' ->G)->G:=fun{x v G} e=>qj (x:=x) (C:=fun a b=>a=some v->(∀v',b=some v' ->S.R v v' ->G)->G) (fun h=>nn h) (fun v u r e g=>g u rfl (Option.some.inj e▸r)) rb (f4.symm.trans e)
 have AR:∀{x} {G:Prop},env.kindOf x=some .cell->(∀z,env.cells.lookup x=some z->G)->G:=fun{x G} h g=>(Option.isSome_iff_exists.mp (hs.cell (s₀.heap.objs.size+1) x (by rw[<-eK];exact h))).elim fun z hz=>g z (by rw[eC];exact hz)
 refine⟨fX,fun G g=>g _ ns fun x v hk e G g=>knd e fun v' e1 r=>g v' (xT hk kn (.inl e1)) r,fun x v hk e G g=>knd e fun v' e1 r=> ?_,fun x hk G g=>AR hk fun z hz=>g z _ hz (cell x z hz)⟩
 have nl:env.kindOf x≠some .local:=fun h=>by rw[h]at hk;exact hk.elim (fun h=>nomatch h) fun h=>nomatch h
 have hc:env.kindOf x=some .cell:=(hs.kinds x (tM _ (mem_of_lookup e1))).elim (fun q=>absurd ((eK x).trans q) nl) fun q=>(eK x).trans q.1
 exact AR hc fun z hz=>g z v' hz (xU nl kn (.inl e1)▸cell x z hz) r
end
theorem aQ.popped{S S' :St (env::fs)}(x:aQ W S S')(hf:env.frame=some env.locals):aQ (env.locals::W) S.pop S'.pop where
 bb:=x.bb
 sg:=x.sg
 cK:=fun b o h1 h2 h3 e=>x.cK b o h1 (fun z=>by
  obtain⟨e',z1,z2⟩:=List.mem_filterMap.mp z
  rcases List.mem_cons.mp z1 with w|w
  ·rw[w,hf]at z2;cases z2;exact h3 (.head _)
  ·exact h2 (f7 w z2)) (fun q=>h3 (.tail _ q)) e
 d8:=fun b o h1 h2 e=>x.d8 b o (qk h1) (fun q=>h2 (.tail _ q)) e
 live:=fun b z e=>x.live b (fun q=>z (.tail _ q)) e
 keep:=fun b o z h1 e=>x.keep b o (fun q=>z (.tail _ q)) h1 e
 os:=x.os
section
variable{f:Fn}{a:Addr}(hs:ee f)(hf:∀H,Bs H->uj H a f)
include hs hf
theorem oz{S:St fs}{R:Result->Shared->Prop}(Rm:bu (d+1) fs A)(r:S.Rs args vs)(hl:bindG f.params args (f.dflt.map .t)=some l)
  (k:∀env s' kp g hk al p QQ EE,bx f.scope env->env.frame=some env.locals->aQ [] S (S.go s' kp g)->(∀z∈aZ env,S.h z=none)->Lc ((S.go s' kp g).down env hk al p) env l->(∀s',R (.ok (.ret .none)) s' ->QQ Flow.next s')->(∀v s',R (.ok (.ret v)) s' ->QQ (.ret v) s')->
   (∀e s',wpAny M0 (A.deeper env) (leaving env e) (fun _=>R (.error e)) (fun e' =>R (.error e')) s' ->EE e s')->wpAny M0 (A.deeper env) (execs f.body env) QQ EE s'):codeAny M0 A (.call (.ref a) ⟨vs,[]⟩) R S.s:=S.at fun H hH hB st=>by
 obtain⟨o,fd,as,AO,ds,ho,AS,U8,KV,Pl,uk,Pm,Zl,U9,Pn,Va,Zm⟩:=(hf H hH).ex
 refine xS (P:=S.R) r (((ba.1 Zm).imp fun _ _ h=>h.mono hB).map (Q:=S.R) (f:=V.t) fun _ _ h=>h) hl fun bs X4 rb=> ?_
 have kk:=ui X4 hs.names
 refine codeAny_call_function (Nat.lt_of_le_of_lt (Nat.le_trans (Nat.le_add_right _ _) Rm.depth) (by decide)) (st _ _ ho) AS (by rw[uk];exact hs.co) (by rw[uk];exact hs.gen) Pl (Pn.keeps st) ?_
 refine xR (ds:=ds) U8 (Va.imp id fun⟨T,oT,n,e1,e2,e3⟩=>⟨T,oT,n,e1,st _ _ e2,e3⟩) (by rw[KV];exact X4) _ _ _ _ ?_
 rw[uk,Pm,U9,Zl]
 refine wpAny_newFunctionEnv_cells hs.kind (fun p hp=>(hs.kinds p.1 (kk.2 p hp)).imp id fun q=>⟨q.1,q.2 _⟩) fun env xV s₁ ic=> ?_
 obtain⟨h₁,X5,rfl⟩:=ic.toInCall.same
 have keep:Sub S.h h₁.get? :=ic.toInCall.keep
 refine⟨hH.Ir.keeps fun b o' e=>keep b o' (st b o' e),codeAny_func ?_⟩
 have eL:env.locals=S.s.heap.objs.size:=by rw[xV];rfl
 have eF:env.frame=some env.locals:=by rw[xV];rfl
 have eS:env.scope=f.scope:=by rw[xV];rfl
 have eC:env.cells=cellsFrom (S.s.heap.objs.size+1) f.scope.names []:=by rw[xV];rfl
 have one:env.cells=[]\/∃n k,env.cells=[(n,k)]/\k≠env.locals:=by
  rw[eC,eL]
  exact(hs.one (S.s.heap.objs.size+1)).imp id fun⟨m,q⟩=>⟨m,_,q,Nat.succ_ne_self _⟩
 have hE:=KU hs eS (by rw[xV];rfl) (by rw[xV];rfl) one
 have pl:∀z∈aZ env,S.h z=none/\Plain h₁ z:=fun z hz=>(List.mem_cons.mp hz).elim (fun q=>q▸⟨eL▸bw _,fun G g=>ic.toInCall.ns.elim fun o h=>h.elim fun es h=>h.elim fun ep h=>g o h.1 fun vs z=>nomatch h.2.1.symm.trans z⟩) fun hz=>by
  obtain⟨p,hp,e1⟩:=List.mem_map.mp hz
  have q:=ic.above p.1 p.2 hp
  rw[eL,e1]at q
  refine⟨pC (Nat.le_of_lt q),?_⟩
  refine one.elim (fun q=>by rw[q]at hp;exact absurd hp List.not_mem_nil) fun⟨n,k',q,_⟩=> ?_
  rw[q]at hp
  cases List.mem_singleton.mp hp
  exact(ic.cell n k' (by rw[q,List.lookup_cons,beq_self_eq_true])).elim fun o h G g=>g o (e1▸h.1) fun vs z=>nomatch h.2.symm.trans z
 have al:∀z∈aZ env,(S.go {S.s with heap:=h₁,toks:=X5} keep rfl).Al z:=fun z hz=>St.al (S:=S) (pl z hz).1
 exact k env {S.s with heap:=h₁,toks:=X5} keep rfl ⟨by rw[eS,hs.kind];decide,eF⟩ (al _ (.head _)) (pl _ (.head _)).2 _ _ hE eF (St.bk rfl) (fun z hz=>(pl z hz).1)
  (AQ (s₀:=S.s) hs eS eC kk.1 kk.2 rb (fun z hz=>⟨al z hz,(pl z hz).2⟩) ic.toInCall.ns ic.cell) (fun _ h=>h) (fun _ _ h=>h) fun _ _ h=>h
end
section
variable{tab:Tab}{g:Gl}(G:Go d tab g.glob g.cw)(er:oy d){f:Fn}{a:Addr}(hs:ee f)(hf:∀H,Bs H->uj H a f)
include G er hs hf
theorem Fl:bO (d+1) (an g tab f) a:=fun fs A Rm args vs S r k kx out Q E e ok ex=>ae e fun l hl e=>oz hs hf Rm r hl fun env s₁ kp g₁ hk al p QQ EE hE eF x₁ n0 L₂ q1 q2 q3=>by
 have Vb:=Rm.deeper env
 refine(Fh (x:=⟨tab,g.glob,g.cw,f.scope⟩) Vb.frames eF Vb G er hE (n:=40)).2 f.body ((S.go s₁ kp g₁).down env hk al p) l L₂ _ out QQ EE e (fun o' fl S₃ l' y L' ro h' => ?_) fun e' S₃ l' y L' z h' =>q3 _ _ ?_
 ·have w:=aQ.pop eF x₁ n0 y
  induction o' with
  |next=>cases (ro:fl= .next);exact q1 _ (ok (.t .none) .none S₃.pop w rfl h')
  |ret v=>
   apply(ro:∀G:Flow->Prop,(∀v',S₃.R v v' ->G (.ret v'))->G fl)
   exact fun v' r=>q2 _ _ (ok v v' S₃.pop w r h')
  |exc=>exact ro.elim
  |_=>exact nn h'
 ·refine AF Vb.frames eF (h₀:=S.s.heap) (fun b q=>x₁.live b List.not_mem_nil (L'.live y b q)) (K:=fun c=>kx c=some out) (z.start fun b=>x₁.live b List.not_mem_nil) h' fun S₄ Zi x₄ hk n fl=> ?_
  exact ex e' S₄.pop ((aQ.pop eF x₁ n0 y).jE (x₄.popped eF) (bg (n0 _ (.head _)) n)) (fun G g=>fl G g) hk
end
theorem qn{S:St fs}{ts:List T}{vs:List Value}(r:bN S.B ts vs):S.Rs (ts.map .t) vs:=(ba.1 r).map (Q:=S.R) (f:=V.t) fun _ _ h=>h
section
variable{tab:Tab}{g:Gl}{f:Fn}{a:Addr}(hb:bO d (an g tab f) a)
include hb
theorem Fm:bO d (Il g tab f) a:=fun fs A Rm args vs S r k kx out Q E e ok ex=>ae e fun p e1 e=>
 mP (gM aN) S e1 r (fun c=>an g tab f (p.1.map .t) [] (fun r c' =>match r with| .exc=>kx c| .ok v=>ob (fr aN c' v) fun q=>k (.t q.1) c)=some out->codeAny M0 A (.call (.ref a) ⟨vs,[]⟩) (wants Q E) S.s) (fun S₁ I r₁ l e=>by
  rw[<-I.s]
  refine hb fs A Rm _ vs S₁.alone (qn r₁) (fun v c' =>ob (fr aN c' v) fun q=>k (.t q.1) S₁.c) (fun _=>kx S₁.c) out Q E ?_ (fun v v' S₂ x₂ rv e=>ae e fun q e2 e=> ?_) fun e' S₂ x₂ fl e=> ?_
  ·exact(congrArg (an g tab f (p.1.map .t) []) (funext fun r=>funext fun c' =>by induction r<;>rfl)).trans e
  ·refine gM aN S₂ v v' q e2 rv (fun _=>Q v' S₂.s) fun S₃ I₃ rt=> ?_
   have w:=ok (.t q.1) v' (S₁.back S₃ (x₂.trans I₃.x)) (I.x.trans (aQ.back _)) rt e
   exact I₃.s▸w
  ·exact ex e' (S₁.back S₂ x₂) (I.x.trans (aQ.back _)) (fun G z=>gj.start (S:=S₁.back S₂ x₂) (fun G z=>fl G z) (fun b h=>I.s▸h) G z) e) e
theorem xW:bO d (vh g tab f) a:=fun fs A Rm args vs S r k kx out Q E e ok ex=>by
 refine hb fs A Rm args vs S r (fun v c' =>ob (fr aN c' v) fun q=>ju S.c.length q.2 (k (.t q.1))) (fun c' =>ju S.c.length c' kx) out Q E ?_ (fun v v' S₂ x₂ rv e=>ae e fun q e2 e=> ?_) fun e' S₂ x₂ fl e=>aE e fun h e=>ex e' (S₂.cut S.c.length h) x₂.cut (fun G z=>fl G z) e
 ·exact(congrArg (an g tab f args S.c) (funext fun r=>funext fun c' =>by induction r<;>rfl)).trans e
 ·exact gM aN S₂ v v' q e2 rv (fun c=>ju S.c.length c (k (.t q.1))=some out->Q v' S₂.s) (fun S₃ I₃ rt e=>aE e fun h e=>I₃.s▸ok (.t q.1) v' (S₃.cut S.c.length h) (x₂.trans I₃.x).cut rt e) e
end
structure AT(h:Heap)(C fI:Addr):Prop where
 makes:Makes M0 h C
 init:Looks M0 h (typeLookup (.ref C) "__init__") (some (.ref fI))
 bind:∀self,Looks M0 h (bindSpecial (.ref fI) self) (.ref fI,[self])
theorem AU(Rm:bu (d+1) fs A)(C:Addr)(rest:List Value):bu d fs (A.under (.builtin "type.__call__" ⟨.ref C::rest,[]⟩)):=by
 have hw:(Code.builtin "type.__call__" ⟨.ref C::rest,[]⟩).weight=1:=rfl
 have he:(Code.builtin "type.__call__" ⟨.ref C::rest,[]⟩).envs=[]:=rfl
 have hg:(Code.builtin "type.__call__" ⟨.ref C::rest,[]⟩).guards=[]:=rfl
 have hu:(Code.builtin "type.__call__" ⟨.ref C::rest,[]⟩).cUnits=1:=rfl
 refine⟨?_,Rm.handled,?_,?_,?_⟩
 ·show pushEnvs (Code.builtin "type.__call__" ⟨.ref C::rest,[]⟩).envs A.frames=_;rw[he];exact Rm.frames
 ·show pushGuards (Code.builtin "type.__call__" ⟨.ref C::rest,[]⟩).guards A.guards=_;rw[hg];exact Rm.guards
 ·show A.depth+(Code.builtin "type.__call__" ⟨.ref C::rest,[]⟩).weight+4*d<=900;rw[hw];have:=Rm.depth;lia
 ·show A.units+(Code.builtin "type.__call__" ⟨.ref C::rest,[]⟩).cUnits+40*d<=9000;rw[hu];have:=Rm.units;lia
noncomputable abbrev xX(C:Addr)(s:Shared):Shared:= {s with heap:=(s.heap.push emptyDict).push (instObj C s.heap.objs.size)}
theorem sb{s:Shared}:Sub s.heap.get? (xX C s).heap.get? :=aT.trans aT
theorem oA{s:Shared}:(xX C s).heap.get? (s.heap.objs.size+1)=some (instObj C s.heap.objs.size):=by
 have:=aU (h:=s.heap.push emptyDict) (o:=instObj C s.heap.objs.size) rfl
 rw[Heap.size_push]at this
 exact this
theorem oB{s:Shared}:(xX C s).heap.get? s.heap.objs.size=some emptyDict:=aT _ _ (aU rfl)
theorem ul{s:Shared}(h:b=s.heap.objs.size+1\/b=s.heap.objs.size):Plain (xX C s).heap b:=h.elim
 (fun e G g=>g _ (e▸oA) fun vs z=>by cases z) (fun e G g=>g _ (e▸oB) fun vs z=>by cases z)
theorem kL{S:St fs}(h:b=S.s.heap.objs.size+1\/b=S.s.heap.objs.size):S.h b=none:=pC (h.elim (fun e=>e▸Nat.le_succ _) fun e=>Nat.le_of_eq e.symm)
noncomputable def St.inst(S:St fs)(C:Addr):St fs:=(S.go (xX C S.s) sb rfl).cell (fun b=>b=S.s.heap.objs.size+1\/b=S.s.heap.objs.size) (S.s.heap.objs.size+1) (.inst C [])
 (fun b h=>⟨St.al (S:=S) (kL h),St.off (S:=S) (kL h),ul h⟩)
 (fun G k=>k _ [] 0 ((if_pos (.inl rfl)).trans oA) ((if_pos (.inr rfl)).trans oB) (Nat.zero_le _) (fun G g=>g))
theorem aQ.inst{S:St fs}:aQ [] S (S.inst C):=(St.bk (S:=S) (s' :=xX C S.s) (k:=sb) (g:=rfl) rfl).cell fun b h=>kL h
section
variable{fI C:Addr}(hs:bO d sp fI)(hC:∀H h,Bs H->H.StaysIn h->AT h C fI)
include hs hC
theorem AV(Rm:bu (d+1) fs A){S:St fs}(r:S.Rs args vs)(e:OE sp C args S.c f=some out)(ok:∀S',aQ [] S S' ->S'.R (.loc S.c.length) (.ref (S.s.heap.objs.size+1))->f S'.c=some out->Q (.ref (S.s.heap.objs.size+1)) S'.s):
  codeAny M0 A (.call (.ref C) ⟨vs,[]⟩) (wants Q E) S.s:=S.at fun H hH hB st=>by
 have Ci:=hC H S.s.heap hH st
 refine make_core Ci.makes Ci.init Ci.bind (.inl rfl) ?_
 refine codeAny_mono (hs fs _ (AU Rm C vs) (.loc S.c.length::args) (.ref (S.s.heap.objs.size+1)::vs) (S.inst C) (fun G g=>g _ _ St.pA (r.imp fun _ _ h=>h.mono .refl .snoc)) (fun v c' =>match v with| .t .none=>f c' |_=>none) (fun _=>none) out (fun v s' =>v= .none/\Q (.ref (S.s.heap.objs.size+1)) s') (fun _ _=>False) ?_ (fun v v' S₂ x₂ rv e=> ?_) fun e' S₂ x₂ fl e=>nn e) fun rr s' z=> ?_
 ·refine(congrArg (sp _ _) (funext fun r=>funext fun c=> ?_)).trans e
  induction r with
  |exc=>rfl
  |ok v=>induction v with
   |loc i=>rfl
   |t x=>cases x<;>rfl
 ·induction v with
  |loc i=>exact nn e
  |t x=>
   cases x with
   |none=>
    cases (rv:v' = .none)
    exact⟨rfl,ok S₂ (aQ.inst.trans x₂) (bE.mono x₂.bb x₂.sg _ _ St.pA) e⟩
   |_=>exact nn e
 ·rcases rr with e|(v|_|_|_)<;>first|exact z.elim|exact z
end
theorem Fo{tab:Tab}{kind:Nat}(ht:∀sp,tab fI=some sp->bO d sp fI)(hC:∀H h,Bs H->H.StaysIn h->AT h C fI):bO (d+1) (Im tab C fI kind) C:=fun fs A Rm args vs S r k kx out Q E e ok ex=>ae e fun sp e1 e=>by
 have hs:=ht sp e1
 match kind,e with
 |0,e=>exact AV hs hC Rm r e fun S' x rv e=>ok _ _ S' x rv e
 |1,e=>exact ae e fun p e1 e=>mP (gM aN) S e1 r (fun c=>OE sp C (p.1.map .t) [] (fun c' =>ob (fr aN c' (.loc 0)) fun q=>k (.t q.1) c)=some out->codeAny M0 A (.call (.ref C) ⟨vs,[]⟩) (wants Q E) S.s) (fun S₁ I r₁ l e=>by
   rw[<-I.s]
   refine AV (S:=S₁.alone) hs hC Rm (qn r₁) e fun S₂ x₂ rv e=>ae e fun q e2 e=> ?_
   refine gM aN S₂ (.loc 0) _ q e2 rv (fun _=>Q _ S₂.s) fun S₃ I₃ rt=> ?_
   have w:=ok (.t q.1) _ (S₁.back S₃ (x₂.trans I₃.x)) (I.x.trans (aQ.back _)) rt e
   exact I₃.s▸w) e
 |n+2,e=>
  refine AV hs hC Rm r e fun S₂ x₂ rv e=>ae e fun q e2 e=> ?_
  exact gM aN S₂ (.loc S.c.length) _ q e2 rv (fun c=>ju S.c.length c (k (.t q.1))=some out->Q _ S₂.s) (fun S₃ I₃ rt e=>aE e fun h e=>I₃.s▸ok (.t q.1) _ (S₃.cut S.c.length h) (x₂.trans I₃.x).cut rt e) e
theorem AW{α:Type}{l:List α}{i:Nat}{x:α}{G:Prop}(h:(l.take 1)[i]? =some x)(k:i=0->l[0]? =some x->G):G:=by
 induction i with
 |zero=>exact k rfl (l3 h)
 |succ i=>rw[List.getElem?_take,if_neg (Nat.not_lt_of_le (Nat.succ_le_succ (Nat.zero_le i)))]at h;exact nn h
noncomputable def AX(ow:Addr->Option Nat):Addr->Option Nat:=fun a=>if ow a=some 0 then some 0 else none
theorem Fp{ow:Addr->Option Nat}{G:Prop}(h:AX ow a=some i)(k:i=0->ow a=some 0->G):G:=by
 unfold AX at h
 split at h
 ·exact k (Option.some.inj h).symm (by assumption)
 ·exact nn h
theorem qo{ow:Addr->Option Nat}(h:ow a≠some 0):AX ow a=none:=if_neg h
noncomputable def St.Fq(S:St fs){p:Cell}(hp:S.c[0]? =some p)(e:cZ 1 p=true):St fs where
 B:=S.B
 σ:=S.σ.take 1
 c:=S.c.take 1
 ow:=AX S.ow
 s:=S.s
 base:=S.base
 stay:=S.stay
 kinds:=S.kinds
 frames:=fun a h=>have q:=S.frames a h;⟨q.1,qo fun z=>sn z q.2.1,q.2.2⟩
 own:=fun a i h=>Fp h fun _ w=>S.own a 0 w
 len:=by rw[List.length_take,List.length_take,S.len]
 cells:=fun i y a e1 e2=>AW e1 fun hi h1=>by
  subst hi
  cases Option.some.inj (h1.symm.trans hp)
  exact mQ e ((S.cells 0 _ a h1 (l3 e2)).imp (da fun b o h e=>⟨if_pos h,e⟩) (fun _ _ h=>h) fun _ _ h=>h)
 gens:=S.gens
section
variable{S S' :St fs}{p p' :Cell}{hp:S.c[0]? =some p}{e:cZ 1 p=true}(x:aQ [] (S.Fq hp e) S')
noncomputable def nc(ow NN:Addr->Option Nat):Addr->Option Nat:=fun a=>if NN a=some 0 then some 0 else if ow a=some 0 then none else ow a
theorem AY{ow NN:Addr->Option Nat}{G:Prop}(h:nc ow NN a=some i)(k:i=0->NN a=some 0->G)(k' :ow a=some i->i≠0->G):G:=by
 unfold nc at h
 split at h
 ·exact k (Option.some.inj h).symm (by assumption)
 ·split at h
  ·exact nn h
  ·rename_i q
   exact k' h fun z=>q (z▸h)
theorem KW(S:St fs)(hp:S.c[0]? =some p){G:Prop}(k:∀a,S.σ[0]? =some a->G):G:=by
 cases q:S.σ[0]? with
 |some a=>exact k a q
 |none=>
  have h1:=(List.getElem?_eq_some_iff.mp hp).1
  rw[List.getElem?_eq_none_iff,S.len]at q
  exact absurd h1 (Nat.not_lt.mpr q)
include x in
theorem oC{b:Addr}{i:Nat}(h:S.ow b=some i)(hi:i≠0){G:Prop}(k:S'.ow b=none->S'.B b=none->(∀o,S.h b=some o->S'.h b=some o)->G):G:=by
 have n0:AX S.ow b=none:=qo fun q=>hi (Option.some.inj (h.symm.trans q))
 have f:b∉et fs:=fun z=>sn h (S.frames b z).2.1
 refine(S.own b i h).2 _ fun o eo _=> ?_
 have w:=x.keep b o List.not_mem_nil n0 eo
 exact k w.1 (w.2 (S.own b i h).1) fun o e=>x.cK b o n0 f nofun e
noncomputable def St.qp(Km:S'.c[0]? =some p')(e' :cZ 1 p' =true):St fs where
 B:=S'.B
 σ:=S.σ
 c:=S.c.set 0 p'
 ow:=nc S.ow S'.ow
 s:=S'.s
 base:=S'.base
 stay:=S'.stay
 kinds:=S.kinds
 frames:=fun a h=>have q:=S'.frames a h;⟨q.1,by unfold nc;rw[q.2.1,(S.frames a h).2.1];rfl,q.2.2⟩
 own:=fun a i h=>AY h (fun _ w=>S'.own a 0 w) fun h hi=>oC x h hi fun _ w3 w4=>⟨w3,(S.own a i h).2.up w4⟩
 len:=by rw[List.length_set];exact S.len
 cells:=fun i y a e1 e2=>pB e1 (fun q w=>by
   subst q w
   have hσ:S'.σ[0]? =some a:=x.sg 0 a ((List.getElem?_take_of_lt (Nat.lt_succ_self 0)).trans e2)
   exact(mQ e' (S'.cells 0 _ a Km hσ)).imp (da fun b o h e=>⟨if_pos h,e⟩) (fun _ _ h=>h) (bE.mono .refl fun j a' w=>AW w fun hj w1=>by subst hj;exact e2.trans (hσ.symm.trans w1)))
  fun q e1=>(S.cells i y a e1 e2).imp (da fun b o h e=>oC x h (Ne.symm q) fun w1 _ w3=>⟨by unfold nc;exact(if_neg fun z=>nn (w1.symm.trans z)).trans ((if_neg fun z=>q (Option.some.inj (z.symm.trans h))).trans h),w3 o e⟩) (fun _ _ h=>h.mono x.bb) (bE.mono x.bb fun _ _ e=>e)
 gens:=S'.gens
theorem aQ.qp(Km:S'.c[0]? =some p')(e' :cZ 1 p' =true):aQ [] S (S.qp x Km e') where
 bb:=x.bb
 sg:=fun _ _ e=>e
 cK:=fun b o h1 h2 h3 e=>x.cK b o (qo fun z=>sn z h1) h2 h3 e
 d8:=x.d8
 live:=x.live
 keep:=fun b o z h e=>have w:=x.keep b o z (qo fun z=>sn z h) e;⟨by show nc S.ow S'.ow b=none;unfold nc;rw[w.1,h];rfl,w.2⟩
 os:=x.os
end
theorem KX{tab:Tab}{g:Gl}{f:Fn}{a:Addr}(hb:bO d (an g tab f) a):bO d (OD g tab f) a:=fun fs A Rm args vs S r k kx out Q E e ok ex=>ae e fun as e0 e3=>ae e3 fun q e1 e4=>by
 have hA:args= .loc 0::as:=by
  unfold tH at e0
  split at e0
  ·exact Option.some.inj e0▸rfl
  ·exact nn e0
 subst hA
 refine r (fun vs=>codeAny M0 A (.call (.ref a) ⟨vs,[]⟩) (wants Q E) S.s) fun v0 vs r0 rs=> ?_
 refine mP (gM aN) S e1 rs (fun c=>(ob c[0]? fun p=>bif cZ 1 p then an g tab f (.loc 0::q.1.map .t) [p] (fun r c' =>match r with| .exc=>none| .ok v=>ob (fr aN c' v) fun w=>ob w.2[0]? fun p' =>bif cZ 1 p' then k (.t w.1) (c.set 0 p')else none)else none)=some out->codeAny M0 A (.call (.ref a) ⟨v0::vs,[]⟩) (wants Q E) S.s) (fun S₁ I r₁ l e=>ae e fun p hp e=>aE e fun hs e=> ?_) e4
 rw[<-I.s]
 have c1:S₁.c.take 1=[p]:=by
  cases h:S₁.c with
  |nil=>rw[h]at hp;exact nn hp
  |cons x xs=>rw[h]at hp;cases hp;rfl
 have Zn:(S₁.Fq hp hs).R (.loc 0) v0:=fun G g=>KW S₁ hp fun a0 h0=>(I.x.R r0) G fun a' w=>g a' ((List.getElem?_take_of_lt (Nat.lt_succ_self 0)).trans w)
 refine hb fs A Rm _ _ (S₁.Fq hp hs) (.cons Zn (qn (S:=S₁.Fq hp hs) r₁)) (fun v c' =>ob (fr aN c' v) fun w=>ob w.2[0]? fun p' =>bif cZ 1 p' then k (.t w.1) (S₁.c.set 0 p')else none) (fun _=>none) out Q E ?_ (fun v v' S₂ x₂ rv e=>ae e fun w e2 e=> ?_) fun e' S₂ x₂ fl e=>nn e
 ·show an g tab f _ (S₁.c.take 1) _=_
  rw[c1]
  exact(congrArg (an g tab f (.loc 0::q.1.map .t) [p]) (funext fun r=>funext fun c' =>by induction r<;>rfl)).trans e
 ·refine gM aN S₂ v v' w e2 rv (fun c=>(ob c[0]? fun p' =>bif cZ 1 p' then k (.t w.1) (S₁.c.set 0 p')else none)=some out->Q v' S₂.s) (fun S₃ I₃ rt e=>ae e fun p' Km e=>aE e fun ki e=> ?_) e
  have w:=ok (.t w.1) v' (St.qp (x₂.trans I₃.x) Km ki) (I.x.trans (aQ.qp _ _ _)) rt e
  exact I₃.s▸w
noncomputable def oD(h:Mp):Prop:=h ad=some nW
section
variable(hE:∀H,Bs H->oD H.get?)
include hE
theorem Fr:Fe:=fun A s e oe Q E H hH st he hc hq=>wpAny_excMatches_sub_self (h:=s.heap) (st _ _ (hE H hH)) he hc (by rfl) hq
theorem AZ(S:St fs):oD S.h:=S.base.elim fun H h=>S.stay _ _ (h.2 _ _ (hE H h.1))
end
theorem A1{s:Shared}(hC:s.heap.get? ad=some nW)(he:s.heap.get? e=some ⟨.ref ad,od,.fields vs,sl⟩)(Vc:vs[1]? =some Value.none)(hh:A.handled=none)(Vd:E (.ref e) s){Q:Flow->Shared->Prop}:wpAny M0 A (raiseStmt env (some (pure (.ref e))) none) Q E s:=by
 obtain⟨hp,g,d,tk,os⟩:=s
 have Po:(Value.ref ad::jx).contains (.type "BaseException")=true:=by rfl
 unfold raiseStmt
 refine wpAny_bind (wpAny_pure ?_)
 repeat (first|with_reducible refine wpAny_loadPart_at he ?_|with_reducible refine wpAny_loadPart_at hC ?_|(with_reducible refine wpAny_isSubtype_exc hC ?_;rw[Po])|wp_step)
 rw[Vc]
 refine wpAny_pure ?_
 refine wpAny_ite ?_
 rw[if_neg (by decide)]
 exact wpAny_pure (wpAny_raiseNew_none hh Vd)
theorem sd(hE:∀H,Bs H->oD H.get?){fs:List Env}{A:Around}{x:Sem Value}{Q:Flow->Shared->Prop}{s:Shared}(hh:A.handled=none)(h:wpAny M0 A x (fun v s₁=>∀G:Prop,(∀(S₁:St fs) h₀ e,v= .ref e->s₁=S₁.s->m5 h₀ S₁ e->E (.ref e) S₁.s->G)->G) E s):wpAny M0 A (raiseStmt env (some x) none) Q E s:=by
 refine wpAny_bind (wpAny_mono h (fun v s₁ h₁=> ?_) fun _ _ x=>x)
 apply h₁
 intro S₁ h₀ e ev es m Vd
 rw[ev,es]
 refine m _ fun oe vs a0 _ he hc hd _ Vc _=> ?_
 obtain⟨oc,od,YR,YS⟩:=oe
 cases hc
 cases hd
 exact A1 (env:=env) (AZ hE S₁) he Vc hh Vd
end
section
set_option autoImplicit true
open PySem PySem.W PyProof.Rows PySem.Calls
open Builtin Builtin.ObjectAttr
theorem um(self:Value):refuseLoop self "__setattr__" (.ref ad::jx)=pure ():=by
 rw[refuseLoop_ref,jx,refuseLoop_ref]
 rfl'
structure un:Prop where
 KY:∃cd,clsIn K0 ad=some cd/\cd.mro= .ref ad::jx/\cd.hasDict=true
 set:findIn K0 (.ref ad) "__setattr__"=some (some (.builtin "object.__setattr__"))
 Ve:findIn K0 (.ref ad) "what"=some none
 at_:findIn K0 (.ref ad) "at"=some none
 init:findIn K0 (.ref ad) "__init__"=some (some (.ref 36))
 fn:typeIn K0 (.ref 36)=some (.type "function")
 base:findCls K0 (.type "Exception") (.type "type") "__init__"=some (.val (.builtin "Exception.__init__"))
section
variable{A:Around}{E:Value->Shared->Prop}{s:Shared}
noncomputable abbrev Ft(s:Shared)(name:Str)(v:Value)(o:Obj):Obj:=Obj.putName name (PyData.keyHash w0.params name) (.str name s.toks) v o
theorem se{Q:PySem.Fin->Shared->Prop}(h2:s.heap.get? d=some (dictAt vs n))(hl:vs.length<=100)(hr:vs.any (·.refKey)=false)(ok:Q (.done (.ret .none)) {s with heap:=s.heap.update d (Ft s name v),toks:=s.toks+1}):wpAny M0 A (storeInDict d (.str name tk) name v) Q E s:=by
 refine wpAny_bind (wpAny_pure (wpAny_bind ?_))
 unfold nsSet
 refine wpAny_bind (wpAny_bind (wpAny_askSetting (wpAny_pure (wpAny_bind (wpAny_mkText (wpAny_bind (wpAny_loadPart (o:=dictAt vs n) h2 ?_)))))))
 dsimp only
 rw[aRefKeyMayBeTheName_at,lh hr]
 refine wpAny_updatePart (o:=dictAt vs n) h2 ?_
 refine wpAny_bind (wpAny_lookBehind (o:=dictAt (putL name (PyData.keyHash w0.params name) (.str name s.toks) v vs) (putN name vs n)) ?_ (pastItsLine_dict ?_) (wpAny_pure ok))
 ·exact(Heap.get?_update_self _ h2 (by rw[putName_dict];rfl)).trans (congrArg some (putName_dict ..))
 ·rw[List.size_toArray];exact Nat.le_trans (mY vs) (Nat.succ_le_succ (Nat.le_trans hl (bj (by decide))))
theorem DE{h:Heap}{t:Sem α}{r:α}{Q:α->Shared->Prop}(L:Looks M h t r)(k:Sub h.get? s.heap.get?)(q:Q r s):wpAny M A t Q E s:=L _ _ _ _ k q
theorem oE(HK:un){Q:Unit->Shared->Prop}(X:K0.In s.heap)(I:InstAt s.heap e ⟨.ref ad,Z3,.fields vs,sl⟩ ad od)(ht:findIn K0 (.ref ad) name=some none)
  (h:∀tk b t,wpAny M0 A.in1 (storeInOwnDict (.ref e) (.ref ad) (.str name tk) name v b) (fun fin s' =>fin= .done (.ret .none)/\Q () s') (fun _ _=>False) {s with toks:=t}):wpAny M0 A (PySem.setAttr (.ref e) name v) Q E s:=by
 obtain⟨cd,hc,Pp,X6⟩:=HK.KY
 have SF:=PySem.F.store_object
 refine set_plain X I HK.set (codeAny_call_builtin SF.slot.plain SF.entry (@check_slot M0 _ _ _ "object.__setattr__" "object" "__setattr__" (.ref e) [.str name s.toks,v] [] _ SF.kind SF.split (I.type.andThen (looks_mroIn X (by unfold mroIn;rw[hc,Option.bind_some,Pp];rfl))) (SF.args _ _ _) ?_))
 rw[osa_eq,refuse_eq]
 refine wpAny_bind (wpAny_bind (DE I.type .refl (wpAny_bind (DE (h:=s.heap) (t:=mroOf (.ref ad)) (r:=cd.mro) ((looks_clsIn X hc).andThen .now) .refl ?_))))
 rw[Pp,um]
 refine wpAny_pure (wpAny_bind (DE I.type .refl (wpAny_bind (DE (looks_findIn X ht) .refl (wpAny_bind (wpAny_pure ?_))))))
 refine wpAny_mono (h _ _ _) (fun fin s' q=> ?_) fun _ _ q=>q.elim
 exact q.1▸q.2
end
section
variable{A:Around}{E:Value->Shared->Prop}{s:Shared}{P:Value->Value->Prop}
theorem vL{h:Heap}(h2:h.get? d=some (dictAt vs n)):(h.update d (Obj.putName name hs key v)).get? d=some (dictAt (putL name hs key v vs) (putN name vs n)):=(Heap.get?_update_self _ h2 (by rw[putName_dict];rfl)).trans (congrArg some (putName_dict ..))
theorem A2{t:Tok}{vs:List DictEntry}:vs.any (·.refKey)=false->(putL name hs (.str name t) v vs).any (·.refKey)=false:=by
 induction vs with
 |nil=>exact fun _=>rfl
 |cons e vs ih=>
  intro h
  rw[List.any_cons,Bool.or_eq_false_iff]at h
  unfold putL
  split
  ·rw[List.any_cons,h.2,Bool.or_false];exact h.1
  ·rw[List.any_cons,h.1,ih h.2];rfl
variable(HK:un){Q:Unit->Shared->Prop}(X:K0.In s.heap)(ht:findIn K0 (.ref ad) name=some none)
include HK X ht
theorem xY(he:s.heap.get? e=some ⟨.ref ad,none,.fields vs,sl⟩)
  (h:∀h' tk es n,(∀b o,b≠e->s.heap.get? b=some o->h'.get? b=some o)->h'.get? e=some ⟨.ref ad,some s.heap.objs.size,.fields vs,sl⟩->h'.get? s.heap.objs.size=some (dictAt es n)->es.length<=1->es.any (·.refKey)=false->Q () {s with heap:=h',toks:=tk}):wpAny M0 A (PySem.setAttr (.ref e) name v) Q E s:=
 oE HK (od:=none) X ⟨he,rfl,rfl,trivial⟩ ht fun tk b t=>HK.KY.elim fun cd hc=>by
  refine wpAny_bind (wpAny_pure (wpAny_bind (wpAny_bind (wpAny_loadPart he (wpAny_bind (DE (looks_clsIn X hc.1) .refl ?_))))))
  rw[hc.2.2]
  have ne:e≠s.heap.objs.size:=Nat.ne_of_lt (Heap.lt_size he)
  have h1:=Heap.get?_push_of_some emptyDict he
  have h2:=Heap.get?_update_self (fun o=> {o with dict:=some s.heap.objs.size}) h1 rfl
  have h3:((s.heap.push emptyDict).update e fun o=> {o with dict:=some s.heap.objs.size}).get? s.heap.objs.size=some (dictAt [] 0):=(Heap.get?_update_ne _ _ _ _ ne.symm).trans (Heap.get?_push_at rfl rfl)
  refine wpAny_bind (wpAny_alloc' (wpAny_bind (wpAny_update' h1 (wpAny_pure (se h3 (Nat.zero_le _) rfl ⟨rfl,h _ _ _ _ (fun b o hb ho=> ?_) ((Heap.get?_update_other _ _ ne.symm).trans h2) (vL h3) (mY _) (A2 rfl)⟩)))))
  exact(Heap.get?_update_other _ _ (Nat.ne_of_gt (Heap.lt_size ho))).trans ((Heap.get?_update_ne _ _ _ _ hb).trans (Heap.get?_push_of_some _ ho))
theorem A8(he:s.heap.get? e=some ⟨.ref ad,some d,.fields vs,sl⟩)(h2:s.heap.get? d=some (dictAt es n))(hl:es.length<=1)(hr:es.any (·.refKey)=false)
  (h:∀h' tk,(∀b o,b≠d->s.heap.get? b=some o->h'.get? b=some o)->h'.get? d≠none->Q () {s with heap:=h',toks:=tk}):wpAny M0 A (PySem.setAttr (.ref e) name v) Q E s:=
 oE HK (od:=some (dictAt es n)) X ⟨he,rfl,rfl,h2⟩ ht fun tk b t=>HK.KY.elim fun cd hc=>by
  refine wpAny_bind (wpAny_pure (wpAny_bind (wpAny_bind (wpAny_loadPart he (wpAny_bind (DE (looks_clsIn X hc.1) .refl ?_))))))
  rw[hc.2.2]
  exact wpAny_pure (a:=some d) (se h2 (Nat.le_trans hl (by decide)) hr ⟨rfl,h _ _ (fun b o hb ho=>(Heap.get?_update_other _ _ hb.symm).trans ho) (by rw[vL h2];exact nofun)⟩)
end
end
section
set_option autoImplicit true
open PySem PySem.W PyProof.Rows PySem.Calls
open Builtin Builtin.ObjectAttr Builtin.BaseException
section
variable{A:Around}{E:Value->Shared->Prop}{s:Shared}
theorem check_init{oe:Obj}{Q:Unit->Shared->Prop}(hC:s.heap.get? ad=some nW)(he:s.heap.get? e=some oe)(Ag:oe.cls= .ref ad)(hq:Q () s):wpAny M0 A (checkBuiltinCall "Exception.__init__" ⟨[.ref e,w],[]⟩) Q E s:=by
 obtain⟨h,g,d,t,os⟩:=s
 have F:=PySem.F.excBase_Exception
 have Po:(Value.ref ad::jx).contains (.type "Exception")=true:=by rfl
 have Vf:=F.noStar
 simp only[checkBuiltinCall,F.initKind,F.initSplit,F.initRow]
 repeat (first|(with_reducible refine wpAny_loadPart_at he ?_;rw[Ag])|with_reducible refine wpAny_loadPart_at hC ?_|(with_reducible refine wpAny_isSubtype_exc hC ?_;rw[Po])|wp_step)
 exact hq
theorem A9{Q:Value->Shared->Prop}(hC:s.heap.get? ad=some nW)(he:s.heap.get? e=some ⟨.ref ad,od,.fields vs,sl⟩)(T8:vs[0]? =some a0)
  (h:∀h',(∀b o,b≠e->s.heap.get? b=some o->h'.get? b=some o)->h'.get? e=some ⟨.ref ad,od,.fields (vs.setIfInBounds 0 (.ref s.heap.objs.size)),sl⟩->Q .none {s with heap:=h' }):wpAny M0 A (call (.builtin "Exception.__init__") [.ref e,w]) Q E s:=by
 have F:=PySem.F.excBase_Exception
 refine wpAny_call (codeAny_call_builtin F.init.plain F.initEntry (check_init hC he rfl ?_))
 show wpAny _ _ (newTuple [w]>>=fun t=>bexcPut (.ref e) 0 t>>=fun _=>ret .none) _ _ s
 refine wpAny_bind (wpAny_newTuple ?_ (show 1<=sizeLine by decide))
 have Vg:=Heap.get?_push_of_some {cls:= .type "tuple",data:= .seq [w].toArray} he
 unfold bexcPut
 have fin:=h _ (fun b o' hb ho=>(Heap.get?_update_other _ _ hb.symm).trans (Heap.get?_push_of_some _ ho)) (Heap.get?_update_self (Obj.mapFields (·.setIfInBounds 0 (.ref s.heap.objs.size))) Vg rfl)
 refine wpAny_bind (wpAny_bind (wpAny_field Vg rfl T8 (wpAny_bind (wpAny_setField Vg rfl (Array.getElem?_eq_some_iff.mp T8).1 ?_))))
 induction a0<;>first|exact wpAny_pure (wpAny_pure fin)|exact wpAny_letGo (wpAny_pure fin)
end
end
section
set_option autoImplicit true
open PySem PySem.W PyProof.Rows PySem.Calls
section
variable{A:Around}{E:Value->Shared->Prop}{h:Heap}{g:Array GenState}{d:Drawn}{t:Nat}{os:OsState}{rest:List Value}(hC:h.get? ad=some nW)
include hC
theorem Ba:Frag.In [(ad,nW)] h:=fun b o e=>by
 rw[List.lookup_cons]at e
 split at e
 ·rename_i q;rw[beq_iff_eq.mp q];exact hC.trans e
 ·exact nn e
theorem xZ{Q:Unit->Shared->Prop}(hq:Q () ⟨h,g,d,t,os⟩):wpAny M0 A (checkBuiltinCall "Exception.__new__" ⟨[.ref ad,w],[]⟩) Q E ⟨h,g,d,t,os⟩:=by
 refine DE (Looks.of_peek (Ba hC) (r:=()) ?_) .refl hq
 rfl'
noncomputable abbrev sf(h:Heap)(rest:List Value):Heap:=(h.push {cls:= .type "tuple",data:= .seq rest.toArray}).push {cls:= .ref ad,data:= .fields #[.ref h.objs.size,.none,.none,.none,.bool false,.none]}
theorem Fu{R:Result->Shared->Prop}(hq:R (.ok (.ret (.ref (h.objs.size+1)))) ⟨sf h rest,g,d,t,os⟩)(X7:rest.length<=sizeLine):codeAny M0 A (.builtin "Exception.__new__" ⟨.ref ad::rest,[]⟩) R ⟨h,g,d,t,os⟩:=by
 have F:=PySem.F.excBase_Exception
 have X8:=F.ends
 have Po:(Value.ref ad::jx).contains (.type "Exception")=true:=by rfl
 have Zo:(Value.ref ad::jx).contains (.type "AttributeError")=false:=by rfl
 have Zp:(Value.ref ad::jx).contains (.type "NameError")=false:=by rfl
 refine codeAny_builtinAt F.entry ?_
 unfold Builtin.«BaseException.__new__»
 refine PySem.wpAt_bind ?_
 show PySem.wpAt _ _ _ (stack>>=_) _ _ _
 refine PySem.wpAt_bind (PySem.wpAt_stack fun p below=>PySem.wpAt_of_wpAny ?_)
 wp_walk
 refine PySem.wpAt_of_wpAny ?_
 rw[F.owner]
 repeat (first|with_reducible refine wpAny_madeHere_exc F.canon hC ?_|with_reducible refine wpAny_loadPart_at hC ?_|(with_reducible refine wpAny_isSubtype_exc hC ?_;first|rw[Po]|rw[Zo]|rw[Zp])|wp_step)
 show R _ _
 rw[Heap.size_push]
 exact hq
end
section
variable{A:Around}{E:Value->Shared->Prop}{h:Heap}{g:Array GenState}{d:Drawn}{t:Nat}{os:OsState}(HK:un)(X:K0.In h)(hC:h.get? ad=some nW)
theorem qr:(sf h [w]).get? (h.objs.size+1)=some {cls:= .ref ad,data:= .fields #[.ref h.objs.size,.none,.none,.none,.bool false,.none]}:=by unfold sf;heap_get
theorem fD:Sub h.get? (sf h [w]).get? :=fun b o e=>Heap.get?_push_of_some _ (Heap.get?_push_of_some _ e)
include HK X hC
theorem Bb{Q:PySem.Fin->Shared->Prop}(hq:wpAny M0 A (call (.ref 36) [.ref (h.objs.size+1),w]) (fun r s' =>r= .none/\Q (.done (.ret (.ref (h.objs.size+1)))) s') E ⟨sf h [w],g,d,t,os⟩):wpAny M0 A (Builtin.«type.__call__» ⟨[.ref ad,w],[]⟩) Q E ⟨h,g,d,t,os⟩:=by
 have F:=PySem.F.excBase_Exception
 repeat (first|with_reducible refine wpAny_loadPart_at hC ?_|with_reducible refine wpAny_madeBy_exc hC ?_|wp_step)
 refine codeAny_call_builtin_code (Code.quiet_builtin _ F.quiet) (xZ hC ?_)
 refine Fu hC ?_ (show 1<=sizeLine by decide)
 show wpAny _ _ _ _ _ _
 unfold isInstance
 repeat (first|with_reducible refine wpAny_loadPart_at qr ?_|wp_step)
 refine DE (Looks.of_peek (Ba hC) (t:=isSubtype (.ref ad) (.ref ad)) (r:=true) (by rfl')) fD ?_
 repeat wp_step
 show wpAny _ _ (typeLookup (.ref ad) _) _ _ _
 refine DE (looks_findIn X HK.init) fD (wpAny_holding (wpAny_bind (DE (bind_fn X _ HK.fn) fD (wpAny_bind (wpAny_mono hq (fun r s' hr=> ?_) fun _ _ x=>x)))))
 obtain⟨rfl,hQ⟩:=hr
 wp_walk
 exact hQ
theorem Bc{Q:Value->Shared->Prop}(hq:wpAny M0 (A.under (.builtin "type.__call__" ⟨[.ref ad,w],[]⟩)) (call (.ref 36) [.ref (h.objs.size+1),w]) (fun r s' =>r= .none/\Q (.ref (h.objs.size+1)) s') E ⟨sf h [w],g,d,t,os⟩):wpAny M0 A (call (.ref ad) [w]) Q E ⟨h,g,d,t,os⟩:=by
 have f1:=tc_lookup
 have f2:=tc_bind (.ref ad)
 have hT:(⟨h,g,d,t,os⟩:Shared).TypeIs (.ref ad) "type":=⟨_,hC,rfl⟩
 refine wpAny_call (codeAny_of_tree ?_)
 show wpAny _ _ (callAny (.ref ad) _) _ _ _
 repeat (any_goals (first|assumption|with_reducible refine wpAny_loadPart_at hC ?_|wp_step))
 refine⟨rfl,?_⟩
 exact codeAny_call_builtin_at (Code.quiet_builtin _ (by decide+kernel)) entry_typeCall (wpAny_check_type_call_sub hC (Bb HK X hC hq))
end
noncomputable abbrev dq:Str:=⟨#[115,101,108,102]⟩
noncomputable abbrev eX:Str:=⟨#[119,104,97,116]⟩
noncomputable abbrev KZ:Str:=⟨#[97,116]⟩
noncomputable abbrev ng:Str:=⟨#[69,120,99,101,112,116,105,111,110]⟩
noncomputable abbrev vM:Str:=⟨#[95,95,105,110,105,116,95,95]⟩
structure Be(f:Fn):Prop where
 params:f.params=[dq,eX,KZ]
 dflt:f.dflt=[.none]
 names:f.scope.names=[(dq,.local),(eX,.local),(KZ,.local),(ng,.globalImplicit)]
 body:∃p1 p2 p3 p4 p5 p6 p7 p8 p9 Vh X9 Ya Yb Yc:Pos,p2.endLine=p5.line/\f.body=[.Expr (.Call (.Attribute (.Name ng p1) vM p2) [.Name dq p3,.Name eX p4] [] p5) p6,
  .Assign [.Attribute (.Name dq p7) eX p8] (.Name eX p9) Vh,.Assign [.Attribute (.Name dq X9) KZ Ya] (.Name KZ Yb) Yc]
noncomputable abbrev St.out(S:St fs)(e:Addr)(al:S.Al e)(off:e∉et fs)(s' :Shared)(k:∀b o,b≠e->S.h b=some o->s'.heap.get? b=some o)(g:s'.gens=S.s.gens):St fs:=
 S.to s' (fun b o q=>k b o fun z=>q (z▸al)) (fun a h=>(S.frames a h).2.2.up fun o=>k a o fun z=>off (z▸h)) g
theorem aQ.out{S:St fs}{al off k g}(o:s'.os=S.s.os):aQ [e] S (S.out e al off s' k g):= .same (fun b o z=>k b o fun q=>z (q▸.head _)) o
theorem qs{S:St fs}{env:Env}(hE:bx sc env)(L:Lc S env l)(kl:bp sc y= .loc)(e:look l y=some v)(hd:(y==Str.ofString "__debug__")=false)(q:∀v',S.R v v' ->Q v' S.s):wpAny M0 A (eval (.Name y p) env) Q E S.s:=
 wpAny_Name (L.ns _ fun m n1 n2=>n2 y v (hE.loc y kl) e _ fun v' e1 r=>wpAny_loadName_local hE.kind (hE.loc y kl) n1 e1 (q v' r)) hd
theorem x0{T:String}{name:Str}{v:Value}{pl:Sem Bool}{Q:Value×List Value->Shared->Prop}{s:Shared}(X:K0.In s.heap)(ht:typeOf (.type T)=pure (.type "type"))(hs:Manifest.isStub T=false)
  (e:findCls K0 (.type T) (.type "type") name=some (.val v)) (hh:handedIn v=true) (h:Q (v,[]) {s with toks:=s.toks+1}):wpAny M0 A (getMethod (.type T) name pl) Q E s:=by
 have Pq:opaqueClassAbove (.type T)=pure none:=by unfold opaqueClassAbove;dsimp only;rw[hs];rfl
 have L0:Looks (M0) s.heap (typeOf (.type T)) (.type "type"):=Looks.of_pure ht
 have hg:findIn K0 (.type "type") "__getattribute__"=some (some (.builtin "type.__getattribute__")):=type_tga
 unfold getMethod specialOf
 refine wpAny_bind (wpAny_bind (L0.here ((looks_findIn X hg).here ?_)))
 dsimp only
 rw[if_pos canon_tga]
 refine wpAny_bind (wpAny_mono (Q:=fun v=>Q (v,[])) (E:=E) ?_ (fun _ _ z=>wpAny_pure z) fun _ _ z=>z)
 exact cls_open X (Looks.of_pure Pq) L0 hg (looks_hook X (r:=none) (by rfl)) (by show subIn K0 _ _=_;rfl) e (wpAny_pure (by show wpAny _ _ (handedOut v) _ _ _;rw[handedOut_of hh];exact wpAny_pure h))
section
variable{A:Around}{E:Value->Shared->Prop}{env:Env}{S:St fs}{l:Loc}(HK:un)(E4:∀H,Bs H->oD H.get?)(hE:bx sc env)(L:Lc S env l)(kS:bp sc dq= .loc)(lS:look l dq=some (.t (.gl e)))
include hE L kS lS
theorem si(ky:bp sc y= .loc)(ly:look l y=some v)(hd:(y==Str.ofString "__debug__")=false){Q:Flow->Shared->Prop}(h:∀v',wpAny M0 A (PySem.setAttr (.ref e) y v') (fun _=>Q .next) E S.s):
  wpAny M0 A (exec (.Assign [.Attribute (.Name dq p7) y p8] (.Name y p9) Vh) env) Q E S.s:=by
 refine wpAny_Assign_stores (qs hE L ky ly hd fun v' r=> ?_) (lj rfl _ _) rfl
 show wpAny _ _ (assign (.Attribute (.Name dq p7) y p8) env v') _ _ _
 rw[assign_Attribute]
 refine wpAny_bind (wpAny_holding (qs hE L kS lS (by rfl) fun u r=>wpAny_bind (wpAny_standAt (wpAny_bind (wpAny_holding ?_)))))
 rw[show u= .ref e from r]
 exact wpAny_mono (h v') (fun _ _ q=>wpAny_release q) fun _ _ q=>q
end
section
variable{A:Around}{E:Value->Shared->Prop}{env:Env}{S:St fs}{l:Loc}(HK:un)(hC:S.h ad=some nW){g:Str->Option T}(G:gR g)(hg:g ng=some (.ty "Exception"))(hE:bx sc env)(L:Lc S env l)
 (kS:bp sc dq= .loc) (lS:look l dq=some (.t (.gl e))) (kW:bp sc eX= .loc) (lW:look l eX=some v) (kE:bp sc ng= .va)
include HK hC G hg hE L kS lS kW lW kE
theorem x3(hp:p2.endLine=p5.line)(he:S.h e=some ⟨.ref ad,od,.fields vs,sl⟩)(T8:vs[0]? =some a0){Q:Flow->Shared->Prop}
  (h:∀h' tk,(∀b o,b≠e->S.h b=some o->h'.get? b=some o)->h'.get? e=some ⟨.ref ad,od,.fields (vs.setIfInBounds 0 (.ref S.s.heap.objs.size)),sl⟩->Q .next {S.s with heap:=h',toks:=tk}):
  wpAny M0 A (exec (.Expr (.Call (.Attribute (.Name ng p1) vM p2) [.Name dq p3,.Name eX p4] [] p5) p6) env) Q E S.s:=by
 refine wpAny_Expr_any ?_ (by unfold interactive;rw[hE.kind];rfl) (f5 rfl _ _)
 show wpAny _ _ (attributeBase (.Name ng p1) vM env (eval (.Name ng p1) env)>>=_) _ _ _
 rw[ja rfl]
 refine wpAny_bind (wpAny_Name (jD (S:=S) G hE hg (hE.glob _ kE) fun v' r=> ?_) (by rfl))
 rw[show v' = .type "Exception" from r]
 refine wpAny_bind (wpAny_standAt ?_)
 obtain⟨Vi,Zq,Z4⟩:=i9 (env:=env) p5 (es:=[.Name dq p3,.Name eX p4]) rfl
 have hm:methodCallForm ([Expr.Name dq p3,.Name eX p4].length+([]:List Keyword).length) (backTo p5 (starEach [.Name dq p3,.Name eX p4] env)) (backToKw p5 (keywordEach [] env))=true:=by
  unfold methodCallForm
  rw[Zq]
  rfl
 unfold methodCall
 rw[hm]
 refine wpAny_bind (wpAny_holding ?_)
 show wpAny _ _ (getMethod (.type "Exception") vM _) _ _ _
 refine x0 S.X (by rfl) (by decide+kernel) HK.base rfl (wpAny_bind ?_)
 rw[show methodCallPos true (.Name ng p1) env p2 p5=pure p5 by unfold methodCallPos;rw[hp];simp]
 refine wpAny_pure (eW (by rfl) ?_)
 rw[ch (by rfl),ch (by rfl)]
 have L' :∀n,Lc (S.go {S.s with toks:=n} .refl rfl) env l:=fun n=>L.ext (St.bk rfl)
 refine Calls.spliced_cons (qs hE (L' _) kS lS (by rfl) fun u r=>Calls.spliced_cons (qs hE (L' _) kW lW (by rfl) fun u' r' =>Calls.spliced_nil ⟨⟨.machine,Looks.of_pure rfl⟩,?_⟩))
 rw[show u= .ref e from r]
 exact A9 (s:= {S.s with toks:=S.s.toks+1}) hC he T8 fun h' k1 k2=>h h' _ k1 k2
end
theorem K1{fs:List Env}{env:Env}(eF:env.frame=some env.locals)(h1:e∉aZ env)(h2:e∉et fs):e∉et (env::fs):=fun q=>by
 obtain⟨e',z1,z2⟩:=List.mem_filterMap.mp q
 rcases List.mem_cons.mp z1 with w|w
 ·rw[w,eF]at z2;cases z2;exact h1 (.head _)
 ·exact h2 (f7 w z2)
theorem Lc.one{T T' :St fs}(n:z∉aZ env)(L:Lc T env l)(x:aQ [z] T T'):Lc T' env l:=L.move x fun a ha q=>n (List.mem_singleton.mp q▸ha)
section
variable{A:Around}{fs:List Env}{f:Fn}(HK:un)(hE:∀H,Bs H->oD H.get?){g:Str->Option T}(G:gR g)(hg:g ng=some (.ty "Exception"))(hi:Be f)
include HK hE G hg hi
theorem Bf{env:Env}(E4:bx f.scope env){T:St fs}(L:Lc T env [(dq,.t (.gl e)),(eX,v),(KZ,.t .none)])(al:T.Al e)(off:e∉et fs)(l0:e∉aZ env)(d1:T.h e=some {cls:= .ref ad,data:= .fields #[a,.none,.none,.none,.bool false,.none]})
  (h:∀T' :St fs,aQ [e] T T' ->T'.c=T.c->(∀G:Prop,(∀oe vs a0,T'.h e=some oe->oe.cls= .ref ad->oe.data= .fields vs->vs[0]? =some a0->vs[1]? =some Value.none->T'.B e=none->G)->G)->QQ .next T'.s):wpAny M0 A (execs f.body env) QQ E T.s:=by
 obtain⟨p1,p2,p3,p4,p5,p6,p7,p8,p9,Vh,X9,Ya,Yb,Yc,hp,hb⟩:=hi.body
 rw[hb]
 have kS:bp f.scope dq= .loc:=by unfold bp;rw[hi.names];rfl
 have kW:bp f.scope eX= .loc:=by unfold bp;rw[hi.names];rfl
 have kA:bp f.scope KZ= .loc:=by unfold bp;rw[hi.names];rfl
 have kE:bp f.scope ng= .va:=by unfold bp;rw[hi.names];rfl
 refine wpAny_execs_cons (x3 (S:=T) HK (AZ hE T) G hg E4 L kS rfl kW rfl kE hp d1 rfl fun h1 t1 c1 d1=> ?_)
 let T1:=T.out e al off {T.s with heap:=h1,toks:=t1} c1 rfl
 have z1:aQ [e] T T1:= .out rfl
 have L1:=L.one l0 z1
 refine wpAny_execs_cons (si (S:=T1) E4 L1 kS rfl kW rfl (by rfl) fun _=>xY (s:=T1.s) HK T1.X HK.Ve d1 fun h2 t2 es n c2 d2 d3 d4 d5=> ?_)
 let T2:=T1.out e al off {T1.s with heap:=h2,toks:=t2} c2 rfl
 have z2:aQ [e] T1 T2:= .out rfl
 have D:=bw T1.s.heap
 refine wpAny_execs_cons (si (S:=T2) E4 (L1.one l0 z2) kS rfl kA rfl (by rfl) fun _=>A8 (s:=T2.s) HK T2.X HK.at_ d2 d3 d4 d5 fun h3 t3 c3 d6=>wpAny_execs_nil ?_)
 have ne:e≠T1.s.heap.objs.size:=fun q=>sn (q▸d1) D
 exact h (T2.out _ (St.al (S:=T1) D) (St.off (S:=T1) D) {T2.s with heap:=h3,toks:=t3} c3 rfl) ((z1.trans z2).jE (.out rfl) (bg (z1.live _ (fun q=>ne (List.mem_singleton.mp q).symm) D) di)) rfl fun G g=>g _ _ _ (c3 _ _ ne d2) rfl rfl rfl rfl al.1
variable(hs:ee f)(hf:∀H,Bs H->uj H 36 f)
include hs hf
theorem uo{S:St fs}{v:V}{v' :Value}{K:aa->Prop}{Q:Value->Shared->Prop}(Rm:bu (d+2) fs A)(r:S.R v v')(hk:K S.c)(ok:∀(S' :St fs) e,aQ [] S S' ->K S'.c->m5 S.s.heap S' e->Q (.ref e) S'.s):wpAny M0 A (call (.ref ad) [v']) Q E S.s:=by
 have x₁:aQ [] S (S.go {S.s with heap:=sf S.s.heap [v']} fD rfl):=St.bk rfl
 refine Bc HK S.X (AZ hE S) (wpAny_call (oz hs hf (AU Rm ad [v']) (S:=S.go {S.s with heap:=sf S.s.heap [v']} fD rfl) (args:=[.t (.gl (S.s.heap.objs.size+1)),v]) (l:=[(dq,.t (.gl (S.s.heap.objs.size+1))),(eX,v),(KZ,.t .none)]) (.cons rfl (.cons (x₁.R r) .nil)) (by rw[hi.params,hi.dflt];rfl) fun env s' kp g Zr al p QQ EE E4 eF x₂ n0 L q1 _ _=> ?_))
 have e0:S.h (S.s.heap.objs.size+1)=none:=pC (Nat.le_succ _)
 have f0:∀z∈aZ env,S.h z=none:=fun z hz=>x₁.live z List.not_mem_nil (n0 z hz)
 have l0:S.s.heap.objs.size+1∉aZ env:=fun q=>sn qr (n0 _ q)
 refine Bf HK hE G hg hi E4 (T:=(St.go _ s' kp g).down env Zr al p) L (St.al (S:=S) e0) (K1 eF l0 (St.off e0)) l0 (kp _ _ qr) fun T' x' c' m=>q1 _ ⟨rfl,ok T'.pop _ ((aQ.pop eF (x₁.trans x₂) f0 .refl).jE (x'.popped eF) (bg (f0 _ (.head _)) (bg e0 di))) ?_ fun G g=>m G fun oe vs a0 h1=>g oe vs a0 e0 h1⟩
 exact(show T'.pop.c=S.c from c')▸hk
theorem K4:oy (d+2) where
 Pk:=Fr hE
 call:=fun Rm r hk ok=>uo HK hE G hg hi hs hf Rm (v:= .t (.str _)) r hk ok
 keep:=⟨.machine,fun H hb A Q E s k q=>wpAny_keeperOf_exc (h:=s.heap) (g:=s.gens) (d:=s.drawn) (t:=s.toks) (os:=s.os) (k _ _ (hE H hb)) q⟩
 raise:=fun hh h=>sd hE hh h
end
theorem gT{f g:α->β}{l:List α}(e:l.map f=l.map g)(h:x∈l):f x=g x:=List.map_inj_left.mp e x h
theorem sj{C:Nat}{x:Str}{G:Prop}{l:List (Nat×List Str)}:lV l C x=true->(∀ns,(C,ns)∈l->x∈ns->G)->G:=by
 induction l with
 |nil=>exact fun h=>ft h
 |cons r l ih=>
  intro h g
  have h:(bif Nat.beq r.1 C then r.2.any fun n=>sEq n x else lV l C x)=true:=h
  cases q:Nat.beq r.1 C with
  |true=>
   rw[q]at h
   obtain⟨n,h1,h2⟩:=List.any_eq_true.mp h
   exact g r.2 (Nat.eq_of_beq_eq_true q▸.head _) (bZ h2▸h1)
  |false=>rw[q]at h;exact ih h fun ns h=>g ns (.tail _ h)
theorem kM{α:Type}{C:Nat}{v:α}{l:List (Nat×α)}:aw l C=some v->(C,v)∈l:=by
 induction l with
 |nil=>exact fun h=>nn h
 |cons r l ih=>
  intro h
  have h:(bif Nat.beq r.1 C then some r.2 else aw l C)=some v:=h
  cases q:Nat.beq r.1 C with
  |true=>rw[q]at h;exact Option.some.inj h▸Nat.eq_of_beq_eq_true q▸.head _
  |false=>rw[q]at h;exact .tail _ (ih h)
theorem VV:view K0=want:=seen w0.params
theorem Yd:OZ bD.cw where
 get:=fun C n h=>sj h fun ns h1 h2=>by
  have eG:gB.map (fun r=>r.2.map (D6 K0 r.1))=gB.map (fun r=>r.2.map fun _=>D8):=congrArg View.UO VV
  have q:=gT eG h1
  have e2:ns.map (D6 K0 C)=ns.map fun _=>D8:=q
  have e:D6 K0 C n=D8:=gT e2 h2
  have e3:findIn K0 (.ref C) n=some none:=congrArg (·.2.2.1) e
  exact⟨congrArg (·.1) e,congrArg (·.2.1) e,⟨none,e3,rfl⟩,congrArg (·.2.2.2.1) e,congrArg (·.2.2.2.2) e,by unfold takerIn;rw[e3];rfl⟩
 US:=fun C n f h=>ae (show ob (aw meths C) (look · n)=some f from h) fun l h1 h2=>by
  have eG:meths.map (fun r=>r.2.map fun n=>D7 K0 r.1 n.1 n.2)=meths.map (fun r=>r.2.map fun n=>D9 n.2):=congrArg View.UP VV
  have q:=gT eG (kM h1)
  have e2:l.map (fun n=>D7 K0 C n.1 n.2)=l.map fun n=>D9 n.2:=q
  have q:=gT e2 (eD h2)
  have e:D7 K0 C n f=D9 f:=q
  exact⟨congrArg (·.1) e,congrArg (·.2.1) e,congrArg (·.2.2.1) e,congrArg (·.2.2.2.1) e,.type "type",congrArg (·.2.2.2.2.1) e,congrArg (·.2.2.2.2.2) e⟩
theorem Vj:un:=by
 have e:=congrArg View.OM VV
 exact⟨⟨_,by unfold clsIn;rw[show K0.lookup ad=some nW from congrArg View.err VV],rfl,rfl⟩,congrArg (·.1) e,congrArg (·.2.1) e,congrArg (·.2.2.1) e,congrArg (·.2.2.2) e,congrArg View.fn VV,congrArg View.base VV⟩
theorem Pr(H:Heap)(h:Bs H):oD H.get? :=h.tM _ _ (congrArg View.err VV)
theorem qt{v:Value}{t:T}(h:tK v=some t):ao B t v:=by
 induction v with
 |str s k=>
  have h:(bif bC s then some (T.str s)else none)=some t:=h
  cases q:bC s with
  |true=>rw[q]at h;exact Option.some.inj h▸.s q
  |false=>rw[q]at h;exact nn h
 |int i k=>exact Option.some.inj h▸.i
 |none=>exact Option.some.inj h▸rfl
 |bool=>exact Option.some.inj h▸rfl
 |ref=>exact Option.some.inj h▸rfl
 |builtin=>exact Option.some.inj h▸rfl
 |type=>exact Option.some.inj h▸rfl
 |_=>exact nn h
theorem Fv{vs:List Value}:∀{ds:List T},vs.map tK=ds.map some->av (ao B) ds vs:=by
 induction vs with
 |nil=>exact fun{ds} h=>match ds,h with|[],_=> .nil
 |cons v vs ih=>exact fun{ds} h=>match ds,h with|d::ds,h=> .cons (qt (List.cons.inj h).1) (ih (List.cons.inj h).2)
theorem Fw{a:Nat}{fd:FuncData}(h:fnOf K0 a=some fd):∃oc od sl,K0.lookup a=some ⟨oc,od,.func fd,sl⟩:=by
 unfold fnOf at h
 split at h
 ·exact Option.some.inj h▸⟨_,_,_,by assumption⟩
 ·exact nn h
theorem K5{H:Heap}(X:K0.In H){v:Value}{vs:List Value}(h:zz K0 v=some vs):(v= .none/\vs=[])\/∃T o n,v= .ref T/\H.get? T=some o/\o.data= .seq (List.toArray vs) n:=by
 induction v with
 |none=>exact .inl ⟨rfl,(Option.some.inj h).symm⟩
 |ref t=>
  unfold zz at h
  dsimp only at h
  split at h
  ·exact .inr ⟨t,_,_,rfl,X _ _ (by assumption),by rw[<-Option.some.inj h,Array.toArray_toList]⟩
  ·exact nn h
 |_=>exact nn h
theorem vN{H:Heap}{st:Stmt}{ds:List T}(X:K0.In H)(e:OJ K0 a=some (OK st ds)):uj H a (fnAt st ds):=by
 obtain⟨fd,h,e⟩:=Option.map_eq_some_iff.mp e
 obtain⟨oc,od,sl,ho⟩:=Fw h
 obtain⟨vs,h1,h2⟩:=Option.map_eq_some_iff.mp (congrArg (·.2.2.2.2.2.2.2) e)
 have hp:=congrArg (·.1) e
 exact⟨_,fd,(fP st).args,_,vs,X _ _ ho,rfl,hp,rfl,congrArg (·.2.1) e,congrArg (·.2.2.1) e,congrArg (·.2.2.2.1) e,congrArg (·.2.2.2.2.1) e,congrArg (·.2.2.2.2.2.1) e,codeRec_of X (congrArg (·.2.2.2.2.2.2.1) e),K5 X h1,ba.2 (Fv h2)⟩
noncomputable def cellK:NameKind->Bool
 | .cell=>true
 |_=>false
noncomputable def vO(st:Stmt):List Str:=(fS st).names.filterMap fun y=>bif cellK y.2 then some y.1 else none
noncomputable def Ps(k:NameKind):Bool:=match k with
 | .local=>true
 |_=>false
noncomputable def Ye(st:Stmt):Bool:=pt (fS st).kind&&(!(fS st).isGenerator&&(!(fS st).isCoroutine&&(decide ((fP st).args.map (·.arg)).Nodup&&(((fP st).args.map (·.arg)).all (fun p=>bn (look (fS st).names p) (fun k=>Ps k||cellK k) false)&&Nat.ble (vO st).length 1))))
theorem Bg{k:NameKind}(h:cellK k=true):k= .cell:=by induction k<;>first|rfl|exact ft h
theorem Fx{k:NameKind}(h:Ps k=true):k= .local:=by induction k<;>first|rfl|exact ft h
theorem Bh{k:ScopeKind}(h:pt k=true):k= .function:=by induction k<;>first|rfl|exact ft h
theorem DB{l:List Str}(h:p∈l):((l.map (·,n)).lookup p).isSome=true:=by
 induction l with
 |nil=>exact absurd h List.not_mem_nil
 |cons q l ih=>
  rw[List.map_cons,List.lookup_cons]
  cases e:p==q with
  |true=>rfl
  |false=>exact ih ((List.mem_cons.mp h).resolve_left fun z=>by rw[z,beq_self_eq_true]at e;exact nomatch e)
theorem sm{st:Stmt}(h:Ye st=true)(e:∀n,cellsFrom n (fS st).names []=(vO st).map (·,n)):ee (fnAt st ds):=
 am h fun h1 h=>am h fun h2 h=>am h fun h3 h=>am h fun h4 h=>am h fun h5 h6=>by
  have cell:∀n p,(fS st).names.lookup p=some .cell->((cellsFrom n (fS st).names []).lookup p).isSome=true:=fun n p q=>e n▸DB (List.mem_filterMap.mpr ⟨(p,.cell),eD (f4.trans q),rfl⟩)
  refine⟨Bh h1,dW h2,dW h3,of_decide_eq_true h4,fun p hp=> ?_,fun n=> ?_,cell⟩
  ·have q:=List.all_eq_true.mp h5 p hp
   rw[show look _ p=_ from f4]at q
   cases z:(fS st).names.lookup p with
   |none=>rw[z]at q;exact ft q
   |some k=>
    rw[z]at q
    exact(Bool.or_eq_true_iff.mp q).imp (fun q=>z.trans (congrArg some (Fx q))) fun q=>have q:=z.trans (congrArg some (Bg q));⟨q,fun n=>cell n p q⟩
  ·refine(e n)▸ ?_
   have h6:=Nat.le_of_ble_eq_true h6
   revert h6
   generalize vO st=l
   intro h6
   match l,h6 with
   |[],_=>exact .inl rfl
   |[m],_=>exact .inr ⟨m,rfl⟩
   |_::_::_,h=>exact absurd (Nat.le_of_succ_le_succ h) (Nat.not_succ_le_zero _)
theorem Pu:rows.all (fun r=>Ye (tI pW r))=true:=by decide+kernel
theorem Bi(n:Nat):rows.map (fun r=>cellsFrom n (fS (tI pW r)).names [])=rows.map (fun r=>(vO (tI pW r)).map (·,n)):=by rfl'
theorem Vk:ee (fnAt TU [.none]):=sm (by decide+kernel) fun n=>by rfl'
theorem Pv:rows.map (fun r=>OJ K0 (zw r))=rows.map (fun r=>some (OK (tI pW r) (D5 r))):=congrArg View.fns VV
theorem Pw:makes.map (fun r=>UN K0 r.1 r.2.1)=makes.map (fun r=>XN r.2.1):=congrArg View.YJ VV
theorem Px:rn.map (fun r=>vj K0 r.1)=rn.map (fun r=>some r.2):=congrArg View.YK VV
theorem Bj(h:aw (defs pW) a=some (m,f)):ee f/\∀H,Bs H->uj H a f:=by
 obtain⟨r,hr,e⟩:=List.mem_map.mp (kM h)
 cases e
 have h1:OJ K0 (zw r)=some (OK (tI pW r) (D5 r)):=gT Pv hr
 exact⟨sm (List.all_eq_true.mp Pu r hr) fun n=>gT (Bi n) hr,fun H hH=>vN hH.tM h1⟩
theorem Vl:∀H,Bs H->uj H 36 (fnAt TU [.none]):=fun H hH=>vN hH.tM (congrArg View.init VV)
theorem IG(h:aw makes a=some q):UN K0 a q.1=(true,some (some (.ref q.1)),some (.type "function"),some (some (.builtin "type.__call__"))):=gT Pw (kM h)
theorem Py(h:aw makes a=some q)(X:K0.In s):AT s a q.1:=have e:=IG h;⟨makes_of X (congrArg (·.1) e),looks_findIn X (congrArg (·.2.1) e),fun self=>bind_fn X self (congrArg (·.2.2.1) e)⟩
theorem mi(h:aw (defs pW) a=some (m,f)):fg (.ref a):=⟨.frame,fun H hH=>by
 obtain⟨o,fd,as,AO,ds,ho,AS,_⟩:=((Bj h).2 H hH).ex
 refine(Looks.ld (part:=none) ho).andThen ?_
 rw[AS]
 exact .now⟩
theorem sq(h:aw makes a=some q):fg (.ref a):=⟨.machine,fun H hH=>by
 have e:=IG h
 obtain⟨oc,od,cd,sl,ho,_⟩:=(makes_of (M:=M0) hH.tM (congrArg (·.1) e)).obj
 exact(Looks.ld (part:=none) ho).andThen ((looks_specialIn hH.tM (congrArg (·.2.2.2) e)).andThen .now)⟩
theorem oF{v:Value}(h:mN v=true):∃n t,v= .str n t:=by induction v<;>first|exact⟨_,_,rfl⟩|exact ft h
theorem uq:gR bD.glob:=fun H hH G g=>hH.blt G fun mb b1 b2=>by
 have k:gK K0=true:=congrArg View.keys VV
 unfold gK at k
 split at k
 ·rename_i oc od es n sl ho
  refine g (fun x=>nsFind es x) mb ⟨_,es,n,hH.tM _ _ ho,rfl,fun e he=>oF (List.all_eq_true.mp k e (Array.mem_toList_iff.mpr he)),fun _=>rfl⟩ b1 fun id t yQ G g=> ?_
  have e:vj K0 id=some t:=gT Px (eD yQ)
  unfold vj iU at e
  rw[ho]at e
  dsimp only at e
  cases q:nsFind es id with
  |some v=>rw[q]at e;exact g v (.inl q) (qt e)
  |none=>
   rw[q]at e
   cases z:sEq id (.ofString "__name__")with
   |true=>rw[show bn (none:Option Value) tK _=_ from rfl,z]at e;exact nn e
   |false=>
    rw[show bn (none:Option Value) tK _=_ from rfl,z]at e
    exact ae e fun v h1 h2=>g v (.inr ⟨q,(b2 id fun w=>by rw[w,km,beq_self_eq_true]at z;exact nomatch z).trans h1⟩) (qt h2)
 ·exact ft k
theorem K6:Be (fnAt TU [.none]) where
 params:=by rfl'
 dflt:=rfl
 names:=by rfl'
 body:=⟨⟨8,8,8,17⟩,⟨8,8,8,26⟩,⟨8,27,8,31⟩,⟨8,33,8,37⟩,⟨8,8,8,38⟩,⟨8,8,8,38⟩,⟨9,8,9,12⟩,⟨9,8,9,17⟩,⟨9,20,9,24⟩,⟨9,8,9,24⟩,⟨10,8,10,12⟩,⟨10,8,10,15⟩,⟨10,18,10,20⟩,⟨10,8,10,20⟩,rfl,by rfl'⟩
theorem Bk:bD.glob ng=some (.ty "Exception"):=by rfl'
theorem Pz(d:Nat):oy (d+2):=K4 (Vj) (Pr) (uq) Bk K6 Vk (Vl)
theorem vP{m:Mode}{f:Fn}(G:Go (d+2) tab bD.glob bD.cw)(h:aw (defs pW) a=some (m,f)):bO (d+3) (gJ bD tab m f) a:=have e:=Bj h
 have b:=Fl (g:=bD) G (Pz d) e.1 e.2
 match m with
 | .pure=>Fm b
 | .shared=>xW b
 | .raw=>b
 | .yM=>KX b
theorem Bl(n:Nat):ov (n+2) (zx pW n):=by
 induction n with
 |zero=>exact⟨fun _ _ h=>nn h,fun _ _ h=>nn h⟩
 |succ n ih=>
  have k:∀a sp,zx pW (n+1) a=some sp->bO (n+3) sp a/\fg (.ref a):=fun a sp=>cz (P:=fun o=>o=some sp->bO (n+3) sp a/\fg (.ref a)) (fun q h e=>Option.some.inj e▸⟨vP ⟨ih,uq,Yd⟩ h,mi h⟩)
   fun e=>ae e fun q h e=>Option.some.inj e▸⟨Fo (ih.spec _) fun H s hH st=>Py h fun b o q=>st b o (hH.tM b o q),sq h⟩
  exact⟨fun a sp h=>(k a sp h).1,fun a sp h=>(k a sp h).2⟩
end
section
set_option backward.match.sparseCases true
set_option bootstrap.genMatcherCode true
set_option genInjectivity true
set_option genSizeOf true
open PySem
theorem Vm:aw (defs pW) 106=some (.pure,fnAt (aR pW 8) []):=by rfl'
theorem Vn:aw (defs pW) 113=some (.pure,fnAt (aR pW 9) []):=by rfl'
theorem Vo:aw (defs pW) 120=some (.pure,fnAt (aR pW 10) []):=by rfl'
theorem Vp:aw (defs pW) 210=some (.pure,fnAt (lU pW 24 3) []):=by rfl'
theorem Vq:aw (defs pW) 245=some (.pure,fnAt (aR pW 25) []):=by rfl'
theorem Vr:aw (defs pW) 252=some (.pure,fnAt (aR pW 26) []):=by rfl'
theorem Vs:aw (defs pW) 315=some (.pure,fnAt (lU pW 29 1) []):=by rfl'
theorem Vt:aw (defs pW) 349=some (.pure,fnAt (lU pW 30 1) []):=by rfl'
theorem Vu:aw (defs pW) 383=some (.pure,fnAt (lU pW 31 1) []):=by rfl'
theorem Vv:aw (defs pW) 424=some (.pure,fnAt (lU pW 32 1) []):=by rfl'
theorem Vx:aw (defs pW) 475=some (.pure,fnAt (lU pW 33 1) []):=by rfl'
theorem PA:aw (defs pW) 587=some (.pure,fnAt (aR pW 43) []):=by rfl'
theorem Vy:aw (defs pW) 650=some (.pure,fnAt (aR pW 57) []):=by rfl'
theorem Vz:aw (defs pW) 657=some (.pure,fnAt (aR pW 58) []):=by rfl'
theorem PB:aw (defs pW) 763=some (.pure,fnAt (aR pW 73) []):=by rfl'
theorem VA:aw (defs pW) 784=some (.pure,fnAt (lU pW 80 1) []):=by rfl'
theorem VB:aw (defs pW) 826=some (.shared,fnAt (lU pW 81 3) []):=by rfl'
theorem VC:aw (defs pW) 833=some (.shared,fnAt (lU pW 81 4) []):=by rfl'
theorem VD:aw (defs pW) 840=some (.shared,fnAt (lU pW 81 5) []):=by rfl'
theorem PC:aw (defs pW) 873=some (.pure,fnAt (aR pW 85) []):=by rfl'
theorem VE:aw (defs pW) 880=some (.pure,fnAt (aR pW 86) []):=by rfl'
theorem VF:aw (defs pW) 887=some (.pure,fnAt (aR pW 87) []):=by rfl'
theorem PD:aw (defs pW) 894=some (.pure,fnAt (aR pW 88) []):=by rfl'
theorem VG:aw (defs pW) 901=some (.pure,fnAt (aR pW 89) []):=by rfl'
theorem VH:aw (defs pW) 915=some (.pure,fnAt (aR pW 91) []):=by rfl'
theorem K7:aw (defs pW) 922=some (.pure,fnAt (aR pW 92) []):=by rfl'
theorem VI:aw (defs pW) 929=some (.pure,fnAt (aR pW 93) []):=by rfl'
theorem VJ:aw (defs pW) 934=some (.pure,fnAt (aR pW 94) []):=by rfl'
theorem VK:aw (defs pW) 941=some (.pure,fnAt (aR pW 95) []):=by rfl'
theorem K8:aw (defs pW) 946=some (.pure,fnAt (aR pW 96) []):=by rfl'
theorem VL:aw (defs pW) 954=some (.pure,fnAt (aR pW 97) [.int (0)]):=by rfl'
theorem PE:aw (defs pW) 962=some (.pure,fnAt (aR pW 98) [.int (0)]):=by rfl'
theorem VM:aw (defs pW) 969=some (.pure,fnAt (aR pW 99) []):=by rfl'
theorem VN:aw (defs pW) 976=some (.pure,fnAt (aR pW 100) []):=by rfl'
theorem VO:aw (defs pW) 981=some (.pure,fnAt (aR pW 101) []):=by rfl'
theorem VP:aw (defs pW) 989=some (.pure,fnAt (aR pW 102) [.int (0)]):=by rfl'
theorem Bm:aw (defs pW) 1090=some (.pure,fnAt (lU pW 114 4) []):=by rfl'
theorem PF:aw (defs pW) 1180=some (.raw,fnAt (aR pW 124) []):=by rfl'
theorem IH:aw (defs pW) 1187=some (.yM,fnAt (aR pW 125) []):=by rfl'
theorem PG:aw (defs pW) 1194=some (.yM,fnAt (aR pW 126) []):=by rfl'
theorem II:aw (defs pW) 1201=some (.yM,fnAt (aR pW 127) []):=by rfl'
theorem PH:aw (defs pW) 1208=some (.yM,fnAt (aR pW 128) []):=by rfl'
theorem PI:aw (defs pW) 1215=some (.pure,fnAt (aR pW 129) []):=by rfl'
theorem PJ:aw (defs pW) 1220=some (.pure,fnAt (aR pW 130) []):=by rfl'
theorem PK:aw (defs pW) 1227=some (.pure,fnAt (aR pW 131) []):=by rfl'
theorem PL:aw (defs pW) 1232=some (.pure,fnAt (aR pW 132) []):=by rfl'
theorem PM:aw (defs pW) 1239=some (.pure,fnAt (aR pW 133) []):=by rfl'
theorem PN:aw (defs pW) 1244=some (.pure,fnAt (aR pW 134) []):=by rfl'
theorem IJ:aw (defs pW) 1249=some (.yM,fnAt (aR pW 135) []):=by rfl'
theorem PO:aw (defs pW) 1254=some (.pure,fnAt (aR pW 136) []):=by rfl'
end
section
set_option autoImplicit true
open PySem PySem.W PyProof.Rows PySem.Calls
theorem cF{α:Type}{b:Bool}{x y:α}(h:b=false):(bif b then x else y)=y:=by rw[h];rfl
theorem cT{α:Type}{b:Bool}{x y:α}(h:b=true):(bif b then x else y)=x:=by rw[h];rfl
theorem cD{α:Type}{p:Prop} [Decidable p]{x y:α}(h:p):(bif decide p then x else y)=x:=cT (decide_eq_true h)
theorem cN{α:Type}{p:Prop} [Decidable p]{x y:α}(h:¬p):(bif decide p then x else y)=y:=cF (decide_eq_false h)
theorem bu.up(h:d<=d')(R:bu d' fs A):bu d fs A:=⟨R.frames,R.handled,R.guards,Nat.le_trans (Nat.add_le_add_left (Nat.mul_le_mul_left 4 h) _) R.depth,Nat.le_trans (Nat.add_le_add_left (Nat.mul_le_mul_left 40 h) _) R.units⟩
theorem bO.up(h:d<=d')(x:bO d sp a):bO d' sp a:=fun fs A Rm=>x fs A (Rm.up h)
theorem ov.up(h:d<=d')(x:ov d tab):ov d' tab:=⟨fun a sp e=>(x.spec a sp e).up h,x.keep⟩
noncomputable def Le(a b:aq):Prop:=∀out,a=some out->b=some out
theorem Le.rfl{a:aq}:Le a a:=fun _ h=>h
theorem Le.none{a:aq}:Le none a:=fun _ h=>nn h
theorem Le.trans{a b c:aq}(h:Le a b)(h2:Le b c):Le a c:=fun o q=>h2 o (h o q)
theorem Le.of_eq{a b:aq}(h:a=b):Le a b:=fun out q=>h▸q
noncomputable def Bn(F sp:Spec):Prop:=∀args c k,Le (F args c k) (sp args c k)
theorem bO.le(l:Bn F sp)(h:bO d sp a):bO d F a:=fun fs A Rm args vs S r k kx out Q E e ok ex=>h fs A Rm args vs S r k kx out Q E (l _ _ _ _ e) ok ex
noncomputable abbrev TN:=zx pW
noncomputable abbrev cC(S:Tab)(n:Nat):Prop:=ov (n+2) S
structure bG(n a:Nat)(F:Spec):Prop where
 spec:bO (n+2) F a
 keep:fg (.ref a)
theorem bG.up(h:n<=m)(x:bG n a F):bG m a F:=⟨x.spec.up (Nat.add_le_add_right h 2),x.keep⟩
theorem bG.le(x:bG n a sp)(l:Bn F sp):bG n a F:=⟨x.spec.le l,x.keep⟩
noncomputable def cU:List (Nat×Spec)->Tab->Tab
 |[],S=>S
 |(a,F)::r,S=>fun b=>bif Nat.beq a b then some F else cU r S b
theorem Bo{S:Tab}(h:bG n a F)(G:cC (cU r S) n):cC (cU ((a,F)::r) S) n:=by
 have k:∀b sp,cU ((a,F)::r) S b=some sp->bG n b sp:=fun b sp e=>by
  have e:(bif Nat.beq a b then some F else cU r S b)=some sp:=e
  cases q:Nat.beq a b with
  |false=>rw[q]at e;exact⟨G.spec b sp e,G.keep b sp e⟩
  |true=>rw[q]at e;cases e;cases Nat.eq_of_beq_eq_true q;exact h
 exact⟨fun b sp e=>(k b sp e).spec,fun b sp e=>(k b sp e).keep⟩
theorem ig(h:m<=n):cC (TN m) n:=(Bl m).up (Nat.add_le_add_right h 2)
theorem bI(n:Nat):cC (TN n) n:=ig (Nat.le_refl n)
theorem aP(hn:8<=n)(L:List (Nat×Spec)):(∀p∈L,bG n p.1 p.2)->cC (cU L (TN 8)) n:=by
 induction L with
 |nil=>exact fun _=>ig hn
 |cons p r ih=>exact fun h=>Bo (h p (.head _)) (ih fun p hp=>h p (.tail _ hp))
theorem jJ{S:Tab}{f:Fn}(hf:aw (defs pW) a=some (m,f))(hs:cC S n):bG (n+1) a (gJ bD S m f):=⟨vP ⟨hs,uq,Yd⟩ hf,mi hf⟩
theorem PP(h:TN n a=some sp):bG n a sp:=⟨(Bl n).spec a sp h,(Bl n).keep a sp h⟩
theorem fE{S:Tab}{f:Fn}(G:cC (cU L S) n)(h:aw (defs pW) a=some (m,f))(hs:Bn sp (gJ bD (cU L S) m f)):cC (cU ((a,sp)::L) S) (n+1):=Bo ((jJ h G).le hs) (G.up (Nat.le_succ _))
theorem x4(b:Nat):cC (cU [] (TN b)) (b+1):=ig (Nat.le_succ _)
noncomputable def Fy(r:Option T)(k:Kn)(c:aa):aq:=match r with
 |some t=>k (.ok (.t t)) c
 |none=>k .exc c
noncomputable def pk(c:aa)(k:Kn):Kn:=fun r c' =>match r with
 | .exc=>k .exc c
 | .ok v=>ob (fr aN c' v) fun q=>k (.ok (.t q.1)) c
noncomputable def x5(p:Prop):Bool:= @decide p (Classical.propDecidable _)
theorem nh{p:Prop}(h:p):x5 p=true:= @decide_eq_true _ (Classical.propDecidable _) h
theorem db{p:Prop}(h:x5 p=true):p:= @of_decide_eq_true _ (Classical.propDecidable _) h
theorem PQ{p:Prop}(h:¬p):x5 p=false:= @decide_eq_false _ (Classical.propDecidable _) h
noncomputable abbrev Sem:=List T->(T->aq)->aq->aq
noncomputable def Pure(sem:Sem):Spec:=fun args c k=>ob (iF (fr aN) c args) fun p=>sem p.1 (fun t=>k (.ok (.t t)) p.2) (k .exc p.2)
theorem jK{sem:Sem}{f:Fn}(h:∀ts c k,Le (sem ts (fun t=>k (.ok (.t t)) c) (k .exc c)) (an bD S f (ts.map .t) [] (pk c k))):Bn (Pure sem) (gJ bD S .pure f):=fun args c k out e=>ae e fun p e1 e=>by
 show ob (iF (fr aN) c args) _=some out
 rw[e1]
 exact h _ _ _ _ e
noncomputable def jM:Option T->Mine.R
 |some t=> .ok (.t t)
 |none=> .exc
theorem Fz(r:Option T)(k:Kn)(c:aa):Fy r k c=k (jM r) c:=by cases r<;>rfl
noncomputable def pc(ts:List T)(r:Option T):Spec:=Pure fun T9 K E=>bif x5 (T9=ts)then(match r with|some t=>K t|none=>E)else none
noncomputable abbrev aH(n a:Nat)(ts:List T)(r:Option T):Prop:=bG n a (pc ts r)
theorem FA(h:aH n a ts r)(hm:n<=m):aH m a ts r:=h.up hm
theorem ak{f:Fn}(hf:aw (defs pW) a=some (.pure,f))(hs:cC S n)(h:∀c k,an bD S f (ts.map .t) [] (pk c k)=k (jM r) c):aH (n+1) a ts r:=
 (jJ hf hs).le (jK fun T9 c k out e=>aE e fun q e1=>by
  cases db q
  rw[h]
  cases r<;>exact e1)
noncomputable def cp(Q:List V->Bool)(r:Mine.R):Spec:=fun args c k=>bif Q args then k r c else none
noncomputable def isA(a b:List V):Bool:=x5 (b=a)
theorem aK(a:List V):isA a a=true:=nh rfl
theorem Bp{a b:List V}(h:b≠a):isA a b=false:=PQ h
theorem ll(n:Nat)(c:aa)(ts:List T):iF (fr n) c (ts.map .t)=some (ts,c):=by
 induction ts with
 |nil=>rfl
 |cons t ts ih=>
  have h:fr n c (.t t)=some (t,c):=by cases n<;>rfl
  rw[List.map_cons,iF,h]
  show ob (iF (fr n) c (ts.map .t)) _=_
  rw[ih]
  rfl
theorem vQ{args:List V}(hc:iF (fr aN) c args=some (ts,c1)):pc ts r args c k=k (jM r) c1:=by
 show ob (iF (fr aN) c args) _=_
 rw[hc]
 show(bif x5 (ts=ts)then _ else none)=_
 rw[nh rfl]
 cases r<;>rfl
theorem bf{args:List V}(ha:True)(h:aH n a ts r){n' :Nat}(hm:n<=n' +1)(e:args=ts.map .t):bG (n' +1) a (cp (isA args) (jM r)):=(h.up hm).le fun PR c k out q=>aE q fun q1 q=>by
 rw[db q1,e,vQ (ll _ _ _)]
 exact q
noncomputable abbrev Qs:=List V->aa->Bool
noncomputable def ck(Q:Qs)(r:Mine.R)(c1:aa):Spec:=fun args c k=>bif Q args c then k r c1 else none
noncomputable def DF(P:List V->Bool)(F G:Spec):Spec:=fun args c k=>bif P args then F args c k else G args c k
noncomputable def isQ(PS:List V)(c0:aa):Qs:=fun args c=>x5 (args=PS/\c=c0)
theorem fF(a:List V)(c:aa):isQ a c a c=true:=nh ⟨rfl,rfl⟩
theorem aM{a:List V}{x:aq}:(bif isA a a then x else none)=x:=cT (aK a)
theorem dw{a:List V}{c:aa}{x:aq}:(bif isQ a c a c then x else none)=x:=cT (fF a c)
noncomputable abbrev dx(n a:Nat)(args:List V)(c0:aa)(r:Mine.R)(c1:aa):Prop:=bG n a (ck (isQ args c0) r c1)
theorem jN{n:Nat}(ha:True)(h:dx (n+1) a args c0 r c1):bG (n+1) a (ck (isQ args c0) r c1):=h
theorem vR(h:∀k,Le (k r c1) (sp args c0 k)):Bn (ck (isQ args c0) r c1) sp:=fun PR c k out e=>aE e fun q e1=>by
 cases (db q).1
 cases (db q).2
 exact h k _ e1
theorem x6(q:(TN n a).isSome=true)(h:∀k,Le (k r c1) (lI (TN n) a args c0 k)):dx n a args c0 r c1:=by
 cases e:TN n a with
 |none=>rw[e]at q;exact nomatch q
 |some sp=>
  refine(PP e).le (vR fun k out w=> ?_)
  have z:=h k out w
  unfold lI at z
  rw[e]at z
  exact z
noncomputable def has(a:Nat):Bool:=(aw (defs pW) a).isSome||(aw makes a).isSome
theorem eI(h:has a=true):fg (.ref a):=(Bool.or_eq_true_iff.mp h).elim (fun h=>(Option.isSome_iff_exists.mp h).elim fun q e=>mi (m:=q.1) (f:=q.2) e) fun h=>(Option.isSome_iff_exists.mp h).elim fun q e=>sq e
theorem gU(kp:fg (.ref a))(h:∀args c k out,F args c k=some out->∃G,bG n a G/\G args c k=some out):bG n a F:=⟨fun fs A Rm args vs S r k kx out Q E e ok ex=>(h _ _ _ _ e).elim fun G q=>q.1.spec fs A Rm args vs S r k kx out Q E q.2 ok ex,kp⟩
theorem aH.gives(h:aH n a ts r)(hm:n<=m){c:aa}{k:Kn}(e:k (jM r) c=some out):∃G,bG m a G/\G (ts.map .t) c k=some out:=⟨_,h.up hm,(vQ (ll _ _ _)).trans e⟩
theorem Br(h1:bG n a F)(h2:bG n a G):bG n a (DF P F G):=⟨fun fs A Rm args vs S r k kx out Q E e ok ex=>by
 have e:(bif P args then F args S.c _ else G args S.c _)=some out:=e
 cases q:P args with
 |true=>rw[q]at e;exact h1.spec fs A Rm args vs S r k kx out Q E e ok ex
 |false=>rw[q]at e;exact h2.spec fs A Rm args vs S r k kx out Q E e ok ex,h1.keep⟩
theorem dG(hm:n<=m)(h:dx n a args c0 r c1):dx m a args c0 r c1:=h.up hm
theorem aH.frozen(h:aH n a ts r){args:List V}(hc:iF (fr aN) c args=some (ts,c1)):dx n a args c (jM r) c1:=h.le (vR fun k=> .of_eq (vQ hc).symm)
theorem aH.cells(h:aH n a ts r)(c:aa):dx n a (ts.map .t) c (jM r) c:=h.frozen (ll _ _ _)
noncomputable def IK(n:Nat)(k:Kn):Kn:=fun r c' =>match r with
 | .exc=>ju n c' (k .exc)
 | .ok v=>ob (fr aN c' v) fun q=>ju n q.2 (k (.ok (.t q.1)))
theorem gV{f:Fn}(hf:aw (defs pW) a=some (.shared,f))(hs:cC S n)(h:∀k,an bD S f args c0 (IK c0.length k)=k r c1):dx (n+1) a args c0 r c1:=(jJ hf hs).le (vR fun k=> .of_eq (h k).symm)
theorem Bt{f:Fn}(hf:aw (defs pW) a=some (.raw,f))(hs:cC S n)(h:∀k,an bD S f args c0 k=k r c1):dx (n+1) a args c0 r c1:=(jJ hf hs).le (vR fun k=> .of_eq (h k).symm)
noncomputable def kj(F:List T->Cell->Option (T×Cell)):Spec:=fun args c k=>ob (tH args) fun as=>ob (iF (fr aN) c as) fun q=>ob q.2[0]? fun p=>ob (F q.1 p) fun w=>k (.ok (.t w.1)) (q.2.set 0 w.2)
noncomputable def lm(K:T->Cell->aq):Kn:=fun r c' =>match r with
 | .exc=>none
 | .ok v=>ob (fr aN c' v) fun w=>ob w.2[0]? fun p' =>bif cZ 1 p' then K w.1 p' else none
noncomputable def VQ(ts:List T)(p:Cell)(t:T)(p' :Cell):List T->Cell->Option (T×Cell):=fun T9 q=>bif x5 (T9=ts/\q=p)then some (t,p')else none
noncomputable abbrev gr(n a:Nat)(ts:List T)(p:Cell)(t:T)(p' :Cell):Prop:=bG n a (kj (VQ ts p t p'))
theorem dH{S:Tab}{f:Fn}(hf:aw (defs pW) a=some (.yM,f))(hs:cC S n)(hp:cZ 1 p=true)(h:∀K,an bD S f (.loc 0::ts.map .t) [p] (lm K)=K t p'):gr (n+1) a ts p t p' :=(jJ hf hs).le fun args c k out e=>by
 refine ae e fun as e0 e=>ae e fun q e1 e=>ae e fun x e2 e=>ae e fun w e3 e=> ?_
 refine aE e3 fun z ew=> ?_
 have z:=db z
 cases ew
 show ob (tH args) _=some out
 rw[e0]
 show ob (iF (fr aN) c as) _=some out
 rw[e1]
 show ob q.2[0]? _=some out
 rw[e2]
 show(bif cZ 1 x then an bD S f (.loc 0::q.1.map .t) [x] (lm fun t p' =>k (.ok (.t t)) (q.2.set 0 p'))else none)=some out
 rw[z.1,z.2,hp,cond_true,h]
 exact e
theorem Bu{F:List T->Cell->Option (T×Cell)}(kp:has a=true)(h:∀ts p w,F ts p=some w->gr n a ts p w.1 w.2):bG n a (kj F):=gU (eI kp) fun args c k out e=>ae e fun as e0 e1=>ae e1 fun q e2 e3=>ae e3 fun x e4 e5=>ae e5 fun w e6 e7=>⟨_,h _ _ _ e6,by
 show ob (tH args) _=some out
 rw[e0]
 show ob (iF (fr aN) c as) _=some out
 rw[e2]
 show ob q.2[0]? _=some out
 rw[e4]
 show ob (bif x5 (q.1=q.1/\x=x)then _ else none) _=some out
 rw[nh ⟨rfl,rfl⟩]
 exact e7⟩
noncomputable def IL(P:List T->Cell->T->Cell->Prop)(n a:Nat):List T->Cell->Option (T×Cell):=fun ts p=> @dite _ (∃w:T×Cell,P ts p w.1 w.2/\gr n a ts p w.1 w.2) (Classical.propDecidable _) (fun h=>some h.choose) fun _=>none
theorem qu{P:List T->Cell->T->Cell->Prop}(kp:has a=true):bG n a (kj (IL P n a)):=Bu kp fun ts p w e=>by
 unfold IL at e
 split at e
 ·rename_i h
  cases e
  exact h.choose_spec.2
 ·exact nn e
theorem qv{P:List T->Cell->T->Cell->Prop}(h:P ts p t p')(s:gr n a ts p t p'){G:Prop}(k:∀t p',P ts p t p' ->IL P n a ts p=some (t,p')->G):G:=
 have h:∃w:T×Cell,P ts p w.1 w.2/\gr n a ts p w.1 w.2:=⟨(t,p'),h,s⟩
 k h.choose.1 h.choose.2 h.choose_spec.1 (by unfold IL;exact dif_pos h)
theorem eJ{x:Cx}{n m:Nat}{ex:Ex}{e:Expr}{b:List Stmt}{l:Loc}{c:aa}{k:Ko}:dz x n ex e b (m+1) l c k=aB x n e l c (fun v c=>bif v then ex b l c (gH (fun l c=>dz x n ex e b m l c k) k)else k .next l c) fun c=>k .exc l c:=rfl
theorem Bv{sc:Scope}{ex:Ex}{tg:Expr}{b:List Stmt}{v:T}{vs:List T}{l:Loc}{c:aa}{k:Ko}:bM sc ex tg b (v::vs) l c k=ob (mK sc tg v l) fun l=>ex b l c (gH (fun l c=>bM sc ex tg b vs l c k) k):=rfl
noncomputable abbrev st(x:String):Str:=Str.ofString x
noncomputable abbrev I(i:Int):T:= .int i
noncomputable abbrev N(i:Nat):T:= .int (i:Int)
noncomputable abbrev B(b:Bool):T:= .bool b
noncomputable abbrev Z(s:String):T:= .str (st s)
theorem TP{n a:Nat}{F:Spec}(h:bG n a F):∀p∈[(a,F)],bG n p.1 p.2:=fun p hp=>by cases List.mem_singleton.mp hp;exact h
noncomputable def t1(ts:List α)(f:α->Option β):Option β:=match ts with|[a]=>f a|_=>none
noncomputable def t2(ts:List α)(f:α->α->Option β):Option β:=match ts with|[a,b]=>f a b|_=>none
noncomputable def t3(ts:List α)(f:α->α->α->Option β):Option β:=match ts with|[a,b,c]=>f a b c|_=>none
section
variable{α β:Type}{x:β}{G:Prop}{ts:List α}
theorem IM{f:α->Option β}(h:t1 ts f=some x)(k:∀a,ts=[a]->f a=some x->G):G:=by
 cases ts with
 |nil=>exact nn h
 |cons a r=>cases r with
  |nil=>exact k a rfl h
  |cons _ _=>exact nn h
theorem su{f:α->α->Option β}(h:t2 ts f=some x)(k:∀a b,ts=[a,b]->f a b=some x->G):G:=by
 cases ts with
 |nil=>exact nn h
 |cons a r=>cases r with
  |nil=>exact nn h
  |cons b r=>cases r with
   |nil=>exact k a b rfl h
   |cons _ _=>exact nn h
theorem IN{f:α->α->α->Option β}(h:t3 ts f=some x)(k:∀a b c,ts=[a,b,c]->f a b c=some x->G):G:=by
 cases ts with
 |nil=>exact nn h
 |cons a r=>cases r with
  |nil=>exact nn h
  |cons b r=>cases r with
   |nil=>exact nn h
   |cons c r=>cases r with
    |nil=>exact k a b c rfl h
    |cons _ _=>exact nn h
end
theorem Bw{v:V}{t:T}(h:qV v=some t):v= .t t:=by
 cases v with
 |t y=>exact congrArg V.t (Option.some.inj h)
 |loc i=>exact nn h
theorem jO{xs:List V}:∀{ts:List T},iw xs=some ts->xs=ts.map .t:=by
 induction xs with
 |nil=>exact fun h=>Option.some.inj h▸rfl
 |cons v r ih=>exact fun h=>ae h fun t e1 h=>ae h fun us e2 h=>by rw[<-Option.some.inj h,Bw e1,ih e2];rfl
end
section
set_option autoImplicit true
open PySem
noncomputable def dk:Expr:= .Constant .none 0 ⟨0,0,0,0⟩
noncomputable def a7:Stmt->Expr| .For t _ _ _ _=>t|_=>dk
noncomputable def aV:Stmt->List Stmt| .For _ _ b _ _=>b|_=>[]
noncomputable def ur:Stmt->Expr| .While t _ _ _=>t|_=>dk
noncomputable def lO:Stmt->List Stmt| .While _ b _ _=>b|_=>[]
noncomputable abbrev cx(S:Tab)(f:Fn):Cx:=⟨S,bD.glob,bD.cw,f.scope⟩
noncomputable def f8:List UInt8->Nat
 |[]=>0
 |x::r=>x.toNat+256*f8 r
theorem Bx:∀bs:List UInt8,f8 bs<256^bs.length
 |[]=>by simp [f8]
 |x::r=>by
  have:=Bx r
  have hx:x.toNat<256:=x.toNat_lt
  rw[f8,List.length_cons,Nat.pow_succ]
  omega
noncomputable abbrev KK(c:aa)(k:Kn):Ko:=fun o _ c' =>match o with
 | .next=>pk c k (.ok (.t .none)) c'
 | .ret v=>pk c k (.ok v) c'
 | .exc=>pk c k .exc c'
 |_=>none
noncomputable abbrev iI(x:Cx)(n:Nat)(ss:List Stmt)(k:Ko):Ko:=fun o l c=>match o with
 | .next=>ah x n ss l c k
 |o=>k o l c
theorem K9{w x s:Nat}(h:w<2^s):w|||x*2^s=w+2^s*x:=by
 rw[Nat.mul_comm x,Nat.or_comm,Nat.add_comm]
 exact(Nat.two_pow_add_eq_or_of_lt h x).symm
noncomputable def ut:Fn:=fnAt (aR pW 9) []
noncomputable def IO:Stmt:=fu (fB (aR pW 9)) 2
noncomputable def PU(bs:List UInt8)(w s:Int):Option Int->Loc
 |none=>[(st "octets",.t (.bytes bs)),(st "worth",.t (.int w)),(st "shift",.t (.int s))]
 |some o=>[(st "octets",.t (.bytes bs)),(st "worth",.t (.int w)),(st "shift",.t (.int s)),(st "octet",.t (.int o))]
theorem FC(S:Tab)(b0:List UInt8)(w s x:Int)(t:Option Int)(rest:List T)(c:aa)(k:Ko):
  bM ut.scope (ah (cx S ut) 36) (a7 IO) (aV IO) (.int x::rest) (PU b0 w s t) c k=
   (bif decide (0<=s)&&decide (s<=1024)&&decide (0<=x)&&decide (x<2^64)then bif decide (0<=w)&&decide (0<=x*2^s.toNat)then
    bM ut.scope (ah (cx S ut) 36) (a7 IO) (aV IO) rest (PU b0 (Int.ofNat (w.toNat|||(x*2^s.toNat).toNat)) (s+8) (some x)) c k else none else none):=by
 induction t<;>rfl'
theorem vS(S:Tab)(b0:List UInt8)(c:aa)(k:Ko):∀(bs:List UInt8) (w s:Nat) (t:Option Int),w<2^s->s+8*bs.length<=512->∃t',bM ut.scope (ah (cx S ut) 36) (a7 IO) (aV IO) (bs.map fun o=> .int o.toNat) (PU b0 w s t) c k=
  k .next (PU b0 ((w+2^s*f8 bs:Nat):Int) ((s+8*bs.length:Nat):Int) t') c
 |[],w,s,t,h1,h2=>⟨t,by simp [f8,bM,lJ]⟩
 |x::bs,w,s,t,h1,h2=>by
  have hx:x.toNat<256:=x.toNat_lt
  rw[List.length_cons]at h2
  rw[List.map_cons,FC]
  have e1:(decide (0<=(s:Int))&&decide ((s:Int)<=1024)&&decide (0<=(x.toNat:Int))&&decide ((x.toNat:Int)<2^64))=true:=by
   simp only[Bool.and_eq_true,decide_eq_true_eq];(clear h1;lia)
  have e3:(x.toNat:Int)*2^(s:Int).toNat=((x.toNat*2^s:Nat):Int):=by push_cast;rfl
  have e2:(decide (0<=(w:Int))&&decide (0<=(x.toNat:Int)*2^(s:Int).toNat))=true:=by
   rw[e3];simp only[Bool.and_eq_true,decide_eq_true_eq];omega
  rw[e1,e2,e3]
  simp only[cond_true,Int.toNat_natCast]
  have e4:w|||x.toNat*2^s=w+2^s*x.toNat:=K9 h1
  rw[e4]
  have h3:w+2^s*x.toNat<2^(s+8):=by
   rw[Nat.pow_add]
   have:2^s*x.toNat<=2^s*255:=Nat.mul_le_mul_left _ (by exact Nat.le_of_lt_succ hx)
   (clear e4 e2 e3 e1 hx h2;lia)
  obtain⟨t',ih⟩:=vS S b0 c k bs (w+2^s*x.toNat) (s+8) (some x.toNat) h3 (by(clear h3 e4 e2 e3 e1 hx h1;lia))
  refine⟨t',?_⟩
  have e5:((s:Int)+8)=((s+8:Nat):Int):=by push_cast;rfl
  rw[e5]
  refine Eq.trans ih ?_
  rw[show s+8+8*bs.length=s+8*(x::bs).length by rw[List.length_cons];exact Nat.add_right_comm _ _ _,
   show w+2^s*x.toNat+2^(s+8)*f8 bs=w+2^s*f8 (x::bs) by
    rw[f8,Nat.pow_add,Nat.mul_add,Nat.mul_assoc (2^s) (2^8),Nat.add_assoc]]
noncomputable def sv:Sem:=fun ts K E=>t1 ts fun a=>ob (lG a) fun bs=>bif decide (bs.length<=40)then K (.int (f8 bs))else none
theorem PV{bs:List UInt8}(h:bs.length<=40)(K:T->aq)(E:aq):sv [.bytes bs] K E=K (.int (f8 bs)):=cD h
theorem By(S:Tab)(bs:List UInt8)(c:aa)(k:Kn):an bD S ut [.t (.bytes bs)] [] (pk c k)=
  bM ut.scope (ah (cx S ut) 36) (a7 IO) (aV IO) (bs.map fun o=> .int o.toNat) (PU bs 0 0 none) [] (iI (cx S ut) 37 (ut.body.drop 3) (KK c k)):=by rfl'
theorem FD(S:Tab)(bs:List UInt8)(h:bs.length<=40)(c:aa)(k:Kn):an bD S ut [.t (.bytes bs)] [] (pk c k)=k (.ok (.t (.int (f8 bs)))) c:=by
 rw[By]
 refine(vS S bs [] (iI (cx S ut) 37 (ut.body.drop 3) (KK c k)) bs 0 0 none (by decide) (by lia)).elim fun t' e=>e.trans ?_
 rw[Nat.pow_zero,Nat.one_mul,Nat.zero_add]
 induction t' <;>rfl'
theorem PX(S:Tab):Bn (Pure sv) (gJ bD S .pure ut):=jK fun ts c k out e=>IM e fun a ea e=>ae e fun bs eb e=>aE e fun h e9=>by
 subst ea
 cases d9 eb
 exact(FD S bs (of_decide_eq_true h) c k).trans e9
end
section
open PySem
noncomputable abbrev sx:Tab:=TN 8
noncomputable abbrev L1:List (Nat×Spec):=[(113,Pure sv)]
noncomputable abbrev S1:Tab:=cU L1 sx
theorem PY:cC S1 10:=fE (x4 8) Vn (PX _)
noncomputable def PZ(w s:Int):Int:=bif decide (2^s.toNat<=2*w)then w-2^s.toNat else w
noncomputable def Bz:Sem:=fun ts K E=>t2 ts fun a b=>ob (iO a) fun w=>ob (iO b) fun s=>bif decide (0<=w)&&decide (1<=s)&&decide (s<=64)&&decide (w<2^s.toNat)then K (.int (PZ w s))else none
noncomputable def VR:Fn:=fnAt (aR pW 8) []
theorem La(w s:Int)(c:aa)(k:Kn):an bD S1 VR [.t (.int w),.t (.int s)] [] (pk c k)=
  (bif decide (0<=s)&&decide (s<=1024)&&decide ((0:Int)<=1)&&decide ((1:Int)<2^64)then
   bif decide (0<=w)&&decide (0<=1*2^s.toNat-(1:Int))then
    bif decide (0<=s-1)&&decide (0<=Int.ofNat (w.toNat&&&(1*2^s.toNat-(1:Int)).toNat))then
     bif decide (Int.ofNat (w.toNat&&&(1*2^s.toNat-(1:Int)).toNat)/2^(s-1).toNat=1)then
      bif decide (0<=s)&&decide (s<=1024)&&decide ((0:Int)<=1)&&decide ((1:Int)<2^64)then
       k (.ok (.t (.int (Int.ofNat (w.toNat&&&(1*2^s.toNat-(1:Int)).toNat)-1*2^s.toNat)))) c
      else none
     else k (.ok (.t (.int (Int.ofNat (w.toNat&&&(1*2^s.toNat-(1:Int)).toNat))))) c
    else none
   else none
  else none):=by rfl'
theorem BA{n s:Nat}(h:n<2^s):n&&&(2^s-1)=n:=by
 rw[Nat.and_two_pow_sub_one_eq_mod];exact Nat.mod_eq_of_lt h
theorem FE{n m:Nat}(h2:1<=(m:Int))(h3:(m:Int)<=64)(h4:(n:Int)<2^(m:Int).toNat)(c:aa)(k:Kn):k (.ok (.t (.int (PZ n m)))) c=an bD S1 VR [.t (.int n),.t (.int m)] [] (pk c k):=by
 rw[La]
 have hp:((2:Int)^m)=((2^m:Nat):Int):=by push_cast;rfl
 have hn:n<2^m:=by
  rw[Int.toNat_natCast,hp]at h4;exact Int.ofNat_lt.mp h4
 have h0:0<2^m:=Nat.pow_pos (by decide)
 have e0:(1*2^((m:Int)).toNat-(1:Int))=((2^m-1:Nat):Int):=by
  rw[Int.toNat_natCast,hp];omega
 have e1:Int.ofNat ((n:Int).toNat&&&(1*2^((m:Int)).toNat-(1:Int)).toNat)=(n:Int):=by
  rw[e0,Int.toNat_natCast,Int.toNat_natCast,BA hn];rfl
 rw[e1,e0]
 have g1:(decide (0<=(m:Int))&&decide ((m:Int)<=1024)&&decide ((0:Int)<=1)&&decide ((1:Int)<2^64))=true:=by
  simp only[Bool.and_eq_true,decide_eq_true_eq];(clear e1 e0 h0 hn hp h4 h2;lia)
 have g2:(decide (0<=(n:Int))&&decide (0<=((2^m-1:Nat):Int)))=true:=by
  simp only[Bool.and_eq_true,decide_eq_true_eq];omega
 have g3:(decide (0<=(m:Int)-1)&&decide (0<=(n:Int)))=true:=by
  simp only[Bool.and_eq_true,decide_eq_true_eq];(clear g2 g1 e1 e0 h0 hn hp h4 h3;lia)
 rw[g1,g2,g3]
 simp only[cond_true]
 unfold PZ
 rw[Int.toNat_natCast,hp]
 have hm:((m:Int)-1).toNat=m-1:=by(clear g3 g2 g1 e1 e0 h0 hn hp h4 h2 h3;lia)
 have hq:(2:Int)^(m-1)=((2^(m-1):Nat):Int):=by push_cast;rfl
 have h5:2^m=2*2^(m-1):=by rw[<-Nat.pow_succ'];congr 1;(clear hq hm g3 g2 g1 e1 e0 h0 hn hp h4 h3;lia)
 have h6:0<2^(m-1):=Nat.pow_pos (by decide)
 rw[hm,hq]
 have e7:(n:Int)/((2^(m-1):Nat):Int)=((n/2^(m-1):Nat):Int):=rfl
 rw[e7]
 by_cases q:2^(m-1)<=n
 ·have e8:n/2^(m-1)=1:=Nat.div_eq_of_lt_le (by(clear e7 h6 h5 hq hm g3 g2 g1 e1 e0 h0 hn hp h4 h2 h3;lia)) (by exact h5▸hn)
  rw[e8,cD (by(clear e8 e7 h6 hq hm g3 g2 g1 e1 e0 h0 hn hp h4 h2 h3;lia)),cD (by rfl)]
  congr 4;(clear e8 q e7 h6 h5 hq hm g3 g2 g1 e1 e0 h0 hn hp h4 h2 h3;lia)
 ·have e8:n/2^(m-1)=0:=Nat.div_eq_of_lt (by(clear e7 h6 h5 hq hm g3 g2 g1 e1 e0 h0 hn hp h4 h2 h3;lia))
  rw[e8,cN (by(clear e8 e7 h6 hq hm g3 g2 g1 e1 e0 h0 hn hp h4 h2 h3;lia)),cN (by decide)]
theorem P0:Bn (Pure Bz) (gJ bD S1 .pure VR):=jK fun ts c k out e=>su e fun a b ea e=>ae e fun w ew e=>ae e fun s es e=>aE e fun h e9=>by
 subst ea
 cases cn ew
 cases cn es
 simp only[Bool.and_eq_true,decide_eq_true_eq]at h
 refine(Int.eq_ofNat_of_zero_le h.1.1.1).elim fun n en=>(Int.eq_ofNat_of_zero_le (Int.le_trans (by decide) h.1.1.2)).elim fun m em=> ?_
 subst en
 subst em
 exact(FE h.1.1.2 h.1.2 h.2 c k).symm.trans e9
noncomputable abbrev L2:List (Nat×Spec):=(106,Pure Bz)::L1
noncomputable abbrev S2:Tab:=cU L2 sx
theorem good2:cC S2 11:=fE PY Vm P0
noncomputable def x7(bs:List UInt8):Int:=PZ (f8 bs) (8*bs.length)
noncomputable def sy:Sem:=fun ts K E=>t1 ts fun a=>ob (lG a) fun bs=>bif decide (1<=bs.length)&&decide (bs.length<=8)then K (.int (x7 bs))else none
noncomputable def VS:Fn:=fnAt (aR pW 10) []
theorem Lb(bs:List UInt8)(c:aa)(k:Kn):an bD S2 VS [.t (.bytes bs)] [] (pk c k)=
  (bif decide ((bs.length:Int)=0)then k (.ok (.t (.int 0))) c else sv [.bytes bs] (fun t=>Bz [t,.int (8*bs.length)] (fun t=>k (.ok (.t t)) c) (k .exc c)) (k .exc c)):=by rfl'
theorem P3{bs:List UInt8}(h1:1<=bs.length)(h2:bs.length<=8)(K:T->aq)(E:aq):sy [.bytes bs] K E=K (.int (x7 bs)):=cT (Bool.and_eq_true_iff.mpr ⟨decide_eq_true h1,decide_eq_true h2⟩)
theorem FF{bs:List UInt8}(h1:1<=bs.length)(h2:bs.length<=8)(c:aa)(k:Kn):an bD S2 VS [.t (.bytes bs)] [] (pk c k)=k (.ok (.t (.int (x7 bs)))) c:=by
 rw[Lb,cN (by lia),PV (by exact Nat.le_trans h2 (by decide))]
 refine cT ?_
 have hl:=Bx bs
 have e:((8*(bs.length:Int))).toNat=8*bs.length:=by exact Nat.add_zero _
 rw[e,show((2:Int)^(8*bs.length))=((2^(8*bs.length):Nat):Int) by push_cast;rfl,Nat.pow_mul]
 simp only[Bool.and_eq_true,decide_eq_true_eq]
 have:(2^8)^bs.length=256^bs.length:=rfl
 (clear e;lia)
theorem P4:Bn (Pure sy) (gJ bD S2 .pure VS):=jK fun ts c k out e=>IM e fun a ea e=>ae e fun bs eb e=>aE e fun h e9=>by
 subst ea
 cases d9 eb
 have h:=Bool.and_eq_true_iff.mp h
 exact(FF (of_decide_eq_true h.1) (of_decide_eq_true h.2) c k).trans e9
noncomputable abbrev L3:List (Nat×Spec):=(120,Pure sy)::L2
noncomputable abbrev S3:Tab:=cU L3 sx
theorem good3:cC S3 12:=fE good2 Vo P4
noncomputable abbrev Ld:=List T->Option (Option T)
noncomputable def vT(g:Ld):Sem:=fun ts K E=>match g ts with
 |some (some t)=>K t
 |some none=>E
 |none=>none
noncomputable abbrev Fs(g:Ld):Spec:=Pure (vT g)
theorem IP{g:Ld}{S:Tab}{f:Fn}(h:∀ts r c k,g ts=some r->an bD S f (ts.map .t) [] (pk c k)=Fy r k c):Bn (Fs g) (gJ bD S .pure f):=jK fun ts c k=>by
 unfold vT
 cases q:g ts with
 |none=>exact Le.none
 |some r=>
  induction r with
  |none=>exact Le.of_eq (h ts none c k q).symm
  |some t=>exact Le.of_eq (h ts (some t) c k q).symm
theorem Lf{S:Tab}{a:Nat}{g:Ld}{args:List V}{c c1:aa}{ts:List T}{r:Option T}{k:Kn}(h:S a=some (Fs g))(hf:iF (fr aN) c args=some (ts,c1))(hg:g ts=some r):lI S a args c k=Fy r k c1:=by
 unfold lI
 rw[h]
 show ob (iF (fr aN) c args) _=_
 rw[hf]
 show vT g ts _ _=_
 unfold vT
 rw[hg]
 induction r<;>rfl
noncomputable def P5(seg dat rep lock aX:T):T:= .inst 738 [(st "segment",seg),(st "is_data",dat),(st "repeat",rep),(st "is_lock",lock),(st "rex",aX)]
inductive Seg where|no|fs|gs
inductive Rep where|no|rep|iK
noncomputable def Seg.s:Seg->String| .no=>""| .fs=>"fs"| .gs=>"gs"
noncomputable def Seg.t(s:Seg):T:=Z s.s
noncomputable def Rep.n:Rep->Int| .no=>0| .rep=>243| .iK=>242
noncomputable def Rep.t(r:Rep):T:=I r.n
noncomputable def VT:Option Nat->T|none=>I (-1)|some r=>N (64+r)
structure Pre where
 seg:Seg
 data:Bool
 rep:Rep
 lock:Bool
 aX:Option Nat
noncomputable def Pre.t(p:Pre):T:=P5 p.seg.t (B p.data) p.rep.t (B p.lock) (VT p.aX)
noncomputable def Pre.nil:Pre:=⟨.no,false,.no,false,none⟩
inductive yR where|fs|gs|data|rep|iK|lock
noncomputable def yR.n:yR->Nat| .fs=>100| .gs=>101| .data=>102| .rep=>243| .iK=>242| .lock=>240
noncomputable def Pre.gt(p:Pre)(o:yR):Option Pre:=match p.aX with
 |some _=>none
 |none=>match o with
  | .fs=>match p.seg with| .no=>some {p with seg:= .fs}|_=>none
  | .gs=>match p.seg with| .no=>some {p with seg:= .gs}|_=>none
  | .data=>match p.data with|false=>some {p with data:=true}|true=>none
  | .rep=>match p.rep,p.lock with| .no,false=>some {p with rep:= .rep}|_,_=>none
  | .iK=>match p.rep,p.lock with| .no,false=>some {p with rep:= .iK}|_,_=>none
  | .lock=>match p.rep,p.lock with| .no,false=>some {p with lock:=true}|_,_=>none
inductive Kd where|aX (r:Nat)|gt (l:yR)|fi|plain
noncomputable def cE(o:Nat):Kd:=
 if 64<=o/\o<80 then .aX (o-64)else if o=100 then .gt .fs else if o=101 then .gt .gs else if o=102 then .gt .data else if o=243 then .gt .rep else if o=242 then .gt .iK else if o=240 then .gt .lock
 else if o=38\/o=46\/o=54\/o=62\/o=103 then .fi else .plain
noncomputable def aI:Pre->List UInt8->Option (Pre×Nat)
 |p,[]=>some (p,0)
 |p,o::r=>match cE o.toNat with
  | .aX b=>match p.aX with
   |some _=>none
   |none=>(aI {p with aX:=some b} r).map fun q=>(q.1,q.2+1)
  | .gt l=>match p.gt l with
   |some p=>(aI p r).map fun q=>(q.1,q.2+1)
   |none=>none
  | .fi=>none
  | .plain=>some (p,0)
noncomputable def NT:Fn:=fnAt (aR pW 73) []
noncomputable def yS:Stmt:=fu (fB (aR pW 73)) 1
noncomputable def DG(os:List UInt8)(j:Int)(p:T):Option T->Loc
 |none=>[(st "octets",.t (.bytes os)),(st "at",.t (.int j)),(st "found",.t p)]
 |some o=>[(st "octets",.t (.bytes os)),(st "at",.t (.int j)),(st "found",.t p),(st "octet",.t o)]
noncomputable abbrev vU:=cx S3 NT
theorem FG(os:List UInt8)(j:Int)(p:T)(t:Option T)(c:aa)(k:Bool->aa->aq)(kx:Kx):aB vU 37 (ur yS) (DG os j p t) c k kx=k (decide (j<os.length)) c:=by
 induction t<;>rfl'
theorem FH(os:List UInt8)(j:Int)(p:T)(t:Option T)(c:aa)(k:Ko):ah vU 37 (lO yS) (DG os j p t) c k=
  (bif decide (0<=j)&&decide (j<os.length)then ah vU 36 ((lO yS).drop 1) (DG os j p (some (.int ((os.getD j.toNat 0).toNat:Int)))) c k else none):=by
 induction t<;>rfl'
noncomputable def Kd.out(p:Pre):Kd->Option (Option Pre)
 | .aX b=>match p.aX with
  |some _=>some none
  |none=>some (some {p with aX:=some b})
 | .gt l=>some (p.gt l)
 | .fi=>some none
 | .plain=>none
noncomputable def oG(os:List UInt8)(j:Int)(p:Pre)(o:Nat)(c:aa)(k:Ko):Option (Option Pre)->aq
 |none=>k (.ret (.t (.tup [p.t,.int j]))) (DG os j p.t (some (N o))) c
 |some none=>k .exc (DG os j p.t (some (N o))) c
 |some (some p')=>k .next (DG os (j+1) p'.t (some (N o))) c
noncomputable def uu:List Nat:=(List.range 256).filter fun o=>match cE o with| .plain=>true|_=>false
noncomputable abbrev kN(os:List UInt8)(j:Int)(p:Pre)(c:aa)(k:Ko)(o:Nat):aq:=ah vU 36 ((lO yS).drop 1) (DG os j p.t (some (N o))) c k
theorem BB(os:List UInt8)(j:Int)(p:Pre)(c:aa)(k:Ko):uu.map (kN os j p c k)=uu.map (fun o=>oG os j p o c k none):=by rfl'
theorem Lg(os:List UInt8)(j:Int)(p:Pre)(c:aa)(k:Ko):(List.range 16).map (fun r=>kN os j p c k (64+r))=(List.range 16).map (fun r=>oG os j p (64+r) c k (Kd.out p (.aX r))):=by
 obtain⟨seg,dat,rp,lock,aX⟩:=p
 induction aX<;>rfl'
theorem x8(os:List UInt8)(j:Int)(p:Pre)(c:aa)(k:Ko):[38,46,54,62,103].map (kN os j p c k)=[38,46,54,62,103].map (fun o=>oG os j p o c k (some none)):=by rfl'
theorem Lh(os:List UInt8)(j:Int)(p:Pre)(c:aa)(k:Ko)(l:yR):kN os j p c k l.n=oG os j p l.n c k (some (p.gt l)):=by
 obtain⟨seg,dat,rp,lock,aX⟩:=p
 induction aX with
 |some r=>induction l<;>rfl'
 |none=>induction l with
  |fs=>induction seg<;>rfl'
  |gs=>induction seg<;>rfl'
  |data=>induction dat<;>rfl'
  |_=>induction rp<;>induction lock<;>rfl'
theorem ef{α:Type}{l:List Nat}{f g:Nat->α}(h:l.map f=l.map g){o:Nat}(ho:o∈l):f o=g o:=List.map_inj_left.mp h o ho
noncomputable def kindB(o:Nat):Bool:=match cE o with
 | .aX r=>decide (o=64+r)&&decide (r<16)
 | .gt l=>decide (o=l.n)
 | .fi=>decide (o∈[38,46,54,62,103])
 | .plain=>decide (o∈uu)
theorem kind_all:∀o:_root_.Fin 256,kindB o=true:=by decide+kernel
theorem FI(os:List UInt8)(j:Int)(p:Pre)(c:aa)(k:Ko)(o:UInt8):kN os j p c k o.toNat=oG os j p o.toNat c k (Kd.out p (cE o.toNat)):=by
 have h:kindB o.toNat=true:=kind_all ⟨o.toNat,o.toNat_lt⟩
 unfold kindB at h
 cases q:cE o.toNat with
 |aX r=>rw[q]at h;have h:=Bool.and_eq_true_iff.mp h;rw[of_decide_eq_true h.1];exact ef (Lg ..) (List.mem_range.mpr (of_decide_eq_true h.2))
 |gt l=>rw[q]at h;rw[of_decide_eq_true h];exact Lh os j p c k l
 |fi=>rw[q]at h;exact ef (x8 ..) (of_decide_eq_true h)
 |plain=>rw[q]at h;exact ef (BB ..) (of_decide_eq_true h)
noncomputable def Pre.room(p:Pre):Nat:=match p.aX with
 |some _=>0
 |none=>1+(match p.seg with| .no=>1|_=>0)+(bif p.data then 0 else 1)+(match p.rep,p.lock with| .no,false=>1|_,_=>0)
theorem BC{p p' :Pre}{l:yR}(h:p.gt l=some p'):p'.room<p.room:=by
 have e:(p.gt l).all (fun q=>decide (q.room<p.room))=true:=by
  obtain⟨seg,dat,rp,lock,aX⟩:=p
  have k {a b x y:Nat} (h:a<b):decide (a+x+y<b+x+y)=true:=decide_eq_true (Nat.add_lt_add_right (Nat.add_lt_add_right h _) _)
  induction aX with
  |some r=>rfl
  |none=>induction l with
   |fs=>induction seg<;>first|rfl|exact k (a:=1+0) (b:=1+1) (by decide)
   |gs=>induction seg<;>first|rfl|exact k (a:=1+0) (b:=1+1) (by decide)
   |data=>induction dat<;>first|rfl|exact decide_eq_true (Nat.add_lt_add_right (Nat.lt_succ_self _) _)
   |_=>induction rp<;>induction lock<;>first|rfl|exact decide_eq_true (Nat.lt_succ_self _)
 rw[h]at e
 exact of_decide_eq_true e
theorem BD{p:Pre}{r:Nat}(h:p.aX=none):({p with aX:=some r}:Pre).room<p.room:=by
 unfold Pre.room
 rw[h]
 dsimp only
 (clear h;lia)
theorem ij{os:List UInt8}{j:Nat}(h:j<os.length):os.drop j=os.getD j 0::os.drop (j+1):=by
 rw[List.drop_eq_getElem_cons h]
 congr 1
 simp [List.getD,h]
theorem vV(os:List UInt8)(c:aa)(kk:Ko)(EX:aq)(BE:Pre->Nat->aq)(h1:∀l,kk .exc l c=EX)(h2:∀(p:Pre) (j:Nat) l,kk (.ret (.t (.tup [p.t,.int j]))) l c=BE p j)(h3:∀(p:Pre) (j:Nat) t,kk .next (DG os j p.t t) c=BE p j):
  ∀(m:Nat) (p:Pre) (j:Nat) (t:Option T),p.room<m->j<=os.length->dz vU 37 (ah vU 37) (ur yS) (lO yS) m (DG os j p.t t) c kk=match aI p (os.drop j)with|none=>EX|some (p',n)=>BE p' (j+n)
 |0,p,j,t,hm,hj=>absurd hm (Nat.not_lt_zero _)
 |m+1,p,j,t,hm,hj=>by
  rw[eJ,FG]
  by_cases q:j<os.length
  ·rw[cD (by exact Int.ofNat_lt.mpr q),FH]
   have g:(decide (0<=(j:Int))&&decide ((j:Int)<os.length))=true:=by
    simp only[Bool.and_eq_true,decide_eq_true_eq];omega
   rw[g]
   simp only[cond_true]
   have e:kN os j p c _ (os.getD j 0).toNat=_:=FI os j p c (gH (fun l c=>dz vU 37 (ah vU 37) (ur yS) (lO yS) m l c kk) kk) (os.getD j 0)
   refine Eq.trans e ?_
   rw[ij q,aI]
   have next:∀p' :Pre,p'.room<p.room->oG os j p (os.getD j 0).toNat c (gH (fun l c=>dz vU 37 (ah vU 37) (ur yS) (lO yS) m l c kk) kk) (some (some p'))=match(aI p' (os.drop (j+1))).map fun q=>(q.1,q.2+1)with|none=>EX|some (p',n)=>BE p' (j+n):=by
    intro p' hp
    have ih:=vV os c kk EX BE h1 h2 h3 m p' (j+1) (some (N (os.getD j 0).toNat)) (by(clear e g q hj h3 h2 h1;lia)) (by exact q)
    refine Eq.trans ih ?_
    cases aI p' (os.drop (j+1))with
    |none=>rfl
    |some q=>obtain⟨q1,q2⟩:=q;show BE q1 (j+1+q2)=BE q1 (j+(q2+1));congr 1;exact Nat.add_right_comm _ _ _
   cases kd:cE (os.getD j 0).toNat with
   |aX r=>
    dsimp only[Kd.out]
    cases hr:p.aX with
    |some _=>exact h1 _
    |none=>exact next _ (BD hr)
   |gt l=>
    dsimp only[Kd.out]
    cases hl:p.gt l with
    |none=>exact h1 _
    |some p' =>exact next p' (BC hl)
   |fi=>exact h1 _
   |plain=>exact h2 p j _
  ·rw[cN (by exact fun e=>q (Int.ofNat_lt.mp e))]
   rw[List.drop_eq_nil_of_le (by exact Nat.le_of_not_lt q),aI]
   exact h3 p j t
noncomputable def ni(os:List UInt8)(j:Int):Option (Option T):=bif decide (0<=j)&&decide (j<=os.length)then
 some ((aI Pre.nil (os.drop j.toNat)).map fun q=> .tup [q.1.t,.int (j+q.2)])else none
noncomputable def VU:Ld:=fun ts=>t2 ts fun a b=>ob (lG a) fun os=>ob (iO b) fun j=>ni os j
theorem BG(os:List UInt8)(j:Int)(c:aa)(k:Kn):an bD S3 NT [.t (.bytes os),.t (.int j)] [] (pk c k)=
  dz vU 37 (ah vU 37) (ur yS) (lO yS) turns (DG os j Pre.nil.t none) [] (iI vU 38 (NT.body.drop 2) (KK c k)):=by rfl'
theorem FJ(os:List UInt8)(n:Nat)(hn:n<=os.length)(c:aa)(k:Kn):an bD S3 NT [.t (.bytes os),.t (.int n)] [] (pk c k)=k (jM ((aI Pre.nil (os.drop n)).map fun q=> .tup [q.1.t,.int (n+q.2)])) c:=by
 rw[BG]
 refine Eq.trans (vV os [] (iI vU 38 (NT.body.drop 2) (KK c k)) (k .exc c) (fun p j=>k (.ok (.t (.tup [p.t,.int j]))) c) (fun l=>rfl) (fun p j l=>rfl) (fun p j t=>by induction t<;>rfl') turns Pre.nil n none (by decide) hn) ?_
 cases aI Pre.nil (os.drop n)with
 |none=>rfl
 |some q=>rfl
theorem P6:Bn (Fs VU) (gJ bD S3 .pure NT):=IP fun ts r c k h=>su h fun a b ea h=>ae h fun os es h=>ae h fun j ej h=>aE h fun g h9=>by
 subst ea
 cases d9 es
 cases cn ej
 have g:=Bool.and_eq_true_iff.mp g
 refine(Int.eq_ofNat_of_zero_le (of_decide_eq_true g.1)).elim fun n en=> ?_
 subst en
 rw[<-Option.some.inj h9]
 exact(FJ os n (Int.ofNat_le.mp (of_decide_eq_true g.2)) c k).trans (Fz _ _ _).symm
noncomputable abbrev L4:List (Nat×Spec):=(763,Fs VU)::L3
noncomputable abbrev S4:Tab:=cU L4 sx
theorem IQ:cC S4 13:=fE good3 PB P6
noncomputable def FK(os:List UInt8)(mod aA rm az a:Int)(c:aa)(k:Kn)(w:Int):aq:=
 bif decide ((os.length:Int)<a+w)then k .exc c else
  bif decide (0<w)then sy [.bytes (a8 os (some a) (some (a+w)))] (fun t=>k (.ok (.t (.tup [.int mod,.int aA,.int rm,.int az,t,.int w,.int (a+w)]))) c) (k .exc c)
  else k (.ok (.t (.tup [.int mod,.int aA,.int rm,.int az,.int 0,.int w,.int (a+w)]))) c
noncomputable def NU(os:List UInt8)(mod aA rm az a:Int)(c:aa)(k:Kn):aq:=
 bif decide (mod=3)then FK os mod aA rm az a c k 0 else bif decide (mod=1)then FK os mod aA rm az a c k 1 else
 bif decide (mod=2)then FK os mod aA rm az a c k 4 else bif decide (rm=5)then FK os mod aA rm az a c k 4 else
 bif decide (rm=4)then bif decide (az.fmod 8=5)then FK os mod aA rm az a c k 4 else FK os mod aA rm az a c k 0 else FK os mod aA rm az a c k 0
noncomputable def FL(os:List UInt8)(j:Int)(c:aa)(k:Kn)(g:Int->aq):aq:=
 bif decide ((os.length:Int)<=j)then k .exc c else bif decide (0<=j)&&decide (j<os.length)then g ((os.getD j.toNat 0).toNat:Int)else none
noncomputable def BH(os:List UInt8)(j:Int)(c:aa)(k:Kn):aq:=FL os j c k fun o=>
 bif !decide (o.fdiv 64=3)then bif decide (o.fmod 8=4)then FL os (j+1) c k fun s=>NU os (o.fdiv 64) ((o.fdiv 8).fmod 8) (o.fmod 8) s (j+1+1) c k
  else NU os (o.fdiv 64) ((o.fdiv 8).fmod 8) (o.fmod 8) (-1) (j+1) c k
 else NU os (o.fdiv 64) ((o.fdiv 8).fmod 8) (o.fmod 8) (-1) (j+1) c k
noncomputable def Yf:Fn:=fnAt (aR pW 57) []
theorem Li(os:List UInt8)(j:Int)(c:aa)(k:Kn):an bD S4 Yf [.t (.bytes os),.t (.int j)] [] (pk c k)=BH os j c k:=by rfl'
inductive Rd(α:Type) where
 |done (a:α) (n:Nat)|fail|more
noncomputable abbrev jl(α:Type):=List UInt8->Rd α
noncomputable def Rd.up{α:Type}(m:Nat):Rd α->Rd α
 | .done a n=> .done a (m+n)
 | .fail=> .fail
 | .more=> .more
structure bU{α:Type}(f:jl α):Prop where
 dn:∀s a n,f s= .done a n->n<=s.length/\∀t,f (s.take n++t)= .done a n
 fl:∀s t,f s= .fail->f (s++t)= .fail
noncomputable def iB{α:Type}(a:α):jl α:=fun _=> .done a 0
noncomputable def IR{α:Type}:jl α:=fun _=> .fail
noncomputable def bindR{α β:Type}(f:jl α)(g:α->jl β):jl β:=fun s=>match f s with
 | .done a n=>(g a (s.drop n)).up n
 | .fail=> .fail
 | .more=> .more
noncomputable def x9:jl UInt8
 |[]=> .more
 |o::_=> .done o 1
noncomputable def bo(w:Nat):jl (List UInt8):=fun s=>if s.length<w then .more else .done (s.take w) w
theorem eM{α:Type}(a:α):bU (iB a):=⟨fun s b n h=>by cases h;exact⟨Nat.zero_le _,fun t=>rfl⟩,fun s t h=>by cases h⟩
theorem FM{α:Type}:bU (IR (α:=α)):=⟨fun s b n h=>(by cases h),fun s t h=>rfl⟩
theorem uv:bU x9:=⟨fun s b n h=>by
 induction s with
 |nil=>cases h
 |cons x r=>cases h;exact⟨by simp,fun t=>rfl⟩,fun s t h=>by
 induction s with
 |nil=>cases h
 |cons x r=>cases h⟩
theorem vW(w:Nat):bU (bo w):=⟨fun s b n h=>by
 unfold bo at h
 split at h
 ·cases h
 ·rename_i q
  cases h
  refine⟨by exact Nat.le_of_not_lt q,fun t=> ?_⟩
  unfold bo
  have e:(s.take w).length=w:=by rw[List.length_take];lia
  rw[if_neg (by rw[List.length_append,e];(clear e q;lia))]
  rw[List.take_append_of_le_length (by exact Nat.le_of_eq e.symm),List.take_of_length_le (by exact Nat.le_of_eq e)],fun s t h=>by
 unfold bo at h
 split at h<;>cases h⟩
theorem cq{α β:Type}{f:jl α}{g:α->jl β}(hf:bU f)(hg:∀a,bU (g a)):bU (bindR f g):=by
 refine⟨fun s b n h=> ?_,fun s t h=> ?_⟩
 ·unfold bindR at h
  cases q:f s with
  |fail=>rw[q]at h;cases h
  |more=>rw[q]at h;cases h
  |done a m=>
   rw[q]at h
   dsimp only at h
   cases q2:g a (s.drop m)with
   |fail=>rw[q2]at h;cases h
   |more=>rw[q2]at h;cases h
   |done b2 m2=>
    rw[q2]at h
    cases h
    obtain⟨h1,h2⟩:=hf.dn _ _ _ q
    obtain⟨h3,h4⟩:=(hg a).dn _ _ _ q2
    rw[List.length_drop]at h3
    refine⟨by omega,fun t=> ?_⟩
    unfold bindR
    rw[List.take_add,List.append_assoc,h2]
    dsimp only
    have e:(s.take m).length=m:=by rw[List.length_take];exact Nat.min_eq_left h1
    rw[List.drop_append_of_le_length (by exact Nat.le_of_eq e.symm),List.drop_of_length_le (by exact Nat.le_of_eq e),List.nil_append,h4]
    rfl
 ·unfold bindR at h⊢
  cases q:f s with
  |fail=>rw[hf.fl _ _ q]
  |more=>rw[q]at h;cases h
  |done a m=>
   rw[q]at h
   dsimp only at h
   obtain⟨h1,h2⟩:=hf.dn _ _ _ q
   have e0:f (s++t)= .done a m:=by
    have:=h2 (s.drop m++t)
    rwa [<-List.append_assoc,List.take_append_drop]at this
   rw[e0]
   dsimp only
   rw[List.drop_append_of_le_length h1]
   cases q2:g a (s.drop m)with
   |fail=>rw[(hg a).fl _ _ q2];rfl
   |more=>rw[q2]at h;cases h
   |done b2 m2=>rw[q2]at h;cases h
theorem bU.app{α:Type}{f:jl α}(h:bU f){s:List UInt8}{a:α}{n:Nat}(hs:f s= .done a n)(t:List UInt8):f (s++t)= .done a n:=by
 have:=(h.dn _ _ _ hs).2 (s.drop n++t)
 rwa [<-List.append_assoc,List.take_append_drop]at this
theorem bU.cut{α:Type}{f:jl α}(h:bU f){s:List UInt8}{a:α}{n:Nat}(hs:f s= .done a n){e:Nat}{b:α}{m:Nat}(he:f (s.take e)= .done b m):b=a/\m=n/\m<=e:=by
 have:=h.app he (s.drop e)
 rw[List.take_append_drop,hs]at this
 cases this
 refine⟨rfl,rfl,?_⟩
 have:=(h.dn _ _ _ he).1
 rw[List.length_take]at this
 omega
noncomputable def fH:Pre->jl (Pre×UInt8)
 |p,[]=> .more
 |p,o::r=>match cE o.toNat with
  | .aX b=>match p.aX with
   |some _=> .fail
   |none=>(fH {p with aX:=some b} r).up 1
  | .gt l=>match p.gt l with
   |some p=>(fH p r).up 1
   |none=> .fail
  | .fi=> .fail
  | .plain=> .done (p,o) 1
theorem vX:∀(s:List UInt8) (p:Pre),fH p s=match aI p s with
  |none=> .fail
  |some (q,n)=>match s.drop n with
   |[]=> .more
   |o::_=> .done (q,o) (n+1)
 |[],p=>rfl
 |o::r,p=>by
  rw[fH,aI]
  have step:∀q:Pre,(fH q r).up 1=match(aI q r).map fun q=>(q.1,q.2+1)with
    |none=> .fail
    |some (q,n)=>match(o::r).drop n with
     |[]=> .more
     |o::_=> .done (q,o) (n+1):=by
   intro q
   rw[vX r q]
   cases aI q r with
   |none=>rfl
   |some z=>
    obtain⟨z,n⟩:=z
    show Rd.up 1 (match r.drop n with|[]=> .more|o::_=> .done (z,o) (n+1))=match r.drop n with|[]=> .more|o::_=> .done (z,o) (n+1+1)
    cases r.drop n with
    |nil=>rfl
    |cons x y=>show Rd.done (z,x) (1+(n+1))=_;rw[Nat.add_comm 1]
  cases cE o.toNat with
  |aX b=>
   dsimp only
   induction p.aX with
   |some _=>rfl
   |none=>exact step _
  |gt l=>
   dsimp only
   cases p.gt l with
   |some q=>exact step q
   |none=>rfl
  |fi=>rfl
  |plain=>rfl
theorem vY{α:Type}{x:Rd α}{m n:Nat}{a:α}(h:x.up m= .done a n):∃k,x= .done a k/\n=m+k:=by
 cases x<;>cases h
 exact⟨_,rfl,rfl⟩
theorem vZ{α:Type}{x:Rd α}{m:Nat}(h:x.up m= .fail):x= .fail:=by
 cases x<;>cases h
 rfl
theorem BI:∀(s:List UInt8) (p:Pre) (a:Pre×UInt8) (n:Nat),fH p s= .done a n->n<=s.length/\∀t,fH p (s.take n++t)= .done a n
 |[],p,a,n,h=>by cases h
 |o::r,p,a,n,h=>by
  have step:∀q:Pre,(fH q r).up 1= .done a n->n<=(o::r).length/\∀t,∃s',(o::r).take n++t=o::s' /\(fH q s').up 1= .done a n:=by
   intro q hq
   obtain⟨k,h1,rfl⟩:=vY hq
   obtain⟨h2,h3⟩:=BI r q a k h1
   refine⟨by rw[List.length_cons];(clear h3 hq h h1;lia),fun t=>⟨r.take k++t,by rw[Nat.add_comm,List.take_succ_cons];rfl,by rw[h3];rfl⟩⟩
  rw[fH]at h
  split at h
  ·rename_i b hb
   split at h
   ·cases h
   ·rename_i hr
    obtain⟨h1,h2⟩:=step _ h
    refine⟨h1,fun t=> ?_⟩
    obtain⟨s',e1,e2⟩:=h2 t
    rw[e1,fH,hb]
    dsimp only
    rw[hr]
    exact e2
  ·rename_i l hb
   split at h
   ·rename_i p' hr
    obtain⟨h1,h2⟩:=step _ h
    refine⟨h1,fun t=> ?_⟩
    obtain⟨s',e1,e2⟩:=h2 t
    rw[e1,fH,hb]
    dsimp only
    rw[hr]
    exact e2
   ·cases h
  ·cases h
  ·rename_i hb
   cases h
   refine⟨by simp,fun t=> ?_⟩
   show fH p (o::([]++t))=_
   rw[fH,hb]
theorem uw:∀(s:List UInt8) (p:Pre) (t:List UInt8),fH p s= .fail->fH p (s++t)= .fail
 |[],p,t,h=>by cases h
 |o::r,p,t,h=>by
  rw[fH]at h
  rw[List.cons_append,fH]
  cases hb:cE o.toNat with
  |aX b=>
   rw[hb]at h
   dsimp only at h⊢
   cases hr:p.aX with
   |some _=>rfl
   |none=>
    rw[hr]at h
    dsimp only at h⊢
    rw[uw r _ t (vZ h)];rfl
  |gt l=>
   rw[hb]at h
   dsimp only at h⊢
   cases hr:p.gt l with
   |none=>rfl
   |some q=>
    rw[hr]at h
    dsimp only at h⊢
    rw[uw r _ t (vZ h)];rfl
  |fi=>rfl
  |plain=>
   rw[hb]at h
   cases h
theorem Lj(p:Pre):bU (fH p):=⟨fun s a n=>BI s p a n,fun s t=>uw s p t⟩
noncomputable def v3(o:UInt8):jl (Bool×UInt8):=if o.toNat=15 then bindR x9 fun x=>iB (true,x)else iB (false,o)
theorem FN(o:UInt8):bU (v3 o):=by
 unfold v3
 split
 ·exact cq uv fun x=>eM _
 ·exact eM _
noncomputable def oH:jl (Pre×Bool×UInt8):=bindR (fH Pre.nil) fun q=>bindR (v3 q.2) fun x=>iB (q.1,x)
theorem FO:bU oH:=cq (Lj _) fun q=>cq (FN _) fun x=>eM _
structure dR where
 mod:Nat
 aA:Nat
 rm:Nat
 az:Option Nat
 cj:List UInt8
noncomputable def gW(mod rm:Nat)(az:Option Nat):Nat:=
 if mod=3 then 0 else if mod=1 then 1 else if mod=2 then 4 else if rm=5 then 4 else match az with
  |some s=>if s %8=5 then 4 else 0
  |none=>0
noncomputable def nY(mod rm:Nat):jl (Option Nat):=if mod≠3/\rm=4 then bindR x9 fun x=>iB (some x.toNat)else iB none
noncomputable def eg:jl dR:=bindR x9 fun o=>bindR (nY (o.toNat/64) (o.toNat %8)) fun az=>bindR (bo (gW (o.toNat/64) (o.toNat %8) az)) fun d=>iB ⟨o.toNat/64,o.toNat/8 %8,o.toNat %8,az,d⟩
theorem Lk(mod rm:Nat):bU (nY mod rm):=by
 unfold nY
 split
 ·exact cq uv fun x=>eM _
 ·exact eM _
theorem BJ:bU eg:=cq uv fun o=>cq (Lk _ _) fun s=>cq (vW _) fun d=>eM _
noncomputable def cG(d:List UInt8):Int:=if d.length=0 then 0 else x7 d
noncomputable def fJ:Option Nat->Int|none=> -1|some s=>(s:Int)
noncomputable def dR.t(m:dR)(e:Int):T:= .tup [N m.mod,N m.aA,N m.rm,I (fJ m.az),I (cG m.cj),N m.cj.length,I e]
theorem P7(n d:Nat):(n:Int).fdiv (d:Int)=((n/d:Nat):Int):=by
 rw[Int.fdiv_eq_ediv_of_nonneg _ (by exact Int.natCast_nonneg _)];rfl
theorem IS(n d:Nat):(n:Int).fmod (d:Int)=((n %d:Nat):Int):=by
 rw[Int.fmod_eq_emod_of_nonneg _ (by exact Int.natCast_nonneg _)];rfl
theorem qw{a n:Nat}{x:Int}:(if(a:Int)<0 then x else min (a:Int) (n:Int)).toNat=min a n:=by
 rw[if_neg (Int.not_lt.mpr (Int.natCast_nonneg a))]
 exact(Nat.le_total a n).elim (fun h=>by rw[Int.min_eq_left (Int.ofNat_le.mpr h),Nat.min_eq_left h];rfl) fun h=>by rw[Int.min_eq_right (Int.ofNat_le.mpr h),Nat.min_eq_right h];rfl
theorem Ll{α:Type}(os:List α)(a b:Nat):a8 os (some (a:Int)) (some (b:Int))=(os.take b).drop a:=by
 unfold a8
 dsimp only
 rw[qw,qw,<-List.drop_take,<-List.take_eq_take_min]
 exact(Nat.le_total a os.length).elim (fun h=>by rw[Nat.min_eq_left h]) fun h=>by rw[Nat.min_eq_right h,List.drop_of_length_le (List.length_take_le' ..),List.drop_of_length_le (Nat.le_trans (List.length_take_le' ..) h)]
theorem qx{α:Type}(os:List α)(a w:Nat):a8 os (some (a:Int)) (some ((a:Int)+(w:Int)))=(os.drop a).take w:=(Ll ..).trans List.take_drop.symm
noncomputable abbrev qy{α:Type}(r:Rd α)(g:α->Nat->aq)(x:aq):aq:=match r with
 | .done a n=>g a n
 | .fail=>x
 | .more=>x
theorem Lm{α:Type}(r:Rd α)(m:Nat)(g:α->Nat->aq)(x:aq):qy (r.up m) g x=qy r (fun a n=>g a (m+n)) x:=by induction r<;>rfl
theorem gX{α β:Type}(f:jl α)(h:α->jl β)(s:List UInt8)(g:β->Nat->aq)(x:aq):qy (bindR f h s) g x=qy (f s) (fun a n=>qy (h a (s.drop n)) (fun b m=>g b (n+m)) x) x:=by
 unfold bindR
 cases f s with
 |done a n=>exact Lm _ _ _ _
 |fail=>rfl
 |more=>rfl
theorem mj{α:Type}(a:α)(s:List UInt8)(g:α->Nat->aq)(x:aq):qy (iB a s) g x=g a 0:=rfl
theorem v4(os:List UInt8)(j:Nat)(g:UInt8->Nat->aq)(x:aq):qy (x9 (os.drop j)) g x=if j<os.length then g (os.getD j 0) 1 else x:=by
 split
 ·rename_i h
  rw[ij h];rfl
 ·rename_i h
  rw[List.drop_of_length_le (by exact Nat.le_of_not_lt h)];rfl
theorem BK(w:Nat)(os:List UInt8)(j:Nat)(hj:j<=os.length)(g:List UInt8->Nat->aq)(x:aq):qy (bo w (os.drop j)) g x=if j+w<=os.length then g ((os.drop j).take w) w else x:=by
 unfold bo
 rw[List.length_drop]
 by_cases h:j+w<=os.length
 ·rw[if_pos h,if_neg (by omega)]
 ·rw[if_neg h,if_pos (by omega)]
theorem v5(os:List UInt8)(j:Nat)(c:aa)(k:Kn)(g:Int->aq):FL os j c k g=if j<os.length then g ((os.getD j 0).toNat:Int)else k .exc c:=by
 unfold FL
 by_cases h:j<os.length
 ·rw[cN (by exact Int.not_le.mpr (Int.ofNat_lt.mpr h)),if_pos h]
  have e:(decide (0<=(j:Int))&&decide ((j:Int)<os.length))=true:=by
   simp only[Bool.and_eq_true,decide_eq_true_eq];omega
  rw[e];rfl
 ·rw[cD (by exact Int.ofNat_le.mpr (Nat.le_of_not_lt h)),if_neg h]
noncomputable abbrev VW(mod aA rm:Nat)(az:Option Nat)(d:List UInt8)(e:Int):T:=dR.t ⟨mod,aA,rm,az,d⟩ e
theorem Ln(os:List UInt8)(mod aA rm:Nat)(az:Option Nat)(a w:Nat)(c:aa)(k:Kn)(ha:a<=os.length)(hw:w<=8):FK os mod aA rm (fJ az) a c k w=
  qy (bo w (os.drop a)) (fun d n=>k (.ok (.t (VW mod aA rm az d (a+n)))) c) (k .exc c):=by
 rw[BK _ _ _ ha]
 unfold FK
 by_cases h:a+w<=os.length
 ·rw[cN (by exact Int.not_lt.mpr (Int.ofNat_le.mpr h)),if_pos h]
  have e:((os.drop a).take w).length=w:=by rw[List.length_take,List.length_drop];(clear hw ha;lia)
  by_cases h0:w=0
  ·subst h0
   rw[cN (by exact Int.not_lt.mpr (Int.natCast_nonneg _))]
   rfl
  ·rw[cD (by(clear e h hw ha;lia)),qx,P3 (by rw[e];exact Nat.pos_of_ne_zero h0) (by rw[e];exact hw)]
   unfold VW dR.t cG
   dsimp only
   rw[e,if_neg h0]
 ·rw[cD (by exact Int.ofNat_lt.mpr (Nat.lt_of_not_le h)),if_neg h]
theorem DH{α:Type}{a b:Nat}{x y:α}:(bif decide ((a:Int)=(b:Int))then x else y)=if a=b then x else y:=by
 by_cases h:a=b
 ·rw[if_pos h];exact cD (congrArg _ h)
 ·rw[if_neg h];exact cN fun e=>h (Int.ofNat.inj e)
theorem P8{c:Prop} [Decidable c]{A B:aq}{f:Nat->aq}{u v:Nat}(h1:c->A=f u)(h2:¬c->B=f v):(if c then A else B)=f (if c then u else v):=by
 by_cases h:c
 ·rw[if_pos h,if_pos h];exact h1 h
 ·rw[if_neg h,if_neg h];exact h2 h
theorem BL(os:List UInt8)(mod aA rm:Nat)(az:Option Nat)(a:Nat)(c:aa)(k:Kn)(ha:a<=os.length)(hs:mod≠3/\rm=4↔az.isSome=true):NU os mod aA rm (fJ az) a c k=
  qy (bo (gW mod rm az) (os.drop a)) (fun d n=>k (.ok (.t (VW mod aA rm az d (a+n)))) c) (k .exc c):=by
 have C:=fun w hw=>Ln os mod aA rm az a w c k ha hw
 unfold NU gW
 refine(DH (b:=3)).trans (P8 (f:=fun w=>qy (bo w (os.drop a)) _ _) (fun _=>C 0 (by decide)) fun h3=> ?_)
 refine(DH (b:=1)).trans (P8 (f:=fun w=>qy (bo w (os.drop a)) _ _) (fun _=>C 1 (by decide)) fun _=> ?_)
 refine(DH (b:=2)).trans (P8 (f:=fun w=>qy (bo w (os.drop a)) _ _) (fun _=>C 4 (by decide)) fun _=> ?_)
 refine(DH (b:=5)).trans (P8 (f:=fun w=>qy (bo w (os.drop a)) _ _) (fun _=>C 4 (by decide)) fun _=> ?_)
 refine(DH (b:=4)).trans ?_
 induction az with
 |none=>rw[if_neg fun q=>Bool.false_ne_true (hs.mp ⟨h3,q⟩)];exact C 0 (by decide)
 |some s=>
  rw[if_pos (hs.mpr rfl).2,show Int.fmod (fJ (some s)) 8=((s %8:Nat):Int)from IS s 8]
  exact(DH (b:=5)).trans (P8 (f:=fun w=>qy (bo w (os.drop a)) _ _) (fun _=>C 4 (by decide)) fun _=>C 0 (by decide))
theorem FP(os:List UInt8)(j:Nat)(c:aa)(k:Kn):BH os j c k=qy (eg (os.drop j)) (fun m n=>k (.ok (.t (m.t (j+n)))) c) (k .exc c):=by
 unfold BH eg
 rw[v5,gX,v4]
 by_cases h:j<os.length
 ·rw[if_pos h,if_pos h]
  generalize (os.getD j 0).toNat=o
  rw[show(64:Int)=((64:Nat):Int)from rfl,show(8:Int)=((8:Nat):Int)from rfl,P7,IS,P7,IS,gX]
  unfold nY
  rw[List.drop_drop]
  by_cases q:o/64≠3/\o %8=4
  ·have e1:(!decide (((o/64:Nat):Int)=3))=true:=by rw[decide_eq_false (by exact fun e=>q.1 (Int.ofNat.inj e))];rfl
   rw[e1]
   dsimp only[cond_true]
   rw[cD (by exact congrArg _ q.2),if_pos q,gX]
   have e2:((j:Int)+1)=((j+1:Nat):Int):=by push_cast;rfl
   rw[e2,v5,v4]
   by_cases h2:j+1<os.length
   ·rw[if_pos h2,if_pos h2,mj,gX,List.drop_drop]
    have e3:(((j+1:Nat):Int)+1)=((j+1+1:Nat):Int):=by push_cast;rfl
    rw[e3]
    have:=BL os (o/64) (o/8 %8) (o %8) (some (os.getD (j+1) 0).toNat) (j+1+1) c k (by exact h2) ⟨fun _=>rfl,fun _=>q⟩
    refine Eq.trans this ?_
    congr 1
    funext d n
    rw[mj]
    congr 4
    push_cast;(clear this e3 h2 e2 e1 q h;lia)
   ·rw[if_neg h2,if_neg h2]
  ·rw[if_neg q,mj,gX,List.drop_drop]
   have e2:((j:Int)+1)=((j+1:Nat):Int):=by push_cast;rfl
   have:=BL os (o/64) (o/8 %8) (o %8) none (j+1) c k (by exact h) ⟨fun h=>absurd h q,fun h=>by cases h⟩
   have fin:NU os (o/64:Nat) (o/8 %8:Nat) (o %8:Nat) (-1) (((j:Int))+1) c k=qy (bo (gW (o/64) (o %8) none) (os.drop (j+1+0))) (fun a n=>qy (iB (⟨o/64,o/8 %8,o %8,none,a⟩:dR) ((os.drop (j+1+0)).drop n)) (fun b m=>k (.ok (.t (b.t (j+((1+(0+(n+m)):Nat)):Int)))) c) (k .exc c)) (k .exc c):=by
    rw[e2]
    refine Eq.trans this ?_
    congr 1
    funext d n
    rw[mj]
    congr 4
    push_cast;(clear this e2 q h;lia)
   by_cases q1:o/64=3
   ·have e1:(!decide (((o/64:Nat):Int)=3))=false:=by rw[decide_eq_true (by exact congrArg _ q1)];rfl
    rw[e1]
    exact fin
   ·have e1:(!decide (((o/64:Nat):Int)=3))=true:=by rw[decide_eq_false (by exact fun e=>q1 (Int.ofNat.inj e))];rfl
    rw[e1]
    dsimp only[cond_true]
    rw[cN (by(clear e1 fin this e2 h;lia))]
    exact fin
 ·rw[if_neg h,if_neg h]
noncomputable def kO{α:Type}(r:Rd α)(g:α->Nat->T):Option T:=match r with
 | .done a n=>some (g a n)
 | .fail=>none
 | .more=>none
theorem FQ{α:Type}(r:Rd α)(g:α->Nat->T)(k:Kn)(c:aa):Fy (kO r g) k c=qy r (fun a n=>k (.ok (.t (g a n))) c) (k .exc c):=by induction r<;>rfl
noncomputable def VX:Ld:=fun ts=>t2 ts fun a b=>ob (lG a) fun os=>ob (iO b) fun j=>bif decide (0<=j)then some (kO (eg (os.drop j.toNat)) fun m n=>m.t (j+n))else none
theorem P9:Bn (Fs VX) (gJ bD S4 .pure Yf):=IP fun ts r c k h=>su h fun a b e1 h=>ae h fun os e2 h=>ae h fun j e3 h=>aE h fun g h9=>(Int.eq_ofNat_of_zero_le (of_decide_eq_true g)).elim fun n en=>by
 subst en
 rw[<-Option.some.inj h9,e1,d9 e2,cn e3,FQ]
 exact(Li ..).trans (FP ..)
noncomputable abbrev L5:List (Nat×Spec):=(650,Fs VX)::L4
noncomputable abbrev S5:Tab:=cU L5 sx
theorem Qa:cC S5 14:=fE IQ Vy P9
theorem two{α:Type}:∀{l:List α},l.length<=2->l=[]\/(∃a,l=[a])\/∃a b,l=[a,b]
 |[],_=> .inl rfl
 |[a],_=> .inr (.inl ⟨a,rfl⟩)
 |[a,b],_=> .inr (.inr ⟨a,b,rfl⟩)
 |_::_::_::l,h=>absurd h (Nat.not_le_of_gt (Nat.le_add_left 3 l.length))
inductive bz where|dl|bV|ux|fj|f9|fK|m|r8|v6|v7|ya|o8|v8|DI|yb|nZ|iM|iN|nj|nq|jb|lp|eN|ax|NV|Qb
 deriving DecidableEq
inductive Slot where|aA|rm|plus|fixed|gz|rel
noncomputable def bz.s:bz->String
 | .dl=>"rel8"
 | .bV=>"rel32"
 | .ux=>"rm8"
 | .fj=>"rm16"
 | .f9=>"rm32"
 | .fK=>"rm64"
 | .m=>"m"
 | .r8=>"r8"
 | .v6=>"r16"
 | .v7=>"r32"
 | .ya=>"r64"
 | .o8=>"o8"
 | .v8=>"o16"
 | .DI=>"o32"
 | .yb=>"o64"
 | .nZ=>"imm8"
 | .iM=>"imm16"
 | .iN=>"imm32"
 | .nj=>"imm64"
 | .nq=>"uimm8"
 | .jb=>"uimm16"
 | .lp=>"simm8"
 | .eN=>"simm32"
 | .ax=>"ax"
 | .NV=>"eax"
 | .Qb=>"rax"
noncomputable def Slot.s:Slot->String| .aA=>"reg"| .rm=>"rm"| .plus=>"plus"| .fixed=>"fixed"| .gz=>"imm"| .rel=>"rel"
noncomputable def bz.slot:bz->Slot
 | .dl=> .rel
 | .bV=> .rel
 | .ux=> .rm
 | .fj=> .rm
 | .f9=> .rm
 | .fK=> .rm
 | .m=> .rm
 | .r8=> .aA
 | .v6=> .aA
 | .v7=> .aA
 | .ya=> .aA
 | .o8=> .plus
 | .v8=> .plus
 | .DI=> .plus
 | .yb=> .plus
 | .nZ=> .gz
 | .iM=> .gz
 | .iN=> .gz
 | .nj=> .gz
 | .nq=> .gz
 | .jb=> .gz
 | .lp=> .gz
 | .eN=> .gz
 | .ax=> .fixed
 | .NV=> .fixed
 | .Qb=> .fixed
noncomputable def bz.ce:bz->Nat
 | .dl=>1
 | .bV=>4
 | .nZ=>1
 | .iM=>2
 | .iN=>4
 | .nj=>8
 | .nq=>1
 | .jb=>2
 | .lp=>1
 | .eN=>4
 |_=>0
noncomputable def Slot.BN:Slot->Bool| .aA=>true|_=>false
noncomputable def Slot.qz:Slot->Bool| .rm=>true|_=>false
noncomputable def Slot.Lo:Slot->Bool| .plus=>true|_=>false
structure Row where
 name:String
 kinds:List bz
 op:Nat
 ay:Nat
 dig:Int
 size:Nat
 wide:Bool
structure Form extends Row where
 num:Nat
noncomputable def Lp:Nat->List Row->List Form
 |_,[]=>[]
 |n,r::l=>⟨r,n⟩::Lp (n+1) l
noncomputable def Qc:List Row:=[
 ⟨"jmp",[.dl],235,0,-1,0,false⟩,
 ⟨"jmp",[.bV],233,0,-1,0,false⟩,
 ⟨"jmp",[.fK],255,0,4,64,true⟩,
 ⟨"jo",[.dl],112,0,-1,0,false⟩,
 ⟨"jo",[.bV],128,1,-1,0,false⟩,
 ⟨"jno",[.dl],113,0,-1,0,false⟩,
 ⟨"jno",[.bV],129,1,-1,0,false⟩,
 ⟨"jb",[.dl],114,0,-1,0,false⟩,
 ⟨"jb",[.bV],130,1,-1,0,false⟩,
 ⟨"jae",[.dl],115,0,-1,0,false⟩,
 ⟨"jae",[.bV],131,1,-1,0,false⟩,
 ⟨"je",[.dl],116,0,-1,0,false⟩,
 ⟨"je",[.bV],132,1,-1,0,false⟩,
 ⟨"jne",[.dl],117,0,-1,0,false⟩,
 ⟨"jne",[.bV],133,1,-1,0,false⟩,
 ⟨"jbe",[.dl],118,0,-1,0,false⟩,
 ⟨"jbe",[.bV],134,1,-1,0,false⟩,
 ⟨"ja",[.dl],119,0,-1,0,false⟩,
 ⟨"ja",[.bV],135,1,-1,0,false⟩,
 ⟨"js",[.dl],120,0,-1,0,false⟩,
 ⟨"js",[.bV],136,1,-1,0,false⟩,
 ⟨"jns",[.dl],121,0,-1,0,false⟩,
 ⟨"jns",[.bV],137,1,-1,0,false⟩,
 ⟨"jp",[.dl],122,0,-1,0,false⟩,
 ⟨"jp",[.bV],138,1,-1,0,false⟩,
 ⟨"jnp",[.dl],123,0,-1,0,false⟩,
 ⟨"jnp",[.bV],139,1,-1,0,false⟩,
 ⟨"jl",[.dl],124,0,-1,0,false⟩,
 ⟨"jl",[.bV],140,1,-1,0,false⟩,
 ⟨"jge",[.dl],125,0,-1,0,false⟩,
 ⟨"jge",[.bV],141,1,-1,0,false⟩,
 ⟨"jle",[.dl],126,0,-1,0,false⟩,
 ⟨"jle",[.bV],142,1,-1,0,false⟩,
 ⟨"jg",[.dl],127,0,-1,0,false⟩,
 ⟨"jg",[.bV],143,1,-1,0,false⟩,
 ⟨"call",[.bV],232,0,-1,0,false⟩,
 ⟨"call",[.fK],255,0,2,64,true⟩,
 ⟨"ret",[],195,0,-1,0,false⟩,
 ⟨"ret",[.jb],194,0,-1,0,false⟩,
 ⟨"leave",[],201,0,-1,64,true⟩,
 ⟨"loopne",[.dl],224,0,-1,0,false⟩,
 ⟨"loope",[.dl],225,0,-1,0,false⟩,
 ⟨"loop",[.dl],226,0,-1,0,false⟩,
 ⟨"jrcxz",[.dl],227,0,-1,0,false⟩,
 ⟨"int3",[],204,0,-1,0,false⟩,
 ⟨"int",[.nq],205,0,-1,0,false⟩,
 ⟨"hlt",[],244,0,-1,0,false⟩,
 ⟨"ud2",[],11,1,-1,0,false⟩,
 ⟨"syscall",[],5,1,-1,0,false⟩,
 ⟨"cpuid",[],162,1,-1,0,false⟩,
 ⟨"cmc",[],245,0,-1,0,false⟩,
 ⟨"clc",[],248,0,-1,0,false⟩,
 ⟨"stc",[],249,0,-1,0,false⟩,
 ⟨"cld",[],252,0,-1,0,false⟩,
 ⟨"std",[],253,0,-1,0,false⟩,
 ⟨"movsb",[],164,0,-1,8,false⟩,
 ⟨"movsw",[],165,0,-1,16,false⟩,
 ⟨"movsd",[],165,0,-1,32,false⟩,
 ⟨"movsq",[],165,0,-1,64,false⟩,
 ⟨"cmpsb",[],166,0,-1,8,false⟩,
 ⟨"cmpsw",[],167,0,-1,16,false⟩,
 ⟨"cmpsd",[],167,0,-1,32,false⟩,
 ⟨"cmpsq",[],167,0,-1,64,false⟩,
 ⟨"stosb",[],170,0,-1,8,false⟩,
 ⟨"stosw",[],171,0,-1,16,false⟩,
 ⟨"stosd",[],171,0,-1,32,false⟩,
 ⟨"stosq",[],171,0,-1,64,false⟩,
 ⟨"lodsb",[],172,0,-1,8,false⟩,
 ⟨"lodsw",[],173,0,-1,16,false⟩,
 ⟨"lodsd",[],173,0,-1,32,false⟩,
 ⟨"lodsq",[],173,0,-1,64,false⟩,
 ⟨"scasb",[],174,0,-1,8,false⟩,
 ⟨"scasw",[],175,0,-1,16,false⟩,
 ⟨"scasd",[],175,0,-1,32,false⟩,
 ⟨"scasq",[],175,0,-1,64,false⟩,
 ⟨"nop",[],144,0,-1,0,false⟩,
 ⟨"nop",[.fj],31,1,0,16,false⟩,
 ⟨"nop",[.f9],31,1,0,32,false⟩]
noncomputable def VY:List Row:=[
 ⟨"mov",[.ux,.r8],136,0,-1,8,false⟩,
 ⟨"mov",[.fj,.v6],137,0,-1,16,false⟩,
 ⟨"mov",[.f9,.v7],137,0,-1,32,false⟩,
 ⟨"mov",[.fK,.ya],137,0,-1,64,false⟩,
 ⟨"mov",[.r8,.ux],138,0,-1,8,false⟩,
 ⟨"mov",[.v6,.fj],139,0,-1,16,false⟩,
 ⟨"mov",[.v7,.f9],139,0,-1,32,false⟩,
 ⟨"mov",[.ya,.fK],139,0,-1,64,false⟩,
 ⟨"mov",[.o8,.nZ],176,0,-1,8,false⟩,
 ⟨"mov",[.v8,.iM],184,0,-1,16,false⟩,
 ⟨"mov",[.DI,.iN],184,0,-1,32,false⟩,
 ⟨"mov",[.ux,.nZ],198,0,0,8,false⟩,
 ⟨"mov",[.fj,.iM],199,0,0,16,false⟩,
 ⟨"mov",[.f9,.iN],199,0,0,32,false⟩,
 ⟨"mov",[.fK,.eN],199,0,0,64,false⟩,
 ⟨"mov",[.yb,.nj],184,0,-1,64,false⟩,
 ⟨"lea",[.v6,.m],141,0,-1,16,false⟩,
 ⟨"lea",[.v7,.m],141,0,-1,32,false⟩,
 ⟨"lea",[.ya,.m],141,0,-1,64,false⟩,
 ⟨"xchg",[.v8,.ax],144,0,-1,16,false⟩,
 ⟨"xchg",[.DI,.NV],144,0,-1,32,false⟩,
 ⟨"xchg",[.yb,.Qb],144,0,-1,64,false⟩,
 ⟨"xchg",[.ux,.r8],134,0,-1,8,false⟩,
 ⟨"xchg",[.fj,.v6],135,0,-1,16,false⟩,
 ⟨"xchg",[.f9,.v7],135,0,-1,32,false⟩,
 ⟨"xchg",[.fK,.ya],135,0,-1,64,false⟩,
 ⟨"push",[.yb],80,0,-1,64,true⟩,
 ⟨"push",[.v8],80,0,-1,16,false⟩,
 ⟨"push",[.lp],106,0,-1,64,true⟩,
 ⟨"push",[.eN],104,0,-1,64,true⟩,
 ⟨"push",[.fK],255,0,6,64,true⟩,
 ⟨"push",[.fj],255,0,6,16,false⟩,
 ⟨"pop",[.yb],88,0,-1,64,true⟩,
 ⟨"pop",[.v8],88,0,-1,16,false⟩,
 ⟨"pop",[.fK],143,0,0,64,true⟩,
 ⟨"pop",[.fj],143,0,0,16,false⟩,
 ⟨"pushfq",[],156,0,-1,64,true⟩,
 ⟨"popfq",[],157,0,-1,64,true⟩,
 ⟨"nop",[],144,0,-1,0,false⟩,
 ⟨"nop",[.fj],31,1,0,16,false⟩,
 ⟨"nop",[.f9],31,1,0,32,false⟩]
noncomputable def Qd:List Form:=Lp 0 Qc
noncomputable def VZ:List Form:=Lp 0 VY
noncomputable def ab(fl:Bool):List Form:=bif fl then Qd else VZ
noncomputable def Form.jP(f:Form):Bool:=decide (0<=f.dig)||f.kinds.any (·.slot.qz)||f.kinds.any (·.slot.BN)
noncomputable def Form.plus(f:Form):Bool:=f.kinds.any (·.slot.Lo)
noncomputable def Form.t(f:Form):T:= .inst 234 [(st "name",Z f.name),(st "kinds",.tup (f.kinds.map fun k=>Z k.s)),(st "opcode",N f.op),(st "escape",N f.ay),(st "digit",I f.dig),(st "size",N f.size),(st "must",I 0),(st "is_wide",B f.wide),(st "number",N f.num),(st "places",.tup (f.kinds.map fun k=>Z k.slot.s))]
noncomputable def uy{α β:Type}(eq:α->α->Bool)(k:α)(v:β):List (α×List β)->List (α×List β)
 |[]=>[(k,[v])]
 |(a,l)::r=>bif eq a k then(a,l++[v])::r else(a,l)::uy eq k v r
noncomputable def Form.codes(f:Form):List (Nat×Nat):=bif f.plus then(List.range 8).map fun i=>(f.ay,f.op+i)else[(f.ay,f.op)]
noncomputable def byName(l:List Form):List (String×List Form):=l.foldl (fun es f=>uy (fun a b=>sEq (st a) (st b)) f.name f es) []
noncomputable def dc(l:List Form):List ((Nat×Nat)×List Form):=l.foldl (fun es f=>f.codes.foldl (fun es c=>uy (fun a b=>Nat.beq a.1 b.1&&Nat.beq a.2 b.2) c f es) es) []
noncomputable def bQ(l:List Form):T:= .lst (l.map Form.t)
noncomputable def cQ(p:(Nat×Nat)×List Form):T×T:=(.tup [I 0,N p.1.1,N p.1.2],bQ p.2)
noncomputable def ag(l:List Form):T:= .inst 1121 [(st "forms",bQ l),(st "by_name",.dict ((byName l).map fun p=>(Z p.1,bQ p.2))),(st "by_code",.dict ((dc l).map cQ))]
noncomputable def jQ(e o:Nat):List ((Nat×Nat)×List Form)->List Form
 |[]=>[]
 |p::r=>if p.1.1=e/\p.1.2=o then p.2 else jQ e o r
noncomputable def jR(l:List Form)(e o:Nat):List Form:=jQ e o (dc l)
theorem oI{P:Nat->Nat->List Form->Prop}(hn:∀e o,P e o [])(e o:Nat):∀l:List ((Nat×Nat)×List Form),(∀p∈l,P p.1.1 p.1.2 p.2)->P e o (jQ e o l)
 |[],_=>hn e o
 |p::r,h=>by
  rw[jQ]
  split
  ·rename_i q
   rw[<-q.1,<-q.2]
   exact h p (by simp)
  ·exact oI hn e o r fun q hq=>h q (by simp [hq])
theorem v9{S:Tab}{n a:Nat}{g:Ld}{ts:List T}{r:Option T}(G:cC S n)(h:S a=some (Fs g))(hg:g ts=some r):aH n a ts r:=bG.le ⟨G.spec a _ h,G.keep a _ h⟩ fun args c k out e=>ae e fun p e1 e2=>aE e2 fun q e3=>by
 cases db q
 have z:lI S a args c k=some out:=by
  rw[Lf (k:=k) h e1 hg]
  induction r<;>exact e3
 unfold lI at z
 rw[h]at z
 exact z
noncomputable def V0:Fn:=fnAt (lU pW 114 4) []
noncomputable abbrev nr(m e o:Int):T:= .tup [.int m,.int e,.int o]
noncomputable def atEnd(c:aa)(k:Kn)(v:V):aq:=ob (mE [.lst []] v) fun xs=>ob (fr aN ([.lst []]++[.lst xs]) (.loc 1)) fun q=>k (.ok (.t q.1)) c
theorem BO(a b:T)(es:List (T×T))(m e o:Int)(c:aa)(k:Kn):an bD (TN 8) V0 [.t (.inst 1121 [(st "forms",a),(st "by_name",b),(st "by_code",.dict es)]),.t (.int m),.t (.int e),.t (.int o)] [] (pk c k)=
  (bif cX (nr m e o) (vF es)then bJ (nr m e o) (vF es) (.loc 0) (atEnd c k)else none):=by rfl'
theorem BP(c:aa)(k:Kn)(l:List Form):atEnd c k (.t (bQ l))=k (.ok (.t (bQ l))) c:=by
 show ob (ob (iF (fr 11) [.lst [],.lst ((l.map Form.t).map .t)] ((l.map Form.t).map .t)) fun p=>cW p.2 1 (.lst p.1)) _=_
 rw[ll]
 rfl
theorem sA(c:aa)(k:Kn):atEnd c k (.loc 0)=k (.ok (.t (bQ []))) c:=rfl
theorem wa(m e o:Int)(l:List ((Nat×Nat)×List Form)):cX (nr m e o) (vF (l.map cQ))=true:=by
 show((vF (l.map cQ)).all fun p=>kq p.1)=true
 rw[List.all_eq_true]
 intro p hp
 obtain⟨q,hq,rfl⟩:=List.mem_map.mp hp
 obtain⟨r,_,rfl⟩:=List.mem_map.mp hq
 rfl
theorem BQ(m:Int)(e o:Nat)(K:V->aq)(p:(Nat×Nat)×List Form)(r:List (T×V)):bJ (nr m e o) (((cQ p).1,V.t (cQ p).2)::r) (.loc 0) K=bif(decide (m=0)&&(decide ((e:Int)=p.1.1)&&(decide ((o:Int)=p.1.2)&&true)))then K (.t (cQ p).2)else bJ (nr m e o) r (.loc 0) K:=rfl
theorem nt(m:Int)(e o:Nat)(K:V->aq):∀l:List ((Nat×Nat)×List Form),(m≠0->bJ (nr m e o) (vF (l.map cQ)) (.loc 0) K=K (.loc 0))/\(m=0->bJ (nr m e o) (vF (l.map cQ)) (.loc 0) K=K (.t (bQ (jQ e o l)))\/jQ e o l=[]/\bJ (nr m e o) (vF (l.map cQ)) (.loc 0) K=K (.loc 0))
 |[]=>⟨fun _=>rfl,fun _=>Or.inr ⟨rfl,rfl⟩⟩
 |p::r=>by
  have ih:=nt m e o K r
  show(m≠0->bJ (nr m e o) (((cQ p).1,V.t (cQ p).2)::vF (r.map cQ)) (.loc 0) K=K (.loc 0))/\(m=0->bJ (nr m e o) (((cQ p).1,V.t (cQ p).2)::vF (r.map cQ)) (.loc 0) K=_\/_/\bJ (nr m e o) (((cQ p).1,V.t (cQ p).2)::vF (r.map cQ)) (.loc 0) K=_)
  rw[BQ]
  constructor
  ·intro h
   rw[show(decide (m=0)&&(decide ((e:Int)=p.1.1)&&(decide ((o:Int)=p.1.2)&&true)))=false by rw[decide_eq_false h];rfl]
   exact ih.1 h
  ·intro h0
   rw[jQ]
   by_cases h:p.1.1=e/\p.1.2=o
   ·rw[show(decide (m=0)&&(decide ((e:Int)=p.1.1)&&(decide ((o:Int)=p.1.2)&&true)))=true by
     simp only[Bool.and_eq_true,decide_eq_true_eq]
     obtain⟨h1,h2⟩:=h
     exact⟨h0,by exact congrArg Int.ofNat h1.symm,by exact congrArg Int.ofNat h2.symm,trivial⟩]
    rw[if_pos h]
    exact Or.inl rfl
   ·rw[show(decide (m=0)&&(decide ((e:Int)=p.1.1)&&(decide ((o:Int)=p.1.2)&&true)))=false by
     rw[Bool.eq_false_iff];intro q;simp only[Bool.and_eq_true,decide_eq_true_eq]at q
     obtain⟨q1,q2,q3,q4⟩:=q
     exact h ⟨by lia,by lia⟩]
    rw[if_neg h]
    exact ih.2 h0
theorem FR(l:List Form)(e o:Nat):aH 9 1090 [ag l,I 0,N e,N o] (some (bQ (jR l e o))):=
 ak (S:=TN 8) Bm (ig (Nat.le_refl _)) fun c k=>(by
  refine(Eq.trans (BO (bQ l) _ ((dc l).map cQ) 0 e o c k) ?_)
  rw[wa,cond_true]
  cases (nt 0 e o (atEnd c k) (dc l)).2 rfl with
  |inl h=>rw[h];exact BP c k _
  |inr h=>rw[h.2,sA,show jR l e o=[]from h.1];rfl)
theorem yc(l:List Form)(m:Int)(hm:m≠0)(e o:Nat):aH 9 1090 [ag l,I m,N e,N o] (some (bQ [])):=
 ak (S:=TN 8) Bm (ig (Nat.le_refl _)) fun c k=>(by
  refine(Eq.trans (BO (bQ l) _ ((dc l).map cQ) m e o c k) ?_)
  rw[wa,cond_true,(nt m e o (atEnd c k) (dc l)).1 hm]
  exact sA c k)
noncomputable def Pre.bit(p:Pre)(d:Nat):Nat:=match p.aX with
 |none=>0
 |some r=>(64+r)/d %2
noncomputable def cB(bB:Int)(p:Pre)(ca ay op ma mod aA rm az ar width ra:Int):T:= .inst 843 [(st "begin",I bB),(st "prefixes",p.t),(st "code_at",I ca),(st "w",N (p.bit 8)),(st "r",N (p.bit 4)),(st "x",N (p.bit 2)),(st "b",N (p.bit 1)),
 (st "escape",I ay),(st "opcode",I op),(st "must",I 0),(st "modrm_at",I ma),(st "mod",I mod),(st "reg",I aA),(st "rm",I rm),(st "sib",I az),(st "disp",I ar),(st "width",I width),(st "rest_at",I ra)]
noncomputable def bz.NW:bz->Bool| .m=>true|_=>false
noncomputable def Form.sB(f:Form):Bool:=st f.name==st "nop"
noncomputable def FT(f:Form)(dat:Bool)(w b:Nat)(ay op:Int)(yes no:aq):aq:=
 bif decide (ay=1)then yes else bif !decide (op=144)then yes else
  bif decide ((b:Int)=0)==true then bif decide ((w:Int)=0)==true then(bif f.sB== !dat then yes else no)else(bif f.sB==decide ((w:Int)=0)then yes else no)else(bif f.sB==decide ((b:Int)=0)then yes else no)
noncomputable def FU(f:Form)(mod:Int)(yes no:aq):aq:=
 bif decide (mod<3)==false then(bif f.kinds.any bz.NW then no else yes)else bif decide (mod<3)then yes else no
noncomputable def FV(f:Form)(dat:Bool)(w:Nat)(yes no:aq):aq:=
 bif Nat.beq f.size 0||Nat.beq f.size 8 then yes else
 bif f.wide then(bif Nat.beq f.size (bif dat then 16 else 64)then yes else no)else
 bif decide ((w:Int)=1)then(bif Nat.beq f.size 64 then yes else no)else(bif Nat.beq f.size (bif dat then 16 else 32)then yes else no)
noncomputable def FW(f:Form)(dat:Bool)(w b:Nat)(ay op mod aA:Int)(yes no:aq):aq:=
 bif decide (0<=f.dig)then bif !decide (f.dig=aA)then no else FV f dat w (FU f mod (FT f dat w b ay op yes no) no) no
 else FV f dat w (FU f mod (FT f dat w b ay op yes no) no) no
noncomputable def BR:Fn:=fnAt (aR pW 85) []
noncomputable def tA:Stmt:=fu (fB (aR pW 85)) 0
noncomputable def BS(fs fr:T):Option T->Loc
 |none=>[(st "forms",.t fs),(st "frame",.t fr)]
 |some f=>[(st "forms",.t fs),(st "frame",.t fr),(st "form",.t f)]
noncomputable abbrev FX:=cx (TN 8) BR
noncomputable abbrev Lq:List (List bz×Nat×Bool):=[([.dl],0,false),([.bV],0,false),([.fK],64,true),([],0,false),([.jb],0,false),([],64,true),([.nq],0,false),([],8,false),([],16,false),([],32,false),([],64,false),([.fj],16,false),([.f9],32,false),
 ([.ux,.r8],8,false),([.fj,.v6],16,false),([.f9,.v7],32,false),([.fK,.ya],64,false),([.r8,.ux],8,false),([.v6,.fj],16,false),([.v7,.f9],32,false),([.ya,.fK],64,false),([.o8,.nZ],8,false),([.v8,.iM],16,false),([.DI,.iN],32,false),
 ([.ux,.nZ],8,false),([.fj,.iM],16,false),([.f9,.iN],32,false),([.fK,.eN],64,false),([.yb,.nj],64,false),([.v6,.m],16,false),([.v7,.m],32,false),([.ya,.m],64,false),([.v8,.ax],16,false),([.DI,.NV],32,false),([.yb,.Qb],64,false),
 ([.yb],64,true),([.v8],16,false),([.lp],64,true),([.eN],64,true)]
noncomputable def Form.cls(f:Form):List bz×Nat×Bool:=(f.kinds,f.size,f.wide)
theorem Lr(fl:Bool):∀f∈ab fl,f.cls∈Lq:=by induction fl<;>decide+kernel
noncomputable abbrev sC(name:String)(op ay:Nat)(dig:Int)(num:Nat)(q:List bz×Nat×Bool):Form:=⟨⟨name,q.1,op,ay,dig,q.2.1,q.2.2⟩,num⟩
theorem Ls(name:String)(jS de:Nat)(dig:Int)(num:Nat)(fs:T)(bB:Int)(seg:Seg)(dat:Bool)(rp:Rep)(lock:Bool)(aX:Option Nat)(ca ay op ma mod aA rm az ar width ra:Int)(rest:List T)(c:aa)(k:Ko):
  Lq.map (fun q=>bM BR.scope (ah FX 38) (a7 tA) (aV tA) ((sC name jS de dig num q).t::rest) (BS fs (cB bB ⟨seg,dat,rp,lock,aX⟩ ca ay op ma mod aA rm az ar width ra) none) c k)=
  Lq.map (fun q=>FW (sC name jS de dig num q) dat (Pre.bit ⟨seg,dat,rp,lock,aX⟩ 8) (Pre.bit ⟨seg,dat,rp,lock,aX⟩ 1) ay op mod aA
   (k (.ret (.t (sC name jS de dig num q).t)) (BS fs (cB bB ⟨seg,dat,rp,lock,aX⟩ ca ay op ma mod aA rm az ar width ra) (some (sC name jS de dig num q).t)) c)
   (bM BR.scope (ah FX 38) (a7 tA) (aV tA) rest (BS fs (cB bB ⟨seg,dat,rp,lock,aX⟩ ca ay op ma mod aA rm az ar width ra) (some (sC name jS de dig num q).t)) c k)):=by
 induction dat<;>rfl'
theorem FY(v fs fr:T)(t:Option T)(rest:List T)(c:aa)(k:Ko):bM BR.scope (ah FX 38) (a7 tA) (aV tA) (v::rest) (BS fs fr t) c k=bM BR.scope (ah FX 38) (a7 tA) (aV tA) (v::rest) (BS fs fr none) c k:=by
 induction t<;>rfl'
theorem FZ{fl:Bool}{f:Form}(hf:f∈ab fl)(fs:T)(bB:Int)(p:Pre)(ca ay op ma mod aA rm az ar width ra:Int)(t:Option T)(rest:List T)(c:aa)(k:Ko):
  bM BR.scope (ah FX 38) (a7 tA) (aV tA) (f.t::rest) (BS fs (cB bB p ca ay op ma mod aA rm az ar width ra) t) c k=
  FW f p.data (p.bit 8) (p.bit 1) ay op mod aA
   (k (.ret (.t f.t)) (BS fs (cB bB p ca ay op ma mod aA rm az ar width ra) (some f.t)) c)
   (bM BR.scope (ah FX 38) (a7 tA) (aV tA) rest (BS fs (cB bB p ca ay op ma mod aA rm az ar width ra) (some f.t)) c k):=by
 rw[FY]
 obtain⟨seg,dat,rp,lock,aX⟩:=p
 exact List.map_inj_left.mp (Ls ..) f.cls (Lr fl f hf)
noncomputable def Lu(f:Form)(p:Pre)(ay op:Nat):Bool:=Nat.beq ay 1|| !Nat.beq op 144||(f.sB==(Nat.beq (p.bit 1) 0&&Nat.beq (p.bit 8) 0&& !p.data))
noncomputable def BU(f:Form)(mod:Int):Bool:=decide (mod<3)|| !f.kinds.any bz.NW
noncomputable def F0(f:Form)(p:Pre):Bool:=Nat.beq f.size 0||Nat.beq f.size 8||(bif f.wide then Nat.beq f.size (bif p.data then 16 else 64)else bif Nat.beq (p.bit 8) 1 then Nat.beq f.size 64 else Nat.beq f.size (bif p.data then 16 else 32))
noncomputable def Qe(f:Form)(aA:Int):Bool:= !decide (0<=f.dig)||decide (f.dig=aA)
noncomputable def sD(f:Form)(p:Pre)(ay op:Nat)(mod aA:Int):Bool:=Qe f aA&&(F0 f p&&(BU f mod&&Lu f p ay op))
theorem BV(n m:Nat):decide ((n:Int)=(m:Int))=Nat.beq n m:=by rw[Bool.eq_iff_iff,decide_eq_true_eq];exact⟨fun h=>by rw[show n=m by exact Int.ofNat.inj h];exact Nat.beq_refl _,fun h=>by rw[Nat.eq_of_beq_eq_true h]⟩
theorem F1(f:Form)(p:Pre)(ay op:Nat)(yes no:aq):FT f p.data (p.bit 8) (p.bit 1) ay op yes no=bif Lu f p ay op then yes else no:=by
 have e1:decide ((ay:Int)=1)=Nat.beq ay 1:=BV ay 1
 have e2:decide ((op:Int)=144)=Nat.beq op 144:=BV op 144
 have e5:decide (((p.bit 8:Nat):Int)=0)=Nat.beq (p.bit 8) 0:=BV _ 0
 have e6:decide (((p.bit 1:Nat):Int)=0)=Nat.beq (p.bit 1) 0:=BV _ 0
 unfold FT Lu
 rw[e1,e2,e5,e6]
 generalize Nat.beq (p.bit 8) 0=a9
 generalize Nat.beq (p.bit 1) 0=b1
 generalize f.sB=b4
 generalize Nat.beq ay 1=b5
 generalize Nat.beq op 144=b6
 generalize p.data=d
 induction b5<;>first|rfl|(induction b6<;>first|rfl|(induction b1<;>induction b4<;>first|rfl|(induction a9<;>first|rfl|(induction d<;>rfl))))
theorem F2(f:Form)(mod:Int)(yes no:aq):FU f mod yes no=bif BU f mod then yes else no:=by
 unfold FU BU
 cases decide (mod<3)<;>cases f.kinds.any bz.NW<;>rfl
theorem F3(f:Form)(p:Pre)(yes no:aq):FV f p.data (p.bit 8) yes no=bif F0 f p then yes else no:=by
 have e4:decide (((p.bit 8:Nat):Int)=1)=Nat.beq (p.bit 8) 1:=BV _ 1
 unfold FV F0
 rw[e4]
 cases Nat.beq f.size 0<;>first|rfl|(cases Nat.beq f.size 8<;>first|rfl|(induction f.wide<;>first|rfl|(cases Nat.beq (p.bit 8) 1<;>rfl)))
theorem F4(f:Form)(p:Pre)(ay op:Nat)(mod aA:Int)(yes no:aq):FW f p.data (p.bit 8) (p.bit 1) ay op mod aA yes no=bif sD f p ay op mod aA then yes else no:=by
 unfold FW sD Qe
 rw[F1,F2,F3]
 cases decide (0<=f.dig)<;>first|rfl|(cases decide (f.dig=aA)<;>first|rfl|(cases F0 f p<;>first|rfl|(cases BU f mod<;>rfl)))
noncomputable def dg(fs:List Form)(p:Pre)(ay op:Nat)(mod aA:Int):Option Form:=fs.find? fun f=>sD f p ay op mod aA
theorem wb(fl:Bool)(F:T)(bB:Int)(p:Pre)(ca:Int)(ay op:Nat)(ma mod aA rm az ar width ra:Int)(c:aa)(k:Ko)(BE:Form->aq)(EX:aq)(h1:∀f l,k (.ret (.t (Form.t f))) l c=BE f)(h2:∀t,k .next (BS F (cB bB p ca ay op ma mod aA rm az ar width ra) t) c=EX):
  ∀(fs:List Form) (t:Option T),(∀f∈fs,f∈ab fl)->bM BR.scope (ah FX 38) (a7 tA) (aV tA) (fs.map Form.t) (BS F (cB bB p ca ay op ma mod aA rm az ar width ra) t) c k=match dg fs p ay op mod aA with|some f=>BE f|none=>EX
 |[],t,h=>h2 t
 |f::fs,t,h=>by
  rw[List.map_cons,FZ (h f (by simp)),F4,wb fl F bB p ca ay op ma mod aA rm az ar width ra c k BE EX h1 h2 fs _ fun g hg=>h g (by simp [hg]),h1]
  unfold dg
  rw[List.find?_cons]
  cases sD f p ay op mod aA<;>rfl
theorem BW(l:List T)(fr:T)(c:aa)(k:Kn):an bD (TN 8) BR [.t (.lst l),.t fr] [] (pk c k)=
  bM BR.scope (ah FX 38) (a7 tA) (aV tA) l (BS (.lst l) fr none) [] (iI FX 39 (BR.body.drop 1) (KK c k)):=by rfl'
theorem yd{fl:Bool}{fs:List Form}(h:∀f∈fs,f∈ab fl)(bB:Int)(p:Pre)(ca:Int)(ay op:Nat)(ma mod aA rm az ar width ra:Int):aH 9 873 [bQ fs,cB bB p ca ay op ma mod aA rm az ar width ra] ((dg fs p ay op mod aA).map Form.t):=
 ak (S:=TN 8) PC (ig (Nat.le_refl _)) fun c k=>(by
  refine(Eq.trans (BW ..) ?_)
  rw[wb fl (.lst (fs.map Form.t)) bB p ca ay op ma mod aA rm az ar width ra [] _ (fun f=>k (.ok (.t f.t)) c) (k .exc c) (fun f l=>rfl) (fun t=>by induction t<;>rfl') fs none h]
  cases dg fs p ay op mod aA<;>rfl)
noncomputable def ye(bB:Int)(p:Pre)(ca ay op ma mod aA rm az ar width ra:Int):Cell:=match cB bB p ca ay op ma mod aA rm az ar width ra with
 | .inst c fs=> .inst c (fs.map fun q=>(q.1,.t q.2))
 |_=> .lst []
theorem Qg(p:Pre)(h:∀r,p.aX=some r->r<16)(j ca:Int):dx 9 843 [.t (.int j),.t p.t,.t (.int ca)] [] (.ok (.loc 0)) [ye j p ca 0 0 ca (-1) 0 0 (-1) 0 0 ca]:=x6 (by rfl') fun k=>by
 refine Le.of_eq ?_
 obtain⟨seg,dat,rp,lock,aX⟩:=p
 induction aX with
 |none=>rfl'
 |some r=>
  have e:(List.range 16).map (fun r=>k (.ok (.loc 0)) [ye j ⟨seg,dat,rp,lock,some r⟩ ca 0 0 ca (-1) 0 0 (-1) 0 0 ca])=(List.range 16).map (fun r=>lI (TN 9) 843 [.t (.int j),.t (Pre.t ⟨seg,dat,rp,lock,some r⟩),.t (.int ca)] [] k):=by rfl'
  exact ef e (List.mem_range.mpr (h r rfl))
noncomputable abbrev Zs:Fn:=fnAt (lU pW 81 3) []
noncomputable abbrev cV(j:Int)(p:Pre)(ca ay op ma:Int):Cell:=ye j p ca ay op ma (-1) 0 0 (-1) 0 0 ma
noncomputable def IT(os:List UInt8)(j:Int)(p:Pre)(ca ay at_:Int)(k:Kn):aq:=
 bif decide ((os.length:Int)<=at_)then IK 1 k .exc [ye j p ca ay 0 ca (-1) 0 0 (-1) 0 0 ca]else
 bif decide (0<=at_)&&decide (at_<os.length)then IK 1 k (.ok (.t .none)) [cV j p ca ay ((os.getD at_.toNat 0).toNat:Int) (at_+1)]else none
theorem Lv(os:List UInt8)(j:Int)(p:Pre)(ca:Int)(k:Kn):an bD (TN 8) Zs [.loc 0,.t (.bytes os)] [ye j p ca 0 0 ca (-1) 0 0 (-1) 0 0 ca] (IK 1 k)=
  bif(a8 os (some ca) (some (ca+1))==[15])then IT os j p ca 1 (ca+1) k else IT os j p ca 0 ca k:=by rfl'
theorem Lw(j:Int)(p:Pre)(ca ay op ma mod aA rm az ar width ra:Int)(k:Kn):IK 1 k .exc [ye j p ca ay op ma mod aA rm az ar width ra]=k .exc [ye j p ca ay op ma mod aA rm az ar width ra]:=by rfl'
theorem Lx(j:Int)(p:Pre)(ca ay op ma mod aA rm az ar width ra:Int)(k:Kn):IK 1 k (.ok (.t .none)) [ye j p ca ay op ma mod aA rm az ar width ra]=k (.ok (.t .none)) [ye j p ca ay op ma mod aA rm az ar width ra]:=by rfl'
theorem F5(os:List UInt8)(a:Nat):a8 os (some (a:Int)) (some ((a:Int)+1))=(os.drop a).take 1:=qx os a 1
noncomputable def jc(o:UInt8)(r:List UInt8):Option (Nat×Nat):=if o.toNat=15 then match r with
  |[]=>none
  |x::_=>some (1,x.toNat)
  else some (0,o.toNat)
noncomputable def dY:List UInt8->Option (Nat×Nat)
 |[]=>none
 |o::r=>jc o r
theorem ml{o:UInt8}(q:o.toNat=15):dY [o]=none:=by show jc o []=none;unfold jc;rw[if_pos q]
theorem mn{o x:UInt8}{r:List UInt8}(q:o.toNat=15):dY (o::x::r)=some (1,x.toNat):=by show jc o (x::r)=_;unfold jc;rw[if_pos q]
theorem mo{o:UInt8}{r:List UInt8}(q:¬o.toNat=15):dY (o::r)=some (0,o.toNat):=by show jc o r=_;unfold jc;rw[if_neg q]
theorem Qh(o:UInt8):(o==15)=decide (o.toNat=15):=by
 rw[Bool.eq_iff_iff,beq_iff_eq,decide_eq_true_eq]
 exact⟨fun h=>by rw[h];rfl,fun h=>UInt8.toNat_inj.mp h⟩
theorem BX(os:List UInt8)(j:Int)(p:Pre)(ca ay:Int)(a:Nat)(h:a<os.length)(k:Kn):IT os j p ca ay a k=k (.ok (.t .none)) [cV j p ca ay ((os.getD a 0).toNat:Int) ((a:Int)+1)]:=by
 unfold IT
 rw[cN (by exact Int.not_le.mpr (Int.ofNat_lt.mpr h))]
 have g:(decide (0<=(a:Int))&&decide ((a:Int)<os.length))=true:=by simp only[Bool.and_eq_true,decide_eq_true_eq];omega
 rw[g,Int.toNat_natCast,Lx];rfl
theorem wc(os:List UInt8)(j:Int)(p:Pre)(ca ay:Int)(a:Nat)(h:¬a<os.length)(k:Kn):IT os j p ca ay a k=k .exc [ye j p ca ay 0 ca (-1) 0 0 (-1) 0 0 ca]:=by
 unfold IT
 rw[cD (by exact Int.ofNat_le.mpr (Nat.le_of_not_lt h)),Lw]
theorem code_at(os:List UInt8)(j:Int)(p:Pre)(a:Nat):match dY (os.drop a)with
  |some (e,o)=>dx 9 826 [.loc 0,.t (.bytes os)] [cV j p a 0 0 a] (.ok (.t .none)) [cV j p a e o (a+1+e)]
  |none=>∃c1,dx 9 826 [.loc 0,.t (.bytes os)] [cV j p a 0 0 a] .exc c1:=by
 have key:∀r c1,(∀k,k r c1=bif(a8 os (some (a:Int)) (some ((a:Int)+1))==[15])then IT os j p a 1 ((a:Int)+1) k else IT os j p a 0 a k)->dx 9 826 [.loc 0,.t (.bytes os)] [cV j p a 0 0 a] r c1:=fun r c1 h=>
  gV VB (bI 8) fun k=>(Lv ..).trans (h k).symm
 rw[F5]at key
 by_cases h:a<os.length
 ·rw[ij h]
  rw[ij h]at key
  have e1:(List.take 1 (os.getD a 0::os.drop (a+1))==[15])=decide ((os.getD a 0).toNat=15):=by
   rw[<-Qh]
   show((os.getD a 0==15)&&true)=_
   rw[Bool.and_true]
  rw[e1]at key
  by_cases q:(os.getD a 0).toNat=15
  ·rw[decide_eq_true q]at key
   simp only[cond_true]at key
   have e2:((a:Int)+1)=((a+1:Nat):Int):=by push_cast;rfl
   by_cases h2:a+1<os.length
   ·rw[ij h2,mn q]
    refine key _ _ fun k=> ?_
    rw[e2,BX os j p a 1 (a+1) h2 k]
    rfl
   ·rw[List.drop_of_length_le (by exact Nat.le_of_not_lt h2),ml q]
    refine⟨_,key _ [ye j p a 1 0 a (-1) 0 0 (-1) 0 0 a] fun k=> ?_⟩
    rw[e2,wc os j p a 1 (a+1) h2 k]
  ·rw[decide_eq_false q]at key
   simp only[cond_false]at key
   rw[mo q]
   refine key _ _ fun k=> ?_
   rw[BX os j p a 0 a h k]
   rfl
 ·rw[List.drop_of_length_le (by exact Nat.le_of_not_lt h)]
  rw[List.drop_of_length_le (by exact Nat.le_of_not_lt h)]at key
  refine⟨_,key _ [ye j p a 0 0 a (-1) 0 0 (-1) 0 0 a] fun k=> ?_⟩
  have:(List.take 1 ([]:List UInt8)==[15])=false:=by decide
  rw[this]
  simp only[cond_false]
  rw[wc os j p a 0 a h k]
noncomputable abbrev Zt:Fn:=fnAt (lU pW 81 4) []
noncomputable def Ly(m:Int):List V->Bool
 |[_,.t (.int i),_,_]=>decide (i=m)
 |_=>false
noncomputable abbrev Qi(l:List Form)(fc:Cell)(k:Kn)(F:Spec):aq:=an bD (cU [(1090,F)] (TN 8)) Zt [.loc 0,.t (ag l)] [fc] (IK 1 k)
theorem Lz(l:List Form)(seg:Seg)(lock:Bool)(aX:Option Nat)(j ca ay op ma:Int)(k:Kn)(F:Spec):Qi l (cV j ⟨seg,false,.no,lock,aX⟩ ca ay op ma) k F=k (.ok (.t .none)) [cV j ⟨seg,false,.no,lock,aX⟩ ca ay op ma]:=by rfl'
theorem LA(l:List Form)(seg:Seg)(lock:Bool)(aX:Option Nat)(j ca ay op ma:Int)(k:Kn)(Q:Qs):
  Qi l (cV j ⟨seg,true,.no,lock,aX⟩ ca ay op ma) k (ck Q (.ok (.t (.lst []))) [cV j ⟨seg,true,.no,lock,aX⟩ ca ay op ma])=bif Q [.t (ag l),.t (I 102),.t (.int ay),.t (.int op)] [cV j ⟨seg,true,.no,lock,aX⟩ ca ay op ma]then k (.ok (.t .none)) [cV j ⟨seg,true,.no,lock,aX⟩ ca ay op ma]else none:=by rfl'
noncomputable def Rep.i:Rep->Int| .no=>0| .rep=>243| .iK=>242
theorem LB(l:List Form)(seg:Seg)(lock:Bool)(aX:Option Nat)(j ca ay op ma:Int)(k:Kn)(Q:Qs)(rp:Rep)(h:rp.i≠0):
  Qi l (cV j ⟨seg,false,rp,lock,aX⟩ ca ay op ma) k (ck Q (.ok (.t (.lst []))) [cV j ⟨seg,false,rp,lock,aX⟩ ca ay op ma])=bif Q [.t (ag l),.t (I rp.i),.t (.int ay),.t (.int op)] [cV j ⟨seg,false,rp,lock,aX⟩ ca ay op ma]then k (.ok (.t .none)) [cV j ⟨seg,false,rp,lock,aX⟩ ca ay op ma]else none:=by
 induction rp
 ·exact absurd rfl h
 all_goals rfl'
theorem LC(l:List Form)(seg:Seg)(lock:Bool)(aX:Option Nat)(j ca ay op ma:Int)(k:Kn)(Q Q' :Qs)(rp:Rep)(h:rp.i≠0):
  Qi l (cV j ⟨seg,true,rp,lock,aX⟩ ca ay op ma) k (DF (Ly 102) (ck Q (.ok (.t (.lst []))) [cV j ⟨seg,true,rp,lock,aX⟩ ca ay op ma,.lst []]) (ck Q' (.ok (.t (.lst []))) [cV j ⟨seg,true,rp,lock,aX⟩ ca ay op ma]))=
  bif Q' [.t (ag l),.t (I rp.i),.t (.int ay),.t (.int op)] [cV j ⟨seg,true,rp,lock,aX⟩ ca ay op ma]then bif Q [.t (ag l),.t (I 102),.t (.int ay),.t (.int op)] [cV j ⟨seg,true,rp,lock,aX⟩ ca ay op ma,.lst []]then k (.ok (.t .none)) [cV j ⟨seg,true,rp,lock,aX⟩ ca ay op ma]else none else none:=by
 induction rp
 ·exact absurd rfl h
 all_goals rfl'
theorem F6(l:List Form)(c:aa)(m:Int)(hm:m≠0)(ay op:Nat):bG 10 1090 (ck (isQ [.t (ag l),.t (I m),.t (N ay),.t (N op)] c) (.ok (.t (.lst []))) c):=
 jN (n:=9) (by decide+kernel) (dG (by decide) ((yc l m hm ay op).cells c))
theorem F7(l:List Form)(p:Pre)(j ca:Int)(ay op:Nat)(ma:Int):dx 11 833 [.loc 0,.t (ag l)] [cV j p ca ay op ma] (.ok (.t .none)) [cV j p ca ay op ma]:=by
 obtain⟨seg,dat,rp,lock,aX⟩:=p
 have run:∀F,bG 10 1090 F->(∀k,Qi l (cV j ⟨seg,dat,rp,lock,aX⟩ ca ay op ma) k F=k (.ok (.t .none)) [cV j ⟨seg,dat,rp,lock,aX⟩ ca ay op ma])->dx 11 833 [.loc 0,.t (ag l)] [cV j ⟨seg,dat,rp,lock,aX⟩ ca ay op ma] (.ok (.t .none)) [cV j ⟨seg,dat,rp,lock,aX⟩ ca ay op ma]:=
  fun F hF h=>gV VC (aP (by decide) [(1090,F)] (TP hF)) h
 have q:=fun c m hm=>F6 l c m hm ay op
 by_cases h:rp.i=0
 ·have e:rp= .no:=by induction rp<;>first|rfl|exact absurd h (by decide)
  subst e
  induction dat with
  |false=>exact run _ (q [] 1 (by decide)) fun k=>Lz l seg lock aX j ca ay op ma k _
  |true=>exact run _ (q _ 102 (by decide)) fun k=>(LA ..).trans (by rw[fF];rfl)
 ·induction dat with
  |false=>exact run _ (q _ rp.i h) fun k=>(LB l seg lock aX j ca ay op ma k _ rp h).trans (by rw[fF];rfl)
  |true=>exact run _ (Br (q _ 102 (by decide)) (q _ rp.i h)) fun k=>(LC l seg lock aX j ca ay op ma k _ _ rp h).trans (by rw[fF,fF];rfl)
noncomputable abbrev Zu:Fn:=fnAt (lU pW 81 5) []
noncomputable abbrev V1(os:List UInt8)(fc:Cell)(k:Kn)(F:Spec):aq:=an bD (cU [(650,F)] (TN 8)) Zu [.loc 0,.t (.bytes os)] [fc] (IK 1 k)
noncomputable abbrev IU(j:Int)(p:Pre)(ca ay op ma:Int)(m:dR)(ra:Int):Cell:=ye j p ca ay op ma m.mod m.aA m.rm (fJ m.az) (cG m.cj) m.cj.length ra
theorem Qj(os:List UInt8)(j:Int)(p:Pre)(ca ay op ma:Int)(m:dR)(ra:Int)(k:Kn)(Q:Qs):V1 os (cV j p ca ay op ma) k (ck Q (.ok (.t (m.t ra))) [cV j p ca ay op ma])=
  bif Q [.t (.bytes os),.t (.int ma)] [cV j p ca ay op ma]then k (.ok (.t .none)) [IU j p ca ay op ma m ra]else none:=by rfl'
theorem LD(os:List UInt8)(j:Int)(p:Pre)(ca ay op ma:Int)(k:Kn)(Q:Qs):V1 os (cV j p ca ay op ma) k (ck Q .exc [cV j p ca ay op ma])=
  bif Q [.t (.bytes os),.t (.int ma)] [cV j p ca ay op ma]then k .exc [cV j p ca ay op ma]else none:=by rfl'
theorem F8(os:List UInt8)(a:Nat):aH 14 650 [.bytes os,.int a] (kO (eg (os.drop a)) fun m n=>m.t (a+n)):=by
 refine v9 Qa (g:=VX) (by rfl') ?_
 show(bif decide ((0:Int)<=(a:Int))then some (kO (eg (os.drop (a:Int).toNat)) fun m n=>m.t (a+n))else none)=_
 exact cD (Int.natCast_nonneg a)
theorem LE(os:List UInt8)(j:Int)(p:Pre)(ca ay op:Int)(a:Nat):dx 15 840 [.loc 0,.t (.bytes os)] [cV j p ca ay op a] (match eg (os.drop a)with| .done m n=> .ok (.t .none)|_=> .exc) [match eg (os.drop a)with| .done m n=>IU j p ca ay op a m (a+n)|_=>cV j p ca ay op a]:=by
 have run:∀{r c1 F},bG 14 650 F->(∀k,V1 os (cV j p ca ay op a) k F=k r c1)->dx 15 840 [.loc 0,.t (.bytes os)] [cV j p ca ay op a] r c1:=fun hF h=>gV VD (aP (by decide) [(650,_)] (TP hF)) h
 have hi:bG 14 650 (ck (isQ [.t (.bytes os),.t (.int a)] [cV j p ca ay op a]) (jM (kO (eg (os.drop a)) fun m n=>m.t (a+n))) [cV j p ca ay op a]):=jN (n:=13) trivial ((F8 os a).cells [cV j p ca ay op a])
 cases q:eg (os.drop a)with
 |done m n=>rw[q]at hi;exact run hi fun k=>(Qj ..).trans dw
 |_=>rw[q]at hi;exact run hi fun k=>(LD ..).trans dw
noncomputable def dZ(fl:Bool):List (List Form):=[]::(dc (ab fl)).map (·.2)
noncomputable abbrev Zv:Fn:=fnAt (aR pW 96) []
noncomputable abbrev IV(l:List Form)(os:List UInt8)(j:Int)(c:aa)(k:Kn)(L:List (Nat×Spec)):aq:=an bD (cU L (TN 8)) Zv [.t (ag l),.t (.bytes os),.t (.int j)] [] (pk c k)
theorem V2(l:List Form)(os:List UInt8)(j:Int)(c:aa)(k:Kn)(Q:Qs):IV l os j c k [(763,ck Q .exc [])]=bif Q [.t (.bytes os),.t (.int j)] []then k .exc c else none:=by rfl'
noncomputable abbrev Yg(os:List UInt8)(j:Int)(Q1 Q2 Q3:Qs)(p:Pre)(ca:Int)(x:aq):aq:=bif Q1 [.t (.bytes os),.t (.int j)] []then bif Q2 [.t (.int j),.t p.t,.t (.int ca)] []then bif Q3 [.loc 0,.t (.bytes os)] [cV j p ca 0 0 ca]then x else none else none else none
theorem V3(l:List Form)(os:List UInt8)(j:Int)(p:Pre)(ca:Int)(c c3:aa)(k:Kn)(Q1 Q2 Q3:Qs):IV l os j c k [(763,ck Q1 (.ok (.t (.tup [p.t,.int ca]))) []),(843,ck Q2 (.ok (.loc 0)) [cV j p ca 0 0 ca]),(826,ck Q3 .exc c3)]=
  Yg os j Q1 Q2 Q3 p ca (k .exc c):=by rfl'
noncomputable abbrev NX(l:List Form)(os:List UInt8)(j:Int)(Q1 Q2 Q3 Q4 Q5:Qs)(p:Pre)(ca e o ma:Int)(x:aq):aq:=Yg os j Q1 Q2 Q3 p ca (bif Q4 [.loc 0,.t (ag l)] [cV j p ca e o ma]then bif Q5 [.t (ag l),.t (I 0),.t (.int e),.t (.int o)] [cV j p ca e o ma]then x else none else none)
noncomputable abbrev NY(j:Int)(Q1 Q2 Q3 Q4 Q5:Qs)(p:Pre)(ca e o ma:Int)(fs:List Form)(L:List (Nat×Spec)):List (Nat×Spec):=(763,ck Q1 (.ok (.t (.tup [p.t,.int ca]))) [])::(843,ck Q2 (.ok (.loc 0)) [cV j p ca 0 0 ca])::(826,ck Q3 (.ok (.t .none)) [cV j p ca e o ma])::(833,ck Q4 (.ok (.t .none)) [cV j p ca e o ma])::(1090,ck Q5 (.ok (.t (bQ fs))) [cV j p ca e o ma])::L
noncomputable def ct(fs:List Form):Bool:=fs.any Form.jP
theorem V4(fl:Bool)(l:List Form)(os:List UInt8)(j:Int)(p:Pre)(ca e o ma:Int)(t:T)(c:aa)(k:Kn)(Q1 Q2 Q3 Q4 Q5 Q6:Qs):((dZ fl).filter fun fs=> !ct fs).map (fun fs=>IV l os j c k (NY j Q1 Q2 Q3 Q4 Q5 p ca e o ma fs [(873,ck Q6 (.ok (.t t)) [.cg (cB j p ca e o ma (-1) 0 0 (-1) 0 0 ma)])]))=
  ((dZ fl).filter fun fs=> !ct fs).map (fun fs=>NX l os j Q1 Q2 Q3 Q4 Q5 p ca e o ma (bif Q6 [.t (bQ fs),.loc 0] [cV j p ca e o ma]then k (.ok (.t (.tup [cB j p ca e o ma (-1) 0 0 (-1) 0 0 ma,t]))) c else none)):=by induction fl<;>rfl'
theorem Qk(fl:Bool)(l:List Form)(os:List UInt8)(j:Int)(p:Pre)(ca e o ma:Int)(c c6:aa)(k:Kn)(Q1 Q2 Q3 Q4 Q5 Q6:Qs):((dZ fl).filter fun fs=> !ct fs).map (fun fs=>IV l os j c k (NY j Q1 Q2 Q3 Q4 Q5 p ca e o ma fs [(873,ck Q6 .exc c6)]))=
  ((dZ fl).filter fun fs=> !ct fs).map (fun fs=>NX l os j Q1 Q2 Q3 Q4 Q5 p ca e o ma (bif Q6 [.t (bQ fs),.loc 0] [cV j p ca e o ma]then k .exc c else none)):=by induction fl<;>rfl'
theorem V5(fl:Bool)(l:List Form)(os:List UInt8)(j:Int)(p:Pre)(ca e o ma:Int)(c c6:aa)(k:Kn)(Q1 Q2 Q3 Q4 Q5 Q6:Qs):((dZ fl).filter ct).map (fun fs=>IV l os j c k (NY j Q1 Q2 Q3 Q4 Q5 p ca e o ma fs [(840,ck Q6 .exc c6)]))=
  ((dZ fl).filter ct).map (fun fs=>NX l os j Q1 Q2 Q3 Q4 Q5 p ca e o ma (bif Q6 [.loc 0,.t (.bytes os)] [cV j p ca e o ma]then k .exc c else none)):=by induction fl<;>rfl'
noncomputable abbrev BY(j:Int)(p:Pre)(ca ay op ma:Int)(m:dR)(ra:Int):T:=cB j p ca ay op ma m.mod m.aA m.rm (fJ m.az) (cG m.cj) m.cj.length ra
theorem V6(fl:Bool)(l:List Form)(os:List UInt8)(j:Int)(p:Pre)(ca e o ma:Int)(m:dR)(ra:Int)(t:T)(c:aa)(k:Kn)(Q1 Q2 Q3 Q4 Q5 Q6 Q7:Qs):((dZ fl).filter ct).map (fun fs=>IV l os j c k (NY j Q1 Q2 Q3 Q4 Q5 p ca e o ma fs [(840,ck Q6 (.ok (.t .none)) [IU j p ca e o ma m ra]),(873,ck Q7 (.ok (.t t)) [.cg (BY j p ca e o ma m ra)])]))=
  ((dZ fl).filter ct).map (fun fs=>NX l os j Q1 Q2 Q3 Q4 Q5 p ca e o ma (bif Q6 [.loc 0,.t (.bytes os)] [cV j p ca e o ma]then bif Q7 [.t (bQ fs),.loc 0] [IU j p ca e o ma m ra]then k (.ok (.t (.tup [BY j p ca e o ma m ra,t]))) c else none else none)):=by induction fl<;>rfl'
theorem Ql(fl:Bool)(l:List Form)(os:List UInt8)(j:Int)(p:Pre)(ca e o ma:Int)(m:dR)(ra:Int)(c c7:aa)(k:Kn)(Q1 Q2 Q3 Q4 Q5 Q6 Q7:Qs):((dZ fl).filter ct).map (fun fs=>IV l os j c k (NY j Q1 Q2 Q3 Q4 Q5 p ca e o ma fs [(840,ck Q6 (.ok (.t .none)) [IU j p ca e o ma m ra]),(873,ck Q7 .exc c7)]))=
  ((dZ fl).filter ct).map (fun fs=>NX l os j Q1 Q2 Q3 Q4 Q5 p ca e o ma (bif Q6 [.loc 0,.t (.bytes os)] [cV j p ca e o ma]then bif Q7 [.t (bQ fs),.loc 0] [IU j p ca e o ma m ra]then k .exc c else none else none)):=by induction fl<;>rfl'
structure Fd where
 p:Pre
 e:Nat
 o:Nat
 m:Option dR
 f:Form
noncomputable def Seg.cnt:Seg->Nat| .no=>0|_=>1
noncomputable def Rep.cnt:Rep->Nat| .no=>0|_=>1
noncomputable def eh(b:Bool):Nat:=bif b then 1 else 0
noncomputable def Pre.cnt(p:Pre):Nat:=p.seg.cnt+eh p.data+p.rep.cnt+eh p.lock+eh p.aX.isSome
noncomputable def dR.len(m:dR):Nat:=1+eh m.az.isSome+m.cj.length
noncomputable def uz:Option dR->Nat|none=>0|some m=>m.len
noncomputable def gw:Option dR->Int|none=> -1|some m=>m.mod
noncomputable def fL:Option dR->Int|none=>0|some m=>m.aA
noncomputable def mR(h:Bool):jl (Option dR):=if h then bindR eg fun m=>iB (some m)else iB none
noncomputable def fM(l:List Form)(p:Pre)(e o:Nat)(m:Option dR):jl Fd:=match dg (jR l e o) p e o (gw m) (fL m)with
 |some f=>iB ⟨p,e,o,m,f⟩
 |none=>IR
noncomputable def LF(l:List Form):jl Fd:=bindR oH fun h=>bindR (mR (ct (jR l (eh h.2.1) h.2.2.toNat))) fun m=>fM l h.1 (eh h.2.1) h.2.2.toNat m
noncomputable def Fd.len(d:Fd):Nat:=d.p.cnt+1+d.e+uz d.m
noncomputable def Fd.fr(d:Fd)(j:Nat):T:=match d.m with
 |none=>cB j d.p ((j+d.p.cnt:Nat):Int) d.e d.o ((j+d.p.cnt+1+d.e:Nat):Int) (-1) 0 0 (-1) 0 0 ((j+d.p.cnt+1+d.e:Nat):Int)
 |some m=>BY j d.p ((j+d.p.cnt:Nat):Int) d.e d.o ((j+d.p.cnt+1+d.e:Nat):Int) m ((j+d.len:Nat):Int)
theorem we{p q:Pre}{l:yR}(h:p.gt l=some q):q.aX=none:=by
 have e:(p.gt l).all (fun q=>q.aX.isNone)=true:=by
  obtain⟨seg,dat,rp,lock,aX⟩:=p
  induction aX with
  |some r=>rfl
  |none=>induction l with
   |fs=>induction seg<;>rfl
   |gs=>induction seg<;>rfl
   |data=>induction dat<;>rfl
   |_=>induction rp<;>induction lock<;>rfl
 rw[h]at e
 exact Option.isNone_iff_eq_none.mp e
theorem c5(a b c d:Nat):1+a+b+c+d=0+a+b+c+d+1:=by
 rw[Nat.zero_add,Nat.add_right_comm _ d 1,Nat.add_right_comm _ c 1,Nat.add_right_comm _ b 1,Nat.add_comm a 1]
theorem c4(a b c d:Nat):a+1+b+c+d=a+0+b+c+d+1:=by
 rw[Nat.add_zero,Nat.add_right_comm _ d 1,Nat.add_right_comm _ c 1,Nat.add_right_comm _ b 1]
theorem F9{p q:Pre}{l:yR}(h:p.gt l=some q):q.cnt=p.cnt+1:=by
 have e:(p.gt l).all (fun q=>decide (q.cnt=p.cnt+1))=true:=by
  obtain⟨seg,dat,rp,lock,aX⟩:=p
  induction aX with
  |some r=>rfl
  |none=>induction l with
   |fs=>induction seg<;>first|rfl|exact decide_eq_true (c5 _ _ _ _)
   |gs=>induction seg<;>first|rfl|exact decide_eq_true (c5 _ _ _ _)
   |data=>induction dat<;>first|rfl|exact decide_eq_true (c4 _ _ _ _)
   |_=>induction rp<;>induction lock<;>first|rfl|exact decide_eq_true rfl
 rw[h]at e
 exact of_decide_eq_true e
theorem Ga{p:Pre}{r:Nat}(h:p.aX=none):({p with aX:=some r}:Pre).cnt=p.cnt+1:=by
 unfold Pre.cnt
 rw[h]
 rfl
theorem map_some{α β:Type}{f:α->β}{x:Option α}{y:β}(h:x.map f=some y):∃a,x=some a/\f a=y:=by
 induction x with
 |none=>cases h
 |some a=>cases h;exact⟨a,rfl,rfl⟩
noncomputable def Qm(o:Nat):Bool:=match cE o with| .aX b=>Nat.blt b 16&&Nat.beq o (64+b)|_=>true
theorem Gb:∀o,o<256->Qm o=true:=by decide+kernel
theorem BZ{o b:Nat}(ho:o<256)(h:cE o= .aX b):(Nat.blt b 16&&Nat.beq o (64+b))=true:=by
 have e:=Gb o ho
 unfold Qm at e
 rw[h]at e
 exact e
theorem uA{o b:Nat}(ho:o<256)(h:cE o= .aX b):b<16:=Nat.le_of_ble_eq_true (Bool.and_eq_true_iff.mp (BZ ho h)).1
theorem mq{M:Pre->List UInt8->Pre->Nat->Prop}(h0:∀p s,(∀o r,s=o::r->cE o.toNat= .plain)->M p s p 0)(hr:∀p o s b q n,cE o.toNat= .aX b->p.aX=none->M {p with aX:=some b} s q n->M p (o::s) q (n+1))(hl:∀p o s l p' q n,cE o.toNat= .gt l->p.gt l=some p' ->M p' s q n->M p (o::s) q (n+1)){s:List UInt8}:∀{p q:Pre} {n:Nat},aI p s=some (q,n)->M p s q n:=by
 induction s with
 |nil=>intro p q n h;cases h;exact h0 _ _ fun _ _ e=>nomatch e
 |cons o s ih=>
  intro p q n h
  rw[aI]at h
  cases kd:cE o.toNat with
  |aX b=>
   rw[kd]at h
   dsimp only at h
   cases e:p.aX with
   |some _=>rw[e]at h;exact nn h
   |none=>rw[e]at h;exact(map_some h).elim fun z w=>by cases w.2;exact hr _ _ _ _ _ _ kd e (ih w.1)
  |gt l=>
   rw[kd]at h
   dsimp only at h
   cases e:p.gt l with
   |none=>rw[e]at h;exact nn h
   |some p' =>rw[e]at h;exact(map_some h).elim fun z w=>by cases w.2;exact hl _ _ _ _ _ _ _ kd e (ih w.1)
  |fi=>rw[kd]at h;exact nn h
  |plain=>rw[kd]at h;cases h;exact h0 _ _ fun _ _ e=>(List.cons.inj e).1▸kd
theorem wf(s:List UInt8)(p q:Pre)(n:Nat):aI p s=some (q,n)->q.cnt=p.cnt+n/\n<=s.length/\((∀r,p.aX=some r->r<16)->∀r,q.aX=some r->r<16):=
 mq (M:=fun p s q n=>q.cnt=p.cnt+n/\n<=s.length/\((∀r,p.aX=some r->r<16)->∀r,q.aX=some r->r<16)) (fun p s _=>⟨rfl,Nat.zero_le _,id⟩)
  (fun p o s b q n kd e i=>⟨by rw[i.1,Ga e,Nat.add_assoc,Nat.add_comm 1],Nat.succ_le_succ i.2.1,fun _=>i.2.2 fun r hr=>Option.some.inj hr▸uA (UInt8.toNat_lt o) kd⟩)
  fun p o s l p' q n kd e i=>⟨by rw[i.1,F9 e,Nat.add_assoc,Nat.add_comm 1],Nat.succ_le_succ i.2.1,fun _=>i.2.2 fun r hr=>nn ((we e).symm.trans hr)⟩
theorem wg(s:List UInt8):oH s=match aI Pre.nil s with
  |none=> .fail
  |some (p,n)=>match dY (s.drop n)with
   |none=> .more
   |some (e,o)=> .done (p,decide (e=1),UInt8.ofNat o) (n+1+e):=by
 unfold oH bindR
 rw[vX]
 cases aI Pre.nil s with
 |none=>rfl
 |some q=>
  obtain⟨p,n⟩:=q
  dsimp only
  cases hd:s.drop n with
  |nil=>rfl
  |cons o r=>
   dsimp only
   have h2:s.drop (n+1)=r:=by rw[<-List.drop_drop,hd];rfl
   rw[h2]
   unfold v3
   by_cases q:o.toNat=15
   ·rw[if_pos q]
    induction r with
    |nil=>rw[ml q];rfl
    |cons x r=>
     rw[mn q]
     show Rd.done (p,true,x) (n+1+(1+0+0))=Rd.done (p,decide (1=1),UInt8.ofNat x.toNat) (n+1+1)
     rw[UInt8.ofNat_toNat];rfl
   ·rw[if_neg q,mo q]
    show Rd.done (p,false,o) (n+1+(0+0))=Rd.done (p,decide (0=1),UInt8.ofNat o.toNat) (n+1+0)
    rw[UInt8.ofNat_toNat];rfl
theorem mr{s:List UInt8}{e o:Nat}(h:dY s=some (e,o)):(e=0\/e=1)/\o<256/\1+e<=s.length:=by
 induction s with
 |nil=>cases h
 |cons x r=>
  by_cases q:x.toNat=15
  ·induction r with
   |nil=>rw[ml q]at h;cases h
   |cons y r=>rw[mn q]at h;cases h;exact⟨.inr rfl,y.toNat_lt,by simp⟩
  ·rw[mo q]at h;cases h;exact⟨.inl rfl,x.toNat_lt,by simp⟩
theorem cR{α β:Type}{f:jl α}{g:α->jl β}{s:List UInt8}{b:β}{n:Nat}(h:bindR f g s= .done b n):∃a i k,f s= .done a i/\g a (s.drop i)= .done b k/\n=i+k:=by
 unfold bindR at h
 cases q:f s with
 |done a i=>
  rw[q]at h
  obtain⟨k,h1,h2⟩:=vY h
  exact⟨a,i,k,rfl,h1,h2⟩
 |fail=>rw[q]at h;cases h
 |more=>rw[q]at h;cases h
theorem eY{α β:Type}{f:jl α}{g:α->jl β}{s:List UInt8}{b:β}{n:Nat}{G:Prop}(h:bindR f g s= .done b n)(k:∀a i j,f s= .done a i->g a (s.drop i)= .done b j->n=i+j->G):G:=(cR h).elim fun a h=>h.elim fun i h=>h.elim fun j h=>k a i j h.1 h.2.1 h.2.2
theorem bW{α:Type}{a b:α}{s:List UInt8}{n:Nat}(h:iB a s= .done b n):a=b/\n=0:=by cases h;exact⟨rfl,rfl⟩
theorem gY{s:List UInt8}{b:UInt8}{n:Nat}(h:x9 s= .done b n):n=1/\∃r,s=b::r:=by
 induction s with
 |nil=>cases h
 |cons x r=>cases h;exact⟨rfl,r,rfl⟩
theorem dB{w:Nat}{s b:List UInt8}{n:Nat}(h:bo w s= .done b n):n=w/\b=s.take w/\b.length=w:=by
 unfold bo at h
 by_cases q:s.length<w
 ·rw[if_pos q]at h;cases h
 ·rw[if_neg q]at h
  cases h
  exact⟨rfl,rfl,by rw[List.length_take];lia⟩
theorem sE{mod rm:Nat}{s:List UInt8}{b:Option Nat}{n:Nat}(h:nY mod rm s= .done b n):n=eh b.isSome/\(b.isSome=true↔mod≠3/\rm=4):=by
 unfold nY at h
 by_cases q:mod≠3/\rm=4
 ·rw[if_pos q]at h
  obtain⟨x,i,k,h1,h2,rfl⟩:=cR h
  obtain⟨rfl,rfl⟩:=bW h2
  exact⟨(gY h1).1,fun _=>q,fun _=>rfl⟩
 ·rw[if_neg q]at h
  obtain⟨rfl,rfl⟩:=bW h
  exact⟨rfl,fun h=>(by cases h),fun h=>absurd h q⟩
theorem nu{s:List UInt8}{m:dR}{n:Nat}(h:eg s= .done m n):∃(o:UInt8) (r:List UInt8),s=o::r/\m.mod=o.toNat/64/\m.aA=o.toNat/8 %8/\m.rm=o.toNat %8/\(m.az.isSome=true↔m.mod≠3/\m.rm=4)/\m.cj.length=gW m.mod m.rm m.az/\n=m.len/\
  nY m.mod m.rm r= .done m.az (eh m.az.isSome):=
 eY h fun o i k h1 h2 e=>eY h2 fun az i2 k2 h3 h4 f=>eY h4 fun d i3 k3 h5 h6 g=>by
  cases (bW h6).1
  refine(gY h1).2.elim fun r hr=> ?_
  have hs:=sE h3
  have ht:=dB h5
  have hi:=(gY h1).1
  refine⟨o,r,hr,rfl,rfl,rfl,hs.2,ht.2.2,?_,?_⟩
  ·rw[e,f,g,(bW h6).2,hi,hs.1,ht.1,<-ht.2.2,<-Nat.add_assoc];rfl
  ·rw[<-hs.1];rw[hi,hr]at h3;exact h3
theorem wh{s:List UInt8}{m:dR}{n:Nat}(h:eg s= .done m n):n=m.len/\n<=s.length:=by
 obtain⟨_,_,_,_,_,_,_,_,e,_⟩:=nu h
 exact⟨e,(BJ.dn _ _ _ h).1⟩
theorem sF(fl:Bool)(e o:Nat):jR (ab fl) e o∈dZ fl:=by
 unfold jR dZ
 generalize dc (ab fl)=L
 induction L with
 |nil=>exact List.mem_cons_self
 |cons p r ih=>
  rw[jQ]
  split
  ·simp
  ·cases List.mem_cons.mp ih with
   |inl h=>rw[h];exact List.mem_cons_self
   |inr h=>exact List.mem_cons_of_mem _ (by rw[List.map_cons];exact List.mem_cons_of_mem _ h)
noncomputable abbrev yf{α:Type}(P:Form->Prop)(es:List (α×List Form)):Prop:=∀p∈es,∀f∈p.2,P f
theorem sG{α:Type}{P:Form->Prop}(eq:α->α->Bool)(k:α){v:Form}(hv:P v):∀{es:List (α×List Form)},yf P es->yf P (uy eq k v es)
 |[],_=>fun p hp f hf=>by
  cases List.mem_singleton.mp hp
  cases List.mem_singleton.mp hf
  exact hv
 |(a,l)::r,h=>fun p hp f hf=>by
  rw[uy]at hp
  cases q:eq a k with
  |true=>
   rw[q]at hp
   cases List.mem_cons.mp hp with
   |inl e=>
    rw[e]at hf
    cases List.mem_append.mp hf with
    |inl h1=>exact h _ List.mem_cons_self f h1
    |inr h1=>cases List.mem_singleton.mp h1;exact hv
   |inr h1=>exact h p (List.mem_cons_of_mem _ h1) f hf
  |false=>
   rw[q]at hp
   cases List.mem_cons.mp hp with
   |inl e=>rw[e]at hf;exact h _ List.mem_cons_self f hf
   |inr h1=>exact sG eq k hv (fun p hp=>h p (List.mem_cons_of_mem _ hp)) p h1 f hf
theorem oJ{P:Form->Prop}{f:Form}(hf:P f):∀(cs:List (Nat×Nat)) {es:List ((Nat×Nat)×List Form)},yf P es->yf P (cs.foldl (fun es c=>uy (fun a b=>Nat.beq a.1 b.1&&Nat.beq a.2 b.2) c f es) es)
 |[],_,h=>h
 |c::cs,_,h=>oJ hf cs (sG _ c hf h)
theorem nv{P:Form->Prop}:∀(l:List Form) (es:List ((Nat×Nat)×List Form)),(∀f∈l,P f)->yf P es->yf P (l.foldl (fun es f=>f.codes.foldl (fun es c=>uy (fun a b=>Nat.beq a.1 b.1&&Nat.beq a.2 b.2) c f es) es) es)
 |[],_,_,h=>h
 |f::l,_,hl,h=>nv l _ (fun g hg=>hl g (List.mem_cons_of_mem _ hg)) (oJ (hl f List.mem_cons_self) _ h)
theorem uB(l:List Form)(e o:Nat):∀f∈jR l e o,f∈l:=by
 unfold jR dc
 have h:=nv (P:=fun f=>f∈l) l [] (fun f hf=>hf) (fun p hp=>by cases hp)
 exact oI (P:=fun _ _ fs=>∀f∈fs,f∈l) (fun _ _ f hf=>by cases hf) e o _ fun p hp f hf=>h p hp f hf
theorem Gc(os:List UInt8)(j:Nat)(hj:j<=os.length):aH 13 763 [.bytes os,.int j] ((aI Pre.nil (os.drop j)).map fun q=>T.tup [q.1.t,.int ((j+q.2:Nat):Int)]):=by
 refine v9 IQ (g:=VU) (by rfl') ?_
 show ni os j=_
 unfold ni
 have g:(decide (0<=(j:Int))&&decide ((j:Int)<=os.length))=true:=by simp only[Bool.and_eq_true,decide_eq_true_eq];lia
 rw[g,Int.toNat_natCast]
 rfl
theorem aH.ck{n a:Nat}{f:Fn}{ts:List T}{r:Option T}{args:List V}{c c1:aa}(ha:True)(hf:aw (defs pW) a=some (.pure,f))(h:aH n a ts r){n' :Nat}(hn:n<=n' +1)(hc:iF (fr aN) c args=some (ts,c1)):bG (n' +1) a (ck (isQ args c) (jM r) c1):=
 jN ha (dG hn (h.frozen hc))
theorem bG.aW{n:Nat}:∀p∈([]:List (Nat×Spec)),bG n p.1 p.2:=fun p hp=>by cases hp
theorem bG.all{n a:Nat}{F:Spec}{L:List (Nat×Spec)}(h:bG n a F)(hl:∀p∈L,bG n p.1 p.2):∀p∈(a,F)::L,bG n p.1 p.2:=fun p hp=>by
 cases List.mem_cons.mp hp with
 |inl e=>rw[e];exact h
 |inr h=>exact hl p h
theorem nw{α β:Type}(f:jl α)(g:α->jl β)(s:List UInt8)(t:β->Nat->T):kO (bindR f g s) t=match f s with
  | .done a n=>kO (g a (s.drop n)) fun b k=>t b (n+k)
  |_=>none:=by
 unfold bindR
 cases f s with
 |done a n=>dsimp only;cases g a (s.drop n)<;>rfl
 |fail=>rfl
 |more=>rfl
section
variable{fl:Bool}{l:List Form}{os:List UInt8}{j:Nat}{p:Pre}{e o:Nat}{fs:List Form}{r:Option T}
noncomputable abbrev FS(fl:Bool)(os:List UInt8)(j:Nat)(r:Option T):Prop:=aH 17 946 [ag (ab fl),.bytes os,N j] r
noncomputable abbrev lP(j:Nat)(p:Pre):Int:=((j+p.cnt:Nat):Int)
noncomputable abbrev sH(j:Nat)(p:Pre)(e:Nat):Int:=((j+p.cnt+1+e:Nat):Int)
noncomputable abbrev xN(j:Nat)(p:Pre)(e o:Nat):Cell:=cV j p (lP j p) e o (sH j p e)
noncomputable abbrev Ua(os:List UInt8)(j:Nat):Qs:=isQ [.t (.bytes os),.t (.int j)] []
noncomputable abbrev V7(j:Nat)(p:Pre):Qs:=isQ [.t (.int j),.t p.t,.t (.int (lP j p))] []
noncomputable abbrev Yh(os:List UInt8)(j:Nat)(p:Pre):Qs:=isQ [.loc 0,.t (.bytes os)] [cV j p (lP j p) 0 0 (lP j p)]
noncomputable abbrev r5(fl:Bool)(os:List UInt8)(j:Nat)(p:Pre)(e o:Nat)(fs:List Form)(L:List (Nat×Spec)):List (Nat×Spec):=NY j (Ua os j) (V7 j p) (Yh os j p) (isQ [.loc 0,.t (ag (ab fl))] [xN j p e o]) (isQ [.t (ag (ab fl)),.t (I 0),.t (.int e),.t (.int o)] [xN j p e o]) p (lP j p) e o (sH j p e) fs L
noncomputable abbrev Gd(n:Nat)(L:List (Nat×Spec)):Prop:=∀q∈L,bG n q.1 q.2
theorem sI{L:List (Nat×Spec)}{x:aa->Kn->aq}(hL:Gd 16 (r5 fl os j p e o fs L))(h:∀c k,IV (ab fl) os j c k (r5 fl os j p e o fs L)=NX (ab fl) os j (Ua os j) (V7 j p) (Yh os j p) (isQ [.loc 0,.t (ag (ab fl))] [xN j p e o]) (isQ [.t (ag (ab fl)),.t (I 0),.t (.int e),.t (.int o)] [xN j p e o]) p (lP j p) e o (sH j p e) (x c k))(hx:∀c k,x c k=k (jM r) c):FS fl os j r:=
 ak K8 (aP (by decide) _ hL) fun c k=>(h c k).trans (dw.trans<|dw.trans<|dw.trans<|dw.trans<|dw.trans (hx c k))
theorem wj(nX:∀f∈fs,f∈ab fl)(m:Option dR)(ra:Int)(az ar width rm:Int){c:aa}{c1:aa}(hc:iF (fr aN) c [.t (bQ fs),.loc 0]=some ([bQ fs,cB j p (lP j p) e o (sH j p e) (gw m) (fL m) rm az ar width ra],c1)):bG 16 873 (ck (isQ [.t (bQ fs),.loc 0] c) (jM ((dg fs p e o (gw m) (fL m)).map Form.t)) c1):=
 (yd nX j p (lP j p) e o (sH j p e) (gw m) (fL m) rm az ar width ra).ck trivial PC (n' :=15) (by decide) hc
theorem Qn(nX:∀f∈fs,f∈ab fl)(n3:fs∈(dZ fl).filter fun fs=> !ct fs)(h5:∀L,Gd 16 L->Gd 16 (r5 fl os j p e o fs L)):FS fl os j ((dg fs p e o (-1) 0).map fun f=> .tup [cB j p (lP j p) e o (sH j p e) (-1) 0 0 (-1) 0 0 (sH j p e),f.t]):=by
 have i6:=wj (j:=j) (p:=p) (e:=e) (o:=o) nX none (sH j p e) (-1) 0 0 0 (c:=[xN j p e o]) (c1:=[.cg (cB j p (lP j p) e o (sH j p e) (-1) 0 0 (-1) 0 0 (sH j p e))]) (by rfl')
 change bG 16 873 (ck _ (jM ((dg fs p e o (-1) 0).map Form.t)) _)at i6
 cases q3:dg fs p e o (-1) 0 with
 |none=>rw[q3]at i6;exact sI (h5 _ (i6.all .aW)) (fun c k=>List.map_inj_left.mp (Qk ..) fs n3) fun c k=>dw
 |some f=>rw[q3]at i6;exact sI (h5 _ (i6.all .aW)) (fun c k=>List.map_inj_left.mp (V4 ..) fs n3) fun c k=>dw
theorem V8{c6:aa}(n3:fs∈(dZ fl).filter ct)(h5:∀L,Gd 16 L->Gd 16 (r5 fl os j p e o fs L))(h6:bG 16 840 (ck (isQ [.loc 0,.t (.bytes os)] [xN j p e o]) .exc c6)):FS fl os j none:=sI (h5 _ (h6.all .aW)) (fun c k=>List.map_inj_left.mp (V5 ..) fs n3) fun c k=>dw
noncomputable abbrev NZ(j:Nat)(p:Pre)(e:Nat)(m:dR):Int:=((j+(p.cnt+1+e+m.len):Nat):Int)
theorem Qo(nX:∀f∈fs,f∈ab fl)(n3:fs∈(dZ fl).filter ct)(h5:∀L,Gd 16 L->Gd 16 (r5 fl os j p e o fs L))(m:dR)(h6:bG 16 840 (ck (isQ [.loc 0,.t (.bytes os)] [xN j p e o]) (.ok (.t .none)) [IU j p (lP j p) e o (sH j p e) m (NZ j p e m)])):FS fl os j ((dg fs p e o m.mod m.aA).map fun f=> .tup [BY j p (lP j p) e o (sH j p e) m (NZ j p e m),f.t]):=by
 have i7:=wj (j:=j) (p:=p) (e:=e) (o:=o) nX (some m) (NZ j p e m) (fJ m.az) (cG m.cj) m.cj.length m.rm (c:=[IU j p (lP j p) e o (sH j p e) m (NZ j p e m)]) (c1:=[.cg (BY j p (lP j p) e o (sH j p e) m (NZ j p e m))]) (by rfl')
 change bG 16 873 (ck _ (jM ((dg fs p e o m.mod m.aA).map Form.t)) _)at i7
 cases q3:dg fs p e o m.mod m.aA with
 |none=>rw[q3]at i7;exact sI (h5 _ (h6.all (i7.all .aW))) (fun c k=>List.map_inj_left.mp (Ql ..) fs n3) fun c k=>dw.trans dw
 |some f=>rw[q3]at i7;exact sI (h5 _ (h6.all (i7.all .aW))) (fun c k=>List.map_inj_left.mp (V6 ..) fs n3) fun c k=>dw.trans dw
noncomputable abbrev IW(j:Nat):Fd->Nat->T:=fun d _=> .tup [d.fr j,d.f.t]
theorem wk{l:List Form}{m:Option dR}{s:List UInt8}:kO (fM l p e o m s) (IW j)=(dg (jR l e o) p e o (gw m) (fL m)).map fun f=> .tup [(⟨p,e,o,m,f⟩:Fd).fr j,f.t]:=by
 unfold fM
 cases dg (jR l e o) p e o (gw m) (fL m)<;>rfl
theorem V9{s:List UInt8}:kO (bindR (mR true) (fun m=>fM l p e o m) s) (IW j)=match eg s with
  | .done m _=>(dg (jR l e o) p e o m.mod m.aA).map fun f=> .tup [(⟨p,e,o,some m,f⟩:Fd).fr j,f.t]
  |_=>none:=by
 rw[nw,show mR true=bindR eg fun m=>iB (some m)from if_pos rfl]
 unfold bindR
 cases eg s with
 |done m n=>exact wk
 |_=>rfl
theorem Qp(h5:∀L,Gd 16 L->Gd 16 (r5 fl os j p e o (jR (ab fl) e o) L)):FS fl os j (kO (bindR (mR (ct (jR (ab fl) e o))) (fun m=>fM (ab fl) p e o m) (os.drop (j+p.cnt+1+e))) (IW j)):=by
 cases hm:ct (jR (ab fl) e o)with
 |false=>
  rw[nw]
  show FS fl os j (kO (fM (ab fl) p e o none _) (IW j))
  rw[wk]
  exact Qn (uB (ab fl) e o) (List.mem_filter.mpr ⟨sF fl e o,by rw[hm];rfl⟩) h5
 |true=>
  have n3:=List.mem_filter.mpr ⟨sF fl e o,hm⟩
  have i6:=jN (n:=15) trivial (dG (by decide) (LE os j p (lP j p) e o (j+p.cnt+1+e)))
  rw[V9]
  cases q3:eg (os.drop (j+p.cnt+1+e))with
  |done m n=>
   rw[q3]at i6
   cases (wh q3).1
   exact Qo (uB (ab fl) e o) n3 h5 m ((show sH j p e+(m.len:Int)=NZ j p e m by lia)▸i6)
  |_=>rw[q3]at i6;exact V8 n3 h5 i6
theorem Qq(i1:bG 16 763 (ck (Ua os j) (.ok (.t (.tup [p.t,.int (lP j p)]))) []))(i2:bG 16 843 (ck (V7 j p) (.ok (.loc 0)) [cV j p (lP j p) 0 0 (lP j p)])):FS fl os j (match(dY (os.drop (j+p.cnt)))with|none=>none|some eo=>kO (bindR (mR (ct (jR (ab fl) eo.1 eo.2))) (fun m=>fM (ab fl) p eo.1 eo.2 m) (os.drop (j+p.cnt+1+eo.1))) (IW j)):=by
 have i3:=code_at os j p (j+p.cnt)
 cases q2:dY (os.drop (j+p.cnt))with
 |none=>
  rw[q2]at i3
  exact i3.elim fun c3 i3=>ak K8 (aP (by decide) _ (i1.all (i2.all ((jN (n:=15) trivial (dG (by decide) i3)).all .aW)))) fun c k=>(V3 ..).trans (dw.trans (dw.trans dw))
 |some eo=>
  rw[q2]at i3
  have i3:dx 9 826 [.loc 0,.t (.bytes os)] [cV j p (lP j p) 0 0 (lP j p)] (.ok (.t .none)) [cV j p (lP j p) eo.1 eo.2 (lP j p+1+eo.1)]:=i3
  rw[show lP j p+1+(eo.1:Int)=sH j p eo.1 by push_cast;rfl]at i3
  exact Qp fun L h=>i1.all (i2.all ((jN (n:=15) trivial (dG (by decide) i3)).all ((jN (n:=15) trivial (dG (by decide) (F7 (ab fl) p j (lP j p) eo.1 eo.2 (sH j p eo.1)))).all (((FR (ab fl) eo.1 eo.2).ck trivial Bm (n' :=15) (args:=[.t (ag (ab fl)),.t (I 0),.t (N eo.1),.t (N eo.2)]) (c:=[xN j p eo.1 eo.2]) (by decide) rfl).all h))))
theorem Ge{s:List UInt8}:kO (bindR oH (fun h=>bindR (mR (ct (jR l (eh h.2.1) h.2.2.toNat))) fun m=>fM l h.1 (eh h.2.1) h.2.2.toNat m) s) (IW j)=match aI Pre.nil s with
  |none=>none
  |some q=>match dY (s.drop q.2)with
   |none=>none
   |some eo=>kO (bindR (mR (ct (jR l eo.1 eo.2))) (fun m=>fM l q.1 eo.1 eo.2 m) (s.drop (q.2+1+eo.1))) (IW j):=by
 rw[nw,wg]
 cases aI Pre.nil s with
 |none=>rfl
 |some q=>
  cases q2:dY (s.drop q.2)with
  |none=>dsimp only;rw[q2]
  |some eo=>
   dsimp only
   rw[q2]
   have h:=mr q2
   have he:eh (decide (eo.1=1))=eo.1:=h.1.elim (fun h=>by rw[h];rfl) fun h=>by rw[h];rfl
   have ho:(UInt8.ofNat eo.2).toNat=eo.2:=by rw[UInt8.toNat_ofNat'];exact Nat.mod_eq_of_lt h.2.1
   dsimp only
   rw[he,ho]
end
theorem nx(fl:Bool)(os:List UInt8)(j:Nat)(hj:j<=os.length):aH 17 946 [ag (ab fl),.bytes os,N j] (kO (LF (ab fl) (os.drop j)) fun d n=> .tup [d.fr j,d.f.t]):=by
 have i1:=(Gc os j hj).ck trivial PB (n' :=15) (args:=[.t (.bytes os),.t (.int j)]) (c:=[]) (by decide) rfl
 show FS fl os j (kO (LF (ab fl) (os.drop j)) (IW j))
 unfold LF
 rw[Ge]
 cases q1:aI Pre.nil (os.drop j)with
 |none=>
  rw[q1]at i1
  exact ak K8 (aP (by decide) _ (i1.all .aW)) fun c k=>(V2 ..).trans dw
 |some z=>
  rw[q1]at i1
  have h:=wf _ _ _ _ q1
  have hc:z.2=z.1.cnt:=(h.1.trans (Nat.zero_add _)).symm
  have i1:bG 16 763 (ck (Ua os j) (.ok (.t (.tup [z.1.t,.int ((j+z.2:Nat):Int)]))) []):=i1
  dsimp only
  rw[hc]at i1⊢
  rw[List.drop_drop]
  simp only[List.drop_drop,<-Nat.add_assoc]
  exact Qq i1 (jN (n:=15) trivial (dG (by decide) (Qg z.1 (h.2.2 fun r h=>nn h) j (lP j z.1))))
noncomputable def NG:List String:=["al","cl","dl","bl","spl","bpl","sil","dil","r8b","r9b","r10b","r11b","r12b","r13b","r14b","r15b"]
noncomputable def H4:List String:=["ax","cx","dx","bx","sp","bp","si","di","r8w","r9w","r10w","r11w","r12w","r13w","r14w","r15w"]
noncomputable def H3:List String:=["eax","ecx","edx","ebx","esp","ebp","esi","edi","r8d","r9d","r10d","r11d","r12d","r13d","r14d","r15d"]
noncomputable def wm:List String:=["rax","rcx","rdx","rbx","rsp","rbp","rsi","rdi","r8","r9","r10","r11","r12","r13","r14","r15"]
inductive Sz where|s8|Wa|Wb|LG
noncomputable def Sz.n:Sz->Nat| .s8=>8| .Wa=>16| .Wb=>32| .LG=>64
noncomputable def Sz.names:Sz->List String| .s8=>NG| .Wa=>H4| .Wb=>H3| .LG=>wm
noncomputable def Qr(s:Sz)(n:Nat)(hr:Bool):Bool:=match s with
 | .s8=> !hr&&Nat.ble 4 n&&Nat.ble n 7
 |_=>false
noncomputable def Gf(s:Sz)(n:Nat)(hr:Bool):String:=bif Qr s n hr then["ah","ch","dh","bh"].getD (n-4) "" else s.names.getD n ""
noncomputable def uC(s:Sz)(n:Nat)(hr:Bool):T:= .inst 562 [(st "name",Z (Gf s n hr)),(st "kind",Z (bif Qr s n hr then "high" else "gpr")),(st "number",N n),(st "size",N s.n)]
noncomputable def Qt:T:= .inst 562 [(st "name",Z "rip"),(st "kind",Z "rip"),(st "number",N 0),(st "size",N 64)]
theorem yg(c:aa)(k:Kn)(hr:Bool)(s:Sz):(List.range 16).map (fun n=>an bD (TN 8) (fnAt (aR pW 86) []) [.t (N n),.t (N s.n),.t (B hr)] [] (pk c k))=(List.range 16).map (fun n=>k (.ok (.t (uC s n hr))) c):=by
 induction hr<;>induction s<;>rfl'
theorem jd{n:Nat}(h:n<16)(s:Sz)(hr:Bool):aH 9 880 [N n,N s.n,B hr] (some (uC s n hr)):=
 ak VE (bI 8) fun c k=>ef (yg ..) (List.mem_range.mpr h)
theorem Gg(c:aa)(k:Kn)(s:Sz):(List.range 16).map (fun n=>an bD (TN 8) (fnAt (aR pW 43) []) [.t (N n),.t (N s.n)] [] (pk c k))=(List.range 16).map (fun n=>k (.ok (.t (uC s n true))) c):=by
 induction s<;>rfl'
theorem B0{n:Nat}(h:n<16)(s:Sz):aH 9 587 [N n,N s.n] (some (uC s n true)):=
 ak PA (bI 8) fun c k=>ef (Gg c k s) (List.mem_range.mpr h)
inductive Rg where|gp (n:Nat)|Qu
noncomputable def Rg.t:Rg->T| .gp n=>uC .LG n true| .Qu=>Qt
noncomputable def Rg.nm:Rg->String| .gp n=>wm.getD n ""| .Qu=>"rip"
inductive Op where
 |aA (s:Sz) (n:Nat) (hr:Bool)
 |mem (b i:Option Rg) (scale:Nat) (worth:Int) (size:Nat) (seg:Seg)
 |gz (w:Int)
 |rel (w:Int)
noncomputable def LH:Option Rg->T|none=> .none|some r=>r.t
noncomputable def B1(x:T):T:= .inst 325 [(st "kind",Z "reg"),(st "register",x)]
noncomputable def kP(b i:T)(scale worth:Int)(size:Int)(seg:T):T:= .inst 453 [(st "kind",Z "mem"),(st "base",b),(st "index",i),(st "scale",I scale),(st "worth",I worth),(st "size",I size),(st "segment",seg),(st "name",Z "")]
noncomputable def Op.t:Op->T
 | .aA s n hr=>B1 (uC s n hr)
 | .mem b i sc w sz sg=>kP (LH b) (LH i) sc w sz sg.t
 | .gz w=> .inst 359 [(st "kind",Z "imm"),(st "worth",I w),(st "name",Z "")]
 | .rel w=> .inst 400 [(st "kind",Z "rel"),(st "worth",I w),(st "name",Z "")]
noncomputable def Zw:Option Rg->String|none=>""|some r=>r.nm
noncomputable def Wc(r:Option Rg):T:=Z (Zw r)
noncomputable def Op.told:Op->T
 | .aA s n hr=> .tup [Z "reg",Z (Gf s n hr)]
 | .mem b i sc w sz sg=> .tup [Z "mem",Wc b,Wc i,N sc,I w,N sz,sg.t,Z ""]
 | .gz w=> .tup [Z "imm",I w,Z ""]
 | .rel w=> .tup [Z "rel",I w,Z ""]
noncomputable def gq(Q:Int->Bool)(g:Int->T):Spec:=fun args c k=>ob (iw args) fun ts=>t2 ts fun a b=>ob (iO a) fun n=>ob (iO b) fun s=>bif decide (s=64)&&Q n then k (.ok (.t (g n))) c else none
noncomputable def Zx:Fn:=fnAt (aR pW 58) []
noncomputable def Ub(g:Int->T)(mod index x:Int)(shift:Int)(ar size:Int)(seg first:T)(Q:Int->Bool)(K:T->aq):aq:=
 bif Q (index+8*x)then bif decide (0<=shift)&&decide (shift<=1024)&&decide ((0:Int)<=1)&&decide ((1:Int)<2^64)then K (kP first (g (index+8*x)) (1*2^shift.toNat) ar size seg)else none else none
noncomputable def Uc(g:Int->T)(mod index x:Int)(shift:Int)(ar size:Int)(seg first:T)(Q:Int->Bool)(K:T->aq):aq:=
 bif decide (index=4)then bif decide (x=0)then K (kP first .none 1 ar size seg)else Ub g mod index x shift ar size seg first Q K else Ub g mod index x shift ar size seg first Q K
noncomputable def Wd(g:Int->T)(mod index base x b:Int)(shift:Int)(ar size:Int)(seg:T)(Q:Int->Bool)(K:T->aq):aq:=
 bif Q (base+8*b)then Uc g mod index x shift ar size seg (g (base+8*b)) Q K else none
noncomputable def N0(g:Int->T)(mod rm az ar x b size:Int)(seg:T)(Q:Int->Bool)(K:T->aq):aq:=
 bif !decide (rm=4)then
  bif decide (mod=0)then bif decide (rm=5)then K (kP Qt .none 1 ar size seg)else bif Q (rm+8*b)then K (kP (g (rm+8*b)) .none 1 ar size seg)else none
  else bif Q (rm+8*b)then K (kP (g (rm+8*b)) .none 1 ar size seg)else none
 else bif decide (mod=0)then bif decide (az.fmod 8=5)then Uc g mod ((az.fdiv 8).fmod 8) x (az.fdiv 64) ar size seg .none Q K else Wd g mod ((az.fdiv 8).fmod 8) (az.fmod 8) x b (az.fdiv 64) ar size seg Q K
  else Wd g mod ((az.fdiv 8).fmod 8) (az.fmod 8) x b (az.fdiv 64) ar size seg Q K
theorem LI(g:Int->T)(mod rm az ar x b size:Int)(seg:T)(Q:Int->Bool)(c:aa)(k:Kn):an bD (cU [(587,gq Q g)] (TN 8)) Zx [.t (.int mod),.t (.int rm),.t (.int az),.t (.int ar),.t (.int x),.t (.int b),.t (.int size),.t seg] [] (pk c k)=
  N0 g mod rm az ar x b size seg Q (fun t=>k (.ok (.t t)) c):=by rfl'
structure dR.Ok(m:dR):Prop where
 mod:m.mod<4
 aA:m.aA<8
 rm:m.rm<8
 az:m.az.isSome=true↔m.mod≠3/\m.rm=4
 lt:∀s,m.az=some s->s<256
 cj:m.cj.length=gW m.mod m.rm m.az
theorem LJ{s:List UInt8}{m:dR}{n:Nat}(h:eg s= .done m n):m.Ok:=by
 obtain⟨o,r,e,h1,h2,h3,h4,h5,h6,h7⟩:=nu h
 have ho:=o.toNat_lt
 refine⟨by rw[h1];(clear h7 h6 h5 h4 h3 h2 h1 e h;lia),by rw[h2];exact Nat.mod_lt _ (by decide),by rw[h3];exact Nat.mod_lt _ (by decide),h4,fun s hs=> ?_,h5⟩
 unfold nY at h7
 by_cases q:m.mod≠3/\m.rm=4
 ·rw[if_pos q]at h7
  obtain⟨x,i,k,_,g2,_⟩:=cR h7
  obtain⟨g3,_⟩:=bW g2
  rw[hs]at g3
  cases g3
  exact x.toNat_lt
 ·rw[if_neg q]at h7
  obtain⟨g3,_⟩:=bW h7
  rw[hs]at g3
  cases g3
noncomputable def lq(m:dR)(x b size:Nat)(seg:Seg):Op:=match m.az with
 |none=> .mem (some (if m.mod=0/\m.rm=5 then .Qu else .gp (m.rm+8*b))) none 1 (cG m.cj) size seg
 |some s=>if s/8 %8=4/\x=0 then .mem (if m.mod=0/\s %8=5 then none else some (.gp (s %8+8*b))) none 1 (cG m.cj) size seg
  else .mem (if m.mod=0/\s %8=5 then none else some (.gp (s %8+8*b))) (some (.gp (s/8 %8+8*x))) (2^(s/64)) (cG m.cj) size seg
noncomputable def Gh(n:Int):Bool:=decide (0<=n)&&decide (n<16)
noncomputable def Gi(n:Int):T:=uC .LG n.toNat true
theorem Qv:bG 10 587 (gq Gh Gi):=gU (mi PA) fun args c k out e=>ae e fun ts e0 e=>su e fun a b e1 e=>ae e fun n e2 e=>ae e fun s e3 e=>aE e fun q e9=>by
 rw[jO e0,e1,cn e2,cn e3]
 have q:=Bool.and_eq_true_iff.mp q
 have r:=Bool.and_eq_true_iff.mp q.2
 rw[of_decide_eq_true q.1]
 refine(Int.eq_ofNat_of_zero_le (of_decide_eq_true r.1)).elim fun m em=> ?_
 rw[em]at e9⊢
 exact(B0 (Int.ofNat_lt.mp (em▸of_decide_eq_true r.2)) .LG).gives (by decide) e9
theorem uD{n b:Nat}(h:n<8)(hb:b<2):Gh ((n:Int)+8*(b:Int))=true:=by
 unfold Gh
 simp only[Bool.and_eq_true,decide_eq_true_eq]
 lia
theorem uE(n b:Nat):Gi ((n:Int)+8*(b:Int))=(Rg.gp (n+8*b)).t:=by
 unfold Gi
 rw[show((n:Int)+8*(b:Int)).toNat=n+8*b by exact Nat.add_zero _];rfl
theorem LK(mod:Int)(index x s:Nat)(ar size:Int)(seg first:T)(K:T->aq)(hi:index<8)(hx:x<2)(hs:s<4):Ub Gi mod index x s ar size seg first Gh K=K (kP first (Rg.gp (index+8*x)).t ((2^s:Nat):Int) ar size seg):=by
 unfold Ub
 have e:(decide (0<=(s:Int))&&decide ((s:Int)<=1024)&&decide ((0:Int)<=1)&&decide ((1:Int)<2^64))=true:=by
  simp only[Bool.and_eq_true,decide_eq_true_eq];(clear hx hi;lia)
 rw[uD hi hx,e,uE,Int.toNat_natCast,show(1:Int)*2^s=((2^s:Nat):Int) by push_cast;exact Int.one_mul _]
 rfl
theorem B2(mod:Int)(index x s:Nat)(ar size:Int)(seg first:T)(K:T->aq)(hi:index<8)(hx:x<2)(hs:s<4):Uc Gi mod index x s ar size seg first Gh K=if index=4/\x=0 then K (kP first .none 1 ar size seg)else K (kP first (Rg.gp (index+8*x)).t ((2^s:Nat):Int) ar size seg):=by
 unfold Uc
 rw[LK mod index x s ar size seg first K hi hx hs]
 by_cases h:index=4
 ·rw[cD (by exact congrArg _ h)]
  by_cases h2:x=0
  ·rw[cD (by exact congrArg _ h2),if_pos ⟨h,h2⟩]
  ·rw[cN (by exact fun e=>h2 (Int.ofNat.inj e)),if_neg fun q=>h2 q.2]
 ·rw[cN (by exact fun e=>h (Int.ofNat.inj e)),if_neg fun q=>h q.1]
theorem LL{c:Prop} [Decidable c]{K:T->aq}{A B:aq}{C D:Op}(h1:A=K C.t)(h2:B=K D.t):(if c then A else B)=K (if c then C else D).t:=by
 by_cases h:c
 ·rw[if_pos h,if_pos h];exact h1
 ·rw[if_neg h,if_neg h];exact h2
theorem Qz{α:Type}{c d:Prop} [Decidable c] [Decidable d]{x y:α}:(if c then(if d then x else y)else y)=if c/\d then x else y:=by
 by_cases h:c
 ·rw[if_pos h]
  by_cases g:d
  ·rw[if_pos g,if_pos ⟨h,g⟩]
  ·rw[if_neg g,if_neg fun q=>g q.2]
 ·rw[if_neg h,if_neg fun q=>h q.1]
theorem B3{α β:Type}{c:Prop} [Decidable c]{f:α->β}{a b:α}{x y:β}(h1:x=f a)(h2:y=f b):(if c then x else y)=f (if c then a else b):=by
 by_cases h:c
 ·rw[if_pos h,if_pos h];exact h1
 ·rw[if_neg h,if_neg h];exact h2
theorem We{mod rm x b size:Nat}{seg:Seg}{d:Int}{K:T->aq}(h4:rm≠4)(hr:rm<8)(hb:b<2):N0 Gi mod rm (fJ none) d x b size seg.t Gh K=K (Op.mem (some (if mod=0/\rm=5 then .Qu else .gp (rm+8*b))) none 1 d size seg).t:=by
 unfold N0
 rw[show(!decide ((rm:Int)=4))=true from congrArg not (decide_eq_false fun e=>h4 (Int.ofNat.inj e)),cond_true,uD hr hb,cond_true,uE]
 refine(DH (b:=0)).trans (Eq.trans (congrArg (fun z=>if mod=0 then z else _) (DH (b:=5))) (Qz.trans ?_))
 exact B3 (f:=fun r=>K (Op.mem (some r) none 1 d size seg).t) rfl rfl
theorem Wf{mod s x b size:Nat}{seg:Seg}{d:Int}{K:T->aq}(hl:s<256)(hx:x<2)(hb:b<2):N0 Gi mod (4:Nat) (fJ (some s)) d x b size seg.t Gh K=
  if s/8 %8=4/\x=0 then K (Op.mem (if mod=0/\s %8=5 then none else some (.gp (s %8+8*b))) none 1 d size seg).t else K (Op.mem (if mod=0/\s %8=5 then none else some (.gp (s %8+8*b))) (some (.gp (s/8 %8+8*x))) (2^(s/64)) d size seg).t:=by
 have e2:((fJ (some s)).fdiv 8).fmod 8=((s/8 %8:Nat):Int):=(congrArg (fun z=>Int.fmod z 8) (P7 s 8)).trans (IS _ 8)
 have h8:=Nat.mod_lt (s/8) (show 0<8 by decide)
 have Yi:s/64<4:=Nat.div_lt_of_lt_mul hl
 unfold N0 Wd
 rw[show(!decide (((4:Nat):Int)=4))=false from rfl,cond_false,e2,show(fJ (some s)).fmod 8=((s %8:Nat):Int)from IS s 8,show(fJ (some s)).fdiv 64=((s/64:Nat):Int)from P7 s 64,uD (Nat.mod_lt _ (by decide)) hb,cond_true,uE,B2 _ _ _ _ _ _ _ _ _ h8 hx Yi,B2 _ _ _ _ _ _ _ _ _ h8 hx Yi]
 refine(DH (b:=0)).trans (Eq.trans (congrArg (fun z=>if mod=0 then z else _) (DH (b:=5))) (Qz.trans ?_))
 exact B3 (f:=fun r=>if s/8 %8=4/\x=0 then K (Op.mem r none 1 d size seg).t else K (Op.mem r (some (.gp (s/8 %8+8*x))) (2^(s/64)) d size seg).t) rfl rfl
theorem QA(m:dR)(hm:m.Ok)(h3:m.mod≠3)(x b size:Nat)(seg:Seg)(hx:x<2)(hb:b<2)(K:T->aq):N0 Gi m.mod m.rm (fJ m.az) (cG m.cj) x b size seg.t Gh K=K (lq m x b size seg).t:=by
 unfold lq
 cases hs:m.az with
 |none=>exact We (fun q=>by have:=hm.az.mpr ⟨h3,q⟩;rw[hs]at this;exact ft this) hm.rm hb
 |some s=>
  rw[(hm.az.mp (by rw[hs];rfl)).2]
  exact(Wf (hm.lt s hs) hx hb).trans (LL rfl rfl)
theorem Gj(m:dR)(hm:m.Ok)(h3:m.mod≠3)(x b size:Nat)(seg:Seg)(hx:x<2)(hb:b<2):aH 11 657 [N m.mod,N m.rm,I (fJ m.az),I (cG m.cj),N x,N b,N size,seg.t] (some (lq m x b size seg).t):=
 ak Vz (aP (by decide) _ (Qv.all .aW)) fun c k=>(LI Gi m.mod m.rm (fJ m.az) (cG m.cj) x b size seg.t Gh c k).trans (QA m hm h3 x b size seg hx hb _)
noncomputable def bz.sz:bz->Sz
 | .ux| .r8| .o8=> .s8
 | .fj| .v6| .v8| .ax=> .Wa
 | .f9| .v7| .DI| .NV=> .Wb
 |_=> .LG
noncomputable def Pre.hr(p:Pre):Bool:=p.aX.isSome
theorem ny(p:Pre)(d:Nat):p.bit d<2:=by
 unfold Pre.bit
 induction p.aX with
 |none=>exact Nat.zero_lt_two
 |some r=>exact Nat.mod_lt _ (by decide)
noncomputable def n6:List bz:=[.r8,.v6,.v7,.ya]
theorem LM(x:T)(bB:Int)(p:Pre)(ca ay op ma mod aA rm az ar width ra:Int)(c:aa)(k:Kn)(Q:List V->Bool):n6.map (fun q=>an bD (cU [(880,cp Q (.ok (.t x)))] (TN 8)) (fnAt (aR pW 87) []) [.t (Z q.s),.t (cB bB p ca ay op ma mod aA rm az ar width ra)] [] (pk c k))=
  n6.map (fun q=>bif Q [.t (.int (aA+8*(p.bit 4:Nat))),.t (N q.sz.n),.t (B p.hr)]then k (.ok (.t (B1 x))) c else none):=by
 obtain⟨seg,dat,rp,lock,aX⟩:=p
 induction aX<;>rfl'
noncomputable def qP:List bz:=[.ux,.fj,.f9,.fK]
theorem LN(x:T)(bB:Int)(p:Pre)(ca ay op ma aA rm az ar width ra:Int)(c:aa)(k:Kn)(Q:List V->Bool):qP.map (fun q=>an bD (cU [(880,cp Q (.ok (.t x)))] (TN 8)) (fnAt (aR pW 88) []) [.t (Z q.s),.t (cB bB p ca ay op ma 3 aA rm az ar width ra)] [] (pk c k))=
  qP.map (fun q=>bif Q [.t (.int (rm+8*(p.bit 1:Nat))),.t (N q.sz.n),.t (B p.hr)]then k (.ok (.t (B1 x))) c else none):=by
 obtain⟨seg,dat,rp,lock,aX⟩:=p
 induction aX<;>rfl'
noncomputable def bz.N1:bz->Nat| .m=>0|q=>q.sz.n
theorem Gk(x:T)(bB:Int)(p:Pre)(ca ay op ma aA rm az ar width ra:Int)(c:aa)(k:Kn)(Q:List V->Bool)(md:Nat)(Zy:md<3):(bz.m::qP).map (fun q=>an bD (cU [(657,cp Q (.ok (.t x)))] (TN 8)) (fnAt (aR pW 88) []) [.t (Z q.s),.t (cB bB p ca ay op ma (md:Int) aA rm az ar width ra)] [] (pk c k))=
  (bz.m::qP).map (fun q=>bif Q [.t (N md),.t (.int rm),.t (.int az),.t (.int ar),.t (N (p.bit 2)),.t (N (p.bit 1)),.t (N q.N1),.t p.seg.t]then k (.ok (.t x)) c else none):=by
 have e:(List.range 3).map (fun md:Nat=>(bz.m::qP).map (fun q=>an bD (cU [(657,cp Q (.ok (.t x)))] (TN 8)) (fnAt (aR pW 88) []) [.t (Z q.s),.t (cB bB p ca ay op ma (md:Int) aA rm az ar width ra)] [] (pk c k)))=(List.range 3).map (fun md:Nat=>
  (bz.m::qP).map (fun q=>bif Q [.t (N md),.t (.int rm),.t (.int az),.t (.int ar),.t (N (p.bit 2)),.t (N (p.bit 1)),.t (N q.N1),.t p.seg.t]then k (.ok (.t x)) c else none)):=by
  obtain⟨seg,dat,rp,lock,aX⟩:=p
  induction seg<;>rfl'
 exact ef e (List.mem_range.mpr Zy)
noncomputable def DJ:List bz:=[.o8,.v8,.DI,.yb]
theorem LO(x:T)(bB:Int)(p:Pre)(ca ay:Int)(op:Nat)(ma mod aA rm az ar width ra:Int)(c:aa)(k:Kn)(Q:List V->Bool):DJ.map (fun q=>an bD (cU [(880,cp Q (.ok (.t x)))] (TN 8)) (fnAt (aR pW 89) []) [.t (Z q.s),.t (cB bB p ca ay op ma mod aA rm az ar width ra)] [] (pk c k))=
  DJ.map (fun q=>bif Q [.t (.int ((op:Int).fmod 8+8*(p.bit 1:Nat))),.t (N q.sz.n),.t (B p.hr)]then k (.ok (.t (B1 x))) c else none):=by
 obtain⟨seg,dat,rp,lock,aX⟩:=p
 induction aX<;>rfl'
theorem LP(os:List UInt8)(e w:Int)(c:aa)(k:Kn):an bD (TN 8) (fnAt (aR pW 91) []) [.t (.bytes os),.t (.int e),.t (.int w)] [] (pk c k)=
  bif decide (((a8 os (some e) (some (e+w))).length:Int)<w)then k .exc c else k (.ok (.t (.bytes (a8 os (some e) (some (e+w)))))) c:=by rfl'
theorem Gm(os:List UInt8)(e w:Nat):aH 9 915 [.bytes os,N e,N w] (kO (bo w (os.drop e)) fun b _=> .bytes b):=
 ak VH (bI 8) fun c k=>by
  refine(LP ..).trans ?_
  rw[qx]
  unfold bo
  by_cases h:(os.drop e).length<w
  ·rw[if_pos h,cD (by rw[List.length_take];omega)];rfl
  ·rw[if_neg h,cN (by rw[List.length_take];omega)];rfl
noncomputable def kQ:List bz:=[.dl,.bV]
noncomputable def kR:List bz:=[.lp,.eN]
noncomputable def kT:List bz:=[.nZ,.iM,.iN,.nj,.nq,.jb]
noncomputable def Wg(x:T):T:= .inst 400 [(st "kind",Z "rel"),(st "worth",x),(st "name",Z "")]
noncomputable def QB(x:T):T:= .inst 359 [(st "kind",Z "imm"),(st "worth",x),(st "name",Z "")]
theorem LQ(x:T)(b:List UInt8)(c:aa)(k:Kn)(Q:List V->Bool):kQ.map (fun q=>an bD (cU [(120,cp Q (.ok (.t x)))] (TN 8)) (fnAt (aR pW 92) []) [.t (Z q.s),.t (Z q.slot.s),.t (.bytes b)] [] (pk c k))=kQ.map (fun q=>bif Q [.t (.bytes b)]then k (.ok (.t (Wg x))) c else none):=by rfl'
theorem QC(x:T)(b:List UInt8)(c:aa)(k:Kn)(Q:List V->Bool):kR.map (fun q=>an bD (cU [(120,cp Q (.ok (.t x)))] (TN 8)) (fnAt (aR pW 92) []) [.t (Z q.s),.t (Z q.slot.s),.t (.bytes b)] [] (pk c k))=kR.map (fun q=>bif Q [.t (.bytes b)]then k (.ok (.t (QB x))) c else none):=by rfl'
theorem QD(x:T)(b:List UInt8)(c:aa)(k:Kn)(Q:List V->Bool):kT.map (fun q=>an bD (cU [(113,cp Q (.ok (.t x)))] (TN 8)) (fnAt (aR pW 92) []) [.t (Z q.s),.t (Z q.slot.s),.t (.bytes b)] [] (pk c k))=kT.map (fun q=>bif Q [.t (.bytes b)]then k (.ok (.t (QB x))) c else none):=by rfl'
theorem nA{S:Tab}{n a:Nat}{sem:Sem}{ts:List T}{t:T}(G:cC S n)(h:S a=some (Pure sem))(hs:∀K E,sem ts K E=K t):aH n a ts (some t):=bG.le ⟨G.spec a _ h,G.keep a _ h⟩ fun args c k out e=>ae e fun p e1 e2=>aE e2 fun q e3=>by
 cases db q
 show ob (iF (fr aN) c args) _=_
 rw[e1]
 exact(hs _ _).trans e3
theorem Gn(bs:List UInt8)(h:bs.length<=40):aH 12 113 [.bytes bs] (some (N (f8 bs))):=
 nA (sem:=sv) good3 (by rfl') fun K E=>by show(bif decide (bs.length<=40)then K (.int (f8 bs))else none)=_;rw[cD h]
theorem B4(bs:List UInt8)(h1:1<=bs.length)(h2:bs.length<=8):aH 12 120 [.bytes bs] (some (I (x7 bs))):=
 nA (sem:=sy) good3 (by rfl') fun K E=>by
  show(bif decide (1<=bs.length)&&decide (bs.length<=8)then K (.int (x7 bs))else none)=_
  rw[decide_eq_true h1,decide_eq_true h2];rfl
noncomputable def m1:List bz:=[.fj,.f9,.fK]
noncomputable def p1:List bz:=[.yb,.v8]
noncomputable def i1:List bz:=[.dl,.bV,.jb,.nq,.lp,.eN]
noncomputable def N2:List (bz×bz):=[(.ux,.r8),(.fj,.v6),(.f9,.v7),(.fK,.ya)]
noncomputable def N3:List (bz×bz):=[(.r8,.ux),(.v6,.fj),(.v7,.f9),(.ya,.fK),(.v6,.m),(.v7,.m),(.ya,.m)]
noncomputable def IX:List (bz×bz):=[(.o8,.nZ),(.v8,.iM),(.DI,.iN),(.yb,.nj)]
noncomputable def IY:List (bz×bz):=[(.ux,.nZ),(.fj,.iM),(.f9,.iN),(.fK,.eN)]
noncomputable def LR:List (bz×bz):=[(.v8,.ax),(.DI,.NV),(.yb,.Qb)]
noncomputable abbrev wn(name:String)(op ay:Nat)(dig:Int)(size:Nat)(wide:Bool)(num:Nat)(ks:List bz):Form:=⟨⟨name,ks,op,ay,dig,size,wide⟩,num⟩
noncomputable abbrev yh(f:Form)(fr:T)(os:List UInt8)(c:aa)(k:Kn)(L:List (Nat×Spec)):aq:=an bD (cU L (TN 8)) (fnAt (aR pW 93) []) [.t f.t,.t fr,.t (.bytes os)] [] (pk c k)
theorem Wh(name:String)(jS de:Nat)(dig:Int)(size:Nat)(wide:Bool)(num:Nat)(bB:Int)(p:Pre)(ca ay op ma mod aA rm az ar width ra:Int)(os:List UInt8)(c:aa)(k:Kn):yh (wn name jS de dig size wide num []) (cB bB p ca ay op ma mod aA rm az ar width ra) os c k []=k (.ok (.t (.tup [.lst [],I ra]))) c:=by rfl'
theorem Wi(x:T)(Qx:List V->Bool)(name:String)(jS de:Nat)(dig:Int)(size:Nat)(wide:Bool)(num:Nat)(bB:Int)(p:Pre)(ca ay op ma mod aA rm az ar width ra:Int)(os:List UInt8)(c:aa)(k:Kn):m1.map (fun q=>yh (wn name jS de dig size wide num [q]) (cB bB p ca ay op ma mod aA rm az ar width ra) os c k [(894,cp Qx (.ok (.t x)))])=
  m1.map (fun q=>bif Qx [.t (Z q.s),.t (cB bB p ca ay op ma mod aA rm az ar width ra)]then k (.ok (.t (.tup [.lst [x],I ra]))) c else none):=by rfl'
theorem Wj(x:T)(Qx:List V->Bool)(name:String)(jS de:Nat)(dig:Int)(size:Nat)(wide:Bool)(num:Nat)(bB:Int)(p:Pre)(ca ay op ma mod aA rm az ar width ra:Int)(os:List UInt8)(c:aa)(k:Kn):p1.map (fun q=>yh (wn name jS de dig size wide num [q]) (cB bB p ca ay op ma mod aA rm az ar width ra) os c k [(901,cp Qx (.ok (.t x)))])=
  p1.map (fun q=>bif Qx [.t (Z q.s),.t (cB bB p ca ay op ma mod aA rm az ar width ra)]then k (.ok (.t (.tup [.lst [x],I ra]))) c else none):=by rfl'
theorem Wk(b:List UInt8)(z:T)(Qf Qw:List V->Bool)(name:String)(jS de:Nat)(dig:Int)(size:Nat)(wide:Bool)(num:Nat)(bB:Int)(p:Pre)(ca ay op ma mod aA rm az ar width ra:Int)(os:List UInt8)(c:aa)(k:Kn):i1.map (fun q=>yh (wn name jS de dig size wide num [q]) (cB bB p ca ay op ma mod aA rm az ar width ra) os c k [(915,cp Qf (.ok (.t (.bytes b)))),(922,cp Qw (.ok (.t z)))])=
  i1.map (fun q=>bif Qf [.t (.bytes os),.t (.int ra),.t (N q.ce)]then bif Qw [.t (Z q.s),.t (Z q.slot.s),.t (.bytes b)]then k (.ok (.t (.tup [.lst [z],.int (ra+((q.ce:Nat):Int))]))) c else none else none):=by rfl'
theorem QE(Qf:List V->Bool)(name:String)(jS de:Nat)(dig:Int)(size:Nat)(wide:Bool)(num:Nat)(bB:Int)(p:Pre)(ca ay op ma mod aA rm az ar width ra:Int)(os:List UInt8)(c:aa)(k:Kn):i1.map (fun q=>yh (wn name jS de dig size wide num [q]) (cB bB p ca ay op ma mod aA rm az ar width ra) os c k [(915,cp Qf .exc)])=
  i1.map (fun q=>bif Qf [.t (.bytes os),.t (.int ra),.t (N q.ce)]then k .exc c else none):=by rfl'
theorem QF(x y:T)(Qx Qy:List V->Bool)(name:String)(jS de:Nat)(dig:Int)(size:Nat)(wide:Bool)(num:Nat)(bB:Int)(p:Pre)(ca ay op ma mod aA rm az ar width ra:Int)(os:List UInt8)(c:aa)(k:Kn):N2.map (fun q=>yh (wn name jS de dig size wide num [q.1,q.2]) (cB bB p ca ay op ma mod aA rm az ar width ra) os c k [(894,cp Qx (.ok (.t x))),(887,cp Qy (.ok (.t y)))])=
  N2.map (fun q=>bif Qx [.t (Z q.1.s),.t (cB bB p ca ay op ma mod aA rm az ar width ra)]then bif Qy [.t (Z q.2.s),.t (cB bB p ca ay op ma mod aA rm az ar width ra)]then k (.ok (.t (.tup [.lst [x,y],I ra]))) c else none else none):=by rfl'
theorem QG(x y:T)(Qx Qy:List V->Bool)(name:String)(jS de:Nat)(dig:Int)(size:Nat)(wide:Bool)(num:Nat)(bB:Int)(p:Pre)(ca ay op ma mod aA rm az ar width ra:Int)(os:List UInt8)(c:aa)(k:Kn):N3.map (fun q=>yh (wn name jS de dig size wide num [q.1,q.2]) (cB bB p ca ay op ma mod aA rm az ar width ra) os c k [(887,cp Qx (.ok (.t x))),(894,cp Qy (.ok (.t y)))])=
  N3.map (fun q=>bif Qx [.t (Z q.1.s),.t (cB bB p ca ay op ma mod aA rm az ar width ra)]then bif Qy [.t (Z q.2.s),.t (cB bB p ca ay op ma mod aA rm az ar width ra)]then k (.ok (.t (.tup [.lst [x,y],I ra]))) c else none else none):=by rfl'
theorem QH(x:T)(b:List UInt8)(z:T)(Qx Qf Qw:List V->Bool)(name:String)(jS de:Nat)(dig:Int)(size:Nat)(wide:Bool)(num:Nat)(bB:Int)(p:Pre)(ca ay op ma mod aA rm az ar width ra:Int)(os:List UInt8)(c:aa)(k:Kn):IX.map (fun q=>yh (wn name jS de dig size wide num [q.1,q.2]) (cB bB p ca ay op ma mod aA rm az ar width ra) os c k [(901,cp Qx (.ok (.t x))),(915,cp Qf (.ok (.t (.bytes b)))),(922,cp Qw (.ok (.t z)))])=
  IX.map (fun q=>bif Qx [.t (Z q.1.s),.t (cB bB p ca ay op ma mod aA rm az ar width ra)]then bif Qf [.t (.bytes os),.t (.int ra),.t (N q.2.ce)]then bif Qw [.t (Z q.2.s),.t (Z q.2.slot.s),.t (.bytes b)]then k (.ok (.t (.tup [.lst [x,z],.int (ra+((q.2.ce:Nat):Int))]))) c else none else none else none):=by rfl'
theorem LS(x:T)(Qx Qf:List V->Bool)(name:String)(jS de:Nat)(dig:Int)(size:Nat)(wide:Bool)(num:Nat)(bB:Int)(p:Pre)(ca ay op ma mod aA rm az ar width ra:Int)(os:List UInt8)(c:aa)(k:Kn):IX.map (fun q=>yh (wn name jS de dig size wide num [q.1,q.2]) (cB bB p ca ay op ma mod aA rm az ar width ra) os c k [(901,cp Qx (.ok (.t x))),(915,cp Qf .exc)])=
  IX.map (fun q=>bif Qx [.t (Z q.1.s),.t (cB bB p ca ay op ma mod aA rm az ar width ra)]then bif Qf [.t (.bytes os),.t (.int ra),.t (N q.2.ce)]then k .exc c else none else none):=by rfl'
theorem QI(x:T)(b:List UInt8)(z:T)(Qx Qf Qw:List V->Bool)(name:String)(jS de:Nat)(dig:Int)(size:Nat)(wide:Bool)(num:Nat)(bB:Int)(p:Pre)(ca ay op ma mod aA rm az ar width ra:Int)(os:List UInt8)(c:aa)(k:Kn):IY.map (fun q=>yh (wn name jS de dig size wide num [q.1,q.2]) (cB bB p ca ay op ma mod aA rm az ar width ra) os c k [(894,cp Qx (.ok (.t x))),(915,cp Qf (.ok (.t (.bytes b)))),(922,cp Qw (.ok (.t z)))])=
  IY.map (fun q=>bif Qx [.t (Z q.1.s),.t (cB bB p ca ay op ma mod aA rm az ar width ra)]then bif Qf [.t (.bytes os),.t (.int ra),.t (N q.2.ce)]then bif Qw [.t (Z q.2.s),.t (Z q.2.slot.s),.t (.bytes b)]then k (.ok (.t (.tup [.lst [x,z],.int (ra+((q.2.ce:Nat):Int))]))) c else none else none else none):=by rfl'
theorem LT(x:T)(Qx Qf:List V->Bool)(name:String)(jS de:Nat)(dig:Int)(size:Nat)(wide:Bool)(num:Nat)(bB:Int)(p:Pre)(ca ay op ma mod aA rm az ar width ra:Int)(os:List UInt8)(c:aa)(k:Kn):IY.map (fun q=>yh (wn name jS de dig size wide num [q.1,q.2]) (cB bB p ca ay op ma mod aA rm az ar width ra) os c k [(894,cp Qx (.ok (.t x))),(915,cp Qf .exc)])=
  IY.map (fun q=>bif Qx [.t (Z q.1.s),.t (cB bB p ca ay op ma mod aA rm az ar width ra)]then bif Qf [.t (.bytes os),.t (.int ra),.t (N q.2.ce)]then k .exc c else none else none):=by rfl'
theorem QJ(x:T)(Qx:List V->Bool)(name:String)(jS de:Nat)(dig:Int)(size:Nat)(wide:Bool)(num:Nat)(bB:Int)(p:Pre)(ca ay op ma mod aA rm az ar width ra:Int)(os:List UInt8)(c:aa)(k:Kn):LR.map (fun q=>yh (wn name jS de dig size wide num [q.1,q.2]) (cB bB p ca ay op ma mod aA rm az ar width ra) os c k [(901,cp Qx (.ok (.t x)))])=
  LR.map (fun q=>bif Qx [.t (Z q.1.s),.t (cB bB p ca ay op ma mod aA rm az ar width ra)]then k (.ok (.t (.tup [.lst [x,(Op.aA q.2.sz 0 true).t],I ra]))) c else none):=by rfl'
noncomputable def yT(k:bz)(b:List UInt8):Op:=match k with
 | .dl| .bV=> .rel (x7 b)
 | .lp| .eN=> .gz (x7 b)
 |_=> .gz (f8 b)
noncomputable def Fd.mm(d:Fd):dR:=d.m.getD ⟨3,0,0,none,[]⟩
noncomputable def bl(d:Fd)(im:List UInt8)(k:bz):Op:=match k.slot with
 | .aA=> .aA k.sz (d.mm.aA+8*d.p.bit 4) d.p.hr
 | .rm=>if d.mm.mod=3 then .aA k.sz (d.mm.rm+8*d.p.bit 1) d.p.hr else lq d.mm (d.p.bit 2) (d.p.bit 1) k.N1 d.p.seg
 | .plus=> .aA k.sz (d.o %8+8*d.p.bit 1) d.p.hr
 | .fixed=> .aA k.sz 0 true
 | .gz=>yT k im
 | .rel=>yT k im
noncomputable def Form.ce(f:Form):Nat:=(f.kinds.map bz.ce).sum
noncomputable def nB(d:Fd):jl (List Op):=bindR (bo d.f.ce) fun im=>iB (d.f.kinds.map (bl d im))
theorem Gp{q:bz}(hq:q∈n6)(p:Pre){n:Nat}(hn:n<8)(bB ca ay op ma mod rm az ar width ra:Int):aH 10 887 [Z q.s,cB bB p ca ay op ma mod n rm az ar width ra] (some (Op.aA q.sz (n+8*p.bit 4) p.hr).t):=by
 have hb:=ny p 4
 refine ak VF (aP (by decide) _ ((bf (n' :=8) (args:=[.t (.int ((n:Int)+8*((p.bit 4:Nat):Int))),.t (N q.sz.n),.t (B p.hr)]) trivial (jd (show n+8*p.bit 4<16 by lia) q.sz p.hr) (by decide) (by rw[show(n:Int)+8*((p.bit 4:Nat):Int)=((n+8*p.bit 4:Nat):Int) by push_cast;rfl];rfl)).all .aW)) fun c k=>(List.map_inj_left.mp (LM ..) q hq).trans ?_
 rw[aK];rfl
theorem Gq{q:bz}(hq:q∈qP)(p:Pre){n:Nat}(hn:n<8)(bB ca ay op ma aA az ar width ra:Int):aH 10 894 [Z q.s,cB bB p ca ay op ma 3 aA n az ar width ra] (some (Op.aA q.sz (n+8*p.bit 1) p.hr).t):=by
 have hb:=ny p 1
 refine ak PD (aP (by decide) _ ((bf (n' :=8) (args:=[.t (.int ((n:Int)+8*((p.bit 1:Nat):Int))),.t (N q.sz.n),.t (B p.hr)]) trivial (jd (show n+8*p.bit 1<16 by lia) q.sz p.hr) (by decide) (by rw[show(n:Int)+8*((p.bit 1:Nat):Int)=((n+8*p.bit 1:Nat):Int) by push_cast;rfl];rfl)).all .aW)) fun c k=>(List.map_inj_left.mp (LN ..) q hq).trans ?_
 rw[aK];rfl
theorem B5{q:bz}(hq:q∈bz.m::qP)(p:Pre)(m:dR)(hm:m.Ok)(h3:m.mod≠3)(bB ca ay op ma aA width ra:Int):aH 12 894 [Z q.s,cB bB p ca ay op ma m.mod aA m.rm (fJ m.az) (cG m.cj) width ra] (some (lq m (p.bit 2) (p.bit 1) q.N1 p.seg).t):=by
 refine ak PD (aP (by decide) _ ((bf (n' :=10) (args:=[.t (N m.mod),.t (N m.rm),.t (I (fJ m.az)),.t (I (cG m.cj)),.t (N (p.bit 2)),.t (N (p.bit 1)),.t (N q.N1),.t p.seg.t]) trivial (Gj m hm h3 (p.bit 2) (p.bit 1) q.N1 p.seg (ny p 2) (ny p 1)) (by decide) rfl).all .aW)) fun c k=>(List.map_inj_left.mp (Gk _ bB p ca ay op ma aA m.rm (fJ m.az) (cG m.cj) width ra c k _ m.mod (by have:=hm.mod;lia)) q hq).trans ?_
 rw[aK];rfl
theorem Gr{q:bz}(hq:q∈DJ)(p:Pre)(op:Nat)(bB ca ay ma mod aA rm az ar width ra:Int):aH 10 901 [Z q.s,cB bB p ca ay op ma mod aA rm az ar width ra] (some (Op.aA q.sz (op %8+8*p.bit 1) p.hr).t):=by
 have hb:=ny p 1
 refine ak VG (aP (by decide) _ ((bf (n' :=8) (args:=[.t (.int ((op:Int).fmod 8+8*((p.bit 1:Nat):Int))),.t (N q.sz.n),.t (B p.hr)]) trivial (jd (show op %8+8*p.bit 1<16 by lia) q.sz p.hr) (by decide) (by rw[show(8:Int)=((8:Nat):Int)from rfl,IS,show((op %8:Nat):Int)+((8:Nat):Int)*((p.bit 1:Nat):Int)=((op %8+8*p.bit 1:Nat):Int) by push_cast;rfl];rfl)).all .aW)) fun c k=>(List.map_inj_left.mp (LO ..) q hq).trans ?_
 rw[aK];rfl
theorem LU{q:bz}(hq:q∈kQ++kR++kT)(b:List UInt8)(hb:b.length=q.ce):aH 13 922 [Z q.s,Z q.slot.s,.bytes b] (some (yT q b).t):=by
 have hw:∀q∈kQ++kR++kT,1<=q.ce/\q.ce<=8:=by decide
 obtain⟨h1,h2⟩:=hw q hq
 have i1:=bf (n' :=11) (args:=[.t (.bytes b)]) trivial (B4 b (by exact hb▸h1) (by exact Nat.le_trans (Nat.le_of_eq hb) h2)) (by decide) rfl
 have i2:=bf (n' :=11) (args:=[.t (.bytes b)]) trivial (Gn b (by lia)) (by decide) rfl
 cases List.mem_append.mp hq with
 |inl hq=>
  cases List.mem_append.mp hq with
  |inl hq=>
   refine ak K7 (aP (by decide) _ (i1.all .aW)) fun c k=>(List.map_inj_left.mp (LQ ..) q hq).trans ?_
   have e:∀q∈kQ,yT q b= .rel (x7 b):=by intro q hq;simp only[kQ,List.mem_cons,List.not_mem_nil,or_false]at hq;rcases hq with rfl|rfl<;>rfl
   rw[aK,e q hq];rfl
  |inr hq=>
   refine ak K7 (aP (by decide) _ (i1.all .aW)) fun c k=>(List.map_inj_left.mp (QC ..) q hq).trans ?_
   have e:∀q∈kR,yT q b= .gz (x7 b):=by intro q hq;simp only[kR,List.mem_cons,List.not_mem_nil,or_false]at hq;rcases hq with rfl|rfl<;>rfl
   rw[aK,e q hq];rfl
 |inr hq=>
  refine ak K7 (aP (by decide) _ (i2.all .aW)) fun c k=>(List.map_inj_left.mp (QD ..) q hq).trans ?_
  have e:∀q∈kT,yT q b= .gz (f8 b):=by intro q hq;simp only[kT,List.mem_cons,List.not_mem_nil,or_false]at hq;rcases hq with rfl|rfl|rfl|rfl|rfl|rfl<;>rfl
  rw[aK,e q hq];rfl
noncomputable def LV:List (List bz):=[[]]++m1.map (fun q=>[q])++p1.map (fun q=>[q])++i1.map (fun q=>[q])++N2.map (fun q=>[q.1,q.2])++N3.map (fun q=>[q.1,q.2])++IX.map (fun q=>[q.1,q.2])++IY.map (fun q=>[q.1,q.2])++LR.map (fun q=>[q.1,q.2])
theorem B6:∀fl:Bool,∀f∈ab fl,f.kinds∈LV:=by intro fl;induction fl<;>decide+kernel
noncomputable def LW:Option dR->Int|none=>0|some m=>m.rm
noncomputable def n7:Option dR->Int|none=> -1|some m=>fJ m.az
noncomputable def qA:Option dR->Int|none=>0|some m=>cG m.cj
noncomputable def n8:Option dR->Int|none=>0|some m=>m.cj.length
noncomputable abbrev QK(j:Nat)(p:Pre)(e o:Nat)(m:Option dR)(ra:Nat):T:=cB j p ((j+p.cnt:Nat):Int) e o ((j+p.cnt+1+e:Nat):Int) (gw m) (fL m) (LW m) (n7 m) (qA m) (n8 m) ra
theorem wp(d:Fd)(j:Nat):d.fr j=QK j d.p d.e d.o d.m (j+d.len):=by
 obtain⟨p,e,o,m,f⟩:=d
 induction m with
 |none=>
  show cB j p ((j+p.cnt:Nat):Int) e o ((j+p.cnt+1+e:Nat):Int) (-1) 0 0 (-1) 0 0 ((j+p.cnt+1+e:Nat):Int)=cB j p ((j+p.cnt:Nat):Int) e o ((j+p.cnt+1+e:Nat):Int) (-1) 0 0 (-1) 0 0 ((j+(p.cnt+1+e+0):Nat):Int)
  rw[show j+(p.cnt+1+e+0)=j+p.cnt+1+e by lia]
 |some m=>rfl
structure Fd.Ok(d:Fd):Prop where
 m:d.f.jP=true->∃m,d.m=some m
 ok:∀m,d.m=some m->m.Ok
 mem:d.f.kinds.any bz.NW=true->d.mm.mod≠3
theorem LX{q:bz}(hq:q∈n6)(d:Fd)(hd:d.Ok)(h:∃m,d.m=some m)(im:List UInt8)(j ra:Nat):aH 10 887 [Z q.s,QK j d.p d.e d.o d.m ra] (some (bl d im q).t):=by
 obtain⟨m,hm⟩:=h
 have e:∀q∈n6,q.slot= .aA:=by intro q hq;simp only[n6,List.mem_cons,List.not_mem_nil,or_false]at hq;rcases hq with rfl|rfl|rfl|rfl<;>rfl
 have:=Gp hq d.p (hd.ok m hm).aA j ((j+d.p.cnt:Nat):Int) d.e d.o ((j+d.p.cnt+1+d.e:Nat):Int) (gw d.m) (LW d.m) (n7 d.m) (qA d.m) (n8 d.m) ra
 unfold bl Fd.mm
 rw[e q hq]
 rw[hm]at this⊢
 exact this
theorem LY{q:bz}(hq:q∈bz.m::qP)(d:Fd)(hd:d.Ok)(h:∃m,d.m=some m)(h3:q= .m->d.mm.mod≠3)(im:List UInt8)(j ra:Nat):aH 12 894 [Z q.s,QK j d.p d.e d.o d.m ra] (some (bl d im q).t):=by
 obtain⟨m,hm⟩:=h
 have e:∀q∈bz.m::qP,q.slot= .rm:=by intro q hq;simp only[qP,List.mem_cons,List.not_mem_nil,or_false]at hq;rcases hq with rfl|rfl|rfl|rfl|rfl<;>rfl
 have Wl:d.mm=m:=by unfold Fd.mm;rw[hm];rfl
 unfold bl
 rw[e q hq]
 rw[Wl]at h3⊢
 dsimp only
 by_cases q3:m.mod=3
 ·rw[if_pos q3]
  have hq:q∈qP:=by
   cases List.mem_cons.mp hq with
   |inl e=>exact absurd q3 (h3 e)
   |inr h=>exact h
  have:=Gq hq d.p (hd.ok m hm).rm j ((j+d.p.cnt:Nat):Int) d.e d.o ((j+d.p.cnt+1+d.e:Nat):Int) (fL d.m) (n7 d.m) (qA d.m) (n8 d.m) ra
  rw[hm]at this⊢
  refine FA ?_ (show 10<=12 by decide)
  show aH 10 894 [Z q.s,cB j d.p ((j+d.p.cnt:Nat):Int) d.e d.o ((j+d.p.cnt+1+d.e:Nat):Int) m.mod (fL (some m)) m.rm (n7 (some m)) (qA (some m)) (n8 (some m)) ra] _
  rw[q3]
  exact this
 ·rw[if_neg q3]
  have:=B5 hq d.p m (hd.ok m hm) q3 j ((j+d.p.cnt:Nat):Int) d.e d.o ((j+d.p.cnt+1+d.e:Nat):Int) (fL d.m) (n8 d.m) ra
  rw[hm]at this⊢
  exact this
theorem LZ{q:bz}(hq:q∈DJ)(d:Fd)(im:List UInt8)(j ra:Nat):aH 10 901 [Z q.s,QK j d.p d.e d.o d.m ra] (some (bl d im q).t):=by
 have e:∀q∈DJ,q.slot= .plus:=by intro q hq;simp only[DJ,List.mem_cons,List.not_mem_nil,or_false]at hq;rcases hq with rfl|rfl|rfl|rfl<;>rfl
 have:=Gr hq d.p d.o j ((j+d.p.cnt:Nat):Int) d.e ((j+d.p.cnt+1+d.e:Nat):Int) (gw d.m) (fL d.m) (LW d.m) (n7 d.m) (qA d.m) (n8 d.m) ra
 unfold bl
 rw[e q hq]
 exact this
theorem L6{q:bz}(hq:q∈kQ++kR++kT)(d:Fd)(b:List UInt8)(hb:b.length=q.ce):aH 13 922 [Z q.s,Z q.slot.s,.bytes b] (some (bl d b q).t):=by
 have e:∀q∈kQ++kR++kT,q.slot= .gz\/q.slot= .rel:=by intro q hq;simp only[kQ,kR,kT,List.mem_append,List.mem_cons,List.not_mem_nil,or_false]at hq;rcases hq with((rfl|rfl)|(rfl|rfl))|(rfl|rfl|rfl|rfl|rfl|rfl)<;>first|exact .inl rfl|exact .inr rfl
 have:=LU hq b hb
 unfold bl
 cases e q hq with
 |inl h=>rw[h]at this⊢;exact this
 |inr h=>rw[h]at this⊢;exact this
theorem IZ:∀q∈m1,q∈bz.m::qP:=by decide
theorem I0:∀q∈p1,q∈DJ/\q.ce=0:=by decide
theorem QL:∀q∈i1,q∈kQ++kR++kT:=by decide
theorem B7:∀q∈N2,q.1∈bz.m::qP/\q.2∈n6/\q.1≠.m/\q.1.ce=0/\q.2.ce=0:=by decide
theorem B8:∀q∈N3,q.1∈n6/\q.2∈bz.m::qP/\q.1.ce=0/\q.2.ce=0:=by decide
theorem B9:∀q∈IX,q.1∈DJ/\q.2∈kQ++kR++kT/\q.1.ce=0:=by decide
theorem Ca:∀q∈IY,q.1∈bz.m::qP/\q.1≠.m/\q.2∈kQ++kR++kT/\q.1.ce=0:=by decide
theorem Cb:∀q∈LR,q.1∈DJ/\q.2.slot= .fixed/\q.1.ce=0/\q.2.ce=0:=by
 intro q hq;simp only[LR,List.mem_cons,List.not_mem_nil,or_false]at hq;rcases hq with rfl|rfl|rfl<;>exact⟨by decide,rfl,rfl,rfl⟩
theorem Cc:∀q∈m1,q.ce=0/\q≠.m:=by decide
theorem QM{d:Fd}(hd:d.Ok){q:bz}(hq:q∈d.f.kinds)(h:q.slot.qz=true\/q.slot.BN=true):∃m,d.m=some m:=hd.m (by
 unfold Form.jP
 rw[Bool.or_eq_true,Bool.or_eq_true]
 induction h with
 |inl h=>exact .inl (.inr (List.any_eq_true.mpr ⟨q,hq,h⟩))
 |inr h=>exact .inr (List.any_eq_true.mpr ⟨q,hq,h⟩))
theorem qB:∀q∈bz.m::qP,q.slot.qz=true:=by decide
theorem Cd:∀q∈n6,q.slot.BN=true:=by decide
theorem L7(d:Fd)(h:d.f.ce=0)(s:List UInt8)(t:List Op->Nat->T):kO (nB d s) t=some (t (d.f.kinds.map (bl d [])) 0):=by
 unfold nB bindR bo
 rw[h]
 rfl
theorem L8(d:Fd)(os:List UInt8)(a:Nat)(t:List Op->Nat->T):kO (nB d (os.drop a)) t=match bo d.f.ce (os.drop a)with
  | .done b n=>some (t (d.f.kinds.map (bl d b)) (n+0))
  |_=>none:=by
 unfold nB bindR
 cases bo d.f.ce (os.drop a)<;>rfl
section
variable{d:Fd}(j:Nat)(os:List UInt8){q:bz}{qq:bz×bz}{b:List UInt8}{r:Option T}
noncomputable abbrev fG(d:Fd)(j:Nat):T:=QK j d.p d.e d.o d.m (j+d.len)
noncomputable abbrev DK(d:Fd)(j:Nat)(os:List UInt8)(r:Option T):Prop:=aH 15 929 [d.f.t,fG d j,.bytes os] r
noncomputable abbrev oL(j:Nat)(d:Fd)(l:List Op):Option T:=some (.tup [.lst (l.map Op.t),N (j+d.len)])
theorem Wm{f:Form}{ks:List bz}(h:f.kinds=ks):wn f.name f.op f.ay f.dig f.size f.wide f.num ks=f:=h▸rfl
theorem og{L:List (Nat×Spec)}(hk:d.f.kinds=ks)(hL:∀p∈L,bG 14 p.1 p.2)(h:∀c k,yh (wn d.f.name d.f.op d.f.ay d.f.dig d.f.size d.f.wide d.f.num ks) (fG d j) os c k L=k (jM r) c):DK d j os r:=ak VI (aP (by decide) L hL) (Wm hk▸h)
noncomputable abbrev N4(d:Fd)(j a:Nat)(q:bz)(o:Op):Nat×Spec:=(a,cp (isA [.t (Z q.s),.t (fG d j)]) (.ok (.t o.t)))
theorem Wn(hq:q∈kQ++kR++kT)(hb:b.length=q.ce):bG 14 922 (cp (isA [.t (Z q.s),.t (Z q.slot.s),.t (.bytes b)]) (.ok (.t (bl d b q).t))):=bf (n' :=13) trivial (L6 hq d b hb) (by decide) rfl
theorem Yj(hq:q∈n6)(hd:d.Ok)(h:∃m,d.m=some m):bG 14 (N4 d j 887 q (bl d b q)).1 (N4 d j 887 q (bl d b q)).2:=bf (n' :=13) trivial (LX hq d hd h b j (j+d.len)) (by decide) rfl
theorem QN(hq:q∈bz.m::qP)(hd:d.Ok)(h:∃m,d.m=some m)(h3:q= .m->d.mm.mod≠3):bG 14 (N4 d j 894 q (bl d b q)).1 (N4 d j 894 q (bl d b q)).2:=bf (n' :=13) trivial (LY hq d hd h h3 b j (j+d.len)) (by decide) rfl
theorem Ud(hq:q∈DJ):bG 14 (N4 d j 901 q (bl d b q)).1 (N4 d j 901 q (bl d b q)).2:=bf (n' :=13) trivial (LZ hq d b j (j+d.len)) (by decide) rfl
theorem N5{w n:Nat}(h:bo w (os.drop n)=x):bG 14 915 (cp (isA [.t (.bytes os),.t (N n),.t (N w)]) (jM (kO x fun b _=> .bytes b))):=bf (n' :=13) trivial (h▸Gm os n w) (by decide) rfl
theorem Wo(hk:d.f.kinds=[q])(hq:q∈m1)(hd:d.Ok)(hx:∃m,d.m=some m):DK d j os (oL j d [bl d [] q]):=
 og j os hk ((QN j (IZ q hq) hd hx fun h=>absurd h (Cc q hq).2).all .aW) fun c k=>(List.map_inj_left.mp (Wi ..) q hq).trans aM
theorem Wp(hk:d.f.kinds=[q])(hq:q∈p1):DK d j os (oL j d [bl d [] q]):=
 og j os hk ((Ud j (I0 q hq).1).all .aW) fun c k=>(List.map_inj_left.mp (Wj ..) q hq).trans aM
theorem QO(hk:d.f.kinds=[qq.1,qq.2])(hq:qq∈N2)(hd:d.Ok)(hx:∃m,d.m=some m):DK d j os (oL j d [bl d [] qq.1,bl d [] qq.2]):=have g:=B7 qq hq
 og j os hk ((QN j g.1 hd hx fun h=>absurd h g.2.2.1).all ((Yj j g.2.1 hd hx).all .aW)) fun c k=>(List.map_inj_left.mp (QF ..) qq hq).trans (aM.trans aM)
theorem QP(hk:d.f.kinds=[qq.1,qq.2])(hq:qq∈N3)(hd:d.Ok)(hx:∃m,d.m=some m)(h3:qq.2= .m->d.mm.mod≠3):DK d j os (oL j d [bl d [] qq.1,bl d [] qq.2]):=have g:=B8 qq hq
 og j os hk ((Yj j g.1 hd hx).all ((QN j g.2.1 hd hx h3).all .aW)) fun c k=>(List.map_inj_left.mp (QG ..) qq hq).trans (aM.trans aM)
theorem QR(hk:d.f.kinds=[qq.1,qq.2])(hq:qq∈LR):DK d j os (oL j d [bl d [] qq.1,.aA qq.2.sz 0 true]):=
 og j os hk ((Ud j (Cb qq hq).1).all .aW) fun c k=>(List.map_inj_left.mp (QJ ..) qq hq).trans aM
noncomputable abbrev rI(j:Nat)(d:Fd)(f:List UInt8->List Op)(x:Rd (List UInt8)):Option T:=kO x fun b n=> .tup [.lst ((f b).map Op.t),N (j+d.len+n)]
theorem Wq(hk:d.f.kinds=[q])(hq:q∈i1):DK d j os (rI j d (fun b=>[bl d b q]) (bo q.ce (os.drop (j+d.len)))):=by
 cases ht:bo q.ce (os.drop (j+d.len))with
 |done b n=>
  have t:=dB ht
  cases t.1
  exact og j os hk ((N5 os ht).all ((Wn (QL q hq) t.2.2).all .aW)) fun c k=>(List.map_inj_left.mp (Wk ..) q hq).trans (aM.trans aM)
 |_=>exact og j os hk ((N5 os ht).all .aW) fun c k=>(List.map_inj_left.mp (QE ..) q hq).trans aM
theorem QS(hk:d.f.kinds=[qq.1,qq.2])(hq:qq∈IX):DK d j os (rI j d (fun b=>[bl d b qq.1,bl d b qq.2]) (bo qq.2.ce (os.drop (j+d.len)))):=by
 have g:=B9 qq hq
 cases ht:bo qq.2.ce (os.drop (j+d.len))with
 |done b n=>
  have t:=dB ht
  cases t.1
  exact og j os hk ((Ud j g.1).all ((N5 os ht).all ((Wn g.2.1 t.2.2).all .aW))) fun c k=>(List.map_inj_left.mp (QH ..) qq hq).trans (aM.trans (aM.trans aM))
 |_=>exact og j os hk ((Ud (b:=[]) j g.1).all ((N5 os ht).all .aW)) fun c k=>(List.map_inj_left.mp (LS ..) qq hq).trans (aM.trans aM)
theorem QT(hk:d.f.kinds=[qq.1,qq.2])(hq:qq∈IY)(hd:d.Ok)(hx:∃m,d.m=some m):DK d j os (rI j d (fun b=>[bl d b qq.1,bl d b qq.2]) (bo qq.2.ce (os.drop (j+d.len)))):=by
 have g:=Ca qq hq
 cases ht:bo qq.2.ce (os.drop (j+d.len))with
 |done b n=>
  have t:=dB ht
  cases t.1
  exact og j os hk ((QN j g.1 hd hx fun h=>absurd h g.2.1).all ((N5 os ht).all ((Wn g.2.2.1 t.2.2).all .aW))) fun c k=>(List.map_inj_left.mp (QI ..) qq hq).trans (aM.trans (aM.trans aM))
 |_=>exact og j os hk ((QN (b:=[]) j g.1 hd hx fun h=>absurd h g.2.1).all ((N5 os ht).all .aW)) fun c k=>(List.map_inj_left.mp (LT ..) qq hq).trans (aM.trans aM)
theorem N6(hw:d.f.ce=0):kO (nB d (os.drop (j+d.len))) (fun ops n=> .tup [.lst (ops.map Op.t),N (j+d.len+n)])=oL j d (d.f.kinds.map (bl d [])):=L7 d hw _ _
theorem Wr{w:Nat}(hw:d.f.ce=w):kO (nB d (os.drop (j+d.len))) (fun ops n=> .tup [.lst (ops.map Op.t),N (j+d.len+n)])=rI j d (fun b=>d.f.kinds.map (bl d b)) (bo w (os.drop (j+d.len))):=by
 rw[L8,hw]
 cases bo w (os.drop (j+d.len))<;>rfl
theorem Ce{q r:bz}(h:q.ce=0)(h2:r.ce=0):([q,r].map bz.ce).sum=0:=by
 show q.ce+(r.ce+0)=0
 rw[h,h2]
theorem Cf{q r:bz}(h:q.ce=0):([q,r].map bz.ce).sum=r.ce:=by
 show q.ce+(r.ce+0)=r.ce
 rw[h,Nat.zero_add];rfl
theorem ga{f:Form}{ks:List bz}(h:f.kinds=ks):f.ce=(ks.map bz.ce).sum:=h▸rfl
theorem kinds_of{P:List bz->Prop}{ks:List bz}(h:ks∈LV)(c0:ks=[]->P ks)(c1:∀q∈m1,ks=[q]->P ks)(c2:∀q∈p1,ks=[q]->P ks)(c3:∀q∈i1,ks=[q]->P ks)(c4:∀q∈N2,ks=[q.1,q.2]->P ks)(c5:∀q∈N3,ks=[q.1,q.2]->P ks)(c6:∀q∈IX,ks=[q.1,q.2]->P ks)(c7:∀q∈IY,ks=[q.1,q.2]->P ks)(c8:∀q∈LR,ks=[q.1,q.2]->P ks):P ks:=by
 have k {α:Type} {l:List α} {f:α->List bz} (c:∀q∈l,ks=f q->P ks) (h:ks∈l.map f):P ks:=(List.mem_map.mp h).elim fun q h=>c q h.1 h.2.symm
 unfold LV at h
 exact(List.mem_append.mp h).elim (fun h=>(List.mem_append.mp h).elim (fun h=>(List.mem_append.mp h).elim (fun h=>(List.mem_append.mp h).elim (fun h=>(List.mem_append.mp h).elim (fun h=>(List.mem_append.mp h).elim (fun h=>(List.mem_append.mp h).elim (fun h=>(List.mem_append.mp h).elim (fun h=>c0 (List.mem_singleton.mp h)) (k c1)) (k c2)) (k c3)) (k c4)) (k c5)) (k c6)) (k c7)) (k c8)
theorem Cg(fl:Bool)(d:Fd)(hf:d.f∈ab fl)(hd:d.Ok)(os:List UInt8)(j:Nat):aH 15 929 [d.f.t,d.fr j,.bytes os] (kO (nB d (os.drop (j+d.len))) fun ops n=> .tup [.lst (ops.map Op.t),N (j+d.len+n)]):=by
 rw[wp]
 have hm:=fun q hq h=>QM hd (q:=q) hq h
 refine kinds_of (P:=fun _=>DK d j os _) (B6 fl d.f hf) (fun h=> ?_) (fun q hq h=> ?_) (fun q hq h=> ?_) (fun q hq h=> ?_) (fun q hq h=> ?_) (fun q hq h=> ?_) (fun q hq h=> ?_) (fun q hq h=> ?_) (fun q hq h=> ?_)
 ·rw[N6 j os (ga h),h]
  exact og j os h .aW fun c k=>Wh d.f.name d.f.op d.f.ay d.f.dig d.f.size d.f.wide d.f.num j d.p ((j+d.p.cnt:Nat):Int) d.e d.o ((j+d.p.cnt+1+d.e:Nat):Int) (gw d.m) (fL d.m) (LW d.m) (n7 d.m) (qA d.m) (n8 d.m) ((j+d.len:Nat):Int) os c k
 ·rw[N6 j os ((ga h).trans (Cc q hq).1),h]
  exact Wo j os h hq hd (hm q (h▸.head _) (.inl (qB q (IZ q hq))))
 ·rw[N6 j os ((ga h).trans (I0 q hq).2),h]
  exact Wp j os h hq
 ·rw[Wr j os (ga h),h]
  exact Wq j os h hq
 ·have g:=B7 q hq
  rw[N6 j os ((ga h).trans (Ce g.2.2.2.1 g.2.2.2.2)),h]
  exact QO j os h hq hd (hm q.1 (h▸.head _) (.inl (qB _ g.1)))
 ·have g:=B8 q hq
  rw[N6 j os ((ga h).trans (Ce g.2.2.1 g.2.2.2)),h]
  exact QP j os h hq hd (hm q.1 (h▸.head _) (.inr (Cd _ g.1))) fun e=>hd.mem (List.any_eq_true.mpr ⟨q.2,h▸.tail _ (.head _),e▸rfl⟩)
 ·have g:=B9 q hq
  rw[Wr j os ((ga h).trans (Cf g.2.2)),h]
  exact QS j os h hq
 ·have g:=Ca q hq
  rw[Wr j os ((ga h).trans (Cf g.2.2.2)),h]
  exact QT j os h hq hd (hm q.1 (h▸.head _) (.inl (qB _ g.1)))
 ·have g:=Cb q hq
  rw[N6 j os ((ga h).trans (Ce g.2.2.1 g.2.2.2)),h]
  rw[List.map_cons,List.map_cons,List.map_nil,show bl d [] q.2= .aA q.2.sz 0 true by unfold bl;rw[g.2.1]]
  exact QR j os h hq
end
noncomputable def Op.cu:Op->Bool| .mem .. =>true|_=>false
noncomputable def L9:List Op->Bool|a::_=>a.cu|[]=>false
noncomputable def Ma(s:String):Bool:=sEq (st s) (st "xchg")
noncomputable def QU:List bz->Bool| .ux::_| .fj::_| .f9::_| .fK::_=>true|_=>false
noncomputable def Form.lk(f:Form):Bool:=Ma f.name&&QU f.kinds
theorem Mb(c:aa)(k:Kn)(fl:Bool):(ab fl).map (fun f=>an bD (TN 8) (fnAt (aR pW 25) []) [.t f.t] [] (pk c k))=(ab fl).map (fun f=>k (.ok (.t (B f.lk))) c):=by induction fl<;>rfl'
theorem Gs{fl:Bool}{f:Form}(hf:f∈ab fl):aH 9 245 [f.t] (some (B f.lk)):=ak Vq (bI 8) fun c k=>List.map_inj_left.mp (Mb c k fl) f hf
noncomputable def Seg.QV:Seg->Bool| .no=>true|_=>false
noncomputable def Ws(Q:List V->Bool)(f:Form)(dat lock lk m0 ma:Bool)(sg:Str)(yes no:aq):aq:=
 let r3:=bif !(sg==st "")then bif !ma then no else yes else yes
 let r2:=bif lock then(bif Q [.t f.t]then(bif !lk then no else bif !m0 then no else r3)else none)else r3
 let r1:=bif !decide ((f.size:Int)=16)then no else r2
 bif dat==true then r1 else bif dat then r1 else r2
noncomputable abbrev Zz(f:Form)(fr:T)(ops:List Op)(c:aa)(k:Kn)(L:List (Nat×Spec)):aq:=an bD (cU L (TN 8)) (fnAt (aR pW 94) []) [.t f.t,.t fr,.t (.lst (ops.map Op.t))] [] (pk c k)
theorem Mc(f:Form)(lk:Bool)(ops:List Op)(hl:ops.length<=2)(h0:lk=true->ops≠[])(p:Pre)(Q:List V->Bool)(bB ca ay op ma mod aA rm az ar width ra:Int)(c:aa)(k:Kn):Zz f (cB bB p ca ay op ma mod aA rm az ar width ra) ops c k [(245,cp Q (.ok (.t (B lk))))]=
  Ws Q f p.data p.lock lk (L9 ops) (ops.any Op.cu) (st p.seg.s) (k (.ok (.t .none)) c) (k .exc c):=by
 obtain⟨seg,dat,rp,lock,aX⟩:=p
 rcases two hl with rfl|⟨a,rfl⟩|⟨a,b,rfl⟩
 ·induction lk
  ·rfl'
  ·exact absurd rfl (h0 rfl)
 ·induction a<;>rfl'
 ·induction a<;>induction b<;>rfl'
noncomputable def jT(f:Form)(p:Pre)(ops:List Op):Bool:=(!p.data||decide (f.size=16))&&(!p.lock||(f.lk&&L9 ops))&&(p.seg.QV||ops.any Op.cu)
section
variable{a b d l m s:Bool}{y n:aq}{k:Kn}{c:aa}
theorem QW:(bif !a then(bif !b then n else y)else y)=bif a||b then y else n:=by induction a<;>induction b<;>rfl
theorem QX:(bif l then(bif !a then n else bif !m then n else y)else y)=bif !l||(a&&m)then y else n:=by induction l<;>induction a<;>induction m<;>rfl
theorem QY:(bif d==true then(bif !s then n else y)else bif d then(bif !s then n else y)else y)=bif !d||s then y else n:=by induction d<;>induction s<;>rfl
theorem QZ:(bif a then(bif b then(bif d then k (.ok (.t .none)) c else k .exc c)else k .exc c)else k .exc c)=k (jM (bif a&&b&&d then some .none else none)) c:=by induction a<;>induction b<;>induction d<;>rfl
end
theorem Q0{f:Form}(h:f.lk=true)(e:f.kinds=[]):False:=by
 unfold Form.lk at h
 rw[e]at h
 exact Bool.false_ne_true ((Bool.and_false _).symm.trans h)
theorem Gu{f:Form}:decide ((f.size:Int)=16)=decide (f.size=16):=decide_eq_decide.mpr ⟨fun h=>Int.ofNat.inj h,fun h=>congrArg _ h⟩
theorem Md{p:Pre}:(st p.seg.s==st "")=p.seg.QV:=by induction p.seg<;>decide+kernel
theorem Q8{f:Form}{p:Pre}{ops:List Op}{c:aa}{k:Kn}:Ws (isA [.t f.t]) f p.data p.lock f.lk (L9 ops) (ops.any Op.cu) (st p.seg.s) (k (.ok (.t .none)) c) (k .exc c)=k (jM (bif jT f p ops then some .none else none)) c:=by
 unfold Ws jT
 dsimp only
 rw[aM,Gu,Md,QW,QX,QY]
 exact QZ
theorem yi{fl:Bool}{f:Form}(hf:f∈ab fl)(p:Pre)(ops:List Op)(hl:ops.length=f.kinds.length)(h2:f.kinds.length<=2)(bB ca ay op ma mod aA rm az ar width ra:Int):aH 11 934 [f.t,cB bB p ca ay op ma mod aA rm az ar width ra,.lst (ops.map Op.t)] (bif jT f p ops then some .none else none):=
 ak VJ (aP (by decide) _ ((bf (n' :=9) (args:=[.t f.t]) trivial (Gs hf) (by decide) rfl).all .aW)) fun c k=>(Mc f f.lk ops (hl▸h2) (fun h e=>Q0 h (List.length_eq_zero_iff.mp (hl.symm.trans (congrArg List.length e)))) p _ bB ca ay op ma mod aA rm az ar width ra c k).trans Q8
noncomputable def Gv(s:String):Bool:=["movsb","movsw","movsd","movsq","stosb","stosw","stosd","stosq","lodsb","lodsw","lodsd","lodsq"].any fun x=>sEq (st x) (st s)
noncomputable def Gw(s:String):Bool:=["cmpsb","cmpsw","cmpsd","cmpsq","scasb","scasw","scasd","scasq"].any fun x=>sEq (st x) (st s)
inductive Q9 where|n|r|b
noncomputable def Q9.t:Q9->T| .n=> .lst []| .r=> .lst [Z "rep"]| .b=> .lst [Z "rep",Z "repne"]
noncomputable def Form.rl(f:Form):Q9:=bif Gv f.name then .r else bif Gw f.name then .b else .n
theorem Me(c:aa)(k:Kn)(fl:Bool):(ab fl).map (fun f=>an bD (TN 8) (fnAt (aR pW 26) []) [.t (Z f.name)] [] (pk c k))=(ab fl).map (fun f=>k (.ok (.t f.rl.t)) c):=by induction fl<;>rfl'
theorem Gx{fl:Bool}{f:Form}(hf:f∈ab fl):aH 9 252 [Z f.name] (some f.rl.t):=ak Vr (bI 8) fun c k=>List.map_inj_left.mp (Me c k fl) f hf
noncomputable def Wt(Q:List V->Bool)(f:Form)(lock:Bool)(rp:Rep)(rl:Q9)(yes:String->aq)(no:aq):aq:=
 bif lock then yes "lock" else match rp with
  | .no=>yes ""
  | .rep=>bif Q [.t (Z f.name)]then match rl with| .n=>no|_=>yes "rep" else none
  | .iK=>bif Q [.t (Z f.name)]then match rl with| .b=>yes "repne"|_=>no else none
theorem Mf(f:Form)(rl:Q9)(p:Pre)(Q:List V->Bool)(bB ca ay op ma mod aA rm az ar width ra:Int)(c:aa)(k:Kn):an bD (cU [(252,cp Q (.ok (.t rl.t)))] (TN 8)) (fnAt (aR pW 95) []) [.t f.t,.t (cB bB p ca ay op ma mod aA rm az ar width ra)] [] (pk c k)=
  Wt Q f p.lock p.rep rl (fun w=>k (.ok (.t (Z w))) c) (k .exc c):=by
 obtain⟨seg,dat,rp,lock,aX⟩:=p
 induction lock<;>induction rp<;>induction rl<;>rfl'
noncomputable def jU(f:Form)(p:Pre):Option String:=bif p.lock then some "lock" else match p.rep with
  | .no=>some ""
  | .rep=>match f.rl with| .n=>none|_=>some "rep"
  | .iK=>match f.rl with| .b=>some "repne"|_=>none
theorem Ra{f:Form}{p:Pre}{c:aa}{k:Kn}:Wt (isA [.t (Z f.name)]) f p.lock p.rep f.rl (fun w=>k (.ok (.t (Z w))) c) (k .exc c)=k (jM ((jU f p).map Z)) c:=by
 unfold Wt jU
 rw[aK]
 induction p.lock with
 |true=>rfl
 |false=>induction p.rep with
  |no=>rfl
  |rep=>induction f.rl<;>rfl
  |iK=>induction f.rl<;>rfl
theorem yj{fl:Bool}{f:Form}(hf:f∈ab fl)(p:Pre)(bB ca ay op ma mod aA rm az ar width ra:Int):aH 11 941 [f.t,cB bB p ca ay op ma mod aA rm az ar width ra] ((jU f p).map Z):=
 ak VK (aP (by decide) _ ((bf (n' :=9) (args:=[.t (Z f.name)]) trivial (Gx hf) (by decide) rfl).all .aW)) fun c k=>(Mf ..).trans Ra
structure Dec where
 d:Fd
 ops:List Op
 w:String
noncomputable def Ch(name:String)(ops:List T)(w:T):T:= .inst 506 [(st "name",Z name),(st "operands",.tup ops),(st "prefix",w)]
noncomputable def gb(name:String)(ops:List T)(w:T)(n:Int)(f p:T):T:= .inst 787 [(st "instruction",Ch name ops w),(st "length",I n),(st "form",f),(st "prefixes",p)]
noncomputable def Dec.t(x:Dec)(n:Nat):T:=gb x.d.f.name (x.ops.map Op.t) (Z x.w) n x.d.f.t x.d.p.t
noncomputable def uF(l:List Form):jl (Fd×List Op):=bindR (LF l) fun d=>bindR (nB d) fun ops=>iB (d,ops)
noncomputable def fin(d:Fd)(ops:List Op)(n:Nat):Rd Dec:=if 15<n then .fail else bif jT d.f d.p ops then match jU d.f d.p with
 |some w=> .done ⟨d,ops,w⟩ n
 |none=> .fail
 else .fail
noncomputable def aO(l:List Form)(s:List UInt8):Rd Dec:=match uF l s with
 | .done x n=>fin x.1 x.2 n
 | .fail=> .fail
 | .more=> .more
noncomputable abbrev Mg(l:T)(os:List UInt8)(j:Int)(c:aa)(k:Kn)(L:List (Nat×Spec)):aq:=an bD (cU L (TN 8)) (fnAt (aR pW 97) [.int 0]) [.t l,.t (.bytes os),.t (.int j)] [] (pk c k)
theorem Wu(l:T)(os:List UInt8)(j:Int)(c:aa)(k:Kn)(Q1:List V->Bool):Mg l os j c k [(946,cp Q1 .exc)]=bif Q1 [.t l,.t (.bytes os),.t (.int j)]then k .exc c else none:=by rfl'
noncomputable abbrev Ue(l:T)(os:List UInt8)(j:Int)(fr f:T)(Q1 Q2:List V->Bool)(x:aq):aq:=bif Q1 [.t l,.t (.bytes os),.t (.int j)]then bif Q2 [.t f,.t fr,.t (.bytes os)]then x else none else none
theorem Wv(l:T)(os:List UInt8)(j:Int)(fr f:T)(c:aa)(k:Kn)(Q1 Q2:List V->Bool):Mg l os j c k [(946,cp Q1 (.ok (.t (.tup [fr,f])))),(929,cp Q2 .exc)]=Ue l os j fr f Q1 Q2 (k .exc c):=by rfl'
theorem Ww(l:T)(os:List UInt8)(j:Int)(fr f:T)(ops:List T)(e:Int)(r:R)(c:aa)(k:Kn)(Q1 Q2 Q3:List V->Bool):Mg l os j c k [(946,cp Q1 (.ok (.t (.tup [fr,f])))),(929,cp Q2 (.ok (.t (.tup [.lst ops,.int e])))),(934,cp Q3 .exc)]=Ue l os j fr f Q1 Q2 (bif decide (15<e-j)then k .exc c else bif Q3 [.t f,.t fr,.t (.lst ops)]then k .exc c else none):=by rfl'
theorem Wx(l:T)(os:List UInt8)(j:Int)(fr:T)(f:Form)(ops:List T)(e:Int)(r:R)(c:aa)(k:Kn)(Q1 Q2 Q3 Q4:List V->Bool):Mg l os j c k [(946,cp Q1 (.ok (.t (.tup [fr,f.t])))),(929,cp Q2 (.ok (.t (.tup [.lst ops,.int e])))),(934,cp Q3 (.ok (.t .none))),(941,cp Q4 .exc)]=Ue l os j fr f.t Q1 Q2 (bif decide (15<e-j)then k .exc c else bif Q3 [.t f.t,.t fr,.t (.lst ops)]then bif Q4 [.t f.t,.t fr]then k .exc c else none else none):=by rfl'
theorem Wy(l:T)(os:List UInt8)(j:Int)(p:Pre)(bB ca ay op ma mod aA rm az ar width ra:Int)(f:Form)(ops:List T)(hl:ops.length<=2)(e:Int)(w:T)(c:aa)(k:Kn)(Q1 Q2 Q3 Q4:List V->Bool):Mg l os j c k [(946,cp Q1 (.ok (.t (.tup [cB bB p ca ay op ma mod aA rm az ar width ra,f.t])))),(929,cp Q2 (.ok (.t (.tup [.lst ops,.int e])))),(934,cp Q3 (.ok (.t .none))),(941,cp Q4 (.ok (.t w)))]=
  Ue l os j (cB bB p ca ay op ma mod aA rm az ar width ra) f.t Q1 Q2 (bif decide (15<e-j)then k .exc c else bif Q3 [.t f.t,.t (cB bB p ca ay op ma mod aA rm az ar width ra),.t (.lst ops)]then bif Q4 [.t f.t,.t (cB bB p ca ay op ma mod aA rm az ar width ra)]then k (.ok (.t (gb f.name ops w (e-j) f.t p.t))) c else none else none):=by
 rcases two hl with rfl|⟨a,rfl⟩|⟨a,b,rfl⟩<;>rfl'
theorem oK{l:List Form}{p:Pre}{e o:Nat}{m:Option dR}{s:List UInt8}{d:Fd}{n:Nat}(h:fM l p e o m s= .done d n):n=0/\∃f,dg (jR l e o) p e o (gw m) (fL m)=some f/\d=⟨p,e,o,m,f⟩:=by
 unfold fM at h
 cases q:dg (jR l e o) p e o (gw m) (fL m)with
 |none=>rw[q]at h;cases h
 |some f=>rw[q]at h;cases h;exact⟨rfl,f,rfl,rfl⟩
theorem Gy{b:Bool}{s:List UInt8}{m:Option dR}{n:Nat}(h:mR b s= .done m n):n=uz m/\m.isSome=b/\∀x,m=some x->x.Ok/\eg s= .done x n:=by
 unfold mR at h
 induction b with
 |false=>
  rw[if_neg (by decide)]at h
  obtain⟨rfl,rfl⟩:=bW h
  exact⟨rfl,rfl,fun x h=>(by cases h)⟩
 |true=>
  rw[if_pos rfl]at h
  obtain⟨x,i,k,h1,h2,rfl⟩:=cR h
  obtain⟨rfl,rfl⟩:=bW h2
  refine⟨(wh h1).1,rfl,fun y hy=> ?_⟩
  cases hy
  exact⟨LJ h1,h1⟩
theorem yk{s:List UInt8}{h:Pre×Bool×UInt8}{i:Nat}(q:oH s= .done h i):aI Pre.nil s=some (h.1,h.1.cnt)/\dY (s.drop h.1.cnt)=some (eh h.2.1,h.2.2.toNat)/\i=h.1.cnt+1+eh h.2.1:=by
 rw[wg]at q
 cases q1:aI Pre.nil s with
 |none=>rw[q1]at q;cases q
 |some z=>
  rw[q1]at q
  dsimp only at q
  have hc:=(wf _ _ _ _ q1).1.trans (Nat.zero_add _)
  cases q2:dY (s.drop z.2)with
  |none=>rw[q2]at q;cases q
  |some eo=>
   rw[q2]at q
   cases q
   have g:=mr q2
   have he:eh (decide (eo.1=1))=eo.1:=g.1.elim (fun h=>by rw[h];rfl) fun h=>by rw[h];rfl
   have ho:(UInt8.ofNat eo.2).toNat=eo.2:=by rw[UInt8.toNat_ofNat'];exact Nat.mod_eq_of_lt g.2.1
   dsimp only
   rw[he,ho,hc]
   exact⟨rfl,q2,rfl⟩
theorem Rc{ks:List bz}(h:ks.any bz.NW=true):ks.any (fun q=>q.slot.qz)=true:=(List.any_eq_true.mp h).elim fun q h=>List.any_eq_true.mpr ⟨q,h.1,by induction q<;>first|rfl|exact ft h.2⟩
theorem Re{l:List Form}{p:Pre}{e o:Nat}{m:Option dR}{f:Form}(hf:f∈jR l e o)(g2:m.isSome=ct (jR l e o))(g:∀x,m=some x->x.Ok)(h:sD f p e o (gw m) (fL m)=true):Fd.Ok ⟨p,e,o,m,f⟩:=by
 have hM:f.jP=true->∃x,m=some x:=fun hx=>Option.isSome_iff_exists.mp (g2.trans (List.any_eq_true.mpr ⟨f,hf,hx⟩))
 refine⟨hM,g,fun hx=> ?_⟩
 have hx:f.kinds.any bz.NW=true:=hx
 refine(hM (by unfold Form.jP;rw[Rc hx,Bool.or_true,Bool.true_or])).elim fun x ZA=> ?_
 subst ZA
 unfold sD BU at h
 rw[hx]at h
 simp only[Bool.and_eq_true,Bool.not_true,Bool.or_false,decide_eq_true_eq]at h
 have h3:(x.mod:Int)<3:=h.2.2.1
 exact fun(h:x.mod=3)=>absurd (h▸h3) (by decide)
theorem eO{l:List Form}{s:List UInt8}{d:Fd}{n:Nat}(h:LF l s= .done d n):d.f∈l/\d.Ok/\n=d.len/\dg (jR l d.e d.o) d.p d.e d.o (gw d.m) (fL d.m)=some d.f/\ct (jR l d.e d.o)=d.m.isSome/\
  aI Pre.nil s=some (d.p,d.p.cnt)/\dY (s.drop d.p.cnt)=some (d.e,d.o)/\∀m,d.m=some m->eg (s.drop (d.p.cnt+1+d.e))= .done m m.len:=
 eY h fun hd i k z1 z2 z3=>eY z2 fun m i2 k2 y1 y2 y3=>by
  have g:=yk z1
  have g3:=Gy y1
  refine(oK y2).2.elim fun f w=> ?_
  have hf:=List.mem_of_find?_eq_some w.1
  have xz:=List.find?_some w.1
  rw[w.2]
  refine⟨uB l _ _ f hf,Re hf g3.2.1 (fun x hx=>(g3.2.2 x hx).1) xz,?_,w.1,g3.2.1.symm,g.1,g.2.1,fun x hx=> ?_⟩
  ·rw[z3,y3,(oK y2).1,g3.1,g.2.2];rfl
  ·have q:=(g3.2.2 x hx).2
   rw[g.2.2,g3.1,show m=some x from hx]at q
   exact q
theorem gZ{d:Fd}{s:List UInt8}{ops:List Op}{n:Nat}(h:nB d s= .done ops n):n=d.f.ce/\∃im,bo d.f.ce s= .done im d.f.ce/\ops=d.f.kinds.map (bl d im):=by
 obtain⟨im,i,k,h1,h2,rfl⟩:=cR h
 obtain⟨rfl,rfl⟩:=bW h2
 obtain⟨rfl,_,_⟩:=dB h1
 exact⟨rfl,im,h1,rfl⟩
theorem oM(fl:Bool):∀f∈ab fl,f.kinds.length<=2:=by induction fl<;>decide+kernel
section
variable{fl:Bool}{os:List UInt8}{j n:Nat}{d:Fd}{ops:List Op}{r:Option T}
noncomputable abbrev DS(fl:Bool)(os:List UInt8)(j:Nat)(r:Option T):Prop:=aH 18 954 [ag (ab fl),.bytes os,N j] r
noncomputable abbrev Yk(fl:Bool)(os:List UInt8)(j:Nat):List V->Bool:=isA [.t (ag (ab fl)),.t (.bytes os),.t (N j)]
noncomputable abbrev Yl(d:Fd)(os:List UInt8)(fr:T):List V->Bool:=isA [.t d.f.t,.t fr,.t (.bytes os)]
noncomputable abbrev Ym(d:Fd)(ops:List Op)(fr:T):List V->Bool:=isA [.t d.f.t,.t fr,.t (.lst (ops.map Op.t))]
noncomputable abbrev Yn(d:Fd)(fr:T):List V->Bool:=isA [.t d.f.t,.t fr]
theorem sJ{L:List (Nat×Spec)}(hL:∀p∈L,bG 17 p.1 p.2)(h:∀c k,Mg (ag (ab fl)) os j c k L=k (jM r) c):DS fl os j r:=ak VL (aP (by decide) L hL) h
theorem Rf(Mh:(ops.map Op.t).length<=2)(e:Int)(w:T)(c:aa)(k:Kn):Mg (ag (ab fl)) os j c k [(946,cp (Yk fl os j) (.ok (.t (.tup [d.fr j,d.f.t])))),(929,cp (Yl d os (d.fr j)) (.ok (.t (.tup [.lst (ops.map Op.t),.int e])))),(934,cp (Ym d ops (d.fr j)) (.ok (.t .none))),(941,cp (Yn d (d.fr j)) (.ok (.t w)))]=
  bif decide (15<e-j)then k .exc c else k (.ok (.t (gb d.f.name (ops.map Op.t) w (e-j) d.f.t d.p.t))) c:=by
 rw[wp]
 refine(Wy (ag (ab fl)) os j d.p j ((j+d.p.cnt:Nat):Int) d.e d.o ((j+d.p.cnt+1+d.e:Nat):Int) (gw d.m) (fL d.m) (LW d.m) (n7 d.m) (qA d.m) (n8 d.m) ((j+d.len:Nat):Int) d.f (ops.map Op.t) Mh e w c k _ _ _ _).trans (aM.trans (aM.trans ?_))
 rw[aM,aM]
theorem Cj(i1:bG 17 946 (cp (Yk fl os j) (.ok (.t (.tup [d.fr j,d.f.t])))))(i2:bG 17 929 (cp (Yl d os (d.fr j)) (.ok (.t (.tup [.lst (ops.map Op.t),N (j+d.len+n)])))))(i3:bG 17 934 (cp (Ym d ops (d.fr j)) (jM (bif jT d.f d.p ops then some .none else none))))(i4:bG 17 941 (cp (Yn d (d.fr j)) (jM ((jU d.f d.p).map Z))))(Mh:(ops.map Op.t).length<=2):DS fl os j (kO (fin d ops (d.len+n)) fun x n=>x.t n):=by
 have nX:((j+d.len+n:Nat):Int)-(j:Int)=((d.len+n:Nat):Int):=by lia
 have ZB:decide ((15:Int)<((j+d.len+n:Nat):Int)-(j:Int))=decide (15<d.len+n):=by rw[nX];exact decide_eq_decide.mpr Int.ofNat_lt
 unfold fin
 cases q3:jT d.f d.p ops with
 |false=>
  rw[q3]at i3
  refine sJ (i1.all (i2.all (i3.all .aW))) fun c k=>(Ww (ag (ab fl)) os j (d.fr j) d.f.t (ops.map Op.t) ((j+d.len+n:Nat):Int) .exc c k _ _ _).trans (aM.trans (aM.trans ?_))
  rw[aM]
  by_cases DL:15<d.len+n
  ·rw[if_pos DL];exact Bool.cond_self _ _
  ·rw[if_neg DL];exact Bool.cond_self _ _
 |true=>
  rw[q3]at i3
  cases q4:jU d.f d.p with
  |none=>
   rw[q4]at i4
   refine sJ (i1.all (i2.all (i3.all (i4.all .aW)))) fun c k=>(Wx (ag (ab fl)) os j (d.fr j) d.f (ops.map Op.t) ((j+d.len+n:Nat):Int) .exc c k _ _ _ _).trans (aM.trans (aM.trans ?_))
   rw[aM,aM]
   by_cases DL:15<d.len+n
   ·rw[if_pos DL];exact Bool.cond_self _ _
   ·rw[if_neg DL];exact Bool.cond_self _ _
  |some w=>
   rw[q4]at i4
   refine sJ (i1.all (i2.all (i3.all (i4.all .aW)))) fun c k=>(Rf Mh _ _ c k).trans ?_
   rw[ZB,nX]
   by_cases DL:15<d.len+n
   ·rw[if_pos DL];exact cD DL
   ·rw[if_neg DL];exact cN DL
end
theorem sK(fl:Bool)(os:List UInt8)(j:Nat)(hj:j<=os.length):aH 18 954 [ag (ab fl),.bytes os,N j] (kO (aO (ab fl) (os.drop j)) fun x n=>x.t n):=by
 have i1:=bf (n' :=16) (args:=[.t (ag (ab fl)),.t (.bytes os),.t (N j)]) trivial (nx fl os j hj) (by decide) rfl
 unfold aO uF bindR
 cases q1:LF (ab fl) (os.drop j)with
 |done d n=>
  rw[q1]at i1
  have g:=eO q1
  cases g.2.2.1
  have i2:=bf (n' :=16) (args:=[.t d.f.t,.t (d.fr j),.t (.bytes os)]) trivial (Cg fl d g.1 g.2.1 os j) (by decide) rfl
  dsimp only
  rw[List.drop_drop]
  cases q2:nB d (os.drop (j+d.len))with
  |done ops n=>
   rw[q2]at i2
   have hlen:ops.length=d.f.kinds.length:=(gZ q2).2.elim fun im h=>h.2▸List.length_map _
   have hk:=oM fl d.f g.1
   have i3:aH 11 934 [d.f.t,fG d j,.lst (ops.map Op.t)] _:=yi g.1 d.p ops hlen hk j ((j+d.p.cnt:Nat):Int) d.e d.o ((j+d.p.cnt+1+d.e:Nat):Int) (gw d.m) (fL d.m) (LW d.m) (n7 d.m) (qA d.m) (n8 d.m) ((j+d.len:Nat):Int)
   have i4:aH 11 941 [d.f.t,fG d j] _:=yj g.1 d.p j ((j+d.p.cnt:Nat):Int) d.e d.o ((j+d.p.cnt+1+d.e:Nat):Int) (gw d.m) (fL d.m) (LW d.m) (n7 d.m) (qA d.m) (n8 d.m) ((j+d.len:Nat):Int)
   rw[fG,<-wp]at i3 i4
   exact Cj i1 i2 (bf (n' :=16) trivial i3 (by decide) rfl) (bf (n' :=16) trivial i4 (by decide) rfl) (by rw[List.length_map,hlen];exact hk)
  |_=>rw[q2]at i2;exact sJ (i1.all (i2.all .aW)) fun c k=>(Wv ..).trans (aM.trans aM)
 |_=>rw[q1]at i1;exact sJ (i1.all .aW) fun c k=>(Wu ..).trans aM
noncomputable def nE(name:String)(w:T)(ops:List Op):T:= .tup [Z name,w,.tup (ops.map Op.told)]
noncomputable def Dec.told(x:Dec)(n:Nat):T:= .tup [nE x.d.f.name (Z x.w) x.ops,N n]
noncomputable def iC:T->Nat->T
 | .inst _ fs,i=>match fs[i]? with
  |some p=>p.2
  |none=> .none
 |_,_=> .none
noncomputable def Ck:T->T
 | .inst c fs=>iC (.inst c fs) 0
 |_=>Z ""
noncomputable def fa:T->T
 | .inst c fs=>bif Nat.beq c 325 then .tup [iC (.inst c fs) 0,Ck (iC (.inst c fs) 1)]
  else bif Nat.beq c 453 then .tup [iC (.inst c fs) 0,Ck (iC (.inst c fs) 1),Ck (iC (.inst c fs) 2),iC (.inst c fs) 3,iC (.inst c fs) 4,iC (.inst c fs) 5,iC (.inst c fs) 6,iC (.inst c fs) 7]
  else .tup (fs.map (·.2))
 |t=>t
theorem ms(o:Op):fa o.t=o.told:=by
 induction o with
 |mem b i=>induction b with
  |none=>induction i with
   |none=>rfl
   |some r=>induction r<;>rfl
  |some q=>induction i with
   |none=>induction q<;>rfl
   |some r=>induction q<;>induction r<;>rfl
 |_=>rfl
noncomputable def gS(U:T->Bool)(g:T->T):Spec:=fun args c k=>match args with
 |[.t a]=>bif U a then k (.ok (.t (g a))) c else none
 |_=>none
theorem I1{n a:Nat}{U:T->Bool}{g:T->T}(ha:has a=true)(h:∀t,U t=true->aH (n+1) a [t] (some (g t))):bG (n+1) a (gS U g):=gU (eI ha) fun args c k out e=>by
 unfold gS at e
 split at e
 ·exact aE e fun q e1=>(h _ q).gives (Nat.le_refl _) e1
 ·exact nn e
noncomputable def yl(P:T->Prop):T->Bool:=fun t=> @decide (P t) (Classical.propDecidable _)
theorem Cl{P:T->Prop}{t:T}(h:P t):yl P t=true:= @decide_eq_true _ (Classical.propDecidable _) h
theorem Cm{P:T->Prop}{t:T}(h:yl P t=true):P t:= @of_decide_eq_true _ (Classical.propDecidable _) h
noncomputable def Wz:Op->Nat| .aA .. =>315| .gz _=>349| .rel _=>383| .mem .. =>424
noncomputable abbrev Rh:Option (String×List (Str×T))->T|none=> .none|some p=> .inst 562 ((st "name",Z p.1)::p.2)
theorem Cn(b i:Option (String×List (Str×T)))(sc w sz:Int)(sg:String)(c:aa)(k:Kn):an bD (TN 8) (fnAt (lU pW 32 1) []) [.t (kP (Rh b) (Rh i) sc w sz (Z sg))] [] (pk c k)=k (.ok (.t (fa (kP (Rh b) (Rh i) sc w sz (Z sg))))) c:=by
 induction b<;>induction i<;>rfl'
theorem I2(r:Option Rg):∃x,LH r=Rh x:=by
 induction r with
 |none=>exact⟨none,rfl⟩
 |some r=>induction r with
  |gp n=>exact⟨some (Gf .LG n true,_),rfl⟩
  |Qu=>exact⟨some ("rip",_),rfl⟩
theorem Co(s:String)(r:List (Str×T))(c:aa)(k:Kn):an bD (TN 8) (fnAt (lU pW 29 1) []) [.t (B1 (.inst 562 ((st "name",Z s)::r)))] [] (pk c k)=k (.ok (.t (.tup [Z "reg",Z s]))) c:=by rfl'
theorem Gz(o:Op):aH 9 (Wz o) [o.t] (some o.told):=by
 rw[<-ms]
 induction o with
 |aA s m hr=>exact ak Vs (bI 8) fun c k=>Co (Gf s m hr) _ c k
 |gz w=>exact ak Vt (bI 8) fun c k=>by rfl'
 |rel w=>exact ak Vu (bI 8) fun c k=>by rfl'
 |mem b i sc w sz sg=>
  refine ak Vv (bI 8) fun c k=> ?_
  obtain⟨xb,hb⟩:=I2 b
  obtain⟨xi,hi⟩:=I2 i
  show an bD (TN 8) (fnAt (lU pW 32 1) []) [.t (kP (LH b) (LH i) sc w sz sg.t)] [] (pk c k)=k (.ok (.t (fa (kP (LH b) (LH i) sc w sz sg.t)))) c
  rw[hb,hi]
  exact Cn xb xi sc w sz sg.s c k
noncomputable def Mi(a:Nat)(t:T):Prop:=∃o:Op,Wz o=a/\t=o.t
theorem wq(a:Nat)(ha:has a=true):bG 9 a (gS (yl (Mi a)) fa):=I1 ha fun t h=>by
 obtain⟨o,rfl,rfl⟩:=Cm h
 rw[ms]
 exact Gz o
noncomputable def GA(U:Nat->T->Bool)(x:aq):List Op->aq
 |[]=>x
 |o::r=>bif U (Wz o) o.t then GA U x r else none
noncomputable abbrev Ri(U:Nat->T->Bool):List (Nat×Spec):=[(315,gS (U 315) fa),(349,gS (U 349) fa),(383,gS (U 383) fa),(424,gS (U 424) fa)]
theorem Mj(U:Nat->T->Bool)(name w:String)(ops:List Op)(hl:ops.length<=2)(c:aa)(k:Kn):an bD (cU (Ri U) (TN 8)) (fnAt (lU pW 33 1) []) [.t (Ch name (ops.map Op.t) (Z w))] [] (pk c k)=GA U (k (.ok (.t (.tup [Z name,Z w,.tup (ops.map fun o=>fa o.t)]))) c) ops:=by
 rcases two hl with rfl|⟨a,rfl⟩|⟨a,b,rfl⟩
 ·rfl'
 ·induction a<;>rfl'
 ·induction a<;>induction b<;>rfl'
theorem wt(x:aq):∀ops:List Op,GA (fun a=>yl (Mi a)) x ops=x
 |[]=>rfl
 |o::r=>by rw[GA,Cl ⟨o,rfl,rfl⟩,wt x r];rfl
theorem GB(name w:String)(ops:List Op)(hl:ops.length<=2):aH 10 475 [Ch name (ops.map Op.t) (Z w)] (some (nE name (Z w) ops)):=
 ak Vx (aP (by decide) (Ri fun a=>yl (Mi a)) ((wq 315 (by decide+kernel)).all ((wq 349 (by decide+kernel)).all ((wq 383 (by decide+kernel)).all ((wq 424 (by decide+kernel)).all .aW))))) fun c k=>by
  refine(Mj _ name w ops hl c k).trans ?_
  rw[wt]
  show k (.ok (.t (.tup [Z name,Z w,.tup (ops.map fun o=>fa o.t)]))) c=k (.ok (.t (.tup [Z name,Z w,.tup (ops.map Op.told)]))) c
  rw[show(fun o:Op=>fa o.t)=Op.told from funext ms]
theorem Mk(name:String)(ops:List T)(w:T)(n:Int)(f p r:T)(Q:List V->Bool)(c:aa)(k:Kn):an bD (cU [(475,cp Q (.ok (.t r)))] (TN 8)) (fnAt (lU pW 80 1) []) [.t (gb name ops w n f p)] [] (pk c k)=bif Q [.t (Ch name ops w)]then k (.ok (.t (.tup [r,.int n]))) c else none:=by rfl'
theorem wu(x:Dec)(n:Nat)(hl:x.ops.length<=2):aH 11 784 [x.t n] (some (x.told n)):=by
 have i:=bf (n' :=9) (args:=[.t (Ch x.d.f.name (x.ops.map Op.t) (Z x.w))]) trivial (GB x.d.f.name x.w x.ops hl) (by decide) rfl
 exact ak VA (aP (by decide) _ (i.all .aW)) fun c k=>(Mk ..).trans (by rw[aK];rfl)
theorem Ml(l:T)(os:List UInt8)(j:Int)(name:String)(ops:List T)(w:T)(n:Int)(f p r:T)(c:aa)(k:Kn)(Q Q2:List V->Bool):an bD (cU [(954,cp Q (.ok (.t (gb name ops w n f p)))),(784,cp Q2 (.ok (.t r)))] (TN 8)) (fnAt (aR pW 131) []) [.t l,.t (.bytes os),.t (.int j)] [] (pk c k)=
  bif Q [.t l,.t (.bytes os),.t (.int j)]then bif Q2 [.t (gb name ops w n f p)]then k (.ok (.t r)) c else none else none:=by rfl'
theorem Cp(l:T)(os:List UInt8)(j:Int)(c:aa)(k:Kn)(Q:List V->Bool):an bD (cU [(954,cp Q .exc)] (TN 8)) (fnAt (aR pW 131) []) [.t l,.t (.bytes os),.t (.int j)] [] (pk c k)=
  bif Q [.t l,.t (.bytes os),.t (.int j)]then k (.ok (.t .none)) c else none:=by rfl'
theorem Mm(l:T)(os:List UInt8)(j:Int)(t:T)(c:aa)(k:Kn)(Q:List V->Bool):an bD (cU [(954,cp Q (.ok (.t t)))] (TN 8)) (fnAt (aR pW 98) [.int 0]) [.t l,.t (.bytes os),.t (.int j)] [] (pk c k)=
  bif Q [.t l,.t (.bytes os),.t (.int j)]then k (.ok (.t t)) c else none:=by rfl'
theorem Cq(l:T)(os:List UInt8)(j:Int)(c:aa)(k:Kn)(Q:List V->Bool):an bD (cU [(954,cp Q .exc)] (TN 8)) (fnAt (aR pW 98) [.int 0]) [.t l,.t (.bytes os),.t (.int j)] [] (pk c k)=
  bif Q [.t l,.t (.bytes os),.t (.int j)]then k (.ok (.t .none)) c else none:=by rfl'
theorem GC(l:T)(os:List UInt8)(t:T)(c:aa)(k:Kn)(Q:List V->Bool):an bD (cU [(954,cp Q (.ok (.t t)))] (TN 8)) (fnAt (aR pW 98) [.int 0]) [.t l,.t (.bytes os)] [] (pk c k)=
  bif Q [.t l,.t (.bytes os),.t (I 0)]then k (.ok (.t t)) c else none:=by rfl'
theorem wv(l:T)(os:List UInt8)(c:aa)(k:Kn)(Q:List V->Bool):an bD (cU [(954,cp Q .exc)] (TN 8)) (fnAt (aR pW 98) [.int 0]) [.t l,.t (.bytes os)] [] (pk c k)=
  bif Q [.t l,.t (.bytes os),.t (I 0)]then k (.ok (.t .none)) c else none:=by rfl'
noncomputable def lu{α:Type}(r:Rd α)(g:α->Nat->T):T:=match r with
 | .done a n=>g a n
 |_=> .none
theorem sL{d:Fd}{ops:List Op}{n:Nat}{x:Dec}{m:Nat}(h:fin d ops n= .done x m):m=n/\n<=15/\jT d.f d.p ops=true/\∃w,jU d.f d.p=some w/\x=⟨d,ops,w⟩:=by
 unfold fin at h
 by_cases q:15<n
 ·rw[if_pos q]at h;cases h
 ·rw[if_neg q]at h
  cases q1:jT d.f d.p ops with
  |false=>rw[q1]at h;cases h
  |true=>
   rw[q1]at h
   cases q2:jU d.f d.p with
   |none=>rw[q2]at h;cases h
   |some w=>rw[q2]at h;cases h;exact⟨rfl,by exact Nat.le_of_not_lt q,rfl,w,rfl,rfl⟩
theorem eP{l:List Form}{s:List UInt8}{x:Dec}{n:Nat}(h:aO l s= .done x n):n=x.d.len+x.d.f.ce/\n<=15/\LF l s= .done x.d x.d.len/\nB x.d (s.drop x.d.len)= .done x.ops x.d.f.ce/\jT x.d.f x.d.p x.ops=true/\jU x.d.f x.d.p=some x.w:=by
 unfold aO at h
 cases q:uF l s with
 |done z m=>
  rw[q]at h
  have g:=sL h
  refine(cR q).elim fun d' y=>y.elim fun i y=>y.elim fun k y=>(cR y.2.1).elim fun WA w=>w.elim fun i2 w=>w.elim fun k2 w=>g.2.2.2.elim fun wd u=> ?_
  have r:=bW w.2.1
  have hi:=(eO y.1).2.2.1
  have hk:=(gZ w.1).1
  have hm:m=i+(i2+k2):=y.2.2.trans (congrArg (i+·) w.2.2)
  rw[r.2,hi,hk]at hm
  have y1:=y.1
  have w1:=w.1
  rw[hi]at y1 w1
  rw[hk]at w1
  rw[u.2]
  have e1:z.1=d' :=congrArg Prod.fst r.1.symm
  have e2:z.2=WA:=congrArg Prod.snd r.1.symm
  rw[<-e1]at hm y1 w1
  rw[<-e2]at w1
  exact⟨g.1.trans hm,g.1▸g.2.1,y1,w1,g.2.2.1,u.1⟩
 |_=>rw[q]at h;exact nomatch h
theorem qC{fl:Bool}{s:List UInt8}{x:Dec}{n:Nat}(h:aO (ab fl) s= .done x n):x.ops.length<=2:=by
 obtain⟨_,_,h1,h2,_⟩:=eP h
 obtain⟨hf,_⟩:=eO h1
 obtain⟨_,im,_,h3⟩:=gZ h2
 rw[h3,List.length_map]
 exact oM fl _ hf
theorem Cr{k:bz}{b:List UInt8}:(yT k b).cu=false:=by induction k<;>rfl
theorem Cs{d:Fd}{im:List UInt8}{k:bz}(h:(bl d im k).cu=true):k.slot.qz=true:=by
 unfold bl at h
 cases e:k.slot with
 |rm=>rfl
 |gz=>rw[e]at h;exact ft (Cr.symm.trans h)
 |rel=>rw[e]at h;exact ft (Cr.symm.trans h)
 |_=>rw[e]at h;exact ft h
noncomputable def Rj:List bz->Bool|[a,b]=> !(a.slot.qz&&b.slot.qz)|_=>true
theorem Mn:∀fl:Bool,∀f∈ab fl,Rj f.kinds=true:=by intro fl;induction fl<;>decide+kernel
theorem GD{g:bz->Op}(hg:∀k,(g k).cu=true->k.slot.qz=true){ks:List bz}(h:Rj ks=true){a b:Op}(e:ks.map g=[a,b]):(a.cu&&b.cu)=false:=by
 have l:ks.length=2:=(List.length_map _).symm.trans (congrArg List.length e)
 induction ks with
 |nil=>exact absurd l.symm (Nat.succ_ne_zero 1)
 |cons q r=>induction r with
  |nil=>exact absurd (Nat.succ.inj l).symm (Nat.succ_ne_zero 0)
  |cons r s=>induction s with
   |cons _ _=>exact absurd (Nat.succ.inj (Nat.succ.inj l)) (Nat.succ_ne_zero _)
   |nil=>
    rw[<-(List.cons.inj e).1,<-(List.cons.inj (List.cons.inj e).2).1]
    cases ha:(g q).cu with
    |false=>rfl
    |true=>cases hb:(g r).cu with
     |false=>rfl
     |true=>exact ft ((congrArg not (Bool.and_eq_true_iff.mpr ⟨hg q ha,hg r hb⟩)).symm.trans h)
theorem GE{fl:Bool}{s:List UInt8}{x:Dec}{n:Nat}(h:aO (ab fl) s= .done x n):∀a b,x.ops=[a,b]->(a.cu&&b.cu)=false:=fun a b e=>have d:=eP h
 (gZ d.2.2.2.1).2.elim fun im h=>GD (fun _=>Cs) (Mn fl _ (eO d.2.2.1).1) (h.2.symm.trans e)
section
variable(fl:Bool)(os:List UInt8)
theorem uG(j:Nat)(hj:j<=os.length):bG 19 954 (cp (isA [.t (ag (ab fl)),.t (.bytes os),.t (N j)]) (jM (kO (aO (ab fl) (os.drop j)) fun x n=>x.t n))):=
 bf (n' :=18) trivial (sK fl os j hj) (by decide) rfl
theorem uH(j:Nat)(hj:j<=os.length):aH 20 1227 [ag (ab fl),.bytes os,N j] (some (lu (aO (ab fl) (os.drop j)) Dec.told)):=by
 have i:=uG fl os j hj
 have run:∀L r,(∀p∈L,bG 19 p.1 p.2)->(∀c k,an bD (cU L (TN 8)) (fnAt (aR pW 131) []) [.t (ag (ab fl)),.t (.bytes os),.t (.int j)] [] (pk c k)=k (jM r) c)->aH 20 1227 [ag (ab fl),.bytes os,N j] r:=fun L r hL h=>ak PK (aP (by decide) L hL) h
 cases q:aO (ab fl) (os.drop j)with
 |done x n=>
  rw[q]at i
  have i2:=bf (n' :=18) (args:=[.t (x.t n)]) trivial (wu x n (qC q)) (by decide) rfl
  exact run _ _ (i.all (i2.all .aW)) fun c k=>(Ml ..).trans (aM.trans aM)
 |fail=>rw[q]at i;exact run _ _ (i.all .aW) fun c k=>(Cp ..).trans aM
 |more=>rw[q]at i;exact run _ _ (i.all .aW) fun c k=>(Cp ..).trans aM
theorem GF(j:Nat)(hj:j<=os.length):aH 20 962 [ag (ab fl),.bytes os,N j] (some (lu (aO (ab fl) (os.drop j)) Dec.t)):=by
 have i:=uG fl os j hj
 have run:∀L r,(∀p∈L,bG 19 p.1 p.2)->(∀c k,an bD (cU L (TN 8)) (fnAt (aR pW 98) [.int 0]) [.t (ag (ab fl)),.t (.bytes os),.t (.int j)] [] (pk c k)=k (jM r) c)->aH 20 962 [ag (ab fl),.bytes os,N j] r:=fun L r hL h=>ak PE (aP (by decide) L hL) h
 cases q:aO (ab fl) (os.drop j)with
 |done x n=>
  rw[q]at i
  exact run _ _ (i.all .aW) fun c k=>(Mm ..).trans aM
 |fail=>rw[q]at i;exact run _ _ (i.all .aW) fun c k=>(Cq ..).trans aM
 |more=>rw[q]at i;exact run _ _ (i.all .aW) fun c k=>(Cq ..).trans aM
theorem Ct:aH 20 962 [ag (ab fl),.bytes os] (some (lu (aO (ab fl) os) Dec.t)):=by
 have i:=uG fl os 0 (Nat.zero_le _)
 have run:∀L r,(∀p∈L,bG 19 p.1 p.2)->(∀c k,an bD (cU L (TN 8)) (fnAt (aR pW 98) [.int 0]) [.t (ag (ab fl)),.t (.bytes os)] [] (pk c k)=k (jM r) c)->aH 20 962 [ag (ab fl),.bytes os] r:=fun L r hL h=>ak PE (aP (by decide) L hL) h
 rw[List.drop_zero]at i
 cases q:aO (ab fl) os with
 |done x n=>
  rw[q]at i
  exact run _ _ (i.all .aW) fun c k=>(GC ..).trans aM
 |fail=>rw[q]at i;exact run _ _ (i.all .aW) fun c k=>(wv ..).trans aM
 |more=>rw[q]at i;exact run _ _ (i.all .aW) fun c k=>(wv ..).trans aM
theorem Mq(l:T)(os:List UInt8)(name:String)(ops:List T)(w:T)(n:Int)(f p:T)(c:aa)(k:Kn)(Q:List V->Bool):an bD (cU [(962,cp Q (.ok (.t (gb name ops w n f p))))] (TN 8)) (fnAt (aR pW 99) []) [.t l,.t (.bytes os)] [] (pk c k)=
  bif Q [.t l,.t (.bytes os)]then k (.ok (.t (B (decide (n=os.length))))) c else none:=by rfl'
theorem ww(l:T)(os:List UInt8)(c:aa)(k:Kn)(Q:List V->Bool):an bD (cU [(962,cp Q (.ok (.t .none)))] (TN 8)) (fnAt (aR pW 99) []) [.t l,.t (.bytes os)] [] (pk c k)=
  bif Q [.t l,.t (.bytes os)]then k (.ok (.t (B false))) c else none:=by rfl'
noncomputable def DM(l:List Form)(os:List UInt8):Bool:=match aO l os with
 | .done _ n=>decide (n=os.length)
 |_=>false
theorem GG:aH 21 969 [ag (ab fl),.bytes os] (some (B (DM (ab fl) os))):=by
 have i:=bf (n' :=19) (args:=[.t (ag (ab fl)),.t (.bytes os)]) trivial (Ct fl os) (by decide) rfl
 have run:∀L r,(∀p∈L,bG 20 p.1 p.2)->(∀c k,an bD (cU L (TN 8)) (fnAt (aR pW 99) []) [.t (ag (ab fl)),.t (.bytes os)] [] (pk c k)=k (jM r) c)->aH 21 969 [ag (ab fl),.bytes os] r:=fun L r hL h=>ak VM (aP (by decide) L hL) h
 unfold DM
 cases q:aO (ab fl) os with
 |done x n=>
  rw[q]at i
  have e:decide ((n:Int)=os.length)=decide (n=os.length):=by
   by_cases h:n=os.length
   ·rw[decide_eq_true h,decide_eq_true (by exact congrArg _ h)]
   ·rw[decide_eq_false h,decide_eq_false (by exact fun e=>h (Int.ofNat.inj e))]
  exact run _ _ (i.all .aW) fun c k=>(Mq ..).trans (by rw[aK,e];rfl)
 |fail=>rw[q]at i;exact run _ _ (i.all .aW) fun c k=>(ww ..).trans aM
 |more=>rw[q]at i;exact run _ _ (i.all .aW) fun c k=>(ww ..).trans aM
end
noncomputable def N7:Fn:=fnAt (aR pW 100) []
noncomputable def Cu:Stmt:=fu (fB (aR pW 100)) 1
noncomputable def uI(l:T)(os:List UInt8)(j:Int):Option T->Loc
 |none=>[(st "iset",.t l),(st "octets",.t (.bytes os)),(st "found",.loc 0),(st "at",.t (.int j))]
 |some v=>[(st "iset",.t l),(st "octets",.t (.bytes os)),(st "found",.loc 0),(st "at",.t (.int j)),(st "one",.t v)]
noncomputable abbrev wx(F:Spec):=cx (cU [(962,F)] (TN 8)) N7
theorem Cv(F:Spec)(l:T)(os:List UInt8)(c:aa)(k:Kn):an bD (cU [(962,F)] (TN 8)) N7 [.t l,.t (.bytes os)] [] (pk c k)=
  dz (wx F) 37 (ah (wx F) 37) (ur Cu) (lO Cu) turns (uI l os 0 none) [.lst []] (iI (wx F) 38 (N7.body.drop 2) (KK c k)):=by rfl'
theorem qD(F:Spec)(l:T)(os:List UInt8)(j:Int)(t:Option T)(c:aa)(k:Bool->aa->aq)(kx:Kx):aB (wx F) 37 (ur Cu) (uI l os j t) c k kx=k (decide (j<os.length)) c:=by
 induction t<;>rfl'
theorem wy(F:Spec)(l:T)(os:List UInt8)(j:Int)(t:Option T)(c:aa)(v:T)(k:Ko)(h:F [.t l,.t (.bytes os),.t (.int j)] c=fun k=>k (.ok (.t v)) c):ah (wx F) 37 (lO Cu) (uI l os j t) c k=ah (wx F) 36 ((lO Cu).drop 1) (uI l os j (some v)) c k:=by
 have e:ah (wx F) 37 (lO Cu) (uI l os j t) c k=F [.t l,.t (.bytes os),.t (.int j)] c (fun r c=>match r with
  | .exc=>k .exc (uI l os j t) c
  | .ok v=>match fv N7.scope (uI l os j t) (st "one") v with
   |some l' =>ah (wx F) 36 ((lO Cu).drop 1) l' c k
   |none=>none):=by induction t<;>rfl'
 rw[e,h]
 induction t<;>rfl
theorem GH(F:Spec)(l:T)(os:List UInt8)(j:Int)(c:aa)(k:Ko):ah (wx F) 36 ((lO Cu).drop 1) (uI l os j (some .none)) c k=
  bif decide (0<=j)&&decide (j<100)then bif decide ((st "at ").cps.size+(dD j.toNat).cps.size<=big)then k .exc (uI l os j (some .none)) c else none else none:=by rfl'
theorem GI(F:Spec)(l:T)(os:List UInt8)(j:Int)(name:String)(ops:List T)(w:T)(n:Int)(f p:T)(xs:List V)(k:Ko):ah (wx F) 36 ((lO Cu).drop 1) (uI l os j (some (gb name ops w n f p))) [.lst xs] k=
  bif decide (xs.length<big)then k .next (uI l os (j+n) (some (gb name ops w n f p))) [.lst (xs++[.t (gb name ops w n f p)])]else none:=by rfl'
noncomputable def Rk(l:T)(os:List UInt8)(g:Nat->T):Spec:=fun args c k=>ob (iw args) fun ts=>t3 ts fun a b y=>ob (iO y) fun j=>bif x5 (a=l/\b= .bytes os)&&decide (0<=j)&&decide (j<=os.length)then k (.ok (.t (g j.toNat))) c else none
theorem Cw(l:T)(os:List UInt8)(g:Nat->T)(j:Nat)(hj:j<=os.length)(c:aa):Rk l os g [.t l,.t (.bytes os),.t (.int j)] c=fun k=>k (.ok (.t (g j))) c:=by
 funext k
 show(bif x5 (l=l/\T.bytes os= .bytes os)&&decide (0<=(j:Int))&&decide ((j:Int)<=os.length)then k (.ok (.t (g (j:Int).toNat))) c else none)=_
 rw[nh ⟨rfl,rfl⟩,decide_eq_true (show(0:Int)<=j from Int.natCast_nonneg j),decide_eq_true (show(j:Int)<=os.length from Int.ofNat_le.mpr hj),Int.toNat_natCast]
 rfl
theorem Mr(fl:Bool)(os:List UInt8):bG 20 962 (Rk (ag (ab fl)) os fun j=>lu (aO (ab fl) (os.drop j)) Dec.t):=gU (eI (by decide+kernel)) fun args c k out e=>ae e fun ts e0 e=>IN e fun a b y e1 e=>ae e fun j e2 e=>aE e fun q e9=>by
 have q:=Bool.and_eq_true_iff.mp q
 have r:=Bool.and_eq_true_iff.mp q.1
 have s:=db r.1
 rw[jO e0,e1,cn e2,s.1,s.2]
 refine(Int.eq_ofNat_of_zero_le (of_decide_eq_true r.2)).elim fun m em=> ?_
 rw[em]at e9⊢
 exact(GF fl os m (Int.ofNat_le.mp (em▸of_decide_eq_true q.2))).gives (by decide) e9
section
variable{l:T}{os:List UInt8}{g:Nat->T}{m j:Nat}{t:Option T}{k:Ko}
noncomputable abbrev I3(l:T)(os:List UInt8)(g:Nat->T)(m:Nat)(j:Nat)(t:Option T)(xs:List V)(k:Ko):aq:=dz (wx (Rk l os g)) 37 (ah (wx (Rk l os g)) 37) (ur Cu) (lO Cu) m (uI l os j t) [.lst xs] k
theorem uJ{xs:List V}(hj:j=os.length):I3 l os g (m+1) j t xs k=k .next (uI l os j t) [.lst xs]:=by
 unfold I3
 rw[eJ,qD,cN (by lia)]
theorem Cy{xs:List V}(hj:j<os.length)(ZC:j<100)(hg:g j= .none):I3 l os g (m+1) j t xs k=k .exc (uI l os j (some .none)) [.lst xs]:=by
 unfold I3
 rw[eJ,qD,cD (by exact Int.ofNat_lt.mpr hj),wy _ l os j t _ .none _ (by rw[Cw l os g j (by exact Nat.le_of_lt hj),hg]),GH]
 have e1:(decide (0<=(j:Int))&&decide ((j:Int)<100))=true:=by simp only[Bool.and_eq_true,decide_eq_true_eq];omega
 have e2:(st "at ").cps.size+(dD (j:Int).toNat).cps.size<=big:=by
  have:(dD (j:Int).toNat).cps.size<=2:=by unfold dD;split<;>first|(show 1<=2;exact Nat.le_add_left _ _)|(show 2<=2;exact Nat.le_refl _)
  have h3:(st "at ").cps.size=3:=by decide+kernel
  rw[h3];unfold big;lia
 rw[e1,cond_true,cD e2]
 rfl
theorem mt{xs:List V}(hj:j<os.length){name:String}{ops:List T}{w:T}{n:Nat}{f p:T}(hg:g j=gb name ops w n f p)(hx:xs.length<big):I3 l os g (m+1) j t xs k=I3 l os g m (j+n) (some (gb name ops w n f p)) (xs++[.t (gb name ops w n f p)]) k:=by
 unfold I3
 rw[eJ,qD,cD (by exact Int.ofNat_lt.mpr hj),wy _ l os j t _ (gb name ops w n f p) _ (by rw[Cw l os g j (by exact Nat.le_of_lt hj),hg]),GI,cD hx]
 rfl
end
theorem uK(F:Spec)(l:T)(os:List UInt8)(j:Int)(t:Option T)(xs:List T)(hx:xs.length<=2)(c:aa)(k:Kn):iI (wx F) 38 (N7.body.drop 2) (KK c k) .next (uI l os j t) [.lst (xs.map .t)]=k (.ok (.t (.lst xs))) c:=by
 rcases two hx with rfl|⟨a,rfl⟩|⟨a,b,rfl⟩<;>induction t<;>rfl'
section
variable(fl:Bool)(os:List UInt8)
theorem nF{r:Option T}(h:∀c k,I3 (ag (ab fl)) os (fun j=>lu (aO (ab fl) (os.drop j)) Dec.t) turns 0 none [] (iI (wx (Rk (ag (ab fl)) os fun j=>lu (aO (ab fl) (os.drop j)) Dec.t)) 38 (N7.body.drop 2) (KK c k))=k (jM r) c):aH 21 976 [ag (ab fl),.bytes os] r:=
 ak VN (aP (by decide) _ ((Mr fl os).all .aW)) fun c k=>(Cv ..).trans (h c k)
theorem WB(h:os=[]):aH 21 976 [ag (ab fl),.bytes os] (some (.lst [])):=nF fl os fun c k=>by
 rw[show turns=23+1 from rfl,uJ (by subst h;rfl)]
 exact uK _ _ os _ none [] (by decide) c k
theorem Rn{x:Dec}{n:Nat}(h:aO (ab fl) os= .done x n)(hn:1<=n)(he:n=os.length):aH 21 976 [ag (ab fl),.bytes os] (some (.lst [x.t n])):=nF fl os fun c k=>by
 rw[show turns=22+1+1 from rfl,mt (by exact Nat.le_trans hn (Nat.le_of_eq he)) (show lu (aO (ab fl) (os.drop 0)) Dec.t=x.t n by rw[List.drop_zero,h];rfl) (by decide),uJ (by lia)]
 exact uK _ _ os _ _ [x.t n] (show 1<=2 by decide) c k
theorem WC{x y:Dec}{n m:Nat}(h:aO (ab fl) os= .done x n)(hn:1<=n)(h2:aO (ab fl) (os.drop n)= .done y m)(hm:1<=m)(he:n+m=os.length):aH 21 976 [ag (ab fl),.bytes os] (some (.lst [x.t n,y.t m])):=nF fl os fun c k=>by
 rw[show turns=21+1+1+1 from rfl,mt (by lia) (show lu (aO (ab fl) (os.drop 0)) Dec.t=x.t n by rw[List.drop_zero,h];rfl) (by decide)]
 refine(mt (xs:=[V.t (x.t n)]) (m:=21+1) (j:=0+n) (by lia) (show lu (aO (ab fl) (os.drop (0+n))) Dec.t=y.t m by rw[Nat.zero_add,h2];rfl) (show 1<big by decide)).trans ?_
 rw[uJ (by lia)]
 exact uK _ _ os _ _ [x.t n,y.t m] (show 2<=2 by decide) c k
noncomputable def dC{α:Type}(r:Rd α):Prop:=∀x n,r≠.done x n
theorem g0{α:Type}{r:Rd α}(h:dC r)(g:α->Nat->T):lu r g= .none:=by
 induction r with
 |done x n=>exact absurd rfl (h x n)
 |fail=>rfl
 |more=>rfl
theorem WD(h:dC (aO (ab fl) os))(hn:os≠[]):aH 21 976 [ag (ab fl),.bytes os] none:=nF fl os fun c k=>by
 have:0<os.length:=List.length_pos_iff.mpr hn
 rw[show turns=23+1 from rfl,Cy this (by decide) (by rw[List.drop_zero];exact g0 h _)]
 rfl
theorem WE{x:Dec}{n:Nat}(h:aO (ab fl) os= .done x n)(hl:n<os.length)(hn:1<=n)(ZD:n<=15)(h2:dC (aO (ab fl) (os.drop n))):aH 21 976 [ag (ab fl),.bytes os] none:=nF fl os fun c k=>by
 rw[show turns=22+1+1 from rfl,mt (by exact Nat.lt_trans hn hl) (show lu (aO (ab fl) (os.drop 0)) Dec.t=x.t n by rw[List.drop_zero,h];rfl) (by decide),Cy (by omega) (by lia) (by rw[Nat.zero_add];exact g0 h2 _)]
 rfl
end
theorem GJ(l:List Form)(p:Pre)(e o:Nat)(m:Option dR):bU (fM l p e o m):=by
 unfold fM
 cases dg (jR l e o) p e o (gw m) (fL m)with
 |none=>exact FM
 |some f=>exact eM _
theorem Ro(b:Bool):bU (mR b):=by
 unfold mR
 split
 ·exact cq BJ fun m=>eM _
 ·exact eM _
theorem wz(l:List Form):bU (uF l):=cq (cq FO fun h=>cq (Ro _) fun m=>GJ _ _ _ _ _) fun d=>cq (cq (vW _) fun im=>eM _) fun ops=>eM _
theorem wA{l:List Form}{s:List UInt8}{x:Dec}{n:Nat}(h:aO l s= .done x n):∃z,uF l s= .done z n/\fin z.1 z.2 n= .done x n:=by
 unfold aO at h
 cases q:uF l s with
 |fail=>rw[q]at h;cases h
 |more=>rw[q]at h;cases h
 |done z m=>
  rw[q]at h
  have h:fin z.1 z.2 m= .done x n:=h
  obtain⟨rfl,_⟩:=sL h
  exact⟨z,rfl,h⟩
theorem Ms{l:List Form}{s:List UInt8}{z:Fd×List Op}{x:Dec}{n:Nat}(h:uF l s= .done z n)(h2:fin z.1 z.2 n= .done x n):aO l s= .done x n:=by
 unfold aO;rw[h];exact h2
theorem eQ{l:List Form}{s:List UInt8}{x:Dec}{n:Nat}(h:aO l s= .done x n)(t:List UInt8):aO l (s.take n++t)= .done x n:=by
 obtain⟨z,h1,h2⟩:=wA h
 exact Ms (((wz l).dn _ _ _ h1).2 t) h2
theorem kU{l:List Form}{s:List UInt8}{x:Dec}{n:Nat}(h:aO l s= .done x n):1<=n/\n<=s.length/\n<=15:=by
 obtain⟨h1,h2,_⟩:=eP h
 have h5:x.d.len=x.d.p.cnt+1+x.d.e+uz x.d.m:=rfl
 obtain⟨z,h3,_⟩:=wA h
 exact⟨by lia,((wz l).dn _ _ _ h3).1,h2⟩
theorem mu{l:List Form}{s:List UInt8}{x:Dec}{n:Nat}(h:aO l s= .done x n)(t:List UInt8):aO l (s++t)= .done x n:=by
 have:=eQ h (s.drop n++t)
 rwa [<-List.append_assoc,List.take_append_drop]at this
theorem GK{l:List Form}{s:List UInt8}(h:dC (aO l s))(e:Nat):dC (aO l (s.take e)):=fun x n q=>by
 have:=mu q (s.drop e)
 rw[List.take_append_drop]at this
 exact h x n this
theorem kV{l:List Form}{s:List UInt8}{x:Dec}{n:Nat}(h:aO l s= .done x n){e:Nat}(he:e<n):dC (aO l (s.take e)):=fun y m q=>by
 have:=mu q (s.drop e)
 rw[List.take_append_drop,h]at this
 cases this
 have:=(kU q).2.1
 rw[List.length_take]at this
 omega
theorem Cz{l:List Form}{s:List UInt8}(h:dC (aO l s))(hs:15<=s.length)(t:List UInt8):dC (aO l (s++t)):=fun x n q=>by
 have ZD:=(kU q).2.2
 have:=eQ q (s.drop n)
 rw[List.take_append_of_le_length (by exact Nat.le_trans (by assumption) (by assumption)),List.take_append_drop]at this
 exact h x n this
theorem Mt(l:T)(os:List UInt8)(xs:List (String×List T×T×Int×T×T))(hx:xs.length<=2)(c:aa)(k:Kn)(Q:List V->Bool):an bD (cU [(976,cp Q (.ok (.t (.lst (xs.map fun x=>gb x.1 x.2.1 x.2.2.1 x.2.2.2.1 x.2.2.2.2.1 x.2.2.2.2.2)))))] (TN 8)) (fnAt (aR pW 101) []) [.t l,.t (.bytes os)] [] (pk c k)=
  bif Q [.t l,.t (.bytes os)]then k (.ok (.t (.lst (xs.map fun x=>I x.2.2.2.1)))) c else none:=by
 rcases two hx with rfl|⟨a,rfl⟩|⟨a,b,rfl⟩<;>rfl'
theorem CA{fl:Bool}{os:List UInt8}{xs:List (Dec×Nat)}(hx:xs.length<=2)(h:aH 21 976 [ag (ab fl),.bytes os] (some (.lst (xs.map fun x=>x.1.t x.2)))):aH 22 981 [ag (ab fl),.bytes os] (some (.lst (xs.map fun x=>N x.2))):=by
 have i:=bf (n' :=20) (args:=[.t (ag (ab fl)),.t (.bytes os)]) trivial h (by decide) rfl
 refine ak VO (aP (by decide) _ (i.all .aW)) fun c k=> ?_
 have:=Mt (ag (ab fl)) os (xs.map fun x=>(x.1.d.f.name,x.1.ops.map Op.t,Z x.1.w,(x.2:Int),x.1.d.f.t,x.1.d.p.t)) (by rw[List.length_map];exact hx) c k (isA [.t (ag (ab fl)),.t (.bytes os)])
 rw[List.map_map,List.map_map,aK]at this
 exact this
noncomputable abbrev dy(x:Cx)(n:Nat)(b:List Stmt)(k:Ko):Ko:=fun o l c=>match o with
 | .next=>ah x n b l c k
 |o=>k o l c
theorem aj(x:Cx)(n:Nat)(b:List Stmt)(k:Ko)(l:Loc)(c:aa):dy x n b k .next l c=ah x n b l c k:=rfl
theorem af(x:Cx)(n:Nat)(s:Stmt)(ss:List Stmt)(l:Loc)(c:aa)(k:Ko):ah x (n+1) (s::ss) l c k=aD x n s l c (dy x n ss k):=rfl
theorem oN(x:Cx)(n:Nat)(b:List Stmt)(k:Ko):∀(a:List Stmt) (l:Loc) (c:aa),ah x (n+1+a.length) (a++b) l c k=ah x (n+1+a.length) a l c (dy x (n+1) b k)
 |[],l,c=>rfl
 |s::a,l,c=>by
  show aD x (n+1+a.length) s l c (dy x (n+1+a.length) (a++b) k)=aD x (n+1+a.length) s l c (dy x (n+1+a.length) a (dy x (n+1) b k))
  congr 1
  funext o l c
  induction o with
  |next=>exact oN x n b k a l c
  |_=>rfl
theorem mv{S:Tab}{f:Fn}{args:List V}{l:Loc}{c:aa}{k:Kn}(h:bindG f.params args (f.dflt.map .t)=some l):an bD S f args [] (pk c k)=ah (cx S f) 40 f.body l [] (KK c k):=by
 unfold an
 rw[h]
 try rfl
theorem CB(x:Cx)(n:Nat)(k:Ko)(b:List Stmt)(i:Nat)(hi:(b.take i).length=i)(l:Loc)(c:aa):ah x (n+1+i) b l c k=ah x (n+1+i) (b.take i) l c (dy x (n+1) (b.drop i) k):=by
 have:=oN x n (b.drop i) k (b.take i) l c
 rwa [List.take_append_drop,hi]at this
theorem jV(x:Cx)(n:Nat)(tg it:Expr)(body:List Stmt)(p:Pos)(xs:List T)(l:Loc)(c c' :aa)(k:Ko)(h:∀K kx,dQ x n it l c K kx=K false xs c'):aD x (n+1) (.For tg it body [] p) l c k=bM x.scope (ah x n) tg body xs l c' k:=by
 show dQ x n it l c (fun pr xs c=>bif !(pr&& !isTup tg)then bM x.scope (ah x n) tg body xs l c k else none) (fun c=>k .exc l c)=_
 rw[h];rfl
noncomputable def CC:Fn:=fnAt (aR pW 102) [.int 0]
noncomputable def wB:Stmt:=fu (fB (aR pW 102)) 7
noncomputable abbrev Jz(L:List (Nat×Spec)):=cx (cU L (TN 8)) CC
noncomputable def mw:List String:=["prefixes","opcode","modrm","sib","disp","imm",""]
structure Bd where
 b0:Int
 b1:Int
 b2:Int
 b3:Int
 b4:Int
 b5:Int
 b6:Int
noncomputable def Bd.l(b:Bd):List Int:=[b.b0,b.b1,b.b2,b.b3,b.b4,b.b5,b.b6]
noncomputable def wC(s:String)(i:Int):T:= .tup [Z s,.int i]
noncomputable def Bd.c(b:Bd):List Cell:=[.lst [.t (wC "prefixes" b.b0),.t (wC "opcode" b.b1),.t (wC "modrm" b.b2),.t (wC "sib" b.b3)],.lst [.t (wC "disp" b.b4),.t (wC "imm" b.b5),.t (wC "" b.b6)],
 .lst [.t (wC "prefixes" b.b0),.t (wC "opcode" b.b1),.t (wC "modrm" b.b2),.t (wC "sib" b.b3),.t (wC "disp" b.b4),.t (wC "imm" b.b5),.t (wC "" b.b6)]]
noncomputable def I4(l:T)(os:List UInt8)(b:Bd)(fr f:T)(n:Int):Option (Int×List UInt8)->Loc
 |none=>[(st "iset",.t l),(st "octets",.t (.bytes os)),(st "at",.t (I 0)),(st "length",.t (.int n)),(st "frame",.t fr),(st "form",.t f),(st "modrm_end",.t (.int b.b3)),(st "sib_end",.t (.int b.b4)),(st "bounds",.loc 2),(st "found",.loc 3)]
 |some (i,p)=>[(st "iset",.t l),(st "octets",.t (.bytes os)),(st "at",.t (I 0)),(st "length",.t (.int n)),(st "frame",.t fr),(st "form",.t f),(st "modrm_end",.t (.int b.b3)),(st "sib_end",.t (.int b.b4)),(st "bounds",.loc 2),(st "found",.loc 3),(st "spot",.t (.int i)),(st "part",.t (.bytes p))]
noncomputable abbrev dT(os:List UInt8)(b:Bd)(i:Nat):List UInt8:=a8 os (some (b.l.getD i 0)) (some (b.l.getD (i+1) 0))
theorem GL(L:List (Nat×Spec))(l:T)(os:List UInt8)(b:Bd)(fr f:T)(n:Int)(t:Option (Int×List UInt8))(rest:List T)(xs:List V)(k:Ko):
  (List.range 6).map (fun i=>bM CC.scope (ah (Jz L) 31) (a7 wB) (aV wB) (N i::rest) (I4 l os b fr f n t) (b.c++[.lst xs]) k)=
  (List.range 6).map (fun i=>bif !(dT os b i==[])then bif decide (xs.length<big)then bM CC.scope (ah (Jz L) 31) (a7 wB) (aV wB) rest (I4 l os b fr f n (some (i,dT os b i))) (b.c++[.lst (xs++[.t (.tup [Z (mw.getD i ""),.bytes (dT os b i)])])]) k else none
   else bM CC.scope (ah (Jz L) 31) (a7 wB) (aV wB) rest (I4 l os b fr f n (some (i,dT os b i))) (b.c++[.lst xs]) k):=by
 induction t<;>rfl'
noncomputable abbrev WF(l:T)(os:List UInt8)(f:T)(Q1 Q2 Q3:List V->Bool)(x:aq):aq:=bif Q1 [.t l,.t (.bytes os),.t (I 0)]then bif Q2 [.t l,.t (.bytes os),.t (I 0)]then bif Q3 [.t f]then x else none else none else none
noncomputable def Rp:Expr:=match wB with| .For _ it _ _ _=>it|_=>dk
noncomputable def ZE:Pos:=match wB with| .For _ _ _ _ p=>p|_=>⟨0,0,0,0⟩
theorem Mu:wB= .For (a7 wB) Rp (aV wB) [] ZE:=by rfl'
theorem Mv(L:List (Nat×Spec))(l:T)(os:List UInt8)(b:Bd)(fr f:T)(n:Int)(K:Bool->List T->aa->aq)(kx:Kx):dQ (Jz L) 31 Rp (I4 l os b fr f n none) (b.c++[.lst []]) K kx=K false ([0,1,2,3,4,5].map fun i:Nat=>N i) (b.c++[.lst []]):=by rfl'
theorem Mw(l:T)(os:List UInt8)(name:String)(ops:List T)(w:T)(n:Int)(f pp:T)(fo:Form)(p:Pre)(bB ca ay op ma mod aA rm az ar width ra:Int)(hm:Bool)(k:Ko)(Q1 Q2 Q3:List V->Bool):
  ah (Jz [(954,cp Q1 (.ok (.t (gb name ops w n f pp)))),(946,cp Q2 (.ok (.t (.tup [cB bB p ca ay op ma mod aA rm az ar width ra,fo.t])))),(210,cp Q3 (.ok (.t (B hm))))]) 40 (CC.body.take 7) [(st "iset",.t l),(st "octets",.t (.bytes os)),(st "at",.t (I 0))] [] k=
  WF l os fo.t Q1 Q2 Q3 (k .next (I4 l os ⟨0,ca,ma,ma+(bif hm then 1 else 0),ma+(bif hm then 1 else 0)+(bif decide (0<=az)then 1 else 0),ra,0+n⟩ (cB bB p ca ay op ma mod aA rm az ar width ra) fo.t n none) (Bd.c ⟨0,ca,ma,ma+(bif hm then 1 else 0),ma+(bif hm then 1 else 0)+(bif decide (0<=az)then 1 else 0),ra,0+n⟩++[.lst []])):=by rfl'
noncomputable def fk(os:List UInt8)(b:Bd)(i:Nat):List T:=bif !(dT os b i==[])then[.tup [Z (mw.getD i ""),.bytes (dT os b i)]]else[]
theorem qE(L:List (Nat×Spec))(l:T)(os:List UInt8)(b:Bd)(fr f:T)(n:Int)(k:Ko):∀(is:List Nat) (t:Option (Int×List UInt8)) (xs:List T),(∀i∈is,i<6)->xs.length+is.length<=100->
  ∃t',bM CC.scope (ah (Jz L) 31) (a7 wB) (aV wB) (is.map fun i:Nat=>N i) (I4 l os b fr f n t) (b.c++[.lst (xs.map .t)]) k=k .next (I4 l os b fr f n t') (b.c++[.lst ((xs++is.flatMap (fk os b)).map .t)])
 |[],t,xs,_,_=>⟨t,by rw[List.flatMap_nil,List.append_nil];rfl⟩
 |i::is,t,xs,hi,hx=>by
  rw[List.length_cons]at hx
  have h:=ef (GL L l os b fr f n t (is.map fun i:Nat=>N i) (xs.map .t) k) (List.mem_range.mpr (hi i List.mem_cons_self))
  rw[List.map_cons,h]
  have hb:(xs.map V.t).length<big:=by rw[List.length_map];unfold big;omega
  rw[cD hb,List.flatMap_cons]
  cases q: !(dT os b i==[])with
  |true=>
   have e:fk os b i=[.tup [Z (mw.getD i ""),.bytes (dT os b i)]]:=by unfold fk;rw[q];rfl
   obtain⟨t',ht⟩:=qE L l os b fr f n k is (some (i,dT os b i)) (xs++fk os b i) (fun j hj=>hi j (List.mem_cons_of_mem _ hj)) (by rw[e,List.length_append];show xs.length+1+is.length<=100;lia)
   refine⟨t',?_⟩
   rw[<-List.append_assoc,<-ht,e,List.map_append]
   rfl
  |false=>
   have e:fk os b i=[]:=by unfold fk;rw[q];rfl
   obtain⟨t',ht⟩:=qE L l os b fr f n k is (some (i,dT os b i)) xs (fun j hj=>hi j (List.mem_cons_of_mem _ hj)) (by exact Nat.le_of_lt hx)
   exact⟨t',by rw[e,List.nil_append,<-ht];rfl⟩
theorem Mx(L:List (Nat×Spec))(l:T)(os:List UInt8)(b:Bd)(fr f:T)(n:Int)(t:Option (Int×List UInt8))(xs:List V)(c:aa)(k:Kn):dy (Jz L) 32 (CC.body.drop 8) (KK c k) .next (I4 l os b fr f n t) (b.c++[.lst xs])=pk c k (.ok (.loc 3)) (b.c++[.lst xs]):=by
 induction t<;>rfl'
theorem GM(xs:List T)(c0 c1 c2:Cell):fr aN [c0,c1,c2,.lst (xs.map .t)] (.loc 3)=some (.lst xs,[c0,c1,c2,.cg (.lst xs)]):=by
 show ob (iF (fr 11) [c0,c1,c2,.lst (xs.map .t)] (xs.map .t)) (fun p=>cW p.2 3 (.lst p.1))=_
 rw[ll]
 rfl
theorem My(l:T)(os:List UInt8)(name:String)(ops:List T)(w:T)(n:Int)(f pp:T)(fo:Form)(p:Pre)(bB ca ay op ma mod aA rm az ar width ra:Int)(hm:Bool)(c:aa)(k:Kn)(Q1 Q2 Q3:List V->Bool):
  an bD (cU [(954,cp Q1 (.ok (.t (gb name ops w n f pp)))),(946,cp Q2 (.ok (.t (.tup [cB bB p ca ay op ma mod aA rm az ar width ra,fo.t])))),(210,cp Q3 (.ok (.t (B hm))))] (TN 8)) CC [.t l,.t (.bytes os),.t (I 0)] [] (pk c k)=
  WF l os fo.t Q1 Q2 Q3 (k (.ok (.t (.lst ([0,1,2,3,4,5].flatMap (fk os ⟨0,ca,ma,ma+(bif hm then 1 else 0),ma+(bif hm then 1 else 0)+(bif decide (0<=az)then 1 else 0),ra,0+n⟩))))) c):=by
 rw[mv (l:=[(st "iset",.t l),(st "octets",.t (.bytes os)),(st "at",.t (I 0))]) (by rfl'),show(40:Nat)=32+1+7 from rfl,CB _ _ _ _ 7 (by rfl')]
 rw[show 32+1+7=40 from rfl,Mw]
 refine congrArg (fun z=>WF l os fo.t Q1 Q2 Q3 z) ?_
 rw[aj,show CC.body.drop 7=wB::CC.body.drop 8 by rfl',af,Mu]
 rw[jV (h:=fun K kx=>Mv _ l os _ _ _ n K kx)]
 obtain⟨t',ht⟩:=qE [(954,cp Q1 (.ok (.t (gb name ops w n f pp)))),(946,cp Q2 (.ok (.t (.tup [cB bB p ca ay op ma mod aA rm az ar width ra,fo.t])))),(210,cp Q3 (.ok (.t (B hm))))] l os ⟨0,ca,ma,ma+(bif hm then 1 else 0),ma+(bif hm then 1 else 0)+(bif decide (0<=az)then 1 else 0),ra,0+n⟩ (cB bB p ca ay op ma mod aA rm az ar width ra) fo.t n (dy (Jz [(954,cp Q1 (.ok (.t (gb name ops w n f pp)))),(946,cp Q2 (.ok (.t (.tup [cB bB p ca ay op ma mod aA rm az ar width ra,fo.t])))),(210,cp Q3 (.ok (.t (B hm))))]) 32 (CC.body.drop 8) (KK c k)) [0,1,2,3,4,5] none [] (by decide) (by decide)
 refine Eq.trans ht ?_
 rw[Mx,List.nil_append]
 change ob (fr aN (_::_::_::[.lst (List.map V.t _)]) (.loc 3)) (fun q=>k (.ok (.t q.1)) c)=_
 rw[GM]
 rfl
theorem Mz(c:aa)(k:Kn)(fl:Bool):(ab fl).map (fun f=>an bD (TN 8) (fnAt (lU pW 24 3) []) [.t f.t] [] (pk c k))=(ab fl).map (fun f=>k (.ok (.t (B f.jP))) c):=by induction fl<;>rfl'
theorem GN{fl:Bool}{f:Form}(hf:f∈ab fl):aH 9 210 [f.t] (some (B f.jP)):=ak Vp (bI 8) fun c k=>List.map_inj_left.mp (Mz c k fl) f hf
theorem uL:∀fl:Bool,∀fs∈dZ fl,∀f∈fs,f.jP=ct fs:=by intro fl;induction fl<;>decide+kernel
noncomputable def nG(d:Fd):List (String×Nat):=[("prefixes",d.p.cnt),("opcode",1+d.e),("modrm",eh d.m.isSome),("sib",eh (d.mm.az.isSome)),("disp",d.mm.cj.length),("imm",d.f.ce)]
noncomputable def bq:List UInt8->List (String×Nat)->List (String×List UInt8)
 |_,[]=>[]
 |os,(s,n)::r=>(if n=0 then[]else[(s,os.take n)])++bq (os.drop n) r
noncomputable def fm(p:String×List UInt8):T:= .tup [Z p.1,.bytes p.2]
theorem CD(os:List UInt8)(b:Bd)(i a n:Nat)(h1:b.l.getD i 0=(a:Int))(h2:b.l.getD (i+1) 0=((a+n:Nat):Int))(hl:a+n<=os.length):fk os b i=(if n=0 then[]else[(mw.getD i "",(os.drop a).take n)]).map fm:=by
 have e:dT os b i=(os.drop a).take n:=by
  unfold dT
  rw[h1,h2,show((a+n:Nat):Int)=(a:Int)+(n:Int) by push_cast;rfl,qx]
 unfold fk
 rw[e]
 by_cases h:n=0
 ·subst h
  rw[if_pos rfl,List.take_zero];rfl
 ·rw[if_neg h]
  have O7:(os.drop a).take n≠[]:=by
   intro q
   have:=congrArg List.length q
   rw[List.length_take,List.length_drop]at this
   simp only[List.length_nil]at this
   lia
  have:(((os.drop a).take n==[])=false):=by
   cases hc:(os.drop a).take n with
   |nil=>exact absurd hc O7
   |cons x r=>rfl
  rw[this];rfl
noncomputable def Uf(p e m s d w:Nat):Bd:=⟨0,(p:Int),((p+(1+e):Nat):Int),((p+(1+e)+m:Nat):Int),((p+(1+e)+m+s:Nat):Int),((p+(1+e)+m+s+d:Nat):Int),((p+(1+e)+m+s+d+w:Nat):Int)⟩
theorem WG{p e m s d w l n:Nat}(hl:l=p+1+e+(m+s+d))(hn:n=l+w):(⟨0,((0+p:Nat):Int),((0+p+1+e:Nat):Int),((0+p+1+e:Nat):Int)+(m:Int),((0+p+1+e:Nat):Int)+(m:Int)+(s:Int),((0+l:Nat):Int),0+(n:Int)⟩:Bd)=Uf p e m s d w:=by
 subst hl
 subst hn
 unfold Uf
 congr 1<;>lia
theorem GO(os:List UInt8)(p e m s d w:Nat)(hl:p+(1+e)+m+s+d+w<=os.length):[0,1,2,3,4,5].flatMap (fk os (Uf p e m s d w))=(bq os [("prefixes",p),("opcode",1+e),("modrm",m),("sib",s),("disp",d),("imm",w)]).map fm:=by
 have P:=fun i a n=>CD os (Uf p e m s d w) i a n
 have h5:=Nat.le_trans (Nat.le_add_right _ w) hl
 have h4:=Nat.le_trans (Nat.le_add_right _ d) h5
 have h3:=Nat.le_trans (Nat.le_add_right _ s) h4
 have h2:=Nat.le_trans (Nat.le_add_right _ m) h3
 have h1:=Nat.le_trans (Nat.le_add_right _ (1+e)) h2
 rw[List.flatMap_cons,List.flatMap_cons,List.flatMap_cons,List.flatMap_cons,List.flatMap_cons,List.flatMap_cons,List.flatMap_nil,
  P 0 0 p rfl (congrArg Int.ofNat (Nat.zero_add p).symm) ((Nat.zero_add p).symm▸h1),P 1 p (1+e) rfl rfl h2,P 2 _ m rfl rfl h3,P 3 _ s rfl rfl h4,P 4 _ d rfl rfl h5,P 5 _ w rfl rfl hl]
 rw[bq,bq,bq,bq,bq,bq,bq,List.map_append,List.map_append,List.map_append,List.map_append,List.map_append,List.map_append,List.drop_drop,List.drop_drop,List.drop_drop,List.drop_drop]
 rfl
theorem WH(m:Option dR):((bif decide (0<=n7 m)then 1 else 0:Int))=((eh (m.getD ⟨3,0,0,none,[]⟩).az.isSome:Nat):Int):=by
 induction m with
 |none=>rfl
 |some m=>show((bif decide (0<=fJ m.az)then 1 else 0:Int))=((eh m.az.isSome:Nat):Int);induction m.az with
  |none=>rfl
  |some s=>exact cD (Int.natCast_nonneg s)
theorem WI(b:Bool):((bif b then 1 else 0:Int))=((eh b:Nat):Int):=by induction b<;>rfl
theorem WJ(m:Option dR):uz m=eh m.isSome+eh (m.getD ⟨3,0,0,none,[]⟩).az.isSome+(m.getD ⟨3,0,0,none,[]⟩).cj.length:=by induction m<;>rfl
theorem ym(fl:Bool){os:List UInt8}{x:Dec}{n:Nat}(h:aO (ab fl) os= .done x n):aH 22 989 [ag (ab fl),.bytes os,N 0] (some (.lst ((bq os (nG x.d)).map fm))):=by
 have D:=eP h
 have R:=eO D.2.2.1
 have hM:x.d.f.jP=x.d.m.isSome:=(uL fl _ (sF fl x.d.e x.d.o) x.d.f (List.mem_of_find?_eq_some R.2.2.2.1)).trans R.2.2.2.2.1
 have i1:=bf (n' :=20) (args:=[.t (ag (ab fl)),.t (.bytes os),.t (I 0)]) trivial (sK fl os 0 (Nat.zero_le _)) (by decide) rfl
 have i2:=bf (n' :=20) (args:=[.t (ag (ab fl)),.t (.bytes os),.t (I 0)]) trivial (nx fl os 0 (Nat.zero_le _)) (by decide) rfl
 rw[List.drop_zero,h]at i1
 rw[List.drop_zero,D.2.2.1]at i2
 change bG 21 946 (cp _ (.ok (.t (.tup [x.d.fr 0,x.d.f.t]))))at i2
 rw[wp]at i2
 refine ak VP (aP (by decide) _ (i1.all (i2.all ((bf (n' :=20) (args:=[.t x.d.f.t]) trivial (GN R.1) (by decide) rfl).all .aW)))) fun c k=>(My ..).trans (aM.trans (aM.trans (aM.trans ?_)))
 have hl:x.d.len=_:=congrArg (x.d.p.cnt+1+x.d.e+·) (WJ x.d.m)
 refine congrArg (fun t=>k (.ok (.t (.lst t))) c) ?_
 rw[WI,hM,WH,WG hl D.1]
 exact GO os _ _ _ _ _ _ (by
  have:=(kU h).2.1
  rw[D.1,hl]at this
  lia)
noncomputable def GP(code:Nat)(sec bX wide:Bool):Nat:=
 if sec then(if 128<=code/\code<=143 then 4 else 0)else if 184<=code/\code<=191 then(if wide then 8 else if bX then 2 else 4)else if code=199 then(if bX&& !wide then 2 else 4)else
 if code=104\/code=232\/code=233 then 4 else if code=194 then 2 else if code=106\/code=235\/code=205\/code=198\/112<=code/\code<=127\/176<=code/\code<=183\/224<=code/\code<=227 then 1 else 0
noncomputable def g7(fl:Bool):List (Nat×Nat):=(dc (ab fl)).map (·.1)
theorem MA(c:aa)(k:Kn)(fl bX wide:Bool):(g7 fl).map (fun q=>an bD (TN 8) (fnAt (aR pW 129) []) [.t (N q.2),.t (B (Nat.beq q.1 1)),.t (B bX),.t (B wide)] [] (pk c k))=(g7 fl).map (fun q=>k (.ok (.t (N (GP q.2 (Nat.beq q.1 1) bX wide)))) c):=by
 induction fl<;>induction bX<;>induction wide<;>rfl'
theorem CE{fl:Bool}{e o:Nat}(h:(e,o)∈g7 fl)(bX wide:Bool):aH 9 1215 [N o,B (Nat.beq e 1),B bX,B wide] (some (N (GP o (Nat.beq e 1) bX wide))):=
 ak PI (bI 8) fun c k=>List.map_inj_left.mp (MA ..) (e,o) h
theorem qF{fl:Bool}{e o:Nat}{f:Form}(h:f∈jR (ab fl) e o):∃fs,((e,o),fs)∈dc (ab fl)/\f∈fs:=by
 unfold jR at h
 revert h
 generalize dc (ab fl)=L
 induction L with
 |nil=>intro h;cases h
 |cons p r ih=>
  intro h
  rw[jQ]at h
  by_cases q:p.1.1=e/\p.1.2=o
  ·rw[if_pos q]at h
   exact⟨p.2,by obtain⟨rfl,rfl⟩:=q;exact List.mem_cons_self,h⟩
  ·rw[if_neg q]at h
   obtain⟨fs,h1,h2⟩:=ih h
   exact⟨fs,List.mem_cons_of_mem _ h1,h2⟩
noncomputable def Rq(f:Form)(dat w:Bool):Bool:=Nat.beq f.size 0||Nat.beq f.size 8||(bif f.wide then Nat.beq f.size (bif dat then 16 else 64)else bif w then Nat.beq f.size 64 else Nat.beq f.size (bif dat then 16 else 32))
noncomputable def bools:List Bool:=[false,true]
theorem GQ:∀fl:Bool,((dc (ab fl)).all fun q=>q.2.all fun f=>bools.all fun d=>bools.all fun w=> !Rq f d w||Nat.beq f.ce (GP q.1.2 (Nat.beq q.1.1 1) d w))=true:=by intro fl;induction fl<;>decide+kernel
theorem wD(b:Bool):b∈bools:=by induction b<;>decide
theorem MB{fl:Bool}{e o:Nat}{f:Form}(h:f∈jR (ab fl) e o){p:Pre}{mod aA:Int}(hf:sD f p e o mod aA=true):f.ce=GP o (Nat.beq e 1) p.data (Nat.beq (p.bit 8) 1):=by
 obtain⟨fs,h1,h2⟩:=qF h
 have h3:=List.all_eq_true.mp (List.all_eq_true.mp (List.all_eq_true.mp (List.all_eq_true.mp (GQ fl) _ h1) f h2) p.data (wD _)) (Nat.beq (p.bit 8) 1) (wD _)
 have h4:Rq f p.data (Nat.beq (p.bit 8) 1)=true:=by
  unfold sD at hf
  simp only[Bool.and_eq_true]at hf
  exact hf.2.1
 rw[h4]at h3
 exact Nat.eq_of_beq_eq_true h3
theorem GR{fl:Bool}{e o:Nat}{f:Form}(h:f∈jR (ab fl) e o):(e,o)∈g7 fl:=by
 obtain⟨fs,h1,_⟩:=qF h
 exact List.mem_map.mpr ⟨_,h1,rfl⟩
noncomputable def oP(e o:Nat):Bool:=bif Nat.beq e 1 then Nat.beq o 31 else[134,135,136,137,138,139,141,143,198,199,255].any fun x=>Nat.beq x o
theorem yn:∀fl:Bool,((dc (ab fl)).all fun q=>q.2.all fun f=>f.jP==oP q.1.1 q.1.2)=true:=by intro fl;induction fl<;>decide+kernel
theorem CF{fl:Bool}{e o:Nat}{f:Form}(h:f∈jR (ab fl) e o):f.jP=oP e o:=by
 obtain⟨fs,h1,h2⟩:=qF h
 exact beq_iff_eq.mp (List.all_eq_true.mp (List.all_eq_true.mp (yn fl) _ h1) f h2)
noncomputable def Ug(v:Int):Bool:=decide (v.fdiv 16=4)
noncomputable def WK(v:Int):Bool:=decide (100=v)||(decide (101=v)||(decide (102=v)||(decide (240=v)||(decide (242=v)||(decide (243=v)||false)))))
noncomputable def sM(o:UInt8):Bool:=Ug o.toNat||WK o.toNat
noncomputable def I5:Kd->Bool| .aX _=>true| .gt _=>true|_=>false
theorem MC:∀o:_root_.Fin 256,(Ug (o:Nat)||WK (o:Nat))=I5 (cE o):=by decide+kernel
theorem CG(o:UInt8):sM o=I5 (cE o.toNat):=MC ⟨o.toNat,o.toNat_lt⟩
theorem CH{p:Pre}{l:yR}{r:Nat}(h:p.aX=some r):p.gt l=none:=by
 obtain⟨seg,dat,rp,lock,aX⟩:=p
 cases h
 rfl
theorem nH{p q:Pre}{l:yR}(h:p.gt l=some q):q.data=(p.data||decide (l.n=102))/\p.aX=none/\q.aX=none:=by
 have e:(p.gt l).all (fun q=>q.data==(p.data||decide (l.n=102)))=true:=by
  obtain⟨seg,dat,rp,lock,aX⟩:=p
  induction aX with
  |some r=>rfl
  |none=>induction dat<;>induction l<;>first|rfl|(induction seg<;>rfl)|(induction rp<;>first|rfl|(induction lock<;>rfl))
 rw[h]at e
 refine⟨eq_of_beq e,?_,we h⟩
 cases e:p.aX with
 |none=>rfl
 |some r=>exact nn ((CH e).symm.trans h)
theorem sN{o:UInt8}{r:Nat}(h:cE o.toNat= .aX r):o.toNat=64+r:=Nat.eq_of_beq_eq_true (Bool.and_eq_true_iff.mp (BZ (UInt8.toNat_lt o) h)).2
theorem Rt:∀o:_root_.Fin 256,(match cE o with| .gt l=>Nat.beq l.n o|_=>true)=true:=by decide+kernel
theorem sO{o:UInt8}{l:yR}(h:cE o.toNat= .gt l):l.n=o.toNat:=by
 have:=Rt ⟨o.toNat,o.toNat_lt⟩
 dsimp only at this
 rw[h]at this
 exact Nat.eq_of_beq_eq_true this
noncomputable def lv(o:UInt8):Bool:=decide ((o.toNat:Int)=102)
theorem CI(s:List UInt8)(p q:Pre)(n:Nat):aI p s=some (q,n)->q.data=(p.data||(s.take n).any lv):=
 mq (M:=fun p s q n=>q.data=(p.data||(s.take n).any lv)) (fun p s _=>by rw[List.take_zero];exact(Bool.or_false _).symm)
  (fun p o s b q n kd e i=>by
   have h:=sN kd
   have hb:=uA (UInt8.toNat_lt _) kd
   rw[List.take_succ_cons,List.any_cons,show lv o=false from decide_eq_false (by(clear i e kd;lia))]
   exact i)
  fun p o s l p' q n kd e i=>by
   rw[i,(nH e).1,List.take_succ_cons,List.any_cons,show lv o=decide (l.n=102)from decide_eq_decide.mpr (sO kd▸⟨Int.ofNat.inj,congrArg _⟩),Bool.or_assoc]
noncomputable abbrev Uh(s:List UInt8)(n:Nat):Prop:=(∀i,i<n->sM (s.getD i 0)=true)/\(n<s.length->sM (s.getD n 0)=false)
theorem wE{o:UInt8}{s:List UInt8}{n:Nat}(h:sM o=true)(i:Uh s n):Uh (o::s) (n+1):=⟨fun j hj=>match j with
 |0=>h
 |j+1=>i.1 j (Nat.lt_of_succ_lt_succ hj),fun hn=>i.2 (Nat.lt_of_succ_lt_succ hn)⟩
theorem MD(s:List UInt8)(p q:Pre)(n:Nat):aI p s=some (q,n)->Uh s n:=
 mq (M:=fun _ s _ n=>Uh s n) (fun p s h=>⟨fun i hi=>absurd hi (Nat.not_lt_zero _),fun hn=>by
   induction s with
   |nil=>exact absurd hn (Nat.not_lt_zero _)
   |cons o r=>have k:=CG o;rw[h o r rfl]at k;exact k⟩)
  (fun p o s b q n kd e i=>wE (by have k:=CG o;rw[kd]at k;exact k) i) fun p o s l p' q n kd e i=>wE (by have k:=CG o;rw[kd]at k;exact k) i
noncomputable def oQ(s:List UInt8)(n:Nat):Bool:=decide (0<n)&&decide ((((s.getD (n-1) 0).toNat:Nat):Int).fdiv 8=9)
theorem Ru:∀l:yR,(((l.n:Nat):Int).fdiv 8=9)=False:=by intro l;induction l<;>decide
theorem Rv:∀r:_root_.Fin 16,decide ((((64+r:Nat):Nat):Int).fdiv 8=9)=Nat.beq ((64+(r:Nat))/8 %2) 1:=by decide+kernel
theorem GS(s:List UInt8)(p q:Pre)(n:Nat):aI p s=some (q,n)->(∀r,p.aX=some r->n=0/\q.aX=some r)/\(p.aX=none->Nat.beq (q.bit 8) 1=oQ s n):=
 mq (M:=fun p s q n=>(∀r,p.aX=some r->n=0/\q.aX=some r)/\(p.aX=none->Nat.beq (q.bit 8) 1=oQ s n)) (fun p s _=>⟨fun r hr=>⟨rfl,hr⟩,fun hr=>by unfold Pre.bit oQ;rw[hr];rfl⟩)
  (fun p o s b q n kd e i=>⟨fun r hr=>nn (e.symm.trans hr),fun _=>by
   have k:=Rv ⟨b,uA (UInt8.toNat_lt _) kd⟩
   have j:=i.1 b rfl
   rw[j.1]
   unfold Pre.bit oQ
   rw[j.2]
   show Nat.beq ((64+b)/8 %2) 1=(true&&decide ((((o.toNat:Nat)):Int).fdiv 8=9))
   rw[sN kd,Bool.true_and,<-k]⟩)
  fun p o s l p' q n kd e i=>⟨fun r hr=>nn ((nH e).2.1.symm.trans hr),fun _=>by
   rw[i.2 (nH e).2.2]
   unfold oQ
   induction n with
   |zero=>
    show(false&&_)=(true&&decide ((((o.toNat:Nat)):Int).fdiv 8=9))
    rw[<-sO kd,show decide (((l.n:Nat):Int).fdiv 8=9)=false from decide_eq_false fun h=>(Ru l).mp h]
    rfl
   |succ n=>rfl⟩
noncomputable def je:Fn:=fnAt (aR pW 130) []
noncomputable def DN:Stmt:=fu (fB (aR pW 130)) 1
noncomputable abbrev gu(F:Spec):=cx (cU [(1215,F)] (TN 8)) je
noncomputable abbrev qG(os:List UInt8)(i:Int):Int:=((os.getD i.toNat 0).toNat:Int)
noncomputable abbrev inR(os:List UInt8)(i:Int)(x:aq):aq:=bif decide (0<=i)&&decide (i<os.length)then x else none
noncomputable abbrev DO(os:List UInt8)(a:Int):Loc:=[(st "octets",.t (.bytes os)),(st "at",.t (.int a))]
theorem GT(F:Spec)(os:List UInt8)(a:Int)(c:aa)(k:Bool->aa->aq)(kx:Kx):aB (gu F) 37 (ur DN) (DO os a) c k kx=
  inR os a (bif Ug (qG os a)then k true c else inR os a (bif WK (qG os a)then k true c else k false c)):=by rfl'
theorem GU(F:Spec)(os:List UInt8)(a:Int)(c:aa)(k:Ko):ah (gu F) 37 (lO DN) (DO os a) c k=k .next (DO os (a+1)) c:=by rfl'
theorem sP(F:Spec)(os:List UInt8)(n:Nat)(c:aa)(k:Ko)(hl:n<os.length)(h1:∀i,i<n->sM (os.getD i 0)=true)(h2:sM (os.getD n 0)=false):∀(m a:Nat),a<=n->n-a<m->dz (gu F) 37 (ah (gu F) 37) (ur DN) (lO DN) m (DO os a) c k=k .next (DO os n) c
 |0,a,ha,hm=>absurd hm (Nat.not_lt_zero _)
 |m+1,a,ha,hm=>by
  have I6:(decide (0<=(a:Int))&&decide ((a:Int)<os.length))=true:=by simp only[Bool.and_eq_true,decide_eq_true_eq];lia
  rw[eJ,GT]
  dsimp only[inR,qG]
  rw[I6,Int.toNat_natCast]
  simp only[cond_true]
  by_cases q:a=n
  ·subst q
   unfold sM at h2
   rw[Bool.or_eq_false_iff]at h2
   rw[h2.1,h2.2];rfl
  ·have:=h1 a (by exact Nat.lt_of_le_of_ne ha q)
   unfold sM at this
   have go:ah (gu F) 37 (lO DN) (DO os a) c (gH (fun l c=>dz (gu F) 37 (ah (gu F) 37) (ur DN) (lO DN) m l c k) k)=k .next (DO os n) c:=by
    rw[GU]
    exact sP F os n c k hl h1 h2 m (a+1) (by exact Nat.lt_of_le_of_ne ha q) (by omega)
   cases q1:Ug ((os.getD a 0).toNat:Int)with
   |true=>exact go
   |false=>
    rw[q1,Bool.false_or]at this
    rw[this]
    exact go
noncomputable abbrev ZF(os:List UInt8)(a:Int)(bX wide:Bool):Loc:=DO os a++[(st "is_narrow",.t (B bX)),(st "is_wide",.t (B wide))]
noncomputable abbrev ZG(os:List UInt8)(a:Int)(bX wide sec:Bool)(v:Int):Loc:=ZF os a bX wide++[(st "is_second",.t (B sec)),(st "code",.t (.int v))]
noncomputable abbrev yU(os:List UInt8)(a:Int)(bX wide sec:Bool)(v b:Int)(j:Nat):Loc:=ZG os a bX wide sec v++[(st "found",.loc j),(st "behind",.t (.int b))]
noncomputable abbrev jW(s:String)(i:Int):T:= .tup [Z s,.int i]
noncomputable abbrev GV(a:Int)(sec:Bool):List V:=[.t (jW "prefixes" a),.t (jW "opcode" (1+(bif sec then 1 else 0)))]
noncomputable def qQ:Stmt->Expr| .If t _ _ _=>t|_=>dk
noncomputable def jf:Stmt->List Stmt| .If _ a _ _=>a|_=>[]
noncomputable def qR:Stmt->List Stmt| .If _ _ b _=>b|_=>[]
noncomputable def sQ:Stmt:=fu (fB (aR pW 130)) 7
theorem Rw(F:Spec)(os:List UInt8)(a:Int)(bX wide:Bool)(b:Int)(c:aa)(k:Bool->aa->aq)(kx:Kx)(fl:Bool):(g7 fl).map (fun q=>aB (gu F) 31 (qQ sQ) (yU os a bX wide (Nat.beq q.1 1) (q.2:Nat) b 0) c k kx)=(g7 fl).map (fun q=>k (oP q.1 q.2) c):=by
 induction fl<;>rfl'
noncomputable abbrev GW(os:List UInt8)(a:Int)(bX wide sec:Bool)(v b:Int)(j:Nat)(mod rm:Int)(hs:Bool)(bare:Bool):Loc:=yU os a bX wide sec v b j++[(st "mod",.t (.int mod)),(st "rm",.t (.int rm)),(st "has_sib",.t (B hs)),(st "is_bare",.t (B bare))]
noncomputable abbrev sR(a:Int)(sec:Bool)(s d:Int):List V:=[.t (jW "prefixes" a),.t (jW "opcode" (1+(bif sec then 1 else 0))),.t (jW "modrm" 1),.t (jW "sib" s),.t (jW "disp" d)]
noncomputable abbrev ZH(a:Int)(sec:Bool)(s d:Int):List Cell:=[.lst (GV a sec),.lst [.t (jW "modrm" 1),.t (jW "sib" s),.t (jW "disp" d)],.lst (sR a sec s d)]
noncomputable abbrev ZI(a:Int)(sec:Bool)(s d:Int):List Cell:=[.lst (GV a sec),.lst [.t (I 0),.t (I 1),.t (I 4),.t (I 0)],.lst [.t (jW "modrm" 1),.t (jW "sib" s),.t (jW "disp" d)],.lst (sR a sec s d)]
noncomputable def WL(mod rm:Nat)(x:Bool):Nat:=bif Nat.beq mod 3 then 0 else bif Nat.beq mod 1 then 1 else bif Nat.beq mod 2 then 4 else bif Nat.beq rm 5 then 4 else bif Nat.beq rm 4 then(bif x then 4 else 0)else 0
noncomputable def ME(os:List UInt8)(b:Int)(mod rm:Nat)(K2 K3:Bool->Bool->Int->Int->aq):aq:=
 bif Nat.beq mod 0&&Nat.beq rm 4 then inR os (b+1) (bif decide ((qG os (b+1)).fmod 8=5)then K2 true (decide ((qG os (b+1)).fmod 8=5)) 1 4 else K3 true (decide ((qG os (b+1)).fmod 8=5)) 1 0)
 else bif Nat.beq mod 0&&Nat.beq rm 5 then K2 false true 0 4
 else K3 (Nat.blt mod 3&&Nat.beq rm 4) false (bif Nat.blt mod 3&&Nat.beq rm 4 then 1 else 0) (WL mod rm false)
noncomputable def WM(os:List UInt8)(a:Int)(bX wide sec:Bool)(v b:Int)(mod rm:Nat)(k:Ko):aq:=
 ME os b mod rm (fun hs bare s d=>k .next (GW os a bX wide sec v b 2 mod rm hs bare) (ZH a sec s d)) (fun hs bare s d=>k .next (GW os a bX wide sec v b 3 mod rm hs bare) (ZI a sec s d))
theorem Rx(F:Spec)(os:List UInt8)(a:Int)(bX wide sec:Bool)(v b:Int)(k:Ko):(List.range 4).map (fun mod=>(List.range 8).map fun rm=>ah (gu F) 30 ((jf sQ).drop 1) (yU os a bX wide sec v b 0++[(st "mod",.t (N mod)),(st "rm",.t (N rm))]) [.lst (GV a sec)] k)=
  (List.range 4).map (fun mod=>(List.range 8).map fun rm=>WM os a bX wide sec v b mod rm k):=by rfl'
noncomputable def Ry:Stmt:=fu (fB (aR pW 130)) 8
theorem Rz(w:Int)(Q:List V->Bool)(os:List UInt8)(a:Int)(bX wide sec:Bool)(v b:Int)(k:Ko):aD (gu (cp Q (.ok (.t (.int w))))) 31 Ry (yU os a bX wide sec v b 0) [.lst (GV a sec)] k=
  bif Q [.t (.int v),.t (B sec),.t (B bX),.t (B wide)]then k .next (yU os a bX wide sec v b 0) [.lst (GV a sec++[.t (jW "imm" w)])]else none:=by rfl'
theorem RA(w:Int)(Q:List V->Bool)(os:List UInt8)(a:Int)(bX wide sec:Bool)(v b mod rm:Int)(hs bare:Bool)(s d:Int)(c0 c1:Cell)(k:Ko):aD (gu (cp Q (.ok (.t (.int w))))) 31 Ry (GW os a bX wide sec v b 2 mod rm hs bare) [c0,c1,.lst (sR a sec s d)] k=
  bif Q [.t (.int v),.t (B sec),.t (B bX),.t (B wide)]then k .next (GW os a bX wide sec v b 2 mod rm hs bare) [c0,c1,.lst (sR a sec s d++[.t (jW "imm" w)])]else none:=by rfl'
theorem RB(w:Int)(Q:List V->Bool)(os:List UInt8)(a:Int)(bX wide sec:Bool)(v b mod rm:Int)(hs bare:Bool)(s d:Int)(c0 c1 c2:Cell)(k:Ko):aD (gu (cp Q (.ok (.t (.int w))))) 31 Ry (GW os a bX wide sec v b 3 mod rm hs bare) [c0,c1,c2,.lst (sR a sec s d)] k=
  bif Q [.t (.int v),.t (B sec),.t (B bX),.t (B wide)]then k .next (GW os a bX wide sec v b 3 mod rm hs bare) [c0,c1,c2,.lst (sR a sec s d++[.t (jW "imm" w)])]else none:=by rfl'
theorem cr(x:Cx)(n:Nat)(elt tg it:Expr)(ifs:List Expr)(sc:Scope)(ps:Pos)(xs:List T)(l:Loc)(c c' :aa)(k:Kn)(hs:bL x.scope sc=true)(h:∀K kx,dQ x n it l c K kx=K false xs c'):ai x (n+1) (.ListComp elt [⟨tg,it,ifs,0⟩] sc ps) l c k=aS sc (ai {x with scope:=sc} n) (aB {x with scope:=sc} n) elt ifs tg xs [] (bK sc l) c' (fun vs c=>mH vs c k):=by
 show(bif true&&bL x.scope sc then dQ x n it l c (fun pr xs c=>bif !(pr&& !isTup tg)then aS sc (ai {x with scope:=sc} n) (aB {x with scope:=sc} n) elt ifs tg xs [] (bK sc l) c (fun vs c=>mH vs c k)else none) (fun c=>k .exc c)else none)=_
 rw[hs,h];rfl
theorem uM(x:Cx)(n:Nat)(elt tg it:Expr)(ifs:List Expr)(sc:Scope)(ps:Pos)(xs:List T)(l:Loc)(c c' :aa)(k:Kn)(hs:bL x.scope sc=true)(ht:isTup tg=true)(h:∀K kx,dQ x n it l c K kx=K true xs c'):ai x (n+1) (.ListComp elt [⟨tg,it,ifs,0⟩] sc ps) l c k=aS sc (ai {x with scope:=sc} n) (aB {x with scope:=sc} n) elt ifs tg xs [] (bK sc l) c' (fun vs c=>mH vs c k):=by
 show(bif true&&bL x.scope sc then dQ x n it l c (fun pr xs c=>bif !(pr&& !isTup tg)then aS sc (ai {x with scope:=sc} n) (aB {x with scope:=sc} n) elt ifs tg xs [] (bK sc l) c (fun vs c=>mH vs c k)else none) (fun c=>k .exc c)else none)=_
 rw[hs,h,ht];rfl
theorem mx:∀xs:List T,iw (xs.map .t)=some xs
 |[]=>rfl
 |x::xs=>by rw[List.map_cons,iw,mx xs];rfl
theorem bY(xs:List T)(c:aa)(k:Kn):mH (xs.map .t) c k=k (.ok (.t (.lst xs))) c:=by
 show bn (iw (xs.map .t)) _ _=_
 rw[mx]
 rfl
noncomputable def sS:Stmt->Expr| .Return (some e) _=>e|_=>dk
noncomputable def fO:Expr->Expr| .ListComp e _ _ _=>e|_=>dk
noncomputable def be:Expr->Expr×Expr×List Expr| .ListComp _ (⟨t,i,f,_⟩::_) _ _=>(t,i,f)|_=>(dk,dk,[])
noncomputable def bA:Expr->Scope| .ListComp _ _ s _=>s|_=> {kind:= .function,names:=[],isGenerator:=false,isCoroutine:=false,more:=[]}
noncomputable def DP:Expr->Pos| .ListComp _ _ _ p=>p|_=>⟨0,0,0,0⟩
noncomputable def gA:Expr:=sS (fu (fB (aR pW 130)) 9)
theorem MF:gA= .ListComp (fO gA) [⟨(be gA).1,(be gA).2.1,(be gA).2.2,0⟩] (bA gA) (DP gA):=by rfl'
theorem MG:bL je.scope (bA gA)=true:=by rfl'
noncomputable abbrev I7(F:Spec):Cx:= {gu F with scope:=bA gA}
noncomputable def I8:Option (String×Int)->Loc|none=>[]|some p=>[(st "pair",.t (jW p.1 p.2))]
theorem RC(F:Spec)(s:String)(i:Int)(rest:List T)(acc:List V)(t:Option (String×Int))(c:aa)(k:List V->aa->aq):aS (bA gA) (ai (I7 F) 28) (aB (I7 F) 28) (fO gA) (be gA).2.2 (be gA).1 (jW s i::rest) acc (I8 t) c k=
  bif decide (0<i)then aS (bA gA) (ai (I7 F) 28) (aB (I7 F) 28) (fO gA) (be gA).2.2 (be gA).1 rest (acc++[.t (jW s i)]) (I8 (some (s,i))) c k
  else aS (bA gA) (ai (I7 F) 28) (aB (I7 F) 28) (fO gA) (be gA).2.2 (be gA).1 rest acc (I8 (some (s,i))) c k:=by
 induction t<;>rfl'
noncomputable def il(ps:List (String×Int)):List T:=ps.map fun p=>jW p.1 p.2
theorem CJ(F:Spec)(c:aa)(k:List V->aa->aq):∀(ps:List (String×Int)) (acc:List T) (t:Option (String×Int)),aS (bA gA) (ai (I7 F) 28) (aB (I7 F) 28) (fO gA) (be gA).2.2 (be gA).1 (il ps) (acc.map .t) (I8 t) c k=k ((acc++il (ps.filter fun p=>decide (0<p.2))).map .t) c
 |[],acc,t=>by show k (acc.map .t) c=k ((acc++[]).map .t) c;rw[List.append_nil]
 |p::ps,acc,t=>by
  show aS _ _ _ _ _ _ (jW p.1 p.2::il ps) _ _ _ _=_
  rw[RC,List.filter_cons]
  cases q:decide (0<p.2)with
  |true=>
   have:=CJ F c k ps (acc++[jW p.1 p.2]) (some (p.1,p.2))
   rw[List.map_append]at this
   refine Eq.trans this ?_
   rw[List.append_assoc];rfl
  |false=>exact CJ F c k ps acc (some (p.1,p.2))
theorem RD(F:Spec)(os:List UInt8)(a:Int)(bX wide sec:Bool)(v b w:Int)(K:Bool->List T->aa->aq)(kx:Kx):dQ (gu F) 28 (be gA).2.1 (yU os a bX wide sec v b 0) [.lst (GV a sec++[.t (jW "imm" w)])] K kx=
  K false (il [("prefixes",a),("opcode",1+(bif sec then 1 else 0)),("imm",w)]) [.cg (.lst (il [("prefixes",a),("opcode",1+(bif sec then 1 else 0)),("imm",w)]))]:=by rfl'
noncomputable abbrev yo(a:Int)(sec:Bool)(s d w:Int):List (String×Int):=[("prefixes",a),("opcode",1+(bif sec then 1 else 0)),("modrm",1),("sib",s),("disp",d),("imm",w)]
theorem RE(F:Spec)(os:List UInt8)(a:Int)(bX wide sec:Bool)(v b mod rm:Int)(hs bare:Bool)(s d w:Int)(c0 c1:Cell)(K:Bool->List T->aa->aq)(kx:Kx):dQ (gu F) 28 (be gA).2.1 (GW os a bX wide sec v b 2 mod rm hs bare) [c0,c1,.lst (sR a sec s d++[.t (jW "imm" w)])] K kx=
  K false (il (yo a sec s d w)) [c0,c1,.cg (.lst (il (yo a sec s d w)))]:=by rfl'
theorem RF(F:Spec)(os:List UInt8)(a:Int)(bX wide sec:Bool)(v b mod rm:Int)(hs bare:Bool)(s d w:Int)(c0 c1 c2:Cell)(K:Bool->List T->aa->aq)(kx:Kx):dQ (gu F) 28 (be gA).2.1 (GW os a bX wide sec v b 3 mod rm hs bare) [c0,c1,c2,.lst (sR a sec s d++[.t (jW "imm" w)])] K kx=
  K false (il (yo a sec s d w)) [c0,c1,c2,.cg (.lst (il (yo a sec s d w)))]:=by rfl'
theorem qH(os:List UInt8)(a:Int)(bX wide sec:Bool)(v b:Int)(j:Nat)(mod rm:Int)(hs bare:Bool):bK (bA gA) (yU os a bX wide sec v b j)=[]/\bK (bA gA) (GW os a bX wide sec v b j mod rm hs bare)=[]:=⟨by rfl',by rfl'⟩
theorem MH:fu (fB (aR pW 130)) 9= .Return (some gA) (match fu (fB (aR pW 130)) 9 with| .Return _ p=>p|_=>⟨0,0,0,0⟩):=by rfl'
theorem WN(F:Spec)(l:Loc)(c c' :aa)(ps:List (String×Int))(k:Ko)(hf:bK (bA gA) l=[])(h:∀K kx,dQ (gu F) 28 (be gA).2.1 l c K kx=K false (il ps) c'):aD (gu F) 30 (fu (fB (aR pW 130)) 9) l c k=k (.ret (.t (.lst (il (ps.filter fun p=>decide (0<p.2)))))) l c' :=by
 rw[MH]
 show ai (gu F) (28+1) gA l c (fun r c=>match r with| .exc=>k .exc l c| .ok v=>k (.ret v) l c)=_
 rw[MF,cr (h:=h) (hs:=MG),hf]
 refine Eq.trans (CJ F c' _ ps [] none) ?_
 rw[bY,List.nil_append]
noncomputable def tv(d:Fd):List (String×Int):=(nG d).map fun p=>(p.1,(p.2:Int))
noncomputable def kX(d:Fd):T:= .lst (il ((tv d).filter fun p=>decide (0<p.2)))
theorem MI:sQ= .If (qQ sQ) (jf sQ) (qR sQ) (match sQ with| .If _ _ _ p=>p|_=>⟨0,0,0,0⟩):=by rfl'
theorem WO:je.body=fu (fB (aR pW 130)) 0::je.body.drop 1/\je.body.drop 1=DN::je.body.drop 2/\je.body.drop 2=fu (fB (aR pW 130)) 2::je.body.drop 3/\je.body.drop 7=sQ::je.body.drop 8/\je.body.drop 8=Ry::je.body.drop 9/\je.body.drop 9=[fu (fB (aR pW 130)) 9]/\((je.body.drop 3).take 2).length=2/\((je.body.drop 5).take 2).length=2/\((jf sQ).take 1).length=1/\qR sQ=[]:=
 ⟨by rfl',by rfl',by rfl',by rfl',by rfl',by rfl',by rfl',by rfl',by rfl',by rfl'⟩
theorem jg(os:List UInt8)(i:Nat)(h:i<os.length)(x:aq):inR os i x=x:=by
 have I6:(decide (0<=(i:Int))&&decide ((i:Int)<os.length))=true:=by simp only[Bool.and_eq_true,decide_eq_true_eq];omega
 dsimp only[inR]
 rw[I6];rfl
theorem oR(os:List UInt8)(i:Nat):qG os i=((os.getD i 0).toNat:Int):=by dsimp only[qG];rw[Int.toNat_natCast]
theorem g8{α:Type}(os:List α)(n:Nat):a8 os none (some (n:Int))=os.take n:=by
 unfold a8
 dsimp only
 rw[qw,List.drop_zero,Nat.sub_zero,<-List.take_eq_take_min]
theorem jX{os:List UInt8}{a:Nat}{o:UInt8}{r:List UInt8}(h:os.drop a=o::r):a<os.length/\os.getD a 0=o/\os.drop (a+1)=r:=by
 have hl:a<os.length:=by
  by_cases q:a<os.length
  ·exact q
  ·rw[List.drop_of_length_le (by exact Nat.le_of_not_lt q)]at h;cases h
 rw[ij hl]at h
 cases h
 exact⟨hl,rfl,rfl⟩
theorem bR(x:Cx)(n:Nat)(l:Loc)(c:aa)(k:Ko):ah x (n+1) [] l c k=k .next l c:=rfl
theorem ei(x:Cx)(n:Nat)(t:Expr)(a b:List Stmt)(p:Pos)(l:Loc)(c:aa)(k:Ko):aD x (n+1) (.If t a b p) l c k=aB x n t l c (fun v c=>bif v then ah x n a l c k else ah x n b l c k) (fun c=>k .exc l c):=rfl
theorem WP(os:List UInt8)(p:Pre)(h1:aI Pre.nil os=some (p,p.cnt))(tz:p.cnt<os.length)(E:Bool->Bool->aq):(bif decide (0<((p.cnt:Nat):Int))==true then inR os ((p.cnt:Nat)-1:Int) (E ((a8 os none (some (p.cnt:Int))).any lv) (decide ((qG os ((p.cnt:Nat)-1:Int)).fdiv 8=9)))else E ((a8 os none (some (p.cnt:Int))).any lv) (decide (0<((p.cnt:Nat):Int))))=E p.data (Nat.beq (p.bit 8) 1):=by
 have GX:=CI _ _ _ _ h1
 have GY:=(GS _ _ _ _ h1).2 rfl
 rw[g8,GX,GY]
 unfold oQ
 by_cases q:p.cnt=0
 ·rw[show decide (0<((p.cnt:Nat):Int))=false from decide_eq_false (by(clear GY GX tz h1;lia)),show decide (0<p.cnt)=false from decide_eq_false (by(clear GY GX tz h1;lia))]
  rfl
 ·rw[show decide (0<((p.cnt:Nat):Int))=true from decide_eq_true (by(clear GY GX tz h1;lia)),show decide (0<p.cnt)=true from decide_eq_true (by exact Nat.pos_of_ne_zero q),show((p.cnt:Nat):Int)-1=((p.cnt-1:Nat):Int) by omega,oR,jg _ _ (by exact Nat.lt_of_le_of_lt (Nat.sub_le _ _) tz)]
  rfl
theorem WQ(os:List UInt8)(a e o:Nat)(h2:dY (os.drop a)=some (e,o))(E:Bool->Int->aq):inR os ((a:Int)+(bif decide (((os.getD a 0).toNat:Int)=15)then 1 else 0)) (E (decide (((os.getD a 0).toNat:Int)=15)) (qG os ((a:Int)+(bif decide (((os.getD a 0).toNat:Int)=15)then 1 else 0))))=E (Nat.beq e 1) (o:Nat):=by
 cases hd:os.drop a with
 |nil=>rw[hd]at h2;cases h2
 |cons x r=>
  obtain⟨g1,g2,g3⟩:=jX hd
  rw[hd]at h2
  rw[g2]
  by_cases q:x.toNat=15
  ·induction r with
   |nil=>rw[ml q]at h2;cases h2
   |cons y r=>
    rw[mn q]at h2
    cases h2
    obtain⟨g4,g5,_⟩:=jX g3
    rw[show decide (((x.toNat:Nat):Int)=15)=true from decide_eq_true (by exact congrArg _ q)]
    simp only[cond_true]
    rw[show((a:Int)+1)=((a+1:Nat):Int) by push_cast;rfl,jg _ _ g4,oR,g5]
    rfl
  ·rw[mo q]at h2
   cases h2
   rw[show decide (((x.toNat:Nat):Int)=15)=false from decide_eq_false (by exact fun e=>q (Int.ofNat.inj e))]
   simp only[cond_false]
   rw[Int.add_zero,jg _ _ g1,oR,g2]
   rfl
section
variable(F:Spec)(os:List UInt8)(c:aa)(k:Kn)(a:Int)
noncomputable abbrev RG(bX wide sec:Bool)(v:Int):aq:=ah (gu F) 33 (je.body.drop 7) (yU os a bX wide sec v (a+1+(bif sec then 1 else 0)) 0) [.lst (GV a sec)] (KK c k)
noncomputable abbrev MJ(bX wide:Bool):aq:=inR os a (inR os (a+(bif decide (qG os a=15)then 1 else 0)) (RG F os c k a bX wide (decide (qG os a=15)) (qG os (a+(bif decide (qG os a=15)then 1 else 0)))))
theorem CK:an bD (cU [(1215,F)] (TN 8)) je [.t (.bytes os)] [] (pk c k)=dz (gu F) 37 (ah (gu F) 37) (ur DN) (lO DN) turns (DO os 0) [] (iI (gu F) 38 (je.body.drop 2) (KK c k)):=by rfl'
theorem MK:iI (gu F) 38 (je.body.drop 2) (KK c k) .next (DO os a) []=bif decide (0<a)==true then inR os (a-1) (MJ F os c k a ((a8 os none (some a)).any lv) (decide ((qG os (a-1)).fdiv 8=9)))else MJ F os c k a ((a8 os none (some a)).any lv) (decide (0<a)):=by rfl'
end
theorem RH(p:Pre):p.cnt<=5:=by
 have h1:p.seg.cnt<=1:=by induction p.seg<;>decide
 have h2:p.rep.cnt<=1:=by induction p.rep<;>decide
 have h3 (b:Bool):eh b<=1:=by induction b<;>decide
 exact Nat.add_le_add (Nat.add_le_add (Nat.add_le_add (Nat.add_le_add h1 (h3 _)) h2) (h3 _)) (h3 _)
theorem GZ{os:List UInt8}{n:Nat}{x:Nat×Nat}(h:dY (os.drop n)=some x):n<os.length:=by
 by_cases q:n<os.length
 ·exact q
 ·rw[List.drop_of_length_le (Nat.not_lt.mp q)]at h;exact nn h
theorem G0(F:Spec)(os:List UInt8)(p:Pre)(e o:Nat)(c:aa)(k:Kn)(h1:aI Pre.nil os=some (p,p.cnt))(h2:dY (os.drop p.cnt)=some (e,o)):
  an bD (cU [(1215,F)] (TN 8)) je [.t (.bytes os)] [] (pk c k)=ah (gu F) 33 (je.body.drop 7) (yU os p.cnt p.data (Nat.beq (p.bit 8) 1) (Nat.beq e 1) (o:Nat) ((p.cnt+1+e:Nat):Int) 0) [.lst (GV p.cnt (Nat.beq e 1))] (KK c k):=by
 have tz:=GZ h2
 have f:=MD _ _ _ _ h1
 have he:((p.cnt:Int)+1+(bif Nat.beq e 1 then 1 else 0))=((p.cnt+1+e:Nat):Int):=(mr h2).1.elim (fun h=>by rw[h];rfl) fun h=>by rw[h];rfl
 refine(CK F os c k).trans ((sP F os p.cnt [] _ tz f.1 (f.2 tz) turns 0 (Nat.zero_le _) (Nat.lt_of_le_of_lt (RH p) (by decide))).trans ((MK F os c k p.cnt).trans ((WP os p h1 tz (MJ F os c k p.cnt)).trans ((jg _ _ tz _).trans ((WQ os p.cnt e o h2 (RG F os c k p.cnt p.data (Nat.beq (p.bit 8) 1))).trans ?_)))))
 show ah _ _ _ _ _ _=_
 rw[he]
theorem qI(w:Int)(Q:List V->Bool)(l:Loc)(c0 c1 c2:aa)(ps:List (String×Int))(hf:bK (bA gA) l=[])(hA:∀k,aD (gu (cp Q (.ok (.t (.int w))))) 31 Ry l c0 k=k .next l c1)(hs:∀K kx,dQ (gu (cp Q (.ok (.t (.int w))))) 28 (be gA).2.1 l c1 K kx=K false (il ps) c2)(c:aa)(k:Kn):
  ah (gu (cp Q (.ok (.t (.int w))))) 32 (je.body.drop 8) l c0 (KK c k)=k (.ok (.t (.lst (il (ps.filter fun p=>decide (0<p.2)))))) c:=by
 obtain⟨-,-,-,-,b8,b9,-,-,-,-⟩:=WO
 rw[b8,af,hA,aj,b9,af,WN (hf:=hf) (h:=hs)]
 rfl
theorem RI(os:List UInt8)(b:Nat)(x:dR)(hx:x.Ok)(r:List UInt8)(g3:os.drop (b+1)=r)(h7:nY x.mod x.rm r= .done x.az (eh x.az.isSome))(K2 K3:Bool->Bool->Int->Int->aq)(RR:aq)
  (k2:∀hs bare (s d:Nat),s=eh x.az.isSome->d=x.cj.length->K2 hs bare s d=RR) (k3:∀hs bare (s d:Nat),s=eh x.az.isSome->d=x.cj.length->K3 hs bare s d=RR):ME os b x.mod x.rm K2 K3=RR:=by
 have h4:=hx.az
 have cj:x.cj.length=gW x.mod x.rm x.az:=hx.cj
 unfold ME
 by_cases q4:x.mod=0/\x.rm=4
 ·have hs:x.az.isSome=true:=h4.mpr ⟨by(clear cj h4 k3 k2 h7 g3 hx;lia),q4.2⟩
  rw[show(Nat.beq x.mod 0&&Nat.beq x.rm 4)=true by rw[q4.1,q4.2];rfl]
  unfold nY at h7
  rw[if_pos ⟨by(clear hs cj h4 k3 k2 h7 g3 hx;lia),q4.2⟩]at h7
  obtain⟨z,i,j,u1,u2,u3⟩:=cR h7
  obtain⟨u4,_⟩:=bW u2
  obtain⟨_,r2,u5⟩:=gY u1
  rw[u5]at g3
  obtain⟨v1,v2,_⟩:=jX g3
  have ea:(((b:Nat):Int)+1)=((b+1:Nat):Int):=by push_cast;rfl
  rw[ea,jg _ _ v1,oR,v2]
  have ez:(((z.toNat:Nat):Int).fmod 8)=((z.toNat %8:Nat):Int):=by rw[show(8:Int)=((8:Nat):Int)from rfl,IS]
  rw[ez]
  rw[<-u4]at hs cj k2 k3
  unfold gW at cj
  rw[q4.1,q4.2,if_neg (by decide),if_neg (by decide),if_neg (by decide),if_neg (by decide)]at cj
  simp only[cond_true]
  by_cases q5:z.toNat %8=5
  ·rw[show decide (((z.toNat %8:Nat):Int)=5)=true from decide_eq_true (by exact congrArg _ q5)]
   dsimp only at cj
   rw[if_pos q5]at cj
   exact k2 _ _ 1 4 (by rw[hs];rfl) cj.symm
  ·rw[show decide (((z.toNat %8:Nat):Int)=5)=false from decide_eq_false (by exact fun e=>q5 (Int.ofNat.inj e))]
   dsimp only at cj
   rw[if_neg q5]at cj
   exact k3 _ _ 1 0 (by rw[hs];rfl) cj.symm
 ·have e4:(Nat.beq x.mod 0&&Nat.beq x.rm 4)=false:=by
   rw[Bool.eq_false_iff];intro h
   rw[Bool.and_eq_true]at h
   exact q4 ⟨Nat.eq_of_beq_eq_true h.1,Nat.eq_of_beq_eq_true h.2⟩
  rw[e4]
  simp only[cond_false]
  by_cases q5:x.mod=0/\x.rm=5
  ·rw[show(Nat.beq x.mod 0&&Nat.beq x.rm 5)=true by rw[q5.1,q5.2];rfl]
   simp only[cond_true]
   have hn:x.az.isSome=false:=by rw[Bool.eq_false_iff];intro h;have:=(h4.mp h).2;(clear h e4 q4 cj h4 k3 k2 h7 g3 hx;lia)
   refine k2 _ _ 0 4 (by rw[hn];rfl) ?_
   rw[cj];unfold gW
   rw[q5.1,q5.2];rfl
  ·have e5:(Nat.beq x.mod 0&&Nat.beq x.rm 5)=false:=by
    rw[Bool.eq_false_iff];intro h
    rw[Bool.and_eq_true]at h
    exact q5 ⟨Nat.eq_of_beq_eq_true h.1,Nat.eq_of_beq_eq_true h.2⟩
   rw[e5]
   simp only[cond_false]
   have es:((bif Nat.blt x.mod 3&&Nat.beq x.rm 4 then 1 else 0:Int))=((eh x.az.isSome:Nat):Int):=by
    have:(Nat.blt x.mod 3&&Nat.beq x.rm 4)=x.az.isSome:=by
     rw[Bool.eq_iff_iff,h4,Bool.and_eq_true]
     have hb:Nat.blt x.mod 3=true↔x.mod<3:=by rw[Nat.blt,Nat.ble_eq];exact Iff.rfl
     have ZJ:=hx.mod
     rw[hb]
     exact⟨fun h=>⟨by exact Nat.ne_of_lt h.1,Nat.eq_of_beq_eq_true h.2⟩,fun h=>⟨by(clear hb e5 q5 e4 q4 cj h4 k3 k2 h7 g3 hx;lia),by rw[h.2];rfl⟩⟩
    rw[this]
    induction x.az.isSome<;>rfl
   have ed:WL x.mod x.rm false=x.cj.length:=by
    rw[cj]
    have ZJ:=hx.mod
    have WR:=h4
    unfold WL gW
    have hc:x.mod=0\/x.mod=1\/x.mod=2\/x.mod=3:=by(clear WR es e5 q5 e4 q4 cj h4 k3 k2 h7 g3 hx;lia)
    rcases hc with hc|hc|hc|hc
    ·have n4:x.rm≠4:=fun h=>q4 ⟨hc,h⟩
     have n5:x.rm≠5:=fun h=>q5 ⟨hc,h⟩
     have hn:x.az=none:=by
      cases hs:x.az with
      |none=>rfl
      |some z=>rw[hs]at WR;exact absurd (WR.mp rfl).2 n4
     rw[hc,hn,if_neg (by decide),if_neg (by decide),if_neg (by decide),if_neg n5]
     have b4:Nat.beq x.rm 4=false:=by rw[Bool.eq_false_iff];exact fun h=>n4 (Nat.eq_of_beq_eq_true h)
     have b5:Nat.beq x.rm 5=false:=by rw[Bool.eq_false_iff];exact fun h=>n5 (Nat.eq_of_beq_eq_true h)
     rw[b4,b5];rfl
    ·rw[hc];rfl
    ·rw[hc];rfl
    ·rw[hc];rfl
   rw[es,ed]
   exact k3 _ _ _ _ rfl rfl
noncomputable def RJ(a e:Nat)(m:Option dR)(w:Nat):T:= .lst (il (((([("prefixes",a),("opcode",1+e),("modrm",eh m.isSome),("sib",eh (m.getD ⟨3,0,0,none,[]⟩).az.isSome),("disp",(m.getD ⟨3,0,0,none,[]⟩).cj.length),("imm",w)]:List (String×Nat)).map fun p=>(p.1,(p.2:Int)))).filter fun p=>decide (0<p.2)))
theorem CL{a e w:Nat}(he:e=0\/e=1){x:dR}:T.lst (il ((yo a (Nat.beq e 1) (eh x.az.isSome:Nat) (x.cj.length:Nat) w).filter fun p=>decide (0<p.2)))=RJ a e (some x) w:=he.elim (fun h=>by rw[h];rfl) fun h=>by rw[h];rfl
section
variable(F:Spec)(w:Nat)(Q:List V->Bool)(os:List UInt8)(a e o:Nat)(bX wide:Bool)(c:aa)(k:Kn)(fl:Bool)(zU:(e,o)∈g7 fl)(he:e=0\/e=1)(hQ:Q [.t (N o),.t (B (Nat.beq e 1)),.t (B bX),.t (B wide)]=true)
theorem WS(l:Loc)(C:aa)(K:Ko):ah (gu F) 33 (je.body.drop 7) l C K=aB (gu F) 31 (qQ sQ) l C (fun v c' =>bif v then ah (gu F) 31 (jf sQ) l c' (dy (gu F) 32 (je.body.drop 8) K)else ah (gu F) 32 (je.body.drop 8) l c' K) (fun c=>K .exc l c):=by
 rw[WO.2.2.2.1,af]
 refine(congrArg (fun s=>aD (gu F) 32 s l C _) MI).trans ?_
 rw[ei,WO.2.2.2.2.2.2.2.2.2]
 refine congrArg (fun z=>aB (gu F) 31 (qQ sQ) l C z fun c=>K .exc l c) (funext fun v=>funext fun c=> ?_)
 rw[bR,aj]
theorem WT(sec:Bool)(v b:Int)(C:aa)(K:Ko):ah (gu F) 31 (jf sQ) (yU os a bX wide sec v b 0) C K=
  inR os b (inR os b (ah (gu F) 30 ((jf sQ).drop 1) (yU os a bX wide sec v b 0++[(st "mod",.t (.int ((qG os b).fdiv 64))),(st "rm",.t (.int ((qG os b).fmod 8)))]) C K)):=by rfl'
noncomputable abbrev sT:Cx:=gu (cp Q (.ok (.t (.int w))))
noncomputable abbrev yp:Loc:=yU os a bX wide (Nat.beq e 1) (o:Nat) ((a+1+e:Nat):Int) 0
noncomputable abbrev yq:aa:=[.lst (GV a (Nat.beq e 1))]
include zU in
theorem RK{b:Bool}(hm:b=oP e o):ah (sT w Q) 33 (je.body.drop 7) (yp os a e o bX wide) (yq a e) (KK c k)=bif b then ah (sT w Q) 31 (jf sQ) (yp os a e o bX wide) (yq a e) (dy (sT w Q) 32 (je.body.drop 8) (KK c k))else ah (sT w Q) 32 (je.body.drop 8) (yp os a e o bX wide) (yq a e) (KK c k):=by
 rw[hm]
 exact(WS ..).trans (List.map_inj_left.mp (Rw ..) (e,o) zU)
include hQ he in
theorem RL:ah (sT w Q) 32 (je.body.drop 8) (yp os a e o bX wide) (yq a e) (KK c k)=k (.ok (.t (RJ a e none w))) c:=
 (qI w Q _ _ _ _ _ (qH os a bX wide (Nat.beq e 1) (o:Nat) ((a+1+e:Nat):Int) 0 0 0 false false).1 (fun k=>(Rz ..).trans (cT hQ)) (fun K kx=>RD _ os a bX wide (Nat.beq e 1) (o:Nat) ((a+1+e:Nat):Int) w K kx) c k).trans (congrArg (fun t=>k (.ok (.t t)) c) (he.elim (fun h=>by rw[h];rfl) fun h=>by rw[h];rfl))
include hQ he in
theorem ML{x:dR}(hx:x.Ok)(hm:eg (os.drop (a+1+e))= .done x x.len):ah (sT w Q) 31 (jf sQ) (yp os a e o bX wide) (yq a e) (dy (sT w Q) 32 (je.body.drop 8) (KK c k))=k (.ok (.t (RJ a e (some x) w))) c:=
 (nu hm).elim fun y h=>h.elim fun r h=>by
  have g:=jX h.1
  have em:((qG os ((a+1+e:Nat):Int)).fdiv 64)=((x.mod:Nat):Int):=by rw[oR,g.2.1,h.2.1];exact P7 _ 64
  have er:((qG os ((a+1+e:Nat):Int)).fmod 8)=((x.rm:Nat):Int):=by rw[oR,g.2.1,h.2.2.2.1];exact IS _ 8
  refine(WT _ os a bX wide _ _ _ _ _).trans ((jg _ _ g.1 _).trans ((jg _ _ g.1 _).trans ?_))
  rw[em,er]
  refine(ef (List.map_inj_left.mp (Rx (cp Q (.ok (.t (.int w)))) os a bX wide (Nat.beq e 1) (o:Nat) ((a+1+e:Nat):Int) _) x.mod (List.mem_range.mpr hx.mod)) (List.mem_range.mpr hx.rm)).trans ?_
  have fin:∀s d:Nat,s=eh x.az.isSome->d=x.cj.length->k (.ok (.t (.lst (il ((yo a (Nat.beq e 1) s d w).filter fun p=>decide (0<p.2)))))) c=k (.ok (.t (RJ a e (some x) w))) c:=fun s d hs hd=>by rw[hs,hd,CL he]
  exact RI os (a+1+e) x hx r g.2.2 h.2.2.2.2.2.2.2 _ _ _ (fun hs bare s d h1 h2=>(qI w Q _ _ _ _ _ (qH os a bX wide (Nat.beq e 1) (o:Nat) ((a+1+e:Nat):Int) 2 _ _ hs bare).2 (fun k=>(RA w Q os a bX wide (Nat.beq e 1) (o:Nat) ((a+1+e:Nat):Int) _ _ hs bare s d _ _ k).trans (cT hQ)) (fun K kx=>RE _ os a bX wide (Nat.beq e 1) (o:Nat) ((a+1+e:Nat):Int) _ _ hs bare s d w _ _ K kx) c k).trans (fin s d h1 h2)) fun hs bare s d h1 h2=>(qI w Q _ _ _ _ _ (qH os a bX wide (Nat.beq e 1) (o:Nat) ((a+1+e:Nat):Int) 3 _ _ hs bare).2 (fun k=>(RB w Q os a bX wide (Nat.beq e 1) (o:Nat) ((a+1+e:Nat):Int) _ _ hs bare s d _ _ _ k).trans (cT hQ)) (fun K kx=>RF _ os a bX wide (Nat.beq e 1) (o:Nat) ((a+1+e:Nat):Int) _ _ hs bare s d w _ _ _ K kx) c k).trans (fin s d h1 h2)
end
theorem G1(w:Nat)(Q:List V->Bool)(os:List UInt8)(a e o:Nat)(bX wide:Bool)(m:Option dR)(fl:Bool)(zU:(e,o)∈g7 fl)(he:e=0\/e=1)(hM:m.isSome=oP e o)(Ui:∀x,m=some x->x.Ok/\eg (os.drop (a+1+e))= .done x x.len)(hQ:Q [.t (N o),.t (B (Nat.beq e 1)),.t (B bX),.t (B wide)]=true)(c:aa)(k:Kn):
  ah (sT w Q) 33 (je.body.drop 7) (yp os a e o bX wide) (yq a e) (KK c k)=k (.ok (.t (RJ a e m w))) c:=by
 refine(RK w Q os a e o bX wide c k fl zU hM).trans ?_
 induction m with
 |none=>exact RL w Q os a e o bX wide c k he hQ
 |some x=>exact ML w Q os a e o bX wide c k he hQ (Ui x rfl).1 (Ui x rfl).2
theorem nI(fl:Bool){os:List UInt8}{x:Dec}{n:Nat}(h:aO (ab fl) os= .done x n):aH 11 1220 [.bytes os] (some (kX x.d)):=by
 have g:=eO (eP h).2.2.1
 have I6:=List.mem_of_find?_eq_some g.2.2.2.1
 have xz:=List.find?_some g.2.2.2.1
 have hw:=MB I6 xz
 have zU:=GR I6
 have hM:x.d.m.isSome=oP x.d.e x.d.o:=by rw[<-g.2.2.2.2.1,<-uL fl _ (sF fl x.d.e x.d.o) x.d.f I6];exact CF I6
 have i1:=bf (n' :=9) (args:=[.t (N x.d.o),.t (B (Nat.beq x.d.e 1)),.t (B x.d.p.data),.t (B (Nat.beq (x.d.p.bit 8) 1))]) trivial (CE zU x.d.p.data (Nat.beq (x.d.p.bit 8) 1)) (by decide) rfl
 rw[<-hw]at i1
 exact ak PJ (aP (by decide) _ (i1.all .aW)) fun c k=>(G0 _ os x.d.p x.d.e x.d.o c k g.2.2.2.2.2.1 g.2.2.2.2.2.2.1).trans (G1 x.d.f.ce _ os x.d.p.cnt x.d.e x.d.o x.d.p.data (Nat.beq (x.d.p.bit 8) 1) x.d.m fl zU (mr g.2.2.2.2.2.2.1).1 hM (fun m hm=>⟨g.2.1.ok m hm,g.2.2.2.2.2.2.2 m hm⟩) (aK _) c k)
theorem nJ(x:Cx)(n:Nat)(e:Expr)(p:Pos)(l:Loc)(c:aa)(k:Ko):aD x (n+1) (.Return (some e) p) l c k=ai x n e l c (fun r c=>match r with| .exc=>k .exc l c| .ok v=>k (.ret v) l c):=rfl
theorem eu(x:Cx)(n:Nat)(id:Str)(q:Pos)(es:List Expr)(p:Pos)(l:Loc)(c:aa)(k:Kn)(u:V)(hf:kg es=true)(hN:∀K,ai x n (.Name id q) l c K=K (.ok u) c):ai x (n+1) (.Call (.Name id q) es [] p) l c k=po (ai x n) es l c (fun vs c=>Ie x u vs c k) (fun c=>k .exc c):=by
 show(bif kg es then ai x n (.Name id q) l c (fun r c=>match r with| .exc=>k .exc c| .ok u=>po (ai x n) es l c (fun vs c=>Ie x u vs c k) (fun c=>k .exc c))else none)=_
 rw[hf,hN];rfl
theorem nK(ev:Ev)(e:Expr)(l:Loc)(c:aa)(k:List V->aa->aq)(kx:Kx):po ev [e] l c k kx=ev e l c (fun r c=>match r with| .exc=>kx c| .ok v=>k [v] c):=by rfl'
noncomputable def RM:Fn:=fnAt (aR pW 132) []
noncomputable abbrev N8:=cx (TN 8) RM
noncomputable def G2:Expr:=sS (fu (fB (aR pW 132)) 0)
noncomputable def my:Expr->Expr| .Call f _ _ _=>f|_=>dk
noncomputable def cA:Expr->Expr| .Call _ (e::_) _ _=>e|_=>dk
noncomputable def N9:Expr->Pos| .Call _ _ _ p=>p|_=>⟨0,0,0,0⟩
noncomputable def yV:Expr->Str| .Name s _=>s|_=>⟨#[]⟩
noncomputable def yW:Expr->Pos| .Name _ p=>p|_=>⟨0,0,0,0⟩
noncomputable def kY:Expr:=cA G2
theorem RN:fu (fB (aR pW 132)) 0= .Return (some G2) (match fu (fB (aR pW 132)) 0 with| .Return _ p=>p|_=>⟨0,0,0,0⟩)/\G2= .Call (.Name (yV (my G2)) (yW (my G2))) [kY] [] (N9 G2)/\kY= .ListComp (fO kY) [⟨(be kY).1,(be kY).2.1,(be kY).2.2,0⟩] (bA kY) (DP kY)/\RM.body=[fu (fB (aR pW 132)) 0]:=⟨by rfl',by rfl',by rfl',by rfl'⟩
noncomputable abbrev Oa(b:List UInt8):Loc:=[(st "octets",.t (.bytes b))]
theorem WU(b:List UInt8)(K:Kn):ai N8 37 (.Name (yV (my G2)) (yW (my G2))) (Oa b) [] K=K (.ok (.t (.bi "sum"))) []:=by rfl'
theorem MM:kg [kY]=true/\bL RM.scope (bA kY)=true/\isTup (be kY).1=true/\∀b,bK (bA kY) (Oa b)=[]:=⟨by rfl',by rfl',by rfl',fun b=>by rfl'⟩
theorem MN(b:List UInt8)(K:Bool->List T->aa->aq)(kx:Kx):dQ N8 36 (be kY).2.1 (Oa b) [] K kx=K true (re 0 (b.map fun o=> .int o.toNat)) []:=by rfl'
noncomputable abbrev Ob:Cx:= {N8 with scope:=bA kY}
noncomputable def WV:Option (Int×Int)->Loc|none=>[]|some p=>[(st "at",.t (.int p.1)),(st "octet",.t (.int p.2))]
theorem G3(i:Nat)(v:Int)(rest:List T)(acc:List V)(t:Option (Int×Int))(c:aa)(k:List V->aa->aq):aS (bA kY) (ai Ob 36) (aB Ob 36) (fO kY) (be kY).2.2 (be kY).1 (.tup [.int (i:Nat),.int v]::rest) acc (WV t) c k=
  bif decide (0<=(i:Int))&&decide ((i:Int)<=64)&&decide ((256:Int).natAbs<2^64)then bif decide (v.natAbs<2^64)||decide (((256:Int)^(i:Int).toNat).natAbs<2^64)then aS (bA kY) (ai Ob 36) (aB Ob 36) (fO kY) (be kY).2.2 (be kY).1 rest (acc++[.t (.int (v*256^(i:Int).toNat))]) (WV (some (i,v))) c k else none else none:=by
 induction t<;>rfl'
noncomputable def wl:Nat->List UInt8->List T
 |_,[]=>[]
 |i,o::r=> .int (((o.toNat*256^i:Nat)):Int)::wl (i+1) r
theorem wF(c:aa)(k:List V->aa->aq):∀(b:List UInt8) (i:Nat) (acc:List T) (t:Option (Int×Int)),i+b.length<=60->aS (bA kY) (ai Ob 36) (aB Ob 36) (fO kY) (be kY).2.2 (be kY).1 (re i (b.map fun o=> .int o.toNat)) (acc.map .t) (WV t) c k=k ((acc++wl i b).map .t) c
 |[],i,acc,t,_=>by show k (acc.map .t) c=k ((acc++[]).map .t) c;rw[List.append_nil]
 |o::b,i,acc,t,h=>by
  rw[List.length_cons]at h
  have ho:=o.toNat_lt
  show aS _ _ _ _ _ _ (.tup [.int (i:Nat),.int (o.toNat:Nat)]::re (i+1) (b.map fun o=> .int o.toNat)) _ _ _ _=_
  rw[G3]
  have e1:(decide (0<=(i:Int))&&decide ((i:Int)<=64)&&decide ((256:Int).natAbs<2^64))=true:=by
   simp only[Bool.and_eq_true,decide_eq_true_eq];(clear ho;lia)
  have e2:decide (((o.toNat:Nat):Int).natAbs<2^64)=true:=decide_eq_true (by rw[Int.natAbs_natCast];exact Nat.le_trans ho (by decide))
  have e3:((o.toNat:Nat):Int)*256^(i:Int).toNat=((o.toNat*256^i:Nat):Int):=by rw[Int.toNat_natCast];push_cast;rfl
  rw[e1,e2,e3]
  have:=wF c k b (i+1) (acc++[.int ((o.toNat*256^i:Nat):Int)]) (some (i,o.toNat)) (by(clear e3 e2 e1 ho;lia))
  rw[List.map_append]at this
  refine Eq.trans this ?_
  rw[List.append_assoc];rfl
theorem CM(k:Int->aq):∀(b:List UInt8) (i:Nat) (a:Nat),sumK ((wl i b).map .t) a k=k ((a+256^i*f8 b:Nat):Int)
 |[],i,a=>by show k a=k ((a+256^i*0:Nat):Int);rw[Nat.mul_zero];rfl
 |o::b,i,a=>by
  show sumK ((wl (i+1) b).map .t) ((a:Int)+((o.toNat*256^i:Nat):Int)) k=_
  rw[show(a:Int)+((o.toNat*256^i:Nat):Int)=((a+o.toNat*256^i:Nat):Int) by push_cast;rfl,CM k b (i+1)]
  congr 2
  rw[f8,Nat.pow_succ,Nat.mul_add,Nat.mul_comm (o.toNat),Nat.mul_assoc];exact Nat.add_assoc _ _ _
theorem CN(c:aa)(xs:List T):listOf c (.t (.lst xs))=some (xs.map .t):=rfl
theorem uN(b:List UInt8)(h:b.length<=60):aH 9 1232 [.bytes b] (some (N (f8 b))):=ak PL (bI 8) fun c k=>by
 obtain⟨h1,h2,h3,h4⟩:=RN
 obtain⟨g1,g2,g3,g4⟩:=MM
 have e:=mv (S:=TN 8) (f:=RM) (args:=[.t (.bytes b)]) (l:=Oa b) (c:=c) (k:=k) (by rfl')
 refine Eq.trans e ?_
 rw[h4,af,h1,nJ]
 have:∀K:Kn,ai (cx (TN 8) RM) 38 G2 (Oa b) [] K=K (.ok (.t (N (f8 b)))) []:=fun K=>by
  rw[h2,eu N8 37 _ _ _ _ _ _ _ _ g1 (WU b),nK]
  have lc:∀K:Kn,ai N8 37 kY (Oa b) [] K=K (.ok (.t (.lst (wl 0 b)))) []:=fun K=>by
   rw[h3,uM N8 36 _ _ _ _ _ _ _ _ _ _ _ g2 g3 (MN b),g4]
   refine Eq.trans (wF [] _ b 0 [] none (by exact Nat.add_le_add_left h _)) ?_
   rw[List.nil_append,bY]
  rw[lc]
  show(match listOf [] (.t (.lst (wl 0 b)))with|some xs=>sumK xs 0 fun i=>K (.ok (.t (.int i))) []|none=>none)=_
  rw[CN]
  dsimp only
  rw[show(0:Int)=((0:Nat):Int)from rfl,CM,Nat.pow_zero,Nat.one_mul,Nat.zero_add]
 rw[this]
 rfl
theorem MO(b:List UInt8)(wo w:Int)(c:aa)(k:Kn)(Q:List V->Bool):an bD (cU [(1232,cp Q (.ok (.t (.int w))))] (TN 8)) (fnAt (aR pW 133) []) [.t (.bytes b),.t (.int wo)] [] (pk c k)=
  bif Q [.t (.bytes b)]then bif Q [.t (.bytes b)]then bif decide (0<=((b.length:Nat):Int))&&decide (((b.length:Nat):Int)<=64)&&decide ((256:Int).natAbs<2^64)then k (.ok (.t (B (decide (w=wo)||(decide (w-256^((b.length:Nat):Int).toNat=wo)||false))))) c else none else none else none:=by rfl'
theorem nL(b:List UInt8)(h:b.length<=60)(wo:Int)(hw:wo=f8 b\/wo=f8 b-((256^b.length:Nat):Int)):aH 11 1239 [.bytes b,.int wo] (some (B true)):=by
 have i:=bf (n' :=9) (args:=[.t (.bytes b)]) trivial (uN b h) (by decide) rfl
 refine ak PM (aP (by decide) _ (i.all .aW)) fun c k=>(MO ..).trans ?_
 rw[aK]
 have e1:(decide (0<=((b.length:Nat):Int))&&decide (((b.length:Nat):Int)<=64)&&decide ((256:Int).natAbs<2^64))=true:=by
  simp only[Bool.and_eq_true,decide_eq_true_eq];(clear i hw;lia)
 have e2:(decide (((f8 b:Nat):Int)=wo)||(decide (((f8 b:Nat):Int)-256^((b.length:Nat):Int).toNat=wo)||false))=true:=by
  induction hw with
  |inl h=>rw[decide_eq_true h.symm];rfl
  |inr h=>rw[show decide (((f8 b:Nat):Int)-256^((b.length:Nat):Int).toNat=wo)=true from decide_eq_true (by rw[Int.toNat_natCast,h];push_cast;rfl),Bool.or_false,Bool.or_true]
 rw[e1,e2];rfl
theorem G4(b:List UInt8):(f8 b:Int)=f8 b\/(f8 b:Int)=f8 b-((256^b.length:Nat):Int):= .inl rfl
theorem jY(b:List UInt8):x7 b=f8 b\/x7 b=f8 b-((256^b.length:Nat):Int):=by
 unfold x7 PZ
 have e:(2:Int)^(8*(b.length:Int)).toNat=((256^b.length:Nat):Int):=by
  rw[show(8*(b.length:Int)).toNat=8*b.length by exact Nat.add_zero _,Int.pow_mul];push_cast;rfl
 rw[e]
 cases decide (((256^b.length:Nat):Int)<=2*(f8 b:Int))with
 |false=>exact .inl rfl
 |true=>exact .inr rfl
theorem nM(x:Cx)(n:Nat)(id:Str)(q:Pos)(e:Expr)(p:Pos)(l l' :Loc)(c c' :aa)(k:Ko)(v:V)(hc:cY e=false)(h:∀K,ai x n e l c K=K (.ok v) c')(hs:fv x.scope l id v=some l'):aD x (n+1) (.Assign [.Name id q] e p) l c k=k .next l' c' :=by
 show(bif !cY e then ai x n e l c (fun r c=>match r with| .ok v=>ob (fv x.scope l id v) fun l=>k .next l c| .exc=>k .exc l c)else none)=_
 rw[hc,h]
 show ob (fv x.scope l id v) _=_
 rw[hs]
 rfl
theorem MP(te:Te)(a b:Expr)(l:Loc)(c:aa)(k:Bool->aa->aq)(kx:Kx):NJ te [a,b] l c k kx=te a l c (fun v c=>bif v then k true c else te b l c (fun v c=>bif v then k true c else k false c) kx) kx:=rfl
theorem mz(x:Cx)(n:Nat)(es:List Expr)(p:Pos)(l:Loc)(c:aa)(k:Bool->aa->aq)(kx:Kx):aB x (n+1) (.BoolOp .Or es p) l c k kx=NJ (aB x n) es l c k kx:=rfl
theorem dI(x:Cx)(n:Nat)(a b:Expr)(op:CmpOp)(p:Pos)(l:Loc)(c c1 c2:aa)(k:Bool->aa->aq)(kx:Kx)(u v:V)(r:Bool)(hl:lastMarks [op] [b]=false)(h1:∀K,ai x n a l c K=K (.ok u) c1)(h2:∀K,ai x n b l c1 K=K (.ok v) c2)(hc:iR c2 op u v=some r):aB x (n+1) (.Compare a [op] [b] p) l c k kx=k r c2:=by
 show(bif !lastMarks [op] [b]then ai x n a l c (fun r c=>match r with| .ok u=>ai x n b l c (fun r c=>match r with| .ok y=>ob (iR c op u y) fun b=>k b c| .exc=>kx c)| .exc=>kx c)else none)=_
 rw[hl,h1]
 show ai x n b l c1 _=_
 rw[h2]
 show ob (iR c2 op u v) _=_
 rw[hc]
 rfl
theorem mA(i:Int):eqT (.int i) (.int i)=some true:=by show some (decide (i=i))=_;rw[decide_eq_true rfl]
theorem wG(s:Str):eqT (.str s) (.str s)=some true:=by show some (s==s)=_;rw[beq_self_eq_true]
theorem kZ:∀xs:List T,(∀x∈xs,eqT x x=some true)->jq xs xs=some true
 |[],_=>by unfold jq;rfl
 |x::xs,h=>by
  unfold jq
  rw[h x List.mem_cons_self,kZ xs fun y hy=>h y (List.mem_cons_of_mem _ hy)];rfl
theorem qJ{xs:List T}(h:∀x∈xs,eqT x x=some true):eqT (.lst xs) (.lst xs)=some true:=kZ xs h
theorem wH{xs:List T}(h:∀x∈xs,eqT x x=some true):eqT (.tup xs) (.tup xs)=some true:=kZ xs h
theorem I9(c:aa)(t:T)(hb:∀b,t≠.bytes b)(h1:jr 30 t=true)(h2:eqT t t=some true):u9 c (.t t) (.t t)=some true:=by
 have e:lG t=none:=by cases t<;>first|rfl|exact absurd rfl (hb _)
 show bn (lG t) _ (bif jr 30 t&&jr 30 t then eqT t t else none)=_
 rw[e,h1,h2]
 rfl
theorem MQ(c:aa)(t:T)(hb:∀b,t≠.bytes b)(h1:jr 30 t=true)(h2:eqT t t=some true):iR c .NotEq (.t t) (.t t)=some false:=by
 show qZ (u9 c (.t t) (.t t))=_
 rw[I9 c t hb h1 h2];rfl
theorem WW(c:aa)(b:List UInt8):iR c .NotEq (.t (.bytes b)) (.t (.bytes b))=some false:=by
 show qZ (u9 c (.t (.bytes b)) (.t (.bytes b)))=_
 have:u9 c (.t (.bytes b)) (.t (.bytes b))=some (b==b):=rfl
 rw[this,beq_self_eq_true];rfl
noncomputable def Od:Fn:=fnAt (aR pW 134) []
noncomputable abbrev Ja(A P:Spec)(Bq:Spec):Tab:=cU [(989,A),(1220,P),(1239,Bq)] (TN 8)
noncomputable abbrev lx(A P Bq:Spec):=cx (Ja A P Bq) Od
noncomputable def G5:Stmt:=fu (fB (aR pW 134)) 1
noncomputable def Jb:Stmt:=fu (fB (aR pW 134)) 2
noncomputable def Jc:Expr->Expr×Expr| .BoolOp _ [a,b] _=>(a,b)|_=>(dk,dk)
noncomputable def ey:Expr->Expr×Expr| .Compare a _ (b::_) _=>(a,b)|_=>(dk,dk)
noncomputable def pE:Expr->Pos| .BoolOp _ _ p=>p| .Compare _ _ _ p=>p|_=>⟨0,0,0,0⟩
noncomputable def RO:Expr:=qQ G5
noncomputable def DQ:Expr:=(Jc RO).1
noncomputable def yr:Expr:=(Jc RO).2
noncomputable def dJ:Expr:=(ey DQ).1
noncomputable def dU:Expr:=cA (ey yr).1
noncomputable abbrev oU(l:T)(os:List UInt8)(ops h:T):Loc:=[(st "iset",.t l),(st "octets",.t (.bytes os)),(st "operands",.t ops),(st "heard",.t h)]
theorem RP:G5= .If RO (jf G5) (qR G5) (match G5 with| .If _ _ _ p=>p|_=>⟨0,0,0,0⟩)/\RO= .BoolOp .Or [DQ,yr] (pE RO)/\DQ= .Compare dJ [.NotEq] [(ey DQ).2] (pE DQ)/\yr= .Compare (ey yr).1 [.NotEq] [(ey yr).2] (pE yr)/\
  dJ= .ListComp (fO dJ) [⟨(be dJ).1,(be dJ).2.1,(be dJ).2.2,0⟩] (bA dJ) (DP dJ)/\dU= .ListComp (fO dU) [⟨(be dU).1,(be dU).2.1,(be dU).2.2,0⟩] (bA dU) (DP dU)/\qR G5=[]/\lastMarks [.NotEq] [(ey DQ).2]=false/\lastMarks [.NotEq] [(ey yr).2]=false/\
  bL Od.scope (bA dJ)=true/\bL Od.scope (bA dU)=true:=⟨by rfl',by rfl',by rfl',by rfl',by rfl',by rfl',by rfl',by rfl',by rfl',by rfl',by rfl'⟩
section
variable(A P Bq:Spec)(l:T)(os:List UInt8)(ops:T)
theorem WX(h:T)(Q:List V->Bool)(k:Ko):aD (lx (cp Q (.ok (.t h))) P Bq) 39 (fu (fB (aR pW 134)) 0) [(st "iset",.t l),(st "octets",.t (.bytes os)),(st "operands",.t ops)] [] k=bif Q [.t l,.t (.bytes os),.t (I 0)]then k .next (oU l os ops h) []else none:=by rfl'
noncomputable abbrev yt:Cx:= {lx A P Bq with scope:=bA dJ}
noncomputable abbrev yu:Cx:= {lx A P Bq with scope:=bA dU}
noncomputable def Oe:Option (String×List UInt8)->Loc|none=>[]|some p=>[(st "word",.t (Z p.1)),(st "piece",.t (.bytes p.2))]
theorem RQ(s:String)(b:List UInt8)(rest:List T)(acc:List V)(t:Option (String×List UInt8))(c:aa)(k:List V->aa->aq):aS (bA dJ) (ai (yt A P Bq) 34) (aB (yt A P Bq) 34) (fO dJ) (be dJ).2.2 (be dJ).1 (fm (s,b)::rest) acc (Oe t) c k=
  aS (bA dJ) (ai (yt A P Bq) 34) (aB (yt A P Bq) 34) (fO dJ) (be dJ).2.2 (be dJ).1 rest (acc++[.t (jW s ((b.length:Nat):Int))]) (Oe (some (s,b))) c k:=by induction t<;>rfl'
theorem RS(s:String)(b:List UInt8)(rest:List T)(acc:List V)(t:Option (String×List UInt8))(c:aa)(k:List V->aa->aq):aS (bA dU) (ai (yu A P Bq) 33) (aB (yu A P Bq) 33) (fO dU) (be dU).2.2 (be dU).1 (fm (s,b)::rest) acc (Oe t) c k=
  aS (bA dU) (ai (yu A P Bq) 33) (aB (yu A P Bq) 33) (fO dU) (be dU).2.2 (be dU).1 rest (acc++[.t (.bytes b)]) (Oe (some (s,b))) c k:=by induction t<;>rfl'
theorem RT(h:List T)(c:aa)(K:Bool->List T->aa->aq)(kx:Kx):dQ (lx A P Bq) 34 (be dJ).2.1 (oU l os ops (.lst h)) c K kx=K false h c:=by rfl'
theorem RU(h:List T)(c:aa)(K:Bool->List T->aa->aq)(kx:Kx):dQ (lx A P Bq) 33 (be dU).2.1 (oU l os ops (.lst h)) c K kx=K false h c:=by rfl'
theorem RV(h:T):bK (bA dJ) (oU l os ops h)=[]/\bK (bA dU) (oU l os ops h)=[]:=⟨by rfl',by rfl'⟩
theorem WY(h r:T)(Q:List V->Bool)(hQ:Q [.t (.bytes os)]=true)(c:aa)(K:Kn):ai (lx A (cp Q (.ok (.t r))) Bq) 35 (ey DQ).2 (oU l os ops h) c K=K (.ok (.t r)) c:=by
 have:ai (lx A (cp Q (.ok (.t r))) Bq) 35 (ey DQ).2 (oU l os ops h) c K=bif Q [.t (.bytes os)]then K (.ok (.t r)) c else none:=by rfl'
 rw[this,hQ];rfl
theorem WZ(h:T)(c:aa)(K:Kn):ai (lx A P Bq) 35 (ey yr).2 (oU l os ops h) c K=K (.ok (.t (.bytes os))) c:=by rfl'
noncomputable def G6:Expr->Expr×Str×Pos×Pos| .Call (.Attribute o n ap) _ _ p=>(o,n,ap,p)|_=>(dk,⟨#[]⟩,⟨0,0,0,0⟩,⟨0,0,0,0⟩)
end
theorem uO(x:Cx)(n:Nat)(o:Expr)(name:Str)(ap:Pos)(es:List Expr)(p:Pos)(l:Loc)(c:aa)(k:Kn)(u:V)(m:DY)(hf:(kg es&& !eA o&&(ap.endLine==p.line))=true)(ho:∀K,ai x n o l c K=K (.ok u) c)(hm:gD x c u name=some m):ai x (n+1) (.Call (.Attribute o name ap) es [] p) l c k=po (ai x n) es l c (fun vs c=>mJ x m u vs c k) (fun c=>k .exc c):=by
 obtain⟨h1,h3⟩:=Bool.and_eq_true_iff.mp hf
 obtain⟨h1,h2⟩:=Bool.and_eq_true_iff.mp h1
 show(bif kg es then bif !eA o&&(ap.endLine==p.line)then ai x n o l c (fun r c=>match r with| .ok u=>ob (gD x c u name) fun m=>po (ai x n) es l c (fun vs c=>mJ x m u vs c k) (fun c=>k .exc c)| .exc=>k .exc c)else none else none)=_
 rw[h1,h2,h3,ho]
 show ob (gD x c u name) _=_
 rw[hm]
 rfl
section
variable(A P Bq:Spec)(l:T)(os:List UInt8)(ops:T)
theorem Jd(c:aa)(k:List V->aa->aq):∀(ps:List (String×List UInt8)) (acc:List T) (t:Option (String×List UInt8)),aS (bA dJ) (ai (yt A P Bq) 34) (aB (yt A P Bq) 34) (fO dJ) (be dJ).2.2 (be dJ).1 (ps.map fm) (acc.map .t) (Oe t) c k=k ((acc++il (ps.map fun p=>(p.1,((p.2.length:Nat):Int)))).map .t) c
 |[],acc,t=>by show k (acc.map .t) c=k ((acc++[]).map .t) c;rw[List.append_nil]
 |p::ps,acc,t=>by
  show aS _ _ _ _ _ _ (fm (p.1,p.2)::ps.map fm) _ _ _ _=_
  rw[RQ]
  have:=Jd c k ps (acc++[jW p.1 ((p.2.length:Nat):Int)]) (some (p.1,p.2))
  rw[List.map_append]at this
  refine Eq.trans this ?_
  rw[List.append_assoc];rfl
theorem Je(c:aa)(k:List V->aa->aq):∀(ps:List (String×List UInt8)) (acc:List T) (t:Option (String×List UInt8)),aS (bA dU) (ai (yu A P Bq) 33) (aB (yu A P Bq) 33) (fO dU) (be dU).2.2 (be dU).1 (ps.map fm) (acc.map .t) (Oe t) c k=k ((acc++ps.map fun p=>T.bytes p.2).map .t) c
 |[],acc,t=>by show k (acc.map .t) c=k ((acc++[]).map .t) c;rw[List.append_nil]
 |p::ps,acc,t=>by
  show aS _ _ _ _ _ _ (fm (p.1,p.2)::ps.map fm) _ _ _ _=_
  rw[RS]
  have:=Je c k ps (acc++[.bytes p.2]) (some (p.1,p.2))
  rw[List.map_append]at this
  refine Eq.trans this ?_
  rw[List.append_assoc];rfl
theorem sU:∀ps:List (String×List UInt8),oi ((ps.map fun p=>T.bytes p.2).map .t)=some (ps.flatMap fun p=>p.2)
 |[]=>rfl
 |p::ps=>by
  show(oi ((ps.map fun p=>T.bytes p.2).map .t)).map (p.2++·)=_
  rw[sU ps,List.flatMap_cons];rfl
theorem MR(ps:List (String×Int)):jr 30 (.lst (il ps))=true:=by
 show(il ps).all (jr 29)=true
 rw[List.all_eq_true]
 intro x hx
 obtain⟨p,_,rfl⟩:=List.mem_map.mp hx
 rfl
theorem MS(ps:List (String×Int)):eqT (.lst (il ps)) (.lst (il ps))=some true:=qJ fun x hx=>by
 obtain⟨p,_,rfl⟩:=List.mem_map.mp hx
 exact wH fun y hy=>by
  cases List.mem_cons.mp hy with
  |inl h=>rw[h];exact wG _
  |inr h=>rw[List.mem_singleton.mp h];exact mA _
noncomputable def CO:Expr:=(ey yr).1
theorem MT:CO= .Call (.Attribute (G6 CO).1 (G6 CO).2.1 (G6 CO).2.2.1) [dU] [] (G6 CO).2.2.2/\(kg [dU]&& !eA (G6 CO).1&&((G6 CO).2.2.1.endLine==(G6 CO).2.2.2.line))=true/\(ey yr).1=CO:=⟨by rfl',by rfl',rfl⟩
theorem RW(h:T)(c:aa)(K:Kn):ai (lx A P Bq) 34 (G6 CO).1 (oU l os ops h) c K=K (.ok (.t (.bytes []))) c:=by rfl'
theorem RX(c:aa):gD (lx A P Bq) c (.t (.bytes [])) (G6 CO).2.1=some (.bi .join):=by rfl'
theorem RY(ps:List (String×List UInt8))(Q:List V->Bool)(hQ:Q [.t (.bytes os)]=true)(hj:(ps.flatMap fun p=>p.2)=os)(hb:os.length<=big)(k:Ko):aD (lx A (cp Q (.ok (.t (.lst (il (ps.map fun p=>(p.1,((p.2.length:Nat):Int)))))))) Bq) 38 G5 (oU l os ops (.lst (ps.map fm))) [] k=k .next (oU l os ops (.lst (ps.map fm))) []:=by
 generalize hP:cp Q (.ok (.t (.lst (il (ps.map fun p=>(p.1,((p.2.length:Nat):Int)))))))=P
 obtain⟨h1,h2,h3,h4,h5,h6,h7,h8,h9,ha,hc⟩:=RP
 rw[h1,ei,h2,mz,MP,h3]
 have e1:∀K:Kn,ai (lx A P Bq) 35 dJ (oU l os ops (.lst (ps.map fm))) [] K=K (.ok (.t (.lst (il (ps.map fun p=>(p.1,((p.2.length:Nat):Int))))))) []:=fun K=>by
  rw[h5,cr (lx A P Bq) 34 _ _ _ _ _ _ _ _ _ _ _ ha (RT A P Bq l os ops (ps.map fm) []),(RV l os ops (.lst (ps.map fm))).1]
  refine Eq.trans (Jd A P Bq [] _ ps [] none) ?_
  rw[List.nil_append,bY]
 have e2:∀K:Kn,ai (lx A P Bq) 35 (ey DQ).2 (oU l os ops (.lst (ps.map fm))) [] K=K (.ok (.t (.lst (il (ps.map fun p=>(p.1,((p.2.length:Nat):Int))))))) []:=fun K=>by
  rw[<-hP];exact WY A Bq l os ops _ _ Q hQ [] K
 rw[<-h3,h3,dI (lx A P Bq) 35 dJ (ey DQ).2 .NotEq _ _ _ _ _ _ _ _ _ false h8 e1 e2 (MQ [] _ (fun b h=>by cases h) (MR _) (MS _))]
 simp only[cond_false]
 rw[h4]
 have e3:∀K:Kn,ai (lx A P Bq) 35 (ey yr).1 (oU l os ops (.lst (ps.map fm))) [] K=K (.ok (.t (.bytes os))) []:=fun K=>by
  obtain⟨j1,j2,j3⟩:=MT
  rw[j3,j1,uO (lx A P Bq) 34 _ _ _ _ _ _ _ _ _ _ j2 (fun K=>RW A P Bq l os ops (.lst (ps.map fm)) [] K) (RX A P Bq []),nK,h6,cr (lx A P Bq) 33 _ _ _ _ _ _ _ _ _ _ _ hc (RU A P Bq l os ops (ps.map fm) []),(RV l os ops (.lst (ps.map fm))).2]
  refine Eq.trans (Je A P Bq [] _ ps [] none) ?_
  rw[List.nil_append,bY]
  show ob (oi ((ps.map fun p=>T.bytes p.2).map .t)) (fun b=>bif decide (b.length<=big)then K (.ok (.t (.bytes b))) []else none)=_
  rw[sU,hj]
  show(bif decide (_<=big)then _ else none)=_
  rw[cD hb]
 rw[dI (lx A P Bq) 35 (ey yr).1 (ey yr).2 .NotEq _ _ _ _ _ _ _ _ _ false h9 e3 (fun K=>WZ A P Bq l os ops (.lst (ps.map fm)) [] K) (WW [] os)]
 simp only[cond_false]
 rw[h7,bR]
end
noncomputable def RZ:Expr:=match Jb with| .For _ it _ _ _=>it|_=>dk
noncomputable def W0:Pos:=match Jb with| .For _ _ _ _ p=>p|_=>⟨0,0,0,0⟩
theorem MU:Jb= .For (a7 Jb) RZ (aV Jb) [] W0/\Od.body=[fu (fB (aR pW 134)) 0,G5,Jb,fu (fB (aR pW 134)) 3]:=⟨by rfl',by rfl'⟩
noncomputable def wI(l:T)(os:List UInt8)(ops h:T):Option (String×List UInt8)->Loc
 |none=>oU l os ops h
 |some p=>oU l os ops h++[(st "word",.t (Z p.1)),(st "piece",.t (.bytes p.2))]
noncomputable def nN:List Op->Option Int
 |[]=>none
 | .mem _ _ _ w _ _::_=>some w
 |_::r=>nN r
noncomputable def jh:List Op->Option Int
 |[]=>none
 | .gz w::_=>some w
 | .rel w::_=>some w
 |_::r=>jh r
noncomputable def Op.isVal:Op->Bool| .gz _=>true| .rel _=>true|_=>false
section
variable(A P Bq:Spec)(l:T)(os:List UInt8)(ops h:T)
noncomputable abbrev fQ(rest:List T)(L:Loc)(c:aa)(k:Ko):aq:=bM Od.scope (ah (lx A P Bq) 36) (a7 Jb) (aV Jb) rest L c k
theorem MV(xs:List T)(c:aa)(K:Bool->List T->aa->aq)(kx:Kx):dQ (lx A P Bq) 36 RZ (oU l os ops (.lst xs)) c K kx=K false xs c:=by rfl'
theorem G7(b:List UInt8)(rest:List T)(t:Option (String×List UInt8))(c:aa)(k:Ko):["prefixes","opcode","modrm","sib"].map (fun s=>fQ A P Bq (fm (s,b)::rest) (wI l os ops h t) c k)=["prefixes","opcode","modrm","sib"].map (fun s=>fQ A P Bq rest (wI l os ops h (some (s,b))) c k):=by induction t<;>rfl'
theorem mB(s:String)(b:List UInt8)(rest:List T)(t:Option (String×List UInt8))(c:aa)(k:Ko):fQ A P Bq (fm (s,b)::rest) (wI l os ops h t) c k=fQ A P Bq (fm (s,b)::rest) (wI l os ops h none) c k:=by induction t<;>rfl'
theorem G8{dM:List Op}{w:Int}(hl:dM.length<=2)(hm:nN dM=some w)(h2:∀a b,dM=[a,b]->(a.cu&&b.cu)=false){P:List Op->Prop}(c1:∀b i s z g,P [.mem b i s w z g])(c2:∀b i s z g a,a.cu=false->P [.mem b i s w z g,a])(c3:∀b i s z g a,a.cu=false->P [a,.mem b i s w z g]):P dM:=by
 rcases two hl with rfl|⟨a,rfl⟩|⟨a,a',rfl⟩
 ·exact nn hm
 ·induction a with
  |mem b i s x z g=>exact Option.some.inj hm▸c1 b i s z g
  |_=>exact nn hm
 ·cases e:a.cu with
  |true=>induction a with
   |mem b i s x z g=>exact Option.some.inj hm▸c2 b i s z g a' (h2 _ _ rfl)
   |_=>exact nomatch e
  |false=>induction a' with
   |mem b i s x z g=>exact(show x=w by induction a<;>first|exact Option.some.inj hm|exact nomatch e)▸c3 b i s z g a e
   |_=>exact(nomatch (show(none:Option Int)=some w by induction a<;>first|exact hm|exact nomatch e))
noncomputable abbrev Yo(Q:List V->Bool)(w:Int)(b:List UInt8)(rest:List T)(k:Ko)(dM:List Op):Prop:=fQ A P (cp Q (.ok (.t (B true)))) (fm ("disp",b)::rest) (wI l os (.tup (dM.map Op.told)) h none) [] k=
  bif Q [.t (.bytes b),.t (.int w)]then fQ A P (cp Q (.ok (.t (B true)))) rest (wI l os (.tup (dM.map Op.told)) h (some ("disp",b))) [.lst []] k else none
theorem wJ(Q:List V->Bool)(dM:List Op)(w:Int)(hl:dM.length<=2)(hm:nN dM=some w)(h2:∀a b,dM=[a,b]->(a.cu&&b.cu)=false)(b:List UInt8)(rest:List T)(k:Ko):Yo A P l os h Q w b rest k dM:=by
 refine G8 (P:=Yo A P l os h Q w b rest k) hl hm h2 (fun _ _ _ _ _=> ?_) (fun _ _ _ _ _ a e=> ?_) (fun _ _ _ _ _ a e=> ?_)
 ·rfl'
 ·induction a with
  |mem=>exact nomatch e
  |_=>rfl'
 ·induction a with
  |mem=>exact nomatch e
  |_=>rfl'
theorem G9{dM:List Op}{w:Int}(hl:dM.length<=2)(hm:jh dM=some w)(h2:∀a b,dM=[a,b]->(a.isVal&&b.isVal)=false){P:List Op->Prop}(c1:∀v,v.isVal=true->jh [v]=some w->P [v])(c2:∀v a,v.isVal=true->jh [v]=some w->a.isVal=false->P [v,a])(c3:∀v a,v.isVal=true->jh [v]=some w->a.isVal=false->P [a,v]):P dM:=by
 rcases two hl with rfl|⟨a,rfl⟩|⟨a,b,rfl⟩
 ·exact nn hm
 ·exact c1 a (by induction a<;>first|rfl|exact nn hm) hm
 ·cases e:a.isVal with
  |true=>exact c2 a b e (by induction a<;>first|exact hm|exact nomatch e) ((congrArg (·&&b.isVal) e).symm.trans (h2 a b rfl))
  |false=>
   have hb:jh [b]=some w:=by induction a<;>first|exact hm|exact nomatch e
   exact c3 b a (by induction b<;>first|rfl|exact nn hb) hb e
noncomputable abbrev Uj(Q:List V->Bool)(w:Int)(b:List UInt8)(rest:List T)(k:Ko)(dM:List Op)(e:Bool):Prop:=fQ A P (cp Q (.ok (.t (B true)))) (fm ("imm",b)::rest) (wI l os (.tup (dM.map Op.told)) h none) (bif e then[.lst []]else[]) k=
  bif Q [.t (.bytes b),.t (.int w)]then fQ A P (cp Q (.ok (.t (B true)))) rest (wI l os (.tup (dM.map Op.told)) h (some ("imm",b))) (bif e then[.lst [],.lst []]else[.lst []]) k else none
theorem wK(Q:List V->Bool)(w:Int)(b:List UInt8)(rest:List T)(k:Ko):(∀e,Uj A P l os h Q w b rest k [.gz w] e)/\∀e,Uj A P l os h Q w b rest k [.rel w] e:=⟨fun e=>by induction e<;>rfl',fun e=>by induction e<;>rfl'⟩
set_option maxHeartbeats 0 in
theorem CP(Q:List V->Bool)(dM:List Op)(w:Int)(hl:dM.length<=2)(hm:jh dM=some w)(h2:∀a b,dM=[a,b]->(a.isVal&&b.isVal)=false)(e:Bool)(b:List UInt8)(rest:List T)(k:Ko):Uj A P l os h Q w b rest k dM e:=by
 refine G9 (P:=fun dM=>Uj A P l os h Q w b rest k dM e) hl hm h2 (fun v hv hi=> ?_) (fun v a hv hi ha=> ?_) (fun v a hv hi ha=> ?_)
 ·induction v with
  |gz i=>cases (show i=w from Option.some.inj hi);exact(wK A P l os h Q w b rest k).1 e
  |rel i=>cases (show i=w from Option.some.inj hi);exact(wK A P l os h Q w b rest k).2 e
  |_=>exact nomatch hv
 ·induction v with
  |gz i=>cases (show i=w from Option.some.inj hi);induction a with
   |gz=>exact nomatch ha
   |rel=>exact nomatch ha
   |_=>induction e<;>rfl'
  |rel i=>cases (show i=w from Option.some.inj hi);induction a with
   |gz=>exact nomatch ha
   |rel=>exact nomatch ha
   |_=>induction e<;>rfl'
  |_=>exact nomatch hv
 ·induction v with
  |gz i=>cases (show i=w from Option.some.inj hi);induction a with
   |gz=>exact nomatch ha
   |rel=>exact nomatch ha
   |_=>induction e<;>rfl'
  |rel i=>cases (show i=w from Option.some.inj hi);induction a with
   |gz=>exact nomatch ha
   |rel=>exact nomatch ha
   |_=>induction e<;>rfl'
  |_=>exact nomatch hv
theorem CQ(rest:List T)(k:Ko)(c:aa):∀(ps:List (String×List UInt8)) (t:Option (String×List UInt8)),(∀p∈ps,p.1∈["prefixes","opcode","modrm","sib"])->∃t',fQ A P Bq (ps.map fm++rest) (wI l os ops h t) c k=fQ A P Bq rest (wI l os ops h t') c k
 |[],t,_=>⟨t,rfl⟩
 |p::ps,t,hp=>by
  obtain⟨t',ht⟩:=CQ rest k c ps (some p) fun q hq=>hp q (List.mem_cons_of_mem _ hq)
  refine⟨t',?_⟩
  rw[<-ht]
  exact List.map_inj_left.mp (G7 ..) p.1 (hp p List.mem_cons_self)
theorem qK(t:Option (String×List UInt8))(c:aa)(k:Kn)(c0:aa):ah (lx A P Bq) 37 [fu (fB (aR pW 134)) 3] (wI l os ops h t) c (KK c0 k)=k (.ok (.t (B true))) c0:=by induction t<;>rfl'
end
noncomputable def dL:Option (List UInt8)->List (String×List UInt8)|some b=>[("disp",b)]|none=>[]
noncomputable def iL:Option (List UInt8)->List (String×List UInt8)|some b=>[("imm",b)]|none=>[]
theorem MW(l:T)(os:List UInt8)(dM:List Op)(hl:dM.length<=2)(pre:List (String×List UInt8))(dd ii:Option (List UInt8))(wd wi:Int)(sV:∀p∈pre,p.1∈["prefixes","opcode","modrm","sib"])
  (hd:dd.isSome=true->nN dM=some wd) (hi:ii.isSome=true->jh dM=some wi) (h2:∀a b,dM=[a,b]->(a.cu&&b.cu)=false) (h3:∀a b,dM=[a,b]->(a.isVal&&b.isVal)=false)
  (Q1 Q2 Q3:List V->Bool) (MX:Q1 [.t l,.t (.bytes os),.t (I 0)]=true) (R0:Q2 [.t (.bytes os)]=true) (Yp:∀b,dd=some b->Q3 [.t (.bytes b),.t (.int wd)]=true) (Yq:∀b,ii=some b->Q3 [.t (.bytes b),.t (.int wi)]=true)
  (ps:List (String×List UInt8)) (ZK:ps=pre++dL dd++iL ii) (hj:(ps.flatMap fun p=>p.2)=os) (hb:os.length<=big) (c:aa) (k:Kn):
  an bD (Ja (cp Q1 (.ok (.t (.lst (ps.map fm))))) (cp Q2 (.ok (.t (.lst (il (ps.map fun p=>(p.1,((p.2.length:Nat):Int)))))))) (cp Q3 (.ok (.t (B true))))) Od [.t l,.t (.bytes os),.t (.tup (dM.map Op.told))] [] (pk c k)=k (.ok (.t (B true))) c:=by
 generalize hA:cp Q1 (.ok (.t (.lst (ps.map fm))))=A
 generalize hP:cp Q2 (.ok (.t (.lst (il (ps.map fun p=>(p.1,((p.2.length:Nat):Int)))))))=P
 obtain⟨s1,s2⟩:=MU
 rw[mv (l:=[(st "iset",.t l),(st "octets",.t (.bytes os)),(st "operands",.t (.tup (dM.map Op.told)))]) (by rfl'),s2,af]
 have e0:∀K:Ko,aD (lx A P (cp Q3 (.ok (.t (B true))))) 39 (fu (fB (aR pW 134)) 0) [(st "iset",.t l),(st "octets",.t (.bytes os)),(st "operands",.t (.tup (dM.map Op.told)))] [] K=K .next (oU l os (.tup (dM.map Op.told)) (.lst (ps.map fm))) []:=fun K=>by
  rw[<-hA,WX,MX];rfl
 have e1:∀K:Ko,aD (lx A P (cp Q3 (.ok (.t (B true))))) 38 G5 (oU l os (.tup (dM.map Op.told)) (.lst (ps.map fm))) [] K=K .next (oU l os (.tup (dM.map Op.told)) (.lst (ps.map fm))) []:=fun K=>by
  rw[<-hP];exact RY A _ l os _ ps Q2 R0 hj hb K
 rw[e0,aj,af,e1,aj,af,s1,jV (lx A P (cp Q3 (.ok (.t (B true))))) 36 _ _ _ _ _ _ _ _ _ (MV A P _ l os _ (ps.map fm) [])]
 have W1:ps.map fm=pre.map fm++(dL dd++iL ii).map fm:=by rw[ZK,List.append_assoc,List.map_append]
 clear e0 e1
 generalize T.lst (ps.map fm)=H
 rw[W1]
 obtain⟨t1,h1⟩:=CQ A P (cp Q3 (.ok (.t (B true)))) l os (.tup (dM.map Op.told)) H ((dL dd++iL ii).map fm) (dy (lx A P (cp Q3 (.ok (.t (B true))))) 37 [fu (fB (aR pW 134)) 3] (KK c k)) [] pre none sV
 refine Eq.trans h1 ?_
 induction dd with
 |none=>
  induction ii with
  |none=>exact qK A P (cp Q3 (.ok (.t (B true)))) l os (.tup (dM.map Op.told)) H t1 [] k c
  |some b=>
   show fQ A P (cp Q3 (.ok (.t (B true)))) (fm ("imm",b)::[]) (wI l os (.tup (dM.map Op.told)) H t1) [] _=_
   rw[mB]
   refine Eq.trans (CP A P l os H Q3 dM wi hl (hi rfl) h3 false b [] _) ?_
   rw[Yq b rfl]
   exact qK A P (cp Q3 (.ok (.t (B true)))) l os (.tup (dM.map Op.told)) H (some ("imm",b)) [.lst []] k c
 |some b=>
  induction ii with
  |none=>
   show fQ A P (cp Q3 (.ok (.t (B true)))) (fm ("disp",b)::[]) (wI l os (.tup (dM.map Op.told)) H t1) [] _=_
   rw[mB]
   refine Eq.trans (wJ A P l os H Q3 dM wd hl (hd rfl) h2 b [] _) ?_
   rw[Yp b rfl]
   exact qK A P (cp Q3 (.ok (.t (B true)))) l os (.tup (dM.map Op.told)) H (some ("disp",b)) [.lst []] k c
  |some b' =>
   show fQ A P (cp Q3 (.ok (.t (B true)))) (fm ("disp",b)::[fm ("imm",b')]) (wI l os (.tup (dM.map Op.told)) H t1) [] _=_
   rw[mB]
   refine Eq.trans (wJ A P l os H Q3 dM wd hl (hd rfl) h2 b _ _) ?_
   rw[Yp b rfl]
   refine Eq.trans (mB A P (cp Q3 (.ok (.t (B true)))) l os (.tup (dM.map Op.told)) H "imm" b' [] (some ("disp",b)) _ _) ?_
   refine Eq.trans (CP A P l os H Q3 dM wi hl (hi rfl) h3 true b' [] _) ?_
   rw[Yq b' rfl]
   exact qK A P (cp Q3 (.ok (.t (B true)))) l os (.tup (dM.map Op.told)) H (some ("imm",b')) [.lst [],.lst []] k c
noncomputable def lQ:List (String×Nat)->Nat
 |[]=>0
 |p::r=>p.2+lQ r
theorem lz:∀(yv:List (String×Nat)) (os:List UInt8),((bq os yv).flatMap fun p=>p.2)=os.take (lQ yv)
 |[],os=>by rw[bq,List.flatMap_nil,lQ,List.take_zero]
 |(s,n)::r,os=>by
  rw[bq,List.flatMap_append,lz r,lQ]
  by_cases h:n=0
  ·subst h
   rw[if_pos rfl,List.flatMap_nil,List.drop_zero,List.nil_append,Nat.zero_add]
  ·rw[if_neg h,List.flatMap_cons,List.flatMap_nil,List.append_nil]
   show os.take n++(os.drop n).take (lQ r)=os.take (n+lQ r)
   rw[List.take_add]
theorem nO:∀(yv:List (String×Nat)) (os:List UInt8),lQ yv<=os.length->(bq os yv).map (fun p=>(p.1,((p.2.length:Nat):Int)))=(yv.map fun p=>(p.1,(p.2:Int))).filter fun p=>decide (0<p.2)
 |[],os,_=>rfl
 |(s,n)::r,os,h=>by
  rw[lQ]at h
  rw[bq,List.map_append,nO r _ (by rw[List.length_drop];omega),List.map_cons,List.filter_cons]
  by_cases q:n=0
  ·subst q
   rw[if_pos rfl]
   rfl
  ·rw[if_neg q,show decide (0<((n:Nat):Int))=true from decide_eq_true (by lia)]
   show(s,(((os.take n).length:Nat):Int))::_=(s,(n:Int))::_
   rw[List.length_take,show min n os.length=n by lia]
   rfl
theorem wL(d:Fd):uz d.m=eh d.m.isSome+eh d.mm.az.isSome+d.mm.cj.length:=by
 unfold Fd.mm
 induction d.m with
 |none=>rfl
 |some m=>rfl
theorem sW(d:Fd):lQ (nG d)=d.len+d.f.ce:=by
 have h1:d.len=d.p.cnt+1+d.e+uz d.m:=rfl
 rw[h1,wL]
 show d.p.cnt+(1+d.e+(eh d.m.isSome+(eh d.mm.az.isSome+(d.mm.cj.length+(d.f.ce+0)))))=_
 lia
theorem Ha{s:List UInt8}{m:dR}{n:Nat}(h:eg s= .done m n):m.cj=(s.drop (1+eh m.az.isSome)).take m.cj.length:=
 eY h fun o i k h1 h2 e=>eY h2 fun az i2 k2 h3 h4 f=>eY h4 fun d i3 k3 h5 h6 g=>by
  cases (bW h6).1
  have t:=dB h5
  show d=(s.drop (1+eh az.isSome)).take d.length
  rw[t.2.2,<-(sE h3).1,<-(gY h1).1,<-List.drop_drop]
  exact t.2.1
theorem Hb:∀fl:Bool,((ab fl).all fun f=> !f.jP||f.kinds.any (·.slot.qz))=true:=by intro fl;induction fl<;>decide+kernel
theorem wM(m:dR)(x b size:Nat)(seg:Seg):nN [lq m x b size seg]=some (cG m.cj):=by
 unfold lq
 induction m.az with
 |none=>rfl
 |some s=>dsimp only;split<;>rfl
theorem wN:∀(ops:List Op) (w:Int),(∃o∈ops,nN [o]=some w)->(∀o∈ops,∀v,nN [o]=some v->v=w)->nN ops=some w
 |[],w,h,_=>by obtain⟨o,ho,_⟩:=h;cases ho
 |a::r,w,h,h2=>by
  cases ha:a with
  |mem _ _ _ v _ _=>
   have:=h2 a List.mem_cons_self v (by rw[ha];rfl)
   rw[this];rfl
  |_=>
   show nN r=some w
   refine wN r w ?_ fun o ho=>h2 o (List.mem_cons_of_mem _ ho)
   obtain⟨o,ho,hv⟩:=h
   cases List.mem_cons.mp ho with
   |inl e=>rw[e,ha]at hv;cases hv
   |inr h=>exact⟨o,h,hv⟩
theorem CR{d:Fd}{im:List UInt8}{k:bz}{v:Int}(h:nN [bl d im k]=some v):v=cG d.mm.cj:=by
 unfold bl at h
 cases hs:k.slot with
 |rm=>
  rw[hs]at h
  dsimp only at h
  by_cases q:d.mm.mod=3
  ·rw[if_pos q]at h;cases h
  ·rw[if_neg q,wM]at h;cases h;rfl
 |aA=>rw[hs]at h;cases h
 |plus=>rw[hs]at h;cases h
 |fixed=>rw[hs]at h;cases h
 |gz=>rw[hs]at h;dsimp only at h;unfold yT at h;split at h<;>cases h
 |rel=>rw[hs]at h;dsimp only at h;unfold yT at h;split at h<;>cases h
theorem Hc{fl:Bool}{d:Fd}(hf:d.f∈ab fl)(hM:d.f.jP=d.m.isSome)(ok:∀m,d.m=some m->m.Ok)(im:List UInt8)(hd:0<d.mm.cj.length):nN (d.f.kinds.map (bl d im))=some (cG d.mm.cj):=by
 refine wN _ _ ?_ fun o ho v hv=> ?_
 ·cases hm:d.m with
  |none=>unfold Fd.mm at hd;rw[hm]at hd;exact absurd hd (Nat.lt_irrefl 0)
  |some m=>
   have Wl:d.mm=m:=by unfold Fd.mm;rw[hm];rfl
   rw[hm]at hM
   have:=List.all_eq_true.mp (Hb fl) d.f hf
   rw[hM]at this
   obtain⟨k,hk,hs⟩:=List.any_eq_true.mp this
   have hs:k.slot= .rm:=by cases h:k.slot<;>rw[h]at hs<;>first|rfl|cases hs
   refine⟨_,List.mem_map.mpr ⟨k,hk,rfl⟩,?_⟩
   have h3:d.mm.mod≠3:=fun q=>by
    have:=(ok m hm).cj
    rw[Wl]at q hd
    unfold gW at this
    rw[if_pos q]at this
    lia
   unfold bl
   rw[hs]
   dsimp only
   rw[if_neg h3,wM]
 ·obtain⟨k,_,rfl⟩:=List.mem_map.mp ho
  exact CR hv
theorem W2:∀fl:Bool,((ab fl).all fun f=>match f.kinds with
  |[]=>Nat.beq f.ce 0
  |[a]=>Nat.beq f.ce 0||(a∈kQ++kR++kT)
  |[a,b]=> !(a∈kQ++kR++kT)&&(Nat.beq f.ce 0||(b∈kQ++kR++kT))
  |_=>false)=true:=by intro fl;induction fl<;>decide+kernel
theorem CS:∀k∈kQ++kR++kT,k.slot= .gz\/k.slot= .rel:=by intro q hq;simp only[kQ,kR,kT,List.mem_append,List.mem_cons,List.not_mem_nil,or_false]at hq;rcases hq with((rfl|rfl)|(rfl|rfl))|(rfl|rfl|rfl|rfl|rfl|rfl)<;>first|exact .inl rfl|exact .inr rfl
theorem He:∀k:bz,k∉kQ++kR++kT->k.slot≠.gz/\k.slot≠.rel:=by intro k h;cases k<;>first|exact absurd (by decide) h|exact⟨fun h=>(by cases h),fun h=>(by cases h)⟩
theorem wO(k:bz)(b:List UInt8):∃w,jh [yT k b]=some w/\(w=f8 b\/w=f8 b-((256^b.length:Nat):Int)):=by
 unfold yT
 split
 ·exact⟨_,rfl,jY b⟩
 ·exact⟨_,rfl,jY b⟩
 ·exact⟨_,rfl,jY b⟩
 ·exact⟨_,rfl,jY b⟩
 ·exact⟨_,rfl,G4 b⟩
theorem sX(d:Fd)(im:List UInt8){k:bz}(h:k∈kQ++kR++kT):bl d im k=yT k im:=by
 unfold bl
 cases CS k h with
 |inl h=>rw[h]
 |inr h=>rw[h]
theorem yw(d:Fd)(im:List UInt8){k:bz}(h:k∉kQ++kR++kT):(bl d im k).isVal=false:=by
 obtain⟨h1,h2⟩:=He k h
 unfold bl
 cases hs:k.slot with
 |gz=>exact absurd hs h1
 |rel=>exact absurd hs h2
 |rm=>
  dsimp only
  split
  ·rfl
  ·unfold lq
   induction d.mm.az with
   |none=>rfl
   |some s=>dsimp only;split<;>rfl
 |_=>rfl
theorem yx(a:Op)(r:List Op)(h:a.isVal=false):jh (a::r)=jh r:=by cases a<;>first|rfl|cases h
theorem wP{fl:Bool}{d:Fd}(hf:d.f∈ab fl)(im:List UInt8):(∀a b,d.f.kinds.map (bl d im)=[a,b]->(a.isVal&&b.isVal)=false)/\(0<d.f.ce->∃w,jh (d.f.kinds.map (bl d im))=some w/\(w=f8 im\/w=f8 im-((256^im.length:Nat):Int))):=by
 have h:=List.all_eq_true.mp (W2 fl) d.f hf
 cases hk:d.f.kinds with
 |nil=>
  rw[hk]at h
  exact⟨fun a b e=>(by cases e),fun hw=>by rw[Nat.eq_of_beq_eq_true h]at hw;exact absurd hw (Nat.lt_irrefl 0)⟩
 |cons q r=>induction r with
  |nil=>
   rw[hk]at h
   refine⟨fun a b e=>(by cases e),fun hw=> ?_⟩
   have hq:q∈kQ++kR++kT:=by
    have h:(Nat.beq d.f.ce 0||decide (q∈kQ++kR++kT))=true:=h
    cases Bool.or_eq_true_iff.mp h with
    |inl h=>rw[Nat.eq_of_beq_eq_true h]at hw;exact absurd hw (Nat.lt_irrefl 0)
    |inr h=>exact of_decide_eq_true h
   show∃w,jh [bl d im q]=some w/\_
   rw[sX d im hq]
   exact wO q im
  |cons q' r=>induction r with
   |cons _ _=>rw[hk]at h;cases h
   |nil=>
    rw[hk]at h
    have h:(!decide (q∈kQ++kR++kT)&&(Nat.beq d.f.ce 0||decide (q' ∈kQ++kR++kT)))=true:=h
    obtain⟨h1,h2⟩:=Bool.and_eq_true_iff.mp h
    have h1:q∉kQ++kR++kT:=by
     intro hh
     rw[decide_eq_true hh]at h1;cases h1
    have n1:=yw d im h1
    refine⟨fun a b e=>(by cases e;rw[n1];rfl),fun hw=> ?_⟩
    have hq:q' ∈kQ++kR++kT:=by
     cases Bool.or_eq_true_iff.mp h2 with
     |inl h=>rw[Nat.eq_of_beq_eq_true h]at hw;exact absurd hw (Nat.lt_irrefl 0)
     |inr h=>exact of_decide_eq_true h
    show∃w,jh [bl d im q,bl d im q']=some w/\_
    rw[yx _ _ n1,sX d im hq]
    exact wO q' im
noncomputable def lR(s:String)(b:List UInt8)(n:Nat):List (String×List UInt8):=if n=0 then[]else[(s,b)]
theorem CT(d:Fd)(os:List UInt8):bq os (nG d)=(lR "prefixes" (os.take d.p.cnt) d.p.cnt++lR "opcode" ((os.drop d.p.cnt).take (1+d.e)) (1+d.e)++lR "modrm" ((os.drop (d.p.cnt+(1+d.e))).take (eh d.m.isSome)) (eh d.m.isSome)++lR "sib" ((os.drop (d.p.cnt+(1+d.e)+eh d.m.isSome)).take (eh d.mm.az.isSome)) (eh d.mm.az.isSome))++
  lR "disp" ((os.drop (d.p.cnt+(1+d.e)+eh d.m.isSome+eh d.mm.az.isSome)).take d.mm.cj.length) d.mm.cj.length++lR "imm" ((os.drop (d.p.cnt+(1+d.e)+eh d.m.isSome+eh d.mm.az.isSome+d.mm.cj.length)).take d.f.ce) d.f.ce:=by
 unfold nG lR
 rw[bq,bq,bq,bq,bq,bq,bq,List.drop_drop,List.drop_drop,List.drop_drop,List.drop_drop,List.append_nil]
 simp only[List.append_assoc]
theorem CU{s:String}{b:List UInt8}{n:Nat}{p:String×List UInt8}(h:p∈lR s b n):p.1=s:=by
 unfold lR at h
 split at h
 ·cases h
 ·cases List.mem_singleton.mp h;rfl
theorem Jf(b:List UInt8)(n:Nat):lR "disp" b n=dL (if n=0 then none else some b)/\lR "imm" b n=iL (if n=0 then none else some b):=by
 unfold lR
 split<;>exact⟨rfl,rfl⟩
theorem Jg(d:Fd):d.p.cnt+(1+d.e)+eh d.m.isSome+eh d.mm.az.isSome+d.mm.cj.length=d.len:=by
 have h:d.len=d.p.cnt+1+d.e+uz d.m:=rfl
 rw[h,wL d,<-Nat.add_assoc,<-Nat.add_assoc,<-Nat.add_assoc]
theorem R3{d:Fd}{os:List UInt8}(Ui:∀m,d.m=some m->eg (os.drop (d.p.cnt+1+d.e))= .done m m.len)(hp:0<d.mm.cj.length):(os.drop (d.p.cnt+(1+d.e)+eh d.m.isSome+eh d.mm.az.isSome)).take d.mm.cj.length=d.mm.cj:=by
 obtain⟨p,e,o,m,f⟩:=d
 induction m with
 |none=>exact absurd hp (Nat.lt_irrefl 0)
 |some m=>
  have t:=Ha (Ui m rfl)
  rw[List.drop_drop,<-Nat.add_assoc]at t
  exact(Nat.add_assoc p.cnt 1 e▸t).symm
section
variable{n:Nat}{b x:List UInt8}
theorem oO(h:(if n=0 then none else some b)=some x):0<n/\b=x:=by
 by_cases q:n=0
 ·rw[if_pos q]at h;exact nn h
 ·rw[if_neg q]at h;exact⟨Nat.pos_of_ne_zero q,Option.some.inj h⟩
theorem oS(h:(if n=0 then none else some b).isSome=true):0<n:=by
 by_cases q:n=0
 ·rw[if_pos q]at h;exact ft h
 ·exact Nat.pos_of_ne_zero q
end
noncomputable abbrev MY(p q:Nat)(a1 a2:List V):List V->Bool:=fun a=>(decide (0<p)&&isA a1 a)||(decide (0<q)&&isA a2 a)
theorem MZ{n m a p q:Nat}{t1 t2:List T}{r:Option T}(kp:has a=true)(hm:n<=m)(h1:0<p->aH n a t1 r)(h2:0<q->aH n a t2 r):bG m a (cp (MY p q (t1.map .t) (t2.map .t)) (jM r)):=gU (eI kp) fun args c k out e=>aE e fun q e1=>(Bool.or_eq_true_iff.mp q).elim
  (fun q=>am q fun q1 q2=>by
   rw[db q2]
   exact(h1 (of_decide_eq_true q1)).gives hm e1)
  fun q=>am q fun q1 q2=>by
   rw[db q2]
   exact(h2 (of_decide_eq_true q1)).gives hm e1
theorem ZL{p q:Nat}{a1 a2:List V}(h:0<p):MY p q a1 a2 a1=true:=Bool.or_eq_true_iff.mpr (.inl (Bool.and_eq_true_iff.mpr ⟨decide_eq_true h,aK _⟩))
theorem ZM{p q:Nat}{a1 a2:List V}(h:0<q):MY p q a1 a2 a2=true:=Bool.or_eq_true_iff.mpr (.inr (Bool.and_eq_true_iff.mpr ⟨decide_eq_true h,aK _⟩))
theorem R7{fl:Bool}{f:Form}(hf:f∈ab fl){d:Fd}(e:d.f=f)(im:List UInt8):∃wi,0<d.f.ce->jh (d.f.kinds.map (bl d im))=some wi/\(wi=f8 im\/wi=f8 im-((256^im.length:Nat):Int)):=by
 by_cases q:0<d.f.ce
 ·exact((wP (d:=d) (e▸hf) im).2 q).elim fun w hw=>⟨w,fun _=>hw⟩
 ·exact⟨0,fun h=>absurd h q⟩
theorem Hf(fl:Bool){os:List UInt8}{x:Dec}{n:Nat}(h:aO (ab fl) os= .done x n)(hn:n=os.length):aH 24 1244 [ag (ab fl),.bytes os,.tup (x.ops.map Op.told)] (some (B true)):=by
 have D:=eP h
 have R:=eO D.2.2.1
 refine(gZ D.2.2.2.1).2.elim fun im O=>(R7 R.1 rfl im).elim fun wi W3=> ?_
 have T:=dB O.1
 have hM:x.d.f.jP=x.d.m.isSome:=(uL fl _ (sF fl x.d.e x.d.o) x.d.f (List.mem_of_find?_eq_some R.2.2.2.1)).trans R.2.2.2.2.1
 have hlen:lQ (nG x.d)=os.length:=(sW x.d).trans (D.1.symm.trans hn)
 have CV:=nI fl h
 rw[show kX x.d= .lst (il ((bq os (nG x.d)).map fun p=>(p.1,((p.2.length:Nat):Int)))) by rw[nO _ _ (Nat.le_of_eq hlen)];rfl]at CV
 have O6:x.d.mm.cj.length<=15:=Nat.le_trans (Nat.le_trans (Jg x.d▸Nat.le_add_left _ _) (D.1▸Nat.le_add_right _ _)) D.2.1
 have ZN:x.d.f.ce<=15:=Nat.le_trans (D.1▸Nat.le_add_left _ _) D.2.1
 have hv:=(wP R.1 im).1
 rw[<-O.2]at W3 hv
 have sp:=CT x.d os
 rw[Jg,(Jf _ _).1,(Jf _ _).2]at sp
 have i3:=MZ (m:=23) (p:=x.d.mm.cj.length) (q:=x.d.f.ce) (t1:=[.bytes x.d.mm.cj,.int (cG x.d.mm.cj)]) (t2:=[.bytes im,.int wi]) (a:=1239) (r:=some (B true)) (by decide+kernel) (by decide)
  (fun hp=>nL _ (Nat.le_trans O6 (by decide)) _ (by unfold cG;rw[if_neg (Nat.ne_of_gt hp)];exact jY _)) fun hp=>nL _ (by rw[T.2.2];exact Nat.le_trans ZN (by decide)) _ (W3 hp).2
 refine ak PN (aP (by decide) _ ((bf (n' :=22) (args:=[.t (ag (ab fl)),.t (.bytes os),.t (I 0)]) trivial (ym fl h) (by decide) rfl).all ((bf (n' :=22) (args:=[.t (.bytes os)]) trivial CV (by decide) rfl).all (i3.all .aW)))) fun c k=> ?_
 refine MW (ag (ab fl)) os x.ops (qC h) _ _ _ (cG x.d.mm.cj) wi (fun p hp=> ?_) (fun hs=>O.2▸Hc R.1 hM R.2.1.ok im (oS hs)) (fun hs=>(W3 (oS hs)).1) (GE h) hv _ _ _ (aK _) (aK _) (fun b hb=> ?_) (fun b hb=> ?_) _ sp (by rw[lz,hlen,List.take_length]) (Nat.le_trans (hn▸D.2.1) (by decide)) c k
 ·simp only[List.mem_append]at hp
  rcases hp with((hp|hp)|hp)|hp<;>rw[CU hp]<;>decide
 ·have q:=oO hb
  rw[<-q.2,R3 R.2.2.2.2.2.2.2 q.1]
  exact ZL q.1
 ·have q:=oO hb
  rw[<-q.2,<-T.2.1]
  exact ZM q.1
noncomputable def aY(zs:List T)(Hg great:Int):Cell:= .lst [.t (.lst zs),.t (.int Hg),.t (.int great)]
noncomputable def CW:Fn:=fnAt (aR pW 125) []
noncomputable abbrev fq:=cx (TN 8) CW
noncomputable abbrev Jh(m:Int):Loc:=[(st "pen",.loc 0),(st "many",.t (.int m))]
noncomputable abbrev wQ(m s:Int):Loc:=Jh m++[(st "spot",.t (.int s))]
noncomputable abbrev nR(m s v:Int):Loc:=wQ m s++[(st "cell",.t (.int v))]
noncomputable def bS(i:Nat):Stmt:=fu (fB (aR pW 125)) i
section
variable(zs:List T)(s g m:Int)(rest:aa)(k:Ko)
theorem M1(kx:Kx)(kk:Bool->aa->aq):aB fq 38 (qQ (bS 0)) (Jh m) (aY zs s g::rest) kk kx=kk (decide (0<g)) (aY zs s g::rest):=by rfl'
theorem R8:ah fq 38 (jf (bS 0)) (Jh m) (aY zs s g::rest) k=bif !decide (m=0)then bif !decide (m=0)&&decide (m.natAbs<2^30)then k (.ret (.t (.int (g.fmod m)))) (Jh m++[(st "digit",.t (.int (g.fmod m)))]) (aY zs s (g.fdiv m)::rest)else none else none:=by rfl'
theorem R9:ah fq 39 ((CW.body.drop 1).take 2) (Jh m) (aY zs s g::rest) k=k .next (wQ m s) (aY zs (s+1) g::rest):=by rfl'
noncomputable def sY:Expr:=match bS 3 with| .Assign _ e _=>e|_=>dk
noncomputable def W4:Expr->Expr| .BinOp a _ _ _=>a|_=>dk
noncomputable def Of:Expr->Expr| .BinOp _ _ b _=>b|_=>dk
noncomputable def Yr:Expr->Pos| .BinOp _ _ _ p=>p|_=>⟨0,0,0,0⟩
noncomputable def M2:Expr:=Of sY
noncomputable def Hh:Expr:=W4 M2
noncomputable def DR:Expr:=cA Hh
noncomputable def Uk:Expr:=cA DR
theorem CX:(bS 3= .Assign [.Name (st "cell") (match bS 3 with| .Assign [.Name _ p] _ _=>p|_=>⟨0,0,0,0⟩)] sY (match bS 3 with| .Assign _ _ p=>p|_=>⟨0,0,0,0⟩))/\sY= .BinOp (W4 sY) .Add M2 (Yr sY)/\M2= .BinOp Hh .Mod (Of M2) (Yr M2)/\Hh= .Call (.Name (yV (my Hh)) (yW (my Hh))) [DR] [] (N9 Hh)/\DR= .Call (.Name (yV (my DR)) (yW (my DR))) [Uk] [] (N9 DR)/\cY sY=false/\kg [DR]=true/\kg [Uk]=true:=⟨by rfl',by rfl',by rfl',by rfl',by rfl',by rfl',by rfl',by rfl'⟩
theorem Sa(K:Kn):ai fq 31 Uk (wQ m s) (aY zs (s+1) g::rest) K=JE (.t (.lst zs)) (.t .none) (.t (I 1)) (aY zs (s+1) g::rest) K:=by rfl'
theorem wR(c:aa)(K:Kn):ai fq 31 (.Name (yV (my DR)) (yW (my DR))) (wQ m s) c K=K (.ok (.t (.bi "sum"))) c/\ai fq 32 (.Name (yV (my Hh)) (yW (my Hh))) (wQ m s) c K=K (.ok (.t (.ty "int"))) c/\ai fq 33 (Of M2) (wQ m s) c K=K (.ok (.t (I 1000003))) c/\ai fq 34 (W4 sY) (wQ m s) c K=K (.ok (.t (.int (58313*s+1871)))) c:=⟨by rfl',by rfl',by rfl',by rfl'⟩
noncomputable def M3:Expr:=(ey (qQ (bS 4))).1
noncomputable def Hi:Expr:=(ey (qQ (bS 4))).2
theorem uP:qQ (bS 4)= .Compare M3 [.NotEq] [Hi] (pE (qQ (bS 4)))/\lastMarks [.NotEq] [Hi]=false/\qR (bS 4)=[]/\qR (bS 5)=[]/\qR (bS 0)=[]:=⟨by rfl',by rfl',by rfl',by rfl',by rfl'⟩
theorem uQ:(bS 0= .If (qQ (bS 0)) (jf (bS 0)) (qR (bS 0)) (match bS 0 with| .If _ _ _ p=>p|_=>⟨0,0,0,0⟩))/\(bS 4= .If (qQ (bS 4)) (jf (bS 4)) (qR (bS 4)) (match bS 4 with| .If _ _ _ p=>p|_=>⟨0,0,0,0⟩))/\(bS 5= .If (qQ (bS 5)) (jf (bS 5)) (qR (bS 5)) (match bS 5 with| .If _ _ _ p=>p|_=>⟨0,0,0,0⟩)):=⟨by rfl',by rfl',by rfl'⟩
theorem Hj:CW.body=bS 0::CW.body.drop 1/\((CW.body.drop 1).take 2).length=2/\CW.body.drop 3=[bS 3,bS 4,bS 5,bS 6,bS 7,bS 8]:=⟨by rfl',by rfl',by rfl'⟩
theorem Sb(v s1:Int)(K:Kn):ai fq 33 M3 (nR m s v) (aY zs s1 g::rest) K=K (.ok (.t (.lst zs))) (aY zs s1 g::rest):=by rfl'
theorem Sc(v:Int)(c:aa)(K:Kn):ai fq 33 Hi (nR m s v) c K=K (.ok (.loc c.length)) (c++[.lst []]):=by rfl'
theorem Sd(v:Int)(s1:Int):ah fq 34 (jf (bS 4)) (nR m s v) (aY zs s1 g::rest) k=bif !decide (((zs.length:Nat):Int)=0)then bif decide (0<=s.fmod ((zs.length:Nat):Int))then atK (zs.map .t) (s.fmod ((zs.length:Nat):Int)).toNat fun v=>k .next (wQ m s++[(st "cell",v)]) (aY zs s1 g::rest)else bif decide (-(((zs.map V.t).length:Nat):Int)<=s.fmod ((zs.length:Nat):Int))then atK (zs.map .t) ((zs.map V.t).length-(s.fmod ((zs.length:Nat):Int)).natAbs) fun v=>k .next (wQ m s++[(st "cell",v)]) (aY zs s1 g::rest)else none else none:=by
 rw[show zs.length=(zs.map V.t).length from(List.length_map ..).symm]
 rfl'
theorem Se(v:Int)(s1:Int)(kk:Bool->aa->aq)(kx:Kx):aB fq 33 (qQ (bS 5)) (nR m s v) (aY zs s1 g::rest) kk kx=bif decide (s<((zs.length:Nat):Int))then bif decide ((1000000000000000000:Int)<=((v.natAbs:Nat):Int))then kk true (aY zs s1 g::rest)else kk false (aY zs s1 g::rest)else kk false (aY zs s1 g::rest):=by
 rw[show zs.length=(zs.map V.t).length from(List.length_map ..).symm]
 rfl'
theorem Sf(v:Int)(s1:Int):ah fq 33 (jf (bS 5)) (nR m s v) (aY zs s1 g::rest) k=bif !decide (m=0)&&decide (m.natAbs<2^30)then bif !decide (m=0)then k (.ret (.t (.int ((((v.natAbs:Nat):Int)-1000000000000000000).fmod m)))) (nR m s v++[(st "great",.t (.int (((v.natAbs:Nat):Int)-1000000000000000000)))]) (aY zs s1 ((((v.natAbs:Nat):Int)-1000000000000000000).fdiv m)::rest)else none else none:=by rfl'
noncomputable abbrev b6(v s:Int):Int:=v.fmod 2147483587+58313*s+1871
theorem W5(v:Int)(c:aa):aD fq 33 (bS 6) (nR m s v) c k=bif decide ((0:Int)<=5)&&decide ((5:Int)<=64)&&decide ((b6 v s).natAbs<2^64)then k .next (nR m s v++[(st "mixed",.t (.int ((b6 v s^(5:Int).toNat).fmod 2147483629)))]) c else none:=by rfl'
noncomputable abbrev b7(x s:Int):Int:=x*(2*s+3067)+58313*s*s+41
theorem W6(v x:Int)(c:aa):aD fq 32 (bS 7) (nR m s v++[(st "mixed",.t (.int x))]) c k=bif decide (x.natAbs<2^64)||decide ((2*s+3067).natAbs<2^64)then bif decide ((58313*s).natAbs<2^64)||decide (s.natAbs<2^64)then bif decide ((0:Int)<=3)&&decide ((3:Int)<=64)&&decide ((b7 x s).natAbs<2^64)then k .next (nR m s v++[(st "mixed",.t (.int ((b7 x s^(3:Int).toNat).fmod 2147483579)))]) c else none else none else none:=by rfl'
theorem W7(v x:Int)(c:aa):aD fq 31 (bS 8) (nR m s v++[(st "mixed",.t (.int x))]) c k=bif !decide (m=0)then k (.ret (.t (.int ((x.fdiv 32).fmod m)))) (nR m s v++[(st "mixed",.t (.int x))]) c else none:=by rfl'
end
theorem sZ(x:Cx)(n:Nat)(a b:Expr)(op:Operator)(p:Pos)(l:Loc)(c c1 c2:aa)(k:Kn)(u w:V)(h1:∀K,ai x n a l c K=K (.ok u) c1)(h2:∀K,ai x n b l c1 K=K (.ok w) c2):ai x (n+1) (.BinOp a op b p) l c k=nU op u w c2 k:=by
 show ai x n a l c (fun r c=>match r with| .exc=>k .exc c| .ok u=>ai x n b l c fun r c=>match r with| .exc=>k .exc c| .ok w=>nU op u w c k)=_
 rw[h1]
 show ai x n b l c1 (fun r c=>match r with| .exc=>k .exc c| .ok w=>nU op u w c k)=_
 rw[h2]
noncomputable def oV:List Int->Int|[]=>0|x::_=>x
theorem wS(k:V->aq):∀(xs:List V) (j:Nat) (h:j<xs.length),atK xs j k=k xs[j]
 |[],j,h=>absurd h (Nat.not_lt_zero _)
 |x::r,0,h=>rfl
 |x::r,j+1,h=>by
  have:atK (x::r) (j+1) k=atK r j k:=rfl
  rw[this,wS k r j (by rw[List.length_cons]at h;lia)];rfl
section
variable(xs:List Int)(s g:Int)(m:Nat)(rest:aa)
noncomputable abbrev cf:List T:=xs.map T.int
theorem Si(K:Kn):ai fq 35 sY (wQ m s) (aY (cf xs) (s+1) g::rest) K=K (.ok (.t (.int (58313*s+1871+(oV xs).fmod 1000003)))) (aY (cf xs) (s+1) g::rest):=by
 obtain⟨-,h2,h3,h4,h5,-,h7,h8⟩:=CX
 have e1:∀K:Kn,ai fq 31 Uk (wQ m s) (aY (cf xs) (s+1) g::rest) K=K (.ok (.t (.lst ((cf xs).take 1)))) (aY (cf xs) (s+1) g::rest):=fun K=>by
  rw[Sa]
  show bn (iw (a8 ((cf xs).map V.t) none (some ((1:Nat):Int)))) _ _=_
  rw[g8,<-List.map_take,mx]
  rfl
 have e2:∀K:Kn,ai fq 32 DR (wQ m s) (aY (cf xs) (s+1) g::rest) K=K (.ok (.t (.int (oV xs)))) (aY (cf xs) (s+1) g::rest):=fun K=>by
  rw[h5,eu fq 31 _ _ _ _ _ _ _ _ h8 (fun K=>(wR s m _ K).1),nK,e1]
  induction xs with
  |nil=>rfl
  |cons x r=>show K (.ok (.t (.int (0+x)))) _=_;rw[Int.zero_add];rfl
 have e3:∀K:Kn,ai fq 33 Hh (wQ m s) (aY (cf xs) (s+1) g::rest) K=K (.ok (.t (.int (oV xs)))) (aY (cf xs) (s+1) g::rest):=fun K=>by
  rw[h4,eu fq 32 _ _ _ _ _ _ _ _ h7 (fun K=>(wR s m _ K).2.1),nK,e2]
  rfl
 have e4:∀K:Kn,ai fq 34 M2 (wQ m s) (aY (cf xs) (s+1) g::rest) K=K (.ok (.t (.int ((oV xs).fmod 1000003)))) (aY (cf xs) (s+1) g::rest):=fun K=>by
  rw[h3,sZ fq 33 _ _ _ _ _ _ _ _ _ _ _ e3 (fun K=>(wR s m _ K).2.2.1)]
  rfl
 rw[h2,sZ fq 34 _ _ _ _ _ _ _ _ _ _ _ (fun K=>(wR s m _ K).2.2.2) e4]
 rfl
theorem s0(n:Nat):∀xs:List Int,(cf xs).all (jr n)=true
 |[]=>rfl
 |x::r=>by show(jr n (.int x)&&(cf r).all (jr n))=true;rw[s0 n r];induction n<;>rfl
theorem NH(c:aa):iR (c++[.lst []]) .NotEq (.t (.lst (cf xs))) (.loc c.length)=some (!xs.isEmpty):=by
 show qZ (u9 (c++[.lst []]) (.t (.lst (cf xs))) (.loc c.length))=_
 have h1:res aN (c++[.lst []]) (.loc c.length)=some (.lst []):=by
  show ob (c++[.lst []])[c.length]? _=_
  rw[List.getElem?_concat_length];rfl
 have:u9 (c++[.lst []]) (.t (.lst (cf xs))) (.loc c.length)=some xs.isEmpty:=by
  unfold u9
  rw[show res aN (c++[.lst []]) (.t (.lst (cf xs)))=some (.lst (cf xs))from rfl,h1]
  show(bif(cf xs).all (jr 29)&&true then jq (cf xs) []else none)=_
  rw[s0]
  induction xs<;>rfl
 rw[this];rfl
end
theorem oW(a n:Int)(h:0<n):0<=a.fmod n/\a.fmod n<n:=⟨Int.fmod_nonneg_of_pos _ h,Int.fmod_lt_of_pos _ h⟩
theorem W8(v s:Int)(h0:0<=s)(h:s<=1000):(b6 v s).natAbs<2^64:=by
 have:=oW v 2147483587 (by decide)
 dsimp only[b6]
 omega
theorem W9(x s:Int)(hx:0<=x/\x<2147483629)(h0:0<=s)(h:s<=1000):x.natAbs<2^64/\(58313*s).natAbs<2^64/\(b7 x s).natAbs<2^64:=by
 refine⟨by omega,by omega,?_⟩
 dsimp only[b7]
 have h1:0<=x*(2*s+3067):=Int.mul_nonneg hx.1 (by lia)
 have h2:x*(2*s+3067)<=2147483629*5067:=Int.mul_le_mul (by lia) (by lia) (by lia) (by lia)
 have h3:0<=58313*s*s:=Int.mul_nonneg (by lia) h0
 have h4:58313*s*s<=58313000*1000:=Int.mul_le_mul (by lia) (by omega) (by omega) (by lia)
 omega
section
variable(xs:List Int)
theorem CY(s g:Int)(d:Int)(more:aa)(K:T->Cell->aq):lm K (.ok (.t (.int d))) (aY (cf xs) s g::more)=K (.int d) (aY (cf xs) s g):=rfl
theorem yy(s g:Int)(h0:0<=s)(h1:s<=1000)(m:Nat)(hm:0<m)(v:Int)(more:aa):∃d:Int,(0<=d/\d<m)/\∀K:T->Cell->aq,ah fq 34 [bS 6,bS 7,bS 8] (nR m s v) (aY (cf xs) (s+1) g::more) (fun o _ c=>match o with| .next=>lm K (.ok (.t .none)) c| .ret v=>lm K (.ok v) c| .exc=>lm K .exc c|_=>none)=K (.int d) (aY (cf xs) (s+1) g):=by
 refine⟨_,oW ((((b7 ((b6 v s^(5:Int).toNat).fmod 2147483629) s^(3:Int).toNat).fmod 2147483579).fdiv 32)) m (by omega),fun K=> ?_⟩
 have q1:=W8 v s h0 h1
 have q2:=W9 ((b6 v s^(5:Int).toNat).fmod 2147483629) s (oW _ _ (by decide)) h0 h1
 rw[af,W5,show(decide ((0:Int)<=5)&&decide ((5:Int)<=64)&&decide ((b6 v s).natAbs<2^64))=true by rw[decide_eq_true q1];rfl]
 rw[cond_true]
 rw[aj,af,W6,decide_eq_true q2.1,decide_eq_true q2.2.1,show(decide ((0:Int)<=3)&&decide ((3:Int)<=64)&&decide ((b7 ((b6 v s^(5:Int).toNat).fmod 2147483629) s).natAbs<2^64))=true by rw[decide_eq_true q2.2.2];rfl]
 rw[Bool.true_or,cond_true,Bool.true_or,cond_true,cond_true]
 rw[aj,af,W7,show(!decide (((m:Nat):Int)=0))=true by rw[decide_eq_false (by lia)];rfl]
 rw[cond_true]
 exact CY xs (s+1) g _ more K
end
noncomputable abbrev KG(K:Kn):Ko:=fun o _ c=>match o with
 | .next=>K (.ok (.t .none)) c
 | .ret v=>K (.ok v) c
 | .exc=>K .exc c
 |_=>none
theorem g9{S:Tab}{f:Fn}{args:List V}{l:Loc}{c:aa}{K:Kn}(h:bindG f.params args (f.dflt.map .t)=some l):an bD S f args c K=ah (cx S f) 40 f.body l c (KG K):=by
 unfold an
 rw[h]
 try rfl
theorem Hk{α:Type}(a b:Bool)(x y:α):(bif a then bif b then x else y else y)=bif a&&b then x else y:=by cases a<;>rfl
section
variable(xs:List Int)
theorem CZ(s g:Int)(h0:0<=s)(h1:s<=1000)(m:Nat)(hm:0<m)(yX:m<2^30)(v:Int)(more:aa):∃d g' :Int,(0<=d/\d<m)/\∀K:T->Cell->aq,ah fq 35 [bS 5,bS 6,bS 7,bS 8] (nR m s v) (aY (cf xs) (s+1) g::more) (KG (lm K))=K (.int d) (aY (cf xs) (s+1) g'):=by
 obtain⟨-,-,i5⟩:=uQ
 obtain⟨-,-,-,e5,-⟩:=uP
 have m0:(!decide (((m:Nat):Int)=0))=true:=by rw[decide_eq_false (by(clear e5 i5 yX h1 h0;lia))];rfl
 have Sj:decide (((m:Nat):Int).natAbs<2^30)=true:=decide_eq_true (by rw[Int.natAbs_natCast];exact yX)
 have run:∀K:T->Cell->aq,ah fq 35 [bS 5,bS 6,bS 7,bS 8] (nR m s v) (aY (cf xs) (s+1) g::more) (KG (lm K))=
   bif decide (s<(((cf xs).length:Nat):Int))&&decide ((1000000000000000000:Int)<=((v.natAbs:Nat):Int))then ah fq 33 (jf (bS 5)) (nR m s v) (aY (cf xs) (s+1) g::more) (dy fq 34 [bS 6,bS 7,bS 8] (KG (lm K)))else ah fq 34 [bS 6,bS 7,bS 8] (nR m s v) (aY (cf xs) (s+1) g::more) (KG (lm K)):=fun K=>by
  have i5:=i5
  generalize jf (bS 5)=A5 at i5⊢
  rw[af,i5,ei,Se,e5,bR,aj]
  exact Hk _ _ _ _
 cases q:decide (s<(((cf xs).length:Nat):Int))&&decide ((1000000000000000000:Int)<=((v.natAbs:Nat):Int))with
 |true=>
  refine⟨(((v.natAbs:Nat):Int)-1000000000000000000).fmod m,(((v.natAbs:Nat):Int)-1000000000000000000).fdiv m,oW _ _ (by exact Int.ofNat_lt.mpr hm),fun K=> ?_⟩
  rw[run,q,cond_true,Sf,m0,Sj]
  rw[Bool.and_true,cond_true,cond_true]
  exact CY xs _ _ _ more K
 |false=>
  obtain⟨d,hd,ht⟩:=yy xs s g h0 h1 m hm v more
  refine⟨d,g,hd,fun K=> ?_⟩
  rw[run,q,cond_false]
  exact ht K
theorem M4(s g:Int)(h0:0<=s)(h1:s<=1000)(m:Nat)(hm:0<m)(yX:m<2^30)(v:Int):∃d g' :Int,(0<=d/\d<m)/\∀K:T->Cell->aq,ah fq 36 [bS 4,bS 5,bS 6,bS 7,bS 8] (nR m s v) (aY (cf xs) (s+1) g::[]) (KG (lm K))=K (.int d) (aY (cf xs) (s+1) g'):=by
 obtain⟨-,i4,-⟩:=uQ
 obtain⟨c4,l4,e4,-,-⟩:=uP
 have run:∀K:T->Cell->aq,ah fq 36 [bS 4,bS 5,bS 6,bS 7,bS 8] (nR m s v) (aY (cf xs) (s+1) g::[]) (KG (lm K))=
   bif !xs.isEmpty then ah fq 34 (jf (bS 4)) (nR m s v) (aY (cf xs) (s+1) g::[.lst []]) (dy fq 35 [bS 5,bS 6,bS 7,bS 8] (KG (lm K)))else ah fq 35 [bS 5,bS 6,bS 7,bS 8] (nR m s v) (aY (cf xs) (s+1) g::[.lst []]) (KG (lm K)):=fun K=>by
  have i4:=i4
  generalize jf (bS 4)=A4 at i4⊢
  rw[af,i4,ei,c4,dI fq 33 M3 Hi .NotEq _ _ _ _ _ _ _ _ _ (!xs.isEmpty) l4 (fun K=>Sb (cf xs) s g m [] v (s+1) K) (fun K=>Sc s m v _ K) (NH xs _),e4,bR,aj]
  rfl
 cases xs with
 |nil=>
  obtain⟨d,g',hd,ht⟩:=CZ [] s g h0 h1 m hm yX v [.lst []]
  exact⟨d,g',hd,fun K=>(run K).trans (ht K)⟩
 |cons x r=>
  have hlen:0<(x::r).length:=Nat.zero_lt_succ _
  have hj:=oW s (((cf (x::r)).length:Nat):Int) (by rw[List.length_map];exact Int.ofNat_lt.mpr hlen)
  have eL:((cf (x::r)).map V.t).length=(cf (x::r)).length:=List.length_map _
  have eZ:(cf (x::r)).length=(x::r).length:=List.length_map _
  have Xa:(s.fmod (((cf (x::r)).length:Nat):Int)).toNat<((cf (x::r)).map V.t).length:=by rw[eL];omega
  have hv:∃y:Int,((cf (x::r)).map V.t)[(s.fmod (((cf (x::r)).length:Nat):Int)).toNat]'Xa= .t (.int y):=⟨(x::r)[(s.fmod (((cf (x::r)).length:Nat):Int)).toNat]'(by omega),by rw[List.getElem_map,List.getElem_map]⟩
  obtain⟨y,hy⟩:=hv
  obtain⟨d,g',hd,ht⟩:=CZ (x::r) s g h0 h1 m hm yX y [.lst []]
  refine⟨d,g',hd,fun K=>(run K).trans ?_⟩
  show ah fq 34 (jf (bS 4)) _ _ _=_
  rw[Sd,show(!decide ((((cf (x::r)).length:Nat):Int)=0))=true by rw[decide_eq_false (by rw[List.length_map];(clear ht hd hy Xa eZ eL hj run e4 l4 c4 i4 yX hm h1 h0;lia))];rfl]
  rw[cond_true]
  rw[cD hj.1,wS _ _ _ Xa,hy]
  exact ht K
theorem Hl(s g:Int)(h0:0<=s)(h1:s<=1000)(m:Nat)(hm:0<m)(yX:m<2^30):∃d s' g' :Int,(0<=d/\d<m)/\(s<=s' /\s' <=s+1)/\gr 9 1187 [N m] (aY (cf xs) s g) (I d) (aY (cf xs) s' g'):=by
 obtain⟨i0,-,-⟩:=uQ
 obtain⟨-,-,-,-,e0⟩:=uP
 obtain⟨b0,b1,b2⟩:=Hj
 obtain⟨i3,-,-,-,-,c3,-,-⟩:=CX
 have m0:(!decide (((m:Nat):Int)=0))=true:=by rw[decide_eq_false (by(clear c3 i3 b2 b1 b0 e0 i0 yX h1 h0;lia))];rfl
 have Sj:decide (((m:Nat):Int).natAbs<2^30)=true:=decide_eq_true (by rw[Int.natAbs_natCast];exact yX)
 have start:∀K:T->Cell->aq,an bD (TN 8) CW [.loc 0,.t (N m)] (aY (cf xs) s g::[]) (lm K)=bif decide (0<g)then ah fq 38 (jf (bS 0)) (Jh m) (aY (cf xs) s g::[]) (dy fq 39 (CW.body.drop 1) (KG (lm K)))else ah fq 39 (CW.body.drop 1) (Jh m) (aY (cf xs) s g::[]) (KG (lm K)):=fun K=>by
  rw[g9 (l:=Jh m) (by rfl')]
  generalize hB:CW.body.drop 1=Bd
  have i0:=i0
  generalize jf (bS 0)=A0 at i0⊢
  rw[b0,hB,af,i0,ei,M1,e0,bR,aj]
 by_cases q:0<g
 ·refine⟨g.fmod m,s,g.fdiv m,oW _ _ (by exact Int.ofNat_lt.mpr hm),⟨Int.le_refl _,by(clear q start Sj m0 c3 i3 b2 b1 b0 e0 i0 yX hm h1 h0;lia)⟩,dH IH (bI 8) rfl fun K=>(start K).trans ?_⟩
  rw[cD q,R8,m0,Sj]
  rw[Bool.and_true,cond_true,cond_true]
  exact CY xs s (g.fdiv m) (g.fmod m) [] K
 ·obtain⟨d,g',hd,ht⟩:=M4 xs s g h0 h1 m hm yX (58313*s+1871+(oV xs).fmod 1000003)
  refine⟨d,s+1,g',hd,⟨by(clear ht hd q start Sj m0 c3 i3 b2 b1 b0 e0 i0 yX hm h1 h0;lia),Int.le_refl _⟩,dH IH (bI 8) rfl fun K=>(start K).trans ?_⟩
  rw[cN q,show(39:Nat)=36+1+2 from rfl,CB fq 36 _ (CW.body.drop 1) 2 b1,show 36+1+2=39 from rfl,R9,aj,List.drop_drop,show 1+2=3 from rfl,b2,af,i3]
  rw[nM fq 35 _ _ _ _ _ (nR m s (58313*s+1871+(oV xs).fmod 1000003)) _ _ _ _ c3 (fun K=>Si xs s g m [] K) (by rfl'),aj]
  exact ht K
end
end
section
set_option autoImplicit true
open PySem
noncomputable def jZ(p:Cell):Prop:=∃xs s g,p=aY (cf xs) s g/\0<=s
noncomputable def spotOf:Cell->Int
 | .lst [_,.t (.int s),_]=>s
 |_=>0
structure aL(b:Int)(p:Cell):Prop where
 is:jZ p
 le:spotOf p<=b
theorem aL.up(h:aL b p)(hb:b<=b'):aL b' p:=⟨h.is,Int.le_trans h.le hb⟩
theorem jZ.cZ(h:jZ p):cZ 1 p=true:=by obtain⟨xs,s,g,rfl,_⟩:=h;rfl
structure C0(m:Int)(p:Cell)(w:Int×Cell):Prop where
 ge:0<=w.1
 lt:w.1<m
 yM:jZ w.2
 Hg:spotOf w.2<=spotOf p+1
 says:gr 9 1187 [.int m] p (.int w.1) w.2
noncomputable def Draws(m:Int)(p:Cell):Prop:=aL 900 p/\0<m/\m<2^30
theorem wT(h:Draws m p):∃w,C0 m p w:=by
 obtain⟨⟨⟨xs,s,g,rfl,h2⟩,h3⟩,h0,h1⟩:=h
 obtain⟨n,rfl⟩:=Int.eq_ofNat_of_zero_le (Int.le_of_lt h0)
 obtain⟨d,s',g',q1,q2,q3⟩:=Hl xs s g h2 (Int.le_trans h3 (by decide)) n (Int.ofNat_lt.mp h0) (by omega)
 exact⟨(d,_),q1.1,q1.2,⟨xs,s',g',rfl,Int.le_trans h2 q2.1⟩,q2.2,q3⟩
noncomputable def oX(m:Int)(p:Cell):Bool:=x5 (Draws m p)
noncomputable def br(m:Int)(p:Cell):Int×Cell:= @dite _ (Draws m p) (Classical.propDecidable _) (fun h=>(wT h).choose) fun _=>(0,p)
theorem C1(h:Draws m p):C0 m p (br m p):=by unfold br;rw[dif_pos h];exact(wT h).choose_spec
noncomputable def dF:List T->Cell->Option (T×Cell):=fun ts p=>ob (one ts) fun t=>ob (iO t) fun m=>bif oX m p then some (.int (br m p).1,(br m p).2)else none
theorem M5{α:Type}{l:List α}{a:α}(h:one l=some a):l=[a]:=by
 unfold one at h
 split at h
 ·exact Option.some.inj h▸rfl
 ·exact nn h
theorem Sk(h:9<=n):bG n 1187 (kj dF):=Bu (by decide+kernel) fun ts p w e=>ae e fun t e1 e3=>ae e3 fun m e2 e4=>aE e4 fun q e5=>by
 cases M5 e1
 cases cn e2
 cases Option.some.inj e5
 exact(C1 (db q)).says.up h
noncomputable def dS:Spec:=fun args c k=>ob (tH args) fun as=>ob (iF (fr aN) c as) fun q=>ob q.2[0]? fun p=>ob (one q.1) fun t=>ob (iO t) fun m=>bif oX m p then k (.ok (.t (.int (br m p).1))) (q.2.set 0 (br m p).2)else none
theorem oY(h:9<=n):bG n 1187 dS:=(Sk h).le fun args c k out e=>ae e fun as e0 e=>ae e fun q e1 e=>ae e fun p e2 e=>ae e fun t e3 e=>ae e fun m e4 e=>aE e fun v e=>by
 show ob (tH args) _=some out
 rw[e0]
 show ob (iF (fr aN) c as) _=some out
 rw[e1]
 show ob q.2[0]? _=some out
 rw[e2]
 show ob (ob (one q.1) _) _=some out
 rw[e3]
 show ob (ob (iO t) _) _=some out
 rw[e4]
 show ob (bif oX m p then _ else none) _=some out
 rw[v]
 exact e
theorem drawn{G:Prop}(hp:aL b p)(hb:b<=900)(h0:0<m)(h1:m<2^30)(k:oX m p=true->0<=(br m p).1->(br m p).1<m->aL (b+1) (br m p).2->G):G:=
 have h:Draws m p:=⟨hp.up hb,h0,h1⟩
 have w:=C1 h
 k (nh h) w.ge w.lt ⟨w.yM,Int.le_trans w.Hg (Int.add_le_add_right hp.le 1)⟩
theorem cH(hp:aL b p)(hb:b<=900)(h0:0<m)(h1:m<2^30):oX m p=true/\(0<=(br m p).1/\(br m p).1<m)/\aL (b+1) (br m p).2:=drawn hp hb h0 h1 fun a b c d=>⟨a,⟨b,c⟩,d⟩
theorem j0(k:List UInt8->aq):∀ds:List Int,(∀d∈ds,0<=d/\d<256)->q0 ((ds.map T.int).map .t) k=k (ds.map fun d=>UInt8.ofNat d.toNat)
 |[],_=>rfl
 |d::ds,h=>by
  obtain⟨h1,h2⟩:=h d List.mem_cons_self
  show(bif decide (0<=d)&&decide (d<256)then q0 ((ds.map T.int).map .t) (fun l=>k (UInt8.ofNat d.toNat::l))else none)=_
  rw[decide_eq_true h1,decide_eq_true h2,j0 _ ds fun x hx=>h x (List.mem_cons_of_mem _ hx)]
  rfl
end
section
open PySem
noncomputable def DT:Fn:=fnAt (aR pW 135) []
noncomputable def dm(i:Nat):Stmt:=fu (fB (aR pW 135)) i
noncomputable def Xb:Stmt->Expr| .Assign _ e _=>e|_=>dk
noncomputable def Ul:Stmt->Pos×Pos| .Assign (.Name _ q::_) _ p=>(q,p)|_=>(⟨0,0,0,0⟩,⟨0,0,0,0⟩)
noncomputable abbrev j5(D H J P A:Spec):=cx (cU [(1187,D),(1227,H),(969,J),(1220,P),(1244,A)] (TN 8)) DT
noncomputable abbrev M6(l:T)(os:List UInt8)(du:T):Loc:=[(st "pen",.loc 0),(st "iset",.t l),(st "octets",.t (.bytes os)),(st "due",.t du)]
noncomputable abbrev Hm(l:T)(os:List UInt8)(du:T)(n:Int):Loc:=M6 l os du++[(st "length",.t (.int n))]
noncomputable abbrev M7(l:T)(os:List UInt8)(du:T)(n:Int)(a:List UInt8):Loc:=Hm l os du n++[(st "ahead",.t (.bytes a))]
noncomputable abbrev DU(l:T)(os:List UInt8)(du:T)(n:Int)(a b:List UInt8):Loc:=M7 l os du n a++[(st "behind",.t (.bytes b))]
noncomputable def Ji:Option T->Loc|none=>[(st "pen",.loc 0)]|some v=>[(st "pen",.loc 0),(st "turn",.t v)]
section
variable(D H J P A:Spec)(l:T)(os:List UInt8)(du:T)(n:Int)(a:List UInt8)(rest:aa)
theorem Xc(c:aa)(k:Ko):aD (j5 D H J P A) 39 (dm 0) (M6 l os .none) c k=k .next (Hm l os .none 16) c:=by rfl'
theorem Sl(t1:T)(m:Int)(c:aa)(k:Ko):aD (j5 D H J P A) 39 (dm 0) (M6 l os (.tup [t1,.int m])) c k=k .next (Hm l os (.tup [t1,.int m]) m) c:=by rfl'
noncomputable def n9:Expr:=Xb (dm 1)
noncomputable def dK:Expr:=cA n9
theorem M8:(dm 1= .Assign [.Name (st "ahead") (Ul (dm 1)).1] n9 (Ul (dm 1)).2)/\n9= .Call (.Name (yV (my n9)) (yW (my n9))) [dK] [] (N9 n9)/\dK= .ListComp (fO dK) [⟨(be dK).1,(be dK).2.1,(be dK).2.2,0⟩] (bA dK) (DP dK)/\cY n9=false/\kg [dK]=true/\bL DT.scope (bA dK)=true:=⟨by rfl',by rfl',by rfl',by rfl',by rfl',by rfl'⟩
theorem Sm(c:aa)(K:Kn):ai (j5 D H J P A) 36 (.Name (yV (my n9)) (yW (my n9))) (Hm l os du n) c K=K (.ok (.t (.ty "bytes"))) c:=by rfl'
theorem Sn:bK (bA dK) (Hm l os du n)=Ji none:=by rfl'
noncomputable abbrev yz:Cx:= {j5 D H J P A with scope:=bA dK}
theorem So(v:T)(more:List T)(acc:List V)(t:Option T)(p:Cell)(k:List Mine.V->aa->aq):aS (bA dK) (ai (yz dS H J P A) 35) (aB (yz dS H J P A) 35) (fO dK) (be dK).2.2 (be dK).1 (v::more) acc (Ji t) (p::rest) k=
  bif oX 256 p then aS (bA dK) (ai (yz dS H J P A) 35) (aB (yz dS H J P A) 35) (fO dK) (be dK).2.2 (be dK).1 more (acc++[.t (.int (br 256 p).1)]) (Ji (some v)) ((br 256 p).2::rest) k else none:=by induction t<;>rfl'
noncomputable def oa:Expr:=Xb (dm 2)
noncomputable def dV:Expr:=cA oa
theorem M9:(dm 2= .Assign [.Name (st "behind") (Ul (dm 2)).1] oa (Ul (dm 2)).2)/\oa= .Call (.Name (yV (my oa)) (yW (my oa))) [dV] [] (N9 oa)/\dV= .ListComp (fO dV) [⟨(be dV).1,(be dV).2.1,(be dV).2.2,0⟩] (bA dV) (DP dV)/\cY oa=false/\kg [dV]=true/\bL DT.scope (bA dV)=true:=⟨by rfl',by rfl',by rfl',by rfl',by rfl',by rfl'⟩
theorem Sp(c:aa)(K:Kn):ai (j5 D H J P A) 35 (.Name (yV (my oa)) (yW (my oa))) (M7 l os du n a) c K=K (.ok (.t (.ty "bytes"))) c:=by rfl'
theorem Sq:bK (bA dV) (M7 l os du n a)=Ji none:=by rfl'
noncomputable abbrev yA:Cx:= {j5 D H J P A with scope:=bA dV}
theorem Sr(v:T)(more:List T)(acc:List V)(t:Option T)(p:Cell)(k:List Mine.V->aa->aq):aS (bA dV) (ai (yA dS H J P A) 34) (aB (yA dS H J P A) 34) (fO dV) (be dV).2.2 (be dV).1 (v::more) acc (Ji t) (p::rest) k=
  bif oX 256 p then aS (bA dV) (ai (yA dS H J P A) 34) (aB (yA dS H J P A) 34) (fO dV) (be dV).2.2 (be dV).1 more (acc++[.t (.int (br 256 p).1)]) (Ji (some v)) ((br 256 p).2::rest) k else none:=by induction t<;>rfl'
theorem Ss(p:Cell)(K:Bool->List T->aa->aq)(kx:Kx):dQ (j5 dS H J P A) 35 (be dK).2.1 (Hm l os du n) (p::rest) K kx=
  bif oX 3 p then bif decide (0<=(br 3 p).1)&&decide ((br 3 p).1<=big)then K false ((List.range (br 3 p).1.toNat).map fun i=> .int (Int.ofNat i)) ((br 3 p).2::rest)else none else none:=by rfl'
theorem Su(c:aa)(K:Bool->List T->aa->aq)(kx:Kx):dQ (j5 D H J P A) 34 (be dV).2.1 (M7 l os du n a) c K kx=K false [N 0,N 1,N 2] c:=by rfl'
end
section
variable(H J P A:Spec)(l:T)(os:List UInt8)(du:T)(n:Int)(rest:aa)
theorem s3:∀(ts:List T) (acc:List Int) (t:Option T) (b:Int) (p:Cell),aL b p->b+ts.length<=900->∃(ds:List Int) (p' :Cell),ds.length=ts.length/\(∀d∈ds,0<=d/\d<256)/\aL (b+ts.length) p' /\∀k:List V->aa->aq,aS (bA dK) (ai (yz dS H J P A) 35) (aB (yz dS H J P A) 35) (fO dK) (be dK).2.2 (be dK).1 ts ((acc.map T.int).map .t) (Ji t) (p::rest) k=k (((acc++ds).map T.int).map .t) (p' ::rest)
 |[],acc,t,b,p,hp,hb=>⟨[],p,rfl,fun d h=>(by cases h),by simpa using hp,fun k=>by rw[List.append_nil];rfl⟩
 |v::ts,acc,t,b,p,hp,hb=>by
  rw[List.length_cons]at hb
  obtain⟨hv,hd,s7⟩:=cH hp (show b<=900 by omega) (show(0:Int)<256 by decide) (by decide)
  obtain⟨ds,p',h1,h2,h3,h4⟩:=s3 ts (acc++[(br 256 p).1]) (some v) (b+1) (br 256 p).2 s7 (by push_cast at hb⊢;lia)
  refine⟨(br 256 p).1::ds,p',by rw[List.length_cons,h1];rfl,fun d Ka=> ?_,by rw[List.length_cons];push_cast;rw[show b+((ts.length:Int)+1)=b+1+ts.length by lia];exact h3,fun k=> ?_⟩
  ·cases List.mem_cons.mp Ka with
   |inl e=>rw[e];exact hd
   |inr h=>exact h2 d h
  ·rw[So,hv,cond_true]
   have:=h4 k
   rw[List.map_append,List.map_append]at this
   refine Eq.trans this ?_
   rw[List.append_assoc];rfl
theorem s9:∀(ts:List T) (acc:List Int) (t:Option T) (b:Int) (p:Cell),aL b p->b+ts.length<=900->∃(ds:List Int) (p' :Cell),ds.length=ts.length/\(∀d∈ds,0<=d/\d<256)/\aL (b+ts.length) p' /\∀k:List V->aa->aq,aS (bA dV) (ai (yA dS H J P A) 34) (aB (yA dS H J P A) 34) (fO dV) (be dV).2.2 (be dV).1 ts ((acc.map T.int).map .t) (Ji t) (p::rest) k=k (((acc++ds).map T.int).map .t) (p' ::rest)
 |[],acc,t,b,p,hp,hb=>⟨[],p,rfl,fun d h=>(by cases h),by simpa using hp,fun k=>by rw[List.append_nil];rfl⟩
 |v::ts,acc,t,b,p,hp,hb=>by
  rw[List.length_cons]at hb
  obtain⟨hv,hd,s7⟩:=cH hp (show b<=900 by omega) (show(0:Int)<256 by decide) (by decide)
  obtain⟨ds,p',h1,h2,h3,h4⟩:=s9 ts (acc++[(br 256 p).1]) (some v) (b+1) (br 256 p).2 s7 (by push_cast at hb⊢;lia)
  refine⟨(br 256 p).1::ds,p',by rw[List.length_cons,h1];rfl,fun d Ka=> ?_,by rw[List.length_cons];push_cast;rw[show b+((ts.length:Int)+1)=b+1+ts.length by lia];exact h3,fun k=> ?_⟩
  ·cases List.mem_cons.mp Ka with
   |inl e=>rw[e];exact hd
   |inr h=>exact h2 d h
  ·rw[Sr,hv,cond_true]
   have:=h4 k
   rw[List.map_append,List.map_append]at this
   refine Eq.trans this ?_
   rw[List.append_assoc];rfl
theorem Sv(b:Int)(p:Cell)(hp:aL b p)(hb:b<=800):∃(a:List UInt8) (p' :Cell),a.length<=2/\aL (b+3) p' /\∀k:Ko,aD (j5 dS H J P A) 38 (dm 1) (Hm l os du n) (p::rest) k=k .next (M7 l os du n a) (p' ::rest):=by
 obtain⟨h1,h2,h3,h4,h5,h6⟩:=M8
 obtain⟨hv,⟨ZO,Z5⟩,s7⟩:=cH hp (show b<=900 by exact Int.le_trans hb (by decide)) (show(0:Int)<3 by decide) (by decide)
 have hlen:(((List.range (br 3 p).1.toNat).map fun i=>T.int (Int.ofNat i)).length:Int)=(br 3 p).1:=by rw[List.length_map,List.length_range];lia
 obtain⟨ds,p',g1,g2,g3,g4⟩:=s3 H J P A rest ((List.range (br 3 p).1.toNat).map fun i=>T.int (Int.ofNat i)) [] none (b+1) (br 3 p).2 s7 (by omega)
 refine⟨ds.map fun d=>UInt8.ofNat d.toNat,p',by rw[List.length_map,g1];lia,g3.up (by lia),fun k=> ?_⟩
 have src:∀(K:Bool->List T->aa->aq) (kx:Kx),dQ (j5 dS H J P A) 35 (be dK).2.1 (Hm l os du n) (p::rest) K kx=K false ((List.range (br 3 p).1.toNat).map fun i=>T.int (Int.ofNat i)) ((br 3 p).2::rest):=fun K kx=>by
  rw[Ss,hv,cond_true,decide_eq_true ZO,decide_eq_true (show(br 3 p).1<=(big:Nat) by unfold big;lia)];rfl
 have val:∀K:Kn,ai (j5 dS H J P A) 37 n9 (Hm l os du n) (p::rest) K=K (.ok (.t (.bytes (ds.map fun d=>UInt8.ofNat d.toNat)))) (p' ::rest):=fun K=>by
  rw[h2,eu (j5 dS H J P A) 36 _ _ _ _ _ _ _ _ h5 (fun K=>Sm _ H J P A l os du n _ K),nK,h3,cr (j5 dS H J P A) 35 _ _ _ _ _ _ _ _ _ _ _ h6 src,Sn]
  refine Eq.trans (g4 _) ?_
  rw[List.nil_append,bY]
  show q0 ((ds.map T.int).map .t) (fun l=>K (.ok (.t (.bytes l))) (p' ::rest))=_
  rw[j0 _ ds g2]
 rw[h1]
 exact nM _ 37 _ _ _ _ _ _ _ _ _ _ h4 val (by rfl')
theorem Sw(a:List UInt8)(b:Int)(p:Cell)(hp:aL b p)(hb:b<=800):∃(bh:List UInt8) (p' :Cell),bh.length=3/\aL (b+3) p' /\∀k:Ko,aD (j5 dS H J P A) 37 (dm 2) (M7 l os du n a) (p::rest) k=k .next (DU l os du n a bh) (p' ::rest):=by
 obtain⟨h1,h2,h3,h4,h5,h6⟩:=M9
 obtain⟨ds,p',g1,g2,g3,g4⟩:=s9 H J P A rest [N 0,N 1,N 2] [] none b p hp (by show b+3<=900;lia)
 refine⟨ds.map fun d=>UInt8.ofNat d.toNat,p',by rw[List.length_map,g1];rfl,g3.up (by show b+3<=b+3;lia),fun k=> ?_⟩
 have val:∀K:Kn,ai (j5 dS H J P A) 36 oa (M7 l os du n a) (p::rest) K=K (.ok (.t (.bytes (ds.map fun d=>UInt8.ofNat d.toNat)))) (p' ::rest):=fun K=>by
  rw[h2,eu (j5 dS H J P A) 35 _ _ _ _ _ _ _ _ h5 (fun K=>Sp _ H J P A l os du n a _ K),nK,h3,cr (j5 dS H J P A) 34 _ _ _ _ _ _ _ _ _ _ _ h6 (Su _ H J P A l os du n a (p::rest)),Sq]
  refine Eq.trans (g4 _) ?_
  rw[List.nil_append,bY]
  show q0 ((ds.map T.int).map .t) (fun l=>K (.ok (.t (.bytes l))) (p' ::rest))=_
  rw[j0 _ ds g2]
 rw[h1]
 exact nM _ 36 _ _ _ _ _ _ _ _ _ _ h4 val (by rfl')
end
noncomputable def hS(U:T->Bool)(g:List UInt8->Nat->T):Spec:=fun args c k=>ob (iw args) fun ts=>t3 ts fun a x y=>ob (lG x) fun b=>ob (iO y) fun j=>bif U a&&decide (0<=j)&&decide (j<=b.length)then k (.ok (.t (g b j.toNat))) c else none
noncomputable def iS(U:T->Bool)(gi:List UInt8->Bool):Spec:=fun args c k=>ob (iw args) fun ts=>t2 ts fun a x=>ob (lG x) fun b=>bif U a then k (.ok (.t (B (gi b)))) c else none
noncomputable def oZ(l:T):T->Bool:=fun a=>x5 (a=l)
theorem eR(l:T):oZ l l=true:=nh rfl
theorem C2(fl:Bool):bG 25 1227 (hS (oZ (ag (ab fl))) fun b j=>lu (aO (ab fl) (b.drop j)) Dec.told):=gU (eI (by decide+kernel)) fun args c k out e=>ae e fun ts e0 e=>IN e fun a x y e1 e=>ae e fun b e2 e=>ae e fun j e3 e=>aE e fun q e9=>by
 rw[jO e0,e1,d9 e2,cn e3]
 have q:=Bool.and_eq_true_iff.mp q
 have r:=Bool.and_eq_true_iff.mp q.1
 rw[db r.1]
 refine(Int.eq_ofNat_of_zero_le (of_decide_eq_true r.2)).elim fun m em=> ?_
 rw[em]at e9⊢
 exact(uH fl b m (Int.ofNat_le.mp (em▸of_decide_eq_true q.2))).gives (by decide) e9
theorem Jj(fl:Bool):bG 25 969 (iS (oZ (ag (ab fl))) fun b=>DM (ab fl) b):=gU (eI (by decide+kernel)) fun args c k out e=>ae e fun ts e0 e=>su e fun a x e1 e=>ae e fun b e2 e=>aE e fun q e9=>by
 rw[jO e0,e1,d9 e2,db q]
 exact(GG fl b).gives (by decide) e9
section
variable(D P A:Spec)(U:T->Bool)(g:List UInt8->Nat->T)(gi:List UInt8->Bool)(l:T)(os:List UInt8)(du:T)(n:Int)(a b:List UInt8)(c:aa)
noncomputable abbrev yB(D P A:Spec)(U:T->Bool)(g:List UInt8->Nat->T)(gi:List UInt8->Bool):=j5 D (hS U g) (iS U gi) P A
noncomputable def qL:Expr:=qQ (dm 3)
theorem Na:dm 3= .If qL (jf (dm 3)) (qR (dm 3)) (match dm 3 with| .If _ _ _ p=>p|_=>⟨0,0,0,0⟩)/\qL= .Compare (ey qL).1 [.NotEq] [(ey qL).2] (pE qL)/\lastMarks [.NotEq] [(ey qL).2]=false/\qR (dm 3)=[]:=⟨by rfl',by rfl',by rfl',by rfl'⟩
theorem Sx(K:Kn):ai (yB D P A U g gi) 34 (ey qL).1 (DU l os du n a b) c K=
  bif decide (a.length+(a8 os none (some n)).length<=big)then bif decide ((a++a8 os none (some n)).length+b.length<=big)then bif U l&&decide (0<=((a.length:Nat):Int))&&decide (((a.length:Nat):Int)<=(((a++a8 os none (some n))++b).length:Nat))then K (.ok (.t (g ((a++a8 os none (some n))++b) ((a.length:Nat):Int).toNat))) c else none else none else none:=by rfl'
theorem Sy(K:Kn):ai (yB D P A U g gi) 34 (ey qL).2 (DU l os du n a b) c K=K (.ok (.t du)) c:=by rfl'
noncomputable def Ys:Stmt->Expr| .For _ it _ _ _=>it|_=>dk
noncomputable def ZP:Stmt->Pos| .For _ _ _ _ p=>p|_=>⟨0,0,0,0⟩
theorem Nb:dm 4= .For (a7 (dm 4)) (Ys (dm 4)) (aV (dm 4)) [] (ZP (dm 4)):=by rfl'
theorem SA(K:Bool->List T->aa->aq)(kx:Kx):dQ (yB D P A U g gi) 34 (Ys (dm 4)) (DU l os du n a b) c K kx=bif decide (0<=n)&&decide (n<=big)then K false ((List.range n.toNat).map fun i=> .int (Int.ofNat i)) c else none:=by rfl'
noncomputable def yY(l:T)(os:List UInt8)(du:T)(n:Int)(a b:List UInt8):Option Int->Loc|none=>DU l os du n a b|some e=>DU l os du n a b++[(st "end",.t (.int e))]
theorem SD(e:Int)(more:List T)(t:Option Int)(k:Ko):bM DT.scope (ah (yB D P A U g gi) 34) (a7 (dm 4)) (aV (dm 4)) (.int e::more) (yY l os du n a b t) c k=
  bif U l&&decide ((0:Int)<=0)&&decide ((0:Int)<=((a8 os none (some e)).length:Nat))then(match iR c .IsNot (.t (g (a8 os none (some e)) (0:Int).toNat)) (.t .none)with
   |some v=>bif v then k (.ret (.t (B false))) (yY l os du n a b (some e)) c else bM DT.scope (ah (yB D P A U g gi) 34) (a7 (dm 4)) (aV (dm 4)) more (yY l os du n a b (some e)) c k
   |none=>none)else none:=by induction t<;>rfl'
theorem SE(t:Option Int)(k:Ko):aD (yB D P A U g gi) 34 (dm 5) (yY l os .none n a b t) c k=bif U l then k (.ret (.t (B (!gi os)))) (yY l os .none n a b t) c else none:=by induction t<;>rfl'
theorem SG(ts:List T)(t:Option Int)(k:Ko):aD (yB D P A U g gi) 34 (dm 5) (yY l os (.tup ts) n a b t) c k=k .next (yY l os (.tup ts) n a b t) c:=by induction t<;>rfl'
noncomputable abbrev qS(l:T)(os:List UInt8)(du:T)(n:Int)(a b:List UInt8)(t:Option Int)(w:List UInt8):Loc:=yY l os du n a b t++[(st "own",.t (.bytes w))]
theorem Xd(t:Option Int)(k:Ko):aD (yB D P A U g gi) 33 (dm 6) (yY l os du n a b t) c k=k .next (qS l os du n a b t (a8 os none (some n))) c:=by induction t<;>rfl'
noncomputable def ta:Expr:=qQ (dm 7)
noncomputable def or3:Expr->Expr×Expr×Expr| .BoolOp _ [a,b,c] _=>(a,b,c)|_=>(dk,dk,dk)
noncomputable def qM:Expr:=(or3 ta).1
theorem Nc:dm 7= .If ta (jf (dm 7)) (qR (dm 7)) (match dm 7 with| .If _ _ _ p=>p|_=>⟨0,0,0,0⟩)/\ta= .BoolOp .Or [qM,(or3 ta).2.1,(or3 ta).2.2] (pE ta)/\qM= .Compare (ey qM).1 [.NotEq] [(ey qM).2] (pE qM)/\lastMarks [.NotEq] [(ey qM).2]=false/\qR (dm 7)=[]:=⟨by rfl',by rfl',by rfl',by rfl',by rfl'⟩
theorem SH(t:Option Int)(w:List UInt8)(K:Kn):ai (yB D P A U g gi) 29 (ey qM).1 (qS l os du n a b t w) c K=bif U l&&decide ((0:Int)<=0)&&decide ((0:Int)<=(w.length:Nat))then K (.ok (.t (g w (0:Int).toNat))) c else none:=by induction t<;>rfl'
theorem SI(t:Option Int)(w:List UInt8)(K:Kn):ai (yB D P A U g gi) 29 (ey qM).2 (qS l os du n a b t w) c K=K (.ok (.t du)) c:=by induction t<;>rfl'
theorem SJ(t:Option Int)(w:List UInt8)(kk:Bool->aa->aq)(kx:Kx):aB (yB D P A U g gi) 30 (or3 ta).2.1 (qS l os du n a b t w) c kk kx=bif U l then kk (!gi w) c else none:=by induction t<;>rfl'
theorem SK(t:Option Int)(w:List UInt8)(kk:Bool->aa->aq)(kx:Kx):aB (yB D P A U g gi) 30 (or3 ta).2.2 (qS l os du n a b t w) c kk kx=bif decide (w.length+(a8 b none (some 1)).length<=big)then bif U l then kk (gi (w++a8 b none (some 1))) c else none else none:=by induction t<;>rfl'
end
theorem TQ(x:Cx)(n:Nat)(e1 e2:Expr)(p:Pos)(l:Loc)(c c1:aa)(k:Kn)(h:∀K,ai x n e1 l c K=K (.ok (.t (B true))) c1):ai x (n+1) (.BoolOp .And [e1,e2] p) l c k=ai x n e2 l c1 k:=by
 show ai x n e1 l c (fun r c=>match r with| .ok v=>ob (truthy? c v) fun b=>bif(b==true)then ai x n e2 l c k else k (.ok v) c| .exc=>k .exc c)=_
 rw[h];rfl
theorem C3(x:Cx)(n:Nat)(a b:Expr)(op:CmpOp)(p:Pos)(l:Loc)(c c1 c2:aa)(k:Kn)(u v:V)(r:Bool)(hl:lastMarks [op] [b]=false)(h1:∀K,ai x n a l c K=K (.ok u) c1)(h2:∀K,ai x n b l c1 K=K (.ok v) c2)(hc:iR c2 op u v=some r):ai x (n+1) (.Compare a [op] [b] p) l c k=k (.ok (.t (.bool r))) c2:=by
 show(bif !lastMarks [op] [b]then ai x n a l c (fun r c=>match r with| .ok u=>ai x n b l c (fun r c=>match r with| .ok y=>ob (iR c op u y) fun b=>k (.ok (.t (.bool b))) c| .exc=>k .exc c)| .exc=>k .exc c)else none)=_
 rw[hl,h1]
 show ai x n b l c1 _=_
 rw[h2]
 show ob (iR c2 op u v) _=_
 rw[hc]
 rfl
noncomputable def SL:Expr:=sS (dm 8)
noncomputable def tc:Expr:=(Jc SL).1
noncomputable def Nd:Expr:=(Jc SL).2
noncomputable def Hn:Expr:=(ey tc).1
noncomputable def jm:Expr:=cA Hn
theorem Nf:dm 8= .Return (some SL) (match dm 8 with| .Return _ p=>p|_=>⟨0,0,0,0⟩)/\SL= .BoolOp .And [tc,Nd] (pE SL)/\tc= .Compare Hn [.Eq] [(ey tc).2] (pE tc)/\Hn= .Call (.Name (yV (my Hn)) (yW (my Hn))) [jm] [] (N9 Hn)/\jm= .ListComp (fO jm) [⟨(be jm).1,(be jm).2.1,(be jm).2.2,0⟩] (bA jm) (DP jm)/\lastMarks [.Eq] [(ey tc).2]=false/\kg [jm]=true/\bL DT.scope (bA jm)=true:=⟨by rfl',by rfl',by rfl',by rfl',by rfl',by rfl',by rfl',by rfl'⟩
section
variable(D H J P A:Spec)(l:T)(os:List UInt8)(du:T)(n:Int)(a b:List UInt8)(c:aa)(t:Option Int)(w:List UInt8)
theorem SN(K:Kn):ai (j5 D H J P A) 27 (.Name (yV (my Hn)) (yW (my Hn))) (qS l os du n a b t w) c K=K (.ok (.t (.bi "sum"))) c:=by induction t<;>rfl'
theorem SO(K:Kn):ai (j5 D H J P A) 28 (ey tc).2 (qS l os du n a b t w) c K=K (.ok (.t (.int n))) c:=by induction t<;>rfl'
theorem SP(Q:List V->Bool)(ps:List T)(K:Bool->List T->aa->aq)(kx:Kx):dQ (j5 D H J (cp Q (.ok (.t (.lst ps)))) A) 26 (be jm).2.1 (qS l os du n a b t w) c K kx=bif Q [.t (.bytes os)]then K false ps c else none:=by induction t<;>rfl'
theorem SQ:bK (bA jm) (qS l os du n a b t w)=I8 none:=by induction t<;>rfl'
theorem SR(s:String)(i:Int)(more:List T)(acc:List V)(u:Option (String×Int))(k:List V->aa->aq):aS (bA jm) (ai {j5 D H J P A with scope:=bA jm} 26) (aB {j5 D H J P A with scope:=bA jm} 26) (fO jm) (be jm).2.2 (be jm).1 (jW s i::more) acc (I8 u) c k=
  aS (bA jm) (ai {j5 D H J P A with scope:=bA jm} 26) (aB {j5 D H J P A with scope:=bA jm} 26) (fO jm) (be jm).2.2 (be jm).1 more (acc++[.t (.int i)]) (I8 (some (s,i))) c k:=by induction u<;>rfl'
theorem Jk(k:List V->aa->aq):∀(ps:List (String×Int)) (acc:List T) (u:Option (String×Int)),aS (bA jm) (ai {j5 D H J P A with scope:=bA jm} 26) (aB {j5 D H J P A with scope:=bA jm} 26) (fO jm) (be jm).2.2 (be jm).1 (il ps) (acc.map .t) (I8 u) c k=k ((acc++ps.map fun p=>T.int p.2).map .t) c
 |[],acc,u=>by show k (acc.map .t) c=k ((acc++[]).map .t) c;rw[List.append_nil]
 |p::ps,acc,u=>by
  show aS _ _ _ _ _ _ (jW p.1 p.2::il ps) _ _ _ _=_
  rw[SR]
  have:=Jk k ps (acc++[.int p.2]) (some (p.1,p.2))
  rw[List.map_append]at this
  refine Eq.trans this ?_
  rw[List.append_assoc];rfl
theorem SS(Q:List V->Bool)(t1 t2:T)(xk:List T)(m:Int)(K:Kn):ai (j5 D H J P (cp Q (.ok (.t (B true))))) 29 Nd (qS l os (.tup [.tup [t1,t2,.tup xk],.int m]) n a b t w) c K=bif Q [.t l,.t (.bytes w),.t (.tup xk)]then K (.ok (.t (B true))) c else none:=by induction t<;>rfl'
end
noncomputable def yC:List (String×Int)->Int
 |[]=>0
 |p::r=>p.2+yC r
theorem wU(k:Int->aq):∀(ps:List (String×Int)) (s:Int),sumK ((ps.map fun p=>T.int p.2).map .t) s k=k (s+yC ps)
 |[],s=>by show k s=k (s+0);rw[Int.add_zero]
 |p::ps,s=>by
  show sumK ((ps.map fun p=>T.int p.2).map .t) (s+p.2) k=_
  rw[wU k ps,yC,Int.add_assoc]
theorem ji:∀ls:List (String×Nat),yC ((ls.map fun p=>(p.1,(p.2:Int))).filter fun p=>decide (0<p.2))=((lQ ls:Nat):Int)
 |[]=>rfl
 |p::ls=>by
  rw[List.map_cons,List.filter_cons,lQ]
  by_cases q:(0:Int)<((p.2:Nat):Int)
  ·rw[show decide ((0:Int)<((p.2:Nat):Int))=true from decide_eq_true q,if_pos rfl,yC,ji ls]
   push_cast;rfl
  ·rw[show decide ((0:Int)<((p.2:Nat):Int))=false from decide_eq_false q,if_neg (by decide),ji ls]
   push_cast;lia
noncomputable def Flat(t:T):Prop:=jr 20 t=true/\eqT t t=some true/\∀n,jr n t=true
theorem bF(s:Str):Flat (.str s):=⟨rfl,wG s,fun n=>by induction n<;>rfl⟩
theorem eT(i:Int):Flat (.int i):=⟨rfl,mA i,fun n=>by induction n<;>rfl⟩
noncomputable def Good2(n:Nat)(t:T):Prop:=jr n t=true/\eqT t t=some true
theorem Flat.g{t:T}(h:Flat t)(n:Nat):Good2 n t:=⟨h.2.2 n,h.2.1⟩
theorem cI{n:Nat}{ts:List T}(h:∀t∈ts,Good2 n t):Good2 (n+1) (.tup ts):=⟨List.all_eq_true.mpr fun t ht=>(h t ht).1,wH fun t ht=>(h t ht).2⟩
theorem td(r:Option Rg):Flat (Wc r):=bF _
theorem C4(s:Seg):Flat s.t:=bF _
theorem wV(o:Op)(n:Nat):Good2 (n+1) o.told:=by
 induction o with
 |aA s m hr=>
  refine cI ?_
  intro t ht
  simp only[List.mem_cons,List.not_mem_nil,or_false]at ht
  rcases ht with rfl|rfl
  ·exact(bF _).g n
  ·exact(bF _).g n
 |gz w=>
  refine cI ?_
  intro t ht
  simp only[List.mem_cons,List.not_mem_nil,or_false]at ht
  rcases ht with rfl|rfl|rfl
  ·exact(bF _).g n
  ·exact(eT _).g n
  ·exact(bF _).g n
 |rel w=>
  refine cI ?_
  intro t ht
  simp only[List.mem_cons,List.not_mem_nil,or_false]at ht
  rcases ht with rfl|rfl|rfl
  ·exact(bF _).g n
  ·exact(eT _).g n
  ·exact(bF _).g n
 |mem b i sc w sz sg=>
  refine cI ?_
  intro t ht
  simp only[List.mem_cons,List.not_mem_nil,or_false]at ht
  rcases ht with rfl|rfl|rfl|rfl|rfl|rfl|rfl|rfl
  ·exact(bF _).g n
  ·exact(td b).g n
  ·exact(td i).g n
  ·exact(eT _).g n
  ·exact(eT _).g n
  ·exact(eT _).g n
  ·exact(C4 sg).g n
  ·exact(bF _).g n
theorem o0(x:Dec)(n:Nat):Good2 30 (x.told n):=by
 refine cI fun t ht=> ?_
 rcases List.mem_cons.mp ht with rfl|ht
 ·refine cI fun t ht=> ?_
  simp only[List.mem_cons,List.not_mem_nil,or_false]at ht
  rcases ht with rfl|rfl|rfl
  ·exact(bF _).g 28
  ·exact(bF _).g 28
  ·refine cI fun t ht=> ?_
   obtain⟨o,_,rfl⟩:=List.mem_map.mp ht
   exact wV o 26
 ·rw[List.mem_singleton.mp ht];exact(eT _).g 29
theorem C5(c:aa)(r:Rd Dec):iR c .NotEq (.t (lu r Dec.told)) (.t (lu r Dec.told))=some false:=by
 induction r with
 |done x n=>exact MQ c _ (fun b h=>by cases h) (o0 x n).1 (o0 x n).2
 |fail=>rfl
 |more=>rfl
noncomputable def gx:Spec:=fun _ _ _=>none
theorem j6{n a:Nat}(h:has a=true):bG (n+1) a gx:=gU (eI h) fun _ _ _ _ e=>nn e
theorem qN{p:Cell}(hp:jZ p)(more:aa)(K:T->Cell->aq)(t:T):lm K (.ok (.t t)) (p::more)=K t p:=by obtain⟨xs,s,g,rfl,_⟩:=hp;rfl
noncomputable abbrev gF(fl:Bool):List UInt8->Nat->T:=fun b j=>lu (aO (ab fl) (b.drop j)) Dec.told
noncomputable abbrev gI(fl:Bool):List UInt8->Bool:=fun b=>DM (ab fl) b
theorem wW:DT.body=[dm 0,dm 1,dm 2,dm 3,dm 4,dm 5,dm 6,dm 7,dm 8]:=by rfl'
section
variable(fl:Bool)(D P A:Spec)(os:List UInt8)(n:Nat)(a b:List UInt8)(c:aa)
noncomputable abbrev wX(fl:Bool)(D P A:Spec):=yB D P A (oZ (ag (ab fl))) (gF fl) (gI fl)
theorem Jl(du:T)(hb:a.length+os.length+b.length<=big)(hg:lu (aO (ab fl) (os.take n++b)) Dec.told=du)(hd:iR c .NotEq (.t du) (.t du)=some false)(K:Ko):aD (wX fl D P A) 36 (dm 3) (DU (ag (ab fl)) os du n a b) c K=K .next (DU (ag (ab fl)) os du n a b) c:=by
 obtain⟨h1,h2,h3,h4⟩:=Na
 have e:∀K:Kn,ai (wX fl D P A) 34 (ey qL).1 (DU (ag (ab fl)) os du n a b) c K=K (.ok (.t du)) c:=fun K=>by
  rw[Sx,g8,eR]
  have l1:(os.take n).length<=os.length:=by rw[List.length_take];(clear h4 h3 h2 h1 hd hg hb;lia)
  rw[cD (by(clear h4 h3 h2 h1 hd hg;lia)),cD (by rw[List.length_append];(clear h4 h3 h2 h1 hd hg;lia))]
  rw[show(true&&decide (0<=((a.length:Nat):Int))&&decide (((a.length:Nat):Int)<=(((a++os.take n)++b).length:Nat)))=true by rw[decide_eq_true (by exact Int.natCast_nonneg _),decide_eq_true (by rw[List.length_append,List.length_append];(clear l1 h4 h3 h2 h1 hd hg hb;lia))];rfl]
  simp only[cond_true]
  rw[Int.toNat_natCast,List.append_assoc]
  show K (.ok (.t (lu (aO (ab fl) ((a++(os.take n++b)).drop a.length)) Dec.told))) c=_
  rw[List.drop_left,hg]
 have h1:=h1
 generalize jf (dm 3)=A3 at h1
 rw[h1,ei,h2,dI (wX fl D P A) 34 _ _ .NotEq _ _ _ _ _ _ _ _ _ false h3 e (fun K=>Sy D P A _ _ _ _ os du n a b c K) hd]
 simp only[cond_false]
 rw[h4,bR]
theorem Jm(du:T)(hn:n<=1000)(hg:∀e,e<n->lu (aO (ab fl) (os.take e)) Dec.told= .none):∃t',∀K:Ko,aD (wX fl D P A) 35 (dm 4) (DU (ag (ab fl)) os du n a b) c K=K .next (yY (ag (ab fl)) os du n a b t') c:=by
 have loop:∀(es:List Nat) (t:Option Int),(∀e∈es,e<n)->∃t',∀K:Ko,bM DT.scope (ah (wX fl D P A) 34) (a7 (dm 4)) (aV (dm 4)) (es.map fun i=> .int (Int.ofNat i)) (yY (ag (ab fl)) os du n a b t) c K=K .next (yY (ag (ab fl)) os du n a b t') c:=by
  intro es
  induction es with
  |nil=>exact fun t _=>⟨t,fun K=>rfl⟩
  |cons e es ih=>
   intro t he
   obtain⟨t',ht⟩:=ih (some (Int.ofNat e)) fun x hx=>he x (List.mem_cons_of_mem _ hx)
   refine⟨t',fun K=> ?_⟩
   rw[List.map_cons,SD,eR,show(true&&decide ((0:Int)<=0)&&decide ((0:Int)<=((a8 os none (some (Int.ofNat e))).length:Nat)))=true by rw[decide_eq_true (by exact Int.natCast_nonneg _),decide_eq_true (by exact Int.natCast_nonneg _)];rfl]
   simp only[cond_true]
   have:gF fl (a8 os none (some (Int.ofNat e))) (0:Int).toNat= .none:=by
    show lu (aO (ab fl) ((a8 os none (some ((e:Nat):Int))).drop 0)) Dec.told=_
    rw[g8,List.drop_zero]
    exact hg e (he e List.mem_cons_self)
   rw[this]
   exact ht K
 obtain⟨t',ht⟩:=loop (List.range (n:Int).toNat) none fun e he=>by have:=List.mem_range.mp he;exact this
 refine⟨t',fun K=> ?_⟩
 rw[Nb,jV (wX fl D P A) 34 _ _ _ _ ((List.range (n:Int).toNat).map fun i=> .int (Int.ofNat i)) _ c c _ (fun K kx=>by
  rw[SA,decide_eq_true (show(0:Int)<=(n:Nat) by exact Int.natCast_nonneg _),decide_eq_true (show((n:Nat):Int)<=(big:Nat) by unfold big;exact Int.ofNat_le.mpr (Nat.le_trans hn (by decide)))];rfl)]
 exact ht K
end
theorem Xe(te:Te)(a b d:Expr)(l:Loc)(c:aa)(k:Bool->aa->aq)(kx:Kx):NJ te [a,b,d] l c k kx=te a l c (fun v c=>bif v then k true c else te b l c (fun v c=>bif v then k true c else te d l c (fun v c=>bif v then k true c else k false c) kx) kx) kx:=rfl
theorem is_none{fl:Bool}{os:List UInt8}(h:dC (aO (ab fl) os)):DM (ab fl) os=false:=by
 unfold DM
 cases q:aO (ab fl) os with
 |done x n=>exact absurd q (h x n)
 |fail=>rfl
 |more=>rfl
theorem wY{fl:Bool}{os:List UInt8}{x:Dec}{n:Nat}(h:aO (ab fl) os= .done x n):DM (ab fl) os=decide (n=os.length):=by unfold DM;rw[h]
theorem ST(fl:Bool)(D P A:Spec)(os:List UInt8)(a b:List UInt8)(c:aa)(t:Option Int){x:Dec}{m:Nat}(hx:aO (ab fl) os= .done x m)(hb:b.length=3)(Yt:os.length=16)(K:Ko):aD (wX fl D P A) 32 (dm 7) (qS (ag (ab fl)) os (x.told m) m a b t (os.take m)) c K=K .next (qS (ag (ab fl)) os (x.told m) m a b t (os.take m)) c:=by
 obtain⟨g1,g2,g3⟩:=kU hx
 have hw:(os.take m).length=m:=by rw[List.length_take];exact Nat.min_eq_left g2
 have Ho:aO (ab fl) (os.take m)= .done x m:=by have:=eQ hx [];rwa [List.append_nil]at this
 obtain⟨h1,h2,h3,h4,h5⟩:=Nc
 have h1:=h1
 generalize jf (dm 7)=A7 at h1
 have e1:∀K:Kn,ai (wX fl D P A) 29 (ey qM).1 (qS (ag (ab fl)) os (x.told m) m a b t (os.take m)) c K=K (.ok (.t (x.told m))) c:=fun K=>by
  rw[SH,eR,show(true&&decide ((0:Int)<=0)&&decide ((0:Int)<=((os.take m).length:Nat)))=true by rw[decide_eq_true (by exact Int.natCast_nonneg _),decide_eq_true (by exact Int.natCast_nonneg _)];rfl]
  simp only[cond_true]
  show K (.ok (.t (lu (aO (ab fl) ((os.take m).drop 0)) Dec.told))) c=_
  rw[List.drop_zero,Ho];rfl
 have O7:iR c .NotEq (.t (x.told m)) (.t (x.told m))=some false:=C5 c (.done x m)
 rw[h1,ei,h2,mz,Xe,h3,dI (wX fl D P A) 29 _ _ .NotEq _ _ _ _ _ _ _ _ _ false h4 e1 (fun K=>SI D P A _ _ _ _ os _ m a b c t _ K) O7]
 simp only[cond_false]
 rw[SJ,eR,cond_true,show gI fl (os.take m)=true by show DM (ab fl) (os.take m)=true;rw[wY Ho,hw];exact decide_eq_true rfl]
 simp only[Bool.not_true,cond_false]
 have Vi:(a8 b none (some 1)).length=1:=by rw[show(1:Int)=((1:Nat):Int)from rfl,g8,List.length_take];exact congrArg _ hb
 have SU:aO (ab fl) (os.take m++a8 b none (some 1))= .done x m:=eQ hx _
 rw[SK,cD (by rw[Vi,hw];unfold big;exact Nat.lt_of_le_of_lt g3 (by decide)),eR,cond_true,show gI fl (os.take m++a8 b none (some 1))=false by show DM (ab fl) _=false;rw[wY SU,List.length_append,hw,Vi];exact decide_eq_false (by omega)]
 simp only[cond_false]
 rw[h5,bR]
theorem SW(fl:Bool)(D:Spec)(os:List UInt8)(a b:List UInt8)(c:aa)(t:Option Int){x:Dec}{m:Nat}(hx:aO (ab fl) os= .done x m)(Q1 Q2:List V->Bool)(MX:Q1 [.t (.bytes os)]=true)(R0:Q2 [.t (ag (ab fl)),.t (.bytes (os.take m)),.t (.tup (x.ops.map Op.told))]=true)(K:Ko):
  aD (wX fl D (cp Q1 (.ok (.t (T.lst (il ((tv x.d).filter fun p=>decide (0<p.2))))))) (cp Q2 (.ok (.t (B true))))) 31 (dm 8) (qS (ag (ab fl)) os (x.told m) m a b t (os.take m)) c K=K (.ret (.t (B true))) (qS (ag (ab fl)) os (x.told m) m a b t (os.take m)) c:=by
 obtain⟨h1,h2,h3,h4,h5,h6,h7,h8⟩:=Nf
 generalize hA:cp Q2 (.ok (.t (B true)))=A
 have Xf:yC ((tv x.d).filter fun p=>decide (0<p.2))=((m:Nat):Int):=by
  unfold tv
  rw[ji,sW,(eP hx).1]
 have e1:∀K:Kn,ai (wX fl D (cp Q1 (.ok (.t (T.lst (il ((tv x.d).filter fun p=>decide (0<p.2))))))) A) 28 Hn (qS (ag (ab fl)) os (x.told m) m a b t (os.take m)) c K=K (.ok (.t (.int m))) c:=fun K=>by
  rw[h4,eu _ 27 _ _ _ _ _ _ _ _ h7 (fun K=>SN D _ _ _ A _ os _ m a b c t _ K),nK,h5,cr _ 26 _ _ _ _ _ _ _ _ _ _ _ h8 (fun K kx=>(SP ..).trans (by rw[MX];rfl)),SQ]
  refine Eq.trans (Jk D _ _ _ A c _ ((tv x.d).filter fun p=>decide (0<p.2)) [] none) ?_
  rw[List.nil_append,bY]
  show sumK ((((tv x.d).filter fun p=>decide (0<p.2)).map fun p=>T.int p.2).map .t) 0 (fun i=>K (.ok (.t (.int i))) c)=_
  rw[wU,Xf,Int.zero_add]
 have e2:∀K:Kn,ai (wX fl D (cp Q1 (.ok (.t (T.lst (il ((tv x.d).filter fun p=>decide (0<p.2))))))) A) 29 tc (qS (ag (ab fl)) os (x.told m) m a b t (os.take m)) c K=K (.ok (.t (B true))) c:=fun K=>by
  rw[h3,C3 _ 28 _ _ .Eq _ _ _ _ _ _ _ _ true h6 e1 (fun K=>SO D _ _ _ A _ os _ m a b c t _ K) (by
   show u9 c (.t (.int m)) (.t (.int m))=some true
   exact I9 c _ (fun b h=>by cases h) rfl (mA _))]
 rw[h1,nJ,h2,TQ _ 29 _ _ _ _ _ _ _ e2,<-hA]
 show ai (j5 D _ _ _ (cp Q2 (.ok (.t (B true))))) 29 Nd (qS (ag (ab fl)) os (.tup [.tup [Z x.d.f.name,Z x.w,.tup (x.ops.map Op.told)],.int m]) m a b t (os.take m)) c _=_
 rw[SS,R0];rfl
theorem lA(fl:Bool)(os:List UInt8)(uR:os.length=16)(q:dC (aO (ab fl) os)){b:Int}{p:Cell}(hp:aL b p)(hb:b<=700):∃p',aL (b+6) p' /\gr 26 1249 [ag (ab fl),.bytes os,.none] p (B true) p' :=by
 have iD:=oY (n:=25) (by decide)
 have iH:=C2 fl
 have iJ:=Jj fl
 have Jn:os.take 16=os:=List.take_of_length_le (by exact Nat.le_of_eq uR)
 obtain⟨a,p1,ha,Hp,e1⟩:=Sv (hS (oZ (ag (ab fl))) (gF fl)) (iS (oZ (ag (ab fl))) (gI fl)) gx gx (ag (ab fl)) os .none ((16:Nat):Int) [] b p hp (by exact Int.le_trans hb (by decide))
 obtain⟨bh,p2,Yu,s7,e2⟩:=Sw (hS (oZ (ag (ab fl))) (gF fl)) (iS (oZ (ag (ab fl))) (gI fl)) gx gx (ag (ab fl)) os .none ((16:Nat):Int) [] a (b+3) p1 Hp (by omega)
 obtain⟨t,e4⟩:=Jm fl dS gx gx os 16 a bh (p2::[]) .none (by decide) (fun e he=>g0 (GK q e) _)
 refine⟨p2,s7.up (by omega),dH IJ (aP (by decide) [(1187,dS),(1227,hS (oZ (ag (ab fl))) (gF fl)),(969,iS (oZ (ag (ab fl))) (gI fl)),(1220,gx),(1244,gx)] (iD.all (iH.all (iJ.all ((j6 (by decide+kernel)).all ((j6 (by decide+kernel)).all .aW)))))) hp.is.cZ fun K=> ?_⟩
 rw[g9 (l:=M6 (ag (ab fl)) os .none) (by rfl')]
 refine Eq.trans (b:=ah (wX fl dS gx gx) 40 DT.body (M6 (ag (ab fl)) os .none) (p::[]) (KG (lm K))) rfl ?_
 rw[wW,af]
 have r0:=Xc dS (hS (oZ (ag (ab fl))) (gF fl)) (iS (oZ (ag (ab fl))) (gI fl)) gx gx (ag (ab fl)) os (p::[])
 rw[show(16:Int)=((16:Nat):Int)from rfl]at r0
 refine Eq.trans (r0 _) ?_
 rw[aj,af]
 refine Eq.trans (e1 _) ?_
 rw[aj,af]
 refine Eq.trans (e2 _) ?_
 rw[aj,af]
 refine Eq.trans (Jl fl _ _ _ os 16 a bh _ .none (by unfold big;omega) (by rw[Jn];exact g0 (Cz q (by omega) bh) _) rfl _) ?_
 rw[aj,af]
 refine Eq.trans (e4 _) ?_
 rw[aj,af]
 refine Eq.trans (SE ..) ?_
 rw[eR,cond_true,show gI fl os=false from is_none q]
 exact qN s7.is [] K _
theorem uS(fl:Bool)(os:List UInt8)(uR:os.length=16){b:Int}{p:Cell}(hp:aL b p)(hb:b<=700):∃p',aL (b+6) p' /\gr 26 1249 [ag (ab fl),.bytes os,lu (aO (ab fl) os) Dec.told] p (B true) p' :=by
 have iD:=oY (n:=25) (by decide)
 have iH:=C2 fl
 have iJ:=Jj fl
 have Jn:os.take 16=os:=List.take_of_length_le (by exact Nat.le_of_eq uR)
 cases q:aO (ab fl) os with
 |done x m=>
  obtain⟨g1,g2,g3⟩:=kU q
  have hw:(os.take m).length=m:=by rw[List.length_take];exact Nat.min_eq_left g2
  have Ho:aO (ab fl) (os.take m)= .done x m:=by have:=eQ q [];rwa [List.append_nil]at this
  have iP:=bf (n' :=24) (args:=[.t (.bytes os)]) trivial (nI fl q) (by decide) rfl
  have iA:=bf (n' :=24) (args:=[.t (ag (ab fl)),.t (.bytes (os.take m)),.t (.tup (x.ops.map Op.told))]) trivial (Hf fl Ho hw.symm) (by decide) rfl
  revert iP iA
  generalize MX:isA [.t (.bytes os)]=Q1
  generalize R0:isA [.t (ag (ab fl)),.t (.bytes (os.take m)),.t (.tup (x.ops.map Op.told))]=Q2
  intro iP iA
  obtain⟨a,p1,ha,Hp,e1⟩:=Sv (hS (oZ (ag (ab fl))) (gF fl)) (iS (oZ (ag (ab fl))) (gI fl)) (cp Q1 (.ok (.t (kX x.d)))) (cp Q2 (.ok (.t (B true)))) (ag (ab fl)) os (x.told m) m [] b p hp (by exact Int.le_trans hb (by decide))
  obtain⟨bh,p2,Yu,s7,e2⟩:=Sw (hS (oZ (ag (ab fl))) (gF fl)) (iS (oZ (ag (ab fl))) (gI fl)) (cp Q1 (.ok (.t (kX x.d)))) (cp Q2 (.ok (.t (B true)))) (ag (ab fl)) os (x.told m) m [] a (b+3) p1 Hp (by omega)
  obtain⟨t,e4⟩:=Jm fl dS (cp Q1 (.ok (.t (kX x.d)))) (cp Q2 (.ok (.t (B true)))) os m a bh (p2::[]) (x.told m) (by exact Nat.le_trans g3 (by decide)) (fun e he=>g0 (kV q he) _)
  refine⟨p2,s7.up (by omega),dH IJ (aP (by decide) _ (iD.all (iH.all (iJ.all (iP.all (iA.all .aW)))))) hp.is.cZ fun K=> ?_⟩
  rw[g9 (l:=M6 (ag (ab fl)) os (x.told m)) (by rfl')]
  refine Eq.trans (b:=ah (wX fl dS (cp Q1 (.ok (.t (kX x.d)))) (cp Q2 (.ok (.t (B true))))) 40 DT.body (M6 (ag (ab fl)) os (x.told m)) (p::[]) (KG (lm K))) rfl ?_
  rw[wW,af]
  refine Eq.trans (Sl ..) ?_
  rw[aj,af]
  refine Eq.trans (e1 _) ?_
  rw[aj,af]
  refine Eq.trans (e2 _) ?_
  rw[aj,af]
  refine Eq.trans (Jl fl _ _ _ os m a bh _ (x.told m) (by unfold big;omega) (by rw[eQ q];rfl) (C5 _ (.done x m)) _) ?_
  rw[aj,af]
  refine Eq.trans (e4 _) ?_
  rw[aj,af]
  refine Eq.trans (SG ..) ?_
  rw[aj,af]
  refine Eq.trans (Xd ..) ?_
  rw[aj,af,g8]
  refine Eq.trans (ST fl _ _ _ os a bh _ t q Yu uR _) ?_
  rw[aj,af]
  refine Eq.trans (SW fl _ os a bh _ t q Q1 Q2 (by rw[<-MX];exact aK _) (by rw[<-R0];exact aK _) _) ?_
  exact qN s7.is [] K _
 |fail=>exact lA fl os uR (by rw[q];intro x n h;cases h) hp hb
 |more=>exact lA fl os uR (by rw[q];intro x n h;cases h) hp hb
end
section
set_option autoImplicit true
open PySem
noncomputable def piF:Fn:=fnAt (aR pW 126) []
theorem Ng(xs:List T)(p:Cell)(K:T->Cell->aq):an bD (cU [(1187,dS)] (TN 8)) piF [.loc 0,.t (.lst xs)] [p] (lm K)=
  bif oX ((xs.map V.t).length:Nat) p then bif decide (0<=(br ((xs.map V.t).length:Nat) p).1)then atK (xs.map .t) (br ((xs.map V.t).length:Nat) p).1.toNat (fun v=>lm K (.ok v) [(br ((xs.map V.t).length:Nat) p).2])
   else bif decide (-(((xs.map V.t).length:Nat):Int)<=(br ((xs.map V.t).length:Nat) p).1)then atK (xs.map .t) ((xs.map V.t).length-(br ((xs.map V.t).length:Nat) p).1.natAbs) (fun v=>lm K (.ok v) [(br ((xs.map V.t).length:Nat) p).2])else none else none:=by rfl'
theorem Hq(k:V->aq){xs:List T}:∀{j:Nat} (h:j<xs.length),atK (xs.map .t) j k=k (.t xs[j]):=by
 induction xs with
 |nil=>exact fun h=>absurd h (Nat.not_lt_zero _)
 |cons x r ih=>
  intro j h
  induction j with
  |zero=>rfl
  |succ j=>exact ih (Nat.lt_of_succ_lt_succ h)
noncomputable def Jo(ts:List T)(p:Cell)(t:T)(p' :Cell):Prop:=∀xs,ts=[.lst xs]->t∈xs/\jZ p' /\spotOf p' <=spotOf p+1
noncomputable def lT:List T->Cell->Option (T×Cell):=IL Jo 11 1194
theorem Jp(h:11<=n):bG n 1194 (kj lT):=(qu (by decide+kernel)).up h
theorem picked{G:Prop}{xs:List T}(hp:aL b p)(hb:b<=900)(h0:xs≠[])(h1:xs.length<2^30)(k:∀t p',t∈xs->aL (b+1) p' ->lT [.lst xs] p=some (t,p')->G):G:=
 have l0:0<xs.length:=List.length_pos_iff.mpr h0
 drawn (m:=(xs.length:Nat)) hp hb (Int.ofNat_lt.mpr l0) (Int.ofNat_lt.mpr h1) fun d1 d2 d3 d4=>by
  have hj:(br (xs.length:Nat) p).1.toNat<xs.length:=by lia
  have says:gr 11 1194 [.lst xs] p xs[(br (xs.length:Nat) p).1.toNat] (br (xs.length:Nat) p).2:=dH PG (aP (by decide) _ ((oY (n:=10) (by decide)).all .aW)) hp.is.cZ fun K=>by
   refine(Ng xs p K).trans ?_
   rw[List.length_map,d1,cond_true,cD d2,Hq _ hj]
   exact qN d4.is [] K _
  have w:=C1 (db d1)
  exact qv (P:=Jo) (fun ys e=>by cases e;exact⟨List.getElem_mem hj,w.yM,w.Hg⟩) says fun t p' hP e=>have q:=hP xs rfl;k t p' q.1 ⟨q.2.1,Int.le_trans q.2.2 (Int.add_le_add_right hp.le 1)⟩ e
noncomputable def Yv:Fn:=fnAt (aR pW 127) []
noncomputable def Xg(w e:Int):List (List Int):=[[112+w],[15,128+w],[233],[235],[232],[224+w.fmod 4],[194],[195],[201],[205],[204],[164+w.fmod 12],[15,31],[255],[244],[15,5],[144],[16*w+e]]
noncomputable def Xh(w e:Int):List (List Int):=[[136+w.fmod 4],[176+w],[184+w.fmod 8],[198],[199],[141],[134+w.fmod 2],[144+w.fmod 8],[80+w],[106],[104],[255],[143],[156+w.fmod 2],[15,31],[199],[16*w+e]]
noncomputable def jj(z:List Int):T:= .lst (z.map .int)
noncomputable abbrev Xi(L:List (List Int))(D:List Int)(p:Cell)(K:T->Cell->aq):aq:=ob (lT [.lst (L.map jj)] p) fun w=>ob (lT [jj D] w.2) fun u=>bif cZ 1 u.2 then K (.tup [w.1,u.1]) u.2 else none
noncomputable abbrev Xj:Tab:=cU [(1187,dS),(1194,kj lT)] (TN 8)
theorem C6(p:Cell)(K:T->Cell->aq):an bD Xj Yv [.loc 0,.t (B true)] [p] (lm K)=(bif oX 16 p then bif oX 16 (br 16 p).2 then Xi (Xg (br 16 p).1 (br 16 (br 16 p).2).1) [0,2,4,(br 16 p).1.fmod 8] (br 16 (br 16 p).2).2 K else none else none)/\
  an bD Xj Yv [.loc 0,.t (B false)] [p] (lm K)=(bif oX 16 p then bif oX 16 (br 16 p).2 then Xi (Xh (br 16 p).1 (br 16 (br 16 p).2).1) [0,0,6,(br 16 p).1.fmod 8] (br 16 (br 16 p).2).2 K else none else none):=⟨by rfl',by rfl'⟩
structure k0(code:List Int)(z:Int):Prop where
 ne:code≠[]
 len:code.length<=2
 H5:∀d∈code,0<=d/\d<256
 z0:0<=z
 z7:z<=7
noncomputable def codeB(c:List Int):Bool:=(!c.isEmpty&&decide (c.length<=2))&&c.all fun d=>decide (0<=d)&&decide (d<256)
noncomputable def ZQ(z:Int):Bool:=decide (0<=z)&&decide (z<=7)
noncomputable def setB(L:List (List Int))(D:List Int):Bool:=L.all codeB&&D.all ZQ
noncomputable def Yw(w:Int):List Int:=[0,2,4,w.fmod 8]
noncomputable def Yx(w:Int):List Int:=[0,0,6,w.fmod 8]
theorem SX:((List.range 16).all fun w=>(List.range 16).all fun e=>setB (Xg (Int.ofNat w) (Int.ofNat e)) (Yw (Int.ofNat w))&&setB (Xh (Int.ofNat w) (Int.ofNat e)) (Yx (Int.ofNat w)))=true:=by rfl'
theorem Hr{w e:Int}(hw:0<=w/\w<16)(he:0<=e/\e<16):setB (Xg w e) (Yw w)=true/\setB (Xh w e) (Yx w)=true:=by
 obtain⟨n,rfl⟩:=Int.eq_ofNat_of_zero_le hw.1
 obtain⟨m,rfl⟩:=Int.eq_ofNat_of_zero_le he.1
 exact(Bool.and_eq_true _ _).mp (List.all_eq_true.mp (List.all_eq_true.mp SX n (List.mem_range.mpr (Int.ofNat_lt.mp hw.2))) m (List.mem_range.mpr (Int.ofNat_lt.mp he.2)))
theorem Hu{L:List (List Int)}{D:List Int}(h:setB L D=true){c:List Int}{z:Int}(hc:c∈L)(hz:z∈D):k0 c z:=by
 have h:=(Bool.and_eq_true _ _).mp h
 have h1:=(Bool.and_eq_true _ _).mp (List.all_eq_true.mp h.1 c hc)
 have h2:=(Bool.and_eq_true _ _).mp h1.1
 have h3:=(Bool.and_eq_true _ _).mp (List.all_eq_true.mp h.2 z hz)
 exact⟨fun e=>(by rw[e]at h2;cases h2.1),of_decide_eq_true h2.2,fun d hd=>have q:=(Bool.and_eq_true _ _).mp (List.all_eq_true.mp h1.2 d hd);⟨of_decide_eq_true q.1,of_decide_eq_true q.2⟩,of_decide_eq_true h3.1,of_decide_eq_true h3.2⟩
theorem Jq{L:List (List Int)}{D:List Int}(h:setB L D=true)(l0:L≠[])(l1:L.length<2^30)(d0:D≠[])(d1:D.length<2^30)(hp:aL b p)(hb:b<=800):∃code z p',k0 code z/\aL (b+2) p' /\∀K,Xi L D p K=K (.tup [jj code,.int z]) p' :=
 picked (xs:=L.map jj) hp (by exact Int.le_trans hb (by decide)) (fun e=>l0 (List.map_eq_nil_iff.mp e)) (by rw[List.length_map];exact l1) fun t1 p1 m1 q1 e1=>
 picked (xs:=D.map .int) q1 (by(clear e1 q1 m1 hp d1 d0 l1 l0 h;lia)) (fun e=>d0 (List.map_eq_nil_iff.mp e)) (by rw[List.length_map];exact d1) fun t2 p2 m2 q2 e2=>by
  obtain⟨code,hc,rfl⟩:=List.mem_map.mp m1
  obtain⟨z,hz,rfl⟩:=List.mem_map.mp m2
  refine⟨code,z,p2,Hu h hc hz,q2.up (by(clear e2 m2 hz e1 m1 hc q2 q1 hb hp d1 d0 l1 l0 h;lia)),fun K=> ?_⟩
  show ob (lT _ p) _=_
  rw[e1]
  show ob (lT [.lst (D.map .int)] p1) _=_
  refine Eq.trans (b:=ob (some (T.int z,p2)) fun u=>bif cZ 1 u.2 then K (.tup [jj code,u.1]) u.2 else none) (congrArg (fun o=>ob o fun u=>bif cZ 1 u.2 then K (.tup [jj code,u.1]) u.2 else none) e2) ?_
  show(bif cZ 1 p2 then _ else _)=_
  rw[q2.is.cZ];rfl
theorem uT(fl:Bool)(hp:aL b p)(hb:b<=600):∃code z p',k0 code z/\aL (b+4) p' /\gr 13 1201 [B fl] p (.tup [jj code,.int z]) p' :=by
 obtain⟨v1,w1,q1⟩:=cH (m:=16) hp (by exact Int.le_trans hb (by decide)) (by decide) (by decide)
 obtain⟨v2,w2,q2⟩:=cH (m:=16) q1 (by(clear q1 w1 v1 hp;lia)) (by decide) (by decide)
 have hs:=Hr w1 w2
 have go:cC Xj 12:=aP (by decide) _ ((oY (by decide)).all ((Jp (by decide)).all .aW))
 induction fl with
 |true=>
  obtain⟨code,z,p',a,q,e⟩:=Jq hs.1 (fun h=>nomatch h) (by show 18<2^30;decide) (fun h=>nomatch h) (by show 4<2^30;decide) q2 (by(clear go hs q2 w2 v2 q1 w1 v1 hp;lia))
  exact⟨code,z,p',a,q.up (by(clear e q a go hs q2 w2 v2 q1 w1 v1 hb hp;lia)),dH II go hp.is.cZ fun K=>by
   refine(C6 p K).1.trans ?_
   rw[v1,cond_true,v2,cond_true];exact e K⟩
 |false=>
  obtain⟨code,z,p',a,q,e⟩:=Jq hs.2 (fun h=>nomatch h) (by show 17<2^30;decide) (fun h=>nomatch h) (by show 4<2^30;decide) q2 (by(clear go hs q2 w2 v2 q1 w1 v1 hp;lia))
  exact⟨code,z,p',a,q.up (by(clear e q a go hs q2 w2 v2 q1 w1 v1 hb hp;lia)),dH II go hp.is.cZ fun K=>by
   refine(C6 p K).2.trans ?_
   rw[v1,cond_true,v2,cond_true];exact e K⟩
noncomputable def SY(ts:List T)(p:Cell)(t:T)(p' :Cell):Prop:=∃code z,t= .tup [jj code,.int z]/\k0 code z/\jZ p' /\spotOf p' <=spotOf p+4
noncomputable def Hv:List T->Cell->Option (T×Cell):=IL SY 13 1201
theorem Nh(h:13<=n):bG n 1201 (kj Hv):=(qu (by decide+kernel)).up h
theorem TM{G:Prop}(fl:Bool)(hp:aL b p)(hb:b<=600)(k:∀code z p',k0 code z->aL (b+4) p' ->Hv [B fl] p=some (.tup [jj code,.int z],p')->G):G:=by
 obtain⟨code,z,p',hc,hq,s⟩:=uT fl (⟨hp.is,Int.le_refl _⟩:aL (spotOf p) p) (Int.le_trans hp.le hb)
 exact qv (P:=SY) ⟨code,z,rfl,hc,hq.is,hq.le⟩ s fun t p' ⟨code,z,e1,hc,i,l⟩ e=>k code z p' hc ⟨i,Int.le_trans l (Int.add_le_add_right hp.le 4)⟩ (e1▸e)
noncomputable def Hw:Fn:=fnAt (aR pW 128) []
noncomputable def io(i:Nat):Stmt:=fu (fB (aR pW 128)) i
noncomputable abbrev jk:=cx (cU [(1187,dS),(1194,kj lT),(1201,kj Hv)] (TN 8)) Hw
noncomputable abbrev Um(fl:Bool):Loc:=[(st "pen",.loc 0),(st "is_flow",.t (B fl))]
noncomputable abbrev Un(fl:Bool)(j:Nat):Loc:=Um fl++[(st "row",.loc j)]
noncomputable def C7(fl:Bool)(j:Nat):Option T->Loc|none=>Un fl j|some t=>Un fl j++[(st "turn",.t t)]
noncomputable def mC(fl:Bool)(j:Nat)(t:Option T)(code:T)(z:Int):Loc:=C7 fl j t++[(st "code",.t code),(st "digit",.t (.int z))]
noncomputable def zl(zs:List Int):List V:=(zs.map T.int).map .t
noncomputable abbrev Xk(m:DY)(j:Nat)(l:Loc)(k:Ko):Kn:=fun r c=>match r with
 | .exc=>k .exc l c
 | .ok v=>mJ jk m (.loc j) [v] c fun r c=>match r with
  | .exc=>k .exc l c
  | .ok _=>k .next l c
noncomputable abbrev wZ(m d:Int)(zs:List Int)(p:Cell)(R:aa)(j:Nat)(l:Loc)(k:Ko):aq:=ob (gD jk (p::R) (.loc j) (st "append")) fun h=>bif oX m p then kj lT [.loc 0,.loc (R.length+1)] ((br m p).2::(R++[.lst (zl zs)])) (Xk h j l k)else none
section
variable(fl:Bool)(j:Nat)(t:Option T)(u:T)(z:Int)(p:Cell)(R:aa)(k:Ko)
theorem Hx:Hw.body=[io 0,io 1,io 2,io 3,io 4,io 5,io 6]:=by rfl'
theorem Xl:aD jk 39 (io 0) (Um fl) [p] k=k .next (Un fl 1) [p,.lst []]:=by rfl'
theorem Xm:aD jk 38 (io 1) (Un fl j) (p::R) k=bif oX 3 p then bif decide (0<=(br 3 p).1)&&decide ((br 3 p).1<=big)then bM Hw.scope (ah jk 37) (a7 (io 1)) (aV (io 1)) ((List.range (br 3 p).1.toNat).map fun i=> .int (Int.ofNat i)) (C7 fl j none) ((br 3 p).2::R) k else none else none:=by rfl'
theorem SZ:aV (io 1)=[fu (aV (io 1)) 0]/\lO (io 5)=[fu (lO (io 5)) 0]:=⟨by rfl',by rfl'⟩
theorem Xn(v:T):mK Hw.scope (a7 (io 1)) v (C7 fl j t)=some (C7 fl j (some v)):=by induction t<;>rfl'
theorem S0(v:T):aD jk 36 (fu (aV (io 1)) 0) (C7 fl j (some v)) (p::R) k=wZ 16 (br 16 p).1 [72,102,64+(br 16 p).1,100,243,101,242,240] p R j (C7 fl j (some v)) k:=by rfl'
noncomputable def Yy:List Expr:=match io 2 with| .Assign (.Tuple ts _ _::_) _ _=>ts|_=>[]
noncomputable abbrev Yz(l:Loc)(R:aa)(w:T×Cell):SM:=jt (qW (w.2::R) (.t w.1)) fun vs=>gG (Yy.length==vs.length) (mL (fw jk ((D3 36).E jk) Yy vs l (w.2::R)))
theorem Xo:aD jk 37 (io 2) (C7 fl j t) (p::R) k=ob (Hv [B fl] p) fun w=>Yz (C7 fl j t) R w k:=by induction t<;>rfl'
theorem S6:Yz (C7 fl j t) R (.tup [u,.int z],p) k=k .next (mC fl j t u z) (p::R):=by induction t<;>rfl'
noncomputable def Xp:Expr:=Xb (io 3)
theorem Xq(c:aa):aD jk 36 (io 3) (mC fl j t u z) c k=nU .Add (.loc j) (.t u) c fun r c=>match r with
 | .exc=>k .exc (mC fl j t u z) c
 | .ok v=>ai jk 34 (Of Xp) (mC fl j t u z) c fun r c=>match r with
  | .exc=>k .exc (mC fl j t u z) c
  | .ok w=>nU .Add v w c fun r c=>match r with
   | .exc=>k .exc (mC fl j t u z) c
   | .ok v=>ob (fv Hw.scope (mC fl j t u z) (st "row") v) fun l=>k .next l c:=by induction t<;>rfl'
theorem S7(K:Kn):ai jk 34 (Of Xp) (mC fl j t u z) (p::R) K=bif oX 4 p then bif oX 8 (br 4 p).2 then kj lT [.loc 0,.loc (R.length+1)] ((br 8 (br 4 p).2).2::(R++[.lst (zl [5,4,4,(br 8 (br 4 p).2).1])])) (fun r c=>match r with
 | .exc=>K .exc c
 | .ok v=>nU .Add (.t (.int (64*(br 4 p).1+8*z))) v c fun r c=>match r with
  | .exc=>K .exc c
  | .ok v=>K (.ok (.loc c.length)) (c++[.lst [v]]))else none else none:=by induction t<;>rfl'
theorem S8(i:Nat):fv Hw.scope (mC fl j t u z) (st "row") (.loc i)=some (mC fl i t u z):=by induction t<;>rfl'
theorem Xr:aD jk 35 (io 4) (mC fl j t u z) (p::R) k=wZ 256 (br 256 p).1 [37,36,(br 256 p).1] p R j (mC fl j t u z) k:=by induction t<;>rfl'
theorem Xt(c:aa):aD jk 34 (io 5) (mC fl j t u z) c k=dz jk 33 (ah jk 33) (ur (io 5)) (lO (io 5)) turns (mC fl j t u z) c k:=by rfl'
theorem Jr(c:aa)(kk:Bool->aa->aq)(kx:Kx):aB jk 33 (ur (io 5)) (mC fl j t u z) c kk kx=ob (sizeOf? c (.loc j)) fun n=>kk (decide ((n:Int)<16)) c:=by induction t<;>rfl'
theorem S9:aD jk 32 (fu (lO (io 5)) 0) (mC fl j t u z) (p::R) k=wZ 256 (br 256 p).1 [0,1,255,128,127,(br 256 p).1] p R j (mC fl j t u z) k:=by induction t<;>rfl'
theorem Xu(c:aa):aD jk 33 (io 6) (mC fl j t u z) c k=ob (listOf c (.loc j)) fun xs=>q0 xs fun l=>k (.ret (.t (.bytes l))) (mC fl j t u z) c:=by induction t<;>rfl'
end
noncomputable def gv(zs:List Int):Prop:=∀d∈zs,0<=d/\d<256
noncomputable def lB(R:aa)(j:Nat)(row:List Int):Prop:=R[j]? =some (.lst (zl row))
theorem uU(a b:List Int):zl (a++b)=zl a++zl b:=by unfold zl;rw[List.map_append,List.map_append]
theorem la(a:List Int):(zl a).length=a.length:=by unfold zl;rw[List.length_map,List.length_map]
theorem mD(p x:Cell)(R:aa):(p::(R++[x]))[R.length+1]? =some x:=List.getElem?_concat_length
theorem Hy(p:Cell)(R:aa)(zs:List Int):iF (fr aN) (p::(R++[.lst (zl zs)])) [.loc (R.length+1)]=some ([.lst (zs.map .int)],p::(R++[.cg (.lst (zs.map .int))])):=by
 have h:fr aN (p::(R++[.lst (zl zs)])) (.loc (R.length+1))=some (.lst (zs.map .int),p::(R++[.cg (.lst (zs.map .int))])):=by
  show ob (p::(R++[.lst (zl zs)]))[R.length+1]? _=_
  rw[mD]
  show ob (iF (fr 11) _ ((zs.map T.int).map .t)) _=_
  rw[ll]
  show ob (p::(R++[.lst (zl zs)]))[R.length+1]? _=_
  rw[mD]
  refine congrArg (fun c=>some (T.lst (zs.map .int),c)) ?_
  show p::(R++[_]).set R.length _=_
  rw[List.set_append_right _ _ (Nat.le_refl _),Nat.sub_self];rfl
 show ob (fr aN _ (.loc (R.length+1))) _=_
 rw[h];rfl
theorem o9{G:Prop}{zs:List Int}(hp:aL b p)(hb:b<=900)(h0:zs≠[])(h1:zs.length<2^30)(k:∀z p',z∈zs->aL (b+1) p' ->(∀R K,kj lT [.loc 0,.loc (R.length+1)] (p::(R++[.lst (zl zs)])) K=K (.ok (.t (.int z))) (p' ::(R++[.cg (.lst (zs.map .int))])))->G):G:=
 picked (xs:=zs.map .int) hp hb (fun e=>h0 (List.map_eq_nil_iff.mp e)) (by rw[List.length_map];exact h1) fun t p' m q e=>by
  obtain⟨z,hz,rfl⟩:=List.mem_map.mp m
  refine k z p' hz q fun R K=> ?_
  show ob (iF (fr aN) _ _) _=_
  rw[Hy]
  show ob (lT [.lst (zs.map .int)] p) _=_
  rw[e];rfl
theorem Hz{c:aa}{j:Nat}{xs:List V}(h:c[j]? =some (.lst xs)):gD jk c (.loc j) (st "append")=some (.bi .append):=by
 show Id jk (st "append") (Oh c[j]?)=_
 rw[h];rfl'
theorem Ni{c:aa}{j:Nat}{xs:List V}{v:V}{K:Kn}(h:c[j]? =some (.lst xs))(hb:xs.length<big):mJ jk (.bi .append) (.loc j) [v] c K=K (.ok (.t .none)) (c.set j (.lst (xs++[v]))):=by
 show ob c[j]? _=_
 rw[h]
 show(bif decide (xs.length<big)then _ else none)=_
 rw[decide_eq_true hb];rfl
theorem uV{R:aa}{x:Cell}{j:Nat}(h:R[j]? =some x)(more:aa):(R++more)[j]? =some x:=by
 obtain⟨q,e⟩:=List.getElem?_eq_some_iff.mp h
 rw[List.getElem?_append_left q];exact h
theorem Nj{R:aa}{x:Cell}{j:Nat}(h:R[j]? =some x)(y:Cell):(R.set j y)[j]? =some y:=by
 obtain⟨q,e⟩:=List.getElem?_eq_some_iff.mp h
 rw[List.getElem?_set_self q]
theorem site{G:Prop}{R:aa}{m:Int}{zs:Int->List Int}(hp:aL b p)(hb:b<=800)(m0:0<m)(m1:m<2^30)(hz:∀d,0<=d->d<m->gv (zs d))(hl:∀d,zs d≠[]/\(zs d).length<2^30)(hj:lB R j row)(hs:gv row)(hn:row.length<1000)
  (k:∀gc p' R',gc.length=row.length+1->gv gc->aL (b+2) p' ->lB R' j gc->(∀l K,wZ m (br m p).1 (zs (br m p).1) p R (j+1) l K=K .next l (p' ::R'))->G):G:=by
 obtain⟨v1,w1,q1⟩:=cH hp (by(clear k hn hs hj hl hz m1 m0 hp;lia)) m0 m1
 refine o9 (zs:=zs (br m p).1) q1 (by(clear q1 w1 v1 k hn hs hj hl hz m1 m0 hp;lia)) (hl _).1 (hl _).2 fun z p' T7 q e=> ?_
 have Xv:(R++[Cell.cg (.lst ((zs (br m p).1).map .int))])[j]? =some (.lst (zl row)):=uV hj _
 refine k (row++[z]) p' ((R++[Cell.cg (.lst ((zs (br m p).1).map .int))]).set j (.lst (zl (row++[z])))) (by rw[List.length_append];rfl) (fun d hd=>(List.mem_append.mp hd).elim (hs d) fun h=>List.mem_singleton.mp h▸hz _ w1.1 w1.2 z T7) (q.up (by(clear Xv e q T7 q1 w1 v1 k hn hs hj hl hz m1 m0 hb hp;lia))) (Nj Xv _) fun l K=> ?_
 show ob (gD jk (p::R) (.loc (j+1)) (st "append")) _=_
 rw[Hz (c:=p::R) (j:=j+1) hj]
 show(bif oX m p then _ else none)=_
 rw[v1,cond_true,e]
 show mJ jk (.bi .append) (.loc (j+1)) [.t (.int z)] (p' ::(R++[Cell.cg (.lst ((zs (br m p).1).map .int))])) _=_
 rw[Ni (c:=p' ::(R++[Cell.cg (.lst ((zs (br m p).1).map .int))])) (j:=j+1) Xv (by rw[la];unfold big;omega),uU];rfl
theorem pa{x:Cx}{s:Stmt}{b:List Stmt}{l:Loc}{c:aa}{K:Ko}(h:b=[s]):ah x (n+1) b l c K=aD x n s l c (dy x n [] K):=by subst h;rfl
theorem ip{α β:Type}{a:α}{f:α->Option β}:ob (some a) f=f a:=rfl
theorem C8{a b:Int}{c:aa}{K:Kn}:nU .Add (.t (.int a)) (.t (.int b)) c K=K (.ok (.t (.int (a+b)))) c:=rfl
theorem HA(d:Int)(h0:0<=d)(h1:d<16):gv [72,102,64+d,100,243,101,242,240]:=fun x hx=>by
 simp only[List.mem_cons,List.not_mem_nil,or_false]at hx
 lia
theorem HC(d:Int)(h0:0<=d)(h1:d<256):gv [37,36,d]:=fun x hx=>by
 simp only[List.mem_cons,List.not_mem_nil,or_false]at hx
 lia
theorem HD(d:Int)(h0:0<=d)(h1:d<256):gv [0,1,255,128,127,d]:=fun x hx=>by
 simp only[List.mem_cons,List.not_mem_nil,or_false]at hx
 lia
theorem tf(fl:Bool):∀(ts:List T) (t:Option T) {b:Int} {p:Cell} {R:aa} {row:List Int},aL b p->b+2*ts.length<=600->lB R j row->gv row->row.length+ts.length<900->
  ∃gc p' R' t',gc.length=row.length+ts.length/\gv gc/\aL (b+2*ts.length) p' /\lB R' j gc/\∀k:Ko,bM Hw.scope (ah jk 37) (a7 (io 1)) (aV (io 1)) ts (C7 fl (j+1) t) (p::R) k=k .next (C7 fl (j+1) t') (p' ::R')
 |[],t,b,p,R,row,hp,hb,hj,hs,hl=>⟨row,p,R,t,rfl,hs,hp.up (by simp),hj,fun k=>rfl⟩
 |v::ts,t,b,p,R,row,hp,hb,hj,hs,hl=>by
  rw[List.length_cons]at hb hl
  refine site (zs:=fun d=>[72,102,64+d,100,243,101,242,240]) hp (by lia) (by decide) (by decide) HA (fun d=>⟨(fun h=>nomatch h),by show 8<2^30;decide⟩) hj hs (by omega) fun Nk p1 R1 l1 s1 q1 j1 e1=> ?_
  obtain⟨gc,p',R',t',a1,a2,a3,a4,a5⟩:=tf fl ts (some v) q1 (by lia) j1 s1 (by lia)
  refine⟨gc,p',R',t',by rw[a1,l1,List.length_cons];lia,a2,a3.up (by rw[List.length_cons];lia),a4,fun k=> ?_⟩
  rw[Bv,Xn]
  show ah jk 37 (aV (io 1)) _ _ _=_
  rw[pa SZ.1,S0]
  exact(e1 _ _).trans (a5 k)
theorem C9{c:aa}{i:Nat}{v:V}{xs ys:List V}{K:Kn}(h:c[i]? =some (.lst xs))(h2:listOf c v=some ys)(hb:xs.length+ys.length<=big):nU .Add (.loc i) v c K=K (.ok (.loc c.length)) (c++[.lst (xs++ys)]):=by
 show ob (Oh c[i]?).lst? _=_
 rw[h]
 show ob (listOf c v) _=_
 rw[h2]
 show(bif decide (xs.length+ys.length<=big)then _ else none)=_
 rw[decide_eq_true hb];rfl
theorem lb{c:aa}{j:Nat}{xs:List V}(h:c[j]? =some (.lst xs)):listOf c (.loc j)=some xs:=by
 show(Oh c[j]?).lst? =_
 rw[h];rfl
theorem uW(c:aa)(zs:List Int):listOf c (.t (jj zs))=some (zl zs):=rfl
theorem Ta{R:aa}(fl:Bool)(t:Option T){code:List Int}{z:Int}(hc:k0 code z)(hp:aL b p)(hb:b<=600)(hj:lB R j row)(hs:gv row)(hl:row.length<=10):
  ∃gc p' R' j',gc.length=row.length+code.length+1/\gv gc/\aL (b+3) p' /\lB R' j' gc/\∀k:Ko,aD jk 36 (io 3) (mC fl (j+1) t (jj code) z) (p::R) k=k .next (mC fl (j' +1) t (jj code) z) (p' ::R'):=by
 obtain⟨v1,w1,q1⟩:=cH (m:=4) hp (by lia) (by decide) (by decide)
 obtain⟨v2,w2,q2⟩:=cH (m:=8) q1 (by lia) (by decide) (by decide)
 refine o9 (zs:=[5,4,4,(br 8 (br 4 p).2).1]) q2 (by lia) (fun h=>nomatch h) (by show 4<2^30;decide) fun y p' hy q e=> ?_
 have Z6:0<=y/\y<=7:=by
  simp only[List.mem_cons,List.not_mem_nil,or_false]at hy
  lia
 have hz:=hc.z0
 have Z7:=hc.z7
 have zU:=hc.len
 have lr:((zl row++zl code).length:Nat)=row.length+code.length:=by rw[List.length_append,la,la]
 have r1:(R++[Cell.lst (zl row++zl code)])[R.length]? =some (Cell.lst (zl row++zl code)):=List.getElem?_concat_length
 generalize hv:64*(br 4 p).1+8*z+y=v
 have YA:((R++[Cell.lst (zl row++zl code)]++[Cell.cg (.lst ([5,4,4,(br 8 (br 4 p).2).1].map .int))])++[Cell.lst [.t (.int v)]])[R.length]? =some (Cell.lst (zl row++zl code)):=uV (uV r1 _) _
 generalize hR:(R++[Cell.lst (zl row++zl code)]++[Cell.cg (.lst ([5,4,4,(br 8 (br 4 p).2).1].map .int))])=R2 at YA
 refine⟨row++code++[v],p',R2++[Cell.lst [.t (.int v)]]++[.lst (zl row++zl code++[.t (.int v)])],(R2++[Cell.lst [.t (.int v)]]).length,by rw[List.length_append,List.length_append];rfl,fun d hd=> ?_,q.up (by lia),?_,fun k=> ?_⟩
 ·simp only[List.mem_append,List.mem_singleton]at hd
  rcases hd with(hd|hd)|rfl
  ·exact hs d hd
  ·exact hc.H5 d hd
  ·lia
 ·exact(List.getElem?_concat_length ..).trans (by rw[uU,uU];rfl)
 ·rw[Xq,C9 (c:=p::R) (i:=j+1) hj (uW _ code) (by rw[la,la];unfold big;lia)]
  show ai jk 34 (Of Xp) _ (p::(R++[Cell.lst (zl row++zl code)])) _=_
  rw[S7,v1,cond_true,v2,cond_true,e,hR]
  show nU .Add (.t (.int (64*(br 4 p).1+8*z))) (.t (.int y)) (p' ::R2) _=_
  rw[C8]
  show nU .Add (.loc (R.length+1)) (.loc (R2.length+1)) (p' ::(R2++[Cell.lst [.t (.int (64*(br 4 p).1+8*z+y))]])) _=_
  rw[hv,C9 (c:=p' ::(R2++[Cell.lst [.t (.int v)]])) (i:=R.length+1) YA (lb (mD p' _ R2)) (by rw[lr];show row.length+code.length+1<=big;unfold big;lia)]
  show ob (fv Hw.scope (mC fl (j+1) t (jj code) z) (st "row") (.loc ((R2++[Cell.lst [.t (.int v)]]).length+1))) _=_
  rw[S8];rfl
theorem pb(fl:Bool)(t:Option T)(u:T)(z:Int):∀(m:Nat) {b:Int} {p:Cell} {R:aa} {row:List Int},aL b p->b+2*m<=600->lB R j row->gv row->row.length<=16->16-row.length<m->
  ∃gc p' R',gc.length=16/\gv gc/\aL (b+2*m) p' /\lB R' j gc/\∀k:Ko,dz jk 33 (ah jk 33) (ur (io 5)) (lO (io 5)) m (mC fl (j+1) t u z) (p::R) k=k .next (mC fl (j+1) t u z) (p' ::R')
 |0,b,p,R,row,hp,hb,hj,hs,hl,hm=>absurd hm (Nat.not_lt_zero _)
 |m+1,b,p,R,row,hp,hb,hj,hs,hl,hm=>by
  have hsz:sizeOf? (p::R) (.loc (j+1))=some row.length:=by
   refine Eq.trans (b:=some (zl row).length) ?_ (congrArg some (la row))
   show JB (p::R) (.loc (j+1))=_
   unfold JB
   rw[show mE (p::R) (.loc (j+1))=some (zl row) by unfold mE;rw[lb (c:=p::R) (j:=j+1) hj];rfl]
   try rfl
  by_cases q:row.length<16
  ·refine site (zs:=fun d=>[0,1,255,128,127,d]) hp (by lia) (by decide) (by decide) HD (fun d=>⟨(fun h=>nomatch h),by show 6<2^30;decide⟩) hj hs (by lia) fun Nk p1 R1 l1 s1 q1 j1 e1=> ?_
   obtain⟨gc,p',R',a1,a2,a3,a4,a5⟩:=pb fl t u z m q1 (by lia) j1 s1 (by lia) (by omega)
   refine⟨gc,p',R',a1,a2,a3.up (by lia),a4,fun k=> ?_⟩
   rw[eJ,Jr,hsz]
   show(bif decide ((row.length:Int)<16)then _ else _)=_
   rw[decide_eq_true (by lia),cond_true,pa SZ.2,S9]
   exact(e1 _ _).trans (a5 k)
  ·refine⟨row,p,R,by lia,hs,hp.up (by lia),hj,fun k=> ?_⟩
   rw[eJ,Jr,hsz]
   show(bif decide ((row.length:Int)<16)then _ else _)=_
   rw[decide_eq_false (by omega)];rfl
theorem Da(fl:Bool)(hp:aL b p)(hb:b<=300):∃os p',os.length=16/\aL (b+100) p' /\gr 15 1208 [B fl] p (.bytes os) p' :=by
 obtain⟨v1,w1,q1⟩:=cH (m:=3) hp (by lia) (by decide) (by decide)
 have Z8:((List.range (br 3 p).1.toNat).map fun i=>T.int (Int.ofNat i)).length<=2:=by rw[List.length_map,List.length_range];lia
 obtain⟨Nk,p2,R2,t,l2,s2,q2,j2,e2⟩:=tf (j:=0) (R:=[.lst []]) (row:=[]) fl ((List.range (br 3 p).1.toNat).map fun i=>T.int (Int.ofNat i)) none q1 (by lia) rfl (fun d hd=>nomatch hd) (by show 0+_<900;omega)
 have l2:Nk.length<=2:=by rw[l2];show 0+_<=2;lia
 refine TM fl q2 (by lia) fun code z p3 hc q3 e3=> ?_
 obtain⟨ZR,p4,R4,j4,l4,s4,q4,i4,e4⟩:=Ta (R:=R2) fl t hc q3 (by lia) j2 s2 (by omega)
 have zU:=hc.len
 refine site (zs:=fun d=>[37,36,d]) q4 (by lia) (by decide) (by decide) HC (fun d=>⟨(fun h=>nomatch h),by show 3<2^30;decide⟩) i4 s4 (by omega) fun ZS p5 R5 l5 s5 q5 i5 e5=> ?_
 obtain⟨Tb,p6,R6,l6,s6,q6,i6,e6⟩:=pb fl t (jj code) z turns q5 (by show _+2*((24:Nat):Int)<=600;lia) i5 s5 (by lia) (by show _<24;omega)
 refine⟨Tb.map fun d=>UInt8.ofNat d.toNat,p6,by rw[List.length_map,l6],q6.up (by show _+2*((24:Nat):Int)<=_;lia),dH PH (aP (by decide) _ ((oY (n:=14) (by decide)).all ((Jp (by decide)).all ((Nh (by decide)).all .aW)))) hp.is.cZ fun K=> ?_⟩
 rw[g9 (l:=Um fl) (by rfl')]
 refine Eq.trans (b:=ah jk 40 Hw.body (Um fl) [p] (KG (lm K))) rfl ?_
 rw[Hx,af,Xl,aj,af,Xm,v1,cond_true,decide_eq_true w1.1,decide_eq_true (show(br 3 p).1<=(big:Nat) by unfold big;lia)]
 refine(e2 _).trans ?_
 rw[aj,af,Xo,e3,ip]
 refine(S6 fl 1 t (jj code) z p3 R2 _).trans ?_
 rw[aj,af,e4,aj,af,Xr,e5,aj,af,Xt,e6,aj,af,Xu,lb (c:=p6::R6) (j:=j4+1) i6]
 refine(j0 _ Tb s6).trans ?_
 exact qN q6.is _ K _
end
section
open PySem
noncomputable def qT:Fn:=fnAt (aR pW 136) []
noncomputable def bH(i:Nat):Stmt:=fu (fB (aR pW 136)) i
noncomputable abbrev dh(P D W H R A E G:Spec):=cx (cU [(1180,P),(1187,D),(1208,W),(1227,H),(1249,R),(976,A),(981,E),(784,G)] (TN 8)) qT
noncomputable abbrev HE(sc:T)(fl:Bool):Loc:=[(st "script",.t sc),(st "pen",.loc 0),(st "is_flow",.t (B fl))]
noncomputable def j7(fl:Bool):aa:=
 let q:=fun i=>match(ab fl)[i]? with|some f=>Cell.cg f.t|none=> .lst []
 let L:=fun l:List Nat=>Cell.lst (l.map .loc)
 match fl with
 |true=>[q 0,q 1,q 2,L [1,2,3,5,6,7,8,9,10,11,12,13,14,15,16,17,18,19,20,21,22,23,24,25,26,27,28,29,30,31,32,33,34,35,36,37,38,39,40,41,43,44,45,46,48,49,50,51,52,53,55,56,57,58,59,62,63,64,65,66,67,68,69,70,71,72,73,74,75,76,77,78,79,80,81,82,83,84],q 3,q 4,q 5,q 6,q 7,q 8,q 9,q 10,q 11,q 12,q 13,q 14,q 15,q 16,q 17,q 18,q 19,q 20,q 21,q 22,q 23,q 24,q 25,q 26,q 27,q 28,q 29,q 30,q 31,q 32,q 33,q 34,q 35,q 36,q 37,q 38,q 39,L [37,38,39,40,41],q 40,q 41,q 42,q 43,L [43,44,45,46],q 44,q 45,q 46,q 47,q 48,q 49,L [48,49,50,51,52,53],q 50,q 51,q 52,q 53,q 54,L [55,56,57,58,59],L [62,63,64,65,66,67,68,69,70,71,72,73,74,75,76,77,78,79,80,81],q 55,q 56,q 57,q 58,q 59,q 60,q 61,q 62,q 63,q 64,q 65,q 66,q 67,q 68,q 69,q 70,q 71,q 72,q 73,q 74,q 75,q 76,q 77,L [82,83,84]]
 |false=>[q 0,L [1,5,7,9,10,13,15,17,18,19,20,21,22,23,24,25],L [5,7,9],.lst [.t (Z "rm16"),.t (Z "r16")],q 1,.lst [.t (Z "rm32"),.t (Z "r32")],q 2,.lst [.t (Z "rm64"),.t (Z "r64")],q 3,q 4,L [13,15,17],.lst [.t (Z "r16"),.t (Z "rm16")],q 5,.lst [.t (Z "r32"),.t (Z "rm32")],q 6,.lst [.t (Z "r64"),.t (Z "rm64")],q 7,q 8,q 9,q 10,q 11,q 12,q 13,q 14,q 15,L [27,28,29],q 16,q 17,q 18,L [1,5,7,9,10,13,15,17,18,19,20,21,22,23,24,25,27,28,29],L [32,33,34,35,38,40,42],q 19,q 20,q 21,q 22,L [38,40,42],.lst [.t (Z "rm16"),.t (Z "r16")],q 23,.lst [.t (Z "rm32"),.t (Z "r32")],q 24,.lst [.t (Z "rm64"),.t (Z "r64")],q 25,L [1,5,7,9,10,13,15,17,18,19,20,21,22,23,24,25,27,28,29,32,33,34,35,38,40,42],L [45,46,47,48,49,50,51,52,53,54,55,56],q 26,q 27,q 28,q 29,q 30,q 31,q 32,q 33,q 34,q 35,q 36,q 37,L [1,5,7,9,10,13,15,17,18,19,20,21,22,23,24,25,27,28,29,32,33,34,35,38,40,42,45,46,47,48,49,50,51,52,53,54,55,56],q 38,q 39,q 40,L [58,59,60],L [1,5,7,9,10,13,15,17,18,19,20,21,22,23,24,25,27,28,29,32,33,34,35,38,40,42,45,46,47,48,49,50,51,52,53,54,55,56,58,59,60]]
theorem Tc(P D W H R A E G:Spec)(sc:T)(zs:List T)(s g:Int)(k:Ko):aD (dh P D W H R A E G) 37 (bH 2) (HE sc true) [aY zs s g] k=k .next (HE sc true++[(st "iset",.t (ag (ab true)))]) (aY zs s g::j7 true):=by rfl'
theorem Td(P D W H R A E G:Spec)(sc:T)(zs:List T)(s g:Int)(k:Ko):aD (dh P D W H R A E G) 37 (bH 2) (HE sc false) [aY zs s g] k=k .next (HE sc false++[(st "iset",.t (ag (ab false)))]) (aY zs s g::j7 false):=by rfl'
theorem Xw(P D W H R A E G:Spec)(sc:T)(fl:Bool)(zs:List T)(s g:Int)(k:Ko):aD (dh P D W H R A E G) 37 (bH 2) (HE sc fl) [aY zs s g] k=k .next (HE sc fl++[(st "iset",.t (ag (ab fl)))]) (aY zs s g::j7 fl):=match fl with
 |true=>Tc P D W H R A E G sc zs s g k
 |false=>Td P D W H R A E G sc zs s g k
theorem Tf(ev:Ev)(e:Expr)(es:List Expr)(l:Loc)(c:aa)(k:List V->aa->aq)(kx:Kx):po ev (e::es) l c k kx=ev e l c (fun r c=>match r with| .exc=>kx c| .ok v=>po ev es l c (fun vs c=>k (v::vs) c) kx):=by rfl'
theorem Db(x:Cx)(n:Nat)(es:List Expr)(p:Pos)(l:Loc)(c:aa)(k:Kn)(h:kg es=true):ai x (n+1) (.List es p) l c k=po (ai x n) es l c (fun vs c=>k (.ok (.loc c.length)) (c++[.lst vs])) (fun c=>k .exc c):=by
 show(bif kg es then _ else none)=_
 rw[h];rfl
noncomputable def Uo:Fn:=fnAt (aR pW 124) []
noncomputable def th:Stmt:=fu (fB (aR pW 124)) 0
noncomputable def Nl:Expr->List Expr×Pos| .List es p=>(es,p)|_=>([],⟨0,0,0,0⟩)
noncomputable def jn:Expr:=match(Nl (sS th)).1 with|e::_=>e|[]=>dk
noncomputable def Xx:List Expr:=(Nl (sS th)).1.drop 1
noncomputable abbrev HF:=cx (TN 8) Uo
noncomputable abbrev Up(xs:List Int):Loc:=[(st "script",.t (.lst (cf xs)))]
noncomputable def Uq:Option Int->Loc|none=>[]|some v=>[(st "cell",.t (.int v))]
theorem Tg:Uo.body=[th]/\th= .Return (some (sS th)) (match th with| .Return _ p=>p|_=>⟨0,0,0,0⟩)/\sS th= .List (jn::Xx) (Nl (sS th)).2/\kg (jn::Xx)=true/\jn= .ListComp (fO jn) [⟨(be jn).1,(be jn).2.1,(be jn).2.2,0⟩] (bA jn) (DP jn)/\bL Uo.scope (bA jn)=true:=⟨by rfl',by rfl',by rfl',by rfl',by rfl',by rfl'⟩
noncomputable abbrev Xy(K:Bool->List T->aa->aq)(kx:Kx):Kn:=fun r c=>match r with| .ok v=>pq v c K| .exc=>kx c
theorem Xz(zs:List T)(c:aa)(K:Bool->List T->aa->aq)(kx:Kx):dQ HF 36 (be jn).2.1 [(st "script",.t (.lst zs))] c K kx=JE (.t (.lst zs)) (.t .none) (.t (I 40)) c (Xy K kx):=by rfl'
theorem HG(zs:List T)(n:Nat)(c:aa)(k:Kn):JE (.t (.lst zs)) (.t .none) (.t (N n)) c k=k (.ok (.t (.lst (zs.take n)))) c:=by
 show bn (iw (a8 (zs.map V.t) none (some (n:Int)))) _ _=_
 rw[g8,<-List.map_take,mx]
 rfl
theorem XA(xs:List Int):bK (bA jn) (Up xs)=Uq none:=by rfl'
theorem XB(v:Int)(more:List T)(acc:List V)(t:Option Int)(c:aa)(k:List Mine.V->aa->aq):aS (bA jn) (ai {HF with scope:=bA jn} 36) (aB {HF with scope:=bA jn} 36) (fO jn) (be jn).2.2 (be jn).1 (.int v::more) acc (Uq t) c k=
  aS (bA jn) (ai {HF with scope:=bA jn} 36) (aB {HF with scope:=bA jn} 36) (fO jn) (be jn).2.2 (be jn).1 more (acc++[.t (.int v)]) (Uq (some v)) c k:=by induction t<;>rfl'
theorem Th(c:aa)(k:List V->aa->aq):∀(xs:List Int) (acc:List T) (t:Option Int),aS (bA jn) (ai {HF with scope:=bA jn} 36) (aB {HF with scope:=bA jn} 36) (fO jn) (be jn).2.2 (be jn).1 (cf xs) (acc.map .t) (Uq t) c k=k ((acc++cf xs).map .t) c
 |[],acc,t=>by show k (acc.map .t) c=k ((acc++[]).map .t) c;rw[List.append_nil]
 |x::xs,acc,t=>by
  show aS _ _ _ _ _ _ (.int x::cf xs) _ _ _ _=_
  rw[XB]
  have:=Th c k xs (acc++[.int x]) (some x)
  rw[List.map_append]at this
  refine Eq.trans this ?_
  rw[List.append_assoc];rfl
theorem XC(xs:List Int)(c:aa)(k:List V->aa->aq)(kx:Kx):po (ai HF 37) Xx (Up xs) c k kx=k [.t (I 0),.t (I 0)] c:=by rfl'
theorem uX(xs:List Int):dx 9 1180 [.t (.lst (cf xs))] [] (.ok (.loc 0)) [aY (cf (xs.take 40)) 0 0]:=Bt PF (bI 8) fun k=>by
 obtain⟨h1,h2,h3,h4,h5,h6⟩:=Tg
 rw[g9 (l:=Up xs) (by rfl')]
 refine Eq.trans (b:=ah HF 40 Uo.body (Up xs) [] (KG k)) rfl ?_
 rw[h1,af,h2,nJ,h3,Db _ 37 _ _ _ _ _ h4,Tf,h5,cr _ 36 _ _ _ _ _ _ _ _ _ _ _ h6 (fun K kx=>(Xz (cf xs) [] K kx).trans (HG (cf xs) 40 [] _)),XA]
 rw[show(cf xs).take 40=cf (xs.take 40)from List.map_take.symm]
 refine Eq.trans (Th _ _ _ [] none) ?_
 rw[List.nil_append,bY]
 exact XC xs [] _ _
noncomputable abbrev Js(sc:T)(fl:Bool)(l:T)(sw:List UInt8)(j:Nat):Loc:=HE sc fl++[(st "iset",.t l),(st "sewn",.t (.bytes sw)),(st "dues",.loc j)]
noncomputable abbrev el(sc:T)(fl:Bool)(l:T)(sw:List UInt8)(j:Nat):Option (T×List UInt8×T)->Loc
 |none=>Js sc fl l sw j
 |some (v,o,d)=>Js sc fl l sw j++[(st "turn",.t v),(st "octets",.t (.bytes o)),(st "due",.t d)]
noncomputable abbrev Og(sc:T)(fl:Bool)(l:T)(sw:List UInt8)(j:Nat)(v:T):Option (T×List UInt8×T)->Loc
 |none=>Js sc fl l sw j++[(st "turn",.t v)]
 |some (_,o,d)=>Js sc fl l sw j++[(st "turn",.t v),(st "octets",.t (.bytes o)),(st "due",.t d)]
noncomputable abbrev Ur(sc:T)(fl:Bool)(l:T)(sw:List UInt8)(j:Nat)(v:T)(o:List UInt8):Option (T×List UInt8×T)->Loc
 |none=>Js sc fl l sw j++[(st "turn",.t v),(st "octets",.t (.bytes o))]
 |some (_,_,d)=>Js sc fl l sw j++[(st "turn",.t v),(st "octets",.t (.bytes o)),(st "due",.t d)]
noncomputable abbrev eV(fl:Bool):Nat:=(j7 fl).length+1
noncomputable abbrev nP(fl:Bool)(p:Cell)(ds:List V):aa:=p::(j7 fl++[.lst ds])
noncomputable abbrev yD(i:Nat):Stmt:=fu (aV (bH 4)) i
section
variable(P D W H R A E G:Spec)(sc:T)(fl:Bool)(l:T)(sw:List UInt8)(j:Nat)(c:aa)(t:Option (T×List UInt8×T))(v:T)(o:List UInt8)(d:T)(k:Ko)
theorem HH:qT.body=[bH 0,bH 1,bH 2,bH 3,bH 4,bH 5,bH 6,bH 7,bH 8,bH 9]:=by rfl'
theorem Ti(Q:Qs)(p:Cell):aD (dh (ck Q (.ok (.loc 0)) [p]) D W H R A E G) 39 (bH 0) [(st "script",.t sc)] [] k=bif Q [.t sc] []then k .next [(st "script",.t sc),(st "pen",.loc 0)] [p]else none:=by rfl'
theorem Tj(p:Cell):aD (dh P dS W H R A E G) 38 (bH 1) [(st "script",.t sc),(st "pen",.loc 0)] [p] k=bif oX 2 p then k .next (HE sc (decide ((br 2 p).1=1))) [(br 2 p).2]else none:=by rfl'
theorem Tk:aD (dh P D W H R A E G) 36 (bH 3) (HE sc fl++[(st "iset",.t l)]) c k=k .next (Js sc fl l [] c.length) (c++[.lst []]):=by rfl'
theorem Dc:bH 4= .For (a7 (bH 4)) (match bH 4 with| .For _ i _ _ _=>i|_=>dk) (aV (bH 4)) [] (match bH 4 with| .For _ _ _ _ p=>p|_=>⟨0,0,0,0⟩)/\aV (bH 4)=[yD 0,yD 1,yD 2,yD 3]:=⟨by rfl',by rfl'⟩
theorem Tl(K:Bool->List T->aa->aq)(kx:Kx):dQ (dh P D W H R A E G) 34 (match bH 4 with| .For _ i _ _ _=>i|_=>dk) (Js sc fl l sw j) c K kx=K false [I 0,I 1] c:=by rfl'
theorem XD:mK qT.scope (a7 (bH 4)) v (el sc fl l sw j t)=some (Og sc fl l sw j v t):=by induction t<;>rfl'
theorem Tm(w:List T->Cell->Option (T×Cell))(p:Cell):aD (dh P D (kj w) H R A E G) 33 (yD 0) (Og sc fl l sw j v t) (p::c) k=ob (w [B fl] p) fun u=>ob (fv qT.scope (Og sc fl l sw j v t) (st "octets") (.t u.1)) fun l=>k .next l (u.2::c):=by induction t<;>rfl'
theorem XE:fv qT.scope (Og sc fl l sw j v t) (st "octets") (.t (.bytes o))=some (Ur sc fl l sw j v o t):=by induction t<;>rfl'
theorem Tn(U:T->Bool)(g:List UInt8->Nat->T):aD (dh P D W (hS U g) R A E G) 32 (yD 1) (Ur sc fl l sw j v o t) c k=bif U l&&decide ((0:Int)<=0)&&decide ((0:Int)<=(o.length:Nat))then k .next (el sc fl l sw j (some (v,o,g o (0:Int).toNat))) c else none:=by induction t<;>rfl'
theorem To(w:List T->Cell->Option (T×Cell))(p:Cell):aD (dh P D W H (kj w) A E G) 31 (yD 2) (el sc fl l sw j (some (v,o,d))) (p::c) k=ob (w [l,.bytes o,d] p) fun u=>ob (pg u.1) fun b=>bif !b then k (.ret (.t (B false))) (el sc fl l sw j (some (v,o,d))) (u.2::c)else k .next (el sc fl l sw j (some (v,o,d))) (u.2::c):=by rfl'
theorem Nm:aD (dh P D W H R A E G) 30 (yD 3) (el sc fl l sw j (some (v,o,.none))) c k=k .next (el sc fl l sw j (some (v,o,.none))) c:=by rfl'
theorem Nn(p:Cell)(ds:List V)(t1:T)(n:Int):aD (dh P D W H R A E G) 30 (yD 3) (el sc fl l sw (eV fl) (some (v,o,.tup [t1,.int n]))) (nP fl p ds) k=
  bif decide (sw.length+(a8 o none (some n)).length<=big)then bif decide (ds.length<big)then k .next (el sc fl l (sw++a8 o none (some n)) (eV fl) (some (v,o,.tup [t1,.int n]))) (nP fl p (ds++[.t (.tup [t1,.int n])]))else none else none:=by induction fl<;>rfl'
end
noncomputable def Tp(t:T):T:= .tup [iC t 0,iC t 2,match iC t 1 with| .tup xs=> .tup (xs.map fa)|_=> .none]
noncomputable def j8(t:T):T:= .tup [Tp (iC t 0),iC t 1]
theorem ti(x:Dec)(n:Nat):j8 (x.t n)=x.told n:=by
 show T.tup [T.tup [Z x.d.f.name,Z x.w,.tup ((x.ops.map Op.t).map fa)],N n]=T.tup [T.tup [Z x.d.f.name,Z x.w,.tup (x.ops.map Op.told)],N n]
 rw[List.map_map,show fa∘Op.t=Op.told from funext ms]
noncomputable def lD(t:T):Prop:=∃(x:Dec) (n:Nat),x.ops.length<=2/\t=x.t n
theorem yE:bG 11 784 (gS (yl lD) j8):=I1 (by decide+kernel) fun t h=>by
 obtain⟨x,n,h1,rfl⟩:=Cm h
 rw[ti]
 exact wu x n h1
theorem Dd(n:Nat)(x:Dec)(m:Nat):Good2 (n+4) (x.told m):=by
 refine cI fun t ht=> ?_
 rcases List.mem_cons.mp ht with rfl|ht
 ·refine cI fun t ht=> ?_
  simp only[List.mem_cons,List.not_mem_nil,or_false]at ht
  rcases ht with rfl|rfl|rfl
  ·exact(bF _).g _
  ·exact(bF _).g _
  ·refine cI fun t ht=> ?_
   obtain⟨o,_,rfl⟩:=List.mem_map.mp ht
   exact wV o n
 ·rw[List.mem_singleton.mp ht];exact(eT _).g _
theorem w5(f:V->Option T)(hf:∀t,f (.t t)=some t):∀ts:List T,nT f (ts.map .t)=some ts
 |[]=>rfl
 |t::ts=>by
  show ob (f (.t t)) _=_
  rw[hf]
  show ob (nT f (ts.map .t)) _=_
  rw[w5 f hf ts];rfl
theorem qO{c:aa}{j:Nat}{ts:List T}(h:c[j]? =some (.lst (ts.map .t))\/c[j]? =some (.cg (.lst ts))):res aN c (.loc j)=some (.lst ts):=by
 show ob c[j]? (Oi (res 11 c))=_
 rcases h with h|h<;>rw[h]
 ·show ob (nT (res 11 c) (ts.map .t)) _=_
  rw[w5 (res 11 c) (fun t=>rfl) ts];rfl
 ·rfl
theorem De{c:aa}{u v:V}{xs ys:List T}{r:Bool}(hu:res aN c u=some (.lst xs))(hv:res aN c v=some (.lst ys))(h1:∀t∈xs,jr 29 t=true)(h2:∀t∈ys,jr 29 t=true)(h:eqT (.lst xs) (.lst ys)=some r):u9 c u v=some r:=by
 unfold u9
 rw[hu,hv]
 show(bif xs.all (jr 29)&&ys.all (jr 29)then eqT (.lst xs) (.lst ys)else none)=some r
 rw[List.all_eq_true.mpr h1,List.all_eq_true.mpr h2,h];rfl
noncomputable def Tq:Expr:=qQ (bH 5)
noncomputable def uY:Expr:=(Jc Tq).1
noncomputable def uZ:Expr:=(Jc Tq).2
noncomputable def cS:Expr:=(ey uY).1
noncomputable def cM:Expr:=(ey uZ).2
theorem No:bH 5= .If Tq (jf (bH 5)) (qR (bH 5)) (match bH 5 with| .If _ _ _ p=>p|_=>⟨0,0,0,0⟩)/\Tq= .BoolOp .Or [uY,uZ] (pE Tq)/\uY= .Compare cS [.NotEq] [(ey uY).2] (pE uY)/\uZ= .Compare (ey uZ).1 [.NotEq] [cM] (pE uZ)/\
  cS= .ListComp (fO cS) [⟨(be cS).1,(be cS).2.1,(be cS).2.2,0⟩] (bA cS) (DP cS)/\cM= .ListComp (fO cM) [⟨(be cM).1,(be cM).2.1,(be cM).2.2,0⟩] (bA cM) (DP cM)/\qR (bH 5)=[]/\lastMarks [.NotEq] [(ey uY).2]=false/\lastMarks [.NotEq] [cM]=false/\
  bL qT.scope (bA cS)=true/\bL qT.scope (bA cM)=true:=⟨by rfl',by rfl',by rfl',by rfl',by rfl',by rfl',by rfl',by rfl',by rfl',by rfl',by rfl'⟩
noncomputable def lE(n:Str):Option T->Loc|none=>[]|some v=>[(n,.t v)]
section
variable(P D W H R A E G:Spec)(sc:T)(fl:Bool)(l:T)(sw:List UInt8)(j:Nat)(c:aa)(v:T)(o:List UInt8)(d:T)(k:Ko)
theorem Jt:bK (bA cS) (el sc fl l sw j (some (v,o,d)))=lE (st "one") none/\bK (bA cM) (el sc fl l sw j (some (v,o,d)))=lE (st "due") none:=⟨by rfl',by rfl'⟩
theorem Np(F:Spec)(Q:List V->Bool)(B:List V->Bool)(ds:List T)(K:Bool->List T->aa->aq)(kx:Kx):dQ (dh P D W H R (DF B (cp Q (.ok (.t (.lst ds)))) F) E G) 30 (be cS).2.1 (el sc fl l sw j (some (v,o,d))) c K kx=
  bif B [.t l,.t (.bytes sw)]then bif Q [.t l,.t (.bytes sw)]then K false ds c else none else F [.t l,.t (.bytes sw)] c (fun r c=>match r with| .exc=>kx c| .ok v=>pq v c K):=by rfl'
theorem Nq(U:T->Bool)(g:T->T)(x:Dec)(n:Nat)(more:List T)(acc:List V)(t:Option T)(k:List Mine.V->aa->aq):aS (bA cS) (ai {dh P D W H R A E (gS U g)with scope:=bA cS} 30) (aB {dh P D W H R A E (gS U g)with scope:=bA cS} 30) (fO cS) (be cS).2.2 (be cS).1 (x.t n::more) acc (lE (st "one") t) c k=
  bif U (x.t n)then aS (bA cS) (ai {dh P D W H R A E (gS U g)with scope:=bA cS} 30) (aB {dh P D W H R A E (gS U g)with scope:=bA cS} 30) (fO cS) (be cS).2.2 (be cS).1 more (acc++[.t (g (x.t n))]) (lE (st "one") (some (x.t n))) c k else none:=by induction t<;>rfl'
theorem Tr:(∀K:Kn,ai (dh P D W H R A E G) 31 (ey uY).2 (el sc fl l sw j (some (v,o,d))) c K=K (.ok (.loc j)) c):=fun K=>by rfl'
theorem Ts(Q:List V->Bool)(ns:List T)(K:Kn):ai (dh P D W H R A (cp Q (.ok (.t (.lst ns)))) G) 31 (ey uZ).1 (el sc fl l sw j (some (v,o,d))) c K=bif Q [.t l,.t (.bytes sw)]then K (.ok (.t (.lst ns))) c else none:=by rfl'
theorem Nr(K:Bool->List T->aa->aq)(kx:Kx):dQ (dh P D W H R A E G) 30 (be cM).2.1 (el sc fl l sw j (some (v,o,d))) c K kx=pq (.loc j) c K:=by rfl'
theorem Nt(t1:T)(n:Int)(more:List T)(acc:List V)(t:Option T)(k:List Mine.V->aa->aq):aS (bA cM) (ai {dh P D W H R A E G with scope:=bA cM} 30) (aB {dh P D W H R A E G with scope:=bA cM} 30) (fO cM) (be cM).2.2 (be cM).1 (.tup [t1,.int n]::more) acc (lE (st "due") t) c k=
  aS (bA cM) (ai {dh P D W H R A E G with scope:=bA cM} 30) (aB {dh P D W H R A E G with scope:=bA cM} 30) (fO cM) (be cM).2.2 (be cM).1 more (acc++[.t (.int n)]) (lE (st "due") (some (.tup [t1,.int n]))) c k:=by induction t<;>rfl'
end
section
variable(P D W H R A E:Spec)(c:aa)
theorem Df(k:List V->aa->aq):∀(xs:List (Dec×Nat)) (acc:List T) (t:Option T),(∀x∈xs,x.1.ops.length<=2)->aS (bA cS) (ai {dh P D W H R A E (gS (yl lD) j8)with scope:=bA cS} 30) (aB {dh P D W H R A E (gS (yl lD) j8)with scope:=bA cS} 30) (fO cS) (be cS).2.2 (be cS).1 (xs.map fun x=>x.1.t x.2) (acc.map .t) (lE (st "one") t) c k=k ((acc++xs.map fun x=>x.1.told x.2).map .t) c
 |[],acc,t,_=>by show k (acc.map .t) c=k ((acc++[]).map .t) c;rw[List.append_nil]
 |x::xs,acc,t,h=>by
  rw[List.map_cons,Nq,Cl ⟨x.1,x.2,h x List.mem_cons_self,rfl⟩,cond_true,ti]
  have:=Df k xs (acc++[x.1.told x.2]) (some (x.1.t x.2)) fun y hy=>h y (List.mem_cons_of_mem _ hy)
  rw[List.map_append]at this
  refine Eq.trans this ?_
  rw[List.append_assoc];rfl
theorem Dg(G:Spec)(k:List V->aa->aq):∀(xs:List (Dec×Nat)) (acc:List T) (t:Option T),aS (bA cM) (ai {dh P D W H R A E G with scope:=bA cM} 30) (aB {dh P D W H R A E G with scope:=bA cM} 30) (fO cM) (be cM).2.2 (be cM).1 (xs.map fun x=>x.1.told x.2) (acc.map .t) (lE (st "due") t) c k=k ((acc++xs.map fun x=>N x.2).map .t) c
 |[],acc,t=>by show k (acc.map .t) c=k ((acc++[]).map .t) c;rw[List.append_nil]
 |x::xs,acc,t=>by
  rw[List.map_cons]
  refine Eq.trans (Nt P D W H R A E G c _ _ _ _ _ _) ?_
  have:=Dg G k xs (acc++[N x.2]) (some (x.1.told x.2))
  rw[List.map_append]at this
  refine Eq.trans this ?_
  rw[List.append_assoc];rfl
end
noncomputable def Tt(ts:List T)(p:Cell)(t:T)(p' :Cell):Prop:=∃os,t= .bytes os/\os.length=16/\jZ p' /\spotOf p' <=spotOf p+100
noncomputable def u0:List T->Cell->Option (T×Cell):=IL Tt 15 1208
theorem Nu{n:Nat}(h:15<=n):bG n 1208 (kj u0):=(qu (by decide+kernel)).up h
theorem Tu{G:Prop}{b:Int}{p:Cell}(fl:Bool)(hp:aL b p)(hb:b<=300)(k:∀os p',os.length=16->aL (b+100) p' ->u0 [B fl] p=some (.bytes os,p')->G):G:=by
 obtain⟨os,p',h,hq,s⟩:=Da fl (⟨hp.is,Int.le_refl _⟩:aL (spotOf p) p) (Int.le_trans hp.le hb)
 exact qv (P:=Tt) ⟨os,rfl,h,hq.is,hq.le⟩ s fun t p' ⟨os,e1,h,i,l⟩ e=>k os p' h ⟨i,Int.le_trans l (Int.add_le_add_right hp.le 100)⟩ (e1▸e)
noncomputable def YB(ts:List T)(p:Cell)(t:T)(p' :Cell):Prop:=t=B true/\jZ p' /\spotOf p' <=spotOf p+6
noncomputable def Nv:List T->Cell->Option (T×Cell):=IL YB 26 1249
theorem Tv{n:Nat}(h:26<=n):bG n 1249 (kj Nv):=(qu (by decide+kernel)).up h
theorem HI{G:Prop}{b:Int}{p:Cell}(fl:Bool)(os:List UInt8)(uR:os.length=16)(hp:aL b p)(hb:b<=700)(k:∀p',aL (b+6) p' ->Nv [ag (ab fl),.bytes os,lu (aO (ab fl) os) Dec.told] p=some (B true,p')->G):G:=by
 obtain⟨p',hq,s⟩:=uS fl os uR (⟨hp.is,Int.le_refl _⟩:aL (spotOf p) p) (Int.le_trans hp.le hb)
 exact qv (P:=YB) ⟨rfl,hq.is,hq.le⟩ s fun t p' ⟨e1,i,l⟩ e=>k p' ⟨i,Int.le_trans l (Int.add_le_add_right hp.le 6)⟩ (e1▸e)
structure Hd where
 os:List UInt8
 x:Dec
 n:Nat
noncomputable def gy(fl:Bool)(h:Hd):Prop:=h.os.length=16/\aO (ab fl) h.os= .done h.x h.n
noncomputable def Hd.told(h:Hd):T:=h.x.told h.n
noncomputable def cO(hs:List Hd):List UInt8:=hs.flatMap fun h=>h.os.take h.n
noncomputable def j9(hs:List Hd):List V:=hs.map fun h=> .t h.told
theorem gy.b{fl:Bool}{h:Hd}(q:gy fl h):1<=h.n/\h.n<=15/\(h.os.take h.n).length=h.n:=by
 obtain⟨h1,h2,h3⟩:=kU q.2
 have:=q.1
 exact⟨h1,h3,by rw[List.length_take];(clear this h3 h1 q;lia)⟩
theorem tj{fl:Bool}:∀{hs:List Hd},(∀h∈hs,gy fl h)->(cO hs).length<=15*hs.length
 |[],_=>Nat.le_refl _
 |h::hs,q=>by
  have h1:=(q h List.mem_cons_self).b
  have h2:=tj (hs:=hs) fun x hx=>q x (List.mem_cons_of_mem _ hx)
  unfold cO at*
  rw[List.flatMap_cons,List.length_append,List.length_cons]
  (clear q;lia)
theorem Dh(hs:List Hd)(h:Hd):cO (hs++[h])=cO hs++h.os.take h.n:=by unfold cO;rw[List.flatMap_append];simp
section
variable(P D W H R A E G:Spec)(sc:T)(fl:Bool)(l:T)(sw:List UInt8)(j:Nat)(t:Option (T×List UInt8×T))(v:T)(o:List UInt8)(d:T)(bs:List Stmt)(K:Ko)(c:aa)(w:List T->Cell->Option (T×Cell))(p p1:Cell)
theorem Tw(h:w [B fl] p=some (.bytes o,p1)):ah (dh P D (kj w) H R A E G) 34 (yD 0::bs) (Og sc fl l sw j v t) (p::c) K=ah (dh P D (kj w) H R A E G) 33 bs (Ur sc fl l sw j v o t) (p1::c) K:=by
 rw[af]
 refine(Tm P D H R A E G sc fl l sw j c t v _ w p).trans ?_
 rw[h,ip]
 show ob (fv qT.scope (Og sc fl l sw j v t) (st "octets") (.t (.bytes o))) _=_
 rw[XE,ip,aj]
theorem Tx(U:T->Bool)(g:List UInt8->Nat->T)(hU:U l=true)(hd:g o 0=d):ah (dh P D W (hS U g) R A E G) 33 (yD 1::bs) (Ur sc fl l sw j v o t) c K=ah (dh P D W (hS U g) R A E G) 32 bs (el sc fl l sw j (some (v,o,d))) c K:=by
 rw[af]
 refine(Tn P D W R A E G sc fl l sw j c t v o _ U g).trans ?_
 rw[hU,decide_eq_true (show(0:Int)<=(o.length:Nat) by(clear hd hU;lia)),<-hd]
 rw[show(true&&decide ((0:Int)<=0)&&true)=true from rfl,cond_true,aj];rfl
theorem Ty(h:w [l,.bytes o,d] p=some (B true,p1)):ah (dh P D W H (kj w) A E G) 32 (yD 2::bs) (el sc fl l sw j (some (v,o,d))) (p::c) K=ah (dh P D W H (kj w) A E G) 31 bs (el sc fl l sw j (some (v,o,d))) (p1::c) K:=by
 rw[af]
 refine(To P D W H A E G sc fl l sw j c v o d _ w p).trans ?_
 rw[h,ip,show pg (B true,p1).1=some true from rfl,ip,show(!true)=false from rfl,cond_false,aj]
end
noncomputable abbrev Ju(P A E G:Spec)(fl:Bool):Cx:=dh P dS (kj u0) (hS (oZ (ag (ab fl))) (gF fl)) (kj Nv) A E G
theorem w6(sc:T)(fl:Bool)(hs:List Hd)(hq:∀h∈hs,gy fl h)(hl:hs.length<=1){b:Int}{p:Cell}(hp:aL b p)(hb:b<=250)(v:T)(more:List T)(t:Option (T×List UInt8×T)):
  ∃(ki:List Hd) (p' :Cell) (t' :T×List UInt8×T),(ki=hs\/∃h,gy fl h/\ki=hs++[h])/\aL (b+106) p' /\∀(P A E G:Spec) (k:Ko),bM qT.scope (ah (Ju P A E G fl) 34) (a7 (bH 4)) (aV (bH 4)) (v::more) (el sc fl (ag (ab fl)) (cO hs) (eV fl) t) (nP fl p (j9 hs)) k=bM qT.scope (ah (Ju P A E G fl) 34) (a7 (bH 4)) (aV (bH 4)) more (el sc fl (ag (ab fl)) (cO ki) (eV fl) (some t')) (nP fl p' (j9 ki)) k:=by
 have sl:=tj hq
 refine Tu fl hp (by(clear sl hp hl hq;lia)) fun os p1 uR Hp e1=>HI fl os uR Hp (by(clear e1 Hp uR sl hp hl hq;lia)) fun p2 s7 e2=> ?_
 have start:∀(P A E G:Spec) (k:Ko),bM qT.scope (ah (Ju P A E G fl) 34) (a7 (bH 4)) (aV (bH 4)) (v::more) (el sc fl (ag (ab fl)) (cO hs) (eV fl) t) (nP fl p (j9 hs)) k=ah (Ju P A E G fl) 31 [yD 3] (el sc fl (ag (ab fl)) (cO hs) (eV fl) (some (v,os,lu (aO (ab fl) os) Dec.told))) (nP fl p2 (j9 hs)) (gH (fun l c=>bM qT.scope (ah (Ju P A E G fl) 34) (a7 (bH 4)) (aV (bH 4)) more l c k) k):=fun P A E G k=>by
  rw[Bv,XD,ip]
  generalize gH (fun l c=>bM qT.scope (ah (Ju P A E G fl) 34) (a7 (bH 4)) (aV (bH 4)) more l c k) k=K
  rw[Dc.2]
  refine(Tw P dS _ _ A E G sc fl _ _ _ t v os _ K _ u0 p p1 e1).trans ?_
  refine(Tx P dS _ _ A E G sc fl _ _ _ t v os _ _ K _ _ _ (eR _) (show lu (aO (ab fl) (os.drop 0)) Dec.told=lu (aO (ab fl) os) Dec.told by rw[List.drop_zero])).trans ?_
  exact Ty P dS _ _ A E G sc fl _ _ _ v os _ _ K _ Nv p1 p2 e2
 have iq:lu (aO (ab fl) os) Dec.told= .none->∃(ki:List Hd) (p' :Cell) (t' :T×List UInt8×T),(ki=hs\/∃h,gy fl h/\ki=hs++[h])/\aL (b+106) p' /\∀(P A E G:Spec) (k:Ko),bM qT.scope (ah (Ju P A E G fl) 34) (a7 (bH 4)) (aV (bH 4)) (v::more) (el sc fl (ag (ab fl)) (cO hs) (eV fl) t) (nP fl p (j9 hs)) k=bM qT.scope (ah (Ju P A E G fl) 34) (a7 (bH 4)) (aV (bH 4)) more (el sc fl (ag (ab fl)) (cO ki) (eV fl) (some t')) (nP fl p' (j9 ki)) k:=fun e=>
  ⟨hs,p2,(v,os,.none),.inl rfl,s7.up (by(clear e start e2 s7 e1 Hp uR sl hb hp hl hq;lia)),fun P A E G k=>by
   refine(start P A E G k).trans ?_
   rw[e,af]
   refine Eq.trans (Nm P dS (kj u0) (hS (oZ (ag (ab fl))) (gF fl)) (kj Nv) A E G sc fl (ag (ab fl)) (cO hs) (eV fl) (nP fl p2 (j9 hs)) v os _) ?_
   rw[aj,bR];rfl⟩
 cases q:aO (ab fl) os with
 |done x n=>
  rw[q]at start
  have hd:gy fl ⟨os,x,n⟩:=⟨uR,q⟩
  have hn:n<=15:=hd.b.2.1
  have hw:(os.take n).length=n:=hd.b.2.2
  refine⟨hs++[⟨os,x,n⟩],p2,(v,os,x.told n),.inr ⟨_,hd,rfl⟩,s7.up (by(clear hw hn hd q start iq e2 s7 e1 Hp uR sl hb hp hl hq;lia)),fun P A E G k=> ?_⟩
  refine(start P A E G k).trans ?_
  rw[af]
  refine Eq.trans (Nn P dS (kj u0) (hS (oZ (ag (ab fl))) (gF fl)) (kj Nv) A E G sc fl (ag (ab fl)) (cO hs) v os _ p2 (j9 hs) (nE x.d.f.name (Z x.w) x.ops) n) ?_
  rw[g8,decide_eq_true (show(cO hs).length+(os.take n).length<=big by unfold big;(clear hd q start iq e2 s7 e1 Hp uR hb hp hq;lia)),decide_eq_true (show(j9 hs).length<big by unfold j9;rw[List.length_map];unfold big;omega),cond_true,cond_true,aj,bR,Dh]
  unfold j9
  rw[List.map_append]
  rfl
 |fail=>exact iq (by rw[q];rfl)
 |more=>exact iq (by rw[q];rfl)
noncomputable abbrev pe(xs:List (Dec×Nat)):List T:=xs.map fun x=>x.1.told x.2
noncomputable abbrev w7(fl:Bool)(p:Cell)(ts:List T):aa:=p::(j7 fl++[.cg (.lst ts)])
theorem w8(fl:Bool)(p:Cell)(x:Cell):(p::(j7 fl++[x]))[eV fl]? =some x:=mD p x (j7 fl)
theorem Nw(fl:Bool)(p:Cell)(x y:Cell):(p::(j7 fl++[x])).set (eV fl) y=p::(j7 fl++[y]):=by
 show p::(j7 fl++[x]).set (j7 fl).length y=_
 rw[List.set_append_right _ _ (Nat.le_refl _),Nat.sub_self];rfl
theorem HJ(fl:Bool)(p:Cell)(ts:List T)(K:Bool->List T->aa->aq):pq (.loc (eV fl)) (nP fl p (ts.map .t)) K=K false ts (w7 fl p ts):=by
 have:fr aN (nP fl p (ts.map .t)) (.loc (eV fl))=some (.lst ts,w7 fl p ts):=by
  show ob (nP fl p (ts.map .t))[eV fl]? _=_
  rw[w8]
  show ob (iF (fr 11) _ (ts.map .t)) _=_
  rw[ll]
  show ob (nP fl p (ts.map .t))[eV fl]? _=_
  rw[w8]
  show some (T.lst ts,(nP fl p (ts.map .t)).set (eV fl) (.cg (.lst ts)))=_
  rw[Nw]
 show ob (fr aN (nP fl p (ts.map .t)) (.loc (eV fl))) _=_
 rw[this];rfl
theorem gf(xs:List (Dec×Nat)):∀t∈pe xs,jr 29 t=true:=fun t ht=>by
 obtain⟨x,_,rfl⟩:=List.mem_map.mp ht
 exact(Dd 25 x.1 x.2).1
theorem HL(xs:List (Dec×Nat)):eqT (.lst (pe xs)) (.lst (pe xs))=some true:=qJ fun t ht=>by
 obtain⟨x,_,rfl⟩:=List.mem_map.mp ht
 exact(Dd 25 x.1 x.2).2
theorem HM(xs:List (Dec×Nat)):jr 30 (.lst (xs.map fun x=>N x.2))=true:=List.all_eq_true.mpr fun t ht=>by
 obtain⟨x,_,rfl⟩:=List.mem_map.mp ht
 rfl
theorem HO(xs:List (Dec×Nat)):eqT (.lst (xs.map fun x=>N x.2)) (.lst (xs.map fun x=>N x.2))=some true:=qJ fun t ht=>by
 obtain⟨x,_,rfl⟩:=List.mem_map.mp ht
 exact mA _
section
variable(P D W H R:Spec)(sc:T)(fl:Bool)(l:T)(sw:List UInt8)(v:T)(o:List UInt8)(d:T)(k:Ko)
theorem XF(F:Spec)(p:Cell)(xs:List (Dec×Nat))(hx:∀x∈xs,x.1.ops.length<=2)(Bq Q1 Q3:List V->Bool)(hB:Bq [.t l,.t (.bytes sw)]=true)(MX:Q1 [.t l,.t (.bytes sw)]=true)(ZT:Q3 [.t l,.t (.bytes sw)]=true):
  aD (dh P D W H R (DF Bq (cp Q1 (.ok (.t (.lst (xs.map fun x=>x.1.t x.2))))) F) (cp Q3 (.ok (.t (.lst (xs.map fun x=>N x.2))))) (gS (yl lD) j8)) 34 (bH 5) (el sc fl l sw (eV fl) (some (v,o,d))) (nP fl p ((pe xs).map .t)) k=k .next (el sc fl l sw (eV fl) (some (v,o,d))) (w7 fl p (pe xs)):=by
 obtain⟨h1,h2,h3,h4,h5,h6,h7,h8,h9,ha,hc⟩:=No
 generalize hE:cp Q3 (.ok (.t (.lst (xs.map fun x=>N x.2))))=E
 have e1:∀K:Kn,ai (dh P D W H R (DF Bq (cp Q1 (.ok (.t (.lst (xs.map fun x=>x.1.t x.2))))) F) E (gS (yl lD) j8)) 31 cS (el sc fl l sw (eV fl) (some (v,o,d))) (nP fl p ((pe xs).map .t)) K=K (.ok (.t (.lst (pe xs)))) (nP fl p ((pe xs).map .t)):=fun K=>by
  rw[h5,cr _ 30 _ _ _ _ _ _ _ _ _ _ _ ha (fun K kx=>(Np P D W H R E _ sc fl l sw (eV fl) _ v o d F Q1 Bq _ K kx).trans (by rw[hB,MX];rfl)),(Jt sc fl l sw (eV fl) v o d).1]
  refine Eq.trans (Df P D W H R _ E _ _ xs [] none hx) ?_
  rw[List.nil_append,bY]
 generalize hA:DF Bq (cp Q1 (.ok (.t (.lst (xs.map fun x=>x.1.t x.2))))) F=A at e1⊢
 generalize hG:gS (yl lD) j8=G at e1⊢
 have h1:=h1
 generalize jf (bH 5)=A5 at h1
 rw[h1,ei,h2,mz,MP,h3,dI _ 31 _ _ .NotEq _ _ _ _ _ _ _ _ _ false h8 e1 (fun K=>Tr P D W H R A E G sc fl l sw (eV fl) _ v o d K) (by
  show qZ (u9 _ _ _)=_
  rw[De rfl (qO (.inl (w8 fl p _))) (gf xs) (gf xs) (HL xs)];rfl)]
 simp only[cond_false]
 have e3:∀K:Kn,ai (dh P D W H R A E G) 31 (ey uZ).1 (el sc fl l sw (eV fl) (some (v,o,d))) (nP fl p ((pe xs).map .t)) K=K (.ok (.t (.lst (xs.map fun x=>N x.2)))) (nP fl p ((pe xs).map .t)):=fun K=>by
  rw[<-hE]
  exact(Ts P D W H R A G sc fl l sw (eV fl) _ v o d Q3 _ K).trans (by rw[ZT];rfl)
 have e4:∀K:Kn,ai (dh P D W H R A E G) 31 cM (el sc fl l sw (eV fl) (some (v,o,d))) (nP fl p ((pe xs).map .t)) K=K (.ok (.t (.lst (xs.map fun x=>N x.2)))) (w7 fl p (pe xs)):=fun K=>by
  rw[h6,cr _ 30 _ _ _ _ _ _ _ _ _ _ _ hc (fun K kx=>(Nr P D W H R A E G sc fl l sw (eV fl) _ v o d K kx).trans (HJ fl p (pe xs) K)),(Jt sc fl l sw (eV fl) v o d).2]
  refine Eq.trans (Dg P D W H R A E _ G _ xs [] none) ?_
  rw[List.nil_append,bY]
 rw[h4,dI _ 31 _ _ .NotEq _ _ _ _ _ _ _ _ _ false h9 e3 e4 (MQ _ _ (fun b h=>by cases h) (HM xs) (HO xs))]
 simp only[cond_false]
 rw[h7,bR]
end
noncomputable def Di:Expr:=qQ (bH 6)
noncomputable def tl:Expr:=(Jc Di).1
noncomputable def HP:Expr:=(Jc Di).2
theorem Nx:bH 6= .If Di (jf (bH 6)) (qR (bH 6)) (match bH 6 with| .If _ _ _ p=>p|_=>⟨0,0,0,0⟩)/\Di= .BoolOp .Or [tl,HP] (pE Di)/\tl= .Compare (ey tl).1 [.Eq] [(ey tl).2] (pE tl)/\lastMarks [.Eq] [(ey tl).2]=false/\qR (bH 6)=[]:=⟨by rfl',by rfl',by rfl',by rfl',by rfl'⟩
section
variable(P D W H R A E G:Spec)(sc:T)(fl:Bool)(l:T)(sw:List UInt8)(j:Nat)(c:aa)(v:T)(o:List UInt8)(d:T)(k:Ko)
theorem Jv(K:Kn):ai (dh P D W H R A E G) 30 (ey tl).1 (el sc fl l sw j (some (v,o,d))) c K=K (.ok (.loc j)) c/\ai (dh P D W H R A E G) 30 (ey tl).2 (el sc fl l sw j (some (v,o,d))) c K=K (.ok (.loc c.length)) (c++[.lst []]):=⟨by rfl',by rfl'⟩
theorem Tz:ah (dh P D W H R A E G) 32 (jf (bH 6)) (el sc fl l sw j (some (v,o,d))) c k=k (.ret (.t (B true))) (el sc fl l sw j (some (v,o,d))) c:=by rfl'
theorem Dj(p:Cell)(t1:T)(n:Int)(kk:Bool->aa->aq)(kx:Kx):aB (dh P D W H R A E G) 31 HP (el sc fl l sw (eV fl) (some (v,o,d))) (w7 fl p [.tup [t1,.int n]]++[.lst []]) kk kx=kk (decide (n=1)) (w7 fl p [.tup [t1,.int n]]++[.lst []]):=by induction fl<;>rfl'
theorem Dk(p:Cell)(t0 t1:T)(n:Int)(kk:Bool->aa->aq)(kx:Kx):aB (dh P D W H R A E G) 31 HP (el sc fl l sw (eV fl) (some (v,o,d))) (w7 fl p [t0,.tup [t1,.int n]]++[.lst []]) kk kx=kk (decide (n=1)) (w7 fl p [t0,.tup [t1,.int n]]++[.lst []]):=by induction fl<;>rfl'
noncomputable abbrev Jw(sc:T)(fl:Bool)(l:T)(sw:List UInt8)(j:Nat)(v:T)(o:List UInt8)(d:T):Loc:=el sc fl l sw j (some (v,o,d))++[(st "heard",.t .none)]
theorem TA:aD (dh P D W H R A E G) 32 (bH 7) (el sc fl l sw j (some (v,o,d))) c k=k .next (Jw sc fl l sw j v o d) c:=by rfl'
theorem TB:aD (dh P D W H R A E G) 31 (bH 8) (Jw sc fl l sw j v o d) c k=A [.t l,.t (.bytes (a8 sw none (some (-1))))] c (fun r c=>match r with
  | .ok u=>ob (fv qT.scope (Jw sc fl l sw j v o d) (st "heard") u) fun l=>k .next l c
  | .exc=>k .next (Jw sc fl l sw j v o d) c):=by rfl'
theorem TC:aD (dh P D W H R A E G) 30 (bH 9) (Jw sc fl l sw j v o d) c k=k (.ret (.t (B true))) (Jw sc fl l sw j v o d) c:=by rfl'
end
noncomputable abbrev hx(hs:List Hd):List (Dec×Nat):=hs.map fun h=>(h.x,h.n)
theorem Ny(hs:List Hd):j9 hs=(pe (hx hs)).map .t:=by unfold j9;rw[List.map_map,List.map_map];rfl
theorem u6{fl:Bool}{h:Hd}(q:gy fl h):aO (ab fl) (h.os.take h.n)= .done h.x h.n:=by have:=eQ q.2 [];rwa [List.append_nil]at this
theorem Nz{fl:Bool}{hs:List Hd}(hq:∀h∈hs,gy fl h):∀x∈hx hs,x.1.ops.length<=2:=fun x hx=>by
 obtain⟨h,hh,rfl⟩:=List.mem_map.mp hx
 exact qC (hq h hh).2
theorem tm{α:Type}(xs:List α):a8 xs none (some (-1))=xs.take (xs.length-1):=by
 unfold a8
 dsimp only
 rw[if_pos (by exact Int.natCast_nonneg _),List.drop_zero]
 congr 1
 lia
noncomputable def TD(fl:Bool)(A E:Spec)(hs:List Hd):Prop:=bG 27 976 A/\bG 27 981 E/\∀(P D W H R:Spec) (sc:T) (p:Cell) (v:T) (o:List UInt8) (d:T) (c:aa) (k:Kn),ah (dh P D W H R A E (gS (yl lD) j8)) 35 [bH 5,bH 6,bH 7,bH 8,bH 9] (el sc fl (ag (ab fl)) (cO hs) (eV fl) (some (v,o,d))) (nP fl p (j9 hs)) (KK c k)=k (.ok (.t (B true))) c
section
variable(fl:Bool)(hs:List Hd)(hq:∀h∈hs,gy fl h)
include hq
theorem kc(hl:hs.length<=2)(F:Spec)(hF:bG 27 976 F)(ha:aH 21 976 [ag (ab fl),.bytes (cO hs)] (some (.lst ((hx hs).map fun x=>x.1.t x.2))))
  (hr:∀(P D W H R E G:Spec) (sc:T) (p:Cell) (v:T) (o:List UInt8) (d:T) (c:aa) (k:Kn),ah (dh P D W H R (DF (isA [.t (ag (ab fl)),.t (.bytes (cO hs))]) (cp (isA [.t (ag (ab fl)),.t (.bytes (cO hs))]) (.ok (.t (.lst ((hx hs).map fun x=>x.1.t x.2))))) F) E G) 34 [bH 6,bH 7,bH 8,bH 9] (el sc fl (ag (ab fl)) (cO hs) (eV fl) (some (v,o,d))) (w7 fl p (pe (hx hs))) (KK c k)=k (.ok (.t (B true))) c):
  ∃A E,TD fl A E hs:=by
 have le:=CA (xs:=hx hs) (by rw[List.length_map];exact hl) ha
 refine⟨DF (isA [.t (ag (ab fl)),.t (.bytes (cO hs))]) (cp (isA [.t (ag (ab fl)),.t (.bytes (cO hs))]) (.ok (.t (.lst ((hx hs).map fun x:Dec×Nat=>x.1.t x.2))))) F,cp (isA [.t (ag (ab fl)),.t (.bytes (cO hs))]) (.ok (.t (.lst ((hx hs).map fun x:Dec×Nat=>N x.2)))),Br ((bf (n' :=26) (args:=[.t (ag (ab fl)),.t (.bytes (cO hs))]) trivial ha (by decide) rfl)) hF,bf (n' :=26) (args:=[.t (ag (ab fl)),.t (.bytes (cO hs))]) trivial le (by decide) rfl,fun P D W H R sc p v o d c k=> ?_⟩
 rw[af,Ny]
 refine Eq.trans (XF P D W H R sc fl _ _ v o d _ F p (hx hs) (Nz hq) _ _ _ (aK _) (aK _) (aK _)) ?_
 exact hr P D W H R _ _ sc p v o d c k
end
section
variable(P D W H R A E G:Spec)(sc:T)(fl:Bool)(l:T)(sw:List UInt8)(v:T)(o:List UInt8)(d:T)(p:Cell)(K:Ko)(bs:List Stmt)
theorem Dl(ts:List T)(hk:∀t∈ts,jr 29 t=true):ah (dh P D W H R A E G) 34 (bH 6::bs) (el sc fl l sw (eV fl) (some (v,o,d))) (w7 fl p ts) K=
  bif ts.isEmpty then K (.ret (.t (B true))) (el sc fl l sw (eV fl) (some (v,o,d))) (w7 fl p ts++[.lst []])else aB (dh P D W H R A E G) 31 HP (el sc fl l sw (eV fl) (some (v,o,d))) (w7 fl p ts++[.lst []]) (fun b c=>bif b then K (.ret (.t (B true))) (el sc fl l sw (eV fl) (some (v,o,d))) c else ah (dh P D W H R A E G) 33 bs (el sc fl l sw (eV fl) (some (v,o,d))) c K) (fun c=>K .exc (el sc fl l sw (eV fl) (some (v,o,d))) c):=by
 obtain⟨h1,h2,h3,h4,h5⟩:=Nx
 have e:iR (w7 fl p ts++[.lst []]) .Eq (.loc (eV fl)) (.loc (w7 fl p ts).length)=some ts.isEmpty:=by
  refine De (xs:=ts) (ys:=[]) (qO (.inr ?_)) (qO (.inl ?_)) hk (fun t ht=>by cases ht) ?_
  ·rw[List.getElem?_append_left (by show(j7 fl).length+1<(j7 fl++_).length+1;rw[List.length_append];show _<_+1+1;exact Nat.le_refl _)]
   exact w8 fl p _
  ·exact List.getElem?_concat_length
  ·induction ts<;>rfl
 have a6:=fun c k=>Tz P D W H R A E G sc fl l sw (eV fl) c v o d k
 have h1:=h1
 generalize jf (bH 6)=A6 at h1 a6
 rw[af,h1,ei,h2,mz,MP,h3,dI _ 30 _ _ .Eq _ _ _ _ _ _ _ _ _ _ h4 (fun K=>(Jv P D W H R A E G sc fl l sw (eV fl) _ v o d K).1) (fun K=>(Jv P D W H R A E G sc fl l sw (eV fl) _ v o d K).2) e,h5]
 induction ts with
 |nil=>exact a6 _ _
 |cons t ts=>
  show aB _ _ _ _ _ (fun v c=>bif v then _ else _) _=aB _ _ _ _ _ (fun b c=>bif b then _ else _) _
  congr 1
  funext b c
  induction b
  ·rw[cond_false,bR,aj];exact(cond_false _ _).symm
  ·exact a6 _ _
theorem Dm(c:aa)(h:∀k,A [.t l,.t (.bytes (a8 sw none (some (-1))))] c k=k .exc c):ah (dh P D W H R A E G) 33 [bH 7,bH 8,bH 9] (el sc fl l sw (eV fl) (some (v,o,d))) c K=K (.ret (.t (B true))) (Jw sc fl l sw (eV fl) v o d) c:=by
 rw[af]
 refine Eq.trans (TA P D W H R A E G sc fl l sw _ c v o d _) ?_
 rw[aj,af]
 refine Eq.trans (TB P D W H R A E G sc fl l sw _ c v o d _) ?_
 rw[h]
 refine Eq.trans (b:=ah (dh P D W H R A E G) 31 [bH 9] (Jw sc fl l sw (eV fl) v o d) c K) rfl ?_
 rw[af]
 exact TC P D W H R A E G sc fl l sw _ c v o d _
end
section
variable{fl:Bool}
theorem TE:∃A E,TD fl A E []:=kc fl [] (fun h hh=>by cases hh) (by decide) gx (j6 (by decide+kernel)) (WB fl [] rfl) fun P D W H R E G sc p v o d c k=>by
 refine Eq.trans (Dl P D W H R _ E G sc fl _ _ v o d p _ _ (pe (hx [])) (gf [])) ?_
 rfl
theorem Dn{Bq:List V->Bool}{F:Spec}{Q:List V->Bool}{args:List V}(h1:Bq args=false)(h2:Q args=true)(G:Spec)(c:aa)(k:Kn):DF Bq G (cp Q .exc) args c k=k .exc c:=by
 unfold DF cp
 rw[h1,h2];rfl
theorem Jy{h:Hd}(q:gy fl h):∃A E,TD fl A E [h]:=by
 obtain⟨b1,b2,b3⟩:=q.b
 have hs:cO [h]=h.os.take h.n:=by unfold cO;simp
 have hd:=u6 q
 by_cases n1:h.n=1
 ·refine kc fl [h] (fun g hg=>by rw[List.mem_singleton.mp hg];exact q) (show 1<=2 by decide) gx (j6 (by decide+kernel)) (by rw[hs];exact Rn fl _ hd b1 b3.symm) fun P D W H R E G sc p v o d c k=> ?_
  refine Eq.trans (Dl P D W H R _ E G sc fl _ _ v o d p _ _ (pe (hx [h])) (gf _)) ?_
  refine Eq.trans (Dj P D W H R _ E G sc fl _ _ v o d p (nE h.x.d.f.name (Z h.x.w) h.x.ops) h.n _ _) ?_
  rw[decide_eq_true (by exact congrArg _ n1)];rfl
 ·have hc:a8 (cO [h]) none (some (-1))=(h.os.take h.n).take (h.n-1):=by rw[tm,hs,b3]
  have hb:=WD fl ((h.os.take h.n).take (h.n-1)) (kV hd (by omega)) (fun e=>by have:=congrArg List.length e;rw[List.length_take,b3]at this;simp at this;(clear e hc hd hs b3 b2 q;lia))
  refine kc fl [h] (fun g hg=>by rw[List.mem_singleton.mp hg];exact q) (show 1<=2 by decide) _ (bf (n' :=26) (args:=[.t (ag (ab fl)),.t (.bytes ((h.os.take h.n).take (h.n-1)))]) trivial hb (by decide) rfl) (by rw[hs];exact Rn fl _ hd b1 b3.symm) fun P D W H R E G sc p v o d c k=> ?_
  refine Eq.trans (Dl P D W H R _ E G sc fl _ _ v o d p _ _ (pe (hx [h])) (gf _)) ?_
  refine Eq.trans (Dj P D W H R _ E G sc fl _ _ v o d p (nE h.x.d.f.name (Z h.x.w) h.x.ops) h.n _ _) ?_
  rw[decide_eq_false (by exact fun e=>n1 (Int.ofNat.inj e))]
  refine Eq.trans (Dm P D W H R _ E G sc fl _ _ v o d _ _ fun k=>Dn (F:=gx) ?_ ?_ _ _ k) rfl
  ·rw[hc,hs]
   refine Bp fun e=> ?_
   injection e with _ e
   injection e with e _
   injection e with e
   injection e with e
   have:=congrArg List.length e
   rw[List.length_take,b3]at this
   (clear e hb hc n1 hd hs b3 b2 q;lia)
  ·rw[hc];exact aK _
theorem TF{h g:Hd}(q:gy fl h)(r:gy fl g):∃A E,TD fl A E [h,g]:=by
 obtain⟨b1,b2,b3⟩:=q.b
 obtain⟨c1,c2,c3⟩:=r.b
 have hs:cO [h,g]=h.os.take h.n++g.os.take g.n:=by unfold cO;simp
 have hd:=u6 q
 have gd:=u6 r
 have u7:∀x∈[h,g],gy fl x:=fun x hx=>by
  rcases List.mem_cons.mp hx with rfl|hx
  ·exact q
  ·rw[List.mem_singleton.mp hx];exact r
 have dr:∀B:List UInt8,(h.os.take h.n++B).drop h.n=B:=fun B=>List.drop_left' b3
 have ha:aH 21 976 [ag (ab fl),.bytes (cO [h,g])] (some (.lst ((hx [h,g]).map fun x=>x.1.t x.2))):=by
  rw[hs]
  exact WC fl _ (mu hd _) b1 (by rw[dr];exact gd) c1 (show h.n+g.n=_ by rw[List.length_append,b3,c3])
 by_cases n1:g.n=1
 ·refine kc fl [h,g] u7 (show 2<=2 by decide) gx (j6 (by decide+kernel)) ha fun P D W H R E G sc p v o d c k=> ?_
  refine Eq.trans (Dl P D W H R _ E G sc fl _ _ v o d p _ _ (pe (hx [h,g])) (gf _)) ?_
  refine Eq.trans (Dk P D W H R _ E G sc fl _ _ v o d p _ (nE g.x.d.f.name (Z g.x.w) g.x.ops) g.n _ _) ?_
  rw[decide_eq_true (by exact congrArg _ n1)];rfl
 ·have hc:a8 (cO [h,g]) none (some (-1))=h.os.take h.n++(g.os.take g.n).take (g.n-1):=by
   rw[tm,hs,List.length_append,List.take_append,List.take_of_length_le (by(clear n1 ha dr u7 gd hd hs c2 b3 b2 b1 r q;lia)),show(h.os.take h.n).length+(g.os.take g.n).length-1-(h.os.take h.n).length=g.n-1 by(clear n1 ha dr u7 gd hd hs c2 c1 b3 b2 b1 r q;lia)]
  have hl:((g.os.take g.n).take (g.n-1)).length=g.n-1:=by rw[List.length_take,c3];(clear hc n1 ha dr u7 gd hd hs c3 c2 c1 b3 b2 b1 r q;lia)
  have hb:=WE fl (h.os.take h.n++(g.os.take g.n).take (g.n-1)) (mu hd _) (by rw[List.length_append,hl];(clear hl hc ha dr u7 gd hd hs c3 c2 b2 b1 r q;lia)) b1 b2 (by rw[dr];exact kV gd (by omega))
  refine kc fl [h,g] u7 (show 2<=2 by decide) _ (bf (n' :=26) (args:=[.t (ag (ab fl)),.t (.bytes (h.os.take h.n++(g.os.take g.n).take (g.n-1)))]) trivial hb (by decide) rfl) ha fun P D W H R E G sc p v o d c k=> ?_
  refine Eq.trans (Dl P D W H R _ E G sc fl _ _ v o d p _ _ (pe (hx [h,g])) (gf _)) ?_
  refine Eq.trans (Dk P D W H R _ E G sc fl _ _ v o d p _ (nE g.x.d.f.name (Z g.x.w) g.x.ops) g.n _ _) ?_
  rw[decide_eq_false (by exact fun e=>n1 (Int.ofNat.inj e))]
  refine Eq.trans (Dm P D W H R _ E G sc fl _ _ v o d _ _ fun k=>Dn (F:=gx) ?_ ?_ _ _ k) rfl
  ·rw[hc,hs]
   refine Bp fun e=> ?_
   injection e with _ e
   injection e with e _
   injection e with e
   injection e with e
   have:=congrArg List.length e
   rw[List.length_append,List.length_append,hl]at this
   (clear e hb hl hc n1 ha dr u7 gd hd hs c2 b3 b2 b1 r q;lia)
  ·rw[hc];exact aK _
end
theorem yF(W H R A E G:Spec)(sc:T)(Q:Qs)(hQ:Q [.t sc] []=true)(p:Cell)(hV:oX 2 p=true)(zs:List T)(s g:Int)(h1:(br 2 p).2=aY zs s g)(fl:Bool)(hf:decide ((br 2 p).1=1)=fl)(K:Ko):
  ah (dh (ck Q (.ok (.loc 0)) [p]) dS W H R A E G) 40 qT.body [(st "script",.t sc)] [] K=ah (dh (ck Q (.ok (.loc 0)) [p]) dS W H R A E G) 36 [bH 4,bH 5,bH 6,bH 7,bH 8,bH 9] (el sc fl (ag (ab fl)) [] (eV fl) none) (nP fl (aY zs s g) []) K:=by
 rw[HH,af,Ti,hQ,cond_true,aj,af,Tj,hV,hf,h1,cond_true,aj,af,Xw,aj,af,Tk,aj]
 rfl
theorem HQ(P D W H R A E G:Spec)(sc:T)(fl:Bool)(l:T)(sw:List UInt8)(j:Nat)(c:aa)(bs:List Stmt)(K:Ko):
  ah (dh P D W H R A E G) 36 (bH 4::bs) (el sc fl l sw j none) c K=bM qT.scope (ah (dh P D W H R A E G) 34) (a7 (bH 4)) (aV (bH 4)) [I 0,I 1] (el sc fl l sw j none) c (dy (dh P D W H R A E G) 35 bs K):=by
 obtain⟨f1,f2⟩:=Dc
 have h4:=fun K kx=>Tl P D W H R A E G sc fl l sw j c K kx
 rw[af]
 revert f1 f2 h4
 generalize (match bH 4 with| .For _ i _ _ _=>i|_=>dk)=it
 generalize (match bH 4 with| .For _ _ _ _ p=>p|_=>⟨0,0,0,0⟩)=ps
 generalize a7 (bH 4)=tg
 generalize aV (bH 4)=bd
 intro f1 f2 h4
 rw[f1]
 exact jV _ 34 _ _ _ _ [I 0,I 1] _ _ _ _ h4
theorem Do{fl:Bool}{hs:List Hd}(q:hs=[]\/∃h,gy fl h/\hs=[]++[h]):(∀h∈hs,gy fl h)/\hs.length<=1:=by
 rcases q with rfl|⟨h,hh,rfl⟩
 ·exact⟨(fun h hh=>nomatch hh),by decide⟩
 ·exact⟨fun g hg=>by rw[List.mem_singleton.mp hg];exact hh,Nat.le_refl _⟩
theorem NA{fl:Bool}{hs Us:List Hd}(q1:hs=[]\/∃h,gy fl h/\hs=[]++[h])(q2:Us=hs\/∃h,gy fl h/\Us=hs++[h]):∃A E,TD fl A E Us:=by
 rcases q1 with rfl|⟨h,hh,rfl⟩<;>rcases q2 with rfl|⟨g,hg,rfl⟩
 ·exact TE
 ·exact Jy hg
 ·exact Jy hh
 ·exact TF hh hg
noncomputable abbrev Ut(xs:List Int):Cell:=aY (cf (xs.take 40)) 0 0
noncomputable abbrev tL(fl:Bool)(xs:List Int)(A E:Spec):List (Nat×Spec):=[(1180,ck (isQ [.t (.lst (cf xs))] []) (.ok (.loc 0)) [Ut xs]),(1187,dS),(1208,kj u0),(1227,hS (oZ (ag (ab fl))) (gF fl)),(1249,kj Nv),(976,A),(981,E),(784,gS (yl lD) j8)]
theorem TG{fl:Bool}{xs:List Int}{A E:Spec}(iA:bG 27 976 A)(iE:bG 27 981 E):∀p∈tL fl xs A E,bG 27 p.1 p.2:=
 (jN (n:=26) trivial (dG (show 9<=27 by decide) (uX xs))).all ((oY (n:=27) (by decide)).all ((Nu (by decide)).all (((C2 fl).up (by decide)).all ((Tv (by decide)).all (iA.all (iE.all ((yE.up (by decide)).all .aW)))))))
theorem Dp(xs:List Int):aH 28 1254 [.lst (cf xs)] (some (B true)):=by
 have ZU:aL 0 (Ut xs):=⟨⟨xs.take 40,0,0,rfl,Int.le_refl 0⟩,Int.le_refl 0⟩
 have D:=cH (m:=2) ZU (by decide) (by decide) (by decide)
 refine D.2.2.is.elim fun ys z=>z.elim fun s z=>z.elim fun g z=> ?_
 refine(w6 (.lst (cf xs)) (decide ((br 2 (Ut xs)).1=1)) [] (fun h hh=>nomatch hh) (by decide) (z.1▸D.2.2) (by decide) (I 0) [I 1] none).elim fun ZV r1=>r1.elim fun p2 r1=>r1.elim fun t1 r1=> ?_
 refine(w6 (.lst (cf xs)) _ ZV (Do r1.1).1 (Do r1.1).2 r1.2.1 (by decide) (I 1) [] (some t1)).elim fun Us r2=>r2.elim fun p3 r2=>r2.elim fun t2 r2=> ?_
 refine(NA r1.1 r2.1).elim fun A o=>o.elim fun E o=> ?_
 refine ak PO (aP (n:=27) (by decide) (tL (decide ((br 2 (Ut xs)).1=1)) xs A E) (TG o.1 o.2.1)) fun c k=> ?_
 refine(mv (l:=[(st "script",.t (.lst (cf xs)))]) (by rfl')).trans ((yF _ _ _ A E _ _ _ (fF _ _) _ D.1 (cf ys) s g z.1 _ rfl (KK c k)).trans ((HQ _ _ _ _ _ A E _ _ _ _ _ _ _ _ _).trans ((r1.2.2 _ A E _ _).trans ((r2.2.2 _ A E _ _).trans ?_))))
 exact o.2.2 _ _ _ _ _ _ p3 t2.1 t2.2.1 t2.2.2 c k
end
section
open PySem PySem.W PyProof.Rows PySem.Calls
theorem tn(t:Thread):(endAt 0 t).isSome=through t:=by
 obtain⟨cur,code,pos,st⟩:=t
 induction st with
 |cons _ _=>rfl
 |nil=>induction cur with
  |pure a=>induction a<;>rfl
  |_=>rfl
theorem tp{p:Program}{w:World}{n₀:Nat}{ann:Option Value}{tb:String->Option Builtin}:∀{n:Nat} {s s' :Shared} {t:Thread} {f:Flow} {c:Code} {q:Pos},segRun tb p w n₀ ann 0 n s t=some (f,s',c,q)->topRun tb p w n₀ ann n s t=some s'
 |0,_,_,_,_,_,_,h=>nn h
 |n+1,s,s',t,f,c,q,h=>by
  unfold segRun at h
  unfold topRun
  rw[<-tn]
  cases he:endAt 0 t with
  |some x=>rw[he]at h;cases h;rfl
  |none=>
   rw[he]at h
   cases hk:stepOk n₀ ann t with
   |false=>rw[hk]at h;cases h
   |true=>
    rw[hk]at h
    cases hs:step (denote tb) p w s t with
    |halt o s₂=>rw[hs]at h;cases h
    |go s₂ t₂=>rw[hs]at h;exact tp h
theorem boot_abs(P:Params):absHeap (rz (boot_heap P)) 11 (boot_heap P).life=boot_heap P:=by rfl'
theorem Dq:sysModules<11/\sysModules≠mainNs/\sysModules≠cStatics/\sysModules≠6:=by decide+kernel
theorem Dr{o:Obj}(h:zy o=true):alive o=some o:=by
 obtain⟨c,d,dt,sl⟩:=o
 cases dt<;>first|rfl|cases h
theorem Ds:opening pW=plainProg pW.main.scope.names:=by rfl'
theorem yG(s:Shared):fenceModules? pW s=some s:=by rfl'
theorem nQ(P:Params):((boot_heap P).nsMap mainGlobals "__annotations__"=some (.ref 6))/\(boot_heap P).objs.size=11:=⟨by rfl',by rfl'⟩
noncomputable def TH(o:Option Obj):Bool:=match o with
 |some ⟨_,_,.dict es _,_⟩=>(match es.toList with|e::_=>mN e.key|[]=>false)
 |_=>false
theorem Dt(P:Params):TH ((boot_heap P).get? sysModules)=true:=by rfl'
theorem NB{B:Heap}(h:TH (B.get? sysModules)=true):Iq B:=fun G g=>by
 cases e:B.get? sysModules with
 |none=>rw[e]at h;cases h
 |some o=>
  rw[e]at h
  obtain⟨c,d,data,sl⟩:=o
  induction data with
  |dict es n=>
   have h:(match es.toList with|e::_=>mN e.key|[]=>false)=true:=h
   cases e2:es.toList with
   |nil=>rw[e2]at h;cases h
   |cons x r=>
    rw[e2]at h
    have h:mN x.key=true:=h
    cases e3:x.key with
    |str y t=>exact g _ _ _ _ _ _ _ e rfl e2 e3
    |_=>rw[e3]at h;cases h
  |_=>cases h
theorem HS(P:Params):(Kf P).all (fun p=>Nat.blt p.1 1255&&zy p.2)=true:=by rfl'
theorem HT(P:Params):addrs=(Kf P).map (·.1):=by rfl'
theorem w9{T:BT}:∀{K:Frag},(K.map (·.1)).map T.get=K.map (fun p=>some p.2)->∀p∈K,T.get p.1=some p.2
 |[],_,p,h=>by cases h
 |q::r,e,p,h=>by
  rw[List.map_cons,List.map_cons,List.map_cons]at e
  injection e with e1 e2
  rcases List.mem_cons.mp h with rfl|h
  ·exact e1
  ·exact w9 e2 p h
theorem Du{a:Nat}{o:Obj}:∀{L:Frag},L.lookup a=some o->(a,o)∈L
 |[],h=>nn h
 |(b,x)::r,h=>by
  rw[List.lookup]at h
  cases q:a==b with
  |true=>rw[q]at h;cases h;rw[beq_iff_eq.mp q];exact .head _
  |false=>rw[q]at h;exact .tail _ (Du h)
theorem k_in{P:Params}{T:BT}{life:Life}(e:addrs.map T.get=(Kf P).map fun x=>some x.2):(Kf P).In (absHeap T 1255 life):=fun a o h=>by
 rw[HT P]at e
 have hm:=Du h
 have h1:=w9 e _ hm
 have h2:=Bool.and_eq_true_iff.mp (List.all_eq_true.mp (HS P) _ hm)
 rw[abs_get (Nat.le_of_ble_eq_true h2.1) h1]
 exact Dr h2.2
theorem NC{H:Heap}{dr:Drawn}{tk:Nat}{tb:String->Option Builtin}{p:Program}{w:World}{os:OsState}{W:Seen×List (Option Obj)}(h:runAll H dr tk tb p w os=some W):∃f s c q,segRunT tb p w 11 (some (.ref 6)) 0 9000 ⟨rz H,11,H.life,#[],dr,tk,os⟩ (topStub p)=some (f,s,c,q)/\
  s.n=W.1.n/\s.gens=W.1.gens/\vi p H s=W.1.ok/\(absHeap s.tree s.n s.life).bltView=W.1.blt/\addrs.map s.tree.get=W.2:=by
 unfold runAll at h
 cases q:segRunT tb p w 11 (some (.ref 6)) 0 9000 ⟨rz H,11,H.life,#[],dr,tk,os⟩ (topStub p)with
 |none=>rw[q]at h;cases h
 |some x=>
  obtain⟨f,s,c,r⟩:=x
  rw[q]at h
  have h:=Option.some.inj h
  subst h
  exact⟨f,s,c,r,rfl,rfl,rfl,rfl,rfl,rfl⟩
structure Dv(s₀ s₁:Shared):Prop where
 fence:s₀.gens= #[]
 UQ:TopRan pW w0 s₀ s₁
 asleep:s₁.asleep
 gens:s₁.gens= #[]
 ZW:s₁.heap.isNs mainGlobals=true
 bs:Bs s₁.heap
theorem yH{s₀:Shared}{s:SharedT}(z:s₀.asleep)(h0:s₀.heap=boot_heap w0.params)(ZX:s₀.gens= #[])(h6:topRun table pW w0 11 (some (.ref 6)) 9000 s₀ (topStub pW)=some s.abs)(TJ:s.gens= #[])(ok:vi pW (boot_heap w0.params) s=true)
  (hb:s.abs.heap.bltView=bltViewBooted) (tM:K0.In s.abs.heap):Dv s₀ s.abs:=by
 obtain⟨a,l,Yt,fr⟩:=topRun_spec _ _ _ _ z h6
 unfold vi at ok
 simp only[Bool.and_eq_true]at ok
 obtain⟨⟨⟨⟨⟨⟨⟨⟨⟨k1,k2⟩,k3⟩,k4⟩,k5⟩,k6⟩,k7⟩,k8⟩,k9⟩,ZY⟩:=ok
 have blt:∀x,x≠Str.ofString "__name__"->s.abs.heap.nsMap builtinsNs x=bootBuiltins x:=fun x hx=>Heap.of_bltView k7 hb x hx
 obtain⟨bm,ob,b1,b2,b3,b4,b5,_⟩:=Heap.bmainOk_spec ZY
 have HU:=Dt w0.params
 obtain⟨q1,q2,q3,q4⟩:=Dq
 rw[<-h0]at k1 k4
 refine⟨ZX,⟨a,l,Shared.rest_eq Yt,fun b o hb hn=>fr b o ?_ (fun q=>hn (.inl q)) (fun q=>hn (.inr (.inl q))) (fun q=>hn (.inr (.inr ?_))) hb,Heap.accountedI_of_ok k5,statics_of_ok k1,Pin.keysAreStrs_of k6,fun x hx=>(Pin.builtinOf_eq k7 x).trans (blt x hx),⟨bm,ob,(Pin.globalOf_eq k6 _).trans b1,b3,b4,b5⟩,gens_of_done k3,names_of_bound k2,laid_of_kept k4⟩,Shared.asleep_of_life l z,TJ,k6,⟨tM,Heap.NoLimit.of_ok k8,NB ?_,fun G g=>g _ (.of_isNs k7) blt⟩⟩
 ·have:=Heap.lt_size hb
  rw[h0,(nQ w0.params).2]at this;exact this
 ·have hi:s₀.heap.isNs mainGlobals=true:=(Bool.and_eq_true_iff.mp (Bool.and_eq_true_iff.mp k4).1).1
  rw[Pin.globalOf_eq hi,h0,(nQ w0.params).1,q]
 ·cases ho:(boot_heap w0.params).get? sysModules with
  |none=>rw[ho]at HU;cases HU
  |some o=>rw[ho]at HU;rw[fr sysModules o q1 q2 q3 (fun q=>q4 (by cases q)) (by rw[h0];exact ho)];exact HU
theorem Dw:(∃s,AfterRun (opening pW) w0 s)/\∀s,AfterRun (opening pW) w0 s->∃s₀,fenceModules? pW s=some s₀/\∃s₁,Dv s₀ s₁:=by
 obtain⟨s₀,h2,e⟩:=Option.map_eq_some_iff.mp (boot_open (p:=pW) (N:=9000) Ds (by decide+kernel) yG w0)
 rw[<-table_eq_tree]at h2
 obtain⟨s,h4,h5⟩:=Option.bind_eq_some_iff.mp h2
 have A:=AfterImport.of_importEnds h4
 refine⟨⟨s,A⟩,fun s' ki=> ?_⟩
 obtain rfl:s' =s:=AfterImport.unique ki A
 have z:s₀.asleep:=Shared.asleep_of_life (fence_lifeW h5) A.life
 refine⟨s₀,h5,?_⟩
 obtain⟨f,T,c,q,h6,e1,e2,e3,e4,e5⟩:=NC (UQ w0 s₀.os)
 have h7:=tp (segRun_of h6)
 obtain⟨hp,gens,drawn,toks,os⟩:=s₀
 simp only[Prod.mk.injEq]at e
 obtain⟨rfl,rfl,rfl,rfl⟩:=e
 have ha:(⟨rz (boot_heap w0.params),11,(boot_heap w0.params).life,#[],boot_drawn,boot_toks,os⟩:SharedT).abs=⟨boot_heap w0.params,#[],boot_drawn,boot_toks,os⟩:=congrArg (fun h=>Shared.mk h #[] boot_drawn boot_toks os) (boot_abs w0.params)
 rw[ha,<-table_eq_tree]at h7
 refine⟨_,yH z rfl rfl h7 e2 e3 e4 ?_⟩
 show K0.In (absHeap T.tree T.n T.life)
 rw[show T.n=1255 from e1]
 exact k_in e5
theorem TK{P:Params}{h:Heap}{v:Value}{i:Int}(x:Well P h v (.int i)):ao h.get? (.int i) v:=by
 cases x
 exact fun _ k=>k _
theorem ND{P:Params}{h:Heap}{v:Value}{ds:List WData}(x:Well P h v (.list ds)):∃a vs,v= .ref a/\h.get? a=some (listAt vs 0)/\WellAll P h vs ds:=by
 cases x with
 |list h1 h2=>exact⟨_,_,rfl,h1,h2⟩
theorem Jx{P:Params}{h:Heap}{vs:List Value}(x:WellAll P h vs []):vs=[]:=by
 cases x
 rfl
theorem tq{d:WData}{ds:List WData}{e:WShape}(x:WShape.hasItems [] (d::ds) e=true):WShape.has [] d e=true/\WShape.hasItems [] ds e=true:=Bool.and_eq_true_iff.mp x
theorem yI{P:Params}{h:Heap}{ds:List WData}:∀{vs:List Value},WShape.hasItems [] ds .int=true->WellAll P h vs ds->∃xs:List Int,ds=xs.map .int/\bN h.get? (xs.map T.int) vs:=by
 induction ds with
 |nil=>exact fun _ w=>⟨[],rfl,Jx w▸fun _ k=>k⟩
 |cons d ds ih=>exact fun h w=>(wellAll_cons_inv w).elim fun v w=>w.elim fun vs w=>(ih (tq h).2 w.2.2).elim fun xs r=>(hasW_int (tq h).1).elim fun i e=>⟨i::xs,by rw[e,r.1];rfl,by rw[w.1];exact fun _ k=>k _ _ (TK (e▸w.2.1)) r.2⟩
set_option backward.match.sparseCases true in
theorem HV{ds:List WData}(h:lw.row.toRowW.claim.pre [.list ds]=true):ds.length<=63:=by
 have h2:WTm.holds [] lw.pre {args:=[.list ds]}=true:=(Bool.and_eq_true_iff.mp h).2
 have e:WTm.holds [] lw.pre {args:=[.list ds]}=(fun b:Bool=>match(match(some (WData.bool (!b)):Option WData)with|some (.bool false)=>some (.bool false)|some (.bool true)=>some (WData.bool true)|_=>none:Option WData)with|some (.bool true)=>true|_=>false) (decide ((63:Int)<(ds.length:Nat))):=rfl
 rw[e]at h2
 by_cases q:(63:Int)<(ds.length:Nat)
 ·rw[decide_eq_true q]at h2;cases h2
 ·omega
theorem kf:lw.row.toRowW.promised:=⟨[.list [.int 3,.int 1]],by rfl',by rfl'⟩
theorem Dx:lw.row.toRowW.claim.prog.bare:=⟨rfl,rfl,rfl,rfl,rfl,by rfl'⟩
theorem yJ:opensWell lw.row.toRowW.claim.prog=true:=by rfl'
theorem HW:pW.theDef (Str.ofString "law")=some (fP (aR pW 136),fB (aR pW 136),fS (aR pW 136)):=by rfl'
theorem NE:K0.lookup 1254=some OL:=congrArg View.YL VV
theorem HX:iU K0 rA=some (.ref 1254):=congrArg View.main VV
theorem HY{h:Heap}(X:K0.In h):h.Ns mainGlobals (iU K0):=by
 have k:gK K0=true:=congrArg View.keys VV
 unfold gK at k
 split at k
 ·rename_i oc od es n sl ho
  have e:iU K0=fun x=>nsFind es x:=by funext x;unfold iU;rw[ho]
  rw[e]
  exact⟨_,es,n,X _ _ ho,rfl,fun e he=>oF (List.all_eq_true.mp k e (Array.mem_toList_iff.mpr he)),fun _=>rfl⟩
 ·exact ft k
theorem xa{h:Heap}(X:K0.In h):globalOf h rA=some (.ref 1254):=(Claim2Try.globalOf_of_ns (HY X) rA).trans HX
theorem HZ{h:Heap}(X:K0.In h):isTheDefsW pW h rA:=
 ⟨1254,_,_,_,_,_,xa X,X _ _ NE,rfl,HW,rfl,rfl,rfl,rfl,rfl,rfl,rfl,rfl,.inl ⟨by rfl',rfl⟩,[],by rfl',.inl ⟨rfl,rfl⟩⟩
theorem H0(xs:List Int){s:Shared}{v:Value}{Q:Value->Shared->Prop}{E:Value->Shared->Prop}(B:Bs s.heap)(hg:s.gens= #[])(r:ao s.heap.get? (.lst (xs.map T.int)) v)
  (hQ:∀s' :Shared,(∀b o,s.heap.get? b=some o->s'.heap.get? b=some o)->s'.os=s.os->s'.gens= #[]->Q (.bool true) s'):wpAny M0 callerA (call (.ref 1254) [v]) Q E s:=by
 have Rm:bu 30 [] callerA:=⟨rfl,rfl,rfl,by decide+kernel,by decide+kernel⟩
 let S:St []:= {B:=s.heap.get?,σ:=[],c:=[],ow:=fun _=>none,s:=s,base:=⟨s.heap,B,fun _ _ e=>e⟩,stay:=fun _ _ e=>e,kinds:=(fun _ h=>nomatch h),frames:=(fun _ h=>nomatch h),own:=(fun _ _ h=>nn h),len:=rfl,cells:=(fun _ _ _ e=>nn e),gens:=hg}
 refine wpAny_call ((Dp xs).spec [] callerA Rm [.t (.lst (cf xs))] [v] S (.cons r .nil) (fun u _=>match u with| .t (.bool true)=>some (.exc,[])|_=>none) (fun _=>none) (.exc,[]) Q E ?_ (fun u v' S' x i p=> ?_) fun _ _ _ _ e=>nn e)
 ·exact(vQ (ll _ _ _)).trans rfl
 ·have h:u= .t (.bool true):=by
   induction u with
   |loc j=>exact nn p
   |t y=>cases y with
    |bool b=>induction b with
     |true=>rfl
     |false=>exact nn p
    |_=>exact nn p
  subst h
  have i:v' = .bool true:=i
  subst i
  exact hQ S'.s (fun b o e=>x.cK b o rfl (fun q=>nomatch q) (fun q=>nomatch q) e) x.os S'.gens
theorem NF{args:List WData}(h:WShape.hasAll [] args [.list .int]=true):∃ds,args=[.list ds]/\WShape.hasItems [] ds .int=true:=
 (hasAllW_cons h).elim fun d h=>h.elim fun r h=>(hasW_list h.2.1).elim fun ds e=>⟨ds,by rw[h.1,e.1,hasAllW_nil h.2.2],e.2⟩
theorem H1{P:Params}{h:Heap}{ds:List WData}{vs:List Value}(w:WellAll P h vs [.list ds])(hi:WShape.hasItems [] ds .int=true)(hl:ds.length<=63):∃xs:List Int,∃v,ds=xs.map .int/\vs=[v]/\ao h.get? (.lst (xs.map T.int)) v:=
 (wellAll_cons_inv w).elim fun v w=>w.elim fun vs w=>(ND w.2.1).elim fun a l=>l.elim fun us l=>(yI hi l.2.2).elim fun xs r=>⟨xs,v,r.1,by rw[w.1,Jx w.2.2],by
  have hb:(xs.map T.int).length<=big:=by rw[r.1,List.length_map]at hl;rw[List.length_map];exact Nat.le_trans hl (by decide)
  rw[l.1]
  exact fun _ k=>k a us 0 l.2.1 hb r.2⟩
noncomputable abbrev lC:ClaimW:=lw.row.toRowW.claim
theorem Dy{s s₁ s' :Shared}{args:List WData}{vs:List Value}{as:List Addr}(L:Laid [] w0 s s₁ args vs as)(k:∀b o,s₁.heap.get? b=some o->s'.heap.get? b=some o)(ho:s'.os=s₁.os)(hg:s'.gens= #[]):lC.Ends s args vs s₁ (.ok (.ret (.bool true))) s' /\s'.os=s.os/\AllBare s'.gens:=
 GoodWG.laid (c:=lC) rfl rfl (ident_freeW rfl rfl rfl) L (GoodW.toG ⟨.inl ⟨_,.bool true,[],rfl,fun cls=>rfl,.bool true,(by rfl'),fun _=>⟨List.nodup_nil,fun a ha=>nomatch ha⟩⟩,k,ho,hg⟩)
theorem Dz{s s₁:Shared}{args:List WData}{vs:List Value}{as:List Addr}(G:s.heap.isNs mainGlobals=true)(B:Bs s.heap)(sV:lC.pre args=true)(L:Laid [] w0 s s₁ args vs as){Q:PySem.Fin->Shared->Prop}{E:Value->Shared->Prop}(hQ:∀s' :Shared,(lC.Ends s args vs s₁ (.ok (.ret (.bool true))) s' /\s'.os=s.os/\AllBare s'.gens)->Q (.done (.ret (.bool true))) s'):wpAny M0 callerA (callStub lw.row.name vs).cur Q E s₁:=by
 refine(NF (pre_splitW sV).1).elim fun ds h=> ?_
 rw[h.1]at sV
 refine(H1 (h.1▸L.well) h.2 (HV sV)).elim fun xs h2=>h2.elim fun v h2=> ?_
 have XG:s.heap.nsMap mainGlobals lw.row.toRowW.name=some (.ref 1254):=(Pin.globalOf_eq G rA).symm.trans (xa B.tM)
 refine wpAny_bind (wpAny_nsGet ((Heap.Ns.of_isNs G).keeps L.keeps) ?_)
 rw[XG,h2.2.1]
 exact wpAny_bind (H0 xs (B.up L.keeps) L.gens h2.2.2 fun s' k ho ZZ=>wpAny_pure (hQ s' (Dy L k ho ZZ)))
theorem H2:lw.row.Holds:=by
 refine JP yZ kf ⟨Dx,yJ,rfl⟩ kf.witness ⟨Dw.1,fun s' ki=>(Dw.2 s' ki).elim fun s₀ hf=>hf.2.elim fun s S=> ?_⟩
 refine⟨s₀,hf.1,S.fence,s,S.UQ,fun n hn=> ?_,(fun x hx=>nomatch hx),(fun x hx=>nomatch hx),?_⟩
 ·rw[List.mem_singleton.mp hn];exact HZ S.bs.tM
 ·refine ClaimW.callFrom_of_specG (c:=lC) S.asleep S.gens fun args sV XH ord TL=> ?_
  refine(Option.isSome_iff_exists.mp (layAllW_isSome (P:=w0.params) (ord:=ord) (R:=[]) (cl:=classAt s.heap) (fun c hc=>nomatch hc) args [.list .int] s (pre_splitW sV).1)).elim fun q tu=> ?_
  have YC:=layAllW_rest _ _ _ tu
  refine(reads_layAllW TL _ _ _ tu XH q.2.heap (fun _ _ e=>e)).elim fun as rd=> ?_
  refine⟨q.1,q.2,tu,?_⟩
  have L:Laid [] w0 s q.2 args q.1 as:=⟨⟨ord,TL,tu⟩,rd.1,rd.2.1,rd.2.2,layAllW_keeps _ _ _ tu,YC.1.trans S.gens,YC.2.2.1⟩
  exact Dz S.ZW S.bs sV L fun s' h=>⟨_,rfl,h.1,h.2.1,h.2.2,fun q=>nomatch q⟩
theorem law_holds:lw.Holds:=⟨y0,H2⟩
end
end Mine
theorem PySem.Challenge.cw_nn0090_01_holds : PySem.Challenge.rw_nn0090_01.Holds :=
 Mine.law_holds
