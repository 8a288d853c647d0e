import PyProof.Rows.All
import Wide.All
import Open.Line
import Open.Pieces
import OpenK.AllK
import Lean
import PySem.Challenge.RW_hb0003_01
set_option Elab.async false
set_option maxRecDepth 1000000
set_option maxHeartbeats 0
set_option linter.all false
set_option genInjectivity false
set_option genSizeOf false
set_option backward.match.sparseCases false
set_option bootstrap.genMatcherCode false
noncomputable section
namespace Mine
section
open PySem PySem.W
abbrev PExpr:=PySem.Expr
noncomputable def mH:Scope:={kind:=.module,names:=[],isGenerator:=false,isCoroutine:=false}
structure EVw where
 es:List PExpr
 p:Pos
 k:Nat
 sc:Scope
 os:List (Option PExpr)
noncomputable def Eb:List Comprehension->List PExpr
 |[⟨t,i,f,_⟩]=>t::i::f
 |_=>[]
noncomputable def ev:PExpr->EVw
 |.BoolOp _ es p=>⟨es,p,0,mH,[]⟩
 |.Compare l _ rs p=>⟨l::rs,p,0,mH,[]⟩
 |.ListComp e gs s p=>⟨e::Eb gs,p,0,s,[]⟩
 |.Tuple es k p=>⟨es,p,k,mH,[]⟩
 |.Attribute o _ p=>⟨[o],p,0,mH,[]⟩
 |.Name _ p=>⟨[],p,0,mH,[]⟩
 |.Constant _ k p=>⟨[],p,k,mH,[]⟩
 |.Subscript o i p=>⟨[o,i],p,0,mH,[]⟩
 |.Slice lo hi _ p=>⟨[],p,0,mH,[lo,hi]⟩
 |.Call f as _ p=>⟨f::as,p,0,mH,[]⟩
 |.BinOp l _ r p=>⟨[l,r],p,0,mH,[]⟩
 |.IfExp t a b p=>⟨[a,b,t],p,0,mH,[]⟩
 |.List es p=>⟨es,p,0,mH,[]⟩
 |.Dict ks es p=>⟨es,p,0,mH,ks⟩
 |_=>⟨[],default,0,mH,[]⟩
noncomputable def nE (l:List PExpr) (n:Nat):PExpr:=match l,n with
 |[],_=>.Constant .none 0 default
 |x::_,0=>x
 |_::r,n+1=>nE r n
noncomputable def nO (l:List (Option PExpr)) (n:Nat):PExpr:=match l,n with
 |[],_=>.Constant .none 0 default
 |x::_,0=>x.getD (.Constant .none 0 default)
 |_::r,n+1=>nO r n
noncomputable def eX (n:Nat) (e:PExpr):PExpr:=nE (ev e).es n
structure SVw where
 es:List PExpr
 bs:List (List Stmt)
 p:Pos
 nm:Str
 ar:Arguments
 sc:Scope
noncomputable def Dh:Arguments:=⟨[],[],none,[],[],none,[]⟩
noncomputable def sv:Stmt->SVw
 |.Assign ts e p=>⟨e::ts,[],p,Str.empty,Dh,mH⟩
 |.If t a b p=>⟨[t],[a,b],p,Str.empty,Dh,mH⟩
 |.Return o p=>⟨o.toList,[],p,Str.empty,Dh,mH⟩
 |.For t i b els p=>⟨[t,i],[b,els],p,Str.empty,Dh,mH⟩
 |.FunctionDef n a b _ _ _ s ..=>⟨[],[b],default,n,a,s⟩
 |.ClassDef _ _ _ b ..=>⟨[],[b],default,Str.empty,Dh,mH⟩
 |_=>⟨[],[],default,Str.empty,Dh,mH⟩
noncomputable def sX (n:Nat) (s:Stmt):PExpr:=nE (sv s).es n
noncomputable def bX (n:Nat) (s:Stmt):List Stmt:=((sv s).bs.drop n).headD []
inductive Bi where
 |len|range|tuple|str|list
inductive SV where
 |none|bool (b:Bool)|int (i:Int)|sym (x:Nat) (k:Int)|str (s:Str)|ref (n:Nat)|top (a:Nat)|bi (b:Bi)|ss (x:Nat)|any
 deriving Inhabited
inductive SK1 where
 |a (v:SV)|t (vs:List SV)
abbrev SK:=List SK1
inductive SO where
 |inst (C d:Nat)
 |sd (es:List (Str×SV))
 |idt (es:List (SV×SV))
 |hd (o:Nat) (es:List (SK×SV))
 |tup (xs:List SV)
 |lst (o:Nat) (xs:List SV)
 |cell (v:Option SV)
 |rng (hi:Int)
 |tab (o:Nat) (es:List (SV×SV)) (xs:List SV)
 |ks (es:List (SV×SV))
 |ki (es:List (SV×SV))
inductive Tr where
 |nil
 |node (v:SO) (l r:Tr)
namespace Tr
noncomputable def get:Tr->Nat->Option SO
 |.nil,_=>none
 |.node v l r,i=>match Nat.beq i 0 with
  |true=>some v
  |false=>match Nat.beq (i %2) 1 with
   |true=>l.get (i/2)
   |false=>r.get (i/2 -1)
noncomputable def put:Tr->Nat->SO->Tr
 |.nil,i,o=>match Nat.beq i 0 with
  |true=>.node o .nil .nil
  |false=>.nil
 |.node v l r,i,o=>match Nat.beq i 0 with
  |true=>.node o l r
  |false=>match Nat.beq (i %2) 1 with
   |true=>.node v (l.put (i/2) o) r
   |false=>.node v l (r.put (i/2 -1) o)
end Tr
structure St where
 next:Nat
 hp:Tr
 loc:List (Str×SV)
structure FC where
 names:List (Str×NameKind)
 cells:List (Str×Nat)
inductive Fl where
 |next|ret (v:SV)
structure Cx where
 gl:Str->Option SV
 fn:Nat->Option FuncData
 cls:Nat->Bool
 meth:Nat->Str->Option Nat
 own:Nat->Str->Bool
 tdict:Nat->Option (List (SV×SV))
 take:Nat
 inq:List (Nat×SK×Bool)
 dq:List (Nat×SK×Option SV)
 din:List (Nat×SK×Bool)
 draws:List (SV×Int×SV)
noncomputable def lB:List Nat->List Nat->Bool
 |[],[]=>true
 |a::x,b::y=>match Nat.beq a b with
  |true=>lB x y
  |false=>false
 |_,_=>false
noncomputable def cq (a b:Str):Bool:=lB a.cps.toList b.cps.toList
noncomputable def d7 (a b:Int):Bool:=match a,b with
 |.ofNat m,.ofNat n=>Nat.beq m n
 |.negSucc m,.negSucc n=>Nat.beq m n
 |_,_=>false
noncomputable def bE {α:Type}:List (Str×α)->Str->Option α
 |[],_=>none
 |(y,v)::r,x=>match cq y x with
  |true=>some v
  |false=>bE r x
noncomputable def cr {α:Type}:List (Str×α)->Str->α->List (Str×α)
 |[],x,v=>[(x,v)]
 |(y,u)::r,x,v=>match cq y x with
  |true=>(y,v)::r
  |false=>(y,u)::cr r x v
noncomputable def bF {α:Type}:List (Nat×α)->Nat->Option α
 |[],_=>none
 |(y,v)::r,x=>match Nat.beq y x with
  |true=>some v
  |false=>bF r x
noncomputable def mS (a b:Int):Bool:=match a,b with
 |.ofNat m,.ofNat n=>Nat.ble m n
 |.ofNat _,.negSucc _=>false
 |.negSucc _,.ofNat _=>true
 |.negSucc m,.negSucc n=>Nat.ble n m
noncomputable def zj (x:Nat):Option (Int×Int):=match Nat.beq x 5000 with
 |true=>some (64,66)
 |false=>match Nat.beq x 5001 with
  |true=>some (17,19)
  |false=>match Nat.beq x 1020 with
   |true=>some (20,21)
   |false=>match Nat.beq x 5005 with
    |true=>some (2,3)
    |false=>none
noncomputable def zW (x:Nat) (k i:Int):Option Bool:=match zj x with
 |some (lo,hi)=>match mS (lo+k) i&&mS i (hi+k)with
  |true=>none
  |false=>some false
 |none=>none
noncomputable def one (s:Str):Bool:=match s.cps.toList with
 |[_]=>true
 |_=>false
noncomputable def zV (s:Str):Option Bool:=match one s with
 |true=>none
 |false=>some false
noncomputable def yB (x y:Nat) (k l:Int):Option Bool:=match Nat.beq x y with
 |true=>some (d7 k l)
 |false=>none
noncomputable def CL (x y:Nat):Option Bool:=match Nat.beq x y with
 |true=>some true
 |false=>none
noncomputable def dg:SV->Bool
 |.int _|.sym _ _=>true
 |_=>false
noncomputable def eB:SV->Bool
 |.str _|.ss _=>true
 |_=>false
noncomputable def CM (a b:SV):Option Bool:=match a with
 |.int i=>match b with
  |.int j=>some (d7 i j)
  |.sym x k=>zW x k i
  |_=>none
 |.sym x k=>match b with
  |.int i=>zW x k i
  |.sym y l=>yB x y k l
  |_=>none
 |_=>none
noncomputable def CK (a b:SV):Option Bool:=match a with
 |.str s=>match b with
  |.str t=>some (cq s t)
  |.ss _=>zV s
  |_=>none
 |.ss x=>match b with
  |.str s=>zV s
  |.ss y=>CL x y
  |_=>none
 |_=>none
noncomputable def tO (a b:SV):Option Bool:=match dg a&&dg b with
 |true=>CM a b
 |false=>match eB a&&eB b with
  |true=>CK a b
  |false=>match(dg a&&eB b)||(eB a&&dg b)with
   |true=>some false
   |false=>none
noncomputable def cj:SV->SV->Bool
 |.int i,.int j=>d7 i j
 |.sym x k,.sym y l=>Nat.beq x y&&d7 k l
 |.str s,.str t=>cq s t
 |.none,.none=>true
 |.ss x,.ss y=>Nat.beq x y
 |_,_=>false
noncomputable def sD:List SV->List SV->Bool
 |[],[]=>true
 |a::x,b::y=>match cj a b with
  |true=>sD x y
  |false=>false
 |_,_=>false
noncomputable def ff:SK->SK->Bool
 |[],[]=>true
 |.a u::x,.a v::y=>match cj u v with
  |true=>ff x y
  |false=>false
 |.t u::x,.t v::y=>match sD u v with
  |true=>ff x y
  |false=>false
 |_,_=>false
noncomputable def AA:List SV->List SV->Option Bool
 |[],[]=>some true
 |a::x,b::y=>match tO a b with
  |some true=>AA x y
  |some false=>some false
  |none=>match AA x y with
   |some false=>some false
   |_=>none
 |_,_=>some false
noncomputable def Br:SK->SK->Option Bool
 |[],[]=>some true
 |.a u::x,.a v::y=>match tO u v with
  |some true=>Br x y
  |some false=>some false
  |none=>match Br x y with
   |some false=>some false
   |_=>none
 |.t u::x,.t v::y=>match AA u v with
  |some true=>Br x y
  |some false=>some false
  |none=>match Br x y with
   |some false=>some false
   |_=>none
 |.a _::_,.t _::_=>some false
 |.t _::_,.a _::_=>some false
 |_,_=>some false
noncomputable def d6:SV->Bool
 |.int _|.sym _ _|.str _|.ss _=>true
 |_=>false
noncomputable def fA:List SV->Bool
 |[]=>true
 |v::r=>match d6 v with
  |true=>fA r
  |false=>false
noncomputable def iE (h:Tr):List SV->Option SK
 |[]=>some []
 |.ref n::r=>match h.get n with
  |some (.tup vs)=>match fA vs with
   |true=>(iE h r).map (SK1.t vs::·)
   |false=>none
  |_=>none
 |v::r=>match d6 v with
  |true=>(iE h r).map (SK1.a v::·)
  |false=>none
noncomputable def ma (h:Tr):SV->Option SK
 |.ref n=>match h.get n with
  |some (.tup vs)=>iE h vs
  |_=>none
 |_=>none
noncomputable def St.new (S:St) (o:SO):SV×St:=(.ref S.next,{S with next:=S.next+1,hp:=S.hp.put S.next o})
noncomputable def St.set (S:St) (n:Nat) (o:SO):St:={S with hp:=S.hp.put n o}
noncomputable def qc (s:Str):Bool:=match s.cps.toList with
 |[]=>true
 |_=>false
noncomputable def truthy (S:St):SV->Option Bool
 |.bool b=>some b
 |.int i=>some (!d7 i 0)
 |.sym x k=>match zj x with
  |some (lo,_)=>match mS 1 (lo+k)with
   |true=>some true
   |false=>none
  |none=>none
 |.str s=>match Nat.ble s.cps.size 4096 with
  |true=>some (!qc s)
  |false=>none
 |.ref n=>match S.hp.get n with
  |some (.lst o xs)=>match xs with
   |_::_=>some true
   |[]=>match Nat.beq o 0 with
    |true=>some false
    |false=>none
  |_=>none
 |_=>none
noncomputable def ve (v:SV):List SV->Option Bool
 |[]=>some false
 |x::r=>match tO x v,ve v r with
  |some t,some u=>some (t||u)
  |_,_=>none
noncomputable def gY (o:Nat) (k:SK):List (Nat×SK×Bool)->Option Bool
 |[]=>none
 |(o',k',b)::r=>match Nat.beq o' o&&ff k' k with
  |true=>some b
  |false=>gY o k r
noncomputable def m8 (o:Nat) (k:SK):List (Nat×SK×Option SV)->Option (Option SV)
 |[]=>none
 |(o',k',b)::r=>match Nat.beq o' o&&ff k' k with
  |true=>some b
  |false=>m8 o k r
noncomputable def i7 (k:SK):List (SK×SV)->Option (Option SV)
 |[]=>some none
 |(k',v)::r=>match Br k' k with
  |some true=>some (some v)
  |some false=>i7 k r
  |none=>none
noncomputable def Bl (X:Cx) (o:Nat) (es:List (SK×SV)) (k:SK):Option (Option SV):=match i7 k es with
 |some (some v)=>some (some v)
 |some none=>match Nat.beq o 0 with
  |true=>some none
  |false=>m8 o k X.dq
 |none=>none
noncomputable def qx (es:List (SV×SV)) (k:SV):Option (Option SV):=match es with
 |[]=>some none
 |(y,v)::r=>match tO y k with
  |some true=>some (some v)
  |some false=>qx r k
  |none=>none
noncomputable def D0 (es:List (SV×SV)) (k:SV):Option SV:=match es with
 |[]=>none
 |(y,v)::r=>match cj y k with
  |true=>some v
  |false=>D0 r k
noncomputable def B5 (es:List (SV×SV)) (k v:SV):Option (List (SV×SV)):=match es with
 |[]=>some [(k,v)]
 |(y,u)::r=>match tO y k with
  |some true=>some ((y,v)::r)
  |some false=>match B5 r k v with
   |some l=>some ((y,u)::l)
   |none=>none
  |none=>none
noncomputable def nilE {α:Type}:List α->Bool
 |[]=>true
 |_=>false
noncomputable def ji (h:Tr) (es:List (Str×SV)) (k:SV):Option (Option SV):=match k with
 |.str s=>some (bE es s)
 |k=>match dg k&&nilE es with
  |true=>some none
  |false=>none
noncomputable def Al:List (SV×SV)->Bool
 |(.str _,_)::_=>true
 |_=>false
noncomputable def Am:List (SV×SV)->Bool
 |(.int _,_)::_=>true
 |_=>false
noncomputable def uk (es:List (SV×SV)) (k:SV):Option (Option SV):=match eB k with
 |true=>match Al es with
  |true=>qx es k
  |false=>none
 |false=>match dg k&&Am es with
  |true=>qx es k
  |false=>none
noncomputable def bP (X:Cx) (S:St) (d k:SV):Option (Option SV):=match d with
 |.top a=>match X.tdict a with
  |some es=>uk es k
  |none=>none
 |.ref n=>match S.hp.get n with
  |some (.sd es)=>ji S.hp es k
  |some (.idt es)=>match dg k with
   |true=>qx es k
   |false=>none
  |some (.hd o es)=>match ma S.hp k with
   |some sk=>Bl X o es sk
   |none=>none
  |some (.ks es)=>match eB k with
   |true=>(D0 es k).map some
   |false=>none
  |some (.ki es)=>match dg k with
   |true=>(D0 es k).map some
   |false=>none
  |_=>none
 |_=>none
noncomputable def qu (c:Nat):List Nat->Bool
 |[]=>false
 |x::r=>match Nat.beq x c with
  |true=>true
  |false=>qu c r
noncomputable def contains (X:Cx) (S:St) (v c:SV):Option Bool:=match c with
 |.str t=>match v with
  |.str s=>match s.cps.toList with
   |[n]=>some (qu n t.cps.toList)
   |_=>none
  |_=>none
 |.top _=>(bP X S c v).map (·.isSome)
 |.ref n=>match S.hp.get n with
  |some (.tup xs)=>match d6 v with
   |true=>ve v xs
   |false=>none
  |some (.lst o xs)=>match Nat.beq o 0 with
   |true=>match xs with
    |[]=>some false
    |_=>match d6 v with
     |true=>ve v xs
     |false=>none
   |false=>match xs,ma S.hp v with
    |[],some sk=>gY o sk X.inq
    |_,_=>none
  |some (.hd o es)=>match ma S.hp v with
   |some sk=>match i7 sk es with
    |some (some _)=>some true
    |some none=>match Nat.beq o 0 with
     |true=>some false
     |false=>gY o sk X.din
    |none=>none
   |none=>none
  |_=>(bP X S c v).map (·.isSome)
 |_=>none
noncomputable def C4:SV->Option (Int×Int)
 |.int i=>some (i,i)
 |.sym x k=>match zj x with
  |some (lo,hi)=>some (lo+k,hi+k)
  |none=>none
 |_=>none
noncomputable def EL (a b:SV):Option Bool:=match C4 a,C4 b with
 |some (l1,h1),some (l2,h2)=>match mS l2 h1 with
  |false=>some true
  |true=>match mS h2 l1 with
   |true=>some false
   |false=>none
 |_,_=>none
noncomputable def EN (a b:SV):Option Bool:=match C4 a,C4 b with
 |some (l1,h1),some (l2,h2)=>match mS h1 l2 with
  |true=>some true
  |false=>match mS l1 h2 with
   |false=>some false
   |true=>none
 |_,_=>none
noncomputable def Fm (op:CmpOp) (a b:SV):Option Bool:=match op with
 |.Lt=>EL a b
 |.LtE=>EN a b
 |.Gt=>EL b a
 |.GtE=>EN b a
 |_=>none
noncomputable def isNone:SV->Option Bool
 |.none=>some true
 |.ref _|.top _|.str _|.int _|.ss _=>some false
 |_=>none
noncomputable def A4 (a b:SV):Bool:=(dg a&&dg b)||(eB a&&eB b)
noncomputable def yO (X:Cx) (S:St) (op:CmpOp) (a b:SV):Option Bool:=match op with
 |.Eq=>tO a b
 |.NotEq=>match A4 a b with
  |true=>(tO a b).map (!·)
  |false=>none
 |.In=>contains X S a b
 |.NotIn=>(contains X S a b).map (!·)
 |.Is=>match b with
  |.none=>isNone a
  |_=>none
 |.IsNot=>match b with
  |.none=>(isNone a).map (!·)
  |_=>none
 |op=>Fm op a b
noncomputable def FN (a b:Int):Option Int:=some (Builtin.bitOr a b)
noncomputable def Fx (a b:Int):Option Int:=some (Builtin.bitAnd a b)
noncomputable def small {α:Type} (xs:List α):Bool:=Nat.ble xs.length 4096
noncomputable def C6 (S:St) (xs:List SV):Option (SV×St):=match small xs with
 |true=>some (S.new (.tup xs))
 |false=>none
noncomputable def DV (S:St) (xs:List SV):Option (SV×St):=match small xs with
 |true=>some (S.new (.lst 0 xs))
 |false=>none
noncomputable def C5 (n:Nat) (xs:List SV):List SV:=match n with
 |0=>[]
 |n+1=>xs++C5 n xs
noncomputable def ru (i:Int):Bool:=match i with
 |.ofNat n=>Nat.ble n 1000000
 |.negSucc n=>Nat.ble n 1000000
noncomputable def yV (S:St) (op:Operator) (a b:SV):Option (SV×St):=match op with
 |.Add=>match a,b with
  |.int i,.int j=>some (.int (i+j),S)
  |.int i,.sym x k=>some (.sym x (i+k),S)
  |.sym x k,.int j=>some (.sym x (k+j),S)
  |.str s,.str t=>match Nat.ble s.cps.size 4096&&Nat.ble t.cps.size 4096 with
   |true=>some (.str (s++t),S)
   |false=>none
  |.ref m,.ref n=>match S.hp.get m,S.hp.get n with
   |some (.tup xs),some (.tup ys)=>match nilE xs||nilE ys with
    |false=>C6 S (xs++ys)
    |true=>none
   |_,_=>none
  |_,_=>none
 |.Mult=>match a,b with
  |.int i,.int j=>match ru i&&ru j with
   |true=>some (.int (i*j),S)
   |false=>none
  |.ref m,.int (.ofNat k)=>match S.hp.get m with
   |some (.lst 0 [x])=>DV S (C5 k [x])
   |some (.tup [x])=>match k with
    |1=>some (.ref m,S)
    |k=>C6 S (C5 k [x])
   |_=>none
  |_,_=>none
 |.Mod=>match a,b with
  |.int (.ofNat m),.int (.ofNat n)=>match n with
   |0=>none
   |_=>some (.int (.ofNat (m %n)),S)
  |_,_=>none
 |.BitOr=>match a,b with
  |.int i,.int j=>(FN i j).map λk=>(.int k,S)
  |_,_=>none
 |.BitAnd=>match a,b with
  |.int i,.int j=>(Fx i j).map λk=>(.int k,S)
  |_,_=>none
 |_=>none
noncomputable def yW (op:Operator) (a b:SV):Option SV:=match op with
 |.Add=>match a,b with
  |.sym x k,.int j=>some (.sym x (k+j))
  |_,_=>none
 |.BitOr=>match a,b with
  |.int i,.int j=>(FN i j).map .int
  |_,_=>none
 |_=>none
noncomputable def Dt (S:St) (op:UnaryOp) (a:SV):Option SV:=match op with
 |.USub=>match a with
  |.int i=>some (.int (-i))
  |_=>none
 |.Invert=>match a with
  |.int i=>some (.int (-i -1))
  |_=>none
 |_=>none
noncomputable def xF (S:St):SV->Option SV
 |.ref n=>match S.hp.get n with
  |some (.lst o xs)=>match Nat.beq o 0 with
   |true=>some (.int (.ofNat xs.length))
   |false=>some (.sym (1000+o) (.ofNat xs.length))
  |some (.tup xs)=>some (.int (.ofNat xs.length))
  |some (.tab o _ xs)=>some (.sym (1000+o) (.ofNat xs.length))
  |_=>none
 |_=>none
noncomputable def nth {α:Type}:List α->Nat->Option α
 |[],_=>none
 |x::r,n=>match n with
  |0=>some x
  |n+1=>nth r n
noncomputable def qj (o:Nat):SV->Option Nat
 |.int (.ofNat i)=>match Nat.beq o 0 with
  |true=>some i
  |false=>none
 |.sym x (.ofNat k)=>match Nat.beq o 0,Nat.beq x (1000+o)with
  |false,true=>some k
  |_,_=>none
 |_=>none
noncomputable def yP (x:Nat):List Nat:=match Nat.beq x 5006 with
 |true=>[0,1]
 |false=>match Nat.beq x 5007 with
  |true=>[0,3]
  |false=>[]
noncomputable def zc (xs:List SV) (v:SV):List Nat->Bool
 |[]=>true
 |j::r=>match nth xs j with
  |some u=>match cj u v with
   |true=>zc xs v r
   |false=>false
  |none=>false
noncomputable def zb (xs:List SV):List Nat->Option SV
 |[]=>none
 |j::r=>match nth xs j with
  |some v=>match zc xs v (j::r)with
   |true=>some v
   |false=>none
  |none=>none
noncomputable def item (X:Cx) (S:St) (o k:SV):Option SV:=match o with
 |.str s=>match k with
  |.int (.ofNat i)=>match Nat.ble i 4096 with
   |true=>(nth s.cps.toList i).map λc=>.str ⟨⟨[c]⟩⟩
   |false=>none
  |_=>none
 |.ref n=>match S.hp.get n with
  |some (.tup xs)=>match k with
   |.int (.ofNat i)=>nth xs i
   |.sym x (.ofNat 0)=>zb xs (yP x)
   |_=>none
  |some (.lst o xs)=>match qj o k with
   |some i=>nth xs i
   |none=>none
  |some (.tab _ es _)=>D0 es k
  |_=>match bP X S o k with
   |some (some v)=>some v
   |_=>none
 |_=>none
noncomputable def cut (S:St) (o:SV) (lo hi:SV):Option (SV×St):=match o with
 |.ref n=>match S.hp.get n with
  |some (.tup xs)=>match lo,hi with
   |.int (.ofNat i),.none=>match Nat.ble 1 i&&Nat.ble i xs.length with
    |true=>some (S.new (.tup (xs.drop i)))
    |false=>none
   |_,_=>none
  |some (.lst o xs)=>match hi with
   |.none=>match qj o lo with
    |some i=>match Nat.ble i xs.length with
     |true=>some (S.new (.lst 0 (xs.drop i)))
     |false=>none
    |none=>none
   |.int (.ofNat j)=>match lo with
    |.none=>match Nat.beq o 0 with
     |true=>some (S.new (.lst 0 (xs.take j)))
     |false=>none
    |_=>none
   |_=>none
  |_=>none
 |_=>none
noncomputable def mG (S:St) (n:Nat) (es:List (Str×SV)) (k v:SV):Option St:=match k with
 |.str s=>match small es with
  |true=>some (S.set n (.sd (cr es s v)))
  |false=>none
 |.ref _=>match es,ma S.hp k with
  |[],some sk=>some (S.set n (.hd 0 [(sk,v)]))
  |_,_=>none
 |k=>match dg k&&nilE es with
  |true=>some (S.set n (.idt [(k,v)]))
  |false=>none
noncomputable def sA (S:St) (n:Nat) (es:List (SV×SV)) (k v:SV):Option St:=match dg k&&small es with
 |true=>match B5 es k v with
  |some l=>some (S.set n (.idt l))
  |none=>none
 |false=>none
noncomputable def wP (S:St) (n o:Nat) (es:List (SK×SV)) (k v:SV):Option St:=match ma S.hp k with
 |some sk=>match i7 sk es with
  |some none=>match small es with
   |true=>some (S.set n (.hd o (es++[(sk,v)])))
   |false=>none
  |_=>none
 |none=>none
noncomputable def setItem (X:Cx) (S:St) (o k v:SV):Option St:=match o with
 |.ref n=>match S.hp.get n with
  |some (.sd es)=>mG S n es k v
  |some (.idt es)=>sA S n es k v
  |some (.hd o es)=>wP S n o es k v
  |_=>none
 |_=>none
noncomputable def sB (S:St) (o lo v:SV):Option St:=match o,v with
 |.ref n,.ref m=>match S.hp.get n,S.hp.get m with
  |some (.lst o xs),some (.lst 0 ys)=>match qj o lo with
   |some i=>match Nat.ble i xs.length with
    |true=>match small (xs.take i++ys)with
     |true=>some (S.set n (.lst o (xs.take i++ys)))
     |false=>none
    |false=>none
   |none=>none
  |_,_=>none
 |_,_=>none
noncomputable def CX (X:Cx) (S:St) (o:SV) (a:Str):Option SV:=match o with
 |.ref n=>match S.hp.get n with
  |some (.inst C d)=>match X.own C a with
   |true=>match S.hp.get d with
    |some (.sd es)=>bE es a
    |_=>none
   |false=>none
  |_=>none
 |_=>none
noncomputable def kP (X:Cx) (S:St) (o:SV) (a:Str) (v:SV):Option St:=match o with
 |.ref n=>match S.hp.get n with
  |some (.inst C d)=>match X.own C a with
   |true=>match S.hp.get d with
    |some (.sd es)=>match small es with
     |true=>some (S.set d (.sd (cr es a v)))
     |false=>none
    |_=>none
   |false=>none
  |_=>none
 |_=>none
noncomputable def Ch (x:Str):Bool:=match x.cps.toList with
 |95::95::_=>false
 |_=>true
noncomputable def lj (X:Cx) (fc:FC) (S:St) (x:Str):Option SV:=match Ch x with
 |false=>none
 |true=>match bE fc.names x with
  |some .local=>bE S.loc x
  |some .cell|some .free=>match bE fc.cells x with
   |some n=>match S.hp.get n with
    |some (.cell v)=>v
    |_=>none
   |none=>none
  |some .globalImplicit=>X.gl x
  |_=>none
noncomputable def di (fc:FC) (S:St) (x:Str) (v:SV):Option St:=match bE fc.names x with
 |some .local=>some {S with loc:=cr S.loc x v}
 |some .cell=>match bE fc.cells x with
  |some n=>match S.hp.get n with
   |some (.cell _)=>some (S.set n (.cell (some v)))
   |_=>none
  |none=>none
 |_=>none
noncomputable def eM:PExpr->Bool
 |.Starred _ _=>false
 |_=>true
noncomputable def sU:PExpr->Bool
 |.Attribute ..=>true
 |_=>false
noncomputable def iL:PExpr->Bool
 |.Slice ..=>false
 |_=>true
structure Lv where
 ex:FC->PExpr->St->Option (SV×St)
 ts:FC->PExpr->St->Option (Bool×St)
 st:FC->Stmt->St->Option (Fl×St)
 sts:FC->List Stmt->St->Option (Fl×St)
 call:Nat->List SV->St->Option (SV×St)
 fors:FC->PExpr->SV->Nat->List Stmt->St->Option (Fl×St)
 comp:FC->FC->PExpr->List PExpr->PExpr->SV->Nat->Nat->St->Option St
 whl:FC->PExpr->List Stmt->St->Option (Fl×St)
section
variable(X:Cx) (lv:Lv)
noncomputable def rx (fc:FC):List PExpr->St->Option (List SV×St)
 |[],S=>some ([],S)
 |e::r,S=>match eM e with
  |true=>match lv.ex fc e S with
   |some (v,S1)=>match rx fc r S1 with
    |some (vs,S2)=>some (v::vs,S2)
    |none=>none
   |none=>none
  |false=>none
noncomputable def u8 (fc:FC) (op:BoolOp):List PExpr->St->Option (SV×St)
 |[],_=>none
 |[e],S=>lv.ex fc e S
 |e::r,S=>match lv.ex fc e S with
  |some (v,S1)=>match truthy S1 v with
   |some t=>match op,t with
    |.And,false=>some (v,S1)
    |.Or,true=>some (v,S1)
    |_,_=>u8 fc op r S1
   |none=>none
  |none=>none
noncomputable def CY (fc:FC) (op:BoolOp):List PExpr->St->Option (Bool×St)
 |[],S=>some (match op with|.And=>true|.Or=>false,S)
 |e::r,S=>match lv.ts fc e S with
  |some (t,S1)=>match op,t with
   |.And,false=>some (false,S1)
   |.Or,true=>some (true,S1)
   |_,_=>CY fc op r S1
  |none=>none
noncomputable def dicts (fc:FC):List (Option PExpr)->List PExpr->St->Option (List (SV×SV)×St)
 |[],[],S=>some ([],S)
 |some k::ks,e::es,S=>match lv.ex fc k S with
  |some (kv,S1)=>match lv.ex fc e S1 with
   |some (v,S2)=>match dicts fc ks es S2 with
    |some (r,S3)=>some ((kv,v)::r,S3)
    |none=>none
   |none=>none
  |none=>none
 |_,_,_=>none
noncomputable def jk (S:St) (d:SV):List (SV×SV)->Option St
 |[]=>some S
 |(k,v)::r=>match setItem X S d k v with
  |some S1=>jk S1 d r
  |none=>none
noncomputable def cK:List (Str×NameKind)->St->List (Str×Nat)->St×List (Str×Nat)
 |[],S,cs=>(S,cs)
 |(x,k)::r,S,cs=>match k with
  |.cell=>cK r {S with next:=S.next+1,hp:=S.hp.put S.next (.cell none)} ((x,S.next)::cs)
  |_=>cK r S cs
noncomputable def eG (fc:FC):List (Str×SV)->St->Option St
 |[],S=>some S
 |(x,v)::r,S=>match di fc S x v with
  |some S1=>eG fc r S1
  |none=>none
noncomputable def eu:List Arg->List SV->Option (List (Str×SV))
 |[],[]=>some []
 |a::r,v::vs=>(eu r vs).map ((a.arg,v)::·)
 |_,_=>none
noncomputable def cR (p:Arguments):Bool:=match p.posonlyargs,p.vararg,p.kwonlyargs,p.kwarg with
 |[],none,[],none=>true
 |_,_,_,_=>false
noncomputable def cu:Str:=⟨⟨[97,116]⟩⟩
noncomputable def gU:Str:=⟨⟨[105,110]⟩⟩
noncomputable def isIn (S:St) (es:List (Str×SV)):Bool:=match bE es gU with
 |some (.ref l)=>match S.hp.get l with
  |some (.lst o xs)=>Nat.beq o 1&&nilE xs
  |_=>false
 |_=>false
noncomputable def AZ:SV->Option SV
 |.int i=>some (.int (i+1))
 |.sym y i=>some (.sym y (i+1))
 |_=>none
noncomputable def drawn (k:SV) (n:Int):List (SV×Int×SV)->Option SV
 |[]=>none
 |(k',n',v)::r=>match cj k' k&&d7 n' n with
  |true=>some v
  |false=>drawn k n r
noncomputable def m9:List Int:=[1,0,1,0,0,4,2,0,0,0,1,0,0,0,1,1,1,0,3,0,1,1,0,2,2,1,0,0,3,2,1,0,0,1,0,0,2]
noncomputable def gx:List SV:=m9.map .int
noncomputable def kL (S:St) (w:SV) (n:Int):Option (SV×St):=match w with
 |.ref m=>match S.hp.get m with
  |some (.sd es)=>match isIn S es&&small es,bE es cu with
   |true,some k=>match drawn k n X.draws,AZ k with
    |some v,some k'=>
     let S':=((S.set m (.sd (cr es cu k'))).new (.tup gx)).2
     match S'.hp.get S.next with
     |some _=>some (v,S')
     |none=>none
    |_,_=>none
   |_,_=>none
  |_=>none
 |_=>none
noncomputable def fY (lc:Lv) (a:Nat) (vs:List SV) (S:St):Option (SV×St):=match X.fn a with
 |some f=>match cR f.params,f.scope.isGenerator,eu f.params.args vs with
  |true,false,some binds=>match cK f.scope.names {S with loc:=[]} []with
   |(S1,cs)=>match eG ⟨f.scope.names,cs⟩ binds S1 with
    |some S2=>match f.body with
     |.stmts b=>match lc.sts ⟨f.scope.names,cs⟩ b S2 with
      |some (.ret v,S3)=>some (v,{S3 with loc:=S.loc})
      |some (.next,S3)=>some (.none,{S3 with loc:=S.loc})
      |_=>none
     |.expr _=>none
    |none=>none
  |_,_,_=>none
 |none=>none
noncomputable def xP:Str:=⟨⟨[95,95,105,110,105,116,95,95]⟩⟩
noncomputable def jc (lc:Lv) (a:Nat) (vs:List SV) (S:St):Option (SV×St):=match Nat.beq a X.take with
 |true=>match vs with
  |[w,.int n]=>kL X S w n
  |_=>none
 |false=>match X.cls a with
  |true=>match X.meth a xP with
   |some f=>
    let d:=S.next
    let S1:St:={S with next:=d+2,hp:=(S.hp.put d (.sd [])).put (d+1) (.inst a d)}
    match fY X lc f (.ref (d+1)::vs) S1 with
    |some (.none,S2)=>some (.ref (d+1),S2)
    |_=>none
   |none=>none
  |false=>fY X lc a vs S
noncomputable def uH (n:Nat):Option Str:=match n with
 |0=>some ⟨⟨[48]⟩⟩|1=>some ⟨⟨[49]⟩⟩|16=>some ⟨⟨[49,54]⟩⟩
 |_=>none
noncomputable def rK (b:Bi) (vs:List SV) (S:St):Option (SV×St):=match b,vs with
 |.len,[v]=>(xF S v).map λr=>(r,S)
 |.range,[.int i]=>match mS (-100000) i&&mS i 100000 with
  |true=>some (S.new (.rng i))
  |false=>none
 |.tuple,[.ref n]=>match S.hp.get n with
  |some (.lst 0 xs)=>some (S.new (.tup xs))
  |some (.tup xs)=>some (.ref n,S)
  |_=>none
 |.list,[.ref n]=>match S.hp.get n with
  |some (.tup xs)=>some (S.new (.lst 0 xs))
  |_=>none
 |.str,[.int (.ofNat i)]=>(uH i).map λt=>(.str t,S)
 |_,_=>none
noncomputable def vd:Str:=⟨⟨[97,112,112,101,110,100]⟩⟩
noncomputable def Ao:Str:=⟨⟨[103,101,116]⟩⟩
inductive Me where
 |fn (f:Nat)|append|get
noncomputable def ld (S:St) (o:SV) (a:Str):Option Me:=match o with
 |.ref n=>match S.hp.get n with
  |some (.inst C d)=>match S.hp.get d with
   |some (.sd es)=>match bE es a with
    |none=>(X.meth C a).map .fn
    |some _=>none
   |_=>none
  |some (.lst _ _)|some (.tab _ _ _)=>match cq a vd with
   |true=>some .append
   |false=>none
  |some (.sd _)|some (.idt _)|some (.hd _ _)|some (.ks _)|some (.ki _)=>match cq a Ao with
   |true=>some .get
   |false=>none
  |_=>none
 |.top b=>match X.tdict b,cq a Ao with
  |some _,true=>some .get
  |_,_=>none
 |_=>none
noncomputable def uc (m:Me) (o:SV) (vs:List SV) (S:St):Option (SV×St):=match m with
 |.fn f=>lv.call f (o::vs) S
 |.append=>match o,vs with
  |.ref n,[v]=>match S.hp.get n with
   |some (.lst k xs)=>match small (xs++[v])with
    |true=>some (.none,S.set n (.lst k (xs++[v])))
    |false=>none
   |some (.tab k es xs)=>match small (xs++[v])with
    |true=>some (.none,S.set n (.tab k es (xs++[v])))
    |false=>none
   |_=>none
  |_,_=>none
 |.get=>match vs with
  |[k,d]=>(bP X S o k).map λr=>(r.getD d,S)
  |_=>none
noncomputable def xg (fc:FC) (e:Option PExpr) (S:St):Option (SV×St):=match e with
 |none=>some (.none,S)
 |some e=>lv.ex fc e S
noncomputable def bQ (out:List (Str×NameKind)):List (Str×NameKind)->List (Str×NameKind)
 |[]=>[]
 |(x,k)::r=>match k with
  |.free=>match bE out x with
   |some .cell=>(x,.cell)::bQ out r
   |_=>(x,.free)::bQ out r
  |k=>(x,k)::bQ out r
noncomputable def bW:List (Str×NameKind)->List (Str×Nat)->List (Str×Nat)->Option (List (Str×Nat))
 |[],_,acc=>some acc
 |(x,k)::r,cells,acc=>match k with
  |.free=>match bE cells x with
   |some n=>bW r cells ((x,n)::acc)
   |none=>none
  |_=>bW r cells acc
noncomputable def aM (all:List (Str×NameKind)):List (Str×NameKind)->Bool
 |[]=>true
 |(x,k)::r=>match k with
  |.cell=>false
  |.local=>match bE all x with
   |some .local=>aM all r
   |_=>false
  |_=>aM all r
noncomputable def tW (sc:Scope):Bool:=match sc.kind with
 |.function=>aM sc.names sc.names
 |_=>false
noncomputable def bG:PExpr->Bool
 |.Set ..=>false
 |_=>true
noncomputable def cz:PExpr->Bool
 |.Call (.Name _ _) [] [] _=>true
 |_=>false
noncomputable def pA (c:Const) (S:St):Option (SV×St):=match c with
 |.none=>some (.none,S)
 |.bool b=>some (.bool b,S)
 |.int i=>some (.int i,S)
 |.str s=>some (.str s,S)
 |_=>none
noncomputable def rA (fc:FC) (l:PExpr) (op:Operator) (r:PExpr) (S:St):Option (SV×St):=match lv.ex fc l S with
 |some (a,S1)=>match lv.ex fc r S1 with
  |some (b,S2)=>yV S2 op a b
  |none=>none
 |none=>none
noncomputable def CG (fc:FC) (op:UnaryOp) (x:PExpr) (S:St):Option (SV×St):=match lv.ex fc x S with
 |some (a,S1)=>(Dt S1 op a).map λv=>(v,S1)
 |none=>none
noncomputable def CI (fc:FC) (t a b:PExpr) (S:St):Option (SV×St):=match lv.ts fc t S with
 |some (true,S1)=>lv.ex fc a S1
 |some (false,S1)=>lv.ex fc b S1
 |none=>none
noncomputable def rz (fc:FC) (l:PExpr) (ops:List CmpOp) (rs:List PExpr) (S:St):Option (Bool×St):=match ops,rs with
 |[op],[r]=>match lv.ex fc l S with
  |some (a,S1)=>match lv.ex fc r S1 with
   |some (b,S2)=>match bG r with
    |true=>(yO X S2 op a b).map λt=>(t,S2)
    |false=>none
   |none=>none
  |none=>none
 |_,_=>none
noncomputable def lR (fc:FC) (o:PExpr) (a:Str) (apos:Pos) (args:List PExpr) (cpos:Pos) (S:St):Option (SV×St):=match Nat.beq apos.endLine cpos.line&&!cz o&&Nat.ble args.length 20 with
 |true=>match lv.ex fc o S with
  |some (ov,S1)=>match ld X S1 ov a with
   |some m=>match rx lv fc args S1 with
    |some (vs,S2)=>uc X lv m ov vs S2
    |none=>none
   |none=>none
  |none=>none
 |false=>none
noncomputable def dR (fc:FC) (f:PExpr) (args:List PExpr) (S:St):Option (SV×St):=match lv.ex fc f S with
 |some (.top a,S1)=>match rx lv fc args S1 with
  |some (vs,S2)=>lv.call a vs S2
  |none=>none
 |some (.bi b,S1)=>match rx lv fc args S1 with
  |some (vs,S2)=>rK b vs S2
  |none=>none
 |_=>none
noncomputable def CJ (fc:FC) (f:PExpr) (args:List PExpr) (kws:List Keyword) (cpos:Pos) (S:St):Option (SV×St):=match kws with
 |[]=>match f with
  |.Attribute o a apos=>lR X lv fc o a apos args cpos S
  |f=>match sU f with
   |true=>none
   |false=>dR lv fc f args S
 |_=>none
noncomputable def tK (fc:FC) (o:PExpr) (a:Str) (S:St):Option (SV×St):=match cz o with
 |true=>none
 |false=>match lv.ex fc o S with
  |some (ov,S1)=>(CX X S1 ov a).map λv=>(v,S1)
  |none=>none
noncomputable def yx (fc:FC) (ov:SV) (lo hi stp:Option PExpr) (S1:St):Option (SV×St):=match stp with
 |none=>match xg lv fc lo S1 with
  |some (l,S2)=>match xg lv fc hi S2 with
   |some (h,S3)=>cut S3 ov l h
   |none=>none
  |none=>none
 |some _=>none
noncomputable def ry (fc:FC) (o i:PExpr) (S:St):Option (SV×St):=match lv.ex fc o S with
 |some (ov,S1)=>match i with
  |.Slice lo hi stp _=>yx lv fc ov lo hi stp S1
  |i=>match iL i with
   |true=>match lv.ex fc i S1 with
    |some (iv,S2)=>(item X S2 ov iv).map λv=>(v,S2)
    |none=>none
   |false=>none
 |none=>none
noncomputable def pz (fc:FC) (ks:List (Option PExpr)) (es:List PExpr) (S:St):Option (SV×St):=match Nat.ble ks.length 15 with
 |true=>match dicts lv fc ks es (S.new (.sd [])).2 with
  |some (kvs,S1)=>match jk X S1 (.ref S.next) kvs with
   |some S2=>some (.ref S.next,S2)
   |none=>none
  |none=>none
 |false=>none
noncomputable def fW (fc:FC) (elt:PExpr) (gens:List Comprehension) (sc:Scope) (S:St):Option (SV×St):=match gens with
 |[⟨tgt,it,ifs,0⟩]=>match tW sc&&bG it,bW sc.names fc.cells []with
  |true,some cl=>match lv.ex fc it S with
   |some (xs,S1)=>
    let n:=S1.next
    match lv.comp ⟨bQ fc.names sc.names,cl⟩ fc tgt ifs elt xs 0 n {(S1.new (.lst 0 [])).2 with loc:=[]}with
    |some S2=>some (.ref n,{S2 with loc:=S1.loc})
    |none=>none
   |none=>none
  |_,_=>none
 |_=>none
noncomputable def Bq (fc:FC) (e:PExpr) (S:St):Option (SV×St):=match e with
 |.Constant c _ _=>pA c S
 |.Name x _=>(lj X fc S x).map λv=>(v,S)
 |.BinOp l op r _=>rA lv fc l op r S
 |.UnaryOp op x _=>CG lv fc op x S
 |.BoolOp op es _=>u8 lv fc op es S
 |.IfExp t a b _=>CI lv fc t a b S
 |.Compare l ops rs _=>(rz X lv fc l ops rs S).map λr=>(.bool r.1,r.2)
 |.Call f args kws cpos=>CJ X lv fc f args kws cpos S
 |.Attribute o a _=>tK X lv fc o a S
 |.Subscript o i _=>ry X lv fc o i S
 |.Tuple es _ _=>match rx lv fc es S with
  |some (vs,S1)=>C6 S1 vs
  |none=>none
 |.List es _=>match rx lv fc es S with
  |some (vs,S1)=>DV S1 vs
  |none=>none
 |.Dict ks es _=>pz X lv fc ks es S
 |.ListComp elt gens sc _=>fW lv fc elt gens sc S
 |_=>none
noncomputable def AX (fc:FC) (x:PExpr) (S:St):Option (Bool×St):=match lv.ts fc x S with
 |some (t,S1)=>some (!t,S1)
 |none=>none
noncomputable def uj (fc:FC) (e:PExpr) (S:St):Option (Bool×St):=match lv.ex fc e S with
 |some (v,S1)=>(truthy S1 v).map λt=>(t,S1)
 |none=>none
noncomputable def EF (fc:FC) (e:PExpr) (S:St):Option (Bool×St):=match e with
 |.UnaryOp op x _=>match op with
  |.Not=>AX lv fc x S
  |_=>uj lv fc e S
 |.BoolOp op es _=>CY lv fc op es S
 |.IfExp _ _ _ _=>none
 |.Compare l ops rs _=>rz X lv fc l ops rs S
 |e=>uj lv fc e S
noncomputable def bI (S:St) (xs:SV) (i:Nat):Option (Option SV):=match xs with
 |.ref n=>match S.hp.get n with
  |some (.lst 0 l)=>some (nth l i)
  |some (.tup l)=>some (nth l i)
  |some (.rng hi)=>match mS hi (.ofNat i)with
   |true=>some none
   |false=>some (some (.int (.ofNat i)))
  |_=>none
 |_=>none
noncomputable def cJ:List PExpr->Option (List Str)
 |[]=>some []
 |.Name x _::r=>(cJ r).map (x::·)
 |_=>none
noncomputable def fz (fc:FC):List Str->List SV->St->Option St
 |[],[],S=>some S
 |x::r,v::vs,S=>match di fc S x v with
  |some S1=>fz fc r vs S1
  |none=>none
 |_,_,_=>none
noncomputable def yY (fc:FC) (ts:List PExpr) (v:SV) (S:St):Option St:=match cJ ts,v with
 |some xs,.ref n=>match S.hp.get n with
  |some (.tup vs)=>fz fc xs vs S
  |some (.lst 0 vs)=>fz fc xs vs S
  |_=>none
 |_,_=>none
noncomputable def vc (fc:FC) (o:PExpr) (a:Str) (v:SV) (S:St):Option St:=match lv.ex fc o S with
 |some (ov,S1)=>kP X S1 ov a v
 |none=>none
noncomputable def yZ (fc:FC) (ov:SV) (lo hi stp:Option PExpr) (v:SV) (S1:St):Option St:=match lo,hi,stp with
 |some lo,none,none=>match lv.ex fc lo S1 with
  |some (l,S2)=>sB S2 ov l v
  |none=>none
 |_,_,_=>none
noncomputable def pH (fc:FC) (o i:PExpr) (v:SV) (S:St):Option St:=match lv.ex fc o S with
 |some (ov,S1)=>match i with
  |.Slice lo hi stp _=>yZ lv fc ov lo hi stp v S1
  |i=>match lv.ex fc i S1 with
   |some (iv,S2)=>setItem X S2 ov iv v
   |none=>none
 |none=>none
noncomputable def y0 (fc:FC) (t:PExpr) (v:SV) (S:St):Option St:=match t with
 |.Name x _=>di fc S x v
 |.Tuple ts _ _=>yY fc ts v S
 |.Attribute o a _=>vc X lv fc o a v S
 |.Subscript o i _=>pH X lv fc o i v S
 |_=>none
noncomputable def jQ:PExpr->Bool
 |.Tuple ..=>true
 |_=>false
noncomputable def hV:PExpr->Bool
 |.ListComp .. |.SetComp .. |.DictComp ..=>true
 |_=>false
noncomputable def D5:SV->Bool
 |.ref _|.top _|.any=>true
 |_=>false
noncomputable def Aj:PExpr->Bool
 |.Slice ..=>true
 |_=>false
noncomputable def su (fc:FC) (e:PExpr) (S:St):Option (Fl×St):=match hV e with
 |true=>none
 |false=>match lv.ex fc e S with
  |some (v,S1)=>match D5 v with
   |true=>none
   |false=>some (.next,S1)
  |none=>none
noncomputable def mF (fc:FC) (ts:List PExpr) (e:PExpr) (S:St):Option (Fl×St):=match ts with
 |[t]=>match jQ t&&jQ e with
  |true=>none
  |false=>match lv.ex fc e S with
   |some (v,S1)=>(y0 X lv fc t v S1).map λS2=>(.next,S2)
   |none=>none
 |_=>none
noncomputable def pF (fc:FC) (x:Str) (op:Operator) (e:PExpr) (S:St):Option (Fl×St):=match lj X fc S x with
 |some a=>match lv.ex fc e S with
  |some (b,S1)=>match yW op a b with
   |some v=>(di fc S1 x v).map λS3=>(.next,S3)
   |none=>none
  |none=>none
 |none=>none
noncomputable def ud (fc:FC) (o i:PExpr) (op:Operator) (e:PExpr) (S:St):Option (Fl×St):=match lv.ex fc o S with
 |some (ov,S1)=>match Aj i with
  |true=>none
  |false=>match lv.ex fc i S1 with
   |some (iv,S2)=>match item X S2 ov iv with
    |some a=>match lv.ex fc e S2 with
     |some (b,S3)=>match yW op a b with
      |some v=>(setItem X S3 ov iv v).map λS5=>(.next,S5)
      |none=>none
     |none=>none
    |none=>none
   |none=>none
 |none=>none
noncomputable def A2 (fc:FC) (t:PExpr) (op:Operator) (e:PExpr) (S:St):Option (Fl×St):=match t with
 |.Name x _=>pF X lv fc x op e S
 |.Subscript o i _=>ud X lv fc o i op e S
 |_=>none
noncomputable def A1 (fc:FC) (e:Option PExpr) (S:St):Option (Fl×St):=match e with
 |none=>some (.ret .none,S)
 |some e=>match lv.ex fc e S with
  |some (v,S1)=>some (.ret v,S1)
  |none=>none
noncomputable def DE (fc:FC) (t:PExpr) (a b:List Stmt) (S:St):Option (Fl×St):=match lv.ts fc t S with
 |some (true,S1)=>lv.sts fc a S1
 |some (false,S1)=>lv.sts fc b S1
 |none=>none
noncomputable def wJ (fc:FC) (t it:PExpr) (b els:List Stmt) (S:St):Option (Fl×St):=match els with
 |[]=>match bG it with
  |true=>match lv.ex fc it S with
   |some (xs,S1)=>lv.fors fc t xs 0 b S1
   |none=>none
  |false=>none
 |_=>none
noncomputable def A0 (fc:FC) (s:Stmt) (S:St):Option (Fl×St):=match s with
 |.Expr e _=>su lv fc e S
 |.Assign ts e _=>mF X lv fc ts e S
 |.AugAssign t op e _=>A2 X lv fc t op e S
 |.Return e _=>A1 lv fc e S
 |.If t a b _=>DE lv fc t a b S
 |.For t it b els _=>wJ lv fc t it b els S
 |.While t b els _=>match els with
  |[]=>lv.whl fc t b S
  |_=>none
 |_=>none
noncomputable def jg (fc:FC):List Stmt->St->Option (Fl×St)
 |[],S=>some (.next,S)
 |s::r,S=>match lv.st fc s S with
  |some (.next,S1)=>jg fc r S1
  |x=>x
noncomputable def fe (S S2:St) (xs:SV):Bool:=match xs with
 |.ref n=>match S.hp.get n,S2.hp.get n with
  |some (.lst 0 _),some (.lst 0 _)=>true
  |some (.tup _),some (.tup _)=>true
  |some (.rng a),some (.rng b)=>d7 a b
  |_,_=>false
 |_=>false
noncomputable def rt (fc:FC) (t:PExpr) (xs:SV) (i:Nat) (b:List Stmt) (S:St):Option (Fl×St):=match bI S xs i with
 |some (some v)=>match y0 X lv fc t v S with
  |some S1=>match lv.sts fc b S1 with
   |some (.next,S2)=>match fe S S2 xs with
    |true=>lv.fors fc t xs (i+1) b S2
    |false=>none
   |_=>none
  |none=>none
 |some none=>some (.next,S)
 |none=>none
noncomputable def BE (fc:FC) (t:PExpr) (b:List Stmt) (S:St):Option (Fl×St):=match lv.ts fc t S with
 |some (true,S1)=>match lv.sts fc b S1 with
  |some (.next,S2)=>lv.whl fc t b S2
  |_=>none
 |some (false,S1)=>some (.next,S1)
 |none=>none
noncomputable def nG (fc:FC):List PExpr->St->Option (Bool×St)
 |[],S=>some (true,S)
 |e::r,S=>match lv.ts fc e S with
  |some (true,S1)=>nG fc r S1
  |some (false,S1)=>some (false,S1)
  |none=>none
noncomputable def rH (fc out:FC) (t:PExpr) (ifs:List PExpr) (elt:PExpr) (xs:SV) (i n:Nat) (S:St):Option St:=match bI S xs i with
 |some (some v)=>match y0 X lv fc t v S with
  |some S1=>match nG lv fc ifs S1 with
   |some (true,S2)=>match lv.ex fc elt S2 with
    |some (r,S3)=>match S3.hp.get n with
     |some (.lst k ys)=>match small (ys++[r])with
      |true=>
       let S4:=S3.set n (.lst k (ys++[r]))
       match fe S S4 xs with
       |true=>lv.comp fc out t ifs elt xs (i+1) n S4
       |false=>none
      |false=>none
     |_=>none
    |none=>none
   |some (false,S2)=>match fe S S2 xs with
    |true=>lv.comp fc out t ifs elt xs (i+1) n S2
    |false=>none
   |none=>none
  |none=>none
 |some none=>some S
 |none=>none
noncomputable def step (lc:Lv):Lv:=⟨Bq X lv,EF X lv,A0 X lv,jg lv,jc X lc,rt X lv,rH X lv,BE lv⟩
end
noncomputable def Lv.no:Lv:=⟨λ_ _ _=>none,λ_ _ _=>none,λ_ _ _=>none,λ_ _ _=>none,λ_ _ _=>none,λ_ _ _ _ _ _=>none,λ_ _ _ _ _ _ _ _ _=>none,λ_ _ _ _=>none⟩
noncomputable def eO (X:Cx) (lc:Lv):Nat->Lv
 |0=>Lv.no
 |n+1=>step X (eO X lc n) lc
noncomputable def rW (X:Cx) (n:Nat):Nat->Lv
 |0=>Lv.no
 |d+1=>eO X (rW X n d) n
end
section
open PySem PySem.W
theorem aa{α:Type}{a:α}{P:Prop}(h:none=some a):P:=nomatch h
theorem rT{α:Type}{a:α}{P:Prop}(h:some a=none):P:=nomatch h
theorem ul{P:Prop}(h:true=false):P:=nomatch h
theorem ai{P:Prop}(h:false=true):P:=nomatch h
theorem gS{α β:Type}{a c:α}{b d:β}{P:Prop}(h:some (a,b)=some (c,d))(k:a=c->b=d->P):P:=by cases h;exact k rfl rfl
theorem aB{α:Type}{a c:α}{P:Prop}(h:some a=some c)(k:a=c->P):P:=by cases h;exact k rfl
theorem EK{α β:Type}{a c:α}{b d:β}{P:Prop}(h:(a,b)=(c,d))(k:a=c->b=d->P):P:=by cases h;exact k rfl rfl
theorem Fg{G:Prop}(k:∀P:Prop,(G->P)->P):G:=k G id
theorem aU{a k m c:Nat}(h:a+m<c)(hk:k<=m):a+k<c:=Nat.lt_of_le_of_lt (Nat.add_le_add_left hk a) h
theorem aW{a x k m c:Nat}(h:a+x+m<c)(hk:k<=m):a+k<c:=Nat.lt_of_le_of_lt (Nat.add_le_add (Nat.le_add_right a x) hk) h
theorem aX{a x k m c:Nat}(h:a+x+m<c)(hk:k<=m):a+x+k<c:=aU h hk
theorem aY{a k m c:Nat}(h:a+m<c)(hk:k+1<=m):a+1+k<c:=by rw[Nat.add_assoc,Nat.add_comm 1];exact aU h hk
theorem aN{n m:Nat}(h:n<m+1)(h':¬n=m):n<m:=Nat.lt_of_le_of_ne (Nat.le_of_lt_succ h) h'
theorem aS{a b c:Nat}(h:a=b)(h':b<=c):a<=c:=h▸h'
theorem aR{a b c:Nat}(h:b=a)(h':b<=c):a<=c:=h▸h'
theorem aO{a b:Nat}(h:a<b)(h':b<=a):False:=Nat.lt_irrefl _ (Nat.lt_of_lt_of_le h h')
theorem aE{a b c:Nat}(h:a<b)(h':b=c):a<c:=h'▸h
theorem aF{a b c:Nat}(h:a<b)(h':c=b):a<c:=h'▸h
theorem aH{a b c:Nat}(h:a<=b)(h':c=b):a<=c:=h'▸h
theorem se{M:PySem.Model}{A:PySem.Around}{α:Type}{c:Prop}[Decidable c]{a b:PySem.Sem α}{Q:α->PySem.Shared->Prop}{E:PySem.Value->PySem.Shared->Prop}{s:PySem.Shared}(h:¬c)(k:PySem.wpAny M A b Q E s):PySem.wpAny M A (if c then a else b) Q E s:=(if_neg h).symm▸k
theorem wB{M:PySem.Model}{A:PySem.Around}{α:Type}{c:Prop}[Decidable c]{a b:PySem.Sem α}{Q:α->PySem.Shared->Prop}{E:PySem.Value->PySem.Shared->Prop}{s:PySem.Shared}(h:c)(k:PySem.wpAny M A a Q E s):PySem.wpAny M A (if c then a else b) Q E s:=(if_pos h).symm▸k
theorem EY{M:PySem.Model}{A:PySem.Around}{α β:Type}{c:Prop}[Decidable c]{a b:PySem.Sem α}{k:α->PySem.Sem β}{Q:β->PySem.Shared->Prop}{E:PySem.Value->PySem.Shared->Prop}{s:PySem.Shared}{y:α}(ha:∀{Q':α->PySem.Shared->Prop},Q' y s->PySem.wpAny M A a Q' E s)(hb:∀{Q':α->PySem.Shared->Prop},Q' y s->PySem.wpAny M A b Q' E s)(h:PySem.wpAny M A (k y) Q E s):PySem.wpAny M A (if c then a>>=k else b>>=k) Q E s:=by
 by_cases hc:c
 ·exact wB hc (PySem.wpAny_bind (ha h))
 ·exact se hc (PySem.wpAny_bind (hb h))
theorem xA{p1:Prop}{p2:Prop}{P:Prop}(h:p1/\p2)(k:p1->p2->P):P:=
 k h.1 h.2
theorem xE{α:Type}{p1:α->Prop}{P:Prop}(h:∃a1,p1 a1)(k:∀a1,p1 a1->P):P:=
 h.elim λa1 g1=>k a1 g1
theorem l8{p1:Prop}{p2:Prop}{p3:Prop}{P:Prop}(h:p1/\p2/\p3)(k:p1->p2->p3->P):P:=
 k h.1 h.2.1 h.2.2
theorem an{α:Type}{p1:α->Prop}{p2:α->Prop}{P:Prop}(h:∃a1,p1 a1/\p2 a1)(k:∀a1,p1 a1->p2 a1->P):P:=
 h.elim λa1 g1=>k a1 g1.1 g1.2
theorem gM{p1:Prop}{p2:Prop}{p3:Prop}{p4:Prop}{P:Prop}(h:p1/\p2/\p3/\p4)(k:p1->p2->p3->p4->P):P:=
 k h.1 h.2.1 h.2.2.1 h.2.2.2
theorem dT{α:Type}{p1:α->Prop}{p2:α->Prop}{p3:α->Prop}{P:Prop}(h:∃a1,p1 a1/\p2 a1/\p3 a1)(k:∀a1,p1 a1->p2 a1->p3 a1->P):P:=
 h.elim λa1 g1=>k a1 g1.1 g1.2.1 g1.2.2
theorem EU{α β:Type}{p1:α->Prop}{p2:α->β->Prop}{P:Prop}(h:∃a1,p1 a1/\(∃a2,p2 a1 a2))(k:∀a1,p1 a1->∀a2,p2 a1 a2->P):P:=
 h.elim λa1 g1=>g1.2.elim λa2 g2=>k a1 g1.1 a2 g2
theorem bb{α β:Type}{p1:α->β->Prop}{p2:α->β->Prop}{P:Prop}(h:∃a1,∃a2,p1 a1 a2/\p2 a1 a2)(k:∀a1,∀a2,p1 a1 a2->p2 a1 a2->P):P:=
 h.elim λa1 g1=>g1.elim λa2 g2=>k a1 a2 g2.1 g2.2
theorem zm{α β γ:Type}{p1:α->β->γ->Prop}{P:Prop}(h:∃a1,∃a2,∃a3,p1 a1 a2 a3)(k:∀a1,∀a2,∀a3,p1 a1 a2 a3->P):P:=
 h.elim λa1 g1=>g1.elim λa2 g2=>g2.elim λa3 g3=>k a1 a2 a3 g3
theorem jJ{p1:Prop}{p2:Prop}{p3:Prop}{p4:Prop}{p5:Prop}{P:Prop}(h:p1/\p2/\p3/\p4/\p5)(k:p1->p2->p3->p4->p5->P):P:=
 k h.1 h.2.1 h.2.2.1 h.2.2.2.1 h.2.2.2.2
theorem AW{α:Type}{p1:Prop}{p2:α->Prop}{p3:α->Prop}{p4:α->Prop}{P:Prop}(h:p1/\(∃a1,p2 a1/\p3 a1/\p4 a1))(k:p1->∀a1,p2 a1->p3 a1->p4 a1->P):P:=
 h.2.elim λa1 g1=>k h.1 a1 g1.1 g1.2.1 g1.2.2
theorem Dq{α β γ:Type}{p1:Prop}{p2:α->β->γ->Prop}{P:Prop}(h:p1/\(∃a1,∃a2,∃a3,p2 a1 a2 a3))(k:p1->∀a1,∀a2,∀a3,p2 a1 a2 a3->P):P:=
 h.2.elim λa1 g1=>g1.elim λa2 g2=>g2.elim λa3 g3=>k h.1 a1 a2 a3 g3
theorem pT{α:Type}{p1:α->Prop}{p2:α->Prop}{p3:α->Prop}{p4:α->Prop}{P:Prop}(h:∃a1,p1 a1/\p2 a1/\p3 a1/\p4 a1)(k:∀a1,p1 a1->p2 a1->p3 a1->p4 a1->P):P:=
 h.elim λa1 g1=>k a1 g1.1 g1.2.1 g1.2.2.1 g1.2.2.2
theorem wz{α β:Type}{p1:α->Prop}{p2:α->Prop}{p3:α->β->Prop}{P:Prop}(h:∃a1,p1 a1/\p2 a1/\(∃a2,p3 a1 a2))(k:∀a1,p1 a1->p2 a1->∀a2,p3 a1 a2->P):P:=
 h.elim λa1 g1=>g1.2.2.elim λa2 g2=>k a1 g1.1 g1.2.1 a2 g2
theorem ui{α β:Type}{p1:α->Prop}{p2:α->β->Prop}{p3:α->β->Prop}{P:Prop}(h:∃a1,p1 a1/\(∃a2,p2 a1 a2/\p3 a1 a2))(k:∀a1,p1 a1->∀a2,p2 a1 a2->p3 a1 a2->P):P:=
 h.elim λa1 g1=>g1.2.elim λa2 g2=>k a1 g1.1 a2 g2.1 g2.2
theorem ap{α β:Type}{p1:α->β->Prop}{p2:α->β->Prop}{p3:α->β->Prop}{P:Prop}(h:∃a1,∃a2,p1 a1 a2/\p2 a1 a2/\p3 a1 a2)(k:∀a1,∀a2,p1 a1 a2->p2 a1 a2->p3 a1 a2->P):P:=
 h.elim λa1 g1=>g1.elim λa2 g2=>k a1 a2 g2.1 g2.2.1 g2.2.2
theorem pS{α β γ:Type}{p1:α->β->γ->Prop}{p2:α->β->γ->Prop}{P:Prop}(h:∃a1,∃a2,∃a3,p1 a1 a2 a3/\p2 a1 a2 a3)(k:∀a1,∀a2,∀a3,p1 a1 a2 a3->p2 a1 a2 a3->P):P:=
 h.elim λa1 g1=>g1.elim λa2 g2=>g2.elim λa3 g3=>k a1 a2 a3 g3.1 g3.2
theorem jH{α β γ δ:Type}{p1:α->β->γ->δ->Prop}{P:Prop}(h:∃a1,∃a2,∃a3,∃a4,p1 a1 a2 a3 a4)(k:∀a1,∀a2,∀a3,∀a4,p1 a1 a2 a3 a4->P):P:=
 h.elim λa1 g1=>g1.elim λa2 g2=>g2.elim λa3 g3=>g3.elim λa4 g4=>k a1 a2 a3 a4 g4
theorem BD{p1:Prop}{p2:Prop}{p3:Prop}{p4:Prop}{p5:Prop}{p6:Prop}{P:Prop}(h:p1/\p2/\p3/\p4/\p5/\p6)(k:p1->p2->p3->p4->p5->p6->P):P:=
 k h.1 h.2.1 h.2.2.1 h.2.2.2.1 h.2.2.2.2.1 h.2.2.2.2.2
theorem rZ{α:Type}{p1:α->Prop}{p2:α->Prop}{p3:α->Prop}{p4:α->Prop}{p5:α->Prop}{P:Prop}(h:∃a1,p1 a1/\p2 a1/\p3 a1/\p4 a1/\p5 a1)(k:∀a1,p1 a1->p2 a1->p3 a1->p4 a1->p5 a1->P):P:=
 h.elim λa1 g1=>k a1 g1.1 g1.2.1 g1.2.2.1 g1.2.2.2.1 g1.2.2.2.2
theorem eJ{α β:Type}{p1:α->Prop}{p2:α->Prop}{p3:α->Prop}{p4:α->β->Prop}{P:Prop}(h:∃a1,p1 a1/\p2 a1/\p3 a1/\(∃a2,p4 a1 a2))(k:∀a1,p1 a1->p2 a1->p3 a1->∀a2,p4 a1 a2->P):P:=
 h.elim λa1 g1=>g1.2.2.2.elim λa2 g2=>k a1 g1.1 g1.2.1 g1.2.2.1 a2 g2
theorem gd{α β:Type}{p1:α->β->Prop}{p2:α->β->Prop}{p3:α->β->Prop}{p4:α->β->Prop}{P:Prop}(h:∃a1,∃a2,p1 a1 a2/\p2 a1 a2/\p3 a1 a2/\p4 a1 a2)(k:∀a1,∀a2,p1 a1 a2->p2 a1 a2->p3 a1 a2->p4 a1 a2->P):P:=
 h.elim λa1 g1=>g1.elim λa2 g2=>k a1 a2 g2.1 g2.2.1 g2.2.2.1 g2.2.2.2
theorem BC{α β γ:Type}{p1:α->β->γ->Prop}{p2:α->β->γ->Prop}{p3:α->β->γ->Prop}{P:Prop}(h:∃a1,∃a2,∃a3,p1 a1 a2 a3/\p2 a1 a2 a3/\p3 a1 a2 a3)(k:∀a1,∀a2,∀a3,p1 a1 a2 a3->p2 a1 a2 a3->p3 a1 a2 a3->P):P:=
 h.elim λa1 g1=>g1.elim λa2 g2=>g2.elim λa3 g3=>k a1 a2 a3 g3.1 g3.2.1 g3.2.2
theorem BB{α β γ δ:Type}{p1:α->β->γ->δ->Prop}{p2:α->β->γ->δ->Prop}{P:Prop}(h:∃a1,∃a2,∃a3,∃a4,p1 a1 a2 a3 a4/\p2 a1 a2 a3 a4)(k:∀a1,∀a2,∀a3,∀a4,p1 a1 a2 a3 a4->p2 a1 a2 a3 a4->P):P:=
 h.elim λa1 g1=>g1.elim λa2 g2=>g2.elim λa3 g3=>g3.elim λa4 g4=>k a1 a2 a3 a4 g4.1 g4.2
theorem iw{p1:Prop}{p2:Prop}{p3:Prop}{p4:Prop}{p5:Prop}{p6:Prop}{p7:Prop}{P:Prop}(h:p1/\p2/\p3/\p4/\p5/\p6/\p7)(k:p1->p2->p3->p4->p5->p6->p7->P):P:=
 k h.1 h.2.1 h.2.2.1 h.2.2.2.1 h.2.2.2.2.1 h.2.2.2.2.2.1 h.2.2.2.2.2.2
theorem uh{α β γ:Type}{p1:α->Prop}{p2:α->β->γ->Prop}{p3:α->β->γ->Prop}{p4:α->β->γ->Prop}{P:Prop}(h:∃a1,p1 a1/\(∃a2,∃a3,p2 a1 a2 a3/\p3 a1 a2 a3/\p4 a1 a2 a3))(k:∀a1,p1 a1->∀a2,∀a3,p2 a1 a2 a3->p3 a1 a2 a3->p4 a1 a2 a3->P):P:=
 h.elim λa1 g1=>g1.2.elim λa2 g2=>g2.elim λa3 g3=>k a1 g1.1 a2 a3 g3.1 g3.2.1 g3.2.2
theorem cM{α β:Type}{p1:α->β->Prop}{p2:α->β->Prop}{p3:α->β->Prop}{p4:α->β->Prop}{p5:α->β->Prop}{P:Prop}(h:∃a1,∃a2,p1 a1 a2/\p2 a1 a2/\p3 a1 a2/\p4 a1 a2/\p5 a1 a2)(k:∀a1,∀a2,p1 a1 a2->p2 a1 a2->p3 a1 a2->p4 a1 a2->p5 a1 a2->P):P:=
 h.elim λa1 g1=>g1.elim λa2 g2=>k a1 a2 g2.1 g2.2.1 g2.2.2.1 g2.2.2.2.1 g2.2.2.2.2
theorem fE{α β γ:Type}{p1:α->β->γ->Prop}{p2:α->β->γ->Prop}{p3:α->β->γ->Prop}{p4:α->β->γ->Prop}{P:Prop}(h:∃a1,∃a2,∃a3,p1 a1 a2 a3/\p2 a1 a2 a3/\p3 a1 a2 a3/\p4 a1 a2 a3)(k:∀a1,∀a2,∀a3,p1 a1 a2 a3->p2 a1 a2 a3->p3 a1 a2 a3->p4 a1 a2 a3->P):P:=
 h.elim λa1 g1=>g1.elim λa2 g2=>g2.elim λa3 g3=>k a1 a2 a3 g3.1 g3.2.1 g3.2.2.1 g3.2.2.2
theorem j'{α β γ δ:Type}{p1:α->β->γ->δ->Prop}{p2:α->β->γ->δ->Prop}{p3:α->β->γ->δ->Prop}{P:Prop}(h:∃a1,∃a2,∃a3,∃a4,p1 a1 a2 a3 a4/\p2 a1 a2 a3 a4/\p3 a1 a2 a3 a4)(k:∀a1,∀a2,∀a3,∀a4,p1 a1 a2 a3 a4->p2 a1 a2 a3 a4->p3 a1 a2 a3 a4->P):P:=
 h.elim λa1 g1=>g1.elim λa2 g2=>g2.elim λa3 g3=>g3.elim λa4 g4=>k a1 a2 a3 a4 g4.1 g4.2.1 g4.2.2
theorem pU{p1:Prop}{p2:Prop}{p3:Prop}{p4:Prop}{p5:Prop}{p6:Prop}{p7:Prop}{p8:Prop}{P:Prop}(h:p1/\p2/\p3/\p4/\p5/\p6/\p7/\p8)(k:p1->p2->p3->p4->p5->p6->p7->p8->P):P:=
 k h.1 h.2.1 h.2.2.1 h.2.2.2.1 h.2.2.2.2.1 h.2.2.2.2.2.1 h.2.2.2.2.2.2.1 h.2.2.2.2.2.2.2
theorem pQ{α β γ δ ε:Type}{p1:α->β->γ->δ->ε->Prop}{p2:α->β->γ->δ->ε->Prop}{p3:α->β->γ->δ->ε->Prop}{P:Prop}(h:∃a1,∃a2,∃a3,∃a4,∃a5,p1 a1 a2 a3 a4 a5/\p2 a1 a2 a3 a4 a5/\p3 a1 a2 a3 a4 a5)(k:∀a1,∀a2,∀a3,∀a4,∀a5,p1 a1 a2 a3 a4 a5->p2 a1 a2 a3 a4 a5->p3 a1 a2 a3 a4 a5->P):P:=
 h.elim λa1 g1=>g1.elim λa2 g2=>g2.elim λa3 g3=>g3.elim λa4 g4=>g4.elim λa5 g5=>k a1 a2 a3 a4 a5 g5.1 g5.2.1 g5.2.2
theorem mA{p1:Prop}{p2:Prop}{p3:Prop}{p4:Prop}{p5:Prop}{p6:Prop}{p7:Prop}{p8:Prop}{p9:Prop}{P:Prop}(h:p1/\p2/\p3/\p4/\p5/\p6/\p7/\p8/\p9)(k:p1->p2->p3->p4->p5->p6->p7->p8->p9->P):P:=
 k h.1 h.2.1 h.2.2.1 h.2.2.2.1 h.2.2.2.2.1 h.2.2.2.2.2.1 h.2.2.2.2.2.2.1 h.2.2.2.2.2.2.2.1 h.2.2.2.2.2.2.2.2
theorem mz{α β:Type}{p1:Prop}{p2:α->β->Prop}{p3:α->β->Prop}{p4:α->β->Prop}{p5:α->β->Prop}{p6:α->β->Prop}{p7:α->β->Prop}{P:Prop}(h:p1/\(∃a1,∃a2,p2 a1 a2/\p3 a1 a2/\p4 a1 a2/\p5 a1 a2/\p6 a1 a2/\p7 a1 a2))(k:p1->∀a1,∀a2,p2 a1 a2->p3 a1 a2->p4 a1 a2->p5 a1 a2->p6 a1 a2->p7 a1 a2->P):P:=
 h.2.elim λa1 g1=>g1.elim λa2 g2=>k h.1 a1 a2 g2.1 g2.2.1 g2.2.2.1 g2.2.2.2.1 g2.2.2.2.2.1 g2.2.2.2.2.2
theorem vk{α β γ δ:Type}{p1:α->Prop}{p2:α->β->γ->δ->Prop}{p3:α->β->γ->δ->Prop}{p4:α->β->γ->δ->Prop}{p5:α->β->γ->δ->Prop}{P:Prop}(h:∃a1,p1 a1/\(∃a2,∃a3,∃a4,p2 a1 a2 a3 a4/\p3 a1 a2 a3 a4/\p4 a1 a2 a3 a4/\p5 a1 a2 a3 a4))(k:∀a1,p1 a1->∀a2,∀a3,∀a4,p2 a1 a2 a3 a4->p3 a1 a2 a3 a4->p4 a1 a2 a3 a4->p5 a1 a2 a3 a4->P):P:=
 h.elim λa1 g1=>g1.2.elim λa2 g2=>g2.elim λa3 g3=>g3.elim λa4 g4=>k a1 g1.1 a2 a3 a4 g4.1 g4.2.1 g4.2.2.1 g4.2.2.2
theorem eZ{α β γ:Type}{p1:α->β->γ->Prop}{p2:α->β->γ->Prop}{p3:α->β->γ->Prop}{p4:α->β->γ->Prop}{p5:α->β->γ->Prop}{p6:α->β->γ->Prop}{P:Prop}(h:∃a1,∃a2,∃a3,p1 a1 a2 a3/\p2 a1 a2 a3/\p3 a1 a2 a3/\p4 a1 a2 a3/\p5 a1 a2 a3/\p6 a1 a2 a3)(k:∀a1,∀a2,∀a3,p1 a1 a2 a3->p2 a1 a2 a3->p3 a1 a2 a3->p4 a1 a2 a3->p5 a1 a2 a3->p6 a1 a2 a3->P):P:=
 h.elim λa1 g1=>g1.elim λa2 g2=>g2.elim λa3 g3=>k a1 a2 a3 g3.1 g3.2.1 g3.2.2.1 g3.2.2.2.1 g3.2.2.2.2.1 g3.2.2.2.2.2
theorem dh{α β γ δ:Type}{p1:α->β->γ->δ->Prop}{p2:α->β->γ->δ->Prop}{p3:α->β->γ->δ->Prop}{p4:α->β->γ->δ->Prop}{p5:α->β->γ->δ->Prop}{P:Prop}(h:∃a1,∃a2,∃a3,∃a4,p1 a1 a2 a3 a4/\p2 a1 a2 a3 a4/\p3 a1 a2 a3 a4/\p4 a1 a2 a3 a4/\p5 a1 a2 a3 a4)(k:∀a1,∀a2,∀a3,∀a4,p1 a1 a2 a3 a4->p2 a1 a2 a3 a4->p3 a1 a2 a3 a4->p4 a1 a2 a3 a4->p5 a1 a2 a3 a4->P):P:=
 h.elim λa1 g1=>g1.elim λa2 g2=>g2.elim λa3 g3=>g3.elim λa4 g4=>k a1 a2 a3 a4 g4.1 g4.2.1 g4.2.2.1 g4.2.2.2.1 g4.2.2.2.2
theorem hH{α β γ δ ε:Type}{p1:α->β->γ->δ->ε->Prop}{p2:α->β->γ->δ->ε->Prop}{p3:α->β->γ->δ->ε->Prop}{p4:α->β->γ->δ->ε->Prop}{p5:α->β->γ->δ->ε->Prop}{P:Prop}(h:∃a1,∃a2,∃a3,∃a4,∃a5,p1 a1 a2 a3 a4 a5/\p2 a1 a2 a3 a4 a5/\p3 a1 a2 a3 a4 a5/\p4 a1 a2 a3 a4 a5/\p5 a1 a2 a3 a4 a5)(k:∀a1,∀a2,∀a3,∀a4,∀a5,p1 a1 a2 a3 a4 a5->p2 a1 a2 a3 a4 a5->p3 a1 a2 a3 a4 a5->p4 a1 a2 a3 a4 a5->p5 a1 a2 a3 a4 a5->P):P:=
 h.elim λa1 g1=>g1.elim λa2 g2=>g2.elim λa3 g3=>g3.elim λa4 g4=>g4.elim λa5 g5=>k a1 a2 a3 a4 a5 g5.1 g5.2.1 g5.2.2.1 g5.2.2.2.1 g5.2.2.2.2
theorem jI{α β γ δ ε:Type}{p1:α->β->Prop}{p2:α->β->Prop}{p3:α->β->γ->δ->ε->Prop}{p4:α->β->γ->δ->ε->Prop}{p5:α->β->γ->δ->ε->Prop}{p6:α->β->γ->δ->ε->Prop}{P:Prop}(h:∃a1,∃a2,p1 a1 a2/\p2 a1 a2/\(∃a3,∃a4,∃a5,p3 a1 a2 a3 a4 a5/\p4 a1 a2 a3 a4 a5/\p5 a1 a2 a3 a4 a5/\p6 a1 a2 a3 a4 a5))(k:∀a1,∀a2,p1 a1 a2->p2 a1 a2->∀a3,∀a4,∀a5,p3 a1 a2 a3 a4 a5->p4 a1 a2 a3 a4 a5->p5 a1 a2 a3 a4 a5->p6 a1 a2 a3 a4 a5->P):P:=
 h.elim λa1 g1=>g1.elim λa2 g2=>g2.2.2.elim λa3 g3=>g3.elim λa4 g4=>g4.elim λa5 g5=>k a1 a2 g2.1 g2.2.1 a3 a4 a5 g5.1 g5.2.1 g5.2.2.1 g5.2.2.2
theorem pP{α β γ δ ε ζ:Type}{p1:α->β->γ->δ->ε->ζ->Prop}{p2:α->β->γ->δ->ε->ζ->Prop}{p3:α->β->γ->δ->ε->ζ->Prop}{p4:α->β->γ->δ->ε->ζ->Prop}{p5:α->β->γ->δ->ε->ζ->Prop}{P:Prop}(h:∃a1,∃a2,∃a3,∃a4,∃a5,∃a6,p1 a1 a2 a3 a4 a5 a6/\p2 a1 a2 a3 a4 a5 a6/\p3 a1 a2 a3 a4 a5 a6/\p4 a1 a2 a3 a4 a5 a6/\p5 a1 a2 a3 a4 a5 a6)(k:∀a1,∀a2,∀a3,∀a4,∀a5,∀a6,p1 a1 a2 a3 a4 a5 a6->p2 a1 a2 a3 a4 a5 a6->p3 a1 a2 a3 a4 a5 a6->p4 a1 a2 a3 a4 a5 a6->p5 a1 a2 a3 a4 a5 a6->P):P:=
 h.elim λa1 g1=>g1.elim λa2 g2=>g2.elim λa3 g3=>g3.elim λa4 g4=>g4.elim λa5 g5=>g5.elim λa6 g6=>k a1 a2 a3 a4 a5 a6 g6.1 g6.2.1 g6.2.2.1 g6.2.2.2.1 g6.2.2.2.2
theorem nD{p1:Prop}{p2:Prop}{p3:Prop}{p4:Prop}{p5:Prop}{p6:Prop}{p7:Prop}{p8:Prop}{p9:Prop}{p10:Prop}{p11:Prop}{p12:Prop}{P:Prop}(h:p1/\p2/\p3/\p4/\p5/\p6/\p7/\p8/\p9/\p10/\p11/\p12)(k:p1->p2->p3->p4->p5->p6->p7->p8->p9->p10->p11->p12->P):P:=
 k h.1 h.2.1 h.2.2.1 h.2.2.2.1 h.2.2.2.2.1 h.2.2.2.2.2.1 h.2.2.2.2.2.2.1 h.2.2.2.2.2.2.2.1 h.2.2.2.2.2.2.2.2.1 h.2.2.2.2.2.2.2.2.2.1 h.2.2.2.2.2.2.2.2.2.2.1 h.2.2.2.2.2.2.2.2.2.2.2
theorem nC{α β γ δ:Type}{p1:Prop}{p2:α->β->Prop}{p3:α->β->Prop}{p4:α->β->Prop}{p5:α->β->Prop}{p6:α->β->Prop}{p7:α->β->γ->δ->Prop}{p8:α->β->γ->δ->Prop}{P:Prop}(h:p1/\(∃a1,∃a2,p2 a1 a2/\p3 a1 a2/\p4 a1 a2/\p5 a1 a2/\p6 a1 a2/\(∃a3,∃a4,p7 a1 a2 a3 a4/\p8 a1 a2 a3 a4)))(k:p1->∀a1,∀a2,p2 a1 a2->p3 a1 a2->p4 a1 a2->p5 a1 a2->p6 a1 a2->∀a3,∀a4,p7 a1 a2 a3 a4->p8 a1 a2 a3 a4->P):P:=
 h.2.elim λa1 g1=>g1.elim λa2 g2=>g2.2.2.2.2.2.elim λa3 g3=>g3.elim λa4 g4=>k h.1 a1 a2 g2.1 g2.2.1 g2.2.2.1 g2.2.2.2.1 g2.2.2.2.2.1 a3 a4 g4.1 g4.2
theorem iu{α β γ δ ε:Type}{p1:α->β->γ->δ->ε->Prop}{p2:α->β->γ->δ->ε->Prop}{p3:α->β->γ->δ->ε->Prop}{p4:α->β->γ->δ->ε->Prop}{p5:α->β->γ->δ->ε->Prop}{p6:α->β->γ->δ->ε->Prop}{p7:α->β->γ->δ->ε->Prop}{P:Prop}(h:∃a1,∃a2,∃a3,∃a4,∃a5,p1 a1 a2 a3 a4 a5/\p2 a1 a2 a3 a4 a5/\p3 a1 a2 a3 a4 a5/\p4 a1 a2 a3 a4 a5/\p5 a1 a2 a3 a4 a5/\p6 a1 a2 a3 a4 a5/\p7 a1 a2 a3 a4 a5)(k:∀a1,∀a2,∀a3,∀a4,∀a5,p1 a1 a2 a3 a4 a5->p2 a1 a2 a3 a4 a5->p3 a1 a2 a3 a4 a5->p4 a1 a2 a3 a4 a5->p5 a1 a2 a3 a4 a5->p6 a1 a2 a3 a4 a5->p7 a1 a2 a3 a4 a5->P):P:=
 h.elim λa1 g1=>g1.elim λa2 g2=>g2.elim λa3 g3=>g3.elim λa4 g4=>g4.elim λa5 g5=>k a1 a2 a3 a4 a5 g5.1 g5.2.1 g5.2.2.1 g5.2.2.2.1 g5.2.2.2.2.1 g5.2.2.2.2.2.1 g5.2.2.2.2.2.2
theorem l7{p1:Prop}{p2:Prop}{p3:Prop}{p4:Prop}{p5:Prop}{p6:Prop}{p7:Prop}{p8:Prop}{p9:Prop}{p10:Prop}{p11:Prop}{p12:Prop}{p13:Prop}{P:Prop}(h:p1/\p2/\p3/\p4/\p5/\p6/\p7/\p8/\p9/\p10/\p11/\p12/\p13)(k:p1->p2->p3->p4->p5->p6->p7->p8->p9->p10->p11->p12->p13->P):P:=
 k h.1 h.2.1 h.2.2.1 h.2.2.2.1 h.2.2.2.2.1 h.2.2.2.2.2.1 h.2.2.2.2.2.2.1 h.2.2.2.2.2.2.2.1 h.2.2.2.2.2.2.2.2.1 h.2.2.2.2.2.2.2.2.2.1 h.2.2.2.2.2.2.2.2.2.2.1 h.2.2.2.2.2.2.2.2.2.2.2.1 h.2.2.2.2.2.2.2.2.2.2.2.2
theorem gQ{α β γ δ ε ζ:Type}{p1:α->β->γ->δ->ε->ζ->Prop}{p2:α->β->γ->δ->ε->ζ->Prop}{p3:α->β->γ->δ->ε->ζ->Prop}{p4:α->β->γ->δ->ε->ζ->Prop}{p5:α->β->γ->δ->ε->ζ->Prop}{p6:α->β->γ->δ->ε->ζ->Prop}{p7:α->β->γ->δ->ε->ζ->Prop}{P:Prop}(h:∃a1,∃a2,∃a3,∃a4,∃a5,∃a6,p1 a1 a2 a3 a4 a5 a6/\p2 a1 a2 a3 a4 a5 a6/\p3 a1 a2 a3 a4 a5 a6/\p4 a1 a2 a3 a4 a5 a6/\p5 a1 a2 a3 a4 a5 a6/\p6 a1 a2 a3 a4 a5 a6/\p7 a1 a2 a3 a4 a5 a6)(k:∀a1,∀a2,∀a3,∀a4,∀a5,∀a6,p1 a1 a2 a3 a4 a5 a6->p2 a1 a2 a3 a4 a5 a6->p3 a1 a2 a3 a4 a5 a6->p4 a1 a2 a3 a4 a5 a6->p5 a1 a2 a3 a4 a5 a6->p6 a1 a2 a3 a4 a5 a6->p7 a1 a2 a3 a4 a5 a6->P):P:=
 h.elim λa1 g1=>g1.elim λa2 g2=>g2.elim λa3 g3=>g3.elim λa4 g4=>g4.elim λa5 g5=>g5.elim λa6 g6=>k a1 a2 a3 a4 a5 a6 g6.1 g6.2.1 g6.2.2.1 g6.2.2.2.1 g6.2.2.2.2.1 g6.2.2.2.2.2.1 g6.2.2.2.2.2.2
theorem kE{α β γ δ ε ζ:Type}{p1:α->Prop}{p2:α->β->γ->δ->ε->ζ->Prop}{p3:α->β->γ->δ->ε->ζ->Prop}{p4:α->β->γ->δ->ε->ζ->Prop}{p5:α->β->γ->δ->ε->ζ->Prop}{p6:α->β->γ->δ->ε->ζ->Prop}{p7:α->β->γ->δ->ε->ζ->Prop}{p8:α->β->γ->δ->ε->ζ->Prop}{P:Prop}(h:∃a1,p1 a1/\(∃a2,∃a3,∃a4,∃a5,∃a6,p2 a1 a2 a3 a4 a5 a6/\p3 a1 a2 a3 a4 a5 a6/\p4 a1 a2 a3 a4 a5 a6/\p5 a1 a2 a3 a4 a5 a6/\p6 a1 a2 a3 a4 a5 a6/\p7 a1 a2 a3 a4 a5 a6/\p8 a1 a2 a3 a4 a5 a6))(k:∀a1,p1 a1->∀a2,∀a3,∀a4,∀a5,∀a6,p2 a1 a2 a3 a4 a5 a6->p3 a1 a2 a3 a4 a5 a6->p4 a1 a2 a3 a4 a5 a6->p5 a1 a2 a3 a4 a5 a6->p6 a1 a2 a3 a4 a5 a6->p7 a1 a2 a3 a4 a5 a6->p8 a1 a2 a3 a4 a5 a6->P):P:=
 h.elim λa1 g1=>g1.2.elim λa2 g2=>g2.elim λa3 g3=>g3.elim λa4 g4=>g4.elim λa5 g5=>g5.elim λa6 g6=>k a1 g1.1 a2 a3 a4 a5 a6 g6.1 g6.2.1 g6.2.2.1 g6.2.2.2.1 g6.2.2.2.2.1 g6.2.2.2.2.2.1 g6.2.2.2.2.2.2
theorem iq{α β γ δ ε ζ η θ ι κ:Type}{p1:α->β->γ->δ->ε->ζ->η->θ->ι->κ->Prop}{p2:α->β->γ->δ->ε->ζ->η->θ->ι->κ->Prop}{p3:α->β->γ->δ->ε->ζ->η->θ->ι->κ->Prop}{p4:α->β->γ->δ->ε->ζ->η->θ->ι->κ->Prop}{p5:α->β->γ->δ->ε->ζ->η->θ->ι->κ->Prop}{p6:α->β->γ->δ->ε->ζ->η->θ->ι->κ->Prop}{p7:α->β->γ->δ->ε->ζ->η->θ->ι->κ->Prop}{P:Prop}(h:∃a1,∃a2,∃a3,∃a4,∃a5,∃a6,∃a7,∃a8,∃a9,∃a10,p1 a1 a2 a3 a4 a5 a6 a7 a8 a9 a10/\p2 a1 a2 a3 a4 a5 a6 a7 a8 a9 a10/\p3 a1 a2 a3 a4 a5 a6 a7 a8 a9 a10/\p4 a1 a2 a3 a4 a5 a6 a7 a8 a9 a10/\p5 a1 a2 a3 a4 a5 a6 a7 a8 a9 a10/\p6 a1 a2 a3 a4 a5 a6 a7 a8 a9 a10/\p7 a1 a2 a3 a4 a5 a6 a7 a8 a9 a10)(k:∀a1,∀a2,∀a3,∀a4,∀a5,∀a6,∀a7,∀a8,∀a9,∀a10,p1 a1 a2 a3 a4 a5 a6 a7 a8 a9 a10->p2 a1 a2 a3 a4 a5 a6 a7 a8 a9 a10->p3 a1 a2 a3 a4 a5 a6 a7 a8 a9 a10->p4 a1 a2 a3 a4 a5 a6 a7 a8 a9 a10->p5 a1 a2 a3 a4 a5 a6 a7 a8 a9 a10->p6 a1 a2 a3 a4 a5 a6 a7 a8 a9 a10->p7 a1 a2 a3 a4 a5 a6 a7 a8 a9 a10->P):P:=
 h.elim λa1 g1=>g1.elim λa2 g2=>g2.elim λa3 g3=>g3.elim λa4 g4=>g4.elim λa5 g5=>g5.elim λa6 g6=>g6.elim λa7 g7=>g7.elim λa8 g8=>g8.elim λa9 g9=>g9.elim λa10 g10=>k a1 a2 a3 a4 a5 a6 a7 a8 a9 a10 g10.1 g10.2.1 g10.2.2.1 g10.2.2.2.1 g10.2.2.2.2.1 g10.2.2.2.2.2.1 g10.2.2.2.2.2.2
section
variable{γ:Type} {r:γ} {P:Prop}
theorem pj{x1:Bool}{f0 f1:Bool}(h:(match x1 with|true=>f0|false=>f1)=true)(k0:x1=true->f0=true->P)(k1:x1=false->f1=true->P):P:=by generalize e1':x1=z1 at h;exact Bool.casesOn z1 (λe1 h1=>k1 e1 h1) (λe1 h1=>k0 e1 h1) e1' h
theorem ah{x1:Bool}{f0 f1:Option γ}(h:(match x1 with|true=>f0|false=>f1)=some r)(k0:x1=true->f0=some r->P)(k1:x1=false->f1=some r->P):P:=by generalize e1':x1=z1 at h;exact Bool.casesOn z1 (λe1 h1=>k1 e1 h1) (λe1 h1=>k0 e1 h1) e1' h
theorem bA{x1:Bool}{f1:Option γ}(h:(match x1 with|true=>none|false=>f1)=some r)(k1:x1=false->f1=some r->P):P:=by generalize e1':x1=z1 at h;exact Bool.casesOn z1 (λe1 h1=>k1 e1 h1) (λe=>aa) e1' h
theorem cb{x1:Bool}{f0:Bool}(h:(match x1 with|true=>f0|false=>false)=true)(k0:x1=true->f0=true->P):P:=by generalize e1':x1=z1 at h;exact Bool.casesOn z1 (λe=>ai) (λe1 h1=>k0 e1 h1) e1' h
theorem ab{x1:Bool}{f0:Option γ}(h:(match x1 with|true=>f0|false=>none)=some r)(k0:x1=true->f0=some r->P):P:=by generalize e1':x1=z1 at h;exact Bool.casesOn z1 (λe=>aa) (λe1 h1=>k0 e1 h1) e1' h
theorem ph{x1:Option SV}{f0:SV->Bool}(h:(match x1 with|some a1=>f0 a1|none=>false)=true)(k0:∀a1,x1=some a1->f0 a1=true->P):P:=by generalize e1':x1=z1 at h;exact Option.casesOn z1 (λe=>ai) (λa1 e1 h1=>k0 a1 e1 h1) e1' h
theorem dE{x1:Option SV}{f0:SV->Option γ}(h:(match x1 with|some a1=>f0 a1|none=>none)=some r)(k0:∀a1,x1=some a1->f0 a1=some r->P):P:=by generalize e1':x1=z1 at h;exact Option.casesOn z1 (λe=>aa) (λa1 e1 h1=>k0 a1 e1 h1) e1' h
theorem lC{x1:Option (Bool×St)}{f0:Bool->St->Option γ}(h:(match x1 with|some (a1,a2)=>f0 a1 a2|none=>none)=some r)(k0:∀a1 a2,x1=some (a1,a2)->f0 a1 a2=some r->P):P:=by generalize e1':x1=z1 at h;exact Option.casesOn z1 (λe=>aa) (λa1 e1 h1=>k0 a1.1 a1.2 e1 h1) e1' h
theorem rq{x1 x2:Option Bool}{f0:Bool->Bool->Option γ}(h:(match x1,x2 with|some a1,some a2=>f0 a1 a2|a1,a2=>none)=some r)(k0:∀a1 a2,x1=some a1->x2=some a2->f0 a1 a2=some r->P):P:=by generalize e1':x1=z1,e2':x2=z2 at h;exact Option.casesOn z1 (λe=>aa) (λa1 e1 h1=>Option.casesOn z2 (λe=>aa) (λa2 e2 h2=>k0 a1 a2 e1 e2 h2) e2' h1) e1' h
theorem m5{x1:PExpr}{f0:Str->Pos->Option γ}{f1:(List PExpr)->Nat->Pos->Option γ}{f2:PExpr->Str->Pos->Option γ}{f3:PExpr->PExpr->Pos->Option γ}(h:(match x1 with|Expr.Name a1 a2=>f0 a1 a2|Expr.Tuple a1 a2 a3=>f1 a1 a2 a3|Expr.Attribute a1 a2 a3=>f2 a1 a2 a3|Expr.Subscript a1 a2 a3=>f3 a1 a2 a3|a1=>none)=some r)(k0:∀a1 a2,x1=Expr.Name a1 a2->f0 a1 a2=some r->P)(k1:∀a1 a2 a3,x1=Expr.Tuple a1 a2 a3->f1 a1 a2 a3=some r->P)(k2:∀a1 a2 a3,x1=Expr.Attribute a1 a2 a3->f2 a1 a2 a3=some r->P)(k3:∀a1 a2 a3,x1=Expr.Subscript a1 a2 a3->f3 a1 a2 a3=some r->P):P:=by
 obtain⟨z1,e1⟩:∃z,x1=z:=⟨_,rfl⟩
 rw[e1]at h;induction z1 using PySem.Expr.casesOn with
 |Attribute y1'0 y1'1 y1'2=>exact k2 _ _ _ e1 h
 |Subscript y1'0 y1'1 y1'2=>exact k3 _ _ _ e1 h
 |Name y1'0 y1'1=>exact k0 _ _ e1 h
 |Tuple y1'0 y1'1 y1'2=>exact k1 _ _ _ e1 h
 |_=>exact aa h
theorem pf{x1 x2 x3:Option PExpr}{f0:PExpr->Option γ}(h:(match x1,x2,x3 with|some a1,none,none=>f0 a1|a1,a2,a3=>none)=some r)(k0:∀a1,x1=some a1->x2=none->x3=none->f0 a1=some r->P):P:=by generalize e1':x1=z1,e2':x2=z2,e3':x3=z3 at h;exact Option.casesOn z1 (λe=>aa) (λa1 e1 h1=>Option.casesOn z2 (λe2 h2=>Option.casesOn z3 (λe3 h3=>k0 a1 e1 e2 e3 h3) (λa e=>aa) e3' h2) (λa e=>aa) e2' h1) e1' h
theorem pd{x1:Option SO}{f0 f1:(List SV)->Option γ}(h:(match x1 with|some (SO.tup a1)=>f0 a1|some (SO.lst 0 a1)=>f1 a1|a1=>none)=some r)(k0:∀a1,x1=some (SO.tup a1)->f0 a1=some r->P)(k1:∀a1,x1=some (SO.lst 0 a1)->f1 a1=some r->P):P:=by generalize e1':x1=z1 at h;exact Option.casesOn z1 (λe=>aa) (λa1 e1 h1=>SO.casesOn a1 (λa b e=>aa) (λa e=>aa) (λa e=>aa) (λa b e=>aa) (λa2 e2 h2=>k0 a2 e2 h2) (λa2 b2 e2 h2=>Nat.casesOn a2 (λe3 h3=>k1 b2 e3 h3) (λa e=>aa) e2 h2) (λa e=>aa) (λa e=>aa) (λa b c e=>aa) (λa e=>aa) (λa e=>aa) e1 h1) e1' h
theorem pa{x1:Option (List Str)}{x2:SV}{f0:(List Str)->Nat->Option γ}(h:(match x1,x2 with|some a1,SV.ref a2=>f0 a1 a2|a1,a2=>none)=some r)(k0:∀a1 a2,x1=some a1->x2=SV.ref a2->f0 a1 a2=some r->P):P:=by generalize e1':x1=z1,e2':x2=z2 at h;exact Option.casesOn z1 (λe=>aa) (λa1 e1 h1=>SV.casesOn z2 (λe=>aa) (λa e=>aa) (λa e=>aa) (λa b e=>aa) (λa e=>aa) (λa2 e2 h2=>k0 a1 a2 e1 e2 h2) (λa e=>aa) (λa e=>aa) (λa e=>aa) (λe=>aa) e2' h1) e1' h
theorem du{x1:Option SO}{f0:(List (Str×SV))->Option γ}(h:(match x1 with|some (SO.sd a1)=>f0 a1|a1=>none)=some r)(k0:∀a1,x1=some (SO.sd a1)->f0 a1=some r->P):P:=by generalize e1':x1=z1 at h;exact Option.casesOn z1 (λe=>aa) (λa1 e1 h1=>SO.casesOn a1 (λa b e=>aa) (λa2 e2 h2=>k0 a2 e2 h2) (λa e=>aa) (λa b e=>aa) (λa e=>aa) (λa b e=>aa) (λa e=>aa) (λa e=>aa) (λa b c e=>aa) (λa e=>aa) (λa e=>aa) e1 h1) e1' h
theorem lA{x1:Option SO}{f0:Nat->Nat->Option γ}(h:(match x1 with|some (SO.inst a1 a2)=>f0 a1 a2|a1=>none)=some r)(k0:∀a1 a2,x1=some (SO.inst a1 a2)->f0 a1 a2=some r->P):P:=by generalize e1':x1=z1 at h;exact Option.casesOn z1 (λe=>aa) (λa1 e1 h1=>SO.casesOn a1 (λa2 b2 e2 h2=>k0 a2 b2 e2 h2) (λa e=>aa) (λa e=>aa) (λa b e=>aa) (λa e=>aa) (λa b e=>aa) (λa e=>aa) (λa e=>aa) (λa b c e=>aa) (λa e=>aa) (λa e=>aa) e1 h1) e1' h
theorem rj{x1:Option SO}{f0 f1:SV->Option γ}(h:(match x1 with|some (SO.lst 0 [a1])=>f0 a1|some (SO.tup [a1])=>f1 a1|a1=>none)=some r)(k0:∀a1,x1=some (SO.lst 0 [a1])->f0 a1=some r->P)(k1:∀a1,x1=some (SO.tup [a1])->f1 a1=some r->P):P:=by generalize e1':x1=z1 at h;exact Option.casesOn z1 (λe=>aa) (λa1 e1 h1=>SO.casesOn a1 (λa b e=>aa) (λa e=>aa) (λa e=>aa) (λa b e=>aa) (λa2 e2 h2=>List.casesOn a2 (λe=>aa) (λa3 b3 e3 h3=>List.casesOn b3 (λe4 h4=>k1 a3 e4 h4) (λa b e=>aa) e3 h3) e2 h2) (λa2 b2 e2 h2=>Nat.casesOn a2 (λe3 h3=>List.casesOn b2 (λe=>aa) (λa4 b4 e4 h4=>List.casesOn b4 (λe5 h5=>k0 a4 e5 h5) (λa b e=>aa) e4 h4) e3 h3) (λa e=>aa) e2 h2) (λa e=>aa) (λa e=>aa) (λa b c e=>aa) (λa e=>aa) (λa e=>aa) e1 h1) e1' h
theorem rc{x1:Option Bool}{f0:Bool->Option γ}(h:(match x1 with|some a1=>f0 a1|none=>none)=some r)(k0:∀a1,x1=some a1->f0 a1=some r->P):P:=by generalize e1':x1=z1 at h;exact Option.casesOn z1 (λe=>aa) (λa1 e1 h1=>k0 a1 e1 h1) e1' h
theorem lz{x1:Option Me}{f0:Me->Option γ}(h:(match x1 with|some a1=>f0 a1|none=>none)=some r)(k0:∀a1,x1=some a1->f0 a1=some r->P):P:=by generalize e1':x1=z1 at h;exact Option.casesOn z1 (λe=>aa) (λa1 e1 h1=>k0 a1 e1 h1) e1' h
theorem q9{x1:Option SO}{f0 f1:(List SV)->Option γ}(h:(match x1 with|some (SO.lst 0 a1)=>f0 a1|some (SO.tup a1)=>f1 a1|a1=>none)=some r)(k0:∀a1,x1=some (SO.lst 0 a1)->f0 a1=some r->P)(k1:∀a1,x1=some (SO.tup a1)->f1 a1=some r->P):P:=by generalize e1':x1=z1 at h;exact Option.casesOn z1 (λe=>aa) (λa1 e1 h1=>SO.casesOn a1 (λa b e=>aa) (λa e=>aa) (λa e=>aa) (λa b e=>aa) (λa2 e2 h2=>k1 a2 e2 h2) (λa2 b2 e2 h2=>Nat.casesOn a2 (λe3 h3=>k0 b2 e3 h3) (λa e=>aa) e2 h2) (λa e=>aa) (λa e=>aa) (λa b c e=>aa) (λa e=>aa) (λa e=>aa) e1 h1) e1' h
theorem q8{x1:Bi}{x2:List SV}{f0:SV->Option γ}{f1:Int->Option γ}{f2 f3 f4:Nat->Option γ}(h:(match x1,x2 with|Bi.len,[a1]=>f0 a1|Bi.range,[SV.int a1]=>f1 a1|Bi.tuple,[SV.ref a1]=>f2 a1|Bi.list,[SV.ref a1]=>f3 a1|Bi.str,[SV.int (Int.ofNat a1)]=>f4 a1|a1,a2=>none)=some r)(k0:∀a1,x1=Bi.len->x2=[a1]->f0 a1=some r->P)(k1:∀a1,x1=Bi.range->x2=[SV.int a1]->f1 a1=some r->P)(k2:∀a1,x1=Bi.tuple->x2=[SV.ref a1]->f2 a1=some r->P)(k3:∀a1,x1=Bi.list->x2=[SV.ref a1]->f3 a1=some r->P)(k4:∀a1,x1=Bi.str->x2=[SV.int (Int.ofNat a1)]->f4 a1=some r->P):P:=by generalize e1':x1=z1,e2':x2=z2 at h;exact Bi.casesOn z1 (λe1 h1=>List.casesOn z2 (λe=>aa) (λa2 b2 e2 h2=>List.casesOn b2 (λe3 h3=>k0 a2 e1 e3 h3) (λa b e=>aa) e2 h2) e2' h1) (λe1 h1=>List.casesOn z2 (λe=>aa) (λa2 b2 e2 h2=>SV.casesOn a2 (λe=>aa) (λa e=>aa) (λa3 e3 h3=>List.casesOn b2 (λe4 h4=>k1 a3 e1 e4 h4) (λa b e=>aa) e3 h3) (λa b e=>aa) (λa e=>aa) (λa e=>aa) (λa e=>aa) (λa e=>aa) (λa e=>aa) (λe=>aa) e2 h2) e2' h1) (λe1 h1=>List.casesOn z2 (λe=>aa) (λa2 b2 e2 h2=>SV.casesOn a2 (λe=>aa) (λa e=>aa) (λa e=>aa) (λa b e=>aa) (λa e=>aa) (λa3 e3 h3=>List.casesOn b2 (λe4 h4=>k2 a3 e1 e4 h4) (λa b e=>aa) e3 h3) (λa e=>aa) (λa e=>aa) (λa e=>aa) (λe=>aa) e2 h2) e2' h1) (λe1 h1=>List.casesOn z2 (λe=>aa) (λa2 b2 e2 h2=>SV.casesOn a2 (λe=>aa) (λa e=>aa) (λa3 e3 h3=>Int.casesOn a3 (λa4 e4 h4=>List.casesOn b2 (λe5 h5=>k4 a4 e1 e5 h5) (λa b e=>aa) e4 h4) (λa e=>aa) e3 h3) (λa b e=>aa) (λa e=>aa) (λa e=>aa) (λa e=>aa) (λa e=>aa) (λa e=>aa) (λe=>aa) e2 h2) e2' h1) (λe1 h1=>List.casesOn z2 (λe=>aa) (λa2 b2 e2 h2=>SV.casesOn a2 (λe=>aa) (λa e=>aa) (λa e=>aa) (λa b e=>aa) (λa e=>aa) (λa3 e3 h3=>List.casesOn b2 (λe4 h4=>k3 a3 e1 e4 h4) (λa b e=>aa) e3 h3) (λa e=>aa) (λa e=>aa) (λa e=>aa) (λe=>aa) e2 h2) e2' h1) e1' h
theorem eT{x1:Option FuncData}{f0:FuncData->Option γ}(h:(match x1 with|some a1=>f0 a1|none=>none)=some r)(k0:∀a1,x1=some a1->f0 a1=some r->P):P:=by generalize e1':x1=z1 at h;exact Option.casesOn z1 (λe=>aa) (λa1 e1 h1=>k0 a1 e1 h1) e1' h
theorem gX{x1:FuncBody}{f0:(List Stmt)->Option γ}(h:(match x1 with|FuncBody.stmts a1=>f0 a1|FuncBody.expr a1=>none)=some r)(k0:∀a1,x1=FuncBody.stmts a1->f0 a1=some r->P):P:=by generalize e1':x1=z1 at h;exact FuncBody.casesOn z1 (λa1 e1 h1=>k0 a1 e1 h1) (λa e=>aa) e1' h
theorem gW{x1 x2:Bool}{x3:Option (List (Str×SV))}{f0:(List (Str×SV))->Option γ}(h:(match x1,x2,x3 with|true,false,some a1=>f0 a1|a1,a2,a3=>none)=some r)(k0:∀a1,x1=true->x2=false->x3=some a1->f0 a1=some r->P):P:=by generalize e1':x1=z1,e2':x2=z2,e3':x3=z3 at h;exact Bool.casesOn z1 (λe=>aa) (λe1 h1=>Bool.casesOn z2 (λe2 h2=>Option.casesOn z3 (λe=>aa) (λa3 e3 h3=>k0 a3 e1 e2 e3 h3) e3' h2) (λe=>aa) e2' h1) e1' h
theorem o9{x1:Option SO}{f0:Nat->(List SV)->Option γ}{f1:Nat->(List (SV×SV))->(List SV)->Option γ}(h:(match x1 with|some (SO.lst a1 a2)=>f0 a1 a2|some (SO.tab a1 a2 a3)=>f1 a1 a2 a3|a1=>none)=some r)(k0:∀a1 a2,x1=some (SO.lst a1 a2)->f0 a1 a2=some r->P)(k1:∀a1 a2 a3,x1=some (SO.tab a1 a2 a3)->f1 a1 a2 a3=some r->P):P:=by generalize e1':x1=z1 at h;exact Option.casesOn z1 (λe=>aa) (λa1 e1 h1=>SO.casesOn a1 (λa b e=>aa) (λa e=>aa) (λa e=>aa) (λa b e=>aa) (λa e=>aa) (λa2 b2 e2 h2=>k0 a2 b2 e2 h2) (λa e=>aa) (λa e=>aa) (λa2 b2 c2 e2 h2=>k1 a2 b2 c2 e2 h2) (λa e=>aa) (λa e=>aa) e1 h1) e1' h
theorem o8{x1:SV}{x2:List SV}{f0:Nat->SV->Option γ}(h:(match x1,x2 with|SV.ref a1,[a2]=>f0 a1 a2|a1,a2=>none)=some r)(k0:∀a1 a2,x1=SV.ref a1->x2=[a2]->f0 a1 a2=some r->P):P:=by generalize e1':x1=z1,e2':x2=z2 at h;exact SV.casesOn z1 (λe=>aa) (λa e=>aa) (λa e=>aa) (λa b e=>aa) (λa e=>aa) (λa1 e1 h1=>List.casesOn z2 (λe=>aa) (λa2 b2 e2 h2=>List.casesOn b2 (λe3 h3=>k0 a1 a2 e1 e3 h3) (λa b e=>aa) e2 h2) e2' h1) (λa e=>aa) (λa e=>aa) (λa e=>aa) (λe=>aa) e1' h
theorem q7{x1:Me}{f0:Nat->Option γ}{f1 f2:Option γ}(h:(match x1 with|Me.fn a1=>f0 a1|Me.append=>f1|Me.get=>f2)=some r)(k0:∀a1,x1=Me.fn a1->f0 a1=some r->P)(k1:x1=Me.append->f1=some r->P)(k2:x1=Me.get->f2=some r->P):P:=by generalize e1':x1=z1 at h;exact Me.casesOn z1 (λa1 e1 h1=>k0 a1 e1 h1) (λe1 h1=>k1 e1 h1) (λe1 h1=>k2 e1 h1) e1' h
theorem j9{x1:Option (SV×St)}{f0:Nat->St->Option γ}{f1:Bi->St->Option γ}(h:(match x1 with|some (SV.top a1,a2)=>f0 a1 a2|some (SV.bi a1,a2)=>f1 a1 a2|a1=>none)=some r)(k0:∀a1 a2,x1=some (SV.top a1,a2)->f0 a1 a2=some r->P)(k1:∀a1 a2,x1=some (SV.bi a1,a2)->f1 a1 a2=some r->P):P:=by generalize e1':x1=z1 at h;exact Option.casesOn z1 (λe=>aa) (λa1 e1 h1=>Prod.casesOn a1 (λa2 b2 e2 h2=>SV.casesOn a2 (λe=>aa) (λa e=>aa) (λa e=>aa) (λa b e=>aa) (λa e=>aa) (λa e=>aa) (λa3 e3 h3=>k0 a3 b2 e3 h3) (λa3 e3 h3=>k1 a3 b2 e3 h3) (λa e=>aa) (λe=>aa) e2 h2) e1 h1) e1' h
theorem j0{x1:List SV}{f0:SV->Int->Option γ}(h:(match x1 with|[a1,SV.int a2]=>f0 a1 a2|a1=>none)=some r)(k0:∀a1 a2,x1=[a1,SV.int a2]->f0 a1 a2=some r->P):P:=by generalize e1':x1=z1 at h;exact List.casesOn z1 (λe=>aa) (λa1 b1 e1 h1=>List.casesOn b1 (λe=>aa) (λa2 b2 e2 h2=>SV.casesOn a2 (λe=>aa) (λa e=>aa) (λa3 e3 h3=>List.casesOn b2 (λe4 h4=>k0 a1 a3 e4 h4) (λa b e=>aa) e3 h3) (λa b e=>aa) (λa e=>aa) (λa e=>aa) (λa e=>aa) (λa e=>aa) (λa e=>aa) (λe=>aa) e2 h2) e1 h1) e1' h
theorem jZ{x1:Option (SV×St)}{f0:St->Option γ}(h:(match x1 with|some (SV.none,a1)=>f0 a1|a1=>none)=some r)(k0:∀a1,x1=some (SV.none,a1)->f0 a1=some r->P):P:=by generalize e1':x1=z1 at h;exact Option.casesOn z1 (λe=>aa) (λa1 e1 h1=>Prod.casesOn a1 (λa2 b2 e2 h2=>SV.casesOn a2 (λe3 h3=>k0 b2 e3 h3) (λa e=>aa) (λa e=>aa) (λa b e=>aa) (λa e=>aa) (λa e=>aa) (λa e=>aa) (λa e=>aa) (λa e=>aa) (λe=>aa) e2 h2) e1 h1) e1' h
theorem ie{x1:SV}{f0:Option γ}(h:(match x1 with|SV.none=>f0|a1=>none)=some r)(k0:x1=SV.none->f0=some r->P):P:=by generalize e1':x1=z1 at h;exact SV.casesOn z1 (λe1 h1=>k0 e1 h1) (λa e=>aa) (λa e=>aa) (λa b e=>aa) (λa e=>aa) (λa e=>aa) (λa e=>aa) (λa e=>aa) (λa e=>aa) (λe=>aa) e1' h
theorem mq{x1:ScopeKind}{f0:Bool}(h:(match x1 with|ScopeKind.function=>f0|a1=>false)=true)(k0:x1=ScopeKind.function->f0=true->P):P:=by generalize e1':x1=z1 at h;exact ScopeKind.casesOn z1 (λe=>ai) (λe1 h1=>k0 e1 h1) (λe=>ai) (λe=>ai) (λe=>ai) (λe=>ai) (λe=>ai) e1' h
theorem ly{x1:List SV}{x2:Option SK}{f0:SK->Option γ}(h:(match x1,x2 with|[],some a1=>f0 a1|a1,a2=>none)=some r)(k0:∀a1,x1=[]->x2=some a1->f0 a1=some r->P):P:=by generalize e1':x1=z1,e2':x2=z2 at h;exact List.casesOn z1 (λe1 h1=>Option.casesOn z2 (λe=>aa) (λa2 e2 h2=>k0 a2 e1 e2 h2) e2' h1) (λa b e=>aa) e1' h
theorem vX{x1 x2:SV}{f0:Nat->Option γ}(h:(match x1,x2 with|SV.int (Int.ofNat a1),SV.none=>f0 a1|a1,a2=>none)=some r)(k0:∀a1,x1=SV.int (Int.ofNat a1)->x2=SV.none->f0 a1=some r->P):P:=by generalize e1':x1=z1,e2':x2=z2 at h;exact SV.casesOn z1 (λe=>aa) (λa e=>aa) (λa1 e1 h1=>Int.casesOn a1 (λa2 e2 h2=>SV.casesOn z2 (λe3 h3=>k0 a2 e2 e3 h3) (λa e=>aa) (λa e=>aa) (λa b e=>aa) (λa e=>aa) (λa e=>aa) (λa e=>aa) (λa e=>aa) (λa e=>aa) (λe=>aa) e2' h2) (λa e=>aa) e1 h1) (λa b e=>aa) (λa e=>aa) (λa e=>aa) (λa e=>aa) (λa e=>aa) (λa e=>aa) (λe=>aa) e1' h
theorem vU{x1:Option SO}{f0:(List SV)->Option γ}{f1:Nat->(List SV)->Option γ}(h:(match x1 with|some (SO.tup a1)=>f0 a1|some (SO.lst a1 a2)=>f1 a1 a2|a1=>none)=some r)(k0:∀a1,x1=some (SO.tup a1)->f0 a1=some r->P)(k1:∀a1 a2,x1=some (SO.lst a1 a2)->f1 a1 a2=some r->P):P:=by generalize e1':x1=z1 at h;exact Option.casesOn z1 (λe=>aa) (λa1 e1 h1=>SO.casesOn a1 (λa b e=>aa) (λa e=>aa) (λa e=>aa) (λa b e=>aa) (λa2 e2 h2=>k0 a2 e2 h2) (λa2 b2 e2 h2=>k1 a2 b2 e2 h2) (λa e=>aa) (λa e=>aa) (λa b c e=>aa) (λa e=>aa) (λa e=>aa) e1 h1) e1' h
theorem cV{x1:Option SK}{f0:SK->Option γ}(h:(match x1 with|some a1=>f0 a1|none=>none)=some r)(k0:∀a1,x1=some a1->f0 a1=some r->P):P:=by generalize e1':x1=z1 at h;exact Option.casesOn z1 (λe=>aa) (λa1 e1 h1=>k0 a1 e1 h1) e1' h
theorem gv{x1:Option (List (SV×SV)×St)}{f0:(List (SV×SV))->St->Option γ}(h:(match x1 with|some (a1,a2)=>f0 a1 a2|none=>none)=some r)(k0:∀a1 a2,x1=some (a1,a2)->f0 a1 a2=some r->P):P:=by generalize e1':x1=z1 at h;exact Option.casesOn z1 (λe=>aa) (λa1 e1 h1=>k0 a1.1 a1.2 e1 h1) e1' h
theorem ic{x1:Option Bool}{f0:Option γ}(h:(match x1 with|some false=>f0|a1=>none)=some r)(k0:x1=some false->f0=some r->P):P:=by generalize e1':x1=z1 at h;exact Option.casesOn z1 (λe=>aa) (λa1 e1 h1=>Bool.casesOn a1 (λe2 h2=>k0 e2 h2) (λe=>aa) e1 h1) e1' h
theorem jz{x1:Option Bool}{f0 f1 f2:Option γ}(h:(match x1 with|some true=>f0|some false=>f1|none=>f2)=some r)(k0:x1=some true->f0=some r->P)(k1:x1=some false->f1=some r->P)(k2:x1=none->f2=some r->P):P:=by generalize e1':x1=z1 at h;exact Option.casesOn z1 (λe1 h1=>k2 e1 h1) (λa1 e1 h1=>Bool.casesOn a1 (λe2 h2=>k1 e2 h2) (λe2 h2=>k0 e2 h2) e1 h1) e1' h
theorem ib{x1:Option Bool}{f0 f1:Option γ}(h:(match x1 with|some true=>f0|some false=>f1|none=>none)=some r)(k0:x1=some true->f0=some r->P)(k1:x1=some false->f1=some r->P):P:=by generalize e1':x1=z1 at h;exact Option.casesOn z1 (λe=>aa) (λa1 e1 h1=>Bool.casesOn a1 (λe2 h2=>k1 e2 h2) (λe2 h2=>k0 e2 h2) e1 h1) e1' h
theorem oY{x1:List Keyword}{f0:Option γ}(h:(match x1 with|[]=>f0|a1=>none)=some r)(k0:x1=[]->f0=some r->P):P:=by generalize e1':x1=z1 at h;exact List.casesOn z1 (λe1 h1=>k0 e1 h1) (λa b e=>aa) e1' h
theorem qY{x1:List CmpOp}{x2:List PExpr}{f0:CmpOp->PExpr->Option γ}(h:(match x1,x2 with|[a1],[a2]=>f0 a1 a2|a1,a2=>none)=some r)(k0:∀a1 a2,x1=[a1]->x2=[a2]->f0 a1 a2=some r->P):P:=by generalize e1':x1=z1,e2':x2=z2 at h;exact List.casesOn z1 (λe=>aa) (λa1 b1 e1 h1=>List.casesOn b1 (λe2 h2=>List.casesOn z2 (λe=>aa) (λa3 b3 e3 h3=>List.casesOn b3 (λe4 h4=>k0 a1 a3 e2 e4 h4) (λa b e=>aa) e3 h3) e2' h2) (λa b e=>aa) e1 h1) e1' h
theorem oX{x1:Bool}{x2:Option (List (Str×Nat))}{f0:(List (Str×Nat))->Option γ}(h:(match x1,x2 with|true,some a1=>f0 a1|a1,a2=>none)=some r)(k0:∀a1,x1=true->x2=some a1->f0 a1=some r->P):P:=by generalize e1':x1=z1,e2':x2=z2 at h;exact Bool.casesOn z1 (λe=>aa) (λe1 h1=>Option.casesOn z2 (λe=>aa) (λa2 e2 h2=>k0 a2 e1 e2 h2) e2' h1) e1' h
theorem oW{x1:List Comprehension}{f0:PExpr->PExpr->(List PExpr)->Option γ}(h:(match x1 with|[Comprehension.mk a1 a2 a3 0]=>f0 a1 a2 a3|a1=>none)=some r)(k0:∀a1 a2 a3,x1=[Comprehension.mk a1 a2 a3 0]->f0 a1 a2 a3=some r->P):P:=by
 obtain⟨z1,e1⟩:∃z,x1=z:=⟨_,rfl⟩
 rw[e1]at h;induction z1 using List.casesOn with
 |cons y1'0 y1'1=>
  cases y1'0 with
  |mk y2'0 y2'1 y2'2 y2'3=>
   induction y2'3 using Int.casesOn with
   |ofNat y3'0=>
    induction y3'0 using Nat.casesOn with
    |zero=>
     induction y1'1 using List.casesOn with
     |nil=>exact k0 _ _ _ e1 h
     |_=>exact aa h
    |_=>exact aa h
   |_=>exact aa h
 |_=>exact aa h
theorem ml{x1:Const}{f0:Option γ}{f1:Bool->Option γ}{f2:Int->Option γ}{f3:Str->Option γ}(h:(match x1 with|Const.none=>f0|Const.bool a1=>f1 a1|Const.int a1=>f2 a1|Const.str a1=>f3 a1|a1=>none)=some r)(k0:x1=Const.none->f0=some r->P)(k1:∀a1,x1=Const.bool a1->f1 a1=some r->P)(k2:∀a1,x1=Const.int a1->f2 a1=some r->P)(k3:∀a1,x1=Const.str a1->f3 a1=some r->P):P:=by generalize e1':x1=z1 at h;exact Const.casesOn z1 (λe1 h1=>k0 e1 h1) (λa1 e1 h1=>k1 a1 e1 h1) (λa1 e1 h1=>k2 a1 e1 h1) (λa e=>aa) (λa b e=>aa) (λa1 e1 h1=>k3 a1 e1 h1) (λa e=>aa) (λe=>aa) e1' h
theorem d8{x1:Option (Bool×St)}{f0 f1:St->Option γ}(h:(match x1 with|some (true,a1)=>f0 a1|some (false,a1)=>f1 a1|none=>none)=some r)(k0:∀a1,x1=some (true,a1)->f0 a1=some r->P)(k1:∀a1,x1=some (false,a1)->f1 a1=some r->P):P:=by generalize e1':x1=z1 at h;exact Option.casesOn z1 (λe=>aa) (λa1 e1 h1=>Prod.casesOn a1 (λa2 b2 e2 h2=>Bool.casesOn a2 (λe3 h3=>k1 b2 e3 h3) (λe3 h3=>k0 b2 e3 h3) e2 h2) e1 h1) e1' h
theorem gV{x1:PExpr}{f0:(Option PExpr)->(Option PExpr)->(Option PExpr)->Pos->Option γ}{f1:PExpr->Option γ}(h:(match x1 with|Expr.Slice a1 a2 a3 a4=>f0 a1 a2 a3 a4|a1=>f1 a1)=some r)(k0:∀a1 a2 a3 a4,x1=Expr.Slice a1 a2 a3 a4->f0 a1 a2 a3 a4=some r->P)(k1:∀a1,x1=a1->f1 a1=some r->P):P:=by
 obtain⟨z1,e1⟩:∃z,x1=z:=⟨_,rfl⟩
 rw[e1]at h;induction z1 using PySem.Expr.casesOn with
 |BoolOp y1'0 y1'1 y1'2=>exact k1 _ e1 h
 |NamedExpr y1'0 y1'1 y1'2=>exact k1 _ e1 h
 |BinOp y1'0 y1'1 y1'2 y1'3=>exact k1 _ e1 h
 |UnaryOp y1'0 y1'1 y1'2=>exact k1 _ e1 h
 |Lambda y1'0 y1'1 y1'2 y1'3=>exact k1 _ e1 h
 |IfExp y1'0 y1'1 y1'2 y1'3=>exact k1 _ e1 h
 |Dict y1'0 y1'1 y1'2=>exact k1 _ e1 h
 |Set y1'0 y1'1 y1'2=>exact k1 _ e1 h
 |ListComp y1'0 y1'1 y1'2 y1'3=>exact k1 _ e1 h
 |SetComp y1'0 y1'1 y1'2 y1'3=>exact k1 _ e1 h
 |DictComp y1'0 y1'1 y1'2 y1'3 y1'4=>exact k1 _ e1 h
 |GeneratorExp y1'0 y1'1 y1'2 y1'3=>exact k1 _ e1 h
 |Await y1'0 y1'1=>exact k1 _ e1 h
 |Yield y1'0 y1'1=>exact k1 _ e1 h
 |YieldFrom y1'0 y1'1=>exact k1 _ e1 h
 |Compare y1'0 y1'1 y1'2 y1'3=>exact k1 _ e1 h
 |Call y1'0 y1'1 y1'2 y1'3=>exact k1 _ e1 h
 |FormattedValue y1'0 y1'1 y1'2 y1'3=>exact k1 _ e1 h
 |JoinedStr y1'0 y1'1=>exact k1 _ e1 h
 |Constant y1'0 y1'1 y1'2=>exact k1 _ e1 h
 |Attribute y1'0 y1'1 y1'2=>exact k1 _ e1 h
 |Subscript y1'0 y1'1 y1'2=>exact k1 _ e1 h
 |Starred y1'0 y1'1=>exact k1 _ e1 h
 |Name y1'0 y1'1=>exact k1 _ e1 h
 |List y1'0 y1'1=>exact k1 _ e1 h
 |Tuple y1'0 y1'1 y1'2=>exact k1 _ e1 h
 |Slice y1'0 y1'1 y1'2 y1'3=>exact k0 _ _ _ _ e1 h
theorem fu{x1:Option (List SV×St)}{f0:(List SV)->St->Option γ}(h:(match x1 with|some (a1,a2)=>f0 a1 a2|none=>none)=some r)(k0:∀a1 a2,x1=some (a1,a2)->f0 a1 a2=some r->P):P:=by generalize e1':x1=z1 at h;exact Option.casesOn z1 (λe=>aa) (λa1 e1 h1=>k0 a1.1 a1.2 e1 h1) e1' h
theorem ao{x1:Option (SV×St)}{f0:SV->St->Option γ}(h:(match x1 with|some (a1,a2)=>f0 a1 a2|none=>none)=some r)(k0:∀a1 a2,x1=some (a1,a2)->f0 a1 a2=some r->P):P:=by generalize e1':x1=z1 at h;exact Option.casesOn z1 (λe=>aa) (λa1 e1 h1=>k0 a1.1 a1.2 e1 h1) e1' h
theorem jY{x1:Option (Option SV)}{f0:SV->Option γ}{f1:Option γ}(h:(match x1 with|some (some a1)=>f0 a1|some none=>f1|none=>none)=some r)(k0:∀a1,x1=some (some a1)->f0 a1=some r->P)(k1:x1=some none->f1=some r->P):P:=by generalize e1':x1=z1 at h;exact Option.casesOn z1 (λe=>aa) (λa1 e1 h1=>Option.casesOn a1 (λe2 h2=>k1 e2 h2) (λa2 e2 h2=>k0 a2 e2 h2) e1 h1) e1' h
theorem md{x1:Option SO}{f0:Nat->(List SV)->Bool}(h:(match x1 with|some (SO.lst a1 a2)=>f0 a1 a2|a1=>false)=true)(k0:∀a1 a2,x1=some (SO.lst a1 a2)->f0 a1 a2=true->P):P:=by generalize e1':x1=z1 at h;exact Option.casesOn z1 (λe=>ai) (λa1 e1 h1=>SO.casesOn a1 (λa b e=>ai) (λa e=>ai) (λa e=>ai) (λa b e=>ai) (λa e=>ai) (λa2 b2 e2 h2=>k0 a2 b2 e2 h2) (λa e=>ai) (λa e=>ai) (λa b c e=>ai) (λa e=>ai) (λa e=>ai) e1 h1) e1' h
theorem oq{x1:Option SO}{f0:Nat->(List SV)->Option γ}(h:(match x1 with|some (SO.lst a1 a2)=>f0 a1 a2|a1=>none)=some r)(k0:∀a1 a2,x1=some (SO.lst a1 a2)->f0 a1 a2=some r->P):P:=by generalize e1':x1=z1 at h;exact Option.casesOn z1 (λe=>aa) (λa1 e1 h1=>SO.casesOn a1 (λa b e=>aa) (λa e=>aa) (λa e=>aa) (λa b e=>aa) (λa e=>aa) (λa2 b2 e2 h2=>k0 a2 b2 e2 h2) (λa e=>aa) (λa e=>aa) (λa b c e=>aa) (λa e=>aa) (λa e=>aa) e1 h1) e1' h
theorem qQ{x1:Option SV}{f0:Nat->Bool}(h:(match x1 with|some (SV.ref a1)=>f0 a1|a1=>false)=true)(k0:∀a1,x1=some (SV.ref a1)->f0 a1=true->P):P:=by generalize e1':x1=z1 at h;exact Option.casesOn z1 (λe=>ai) (λa1 e1 h1=>SV.casesOn a1 (λe=>ai) (λa e=>ai) (λa e=>ai) (λa b e=>ai) (λa e=>ai) (λa2 e2 h2=>k0 a2 e2 h2) (λa e=>ai) (λa e=>ai) (λa e=>ai) (λe=>ai) e1 h1) e1' h
theorem qP{x1:SV}{f0:Int->Option γ}{f1:Nat->Int->Option γ}(h:(match x1 with|SV.int a1=>f0 a1|SV.sym a1 a2=>f1 a1 a2|a1=>none)=some r)(k0:∀a1,x1=SV.int a1->f0 a1=some r->P)(k1:∀a1 a2,x1=SV.sym a1 a2->f1 a1 a2=some r->P):P:=by generalize e1':x1=z1 at h;exact SV.casesOn z1 (λe=>aa) (λa e=>aa) (λa1 e1 h1=>k0 a1 e1 h1) (λa1 b1 e1 h1=>k1 a1 b1 e1 h1) (λa e=>aa) (λa e=>aa) (λa e=>aa) (λa e=>aa) (λa e=>aa) (λe=>aa) e1' h
theorem bU{x1:Option Nat}{f0:Nat->Option γ}(h:(match x1 with|some a1=>f0 a1|none=>none)=some r)(k0:∀a1,x1=some a1->f0 a1=some r->P):P:=by generalize e1':x1=z1 at h;exact Option.casesOn z1 (λe=>aa) (λa1 e1 h1=>k0 a1 e1 h1) e1' h
theorem fV{x1:Option SO}{f0:(Option SV)->Option γ}(h:(match x1 with|some (SO.cell a1)=>f0 a1|a1=>none)=some r)(k0:∀a1,x1=some (SO.cell a1)->f0 a1=some r->P):P:=by generalize e1':x1=z1 at h;exact Option.casesOn z1 (λe=>aa) (λa1 e1 h1=>SO.casesOn a1 (λa b e=>aa) (λa e=>aa) (λa e=>aa) (λa b e=>aa) (λa e=>aa) (λa b e=>aa) (λa2 e2 h2=>k0 a2 e2 h2) (λa e=>aa) (λa b c e=>aa) (λa e=>aa) (λa e=>aa) e1 h1) e1' h
theorem xQ{x1:Bool}{f0 f1:Option γ}(h:(match x1 with|false=>f0|true=>f1)=some r)(k0:x1=false->f0=some r->P)(k1:x1=true->f1=some r->P):P:=by generalize e1':x1=z1 at h;exact Bool.casesOn z1 (λe1 h1=>k0 e1 h1) (λe1 h1=>k1 e1 h1) e1' h
theorem vN{x1:Bool}{f1:Option γ}(h:(match x1 with|false=>none|true=>f1)=some r)(k1:x1=true->f1=some r->P):P:=by generalize e1':x1=z1 at h;exact Bool.casesOn z1 (λe=>aa) (λe1 h1=>k1 e1 h1) e1' h
theorem mW{x1 x2:Option (Int×Int)}{f0:Int->Int->Int->Int->Option γ}(h:(match x1,x2 with|some (a1,a2),some (a3,a4)=>f0 a1 a2 a3 a4|a1,a2=>none)=some r)(k0:∀a1 a2 a3 a4,x1=some (a1,a2)->x2=some (a3,a4)->f0 a1 a2 a3 a4=some r->P):P:=by generalize e1':x1=z1,e2':x2=z2 at h;exact Option.casesOn z1 (λe=>aa) (λa1 e1 h1=>Option.casesOn z2 (λe=>aa) (λa2 e2 h2=>k0 a1.1 a1.2 a2.1 a2.2 e1 e2 h2) e2' h1) e1' h
theorem tf{x1:List Nat}{f1:Nat->(List Nat)->Option γ}(h:(match x1 with|[]=>none|a1::a2=>f1 a1 a2)=some r)(k1:∀a1 a2,x1=a1::a2->f1 a1 a2=some r->P):P:=by generalize e1':x1=z1 at h;exact List.casesOn z1 (λe=>aa) (λa1 b1 e1 h1=>k1 a1 b1 e1 h1) e1' h
theorem i6{x1:Option SV}{f0:Option γ}(h:(match x1 with|none=>f0|some a1=>none)=some r)(k0:x1=none->f0=some r->P):P:=by generalize e1':x1=z1 at h;exact Option.casesOn z1 (λe1 h1=>k0 e1 h1) (λa e=>aa) e1' h
theorem i0{x1:Option SO}{f0:Nat->Nat->Option γ}{f1:Nat->(List SV)->Option γ}{f2:Nat->(List (SV×SV))->(List SV)->Option γ}{f3:(List (Str×SV))->Option γ}{f4:(List (SV×SV))->Option γ}{f5:Nat->(List (SK×SV))->Option γ}{f6 f7:(List (SV×SV))->Option γ}(h:(match x1 with|some (SO.inst a1 a2)=>f0 a1 a2|some (SO.lst a1 a2)=>f1 a1 a2|some (SO.tab a1 a2 a3)=>f2 a1 a2 a3|some (SO.sd a1)=>f3 a1|some (SO.idt a1)=>f4 a1|some (SO.hd a1 a2)=>f5 a1 a2|some (SO.ks a1)=>f6 a1|some (SO.ki a1)=>f7 a1|a1=>none)=some r)(k0:∀a1 a2,x1=some (SO.inst a1 a2)->f0 a1 a2=some r->P)(k1:∀a1 a2,x1=some (SO.lst a1 a2)->f1 a1 a2=some r->P)(k2:∀a1 a2 a3,x1=some (SO.tab a1 a2 a3)->f2 a1 a2 a3=some r->P)(k3:∀a1,x1=some (SO.sd a1)->f3 a1=some r->P)(k4:∀a1,x1=some (SO.idt a1)->f4 a1=some r->P)(k5:∀a1 a2,x1=some (SO.hd a1 a2)->f5 a1 a2=some r->P)(k6:∀a1,x1=some (SO.ks a1)->f6 a1=some r->P)(k7:∀a1,x1=some (SO.ki a1)->f7 a1=some r->P):P:=by generalize e1':x1=z1 at h;exact Option.casesOn z1 (λe=>aa) (λa1 e1 h1=>SO.casesOn a1 (λa2 b2 e2 h2=>k0 a2 b2 e2 h2) (λa2 e2 h2=>k3 a2 e2 h2) (λa2 e2 h2=>k4 a2 e2 h2) (λa2 b2 e2 h2=>k5 a2 b2 e2 h2) (λa e=>aa) (λa2 b2 e2 h2=>k1 a2 b2 e2 h2) (λa e=>aa) (λa e=>aa) (λa2 b2 c2 e2 h2=>k2 a2 b2 c2 e2 h2) (λa2 e2 h2=>k6 a2 e2 h2) (λa2 e2 h2=>k7 a2 e2 h2) e1 h1) e1' h
theorem iZ{x1:Option (List (SV×SV))}{x2:Bool}{f0:(List (SV×SV))->Option γ}(h:(match x1,x2 with|some a1,true=>f0 a1|a1,a2=>none)=some r)(k0:∀a1,x1=some a1->x2=true->f0 a1=some r->P):P:=by generalize e1':x1=z1,e2':x2=z2 at h;exact Option.casesOn z1 (λe=>aa) (λa1 e1 h1=>Bool.casesOn z2 (λe=>aa) (λe2 h2=>k0 a1 e1 e2 h2) e2' h1) e1' h
theorem iY{x1:SV}{f0 f1:Nat->Option γ}(h:(match x1 with|SV.ref a1=>f0 a1|SV.top a1=>f1 a1|a1=>none)=some r)(k0:∀a1,x1=SV.ref a1->f0 a1=some r->P)(k1:∀a1,x1=SV.top a1->f1 a1=some r->P):P:=by generalize e1':x1=z1 at h;exact SV.casesOn z1 (λe=>aa) (λa e=>aa) (λa e=>aa) (λa b e=>aa) (λa e=>aa) (λa1 e1 h1=>k0 a1 e1 h1) (λa1 e1 h1=>k1 a1 e1 h1) (λa e=>aa) (λa e=>aa) (λe=>aa) e1' h
theorem ia{x1:Option NameKind}{f0:Bool}(h:(match x1 with|some NameKind.local=>f0|a1=>false)=true)(k0:x1=some NameKind.local->f0=true->P):P:=by generalize e1':x1=z1 at h;exact Option.casesOn z1 (λe=>ai) (λa1 e1 h1=>NameKind.casesOn a1 (λe2 h2=>k0 e2 h2) (λe=>ai) (λe=>ai) (λe=>ai) (λe=>ai) e1 h1) e1' h
theorem h8{x1:Option (Int×Int)}{f0:Int->Int->Option γ}(h:(match x1 with|some (a1,a2)=>f0 a1 a2|none=>none)=some r)(k0:∀a1 a2,x1=some (a1,a2)->f0 a1 a2=some r->P):P:=by generalize e1':x1=z1 at h;exact Option.casesOn z1 (λe=>aa) (λa1 e1 h1=>k0 a1.1 a1.2 e1 h1) e1' h
theorem vK{x1:List Nat}{f0:Nat->Option γ}(h:(match x1 with|[a1]=>f0 a1|a1=>none)=some r)(k0:∀a1,x1=[a1]->f0 a1=some r->P):P:=by generalize e1':x1=z1 at h;exact List.casesOn z1 (λe=>aa) (λa1 b1 e1 h1=>List.casesOn b1 (λe2 h2=>k0 a1 e2 h2) (λa b e=>aa) e1 h1) e1' h
theorem sZ{x1:Option PExpr}{f0:Option γ}{f1:PExpr->Option γ}(h:(match x1 with|none=>f0|some a1=>f1 a1)=some r)(k0:x1=none->f0=some r->P)(k1:∀a1,x1=some a1->f1 a1=some r->P):P:=by generalize e1':x1=z1 at h;exact Option.casesOn z1 (λe1 h1=>k0 e1 h1) (λa1 e1 h1=>k1 a1 e1 h1) e1' h
theorem qM{x1:Option PExpr}{f0:Option γ}(h:(match x1 with|none=>f0|some a1=>none)=some r)(k0:x1=none->f0=some r->P):P:=by generalize e1':x1=z1 at h;exact Option.casesOn z1 (λe1 h1=>k0 e1 h1) (λa e=>aa) e1' h
theorem qJ{x1 x2:Bool}{f0:Option γ}(h:(match x1,x2 with|false,true=>f0|a1,a2=>none)=some r)(k0:x1=false->x2=true->f0=some r->P):P:=by generalize e1':x1=z1,e2':x2=z2 at h;exact Bool.casesOn z1 (λe1 h1=>Bool.casesOn z2 (λe=>aa) (λe2 h2=>k0 e1 e2 h2) e2' h1) (λe=>aa) e1' h
theorem qI{x1:SV}{f0:Nat->Option γ}{f1:Nat->Nat->Option γ}(h:(match x1 with|SV.int (Int.ofNat a1)=>f0 a1|SV.sym a1 (Int.ofNat a2)=>f1 a1 a2|a1=>none)=some r)(k0:∀a1,x1=SV.int (Int.ofNat a1)->f0 a1=some r->P)(k1:∀a1 a2,x1=SV.sym a1 (Int.ofNat a2)->f1 a1 a2=some r->P):P:=by generalize e1':x1=z1 at h;exact SV.casesOn z1 (λe=>aa) (λa e=>aa) (λa1 e1 h1=>Int.casesOn a1 (λa2 e2 h2=>k0 a2 e2 h2) (λa e=>aa) e1 h1) (λa1 b1 e1 h1=>Int.casesOn b1 (λa2 e2 h2=>k1 a1 a2 e2 h2) (λa e=>aa) e1 h1) (λa e=>aa) (λa e=>aa) (λa e=>aa) (λa e=>aa) (λa e=>aa) (λe=>aa) e1' h
theorem jy{x1:List Arg}{x2:Option Arg}{x3:List Arg}{x4:Option Arg}{f0:Bool}(h:(match x1,x2,x3,x4 with|[],none,[],none=>f0|a1,a2,a3,a4=>false)=true)(k0:x1=[]->x2=none->x3=[]->x4=none->f0=true->P):P:=by generalize e1':x1=z1,e2':x2=z2,e3':x3=z3,e4':x4=z4 at h;exact List.casesOn z1 (λe1 h1=>Option.casesOn z2 (λe2 h2=>List.casesOn z3 (λe3 h3=>Option.casesOn z4 (λe4 h4=>k0 e1 e2 e3 e4 h4) (λa e=>ai) e4' h3) (λa b e=>ai) e3' h2) (λa e=>ai) e2' h1) (λa b e=>ai) e1' h
theorem bf{x1:Option St}{f0:St->Option γ}(h:(match x1 with|some a1=>f0 a1|none=>none)=some r)(k0:∀a1,x1=some a1->f0 a1=some r->P):P:=by generalize e1':x1=z1 at h;exact Option.casesOn z1 (λe=>aa) (λa1 e1 h1=>k0 a1 e1 h1) e1' h
theorem fU{x1:Option (List (SV×SV))}{f0:(List (SV×SV))->Option γ}(h:(match x1 with|some a1=>f0 a1|none=>none)=some r)(k0:∀a1,x1=some a1->f0 a1=some r->P):P:=by generalize e1':x1=z1 at h;exact Option.casesOn z1 (λe=>aa) (λa1 e1 h1=>k0 a1 e1 h1) e1' h
theorem j8{x1 x2:Option SO}{f0 f1:(List SV)->(List SV)->Bool}{f2:Int->Int->Bool}(h:(match x1,x2 with|some (SO.lst 0 a1),some (SO.lst 0 a2)=>f0 a1 a2|some (SO.tup a1),some (SO.tup a2)=>f1 a1 a2|some (SO.rng a1),some (SO.rng a2)=>f2 a1 a2|a1,a2=>false)=true)(k0:∀a1 a2,x1=some (SO.lst 0 a1)->x2=some (SO.lst 0 a2)->f0 a1 a2=true->P)(k1:∀a1 a2,x1=some (SO.tup a1)->x2=some (SO.tup a2)->f1 a1 a2=true->P)(k2:∀a1 a2,x1=some (SO.rng a1)->x2=some (SO.rng a2)->f2 a1 a2=true->P):P:=by generalize e1':x1=z1,e2':x2=z2 at h;exact Option.casesOn z1 (λe=>ai) (λa1 e1 h1=>SO.casesOn a1 (λa b e=>ai) (λa e=>ai) (λa e=>ai) (λa b e=>ai) (λa2 e2 h2=>Option.casesOn z2 (λe=>ai) (λa3 e3 h3=>SO.casesOn a3 (λa b e=>ai) (λa e=>ai) (λa e=>ai) (λa b e=>ai) (λa4 e4 h4=>k1 a2 a4 e2 e4 h4) (λa b e=>ai) (λa e=>ai) (λa e=>ai) (λa b c e=>ai) (λa e=>ai) (λa e=>ai) e3 h3) e2' h2) (λa2 b2 e2 h2=>Nat.casesOn a2 (λe3 h3=>Option.casesOn z2 (λe=>ai) (λa4 e4 h4=>SO.casesOn a4 (λa b e=>ai) (λa e=>ai) (λa e=>ai) (λa b e=>ai) (λa e=>ai) (λa5 b5 e5 h5=>Nat.casesOn a5 (λe6 h6=>k0 b2 b5 e3 e6 h6) (λa e=>ai) e5 h5) (λa e=>ai) (λa e=>ai) (λa b c e=>ai) (λa e=>ai) (λa e=>ai) e4 h4) e2' h3) (λa e=>ai) e2 h2) (λa e=>ai) (λa2 e2 h2=>Option.casesOn z2 (λe=>ai) (λa3 e3 h3=>SO.casesOn a3 (λa b e=>ai) (λa e=>ai) (λa e=>ai) (λa b e=>ai) (λa e=>ai) (λa b e=>ai) (λa e=>ai) (λa4 e4 h4=>k2 a2 a4 e2 e4 h4) (λa b c e=>ai) (λa e=>ai) (λa e=>ai) e3 h3) e2' h2) (λa b c e=>ai) (λa e=>ai) (λa e=>ai) e1 h1) e1' h
theorem mX{x1:SV}{f0:Str->Option γ}{f1:Nat->Option γ}{f2:SV->Option γ}(h:(match x1 with|SV.str a1=>f0 a1|SV.ref a1=>f1 a1|a1=>f2 a1)=some r)(k0:∀a1,x1=SV.str a1->f0 a1=some r->P)(k1:∀a1,x1=SV.ref a1->f1 a1=some r->P)(k2:∀a1,x1=a1->f2 a1=some r->P):P:=by generalize e1':x1=z1 at h;exact SV.casesOn z1 (λe1 h1=>k2 _ e1 h1) (λa1 e1 h1=>k2 _ e1 h1) (λa1 e1 h1=>k2 _ e1 h1) (λa1 b1 e1 h1=>k2 _ e1 h1) (λa1 e1 h1=>k0 a1 e1 h1) (λa1 e1 h1=>k1 a1 e1 h1) (λa1 e1 h1=>k2 _ e1 h1) (λa1 e1 h1=>k2 _ e1 h1) (λa1 e1 h1=>k2 _ e1 h1) (λe1 h1=>k2 _ e1 h1) e1' h
theorem ox{x1 x2:Option SO}{f0:Nat->(List SV)->(List SV)->Option γ}(h:(match x1,x2 with|some (SO.lst a1 a2),some (SO.lst 0 a3)=>f0 a1 a2 a3|a1,a2=>none)=some r)(k0:∀a1 a2 a3,x1=some (SO.lst a1 a2)->x2=some (SO.lst 0 a3)->f0 a1 a2 a3=some r->P):P:=by generalize e1':x1=z1,e2':x2=z2 at h;exact Option.casesOn z1 (λe=>aa) (λa1 e1 h1=>SO.casesOn a1 (λa b e=>aa) (λa e=>aa) (λa e=>aa) (λa b e=>aa) (λa e=>aa) (λa2 b2 e2 h2=>Option.casesOn z2 (λe=>aa) (λa3 e3 h3=>SO.casesOn a3 (λa b e=>aa) (λa e=>aa) (λa e=>aa) (λa b e=>aa) (λa e=>aa) (λa4 b4 e4 h4=>Nat.casesOn a4 (λe5 h5=>k0 a2 b2 b4 e2 e5 h5) (λa e=>aa) e4 h4) (λa e=>aa) (λa e=>aa) (λa b c e=>aa) (λa e=>aa) (λa e=>aa) e3 h3) e2' h2) (λa e=>aa) (λa e=>aa) (λa b c e=>aa) (λa e=>aa) (λa e=>aa) e1 h1) e1' h
theorem ou{x1 x2:SV}{f0:Nat->Nat->Option γ}(h:(match x1,x2 with|SV.ref a1,SV.ref a2=>f0 a1 a2|a1,a2=>none)=some r)(k0:∀a1 a2,x1=SV.ref a1->x2=SV.ref a2->f0 a1 a2=some r->P):P:=by generalize e1':x1=z1,e2':x2=z2 at h;exact SV.casesOn z1 (λe=>aa) (λa e=>aa) (λa e=>aa) (λa b e=>aa) (λa e=>aa) (λa1 e1 h1=>SV.casesOn z2 (λe=>aa) (λa e=>aa) (λa e=>aa) (λa b e=>aa) (λa e=>aa) (λa2 e2 h2=>k0 a1 a2 e1 e2 h2) (λa e=>aa) (λa e=>aa) (λa e=>aa) (λe=>aa) e2' h1) (λa e=>aa) (λa e=>aa) (λa e=>aa) (λe=>aa) e1' h
theorem jV{x1:Option (Option SV)}{f0:Option γ}(h:(match x1 with|some none=>f0|a1=>none)=some r)(k0:x1=some none->f0=some r->P):P:=by generalize e1':x1=z1 at h;exact Option.casesOn z1 (λe=>aa) (λa1 e1 h1=>Option.casesOn a1 (λe2 h2=>k0 e2 h2) (λa e=>aa) e1 h1) e1' h
theorem jU{x1:List (Str×SV)}{x2:Option SK}{f0:SK->Option γ}(h:(match x1,x2 with|[],some a1=>f0 a1|a1,a2=>none)=some r)(k0:∀a1,x1=[]->x2=some a1->f0 a1=some r->P):P:=by generalize e1':x1=z1,e2':x2=z2 at h;exact List.casesOn z1 (λe1 h1=>Option.casesOn z2 (λe=>aa) (λa2 e2 h2=>k0 a2 e1 e2 h2) e2' h1) (λa b e=>aa) e1' h
theorem eQ{x1:Option SO}{f0:(List SV)->Option γ}(h:(match x1 with|some (SO.tup a1)=>f0 a1|a1=>none)=some r)(k0:∀a1,x1=some (SO.tup a1)->f0 a1=some r->P):P:=by generalize e1':x1=z1 at h;exact Option.casesOn z1 (λe=>aa) (λa1 e1 h1=>SO.casesOn a1 (λa b e=>aa) (λa e=>aa) (λa e=>aa) (λa b e=>aa) (λa2 e2 h2=>k0 a2 e2 h2) (λa b e=>aa) (λa e=>aa) (λa e=>aa) (λa b c e=>aa) (λa e=>aa) (λa e=>aa) e1 h1) e1' h
theorem cO{x1:SV}{f0:Nat->Option γ}(h:(match x1 with|SV.ref a1=>f0 a1|a1=>none)=some r)(k0:∀a1,x1=SV.ref a1->f0 a1=some r->P):P:=by generalize e1':x1=z1 at h;exact SV.casesOn z1 (λe=>aa) (λa e=>aa) (λa e=>aa) (λa b e=>aa) (λa e=>aa) (λa1 e1 h1=>k0 a1 e1 h1) (λa e=>aa) (λa e=>aa) (λa e=>aa) (λe=>aa) e1' h
theorem qE{x1:List PExpr}{f0:PExpr->Option γ}(h:(match x1 with|[a1]=>f0 a1|a1=>none)=some r)(k0:∀a1,x1=[a1]->f0 a1=some r->P):P:=by generalize e1':x1=z1 at h;exact List.casesOn z1 (λe=>aa) (λa1 b1 e1 h1=>List.casesOn b1 (λe2 h2=>k0 a1 e2 h2) (λa b e=>aa) e1 h1) e1' h
theorem qD{x1:PExpr}{f0:Str->Pos->Option γ}{f1:PExpr->PExpr->Pos->Option γ}(h:(match x1 with|Expr.Name a1 a2=>f0 a1 a2|Expr.Subscript a1 a2 a3=>f1 a1 a2 a3|a1=>none)=some r)(k0:∀a1 a2,x1=Expr.Name a1 a2->f0 a1 a2=some r->P)(k1:∀a1 a2 a3,x1=Expr.Subscript a1 a2 a3->f1 a1 a2 a3=some r->P):P:=by
 obtain⟨z1,e1⟩:∃z,x1=z:=⟨_,rfl⟩
 rw[e1]at h;induction z1 using PySem.Expr.casesOn with
 |Subscript y1'0 y1'1 y1'2=>exact k1 _ _ _ e1 h
 |Name y1'0 y1'1=>exact k0 _ _ e1 h
 |_=>exact aa h
theorem jT{x1:List Stmt}{f0:Option γ}(h:(match x1 with|[]=>f0|a1=>none)=some r)(k0:x1=[]->f0=some r->P):P:=by generalize e1':x1=z1 at h;exact List.casesOn z1 (λe1 h1=>k0 e1 h1) (λa b e=>aa) e1' h
theorem qB{x1:Option SO}{f0:SO->Option γ}(h:(match x1 with|some a1=>f0 a1|none=>none)=some r)(k0:∀a1,x1=some a1->f0 a1=some r->P):P:=by generalize e1':x1=z1 at h;exact Option.casesOn z1 (λe=>aa) (λa1 e1 h1=>k0 a1 e1 h1) e1' h
theorem qA{x1 x2:Option SV}{f0:SV->SV->Option γ}(h:(match x1,x2 with|some a1,some a2=>f0 a1 a2|a1,a2=>none)=some r)(k0:∀a1 a2,x1=some a1->x2=some a2->f0 a1 a2=some r->P):P:=by generalize e1':x1=z1,e2':x2=z2 at h;exact Option.casesOn z1 (λe=>aa) (λa1 e1 h1=>Option.casesOn z2 (λe=>aa) (λa2 e2 h2=>k0 a1 a2 e1 e2 h2) e2' h1) e1' h
theorem jS{x1:Bool}{x2:Option SV}{f0:SV->Option γ}(h:(match x1,x2 with|true,some a1=>f0 a1|a1,a2=>none)=some r)(k0:∀a1,x1=true->x2=some a1->f0 a1=some r->P):P:=by generalize e1':x1=z1,e2':x2=z2 at h;exact Bool.casesOn z1 (λe=>aa) (λe1 h1=>Option.casesOn z2 (λe=>aa) (λa2 e2 h2=>k0 a2 e1 e2 h2) e2' h1) e1' h
theorem rm{x1 x2:Option SO}{f0:(List SV)->(List SV)->Option γ}(h:(match x1,x2 with|some (SO.tup a1),some (SO.tup a2)=>f0 a1 a2|a1,a2=>none)=some r)(k0:∀a1 a2,x1=some (SO.tup a1)->x2=some (SO.tup a2)->f0 a1 a2=some r->P):P:=by generalize e1':x1=z1,e2':x2=z2 at h;exact Option.casesOn z1 (λe=>aa) (λa1 e1 h1=>SO.casesOn a1 (λa b e=>aa) (λa e=>aa) (λa e=>aa) (λa b e=>aa) (λa2 e2 h2=>Option.casesOn z2 (λe=>aa) (λa3 e3 h3=>SO.casesOn a3 (λa b e=>aa) (λa e=>aa) (λa e=>aa) (λa b e=>aa) (λa4 e4 h4=>k0 a2 a4 e2 e4 h4) (λa b e=>aa) (λa e=>aa) (λa e=>aa) (λa b c e=>aa) (λa e=>aa) (λa e=>aa) e3 h3) e2' h2) (λa b e=>aa) (λa e=>aa) (λa e=>aa) (λa b c e=>aa) (λa e=>aa) (λa e=>aa) e1 h1) e1' h
theorem lx{x1:Option SO}{f0:(List (Str×SV))->Option γ}{f1:(List (SV×SV))->Option γ}{f2:Nat->(List (SK×SV))->Option γ}{f3 f4:(List (SV×SV))->Option γ}(h:(match x1 with|some (SO.sd a1)=>f0 a1|some (SO.idt a1)=>f1 a1|some (SO.hd a1 a2)=>f2 a1 a2|some (SO.ks a1)=>f3 a1|some (SO.ki a1)=>f4 a1|a1=>none)=some r)(k0:∀a1,x1=some (SO.sd a1)->f0 a1=some r->P)(k1:∀a1,x1=some (SO.idt a1)->f1 a1=some r->P)(k2:∀a1 a2,x1=some (SO.hd a1 a2)->f2 a1 a2=some r->P)(k3:∀a1,x1=some (SO.ks a1)->f3 a1=some r->P)(k4:∀a1,x1=some (SO.ki a1)->f4 a1=some r->P):P:=by generalize e1':x1=z1 at h;exact Option.casesOn z1 (λe=>aa) (λa1 e1 h1=>SO.casesOn a1 (λa b e=>aa) (λa2 e2 h2=>k0 a2 e2 h2) (λa2 e2 h2=>k1 a2 e2 h2) (λa2 b2 e2 h2=>k2 a2 b2 e2 h2) (λa e=>aa) (λa b e=>aa) (λa e=>aa) (λa e=>aa) (λa b c e=>aa) (λa2 e2 h2=>k3 a2 e2 h2) (λa2 e2 h2=>k4 a2 e2 h2) e1 h1) e1' h
theorem qR{x1:PExpr}{f0:PExpr->Str->Pos->Option γ}{f1:PExpr->Option γ}(h:(match x1 with|Expr.Attribute a1 a2 a3=>f0 a1 a2 a3|a1=>f1 a1)=some r)(k0:∀a1 a2 a3,x1=Expr.Attribute a1 a2 a3->f0 a1 a2 a3=some r->P)(k1:∀a1,x1=a1->f1 a1=some r->P):P:=by
 obtain⟨z1,e1⟩:∃z,x1=z:=⟨_,rfl⟩
 rw[e1]at h;induction z1 using PySem.Expr.casesOn with
 |BoolOp y1'0 y1'1 y1'2=>exact k1 _ e1 h
 |NamedExpr y1'0 y1'1 y1'2=>exact k1 _ e1 h
 |BinOp y1'0 y1'1 y1'2 y1'3=>exact k1 _ e1 h
 |UnaryOp y1'0 y1'1 y1'2=>exact k1 _ e1 h
 |Lambda y1'0 y1'1 y1'2 y1'3=>exact k1 _ e1 h
 |IfExp y1'0 y1'1 y1'2 y1'3=>exact k1 _ e1 h
 |Dict y1'0 y1'1 y1'2=>exact k1 _ e1 h
 |Set y1'0 y1'1 y1'2=>exact k1 _ e1 h
 |ListComp y1'0 y1'1 y1'2 y1'3=>exact k1 _ e1 h
 |SetComp y1'0 y1'1 y1'2 y1'3=>exact k1 _ e1 h
 |DictComp y1'0 y1'1 y1'2 y1'3 y1'4=>exact k1 _ e1 h
 |GeneratorExp y1'0 y1'1 y1'2 y1'3=>exact k1 _ e1 h
 |Await y1'0 y1'1=>exact k1 _ e1 h
 |Yield y1'0 y1'1=>exact k1 _ e1 h
 |YieldFrom y1'0 y1'1=>exact k1 _ e1 h
 |Compare y1'0 y1'1 y1'2 y1'3=>exact k1 _ e1 h
 |Call y1'0 y1'1 y1'2 y1'3=>exact k1 _ e1 h
 |FormattedValue y1'0 y1'1 y1'2 y1'3=>exact k1 _ e1 h
 |JoinedStr y1'0 y1'1=>exact k1 _ e1 h
 |Constant y1'0 y1'1 y1'2=>exact k1 _ e1 h
 |Attribute y1'0 y1'1 y1'2=>exact k0 _ _ _ e1 h
 |Subscript y1'0 y1'1 y1'2=>exact k1 _ e1 h
 |Starred y1'0 y1'1=>exact k1 _ e1 h
 |Name y1'0 y1'1=>exact k1 _ e1 h
 |List y1'0 y1'1=>exact k1 _ e1 h
 |Tuple y1'0 y1'1 y1'2=>exact k1 _ e1 h
 |Slice y1'0 y1'1 y1'2 y1'3=>exact k1 _ e1 h
theorem vO{x1:Option SO}{f0:(List SV)->Option γ}{f1:Nat->(List SV)->Option γ}{f2:Nat->(List (SV×SV))->(List SV)->Option γ}{f3:(Option SO)->Option γ}(h:(match x1 with|some (SO.tup a1)=>f0 a1|some (SO.lst a1 a2)=>f1 a1 a2|some (SO.tab a1 a2 a3)=>f2 a1 a2 a3|a1=>f3 a1)=some r)(k0:∀a1,x1=some (SO.tup a1)->f0 a1=some r->P)(k1:∀a1 a2,x1=some (SO.lst a1 a2)->f1 a1 a2=some r->P)(k2:∀a1 a2 a3,x1=some (SO.tab a1 a2 a3)->f2 a1 a2 a3=some r->P)(k3:∀a1,x1=a1->f3 a1=some r->P):P:=by generalize e1':x1=z1 at h;exact Option.casesOn z1 (λe1 h1=>k3 _ e1 h1) (λa1 e1 h1=>SO.casesOn a1 (λa2 b2 e2 h2=>k3 _ e2 h2) (λa2 e2 h2=>k3 _ e2 h2) (λa2 e2 h2=>k3 _ e2 h2) (λa2 b2 e2 h2=>k3 _ e2 h2) (λa2 e2 h2=>k0 a2 e2 h2) (λa2 b2 e2 h2=>k1 a2 b2 e2 h2) (λa2 e2 h2=>k3 _ e2 h2) (λa2 e2 h2=>k3 _ e2 h2) (λa2 b2 c2 e2 h2=>k2 a2 b2 c2 e2 h2) (λa2 e2 h2=>k3 _ e2 h2) (λa2 e2 h2=>k3 _ e2 h2) e1 h1) e1' h
theorem vM{x1:Bool}{f0:Option γ}(h:(match x1 with|false=>f0|true=>none)=some r)(k0:x1=false->f0=some r->P):P:=by generalize e1':x1=z1 at h;exact Bool.casesOn z1 (λe1 h1=>k0 e1 h1) (λe=>aa) e1' h
theorem qO{x1:Option DictEntry}{f0:DictEntry->Option γ}{f1:Option γ}(h:(match x1 with|some a1=>f0 a1|none=>f1)=some r)(k0:∀a1,x1=some a1->f0 a1=some r->P)(k1:x1=none->f1=some r->P):P:=by generalize e1':x1=z1 at h;exact Option.casesOn z1 (λe1 h1=>k1 e1 h1) (λa1 e1 h1=>k0 a1 e1 h1) e1' h
theorem sW{x1:Option (Fl×St)}{f0:St->Option γ}(h:(match x1 with|some (Fl.next,a1)=>f0 a1|a1=>none)=some r)(k0:∀a1,x1=some (Fl.next,a1)->f0 a1=some r->P):P:=by generalize e1':x1=z1 at h;exact Option.casesOn z1 (λe=>aa) (λa1 e1 h1=>Prod.casesOn a1 (λa2 b2 e2 h2=>Fl.casesOn a2 (λe3 h3=>k0 b2 e3 h3) (λa e=>aa) e2 h2) e1 h1) e1' h
theorem vW{x1:SV}{f0:Option γ}{f1:Nat->Option γ}(h:(match x1 with|SV.none=>f0|SV.int (Int.ofNat a1)=>f1 a1|a1=>none)=some r)(k0:x1=SV.none->f0=some r->P)(k1:∀a1,x1=SV.int (Int.ofNat a1)->f1 a1=some r->P):P:=by generalize e1':x1=z1 at h;exact SV.casesOn z1 (λe1 h1=>k0 e1 h1) (λa e=>aa) (λa1 e1 h1=>Int.casesOn a1 (λa2 e2 h2=>k1 a2 e2 h2) (λa e=>aa) e1 h1) (λa b e=>aa) (λa e=>aa) (λa e=>aa) (λa e=>aa) (λa e=>aa) (λa e=>aa) (λe=>aa) e1' h
theorem oZ{x1:List SV}{f0:SV->SV->Option γ}(h:(match x1 with|[a1,a2]=>f0 a1 a2|a1=>none)=some r)(k0:∀a1 a2,x1=[a1,a2]->f0 a1 a2=some r->P):P:=by generalize e1':x1=z1 at h;exact List.casesOn z1 (λe=>aa) (λa1 b1 e1 h1=>List.casesOn b1 (λe=>aa) (λa2 b2 e2 h2=>List.casesOn b2 (λe3 h3=>k0 a1 a2 e3 h3) (λa b e=>aa) e2 h2) e1 h1) e1' h
theorem rn{x1:Operator}{f0 f1:Option γ}(h:(match x1 with|Operator.Add=>f0|Operator.BitOr=>f1|a1=>none)=some r)(k0:x1=Operator.Add->f0=some r->P)(k1:x1=Operator.BitOr->f1=some r->P):P:=by generalize e1':x1=z1 at h;exact Operator.casesOn z1 (λe1 h1=>k0 e1 h1) (λe=>aa) (λe=>aa) (λe=>aa) (λe=>aa) (λe=>aa) (λe=>aa) (λe=>aa) (λe=>aa) (λe1 h1=>k1 e1 h1) (λe=>aa) (λe=>aa) (λe=>aa) e1' h
theorem rp{x1 x2:SV}{f0:Nat->Int->Int->Option γ}(h:(match x1,x2 with|SV.sym a1 a2,SV.int a3=>f0 a1 a2 a3|a1,a2=>none)=some r)(k0:∀a1 a2 a3,x1=SV.sym a1 a2->x2=SV.int a3->f0 a1 a2 a3=some r->P):P:=by generalize e1':x1=z1,e2':x2=z2 at h;exact SV.casesOn z1 (λe=>aa) (λa e=>aa) (λa e=>aa) (λa1 b1 e1 h1=>SV.casesOn z2 (λe=>aa) (λa e=>aa) (λa2 e2 h2=>k0 a1 b1 a2 e1 e2 h2) (λa b e=>aa) (λa e=>aa) (λa e=>aa) (λa e=>aa) (λa e=>aa) (λa e=>aa) (λe=>aa) e2' h1) (λa e=>aa) (λa e=>aa) (λa e=>aa) (λa e=>aa) (λa e=>aa) (λe=>aa) e1' h
theorem gw{x1 x2:SV}{f0:Int->Int->Option γ}(h:(match x1,x2 with|SV.int a1,SV.int a2=>f0 a1 a2|a1,a2=>none)=some r)(k0:∀a1 a2,x1=SV.int a1->x2=SV.int a2->f0 a1 a2=some r->P):P:=by generalize e1':x1=z1,e2':x2=z2 at h;exact SV.casesOn z1 (λe=>aa) (λa e=>aa) (λa1 e1 h1=>SV.casesOn z2 (λe=>aa) (λa e=>aa) (λa2 e2 h2=>k0 a1 a2 e1 e2 h2) (λa b e=>aa) (λa e=>aa) (λa e=>aa) (λa e=>aa) (λa e=>aa) (λa e=>aa) (λe=>aa) e2' h1) (λa b e=>aa) (λa e=>aa) (λa e=>aa) (λa e=>aa) (λa e=>aa) (λa e=>aa) (λe=>aa) e1' h
theorem rd{x1:Operator}{f0 f1 f2 f3 f4:Option γ}(h:(match x1 with|Operator.Add=>f0|Operator.Mult=>f1|Operator.Mod=>f2|Operator.BitOr=>f3|Operator.BitAnd=>f4|a1=>none)=some r)(k0:x1=Operator.Add->f0=some r->P)(k1:x1=Operator.Mult->f1=some r->P)(k2:x1=Operator.Mod->f2=some r->P)(k3:x1=Operator.BitOr->f3=some r->P)(k4:x1=Operator.BitAnd->f4=some r->P):P:=by generalize e1':x1=z1 at h;exact Operator.casesOn z1 (λe1 h1=>k0 e1 h1) (λe=>aa) (λe1 h1=>k1 e1 h1) (λe=>aa) (λe=>aa) (λe1 h1=>k2 e1 h1) (λe=>aa) (λe=>aa) (λe=>aa) (λe1 h1=>k3 e1 h1) (λe=>aa) (λe1 h1=>k4 e1 h1) (λe=>aa) e1' h
theorem re{x1 x2:SV}{f0:Nat->Nat->Option γ}(h:(match x1,x2 with|SV.int (Int.ofNat a1),SV.int (Int.ofNat a2)=>f0 a1 a2|a1,a2=>none)=some r)(k0:∀a1 a2,x1=SV.int (Int.ofNat a1)->x2=SV.int (Int.ofNat a2)->f0 a1 a2=some r->P):P:=by generalize e1':x1=z1,e2':x2=z2 at h;exact SV.casesOn z1 (λe=>aa) (λa e=>aa) (λa1 e1 h1=>Int.casesOn a1 (λa2 e2 h2=>SV.casesOn z2 (λe=>aa) (λa e=>aa) (λa3 e3 h3=>Int.casesOn a3 (λa4 e4 h4=>k0 a2 a4 e2 e4 h4) (λa e=>aa) e3 h3) (λa b e=>aa) (λa e=>aa) (λa e=>aa) (λa e=>aa) (λa e=>aa) (λa e=>aa) (λe=>aa) e2' h2) (λa e=>aa) e1 h1) (λa b e=>aa) (λa e=>aa) (λa e=>aa) (λa e=>aa) (λa e=>aa) (λa e=>aa) (λe=>aa) e1' h
theorem rh{x1:Nat}{f1:Nat->Option γ}(h:(match x1 with|0=>none|n=>f1 n)=some r)(k1:∀a1,x1=a1+1->f1 (a1+1)=some r->P):P:=by
 revert h k1;induction x1 using Nat.casesOn with
 |zero=>intro h _;exact aa h
 |succ n=>intro h k1;exact k1 _ rfl h
theorem ri{x1 x2:SV}{f0:Int->Int->Option γ}{f1:Nat->Nat->Option γ}(h:(match x1,x2 with|SV.int a1,SV.int a2=>f0 a1 a2|SV.ref a1,SV.int (Int.ofNat a2)=>f1 a1 a2|a1,a2=>none)=some r)(k0:∀a1 a2,x1=SV.int a1->x2=SV.int a2->f0 a1 a2=some r->P)(k1:∀a1 a2,x1=SV.ref a1->x2=SV.int (Int.ofNat a2)->f1 a1 a2=some r->P):P:=by generalize e1':x1=z1,e2':x2=z2 at h;exact SV.casesOn z1 (λe=>aa) (λa e=>aa) (λa1 e1 h1=>SV.casesOn z2 (λe=>aa) (λa e=>aa) (λa2 e2 h2=>k0 a1 a2 e1 e2 h2) (λa b e=>aa) (λa e=>aa) (λa e=>aa) (λa e=>aa) (λa e=>aa) (λa e=>aa) (λe=>aa) e2' h1) (λa b e=>aa) (λa e=>aa) (λa1 e1 h1=>SV.casesOn z2 (λe=>aa) (λa e=>aa) (λa2 e2 h2=>Int.casesOn a2 (λa3 e3 h3=>k1 a1 a3 e1 e3 h3) (λa e=>aa) e2 h2) (λa b e=>aa) (λa e=>aa) (λa e=>aa) (λa e=>aa) (λa e=>aa) (λa e=>aa) (λe=>aa) e2' h1) (λa e=>aa) (λa e=>aa) (λa e=>aa) (λe=>aa) e1' h
theorem ln{x1:SV}{f0:Int->Option γ}(h:(match x1 with|SV.int a1=>f0 a1|a1=>none)=some r)(k0:∀a1,x1=SV.int a1->f0 a1=some r->P):P:=by generalize e1':x1=z1 at h;exact SV.casesOn z1 (λe=>aa) (λa e=>aa) (λa1 e1 h1=>k0 a1 e1 h1) (λa b e=>aa) (λa e=>aa) (λa e=>aa) (λa e=>aa) (λa e=>aa) (λa e=>aa) (λe=>aa) e1' h
theorem rk{x1 x2:SV}{f0:Int->Int->Option γ}{f1:Int->Nat->Int->Option γ}{f2:Nat->Int->Int->Option γ}{f3:Str->Str->Option γ}{f4:Nat->Nat->Option γ}(h:(match x1,x2 with|SV.int a1,SV.int a2=>f0 a1 a2|SV.int a1,SV.sym a2 a3=>f1 a1 a2 a3|SV.sym a1 a2,SV.int a3=>f2 a1 a2 a3|SV.str a1,SV.str a2=>f3 a1 a2|SV.ref a1,SV.ref a2=>f4 a1 a2|a1,a2=>none)=some r)(k0:∀a1 a2,x1=SV.int a1->x2=SV.int a2->f0 a1 a2=some r->P)(k1:∀a1 a2 a3,x1=SV.int a1->x2=SV.sym a2 a3->f1 a1 a2 a3=some r->P)(k2:∀a1 a2 a3,x1=SV.sym a1 a2->x2=SV.int a3->f2 a1 a2 a3=some r->P)(k3:∀a1 a2,x1=SV.str a1->x2=SV.str a2->f3 a1 a2=some r->P)(k4:∀a1 a2,x1=SV.ref a1->x2=SV.ref a2->f4 a1 a2=some r->P):P:=by generalize e1':x1=z1,e2':x2=z2 at h;exact SV.casesOn z1 (λe=>aa) (λa e=>aa) (λa1 e1 h1=>SV.casesOn z2 (λe=>aa) (λa e=>aa) (λa2 e2 h2=>k0 a1 a2 e1 e2 h2) (λa2 b2 e2 h2=>k1 a1 a2 b2 e1 e2 h2) (λa e=>aa) (λa e=>aa) (λa e=>aa) (λa e=>aa) (λa e=>aa) (λe=>aa) e2' h1) (λa1 b1 e1 h1=>SV.casesOn z2 (λe=>aa) (λa e=>aa) (λa2 e2 h2=>k2 a1 b1 a2 e1 e2 h2) (λa b e=>aa) (λa e=>aa) (λa e=>aa) (λa e=>aa) (λa e=>aa) (λa e=>aa) (λe=>aa) e2' h1) (λa1 e1 h1=>SV.casesOn z2 (λe=>aa) (λa e=>aa) (λa e=>aa) (λa b e=>aa) (λa2 e2 h2=>k3 a1 a2 e1 e2 h2) (λa e=>aa) (λa e=>aa) (λa e=>aa) (λa e=>aa) (λe=>aa) e2' h1) (λa1 e1 h1=>SV.casesOn z2 (λe=>aa) (λa e=>aa) (λa e=>aa) (λa b e=>aa) (λa e=>aa) (λa2 e2 h2=>k4 a1 a2 e1 e2 h2) (λa e=>aa) (λa e=>aa) (λa e=>aa) (λe=>aa) e2' h1) (λa e=>aa) (λa e=>aa) (λa e=>aa) (λe=>aa) e1' h
end
end
section
open PySem PySem.W
noncomputable def nk (s:Str):Nat:=s.cps.toList.foldl (λh c=>h*1024+c) 7
inductive NT (α:Type)where
 |nil
 |node (k:Nat) (x:Str) (v:α) (l r:NT α)
noncomputable def NT.get {α:Type} (t:NT α) (k:Nat) (x:Str):Option α:=match t with
 |.nil=>none
 |.node k' x' v l r=>match Nat.beq k k' with
  |true=>match cq x' x with
   |true=>some v
   |false=>none
  |false=>match Nat.ble k k' with
   |true=>l.get k x
   |false=>r.get k x
theorem pn{γ:Type}{r:γ}{P:Prop}{x1:Bool}{f0:Option γ}(h:(match x1 with|Bool.true=>f0|Bool.false=>none)=some r)(k0:x1=Bool.true->f0=some r->P):P:=by
 obtain⟨z1,e1⟩:∃z,x1=z:=⟨_,rfl⟩
 rw[e1]at h;cases z1 with
 |true=>exact k0 e1 h
 |_=>exact aa h
theorem j1{γ:Type}{r:γ}{P:Prop}{x1:Bool}{f0:Option γ}{f1:Option γ}(h:(match x1 with|Bool.true=>f0|Bool.false=>f1)=some r)(k0:x1=Bool.true->f0=some r->P)(k1:x1=Bool.false->f1=some r->P):P:=by
 obtain⟨z1,e1⟩:∃z,x1=z:=⟨_,rfl⟩
 rw[e1]at h;cases z1 with
 |false=>exact k1 e1 h
 |true=>exact k0 e1 h
noncomputable def Ea:NT SV:=(.node 8744257356398356478711374916 ⟨⟨[65,82,82,65,89,95,84,73,68]⟩⟩ (.int 5) (.node 8188796568432903282 ⟨⟨[105,115,95,118,97,114]⟩⟩ (.top 235) (.node 7966063830570071 ⟨⟨[77,95,78,69,87]⟩⟩ (.int 2048) (.node 7636897906 ⟨⟨[115,116,114]⟩⟩ (.bi .str) (.node 7427122 ⟨⟨[85,50]⟩⟩ (.int 6) (.node 7414836 ⟨⟨[73,52]⟩⟩ (.int 7) (.node 7414834 ⟨⟨[73,50]⟩⟩ (.int 5) (.node 7414833 ⟨⟨[73,49]⟩⟩ (.int 3) .nil .nil) .nil) (.node 7427121 ⟨⟨[85,49]⟩⟩ (.int 4) (.node 7414840 ⟨⟨[73,56]⟩⟩ (.int 9) .nil .nil) .nil)) (.node 7585465412 ⟨⟨[66,65,68]⟩⟩ (.int 15) (.node 7427128 ⟨⟨[85,56]⟩⟩ (.int 10) (.node 7427124 ⟨⟨[85,52]⟩⟩ (.int 8) .nil .nil) .nil) (.node 7629542510 ⟨⟨[108,101,110]⟩⟩ (.bi .len) (.node 7629538423 ⟨⟨[108,97,119]⟩⟩ (.top 853) .nil .nil) .nil))) (.node 7789006103620 ⟨⟨[86,79,73,68]⟩⟩ (.int 0) (.node 7780409882708 ⟨⟨[78,73,78,84]⟩⟩ (.int 11) (.node 7768597660754 ⟨⟨[67,72,65,82]⟩⟩ (.int 2) (.node 7767531273292 ⟨⟨[66,79,79,76]⟩⟩ (.int 1) .nil .nil) .nil) (.node 7787964900468 ⟨⟨[85,110,105,116]⟩⟩ (.top 471) (.node 7780449751141 ⟨⟨[78,111,100,101]⟩⟩ (.top 406) .nil .nil) .nil)) (.node 7956174690431091 ⟨⟨[68,101,99,108,115]⟩⟩ (.top 632) (.node 7812655729780 ⟨⟨[108,105,115,116]⟩⟩ (.bi .list) (.node 7792246245476 ⟨⟨[89,97,114,100]⟩⟩ (.top 590) .nil .nil) .nil) (.node 7956178983296115 ⟨⟨[68,105,97,103,115]⟩⟩ (.top 448) .nil .nil)))) (.node 8158375260267301972 ⟨⟨[78,95,76,73,83,84]⟩⟩ (.int 110) (.node 7971561397093458 ⟨⟨[82,95,86,65,82]⟩⟩ (.int 6) (.node 7967152602689611 ⟨⟨[78,85,76,76,75]⟩⟩ (.int 14) (.node 7966063834764358 ⟨⟨[77,95,82,69,70]⟩⟩ (.int 8192) (.node 7966063831635028 ⟨⟨[77,95,79,85,84]⟩⟩ (.int 16384) .nil .nil) .nil) (.node 7971561392899159 ⟨⟨[82,95,82,65,87]⟩⟩ (.int 11) (.node 7971561380335694 ⟨⟨[82,95,70,84,78]⟩⟩ (.int 10) .nil .nil) .nil)) (.node 8006747941870693 ⟨⟨[114,97,110,103,101]⟩⟩ (.bi .range) (.node 7985880829636716 ⟨⟨[95,119,97,108,108]⟩⟩ (.top 21) (.node 7972683483564133 ⟨⟨[83,116,111,114,101]⟩⟩ (.top 294) .nil .nil) .nil) (.node 8150462095488521303 ⟨⟨[71,66,95,78,69,87]⟩⟩ (.int 4) (.node 8008968442064997 ⟨⟨[116,117,112,108,101]⟩⟩ (.bi .tuple) .nil .nil) .nil))) (.node 8162878864199066701 ⟨⟨[82,95,80,82,73,77]⟩⟩ (.int 1) (.node 8159469272185244756 ⟨⟨[79,66,74,69,67,84]⟩⟩ (.int 12) (.node 8158375268874010693 ⟨⟨[78,95,84,89,80,69]⟩⟩ (.int 40) (.node 8158375263495853138 ⟨⟨[78,95,79,80,69,82]⟩⟩ (.int 99) .nil .nil) .nil) (.node 8162878860982027346 ⟨⟨[82,95,77,86,65,82]⟩⟩ (.int 7) (.node 8160599592697680980 ⟨⟨[80,70,95,79,85,84]⟩⟩ (.int 1) .nil .nil) .nil)) (.node 8165130652197409869 ⟨⟨[84,95,69,78,85,77]⟩⟩ (.int 3) (.node 8164004752290567245 ⟨⟨[83,95,69,78,85,77]⟩⟩ (.int 5) (.node 8163992671616055367 ⟨⟨[83,84,82,73,78,71]⟩⟩ (.int 13) .nil .nil) .nil) (.node 8188796568428713062 ⟨⟨[105,115,95,114,101,102]⟩⟩ (.top 228) .nil .nil))))) (.node 8540511746119417713511540 ⟨⟨[66,97,114,101,72,111,115,116]⟩⟩ (.top 534) (.node 8358787959135655760966 ⟨⟨[82,95,82,79,82,69,70]⟩⟩ (.int 9) (.node 8354176255521817955403 ⟨⟨[78,95,66,76,79,67,75]⟩⟩ (.int 50) (.node 8351877207537413641332 ⟨⟨[76,101,102,116,79,117,116]⟩⟩ (.top 63) (.node 8340343486648698386532 ⟨⟨[66,97,100,75,105,110,100]⟩⟩ (.top 51) (.node 8201170477636500582 ⟨⟨[116,105,100,95,111,102]⟩⟩ (.top 207) .nil .nil) .nil) (.node 8353023332925226170435 ⟨⟨[77,95,65,83,89,78,67]⟩⟩ (.int 4096) (.node 8352995218395718827090 ⟨⟨[77,70,95,67,84,79,82]⟩⟩ (.int 32) .nil .nil) .nil)) (.node 8358787941543476008004 ⟨⟨[82,95,66,79,88,69,68]⟩⟩ (.int 8) (.node 8358787940447179310169 ⟨⟨[82,95,65,82,82,65,89]⟩⟩ (.int 4) (.node 8354176270903172727885 ⟨⟨[78,95,80,65,82,65,77]⟩⟩ (.int 100) .nil .nil) .nil) (.node 8358787942639742307411 ⟨⟨[82,95,67,76,65,83,83]⟩⟩ (.int 2) (.node 8358787941554207134790 ⟨⟨[82,95,66,89,82,69,70]⟩⟩ (.int 5) .nil .nil) .nil))) (.node 8363365882449452152901 ⟨⟨[86,65,95,78,79,78,69]⟩⟩ (.int 0) (.node 8359940870734976453701 ⟨⟨[83,95,73,70,65,67,69]⟩⟩ (.int 3) (.node 8359940864144349154387 ⟨⟨[83,95,67,76,65,83,83]⟩⟩ (.int 1) (.node 8358787963518663611461 ⟨⟨[82,95,86,65,76,85,69]⟩⟩ (.int 3) .nil .nil) .nil) (.node 8361123108551403869286 ⟨⟨[84,121,112,101,68,101,102]⟩⟩ (.top 252) (.node 8361093783456393004121 ⟨⟨[84,95,65,82,82,65,89]⟩⟩ (.int 5) .nil .nil) .nil)) (.node 8539328799076518097662041 ⟨⟨[65,95,70,65,77,73,76,89]⟩⟩ (.int 4) (.node 8398016596698851294310 ⟨⟨[116,121,112,101,95,111,102]⟩⟩ (.top 361) (.node 8376103196931401038950 ⟨⟨[97,114,103,115,95,111,102]⟩⟩ (.top 214) .nil .nil) .nil) (.node 8539328810357495590626371 ⟨⟨[65,95,80,85,66,76,73,67]⟩⟩ (.int 6) .nil .nil)))) (.node 8560579462907026392288340 ⟨⟨[83,95,83,84,82,85,67,84]⟩⟩ (.int 2) (.node 8553495913166210987004996 ⟨⟨[77,95,83,69,65,76,69,68]⟩⟩ (.int 256) (.node 8553467103640502801597516 ⟨⟨[77,70,95,70,73,78,65,76]⟩⟩ (.int 16) (.node 8553467103637197830569042 ⟨⟨[77,70,95,67,67,84,79,82]⟩⟩ (.int 64) (.node 8546378942226884579118163 ⟨⟨[71,66,95,67,76,65,83,83]⟩⟩ (.int 1) .nil .nil) .nil) (.node 8553495909806104526267459 ⟨⟨[77,95,80,85,66,76,73,67]⟩⟩ (.int 1) (.node 8553495909784131462050899 ⟨⟨[77,95,80,65,82,65,77,83]⟩⟩ (.int 32768) .nil .nil) .nil)) (.node 8554676505924922939343949 ⟨⟨[78,95,84,80,65,82,65,77]⟩⟩ (.int 87) (.node 8554676498031549354163268 ⟨⟨[78,95,77,69,84,72,79,68]⟩⟩ (.int 91) (.node 8553495913182703669814339 ⟨⟨[77,95,83,84,65,84,73,67]⟩⟩ (.int 16) .nil .nil) .nil) (.node 8557022688798632577147972 ⟨⟨[80,82,73,77,95,84,73,68]⟩⟩ (.top 66) (.node 8557022688798632561424452 ⟨⟨[80,82,73,77,95,69,78,68]⟩⟩ (.int 16) .nil .nil) .nil))) (.node 8580656456029050804216935 ⟨⟨[100,101,99,108,95,115,105,103]⟩⟩ (.top 662) (.node 8562921059987066448843859 ⟨⟨[85,78,95,78,65,77,69,83]⟩⟩ (.top 454) (.node 8561760050004344360209492 ⟨⟨[84,95,79,66,74,69,67,84]⟩⟩ (.int 1) (.node 8561734673378236327601229 ⟨⟨[84,73,68,95,80,82,73,77]⟩⟩ (.top 67) .nil .nil) .nil) (.node 8580656456029050785337444 ⟨⟨[100,101,99,108,95,97,100,100]⟩⟩ (.top 676) (.node 8574761566136290794132581 ⟨⟨[95,108,97,119,95,100,117,101]⟩⟩ (.top 827) .nil .nil) .nil)) (.node 8601902510390163606190180 ⟨⟨[118,97,114,95,107,105,110,100]⟩⟩ (.top 186) (.node 8586575550541099985654885 ⟨⟨[105,115,95,118,97,108,117,101]⟩⟩ (.top 221) (.node 8586575550526811691650149 ⟨⟨[105,115,95,105,102,97,99,101]⟩⟩ (.top 375) .nil .nil) .nil) (.node 8744239630234720138123361350 ⟨⟨[65,67,67,69,83,83,95,79,70]⟩⟩ (.top 614) .nil .nil)))))) (.node 8996236113126111876388634074227 ⟨⟨[99,104,101,99,107,95,97,114,103,115]⟩⟩ (.top 144) (.node 8795059426750662648813176948 ⟨⟨[107,105,110,100,95,115,111,114,116]⟩⟩ (.top 200) (.node 8764850448360842839915084914 ⟨⟨[82,117,110,101,69,114,114,111,114]⟩⟩ (.top 38) (.node 8756373800522982401253683301 ⟨⟨[75,105,110,100,84,97,98,108,101]⟩⟩ (.top 98) (.node 8745462724329236061278521413 ⟨⟨[66,79,68,89,95,72,69,82,69]⟩⟩ (.int 1) (.node 8745455652315463503114736723 ⟨⟨[66,73,78,95,78,65,77,69,83]⟩⟩ (.top 453) (.node 8744272701802705492391317573 ⟨⟨[65,95,80,82,73,86,65,84,69]⟩⟩ (.int 1) .nil .nil) .nil) (.node 8751492036858353021875194964 ⟨⟨[71,66,95,83,84,82,85,67,84]⟩⟩ (.int 2) (.node 8745462724329236067731454021 ⟨⟨[66,79,68,89,95,78,79,78,69]⟩⟩ (.int 0) .nil .nil) .nil)) (.node 8758779818545486864445408332 ⟨⟨[77,95,86,73,82,84,85,65,76]⟩⟩ (.int 64) (.node 8758779811638081042487791685 ⟨⟨[77,95,80,82,73,86,65,84,69]⟩⟩ (.int 2) (.node 8758750314142523648313992259 ⟨⟨[77,70,95,83,84,65,84,73,67]⟩⟩ (.int 1) .nil .nil) .nil) (.node 8762377091597968963630347347 ⟨⟨[80,70,95,80,65,82,65,77,83]⟩⟩ (.int 2) (.node 8758786936717791107230045286 ⟨⟨[77,101,116,104,111,100,68,101,102]⟩⟩ (.top 273) .nil .nil) .nil))) (.node 8780555843723561790371645550 ⟨⟨[95,108,97,119,95,116,117,114,110]⟩⟩ (.top 841) (.node 8780555843723561783922888805 ⟨⟨[95,108,97,119,95,110,111,100,101]⟩⟩ (.top 799) (.node 8767212794879809559854126148 ⟨⟨[84,70,95,83,69,65,76,69,68]⟩⟩ (.int 2) (.node 8766010934164329661534900307 ⟨⟨[83,76,79,84,95,77,79,68,83]⟩⟩ (.int 224) .nil .nil) .nil) (.node 8780555843723561790350666853 ⟨⟨[95,108,97,119,95,116,97,107,101]⟩⟩ (.top 792) (.node 8780555843723561788217875571 ⟨⟨[95,108,97,119,95,114,111,119,115]⟩⟩ (.top 806) .nil .nil) .nil)) (.node 8786592210973748019230512242 ⟨⟨[100,101,99,108,95,111,112,101,114]⟩⟩ (.top 766) (.node 8786592210973748018155737189 ⟨⟨[100,101,99,108,95,110,111,116,101]⟩⟩ (.top 754) (.node 8786592210973748017081978995 ⟨⟨[100,101,99,108,95,109,111,100,115]⟩⟩ (.top 643) .nil .nil) .nil) (.node 8786592210973748022440199268 ⟨⟨[100,101,99,108,95,114,101,97,100]⟩⟩ (.top 690) .nil .nil)))) (.node 8968960321685390614180083598412 ⟨⟨[77,70,95,86,73,82,84,85,65,76]⟩⟩ (.int 2) (.node 8804726108637505594569373796 ⟨⟨[115,101,108,102,95,107,105,110,100]⟩⟩ (.top 347) (.node 8797492611108744263720089700 ⟨⟨[109,118,97,114,95,107,105,110,100]⟩⟩ (.top 193) (.node 8797467846333455210304878692 ⟨⟨[109,97,121,95,115,116,97,110,100]⟩⟩ (.top 151) (.node 8795059426750662653101854824 ⟨⟨[107,105,110,100,95,119,105,116,104]⟩⟩ (.top 354) .nil .nil) .nil) (.node 8803529001408367678057452652 ⟨⟨[114,111,119,95,108,101,118,101,108]⟩⟩ (.top 116) (.node 8801114675418847818919557220 ⟨⟨[112,114,105,109,95,107,105,110,100]⟩⟩ (.top 172) .nil .nil) .nil)) (.node 8954135234820459047377559440461 ⟨⟨[65,95,70,65,77,79,82,65,83,77]⟩⟩ (.int 5) (.node 8954135228938260275272383279193 ⟨⟨[65,95,65,83,83,69,77,66,76,89]⟩⟩ (.int 3) (.node 8811974948103987727795601524 ⟨⟨[121,97,114,100,95,107,101,112,116]⟩⟩ (.top 601) .nil .nil) .nil) (.node 8968960321681939716653693600844 ⟨⟨[77,70,95,83,80,69,67,73,65,76]⟩⟩ (.int 128) (.node 8968960321676162744040076426324 ⟨⟨[77,70,95,78,69,87,83,76,79,84]⟩⟩ (.int 4) .nil .nil) .nil))) (.node 8991289183972927266722015188068 ⟨⟨[95,108,97,119,95,110,97,109,101,100]⟩⟩ (.top 820) (.node 8968990525941410544829082964037 ⟨⟨[77,95,79,86,69,82,82,73,68,69]⟩⟩ (.int 128) (.node 8968990518848654322692717085772 ⟨⟨[77,95,73,78,84,69,82,78,65,76]⟩⟩ (.int 8) (.node 8968990509390085189490898439252 ⟨⟨[77,95,65,66,83,84,82,65,67,84]⟩⟩ (.int 32) .nil .nil) .nil) (.node 8977656105034671539215375872069 ⟨⟨[84,95,78,85,76,76,65,66,76,69]⟩⟩ (.int 8) (.node 8977656093210308580277413302341 ⟨⟨[84,95,68,69,76,69,71,65,84,69]⟩⟩ (.int 6) .nil .nil) .nil)) (.node 8994989727136664220369146717294 ⟨⟨[98,97,115,101,95,99,104,97,105,110]⟩⟩ (.top 382) (.node 8993755396159061609003572378724 ⟨⟨[97,100,100,95,109,101,116,104,111,100]⟩⟩ (.top 319) (.node 8991289183972927268932837024878 ⟨⟨[95,108,97,119,95,112,108,97,105,110]⟩⟩ (.top 834) .nil .nil) .nil) (.node 8995018740175751227656459368548 ⟨⟨[98,121,114,101,102,95,107,105,110,100]⟩⟩ (.top 179) .nil .nil))))) (.node 9213409714214008812011056766489715 ⟨⟨[100,101,99,108,95,119,104,101,114,101,115]⟩⟩ (.top 695) (.node 9184214118151095306867681023561811 ⟨⟨[77,69,84,72,79,68,95,77,79,68,83]⟩⟩ (.int 2559) (.node 9006136019669030065079636302963 ⟨⟨[107,101,112,116,95,102,108,97,103,115]⟩⟩ (.top 312) (.node 8997470424037117972787256992878 ⟨⟨[100,101,99,108,95,112,108,97,105,110]⟩⟩ (.top 773) (.node 8997470424037117961792140713075 ⟨⟨[100,101,99,108,95,102,108,97,103,115]⟩⟩ (.top 726) (.node 8996240944125479603319379966052 ⟨⟨[99,108,97,115,115,95,107,105,110,100]⟩⟩ (.top 158) .nil .nil) .nil) (.node 9003677044484193472353324336236 ⟨⟨[105,115,95,118,105,114,116,117,97,108]⟩⟩ (.top 368) (.node 8997470424037117977197123046501 ⟨⟨[100,101,99,108,95,116,119,105,99,101]⟩⟩ (.top 683) .nil .nil) .nil)) (.node 9019748519676683975923583793252 ⟨⟨[118,97,108,117,101,95,107,105,110,100]⟩⟩ (.top 165) (.node 9016039544681487373359031366771 ⟨⟨[115,101,116,95,112,97,114,97,109,115]⟩⟩ (.top 340) (.node 9014813697442168502322243686504 ⟨⟨[114,111,119,95,108,101,110,103,116,104]⟩⟩ (.top 123) .nil .nil) .nil) (.node 9169034480456150048747627327081549 ⟨⟨[65,95,70,65,77,65,78,68,65,83,77]⟩⟩ (.int 2) (.node 9168999814513001903552839612960851 ⟨⟨[65,67,67,69,83,83,95,77,79,68,83]⟩⟩ (.int 15) .nil .nil) .nil))) (.node 9212145779841138561436236695835748 ⟨⟨[99,104,101,99,107,95,110,97,109,101,100]⟩⟩ (.top 137) (.node 9193088923582637101371181327518804 ⟨⟨[84,70,95,65,66,83,84,82,65,67,84]⟩⟩ (.int 1) (.node 9184246299768219382489286289986628 ⟨⟨[77,95,80,82,79,84,69,67,84,69,68]⟩⟩ (.int 4) (.node 9184215369381039495560704405081172 ⟨⟨[77,70,95,65,66,83,84,82,65,67,84]⟩⟩ (.int 8) .nil .nil) .nil) (.node 9207080124388277520001849211599972 ⟨⟨[95,108,97,119,95,109,101,116,104,111,100]⟩⟩ (.top 848) (.node 9193119861203298390796746613669957 ⟨⟨[84,95,86,65,76,85,69,84,89,80,69]⟩⟩ (.int 2) .nil .nil) .nil)) (.node 9213409714214008800748775258831972 ⟨⟨[100,101,99,108,95,109,101,116,104,111,100]⟩⟩ (.top 759) (.node 9213409714214008788374872479862899 ⟨⟨[100,101,99,108,95,98,111,117,110,100,115]⟩⟩ (.top 712) (.node 9213409714214008787235759096712307 ⟨⟨[100,101,99,108,95,97,99,99,101,115,115]⟩⟩ (.top 650) .nil .nil) .nil) (.node 9213409714214008804122074778023027 ⟨⟨[100,101,99,108,95,112,97,114,97,109,115]⟩⟩ (.top 669) .nil .nil)))) (.node 9623700339107440836955049930858295277636 ⟨⟨[72,69,65,86,73,69,83,84,95,75,73,78,68]⟩⟩ (.int 4096) (.node 9232424493753832698525312539010147 ⟨⟨[115,101,116,95,103,101,110,101,114,105,99]⟩⟩ (.top 333) (.node 9226098620160158740670165373008996 ⟨⟨[110,111,116,101,95,109,101,116,104,111,100]⟩⟩ (.top 326) (.node 9219765293542383211017903104176229 ⟨⟨[105,115,95,110,117,108,108,97,98,108,101]⟩⟩ (.top 389) (.node 9219759121965445280347206008803443 ⟨⟨[105,110,110,101,114,95,107,105,110,100,115]⟩⟩ (.top 109) .nil .nil) .nil) (.node 9232424493753828098098309272559732 ⟨⟨[115,101,116,95,99,111,110,116,101,120,116]⟩⟩ (.top 545) (.node 9228630184575646415207095023539315 ⟨⟨[112,108,97,105,110,95,110,97,109,101,115]⟩⟩ (.top 305) .nil .nil) .nil)) (.node 9455314676477262670527690970139563123 ⟨⟨[116,112,97,114,97,109,95,110,97,109,101,115]⟩⟩ (.top 613) (.node 9435841051461721375161537506771571826 ⟨⟨[101,110,116,101,114,95,109,101,109,98,101,114]⟩⟩ (.top 608) (.node 9392952570495577260709774944231307332 ⟨⟨[68,69,69,80,69,83,84,95,75,73,78,68]⟩⟩ (.int 24) .nil .nil) .nil) (.node 9456616578381959079266351420697332851 ⟨⟨[117,115,117,97,108,95,97,99,99,101,115,115]⟩⟩ (.top 657) .nil .nil))) (.node 10373377138936479507011949906321668382028692821106 ⟨⟨[100,101,99,108,95,99,111,110,118,95,110,117,109,98,101,114]⟩⟩ (.top 785) (.node 9891466212600526549189748299117089028947063 ⟨⟨[99,104,101,99,107,95,107,105,110,100,95,114,111,119]⟩⟩ (.top 130) (.node 9660960304491668482831115809445209285748 ⟨⟨[100,101,99,108,95,101,120,112,108,105,99,105,116]⟩⟩ (.top 747) (.node 9654323248510562491187307539369648307314 ⟨⟨[95,108,97,119,95,111,112,101,114,97,116,111,114]⟩⟩ (.top 813) .nil .nil) .nil) (.node 10130251112242655788369772359785263692615097459 ⟨⟨[100,101,99,108,95,115,108,111,116,95,102,108,97,103,115]⟩⟩ (.top 740) (.node 9892823351799468538507137872910076957800548 ⟨⟨[100,101,99,108,95,111,119,110,95,98,111,117,110,100]⟩⟩ (.top 705) .nil .nil) .nil)) (.node 10622338190270955013882171145354435613218174769665138 ⟨⟨[100,101,99,108,95,98,111,117,110,100,95,110,117,109,98,101,114]⟩⟩ (.top 719) (.node 10373377138936479527290646896420119038345598833778 ⟨⟨[100,101,99,108,95,115,108,111,116,95,110,117,109,98,101,114]⟩⟩ (.top 733) (.node 10373377138936479522224984164044963565731812840562 ⟨⟨[100,101,99,108,95,111,112,101,114,95,110,117,109,98,101,114]⟩⟩ (.top 778) .nil .nil) .nil) (.node 10622338190270955039825897196628686291232962763657331 ⟨⟨[100,101,99,108,95,118,97,108,117,101,95,98,111,117,110,100,115]⟩⟩ (.top 700) .nil .nil)))))))
noncomputable def mO:List (Nat×List (Str×Nat)):=[(98,[(⟨⟨[95,95,105,110,105,116,95,95]⟩⟩,81),(⟨⟨[114,111,119]⟩⟩,88),(⟨⟨[112,117,116]⟩⟩,95)]),(252,[(⟨⟨[95,95,105,110,105,116,95,95]⟩⟩,249)]),(273,[(⟨⟨[95,95,105,110,105,116,95,95]⟩⟩,270)]),(294,[(⟨⟨[95,95,105,110,105,116,95,95]⟩⟩,291)]),(406,[(⟨⟨[95,95,105,110,105,116,95,95]⟩⟩,403)]),(448,[(⟨⟨[95,95,105,110,105,116,95,95]⟩⟩,424),(⟨⟨[112,117,116]⟩⟩,431),(⟨⟨[99,117,116]⟩⟩,438),(⟨⟨[110,117,109,98,101,114,115]⟩⟩,445)]),(471,[(⟨⟨[95,95,105,110,105,116,95,95]⟩⟩,468)]),(534,[(⟨⟨[95,95,105,110,105,116,95,95]⟩⟩,489),(⟨⟨[98,97,115,101]⟩⟩,496),(⟨⟨[105,102,97,99,101,115,95,97,116]⟩⟩,503),(⟨⟨[115,111,114,116]⟩⟩,510),(⟨⟨[118,97,114,105,97,110,99,101]⟩⟩,517),(⟨⟨[117,110,100,101,114]⟩⟩,524),(⟨⟨[104,97,115,95,110,101,119]⟩⟩,531)]),(590,[(⟨⟨[95,95,105,110,105,116,95,95]⟩⟩,559),(⟨⟨[107,105,110,100]⟩⟩,566),(⟨⟨[102,97,117,108,116]⟩⟩,573),(⟨⟨[115,104,111,119]⟩⟩,580),(⟨⟨[107,101,112,116]⟩⟩,587)]),(632,[(⟨⟨[95,95,105,110,105,116,95,95]⟩⟩,629)])]
noncomputable def Cd:List (Nat×List Str):=[(98,[⟨⟨[114,111,119,115]⟩⟩,⟨⟨[105,110,100,101,120]⟩⟩,⟨⟨[100,101,112,116,104,115]⟩⟩,⟨⟨[119,101,105,103,104,116,115]⟩⟩,⟨⟨[111,112,101,110,115]⟩⟩]),(252,[⟨⟨[116,105,100]⟩⟩,⟨⟨[110,97,109,101]⟩⟩,⟨⟨[115,111,114,116]⟩⟩,⟨⟨[102,108,97,103,115]⟩⟩,⟨⟨[98,97,115,101]⟩⟩,⟨⟨[105,102,97,99,101,115]⟩⟩,⟨⟨[112,97,114,97,109,115]⟩⟩,⟨⟨[118,97,114,105,97,110,99,101,115]⟩⟩,⟨⟨[98,111,117,110,100,115]⟩⟩,⟨⟨[102,105,101,108,100,115]⟩⟩,⟨⟨[109,101,116,104,111,100,115]⟩⟩,⟨⟨[97,115,109]⟩⟩,⟨⟨[99,99,116,111,114]⟩⟩,⟨⟨[117,110,100,101,114]⟩⟩,⟨⟨[105,109,112,108,115]⟩⟩,⟨⟨[112,114,111,112,115]⟩⟩,⟨⟨[101,118,101,110,116,115]⟩⟩,⟨⟨[102,105,110,97,108,105,115,101,114]⟩⟩,⟨⟨[104,111,109,101]⟩⟩]),(273,[⟨⟨[109,105,100]⟩⟩,⟨⟨[111,119,110,101,114]⟩⟩,⟨⟨[110,97,109,101]⟩⟩,⟨⟨[97,99,99,101,115,115]⟩⟩,⟨⟨[102,108,97,103,115]⟩⟩,⟨⟨[110,103,101,110]⟩⟩,⟨⟨[103,110,97,109,101,115]⟩⟩,⟨⟨[103,98,111,117,110,100,115]⟩⟩,⟨⟨[114,101,116]⟩⟩,⟨⟨[112,97,114,97,109,115]⟩⟩,⟨⟨[112,110,97,109,101,115]⟩⟩,⟨⟨[112,102,108,97,103,115]⟩⟩,⟨⟨[98,111,100,121]⟩⟩,⟨⟨[110,97,116,105,118,101]⟩⟩]),(294,[⟨⟨[107,116]⟩⟩,⟨⟨[116,121,112,101,115]⟩⟩,⟨⟨[102,105,101,108,100,115,95]⟩⟩,⟨⟨[109,101,116,104,111,100,115]⟩⟩,⟨⟨[110,97,109,101,115]⟩⟩,⟨⟨[97,115,109,115]⟩⟩,⟨⟨[101,110,116,114,121]⟩⟩]),(406,[⟨⟨[107,105,110,100]⟩⟩,⟨⟨[97]⟩⟩,⟨⟨[107,105,100,115]⟩⟩,⟨⟨[109,111,100,115]⟩⟩,⟨⟨[97,116]⟩⟩,⟨⟨[110,105,100]⟩⟩]),(448,[⟨⟨[114,111,119,115]⟩⟩]),(471,[⟨⟨[115,116,111,114,101]⟩⟩,⟨⟨[97,115,109]⟩⟩,⟨⟨[102,110,115]⟩⟩,⟨⟨[118,97,114,115]⟩⟩,⟨⟨[111,102,95,109,105,100]⟩⟩,⟨⟨[100,105,97,103,115]⟩⟩,⟨⟨[105,110,105,116,115]⟩⟩,⟨⟨[115,105,110,105,116,115]⟩⟩,⟨⟨[99,111,110,115,116,115]⟩⟩]),(534,[⟨⟨[107,116]⟩⟩,⟨⟨[98,97,115,101,115]⟩⟩,⟨⟨[105,102,97,99,101,115]⟩⟩,⟨⟨[115,111,114,116,115]⟩⟩,⟨⟨[118,97,114,105,97,110,99,101,115]⟩⟩,⟨⟨[117,110,100,101,114,115]⟩⟩,⟨⟨[98,111,117,110,100,115]⟩⟩,⟨⟨[103,102,108,97,103,115]⟩⟩,⟨⟨[110,101,119,115]⟩⟩]),(590,[⟨⟨[117,110,105,116]⟩⟩,⟨⟨[115,116,111,114,101]⟩⟩,⟨⟨[107,116]⟩⟩,⟨⟨[104,111,115,116]⟩⟩,⟨⟨[97,115,109]⟩⟩,⟨⟨[107,105,110,100,115]⟩⟩,⟨⟨[117,110,109,101,116]⟩⟩,⟨⟨[116,111,108,100]⟩⟩,⟨⟨[116,112,97,114,97,109,115]⟩⟩,⟨⟨[111,119,110,101,114]⟩⟩,⟨⟨[109,105,100]⟩⟩,⟨⟨[101,97,114,108,121]⟩⟩,⟨⟨[115,116,97,116,105,99]⟩⟩]),(632,[⟨⟨[117,110,105,116]⟩⟩,⟨⟨[99,120]⟩⟩,⟨⟨[115,116,111,114,101]⟩⟩,⟨⟨[107,116]⟩⟩,⟨⟨[116,121,112,101,115]⟩⟩,⟨⟨[119,111,114,107]⟩⟩,⟨⟨[99,111,110,115,116,115]⟩⟩,⟨⟨[111,118,101,114,114,105,100,101,115]⟩⟩,⟨⟨[101,120,112,108,105,99,105,116,115]⟩⟩,⟨⟨[108,97,116,101]⟩⟩,⟨⟨[107,101,121,115]⟩⟩,⟨⟨[111,112,101,114,115]⟩⟩,⟨⟨[115,105,110,105,116,115]⟩⟩])]
noncomputable def Dy:List (Nat×List (SV×SV)):=[(66,[(.int 0,.int 20),(.int 1,.int 9),(.int 2,.int 10),(.int 3,.int 11),(.int 4,.int 12),(.int 5,.int 13),(.int 6,.int 14),(.int 7,.int 15),(.int 8,.int 16),(.int 9,.int 17),(.int 10,.int 18),(.int 11,.int 19),(.int 12,.int 1),(.int 13,.int 4)]),(67,[(.int 20,.int 0),(.int 9,.int 1),(.int 10,.int 2),(.int 11,.int 3),(.int 12,.int 4),(.int 13,.int 5),(.int 14,.int 6),(.int 15,.int 7),(.int 16,.int 8),(.int 17,.int 9),(.int 18,.int 10),(.int 19,.int 11),(.int 1,.int 12),(.int 4,.int 13)]),(453,[(.str ⟨⟨[43]⟩⟩,.str ⟨⟨[111,112,95,65,100,100,105,116,105,111,110]⟩⟩),(.str ⟨⟨[45]⟩⟩,.str ⟨⟨[111,112,95,83,117,98,116,114,97,99,116,105,111,110]⟩⟩),(.str ⟨⟨[42]⟩⟩,.str ⟨⟨[111,112,95,77,117,108,116,105,112,108,121]⟩⟩),(.str ⟨⟨[47]⟩⟩,.str ⟨⟨[111,112,95,68,105,118,105,115,105,111,110]⟩⟩),(.str ⟨⟨[37]⟩⟩,.str ⟨⟨[111,112,95,77,111,100,117,108,117,115]⟩⟩),(.str ⟨⟨[38]⟩⟩,.str ⟨⟨[111,112,95,66,105,116,119,105,115,101,65,110,100]⟩⟩),(.str ⟨⟨[124]⟩⟩,.str ⟨⟨[111,112,95,66,105,116,119,105,115,101,79,114]⟩⟩),(.str ⟨⟨[94]⟩⟩,.str ⟨⟨[111,112,95,69,120,99,108,117,115,105,118,101,79,114]⟩⟩),(.str ⟨⟨[60,60]⟩⟩,.str ⟨⟨[111,112,95,76,101,102,116,83,104,105,102,116]⟩⟩),(.str ⟨⟨[62,62]⟩⟩,.str ⟨⟨[111,112,95,82,105,103,104,116,83,104,105,102,116]⟩⟩),(.str ⟨⟨[61,61]⟩⟩,.str ⟨⟨[111,112,95,69,113,117,97,108,105,116,121]⟩⟩),(.str ⟨⟨[33,61]⟩⟩,.str ⟨⟨[111,112,95,73,110,101,113,117,97,108,105,116,121]⟩⟩),(.str ⟨⟨[60]⟩⟩,.str ⟨⟨[111,112,95,76,101,115,115,84,104,97,110]⟩⟩),(.str ⟨⟨[62]⟩⟩,.str ⟨⟨[111,112,95,71,114,101,97,116,101,114,84,104,97,110]⟩⟩),(.str ⟨⟨[60,61]⟩⟩,.str ⟨⟨[111,112,95,76,101,115,115,84,104,97,110,79,114,69,113,117,97,108]⟩⟩),(.str ⟨⟨[62,61]⟩⟩,.str ⟨⟨[111,112,95,71,114,101,97,116,101,114,84,104,97,110,79,114,69,113,117,97,108]⟩⟩)]),(454,[(.str ⟨⟨[43]⟩⟩,.str ⟨⟨[111,112,95,85,110,97,114,121,80,108,117,115]⟩⟩),(.str ⟨⟨[45]⟩⟩,.str ⟨⟨[111,112,95,85,110,97,114,121,78,101,103,97,116,105,111,110]⟩⟩),(.str ⟨⟨[33]⟩⟩,.str ⟨⟨[111,112,95,76,111,103,105,99,97,108,78,111,116]⟩⟩),(.str ⟨⟨[126]⟩⟩,.str ⟨⟨[111,112,95,79,110,101,115,67,111,109,112,108,101,109,101,110,116]⟩⟩),(.str ⟨⟨[43,43]⟩⟩,.str ⟨⟨[111,112,95,73,110,99,114,101,109,101,110,116]⟩⟩),(.str ⟨⟨[45,45]⟩⟩,.str ⟨⟨[111,112,95,68,101,99,114,101,109,101,110,116]⟩⟩)]),(614,[(.int 1,.int 6),(.int 2,.int 1),(.int 4,.int 4),(.int 8,.int 3),(.int 12,.int 5),(.int 6,.int 2)])]
noncomputable def tE (a:Str):List Str->Bool
 |[]=>false
 |x::r=>match cq x a with
  |true=>true
  |false=>tE a r
structure io where
 inq:List (Nat×SK×Bool):=[]
 dq:List (Nat×SK×Option SV):=[]
 din:List (Nat×SK×Bool):=[]
 draws:List (SV×Int×SV):=[]
noncomputable def Fk (look:Nat->Option Obj) (q:io):Cx where
 gl x:=Ea.get (nk x) x
 fn a:=match look a with
  |some ⟨_,_,.func f,_⟩=>match f.code with
   |.ref _=>some f
   |_=>none
  |_=>none
 cls a:=match bF mO a with
  |some _=>true
  |none=>false
 meth a x:=match bF mO a with
  |some l=>bE l x
  |none=>none
 own C a:=match bF Cd C with
  |some l=>tE a l
  |none=>false
 tdict a:=bF Dy a
 take:=792
 inq:=q.inq
 dq:=q.dq
 din:=q.din
 draws:=q.draws
end
section
open PySem PySem.W
noncomputable def iz (so ro ky:SV) (lc:List (Str×SV)):St:=⟨66,(.node (.cell (some (.ref 1))) (.node (.sd [(⟨⟨[105,110]⟩⟩,.ref 2),(⟨⟨[97,116]⟩⟩,.sym 1 0),(⟨⟨[99,111,117,110,116]⟩⟩,.sym 2 0),(⟨⟨[111,119,110,101,114,115]⟩⟩,.ref 3),(⟨⟨[119,111,114,107]⟩⟩,.ref 4),(⟨⟨[116,111,108,100]⟩⟩,.ref 5),(⟨⟨[109,101,116]⟩⟩,.ref 6),(⟨⟨[115,105,103,110,115]⟩⟩,.ref 7),(⟨⟨[112,97,105,114,115]⟩⟩,.ref 8),(⟨⟨[104,101,97,100,115]⟩⟩,.ref 9),(⟨⟨[102,97,99,101,115]⟩⟩,.ref 10)]) (.node (.lst 2 []) (.node (.lst 6 []) (.node (.tab 20 [(.int 1,.ref 38),(.int 7,.ref 39),(.int 13,.ref 40),(.int 16,.ref 41),(.sym 5001 0,.ref 50),(.sym 5011 0,.ref 57),(.sym 5021 0,.ref 64)] []) (.node (.sd [(⟨⟨[117,110,105,116]⟩⟩,.any),(⟨⟨[99,120]⟩⟩,.ref 26),(⟨⟨[115,116,111,114,101]⟩⟩,.ref 11),(⟨⟨[107,116]⟩⟩,.ref 13),(⟨⟨[116,121,112,101,115]⟩⟩,.any),(⟨⟨[119,111,114,107]⟩⟩,.ref 32),(⟨⟨[99,111,110,115,116,115]⟩⟩,.any),(⟨⟨[111,118,101,114,114,105,100,101,115]⟩⟩,.ref 33),(⟨⟨[101,120,112,108,105,99,105,116,115]⟩⟩,.ref 34),(⟨⟨[108,97,116,101]⟩⟩,.ref 35),(⟨⟨[107,101,121,115]⟩⟩,.ref 36),(⟨⟨[111,112,101,114,115]⟩⟩,.ref 37),(⟨⟨[115,105,110,105,116,115]⟩⟩,.any)]) (.node (.lst 13 []) .nil .nil) .nil) (.node (.lst 0 []) .nil .nil)) (.node (.sd [(⟨⟨[107,116]⟩⟩,.ref 13),(⟨⟨[98,97,115,101,115]⟩⟩,.ref 24),(⟨⟨[105,102,97,99,101,115]⟩⟩,.any),(⟨⟨[115,111,114,116,115]⟩⟩,.ref 25),(⟨⟨[118,97,114,105,97,110,99,101,115]⟩⟩,.any),(⟨⟨[117,110,100,101,114,115]⟩⟩,.any),(⟨⟨[98,111,117,110,100,115]⟩⟩,.any),(⟨⟨[103,102,108,97,103,115]⟩⟩,.any),(⟨⟨[110,101,119,115]⟩⟩,.any)]) (.node (.tup [.int 1,.int 7]) .nil .nil) (.node (.lst 0 []) .nil .nil))) (.node (.inst 294 12) (.node (.lst 23 []) (.node (.lst 17 []) .nil .nil) (.node (.tup []) .nil .nil)) (.node (.sd [(⟨⟨[117,110,105,116]⟩⟩,.any),(⟨⟨[115,116,111,114,101]⟩⟩,.ref 11),(⟨⟨[107,116]⟩⟩,.ref 13),(⟨⟨[104,111,115,116]⟩⟩,.ref 22),(⟨⟨[97,115,109]⟩⟩,.any),(⟨⟨[107,105,110,100,115]⟩⟩,.ref 28),(⟨⟨[117,110,109,101,116]⟩⟩,.any),(⟨⟨[116,111,108,100]⟩⟩,.ref 29),(⟨⟨[116,112,97,114,97,109,115]⟩⟩,.any),(⟨⟨[111,119,110,101,114]⟩⟩,.sym 5000 0),(⟨⟨[109,105,100]⟩⟩,.int 0),(⟨⟨[101,97,114,108,121]⟩⟩,.any),(⟨⟨[115,116,97,116,105,99]⟩⟩,.any)]) (.node (.lst 0 []) .nil .nil) (.node (.inst 252 60) .nil .nil)))) (.node (.lst 4 []) (.node (.lst 8 []) (.node (.lst 21 []) (.node (.lst 0 []) (.node (.tup []) .nil .nil) .nil) (.node (.lst 11 []) .nil .nil)) (.node (.ki [(.int 34,.int 3)]) (.node (.tup [.int 2,.int 34,.ref 42]) .nil .nil) (.node (.tup [.sym 5013 0,.sym 5010 0,.ref 58]) .nil .nil))) (.node (.inst 98 14) (.node (.lst 14 []) (.node (.hd 3 []) .nil .nil) (.node (.sd [(⟨⟨[116,105,100]⟩⟩,.sym 5010 0),(⟨⟨[110,97,109,101]⟩⟩,.ss 1),(⟨⟨[115,111,114,116]⟩⟩,.sym 5012 0),(⟨⟨[102,108,97,103,115]⟩⟩,.int 0),(⟨⟨[98,97,115,101]⟩⟩,.any),(⟨⟨[105,102,97,99,101,115]⟩⟩,.any),(⟨⟨[112,97,114,97,109,115]⟩⟩,.ref 54),(⟨⟨[118,97,114,105,97,110,99,101,115]⟩⟩,.any),(⟨⟨[98,111,117,110,100,115]⟩⟩,.ref 55),(⟨⟨[102,105,101,108,100,115]⟩⟩,.any),(⟨⟨[109,101,116,104,111,100,115]⟩⟩,.ref 56),(⟨⟨[97,115,109]⟩⟩,.any),(⟨⟨[99,99,116,111,114]⟩⟩,.any),(⟨⟨[117,110,100,101,114]⟩⟩,.any),(⟨⟨[105,109,112,108,115]⟩⟩,.any),(⟨⟨[112,114,111,112,115]⟩⟩,.any),(⟨⟨[101,118,101,110,116,115]⟩⟩,.any),(⟨⟨[102,105,110,97,108,105,115,101,114]⟩⟩,.any),(⟨⟨[104,111,109,101]⟩⟩,.any)]) .nil .nil)) (.node (.lst 10 []) (.node (.inst 252 46) .nil .nil) (.node (.lst 0 []) .nil .nil))))) (.node (.lst 1 []) (.node (.lst 3 []) (.node (.lst 7 []) (.node (.hd 1 []) (.node (.lst 15 []) (.node (.tup [.sym 5023 0,.sym 5020 0,.ref 65]) .nil .nil) .nil) (.node (.lst 0 []) .nil .nil)) (.node (.sd []) (.node (.tup [.int 1,.int 13]) .nil .nil) (.node (.lst 12 []) .nil .nil))) (.node (.sd [(⟨⟨[107,116]⟩⟩,.ref 13),(⟨⟨[116,121,112,101,115]⟩⟩,.ref 20),(⟨⟨[102,105,101,108,100,115,95]⟩⟩,.any),(⟨⟨[109,101,116,104,111,100,115]⟩⟩,.ref 21),(⟨⟨[110,97,109,101,115]⟩⟩,.any),(⟨⟨[97,115,109,115]⟩⟩,.any),(⟨⟨[101,110,116,114,121]⟩⟩,.any)]) (.node (.tab 24 [(ky,.ref 45),(.sym 5010 0,.ref 52),(.sym 5020 0,.ref 59)] []) (.node (.hd 2 []) .nil .nil) (.node (.inst 252 53) .nil .nil)) (.node (.ks [(.str ⟨⟨[105,110,116]⟩⟩,.int 7),(.str ⟨⟨[115,116,114,105,110,103]⟩⟩,.int 13),(.str ⟨⟨[98,111,111,108]⟩⟩,.int 1),(.str ⟨⟨[73,70,97,99,101]⟩⟩,.int 16),(.ss 0,.sym 5001 0),(.ss 1,.sym 5011 0),(.ss 2,.sym 5021 0)]) (.node (.lst 0 []) .nil .nil) (.node (.sd [(⟨⟨[116,105,100]⟩⟩,.sym 5020 0),(⟨⟨[110,97,109,101]⟩⟩,.ss 2),(⟨⟨[115,111,114,116]⟩⟩,.sym 5022 0),(⟨⟨[102,108,97,103,115]⟩⟩,.int 0),(⟨⟨[98,97,115,101]⟩⟩,.any),(⟨⟨[105,102,97,99,101,115]⟩⟩,.any),(⟨⟨[112,97,114,97,109,115]⟩⟩,.ref 61),(⟨⟨[118,97,114,105,97,110,99,101,115]⟩⟩,.any),(⟨⟨[98,111,117,110,100,115]⟩⟩,.ref 62),(⟨⟨[102,105,101,108,100,115]⟩⟩,.any),(⟨⟨[109,101,116,104,111,100,115]⟩⟩,.ref 63),(⟨⟨[97,115,109]⟩⟩,.any),(⟨⟨[99,99,116,111,114]⟩⟩,.any),(⟨⟨[117,110,100,101,114]⟩⟩,.any),(⟨⟨[105,109,112,108,115]⟩⟩,.any),(⟨⟨[112,114,111,112,115]⟩⟩,.any),(⟨⟨[101,118,101,110,116,115]⟩⟩,.any),(⟨⟨[102,105,110,97,108,105,115,101,114]⟩⟩,.any),(⟨⟨[104,111,109,101]⟩⟩,.any)]) .nil .nil)))) (.node (.lst 5 []) (.node (.lst 9 []) (.node (.lst 22 []) (.node (.lst 16 []) .nil .nil) (.node (.tup [ro,.sym 5000 0,.ref 51]) .nil .nil)) (.node (.inst 590 27) (.node (.tup []) .nil .nil) (.node (.tup []) .nil .nil))) (.node (.sd [(⟨⟨[114,111,119,115]⟩⟩,.ref 15),(⟨⟨[105,110,100,101,120]⟩⟩,.ref 16),(⟨⟨[100,101,112,116,104,115]⟩⟩,.ref 17),(⟨⟨[119,101,105,103,104,116,115]⟩⟩,.ref 18),(⟨⟨[111,112,101,110,115]⟩⟩,.ref 19)]) (.node (.inst 534 23) (.node (.tup [.int 1,.int 1]) .nil .nil) (.node (.lst 0 []) .nil .nil)) (.node (.inst 632 31) (.node (.sd [(⟨⟨[116,105,100]⟩⟩,.sym 5000 0),(⟨⟨[110,97,109,101]⟩⟩,.ss 0),(⟨⟨[115,111,114,116]⟩⟩,so),(⟨⟨[102,108,97,103,115]⟩⟩,.int 0),(⟨⟨[98,97,115,101]⟩⟩,.any),(⟨⟨[105,102,97,99,101,115]⟩⟩,.any),(⟨⟨[112,97,114,97,109,115]⟩⟩,.ref 47),(⟨⟨[118,97,114,105,97,110,99,101,115]⟩⟩,.any),(⟨⟨[98,111,117,110,100,115]⟩⟩,.ref 48),(⟨⟨[102,105,101,108,100,115]⟩⟩,.any),(⟨⟨[109,101,116,104,111,100,115]⟩⟩,.ref 49),(⟨⟨[97,115,109]⟩⟩,.any),(⟨⟨[99,99,116,111,114]⟩⟩,.any),(⟨⟨[117,110,100,101,114]⟩⟩,.any),(⟨⟨[105,109,112,108,115]⟩⟩,.any),(⟨⟨[112,114,111,112,115]⟩⟩,.any),(⟨⟨[101,118,101,110,116,115]⟩⟩,.any),(⟨⟨[102,105,110,97,108,105,115,101,114]⟩⟩,.any),(⟨⟨[104,111,109,101]⟩⟩,.any)]) .nil .nil) (.node (.lst 0 []) .nil .nil)))))),lc⟩
noncomputable def pN:List (Str×SV):=[(⟨⟨[100]⟩⟩,.ref 30),(⟨⟨[116]⟩⟩,.ref 45),(⟨⟨[115,116,111,114,101]⟩⟩,.ref 11),(⟨⟨[121,97,114,100]⟩⟩,.ref 26),(⟨⟨[102,105,114,115,116]⟩⟩,.sym 6 0)]
noncomputable def C8:List (Str×SV):=[(⟨⟨[100]⟩⟩,.ref 30),(⟨⟨[115,116,111,114,101]⟩⟩,.ref 11),(⟨⟨[121,97,114,100]⟩⟩,.ref 26),(⟨⟨[102,105,114,115,116]⟩⟩,.sym 6 0)]
noncomputable def tmA:St:=iz (.int 1) (.int 2) (.sym 5000 0) pN
noncomputable def tmB:St:=iz (.int 2) (.int 3) (.sym 5000 0) pN
noncomputable def tmN:St:=iz (.sym 5002 0) (.sym 5003 0) (.sym 5000 0) C8
end
section
open PySem PySem.W
noncomputable def sO (s:String):Str:=Str.ofString s
noncomputable def vS (s:String) (t:Nat):Value:=.str (Str.ofString s) t
noncomputable def eS (P:Params) (s:String) (t:Nat) (v:Value):DictEntry:=⟨PyData.keyHash P (Str.ofString s),.str (Str.ofString s) t,v⟩
noncomputable def eI (P:Params) (s:String) (t:Nat) (v:Int):DictEntry:=eS P s t (.int v (t -1))
noncomputable def eR (P:Params) (s:String) (t r:Nat):DictEntry:=eS P s t (.ref r)
noncomputable def oT (xs:List Value) (n:Nat):Obj:=⟨.type "tuple",none,.seq xs.toArray n,#[]⟩
noncomputable def oD (xs:List DictEntry) (n:Nat):Obj:=⟨.type "dict",none,.dict xs.toArray n,#[]⟩
noncomputable def oF (c:String) (xs:List Value):Obj:=⟨.type c,none,.fields xs.toArray,#[]⟩
noncomputable def oM (xs:List Value):Obj:=⟨.none,none,.fields xs.toArray,#[]⟩
noncomputable def oU (f:FuncData):Obj:=⟨.type "function",none,.func f,#[]⟩
noncomputable def oV (f:FuncData):Obj:=⟨.none,none,.func f,#[]⟩
noncomputable def iM:BT->List (Nat×Obj)->BT
 |t,[]=>t
 |t,(i,o)::r=>iM (t.ins i o) r
noncomputable def iF:BT->Nat->List Obj->BT
 |t,_,[]=>t
 |t,n,o::r=>iF (t.ins n o) (n+1) r
noncomputable def body:List Stmt:=PySem.Challenge.pw_hb0003_01.main.body
noncomputable def st (i:Nat):Stmt:=body.getD i (.Pass ⟨0,0,0,0⟩)
noncomputable def cB (s:Stmt):List Stmt:=bX 0 s
noncomputable def mt (i j:Nat):Stmt:=(cB (st i)).getD j (.Pass ⟨0,0,0,0⟩)
noncomputable def dN (s:Stmt):Str:=(sv s).nm
noncomputable def dP (s:Stmt):Arguments:=(sv s).ar
noncomputable def dB (s:Stmt):List Stmt:=bX 0 s
noncomputable def dS (s:Stmt):Scope:=(sv s).sc
noncomputable def fd (s:Stmt) (q:Str) (g:Nat) (pm cd:Value) (b:Nat):FuncData:={name:=dN s,qualname:=q,params:=dP s,body:=.stmts (dB s),scope:=dS s,globals:=g,closure:=[],defaults:=.none,kwdefaults:=.none,doc:=.none,pyModule:=pm,annotations:=none,code:=cd,closureTuple:=.none,builtins:=b}
abbrev N (o:Obj) (l r:BT):BT:=.node o l r
abbrev O:BT:=.nil
noncomputable def pr:List (List Obj)->List Obj
 |[]=>[]
 |x::r=>x++pr r
noncomputable def vL:List String->Nat->List Value
 |[],_=>[]
 |x::r,n=>vS x n::vL r (n+1)
noncomputable def jp (mv:Value) (r a:Nat) (s:Stmt) (n q:String) (xs:List String) (c l:Int):List Obj:=[oT [] 0,oM [],oT (vL xs (a+3)) 0,oT [] 0,oV (fd s (sO q) 0 (.none) (.none) 0),oF "code" [vS n a,vS q (a+1),vS "/claim/cut.py" (a+2),.int l 0,.int c 0,.int 0 0,.int 0 0,.int 3 0,.ref r,.bool true,.int 181 0,.ref (r+1),.none,.ref (r+2),.ref (r+3),.ref (r+4),.int (a+3+xs.length:Nat) 0,.int l 0,vS "/claim/cut.py" (a+3+xs.length+1)],oU (fd s (sO q) 3 mv (.ref (r+5)) 0)]
noncomputable def cS (mv:Value) (r a:Nat) (s:Stmt) (n:String) (xs:List String) (c l:Int):List Obj:=jp mv r a s n n xs c l
noncomputable def cC (n:String) (a:Nat) (l:Int) (r:Nat):Obj:=oF "code" [vS n a,vS n (a+1),vS "/claim/cut.py" (a+2),.int l 0,.int 0 0,.int 0 0,.int 0 0,.int 0 0,.ref r,.bool false,.int 181 0,.ref (r+1),.none,.none,.none,.none,.int (a+3:Nat) 0,.int l 0,vS "/claim/cut.py" (a+4)]
noncomputable def kC (n:String) (b m:List Value) (ns:Nat) (sb:List Value) (sl:Array (Option Value)):Obj:=⟨.type "type",none,.cls {name:=(sO n),bases:=b,mro:=m,ns:=ns,qualname:=(sO n),hasDict:=true,slotNames:=[],subclasses:=sb,abstract:=false,collection:=none,hasDel:=false},sl⟩
noncomputable def fR (a b:Nat) (m:Value):Obj:=⟨.type "frame",none,.plain,#[some (.ref a),some (.ref 3),some (.ref b),none,some m,none,some (.ref 0)]⟩
noncomputable def pR:Obj:=oF "builtin_function_or_method" [.builtin "type.__prepare__",.type "type"]
noncomputable def iR (n:Nat):Obj:=oF "builtin_function_or_method" [.builtin "object.__init_subclass__",.ref n]
noncomputable def uR (n:Nat):Obj:=oF "super" [.ref n,.ref n,.ref n]
noncomputable def FP:Value:=vS "__main__" 164
noncomputable def C7:Value:=vS "framerune.csbound" 1064
noncomputable def wx:Value:=vS "framerune.cscore" 1272
noncomputable def mP:Value:=vS "framerune.csdeclb" 1379
noncomputable def xr:Value:=vS "framerune.csdeclm" 1556
noncomputable def vE:Value:=vS "framerune.csnodes" 929
noncomputable def ww:Value:=vS "framerune.faults" 206
noncomputable def Fc:Value:=vS "framerune.kindline" 901
noncomputable def vD:Value:=vS "framerune.kindrel" 1172
noncomputable def ip:Value:=vS "framerune.kinds" 271
noncomputable def dC:Value:=vS "framerune.store" 610
noncomputable def j6:Value:=vS "law_hb0003_01" 1668
noncomputable def nsE (P:Params):List DictEntry:=[
 eS P "__doc__" 166 .none,eS P "__package__" 167 .none,eS P "__loader__" 168 (.builtin "__main__.__loader__#opaque"),eS P "__spec__" 169 .none,eR P "__annotations__" 170 6,eR P "__builtins__" 171 4,eS P "__file__" 173 (vS "/claim/cut.py" 172),eS P "__cached__" 174 .none,eR P "_wall" 193 21,eI P "A_PRIVATE" 195 1,eI P "A_FAMANDASM" 197 2,eI P "A_ASSEMBLY" 199 3,eI P "A_FAMILY" 201 4,eI P "A_FAMORASM" 203 5,eI P "A_PUBLIC" 205 6,eR P "RuneError" 238 38,eR P "BadKind" 254 51,eR P "LeftOut" 270 63,eI P "VOID" 274 0,eI P "BOOL" 276 1,eI P "CHAR" 278 2,eI P "I1" 280 3,eI P "U1" 282 4,eI P "I2" 284 5,eI P "U2" 286 6,eI P "I4" 288 7,eI P "U4" 290 8,eI P "I8" 292 9,eI P "U8" 294 10,eI P "NINT" 296 11,eI P "OBJECT" 298 12,eI P "STRING" 300 13,eI P "NULLK" 302 14,eI P "BAD" 304 15,eI P "PRIM_END" 306 16,eI P "R_PRIM" 308 1,eI P "R_CLASS" 310 2,eI P "R_VALUE" 312 3,eI P "R_ARRAY" 314 4,eI P "R_BYREF" 316 5,eI P "R_VAR" 318 6,eI P "R_MVAR" 320 7,eI P "R_BOXED" 322 8,eI P "R_ROREF" 324 9,eI P "R_FTN" 326 10,eI P "R_RAW" 328 11,eI P "DEEPEST_KIND" 330 24,eI P "HEAVIEST_KIND" 332 4096,eR P "PRIM_TID" 361 66,eR P "TID_PRIM" 390 67,eI P "ARRAY_TID" 392 5,eR P "KindTable" 449 98,eR P "inner_kinds" 457 109,eR P "row_level" 464 116,eR P "row_length" 471 123,eR P "check_kind_row" 481 130,eR P "check_named" 489 137,eR P "check_args" 498 144,eR P "may_stand" 507 151,eR P "class_kind" 516 158,eR P "value_kind" 525 165,eR P "prim_kind" 533 172,eR P "byref_kind" 541 179,eR P "var_kind" 549 186,eR P "mvar_kind" 557 193,eR P "kind_sort" 565 200,eR P "tid_of" 574 207,eR P "args_of" 583 214,eR P "is_value" 591 221,eR P "is_ref" 600 228,eR P "is_var" 609 235,eI P "S_CLASS" 613 1,eI P "S_STRUCT" 615 2,eI P "S_IFACE" 617 3,eI P "S_ENUM" 619 5,eI P "TF_ABSTRACT" 621 1,eI P "TF_SEALED" 623 2,eI P "VA_NONE" 625 0,eI P "GB_CLASS" 627 1,eI P "GB_STRUCT" 629 2,eI P "GB_NEW" 631 4,eI P "PF_OUT" 633 1,eI P "PF_PARAMS" 635 2,eI P "MF_STATIC" 637 1,eI P "MF_VIRTUAL" 639 2,eI P "MF_NEWSLOT" 641 4,eI P "MF_ABSTRACT" 643 8,eI P "MF_FINAL" 645 16,eI P "MF_CTOR" 647 32,eI P "MF_CCTOR" 649 64,eI P "MF_SPECIAL" 651 128,eI P "T_OBJECT" 653 1,eI P "T_VALUETYPE" 655 2,eI P "T_ENUM" 657 3,eI P "T_ARRAY" 659 5,eI P "T_DELEGATE" 661 6,eI P "T_NULLABLE" 663 8,eR P "TypeDef" 717 252,eR P "MethodDef" 765 273,eR P "Store" 799 294,eR P "plain_names" 808 305,eR P "kept_flags" 815 312,eR P "add_method" 830 319,eR P "note_method" 840 326,eR P "set_generic" 852 333,eR P "set_params" 863 340,eR P "self_kind" 874 347,eR P "kind_with" 884 354,eR P "type_of" 893 361,eR P "is_virtual" 900 368,eR P "is_iface" 910 375,eR P "base_chain" 920 382,eR P "is_nullable" 928 389,eI P "N_TYPE" 932 40,eI P "N_BLOCK" 934 50,eI P "N_TPARAM" 936 87,eI P "N_METHOD" 938 91,eI P "N_OPER" 940 99,eI P "N_PARAM" 942 100,eI P "N_LIST" 944 110,eI P "M_PUBLIC" 946 1,eI P "M_PRIVATE" 948 2,eI P "M_PROTECTED" 950 4,eI P "M_INTERNAL" 952 8,eI P "M_STATIC" 954 16,eI P "M_ABSTRACT" 956 32,eI P "M_VIRTUAL" 958 64,eI P "M_OVERRIDE" 960 128,eI P "M_SEALED" 962 256,eI P "M_NEW" 964 2048,eI P "M_ASYNC" 966 4096,eI P "M_REF" 968 8192,eI P "M_OUT" 970 16384,eI P "M_PARAMS" 972 32768,eR P "Node" 1010 406,eR P "Diags" 1063 448,eR P "BIN_NAMES" 1114 453,eR P "UN_NAMES" 1133 454,eR P "Unit" 1171 471,eR P "BareHost" 1258 534,eR P "set_context" 1271 545,eR P "Yard" 1351 590,eR P "yard_kept" 1360 601,eR P "enter_member" 1372 608,eR P "tparam_names" 1378 613,eI P "ACCESS_MODS" 1384 15,eR P "ACCESS_OF" 1393 614,eR P "NO_BASES" 1394 615,eR P "Decls" 1436 632,eR P "decl_mods" 1445 643,eR P "decl_access" 1453 650,eR P "usual_access" 1460 657,eR P "decl_sig" 1466 662,eR P "decl_params" 1479 669,eR P "decl_add" 1493 676,eR P "decl_twice" 1503 683,eR P "decl_read" 1512 690,eR P "decl_wheres" 1518 695,eR P "decl_value_bounds" 1524 700,eR P "decl_own_bound" 1530 705,eR P "decl_bounds" 1544 712,eR P "decl_bound_number" 1555 719,eI P "SLOT_MODS" 1560 224,eI P "METHOD_MODS" 1565 2559,eI P "BODY_NONE" 1567 0,eI P "BODY_HERE" 1569 1,eR P "decl_flags" 1582 726,eR P "decl_slot_number" 1591 733,eR P "decl_slot_flags" 1599 740,eR P "decl_explicit" 1609 747,eR P "decl_note" 1621 754,eR P "decl_method" 1627 759,eR P "decl_oper" 1642 766,eR P "decl_plain" 1650 773,eR P "decl_oper_number" 1656 778,eR P "decl_conv_number" 1667 785,eR P "_law_take" 1679 792,eR P "_law_node" 1689 799,eR P "_law_rows" 1699 806,eR P "_law_operator" 1710 813,eR P "_law_named" 1724 820,eR P "_law_due" 1736 827,eR P "_law_plain" 1749 834,eR P "_law_turn" 1763 841,eR P "_law_method" 1777 848,eR P "law" 1783 853]
noncomputable def ko (P:Params) (v:Value) (k ep:Nat):Obj:=⟨.type "dict",none,.dict (eS P "__name__" 165 (v)::(nsE P).take k).toArray ep,#[]⟩
noncomputable def tbE:List Value:=[.int 1 0,.int 0 0,.ref 20,.int 11 0,.int 0 0,.ref 27,.int 16 0,.int 0 0,.ref 47,.int 18 0,.int 0 0,.ref 59,.int 54 0,.int 0 0,.ref 73,.int 103 0,.int 0 0,.ref 108,.int 112 0,.int 0 0,.ref 115,.int 116 0,.int 0 0,.ref 122,.int 122 0,.int 0 0,.ref 129,.int 144 0,.int 0 0,.ref 136,.int 148 0,.int 0 0,.ref 143,.int 152 0,.int 0 0,.ref 150,.int 157 0,.int 0 0,.ref 157,.int 161 0,.int 0 0,.ref 164,.int 165 0,.int 0 0,.ref 171,.int 169 0,.int 0 0,.ref 178,.int 171 0,.int 0 0,.ref 185,.int 173 0,.int 0 0,.ref 192,.int 175 0,.int 0 0,.ref 199,.int 177 0,.int 0 0,.ref 206,.int 186 0,.int 0 0,.ref 213,.int 191 0,.int 0 0,.ref 220,.int 195 0,.int 0 0,.ref 227,.int 200 0,.int 0 0,.ref 234,.int 230 0,.int 0 0,.ref 241,.int 256 0,.int 0 0,.ref 262,.int 273 0,.int 0 0,.ref 283,.int 283 0,.int 0 0,.ref 304,.int 288 0,.int 0 0,.ref 311,.int 292 0,.int 0 0,.ref 318,.int 299 0,.int 0 0,.ref 325,.int 307 0,.int 0 0,.ref 332,.int 318 0,.int 0 0,.ref 339,.int 322 0,.int 0 0,.ref 346,.int 330 0,.int 0 0,.ref 353,.int 335 0,.int 0 0,.ref 360,.int 340 0,.int 0 0,.ref 367,.int 343 0,.int 0 0,.ref 374,.int 345 0,.int 0 0,.ref 381,.int 353 0,.int 0 0,.ref 388,.int 377 0,.int 0 0,.ref 395,.int 386 0,.int 0 0,.ref 416,.int 403 0,.int 0 0,.ref 460,.int 416 0,.int 0 0,.ref 481,.int 446 0,.int 0 0,.ref 544,.int 462 0,.int 0 0,.ref 551,.int 490 0,.int 0 0,.ref 600,.int 495 0,.int 0 0,.ref 607,.int 505 0,.int 0 0,.ref 612,.int 511 0,.int 0 0,.ref 621,.int 527 0,.int 0 0,.ref 642,.int 530 0,.int 0 0,.ref 649,.int 532 0,.int 0 0,.ref 656,.int 534 0,.int 0 0,.ref 661,.int 540 0,.int 0 0,.ref 668,.int 555 0,.int 0 0,.ref 675,.int 559 0,.int 0 0,.ref 682,.int 563 0,.int 0 0,.ref 689,.int 567 0,.int 0 0,.ref 694,.int 584 0,.int 0 0,.ref 699,.int 591 0,.int 0 0,.ref 704,.int 605 0,.int 0 0,.ref 711,.int 620 0,.int 0 0,.ref 718,.int 642 0,.int 0 0,.ref 725,.int 662 0,.int 0 0,.ref 732,.int 683 0,.int 0 0,.ref 739,.int 696 0,.int 0 0,.ref 746,.int 705 0,.int 0 0,.ref 753,.int 710 0,.int 0 0,.ref 758,.int 747 0,.int 0 0,.ref 765,.int 767 0,.int 0 0,.ref 772,.int 769 0,.int 0 0,.ref 777,.int 787 0,.int 0 0,.ref 784,.int 799 0,.int 0 0,.ref 791,.int 806 0,.int 0 0,.ref 798,.int 809 0,.int 0 0,.ref 805,.int 814 0,.int 0 0,.ref 812,.int 818 0,.int 0 0,.ref 819,.int 827 0,.int 0 0,.ref 826,.int 834 0,.int 0 0,.ref 833,.int 843 0,.int 0 0,.ref 840,.int 853 0,.int 0 0,.ref 847,.int 865 0,.int 0 0,.ref 852]
noncomputable def mD (k:Nat):Obj:=⟨.none,none,.fields (tbE.take k).toArray,#[]⟩
noncomputable def T0 (P:Params):BT:=iF .nil 0 [boot_o_0 P,boot_o_1 P,boot_o_2 P,boot_o_3 P,boot_o_4 P,boot_o_5 P,boot_o_6 P,boot_o_7 P,boot_o_8 P,boot_o_9 P,boot_o_10 P,oT [] 0,oM [],cC "<module>" 182 1 11,fR 13 3 FP]
noncomputable def T1 (P:Params):BT:=iF (iM (T0 P) [(2,⟨.none,none,.dict ([eS P "type.__subclasses__.Exception.0" 235 (.int 38 0),eS P "type.__subclasses__.Exception.n" 236 (.int 1 0)]).toArray 2,#[]⟩),(3,ko P ww 16 17),(12,mD 6)]) 15 (pr [cS FP 15 187 (st 0) "_wall" ["k"] 1 1,[oT [.type "Exception"] 0,pR,oD [eS P "__module__" 215 ww,eS P "__qualname__" 217 (vS "RuneError" 216),eI P "__firstlineno__" 219 11,eR P "__init__" 228 35,eR P "__static_attributes__" 231 36] 5,oT [] 0,oM [.int 13 0,.int 4 0,.ref 34],cC "RuneError" 210 11 25,fR 27 24 ww],jp ww 29 220 (mt 8 0) "__init__" "RuneError.__init__" ["self","code","at"] 3 13,[oT [vS "at" 229,vS "code" 230] 0,oD [eS P "__module__" 215 ww,eI P "__firstlineno__" 219 11,eR P "__init__" 228 35,eR P "__static_attributes__" 231 36,eR P "__weakref__" 233 39,eS P "__doc__" 234 .none] 3,kC "RuneError" [.type "Exception"] [.ref 38,.type "Exception",.type "BaseException",.type "object"] 37 [] #[some (.ref 22),none,some (vS "RuneError" 208),some (vS "RuneError" 216),some (.builtin "Exception.__new__"),some (.bool true)],oF "getset_descriptor" [vS "__weakref__" 232,.ref 38,.builtin "ExceptionGroup.__weakref__",.none],uR 38,iR 38]])
noncomputable def T2 (P:Params):BT:=iF (iM (T1 P) [(3,ko P ww 17 18),(12,mD 9),(38,kC "RuneError" [.type "Exception"] [.ref 38,.type "Exception",.type "BaseException",.type "object"] 37 [.ref 51] #[some (.ref 22),none,some (vS "RuneError" 208),some (vS "RuneError" 216),some (.builtin "Exception.__new__"),some (.bool true)])]) 42 [oT [.ref 38] 0,pR,oD [eS P "__module__" 246 ww,eS P "__qualname__" 248 (vS "BadKind" 247),eI P "__firstlineno__" 250 16,eR P "__static_attributes__" 251 49] 4,oT [] 0,oM [],cC "BadKind" 241 16 45,fR 47 44 ww,oT [] 0,oD [eS P "__module__" 246 ww,eI P "__firstlineno__" 250 16,eR P "__static_attributes__" 251 49,eS P "__doc__" 252 .none] 2,kC "BadKind" [.ref 38] [.ref 51,.ref 38,.type "Exception",.type "BaseException",.type "object"] 50 [] #[some (.ref 42),none,some (vS "BadKind" 239),some (vS "BadKind" 247),some (.builtin "Exception.__new__"),some (.bool true)],uR 51,iR 51]
noncomputable def T3 (P:Params):BT:=iF (iM (T2 P) [(3,ko P ip 40 41),(12,mD 12),(38,kC "RuneError" [.type "Exception"] [.ref 38,.type "Exception",.type "BaseException",.type "object"] 37 [.ref 51,.ref 63] #[some (.ref 22),none,some (vS "RuneError" 208),some (vS "RuneError" 216),some (.builtin "Exception.__new__"),some (.bool true)])]) 54 [oT [.ref 38] 0,pR,oD [eS P "__module__" 262 ww,eS P "__qualname__" 264 (vS "LeftOut" 263),eI P "__firstlineno__" 266 18,eR P "__static_attributes__" 267 61] 4,oT [] 0,oM [],cC "LeftOut" 257 18 57,fR 59 56 ww,oT [] 0,oD [eS P "__module__" 262 ww,eI P "__firstlineno__" 266 18,eR P "__static_attributes__" 267 61,eS P "__doc__" 268 .none] 2,kC "LeftOut" [.ref 38] [.ref 63,.ref 38,.type "Exception",.type "BaseException",.type "object"] 62 [] #[some (.ref 54),none,some (vS "LeftOut" 255),some (vS "LeftOut" 263),some (.builtin "Exception.__new__"),some (.bool true)],uR 63,iR 63]
noncomputable def T4 (P:Params):BT:=iM (T3 P) [(3,ko P ip 48 49)]
noncomputable def T5 (P:Params):BT:=iF (iM (T4 P) [(3,ko P ip 50 51)]) 66 [oD [⟨0,.int 0 273,.int 20 333⟩,⟨1,.int 1 275,.int 9 334⟩,⟨2,.int 2 277,.int 10 335⟩,⟨3,.int 3 279,.int 11 336⟩,⟨4,.int 4 281,.int 12 337⟩,⟨5,.int 5 283,.int 13 338⟩,⟨6,.int 6 285,.int 14 339⟩,⟨7,.int 7 287,.int 15 340⟩,⟨8,.int 8 289,.int 16 341⟩,⟨9,.int 9 291,.int 17 342⟩,⟨10,.int 10 293,.int 18 343⟩,⟨11,.int 11 295,.int 19 344⟩,⟨12,.int 12 297,.int 1 345⟩,⟨13,.int 13 299,.int 4 346⟩] 14,oD [⟨20,.int 20 362,.int 0 273⟩,⟨9,.int 9 363,.int 1 275⟩,⟨10,.int 10 364,.int 2 277⟩,⟨11,.int 11 365,.int 3 279⟩,⟨12,.int 12 366,.int 4 281⟩,⟨13,.int 13 367,.int 5 283⟩,⟨14,.int 14 368,.int 6 285⟩,⟨15,.int 15 369,.int 7 287⟩,⟨16,.int 16 370,.int 8 289⟩,⟨17,.int 17 371,.int 9 291⟩,⟨18,.int 18 372,.int 10 293⟩,⟨19,.int 19 373,.int 11 295⟩,⟨1,.int 1 374,.int 12 297⟩,⟨4,.int 4 375,.int 13 299⟩] 14]
noncomputable def T6 (P:Params):BT:=iF (iM (T5 P) [(3,ko P ip 55 56),(12,mD 24)]) 68 (pr [[oT [] 0,pR,oD [eS P "__module__" 400 ip,eS P "__qualname__" 402 (vS "KindTable" 401),eI P "__firstlineno__" 404 54,eR P "__init__" 413 81,eR P "row" 421 88,eR P "put" 436 95,eR P "__static_attributes__" 442 96] 7,oT [] 0,oM [.int 56 0,.int 4 0,.ref 80,.int 70 0,.int 4 0,.ref 87,.int 75 0,.int 4 0,.ref 94],cC "KindTable" 395 54 71,fR 73 70 ip],jp ip 75 405 (mt 45 0) "__init__" "KindTable.__init__" ["self","number","row"] 1 56,jp ip 82 414 (mt 45 1) "row" "KindTable.row" ["self","k"] 2 70,jp ip 89 422 (mt 45 2) "put" "KindTable.put" ["self","row","found","depth","weight","opened","level","inner","k"] 2 75,[oT (vL ["depths","index","opens","rows","weights"] 437) 0,oD [eS P "__module__" 400 ip,eI P "__firstlineno__" 404 54,eR P "__init__" 413 81,eR P "row" 421 88,eR P "put" 436 95,eR P "__static_attributes__" 442 96,eR P "__dict__" 444 99,eR P "__weakref__" 446 100,eS P "__doc__" 447 .none] 4,kC "KindTable" [.type "object"] [.ref 98,.type "object"] 97 [] #[none,none,some (vS "KindTable" 393),some (vS "KindTable" 401),some (.builtin "object.__new__"),some (.bool true)],oF "getset_descriptor" [vS "__dict__" 443,.ref 98,.builtin "function.__dict__",.builtin "function.__dict__#set"],oF "getset_descriptor" [vS "__weakref__" 445,.ref 98,.builtin "ExceptionGroup.__weakref__",.none],uR 98,iR 98],cS ip 103 450 (st 46) "inner_kinds" ["row","sort"] 1 103,cS ip 110 458 (st 47) "row_level" ["sort"] 1 112,cS ip 117 465 (st 48) "row_length" ["sort"] 1 116])
noncomputable def T7 (P:Params):BT:=iF (iM (T6 P) [(3,ko P ip 68 69),(12,mD 63)]) 124 (pr [cS ip 124 472 (st 49) "check_kind_row" ["kt","row","sort","inner"] 2 122,cS ip 131 482 (st 50) "check_named" ["kt","row"] 2 144,cS ip 138 490 (st 51) "check_args" ["kt","args","arg"] 2 148,cS ip 145 499 (st 52) "may_stand" ["kt","k","sort"] 2 152,cS ip 152 508 (st 53) "class_kind" ["kt","tid","args"] 3 157,cS ip 159 517 (st 54) "value_kind" ["kt","tid","args"] 3 161,cS ip 166 526 (st 55) "prim_kind" ["tid","args"] 2 165,cS ip 173 534 (st 56) "byref_kind" ["kt","inner"] 2 169,cS ip 180 542 (st 57) "var_kind" ["kt","i"] 2 171,cS ip 187 550 (st 58) "mvar_kind" ["kt","i"] 2 173,cS ip 194 558 (st 59) "kind_sort" ["kt","k"] 2 175,cS ip 201 566 (st 60) "tid_of" ["kt","k","row"] 2 177,cS ip 208 575 (st 61) "args_of" ["kt","k","row"] 2 186])
noncomputable def T8 (P:Params):BT:=iF (iM (T7 P) [(3,ko P dC 97 98),(12,mD 72)]) 215 (pr [cS ip 215 584 (st 62) "is_value" ["kt","k"] 2 191,cS ip 222 592 (st 63) "is_ref" ["kt","k","sort"] 2 195,cS ip 229 601 (st 64) "is_var" ["kt","k","sort"] 2 200])
noncomputable def T9 (P:Params):BT:=iF (iM (T8 P) [(3,ko P dC 98 99),(12,mD 75)]) 236 (pr [[oT [] 0,pR,oD [eS P "__module__" 671 dC,eS P "__qualname__" 673 (vS "TypeDef" 672),eI P "__firstlineno__" 675 230,eR P "__init__" 690 249,eR P "__static_attributes__" 710 250] 5,oT [] 0,oM [.int 232 0,.int 4 0,.ref 248],cC "TypeDef" 666 230 239,fR 241 238 dC],jp dC 243 676 (mt 92 0) "__init__" "TypeDef.__init__" ["self","tid","name","sort","flags","base","params","asm","word"] 8 232,[oT (vL ["asm","base","bounds","cctor","events","fields","finaliser","flags","home","ifaces","impls","methods","name","params","props","sort","tid","under","variances"] 691) 0,oD [eS P "__module__" 671 dC,eI P "__firstlineno__" 675 230,eR P "__init__" 690 249,eR P "__static_attributes__" 710 250,eR P "__dict__" 712 253,eR P "__weakref__" 714 254,eS P "__doc__" 715 .none] 4,kC "TypeDef" [.type "object"] [.ref 252,.type "object"] 251 [] #[none,none,some (vS "TypeDef" 664),some (vS "TypeDef" 672),some (.builtin "object.__new__"),some (.bool true)],oF "getset_descriptor" [vS "__dict__" 711,.ref 252,.builtin "function.__dict__",.builtin "function.__dict__#set"],oF "getset_descriptor" [vS "__weakref__" 713,.ref 252,.builtin "ExceptionGroup.__weakref__",.none],uR 252,iR 252]])
noncomputable def FI (P:Params):BT:=iF (iM (T9 P) [(3,ko P dC 99 100),(12,mD 78)]) 257 (pr [[oT [] 0,pR,oD [eS P "__module__" 725 dC,eS P "__qualname__" 727 (vS "MethodDef" 726),eI P "__firstlineno__" 729 256,eR P "__init__" 743 270,eR P "__static_attributes__" 758 271] 5,oT [] 0,oM [.int 258 0,.int 4 0,.ref 269],cC "MethodDef" 720 256 260,fR 262 259 dC],jp dC 264 730 (mt 93 0) "__init__" "MethodDef.__init__" ["self","mid","owner","name","access","flags","ret","params"] 8 258,[oT (vL ["access","body","flags","gbounds","gnames","mid","name","native","ngen","owner","params","pflags","pnames","ret"] 744) 0,oD [eS P "__module__" 725 dC,eI P "__firstlineno__" 729 256,eR P "__init__" 743 270,eR P "__static_attributes__" 758 271,eR P "__dict__" 760 274,eR P "__weakref__" 762 275,eS P "__doc__" 763 .none] 4,kC "MethodDef" [.type "object"] [.ref 273,.type "object"] 272 [] #[none,none,some (vS "MethodDef" 718),some (vS "MethodDef" 726),some (.builtin "object.__new__"),some (.bool true)],oF "getset_descriptor" [vS "__dict__" 759,.ref 273,.builtin "function.__dict__",.builtin "function.__dict__#set"],oF "getset_descriptor" [vS "__weakref__" 761,.ref 273,.builtin "ExceptionGroup.__weakref__",.none],uR 273,iR 273]])
noncomputable def FH (P:Params):BT:=iF (iM (FI P) [(3,ko P dC 105 106),(12,mD 96)]) 278 (pr [[oT [] 0,pR,oD [eS P "__module__" 773 dC,eS P "__qualname__" 775 (vS "Store" 774),eI P "__firstlineno__" 777 273,eR P "__init__" 784 291,eR P "__static_attributes__" 792 292] 5,oT [] 0,oM [.int 275 0,.int 4 0,.ref 290],cC "Store" 768 273 281,fR 283 280 dC],jp dC 285 778 (mt 94 0) "__init__" "Store.__init__" ["self"] 1 275,[oT (vL ["asms","entry","fields_","kt","methods","names","types"] 785) 0,oD [eS P "__module__" 773 dC,eI P "__firstlineno__" 777 273,eR P "__init__" 784 291,eR P "__static_attributes__" 792 292,eR P "__dict__" 794 295,eR P "__weakref__" 796 296,eS P "__doc__" 797 .none] 4,kC "Store" [.type "object"] [.ref 294,.type "object"] 293 [] #[none,none,some (vS "Store" 766),some (vS "Store" 774),some (.builtin "object.__new__"),some (.bool true)],oF "getset_descriptor" [vS "__dict__" 793,.ref 294,.builtin "function.__dict__",.builtin "function.__dict__#set"],oF "getset_descriptor" [vS "__weakref__" 795,.ref 294,.builtin "ExceptionGroup.__weakref__",.none],uR 294,iR 294],cS dC 299 800 (st 95) "plain_names" ["count","out","place"] 1 283,cS dC 306 809 (st 96) "kept_flags" ["flags"] 1 288,cS dC 313 816 (st 97) "add_method" ["store","tid","name","access","flags","ret","params","t","mid"] 7 292,cS dC 320 831 (st 98) "note_method" ["store","mid","m","t"] 2 299,cS dC 327 841 (st 99) "set_generic" ["store","mid","gnames","gbounds","m","place"] 4 307])
noncomputable def FG (P:Params):BT:=iF (iM (FH P) [(3,ko P vE 129 130),(12,mD 120)]) 334 (pr [cS dC 334 853 (st 100) "set_params" ["store","mid","pnames","pflags","m"] 4 318,cS dC 341 864 (st 101) "self_kind" ["store","tid","t","args","place"] 2 322,cS dC 348 875 (st 102) "kind_with" ["store","tid","args","sort"] 3 330,cS dC 355 885 (st 103) "type_of" ["store","k","tid"] 2 335,cS dC 362 894 (st 104) "is_virtual" ["m"] 1 340,cS Fc 369 903 (st 106) "is_iface" ["host","k"] 2 343,cS Fc 376 911 (st 107) "base_chain" ["host","k","out","seen"] 2 345,cS Fc 383 921 (st 108) "is_nullable" ["kt","k"] 2 353])
noncomputable def Ey (P:Params):BT:=iF (iM (FG P) [(3,ko P vE 135 136),(12,mD 123)]) 390 (pr [[oT [] 0,pR,oD [eS P "__module__" 980 vE,eS P "__qualname__" 982 (vS "Node" 981),eI P "__firstlineno__" 984 377,eR P "__init__" 996 403,eR P "__static_attributes__" 1003 404] 5,oT [] 0,oM [.int 379 0,.int 4 0,.ref 402],cC "Node" 975 377 393,fR 395 392 vE],jp vE 397 985 (mt 131 0) "__init__" "Node.__init__" ["self","kind","a","kids","mods","at"] 6 379,[oT (vL ["a","at","kids","kind","mods","nid"] 997) 0,oD [eS P "__module__" 980 vE,eI P "__firstlineno__" 984 377,eR P "__init__" 996 403,eR P "__static_attributes__" 1003 404,eR P "__dict__" 1005 407,eR P "__weakref__" 1007 408,eS P "__doc__" 1008 .none] 4,kC "Node" [.type "object"] [.ref 406,.type "object"] 405 [] #[none,none,some (vS "Node" 973),some (vS "Node" 981),some (.builtin "object.__new__"),some (.bool true)],oF "getset_descriptor" [vS "__dict__" 1004,.ref 406,.builtin "function.__dict__",.builtin "function.__dict__#set"],oF "getset_descriptor" [vS "__weakref__" 1006,.ref 406,.builtin "ExceptionGroup.__weakref__",.none],uR 406,iR 406]])
noncomputable def Dm (P:Params):BT:=iF (iM (Ey P) [(3,ko P C7 136 137),(12,mD 126)]) 411 (pr [[oT [] 0,pR,oD [eS P "__module__" 1018 vE,eS P "__qualname__" 1020 (vS "Diags" 1019),eI P "__firstlineno__" 1022 386,eR P "__init__" 1029 424,eR P "put" 1039 431,eR P "cut" 1047 438,eR P "numbers" 1054 445,eR P "__static_attributes__" 1056 446] 8,oT [] 0,oM [.int 388 0,.int 4 0,.ref 423,.int 391 0,.int 4 0,.ref 430,.int 394 0,.int 4 0,.ref 437,.int 398 0,.int 4 0,.ref 444],cC "Diags" 1013 386 414,fR 416 413 vE],jp vE 418 1023 (mt 132 0) "__init__" "Diags.__init__" ["self"] 1 388,jp vE 425 1030 (mt 132 1) "put" "Diags.put" ["self","number","at","words"] 4 391,jp vE 432 1040 (mt 132 2) "cut" "Diags.cut" ["self","count"] 2 394,jp vE 439 1048 (mt 132 3) "numbers" "Diags.numbers" ["self"] 1 398,[oT [vS "rows" 1055] 0,oD [eS P "__module__" 1018 vE,eI P "__firstlineno__" 1022 386,eR P "__init__" 1029 424,eR P "put" 1039 431,eR P "cut" 1047 438,eR P "numbers" 1054 445,eR P "__static_attributes__" 1056 446,eR P "__dict__" 1058 449,eR P "__weakref__" 1060 450,eS P "__doc__" 1061 .none] 4,kC "Diags" [.type "object"] [.ref 448,.type "object"] 447 [] #[none,none,some (vS "Diags" 1011),some (vS "Diags" 1019),some (.builtin "object.__new__"),some (.bool true)],oF "getset_descriptor" [vS "__dict__" 1057,.ref 448,.builtin "function.__dict__",.builtin "function.__dict__#set"],oF "getset_descriptor" [vS "__weakref__" 1059,.ref 448,.builtin "ExceptionGroup.__weakref__",.none],uR 448,iR 448]])
noncomputable def Dl (P:Params):BT:=iF (iM (Dm P) [(3,ko P C7 138 139)]) 453 [oD [eS P "+" 1066 (vS "op_Addition" 1067),eS P "-" 1069 (vS "op_Subtraction" 1070),eS P "*" 1072 (vS "op_Multiply" 1073),eS P "/" 1075 (vS "op_Division" 1076),eS P "%" 1078 (vS "op_Modulus" 1079),eS P "&" 1081 (vS "op_BitwiseAnd" 1082),eS P "|" 1084 (vS "op_BitwiseOr" 1085),eS P "^" 1087 (vS "op_ExclusiveOr" 1088),eS P "<<" 1090 (vS "op_LeftShift" 1091),eS P ">>" 1093 (vS "op_RightShift" 1094),eS P "==" 1096 (vS "op_Equality" 1097),eS P "!=" 1099 (vS "op_Inequality" 1100),eS P "<" 1102 (vS "op_LessThan" 1103),eS P ">" 1105 (vS "op_GreaterThan" 1106),eS P "<=" 1108 (vS "op_LessThanOrEqual" 1109),eS P ">=" 1111 (vS "op_GreaterThanOrEqual" 1112)] 16,oD [eS P "+" 1115 (vS "op_UnaryPlus" 1116),eS P "-" 1117 (vS "op_UnaryNegation" 1118),eS P "!" 1119 (vS "op_LogicalNot" 1120),eS P "~" 1121 (vS "op_OnesComplement" 1122),eS P "++" 1123 (vS "op_Increment" 1124),eS P "--" 1125 (vS "op_Decrement" 1126)] 6]
noncomputable def FF (P:Params):BT:=iF (iM (Dl P) [(3,ko P vD 139 140),(12,mD 129)]) 455 (pr [[oT [] 0,pR,oD [eS P "__module__" 1141 C7,eS P "__qualname__" 1143 (vS "Unit" 1142),eI P "__firstlineno__" 1145 403,eR P "__init__" 1154 468,eR P "__static_attributes__" 1164 469] 5,oT [] 0,oM [.int 405 0,.int 4 0,.ref 467],cC "Unit" 1136 403 458,fR 460 457 C7],jp C7 462 1146 (mt 136 0) "__init__" "Unit.__init__" ["self","store","asm"] 3 405,[oT (vL ["asm","consts","diags","fns","inits","of_mid","sinits","store","vars"] 1155) 0,oD [eS P "__module__" 1141 C7,eI P "__firstlineno__" 1145 403,eR P "__init__" 1154 468,eR P "__static_attributes__" 1164 469,eR P "__dict__" 1166 472,eR P "__weakref__" 1168 473,eS P "__doc__" 1169 .none] 4,kC "Unit" [.type "object"] [.ref 471,.type "object"] 470 [] #[none,none,some (vS "Unit" 1134),some (vS "Unit" 1142),some (.builtin "object.__new__"),some (.bool true)],oF "getset_descriptor" [vS "__dict__" 1165,.ref 471,.builtin "function.__dict__",.builtin "function.__dict__#set"],oF "getset_descriptor" [vS "__weakref__" 1167,.ref 471,.builtin "ExceptionGroup.__weakref__",.none],uR 471,iR 471]])
noncomputable def FE (P:Params):BT:=iF (iM (FF P) [(3,ko P vD 140 141),(12,mD 132)]) 476 (pr [[oT [] 0,pR,oD [eS P "__module__" 1181 vD,eS P "__qualname__" 1183 (vS "BareHost" 1182),eI P "__firstlineno__" 1185 416,eR P "__init__" 1193 489,eR P "base" 1201 496,eR P "ifaces_at" 1209 503,eR P "sort" 1217 510,eR P "variance" 1225 517,eR P "under" 1233 524,eR P "has_new" 1241 531,eR P "__static_attributes__" 1251 532] 11,oT [] 0,oM [.int 418 0,.int 4 0,.ref 488,.int 429 0,.int 4 0,.ref 495,.int 432 0,.int 4 0,.ref 502,.int 435 0,.int 4 0,.ref 509,.int 438 0,.int 4 0,.ref 516,.int 441 0,.int 4 0,.ref 523,.int 444 0,.int 4 0,.ref 530],cC "BareHost" 1176 416 479,fR 481 478 vD],jp vD 483 1186 (mt 138 0) "__init__" "BareHost.__init__" ["self","kt"] 2 418,jp vD 490 1194 (mt 138 1) "base" "BareHost.base" ["self","k"] 2 429,jp vD 497 1202 (mt 138 2) "ifaces_at" "BareHost.ifaces_at" ["self","k"] 2 432,jp vD 504 1210 (mt 138 3) "sort" "BareHost.sort" ["self","k"] 2 435,jp vD 511 1218 (mt 138 4) "variance" "BareHost.variance" ["self","tid"] 2 438,jp vD 518 1226 (mt 138 5) "under" "BareHost.under" ["self","k"] 2 441,jp vD 525 1234 (mt 138 6) "has_new" "BareHost.has_new" ["self","k"] 2 444,[oT (vL ["bases","bounds","gflags","ifaces","kt","news","sorts","unders","variances"] 1242) 0,oD [eS P "__module__" 1181 vD,eI P "__firstlineno__" 1185 416,eR P "__init__" 1193 489,eR P "base" 1201 496,eR P "ifaces_at" 1209 503,eR P "sort" 1217 510,eR P "variance" 1225 517,eR P "under" 1233 524,eR P "has_new" 1241 531,eR P "__static_attributes__" 1251 532,eR P "__dict__" 1253 535,eR P "__weakref__" 1255 536,eS P "__doc__" 1256 .none] 4,kC "BareHost" [.type "object"] [.ref 534,.type "object"] 533 [] #[none,none,some (vS "BareHost" 1174),some (vS "BareHost" 1182),some (.builtin "object.__new__"),some (.bool true)],oF "getset_descriptor" [vS "__dict__" 1252,.ref 534,.builtin "function.__dict__",.builtin "function.__dict__#set"],oF "getset_descriptor" [vS "__weakref__" 1254,.ref 534,.builtin "ExceptionGroup.__weakref__",.none],uR 534,iR 534]])
noncomputable def FD (P:Params):BT:=iF (iM (FE P) [(3,ko P wx 142 143),(12,mD 138)]) 539 (pr [cS vD 539 1259 (st 139) "set_context" ["host","store","tid","mid","place","flags","kinds"] 4 446,[oT [] 0,pR,oD [eS P "__module__" 1281 wx,eS P "__qualname__" 1283 (vS "Yard" 1282),eI P "__firstlineno__" 1285 462,eR P "__init__" 1295 559,eR P "kind" 1303 566,eR P "fault" 1313 573,eR P "show" 1321 580,eR P "kept" 1330 587,eR P "__static_attributes__" 1344 588] 9,oT [] 0,oM [.int 464 0,.int 4 0,.ref 558,.int 479 0,.int 4 0,.ref 565,.int 482 0,.int 4 0,.ref 572,.int 485 0,.int 4 0,.ref 579,.int 488 0,.int 4 0,.ref 586],cC "Yard" 1276 462 549,fR 551 548 wx],jp wx 553 1286 (mt 141 0) "__init__" "Yard.__init__" ["self","unit","host","asm"] 4 464,jp wx 560 1296 (mt 141 1) "kind" "Yard.kind" ["self","node"] 2 479,jp wx 567 1304 (mt 141 2) "fault" "Yard.fault" ["self","number","node","words"] 4 482,jp wx 574 1314 (mt 141 3) "show" "Yard.show" ["self","k"] 2 485,jp wx 581 1322 (mt 141 4) "kept" "Yard.kept" ["self","k","node"] 3 488,[oT (vL ["asm","early","host","kinds","kt","mid","owner","static","store","told","tparams","unit","unmet"] 1331) 0,oD [eS P "__module__" 1281 wx,eI P "__firstlineno__" 1285 462,eR P "__init__" 1295 559,eR P "kind" 1303 566,eR P "fault" 1313 573,eR P "show" 1321 580,eR P "kept" 1330 587,eR P "__static_attributes__" 1344 588,eR P "__dict__" 1346 591,eR P "__weakref__" 1348 592,eS P "__doc__" 1349 .none] 4,kC "Yard" [.type "object"] [.ref 590,.type "object"] 589 [] #[none,none,some (vS "Yard" 1274),some (vS "Yard" 1282),some (.builtin "object.__new__"),some (.bool true)],oF "getset_descriptor" [vS "__dict__" 1345,.ref 590,.builtin "function.__dict__",.builtin "function.__dict__#set"],oF "getset_descriptor" [vS "__weakref__" 1347,.ref 590,.builtin "ExceptionGroup.__weakref__",.none],uR 590,iR 590]])
noncomputable def Dk (P:Params):BT:=iF (iM (FD P) [(3,ko P mP 146 147),(12,mD 147)]) 595 (pr [cS wx 595 1352 (st 142) "yard_kept" ["yard","k","node"] 3 490,cS wx 602 1361 (st 143) "enter_member" ["cx","tid","mid","gnames","tdef","i"] 4 495,[oT [] 0,oM [],oV (fd (st 144) (sO "tparam_names") 0 (.none) (.none) 0),oF "code" [vS "tparam_names" 1373,vS "tparam_names" 1374,vS "/claim/cut.py" 1375,.int 505 0,.int 1 0,.int 0 0,.int 0 0,.int 3 0,.ref 609,.bool true,.int 181 0,.ref 610,.none,.none,.none,.ref 611,.int 1376 0,.int 505 0,vS "/claim/cut.py" 1377],oU (fd (st 144) (sO "tparam_names") 3 wx (.ref 612) 0)]])
noncomputable def Dj (P:Params):BT:=iF (iM (Dk P) [(3,ko P mP 147 148)]) 614 [oD [⟨1,.int 1 945,.int 6 204⟩,⟨2,.int 2 947,.int 1 194⟩,⟨4,.int 4 949,.int 4 200⟩,⟨8,.int 8 951,.int 3 198⟩,⟨12,.int 12 1385,.int 5 202⟩,⟨6,.int 6 1386,.int 2 196⟩] 6]
noncomputable def FB (P:Params):BT:=iF (iM (Dj P) [(3,ko P mP 154 155),(12,mD 165)]) 615 (pr [[oT [.int 2 654,.int 3 656,.int 6 660,.int 5 658] 0,oT [] 0,pR,oD [eS P "__module__" 1402 mP,eS P "__qualname__" 1404 (vS "Decls" 1403),eI P "__firstlineno__" 1406 511,eR P "__init__" 1415 629,eR P "__static_attributes__" 1429 630] 5,oT [] 0,oM [.int 513 0,.int 4 0,.ref 628],cC "Decls" 1397 511 619,fR 621 618 mP],jp mP 623 1407 (mt 149 0) "__init__" "Decls.__init__" ["self","unit","cx"] 3 513,[oT (vL ["consts","cx","explicits","keys","kt","late","opers","overrides","sinits","store","types","unit","work"] 1416) 0,oD [eS P "__module__" 1402 mP,eI P "__firstlineno__" 1406 511,eR P "__init__" 1415 629,eR P "__static_attributes__" 1429 630,eR P "__dict__" 1431 633,eR P "__weakref__" 1433 634,eS P "__doc__" 1434 .none] 4,kC "Decls" [.type "object"] [.ref 632,.type "object"] 631 [] #[none,none,some (vS "Decls" 1395),some (vS "Decls" 1403),some (.builtin "object.__new__"),some (.bool true)],oF "getset_descriptor" [vS "__dict__" 1430,.ref 632,.builtin "function.__dict__",.builtin "function.__dict__#set"],oF "getset_descriptor" [vS "__weakref__" 1432,.ref 632,.builtin "ExceptionGroup.__weakref__",.none],uR 632,iR 632],cS mP 637 1437 (st 150) "decl_mods" ["d","node","allowed"] 3 527,cS mP 644 1446 (st 151) "decl_access" ["mods","usual"] 2 530,cS mP 651 1454 (st 152) "usual_access" ["t"] 1 532,[oT [] 0,oM [],oV (fd (st 153) (sO "decl_sig") 0 (.none) (.none) 0),oF "code" [vS "decl_sig" 1461,vS "decl_sig" 1462,vS "/claim/cut.py" 1463,.int 534 0,.int 7 0,.int 0 0,.int 0 0,.int 3 0,.ref 658,.bool true,.int 181 0,.ref 659,.none,.none,.none,.ref 660,.int 1464 0,.int 534 0,vS "/claim/cut.py" 1465],oU (fd (st 153) (sO "decl_sig") 3 mP (.ref 661) 0)],cS mP 663 1467 (st 154) "decl_params" ["d","rows","kinds","names","flags","node","k"] 2 540])
noncomputable def FA (P:Params):BT:=iF (iM (FB P) [(3,ko P xr 168 169),(12,mD 195)]) 670 (pr [cS mP 670 1480 (st 155) "decl_add" ["d","t","name","access","flags","ret","params","mid"] 7 555,cS mP 677 1494 (st 156) "decl_twice" ["d","names","node","i"] 3 559,cS mP 684 1504 (st 157) "decl_read" ["d","node","k"] 2 563,[oT [] 0,oM [],oV (fd (st 158) (sO "decl_wheres") 0 (.none) (.none) 0),oF "code" [vS "decl_wheres" 1513,vS "decl_wheres" 1514,vS "/claim/cut.py" 1515,.int 567 0,.int 3 0,.int 0 0,.int 0 0,.int 3 0,.ref 691,.bool true,.int 181 0,.ref 692,.none,.none,.none,.ref 693,.int 1516 0,.int 567 0,vS "/claim/cut.py" 1517],oU (fd (st 158) (sO "decl_wheres") 3 mP (.ref 694) 0),oT [] 0,oM [],oV (fd (st 159) (sO "decl_value_bounds") 0 (.none) (.none) 0),oF "code" [vS "decl_value_bounds" 1519,vS "decl_value_bounds" 1520,vS "/claim/cut.py" 1521,.int 584 0,.int 4 0,.int 0 0,.int 0 0,.int 3 0,.ref 696,.bool true,.int 181 0,.ref 697,.none,.none,.none,.ref 698,.int 1522 0,.int 584 0,vS "/claim/cut.py" 1523],oU (fd (st 159) (sO "decl_value_bounds") 3 mP (.ref 699) 0),oT [] 0,oM [],oV (fd (st 160) (sO "decl_own_bound") 0 (.none) (.none) 0),oF "code" [vS "decl_own_bound" 1525,vS "decl_own_bound" 1526,vS "/claim/cut.py" 1527,.int 591 0,.int 4 0,.int 0 0,.int 0 0,.int 3 0,.ref 701,.bool true,.int 181 0,.ref 702,.none,.none,.none,.ref 703,.int 1528 0,.int 591 0,vS "/claim/cut.py" 1529],oU (fd (st 160) (sO "decl_own_bound") 3 mP (.ref 704) 0)],cS mP 706 1531 (st 161) "decl_bounds" ["d","where","flags","kinds","words","node","k","number"] 2 605,cS mP 713 1545 (st 162) "decl_bound_number" ["d","k","before","flags","t"] 4 620,cS xr 720 1570 (st 168) "decl_flags" ["d","t","node","body","explicit","mods","number"] 5 642,cS xr 727 1583 (st 169) "decl_slot_number" ["t","mods","slots"] 2 662])
noncomputable def Fz (P:Params):BT:=iF (iM (FA P) [(3,ko P j6 180 181),(12,mD 231)]) 734 (pr [cS xr 734 1592 (st 170) "decl_slot_flags" ["mods","flags"] 1 683,cS xr 741 1600 (st 171) "decl_explicit" ["d","t","node","k"] 3 696,cS xr 748 1610 (st 172) "decl_note" ["d","t","mid","node","face","bare_name"] 6 705,[oT [] 0,oM [],oV (fd (st 173) (sO "decl_method") 0 (.none) (.none) 0),oF "code" [vS "decl_method" 1622,vS "decl_method" 1623,vS "/claim/cut.py" 1624,.int 710 0,.int 3 0,.int 0 0,.int 0 0,.int 3 0,.ref 755,.bool true,.int 181 0,.ref 756,.none,.none,.none,.ref 757,.int 1625 0,.int 710 0,vS "/claim/cut.py" 1626],oU (fd (st 173) (sO "decl_method") 3 xr (.ref 758) 0)],cS xr 760 1628 (st 174) "decl_oper" ["d","t","node","ret","params","names","name","number","mid"] 3 747,cS xr 767 1643 (st 175) "decl_plain" ["d","k"] 2 767,[oT [] 0,oM [],oV (fd (st 176) (sO "decl_oper_number") 0 (.none) (.none) 0),oF "code" [vS "decl_oper_number" 1651,vS "decl_oper_number" 1652,vS "/claim/cut.py" 1653,.int 769 0,.int 6 0,.int 0 0,.int 0 0,.int 3 0,.ref 774,.bool true,.int 181 0,.ref 775,.none,.none,.none,.ref 776,.int 1654 0,.int 769 0,vS "/claim/cut.py" 1655],oU (fd (st 176) (sO "decl_oper_number") 3 xr (.ref 777) 0)],cS xr 779 1657 (st 177) "decl_conv_number" ["d","own","source","goal","other"] 4 787,cS j6 786 1670 (st 179) "_law_take" ["w","n","at","fill"] 2 799,cS j6 793 1680 (st 180) "_law_node" ["w","kind","a","kids"] 4 806,cS j6 800 1690 (st 181) "_law_rows" ["w","words","rows","word"] 2 809,cS j6 807 1700 (st 182) "_law_operator" ["w","ret","sign","words","node"] 4 814])
@[irreducible]noncomputable def gP (P:Params):BT:=iF (iM (Fz P) [(3,ko P j6 186 187),(12,mD 249)]) 814 (pr [cS j6 814 1711 (st 183) "_law_named" ["w","name","word","way","own","face","kids","node"] 4 818,cS j6 821 1725 (st 184) "_law_due" ["w","tid","node","name","word","key"] 6 827,cS j6 828 1737 (st 185) "_law_plain" ["w","d","t","own","sign","both","node"] 4 834,cS j6 835 1750 (st 186) "_law_turn" ["w","d","t","own","other","pair","sort","node"] 4 843,cS j6 842 1764 (st 187) "_law_method" ["w","d","t","own","word","name","way","node"] 4 853,[oT [] 0,oM [],oV (fd (st 188) (sO "law") 0 (.none) (.none) 0),oF "code" [vS "law" 1778,vS "law" 1779,vS "/claim/cut.py" 1780,.int 865 0,.int 1 0,.int 0 0,.int 0 0,.int 3 0,.ref 849,.bool true,.int 181 0,.ref 850,.none,.none,.none,.ref 851,.int 1781 0,.int 865 0,vS "/claim/cut.py" 1782],oU (fd (st 188) (sO "law") 3 j6 (.ref 852) 0)]])
abbrev pw:=PySem.Challenge.pw_hb0003_01
noncomputable def ae:Env:={scope:=pw.main.scope,locals:=mainNs,globals:=mainNs,cells:=[],code:=.ref 13,frame:=some 14}
noncomputable def cE:Code:=.body (behindTheImports pw) ae
noncomputable def B0:List Frame:=[topFrame ⟨0,0,0,0⟩]
noncomputable def S0 (w:World) (T:BT) (n tk:Nat) (os:OsState):SharedT:=⟨T,n,{},#[],{},tk,os⟩
theorem c1(w:World)(os:OsState):segRunT treeTable pw w 11 (some (.ref 6)) 1 323 (S0 w (T0 w.params) 15 187 os) (piecesOf ((body.drop 0).take 9) ae cE ⟨0,0,0,0⟩ B0)=some (.next,S0 w (T1 w.params) 42 239 os,cE,⟨11,0,15,20⟩):=by rw[Fast.te10110043849684766642,Fast.te14364793385576792824];kernel_rfl!
theorem c2(w:World)(os:OsState):segRunT treeTable pw w 11 (some (.ref 6)) 1 214 (S0 w (T1 w.params) 42 239 os) (piecesOf ((body.drop 9).take 1) ae cE ⟨11,0,15,20⟩ B0)=some (.next,S0 w (T2 w.params) 54 255 os,cE,⟨16,0,17,8⟩):=by rw[Fast.te10110043849684766642,Fast.te14364793385576792824];kernel_rfl!
theorem c3(w:World)(os:OsState):segRunT treeTable pw w 11 (some (.ref 6)) 1 421 (S0 w (T2 w.params) 54 255 os) (piecesOf ((body.drop 10).take 24) ae cE ⟨16,0,17,8⟩ B0)=some (.next,S0 w (T3 w.params) 66 317 os,cE,⟨42,0,42,7⟩):=by rw[Fast.te10110043849684766642,Fast.te14364793385576792824];kernel_rfl!
theorem c4(w:World)(os:OsState):segRunT treeTable pw w 11 (some (.ref 6)) 1 73 (S0 w (T3 w.params) 66 317 os) (piecesOf ((body.drop 34).take 8) ae cE ⟨42,0,42,7⟩ B0)=some (.next,S0 w (T4 w.params) 66 333 os,cE,⟨50,0,50,13⟩):=by rw[Fast.te10110043849684766642,Fast.te14364793385576792824];kernel_rfl!
theorem c5f(w:World)(os:OsState):segRunT treeTable pw (w.withFollow "special-get-raises" false) 11 (some (.ref 6)) 1 413 (S0 (w.withFollow "special-get-raises" false) (T4 (w.withFollow "special-get-raises" false).params) 66 333 os) (piecesOf ((body.drop 42).take 2) ae cE ⟨50,0,50,13⟩ B0)=some (.next,S0 (w.withFollow "special-get-raises" false) (T5 (w.withFollow "special-get-raises" false).params) 68 391 os,cE,⟨52,0,52,8⟩):=by rw[Fast.te10110043849684766642,Fast.te14364793385576792824];kernel_rfl!
theorem c5t(w:World)(os:OsState):segRunT treeTable pw (w.withFollow "special-get-raises" true) 11 (some (.ref 6)) 1 413 (S0 (w.withFollow "special-get-raises" true) (T4 (w.withFollow "special-get-raises" true).params) 66 333 os) (piecesOf ((body.drop 42).take 2) ae cE ⟨50,0,50,13⟩ B0)=some (.next,S0 (w.withFollow "special-get-raises" true) (T5 (w.withFollow "special-get-raises" true).params) 68 391 os,cE,⟨52,0,52,8⟩):=by rw[Fast.te10110043849684766642,Fast.te14364793385576792824];kernel_rfl!
theorem c5(w:World)(os:OsState):segRunT treeTable pw w 11 (some (.ref 6)) 1 413 (S0 w (T4 w.params) 66 333 os) (piecesOf ((body.drop 42).take 2) ae cE ⟨50,0,50,13⟩ B0)=some (.next,S0 w (T5 w.params) 68 391 os,cE,⟨52,0,52,8⟩):=by exact byRow2 "special-get-raises" (P:=λw=>segRunT treeTable pw w 11 (some (.ref 6)) 1 413 (S0 w (T4 w.params) 66 333 os) (piecesOf ((body.drop 42).take 2) ae cE ⟨50,0,50,13⟩ B0)=some (.next,S0 w (T5 w.params) 68 391 os,cE,⟨52,0,52,8⟩)) (λw=>c5f w os) (λw=>c5t w os) w
theorem c6(w:World)(os:OsState):segRunT treeTable pw w 11 (some (.ref 6)) 1 396 (S0 w (T5 w.params) 68 391 os) (piecesOf ((body.drop 44).take 5) ae cE ⟨52,0,52,8⟩ B0)=some (.next,S0 w (T6 w.params) 124 472 os,cE,⟨116,0,121,12⟩):=by rw[Fast.te10110043849684766642,Fast.te14364793385576792824];kernel_rfl!
theorem c7(w:World)(os:OsState):segRunT treeTable pw w 11 (some (.ref 6)) 1 399 (S0 w (T6 w.params) 124 472 os) (piecesOf ((body.drop 49).take 13) ae cE ⟨116,0,121,12⟩ B0)=some (.next,S0 w (T7 w.params) 215 584 os,cE,⟨186,0,190,13⟩):=by rw[Fast.te10110043849684766642,Fast.te14364793385576792824];kernel_rfl!
theorem c8(w:World)(os:OsState):segRunT treeTable pw w 11 (some (.ref 6)) 1 336 (S0 w (T7 w.params) 215 584 os) (piecesOf ((body.drop 62).take 30) ae cE ⟨186,0,190,13⟩ B0)=some (.next,S0 w (T8 w.params) 236 664 os,cE,⟨229,0,229,10⟩):=by rw[Fast.te10110043849684766642,Fast.te14364793385576792824];kernel_rfl!
theorem c9(w:World)(os:OsState):segRunT treeTable pw w 11 (some (.ref 6)) 1 248 (S0 w (T8 w.params) 236 664 os) (piecesOf ((body.drop 92).take 1) ae cE ⟨229,0,229,10⟩ B0)=some (.next,S0 w (T9 w.params) 257 718 os,cE,⟨230,0,255,21⟩):=by rw[Fast.te10110043849684766642,Fast.te14364793385576792824];kernel_rfl!
theorem c10(w:World)(os:OsState):segRunT treeTable pw w 11 (some (.ref 6)) 1 242 (S0 w (T9 w.params) 257 718 os) (piecesOf ((body.drop 93).take 1) ae cE ⟨230,0,255,21⟩ B0)=some (.next,S0 w (FI w.params) 278 766 os,cE,⟨256,0,272,23⟩):=by rw[Fast.te10110043849684766642,Fast.te14364793385576792824];kernel_rfl!
theorem Ft(w:World)(os:OsState):segRunT treeTable pw w 11 (some (.ref 6)) 1 391 (S0 w (FI w.params) 278 766 os) (piecesOf ((body.drop 94).take 6) ae cE ⟨256,0,272,23⟩ B0)=some (.next,S0 w (FH w.params) 334 853 os,cE,⟨307,0,317,37⟩):=by rw[Fast.te10110043849684766642,Fast.te14364793385576792824];kernel_rfl!
theorem Fs(w:World)(os:OsState):segRunT treeTable pw w 11 (some (.ref 6)) 1 413 (S0 w (FH w.params) 334 853 os) (piecesOf ((body.drop 100).take 26) ae cE ⟨307,0,317,37⟩ B0)=some (.next,S0 w (FG w.params) 390 963 os,cE,⟨371,0,371,8⟩):=by rw[Fast.te10110043849684766642,Fast.te14364793385576792824];kernel_rfl!
theorem c13(w:World)(os:OsState):segRunT treeTable pw w 11 (some (.ref 6)) 1 277 (S0 w (FG w.params) 390 963 os) (piecesOf ((body.drop 126).take 6) ae cE ⟨371,0,371,8⟩ B0)=some (.next,S0 w (Ey w.params) 411 1011 os,cE,⟨377,0,385,20⟩):=by rw[Fast.te10110043849684766642,Fast.te14364793385576792824];kernel_rfl!
theorem c14(w:World)(os:OsState):segRunT treeTable pw w 11 (some (.ref 6)) 1 328 (S0 w (Ey w.params) 411 1011 os) (piecesOf ((body.drop 132).take 2) ae cE ⟨377,0,385,20⟩ B0)=some (.next,S0 w (Dm w.params) 453 1066 os,cE,⟨400,0,400,8⟩):=by rw[Fast.te10110043849684766642,Fast.te14364793385576792824];kernel_rfl!
theorem Fr(w:World)(os:OsState):segRunT treeTable pw (w.withFollow "special-get-raises" false) 11 (some (.ref 6)) 1 352 (S0 (w.withFollow "special-get-raises" false) (Dm (w.withFollow "special-get-raises" false).params) 453 1066 os) (piecesOf ((body.drop 134).take 2) ae cE ⟨400,0,400,8⟩ B0)=some (.next,S0 (w.withFollow "special-get-raises" false) (Dl (w.withFollow "special-get-raises" false).params) 455 1134 os,cE,⟨402,0,402,8⟩):=by rw[Fast.te10110043849684766642,Fast.te14364793385576792824];kernel_rfl!
theorem Fq(w:World)(os:OsState):segRunT treeTable pw (w.withFollow "special-get-raises" true) 11 (some (.ref 6)) 1 352 (S0 (w.withFollow "special-get-raises" true) (Dm (w.withFollow "special-get-raises" true).params) 453 1066 os) (piecesOf ((body.drop 134).take 2) ae cE ⟨400,0,400,8⟩ B0)=some (.next,S0 (w.withFollow "special-get-raises" true) (Dl (w.withFollow "special-get-raises" true).params) 455 1134 os,cE,⟨402,0,402,8⟩):=by rw[Fast.te10110043849684766642,Fast.te14364793385576792824];kernel_rfl!
theorem c15(w:World)(os:OsState):segRunT treeTable pw w 11 (some (.ref 6)) 1 352 (S0 w (Dm w.params) 453 1066 os) (piecesOf ((body.drop 134).take 2) ae cE ⟨400,0,400,8⟩ B0)=some (.next,S0 w (Dl w.params) 455 1134 os,cE,⟨402,0,402,8⟩):=by exact byRow2 "special-get-raises" (P:=λw=>segRunT treeTable pw w 11 (some (.ref 6)) 1 352 (S0 w (Dm w.params) 453 1066 os) (piecesOf ((body.drop 134).take 2) ae cE ⟨400,0,400,8⟩ B0)=some (.next,S0 w (Dl w.params) 455 1134 os,cE,⟨402,0,402,8⟩)) (λw=>Fr w os) (λw=>Fq w os) w
theorem c16(w:World)(os:OsState):segRunT treeTable pw w 11 (some (.ref 6)) 1 241 (S0 w (Dl w.params) 455 1134 os) (piecesOf ((body.drop 136).take 2) ae cE ⟨402,0,402,8⟩ B0)=some (.next,S0 w (FF w.params) 476 1174 os,cE,⟨415,0,415,8⟩):=by rw[Fast.te10110043849684766642,Fast.te14364793385576792824];kernel_rfl!
theorem c17(w:World)(os:OsState):segRunT treeTable pw w 11 (some (.ref 6)) 1 423 (S0 w (FF w.params) 476 1174 os) (piecesOf ((body.drop 138).take 1) ae cE ⟨415,0,415,8⟩ B0)=some (.next,S0 w (FE w.params) 539 1259 os,cE,⟨416,0,445,16⟩):=by rw[Fast.te10110043849684766642,Fast.te14364793385576792824];kernel_rfl!
theorem c18(w:World)(os:OsState):segRunT treeTable pw w 11 (some (.ref 6)) 1 412 (S0 w (FE w.params) 539 1259 os) (piecesOf ((body.drop 139).take 3) ae cE ⟨416,0,445,16⟩ B0)=some (.next,S0 w (FD w.params) 595 1352 os,cE,⟨462,0,489,39⟩):=by rw[Fast.te10110043849684766642,Fast.te14364793385576792824];kernel_rfl!
theorem c19(w:World)(os:OsState):segRunT treeTable pw w 11 (some (.ref 6)) 1 132 (S0 w (FD w.params) 595 1352 os) (piecesOf ((body.drop 142).take 5) ae cE ⟨462,0,489,39⟩ B0)=some (.next,S0 w (Dk w.params) 614 1385 os,cE,⟨508,0,508,11⟩):=by rw[Fast.te10110043849684766642,Fast.te14364793385576792824];kernel_rfl!
theorem Fp(w:World)(os:OsState):segRunT treeTable pw (w.withFollow "special-get-raises" false) 11 (some (.ref 6)) 1 115 (S0 (w.withFollow "special-get-raises" false) (Dk (w.withFollow "special-get-raises" false).params) 614 1385 os) (piecesOf ((body.drop 147).take 1) ae cE ⟨508,0,508,11⟩ B0)=some (.next,S0 (w.withFollow "special-get-raises" false) (Dj (w.withFollow "special-get-raises" false).params) 615 1394 os,cE,⟨509,0,509,9⟩):=by rw[Fast.te10110043849684766642,Fast.te14364793385576792824];kernel_rfl!
theorem Fo(w:World)(os:OsState):segRunT treeTable pw (w.withFollow "special-get-raises" true) 11 (some (.ref 6)) 1 115 (S0 (w.withFollow "special-get-raises" true) (Dk (w.withFollow "special-get-raises" true).params) 614 1385 os) (piecesOf ((body.drop 147).take 1) ae cE ⟨508,0,508,11⟩ B0)=some (.next,S0 (w.withFollow "special-get-raises" true) (Dj (w.withFollow "special-get-raises" true).params) 615 1394 os,cE,⟨509,0,509,9⟩):=by rw[Fast.te10110043849684766642,Fast.te14364793385576792824];kernel_rfl!
theorem c20(w:World)(os:OsState):segRunT treeTable pw w 11 (some (.ref 6)) 1 115 (S0 w (Dk w.params) 614 1385 os) (piecesOf ((body.drop 147).take 1) ae cE ⟨508,0,508,11⟩ B0)=some (.next,S0 w (Dj w.params) 615 1394 os,cE,⟨509,0,509,9⟩):=by exact byRow2 "special-get-raises" (P:=λw=>segRunT treeTable pw w 11 (some (.ref 6)) 1 115 (S0 w (Dk w.params) 614 1385 os) (piecesOf ((body.drop 147).take 1) ae cE ⟨508,0,508,11⟩ B0)=some (.next,S0 w (Dj w.params) 615 1394 os,cE,⟨509,0,509,9⟩)) (λw=>Fp w os) (λw=>Fo w os) w
theorem c21(w:World)(os:OsState):segRunT treeTable pw w 11 (some (.ref 6)) 1 405 (S0 w (Dj w.params) 615 1394 os) (piecesOf ((body.drop 148).take 7) ae cE ⟨509,0,509,9⟩ B0)=some (.next,S0 w (FB w.params) 670 1480 os,cE,⟨540,0,554,53⟩):=by rw[Fast.te10110043849684766642,Fast.te14364793385576792824];kernel_rfl!
theorem c22(w:World)(os:OsState):segRunT treeTable pw w 11 (some (.ref 6)) 1 402 (S0 w (FB w.params) 670 1480 os) (piecesOf ((body.drop 155).take 15) ae cE ⟨540,0,554,53⟩ B0)=some (.next,S0 w (FA w.params) 734 1592 os,cE,⟨662,0,682,12⟩):=by rw[Fast.te10110043849684766642,Fast.te14364793385576792824];kernel_rfl!
theorem c23(w:World)(os:OsState):segRunT treeTable pw w 11 (some (.ref 6)) 1 387 (S0 w (FA w.params) 734 1592 os) (piecesOf ((body.drop 170).take 13) ae cE ⟨662,0,682,12⟩ B0)=some (.next,S0 w (Fz w.params) 814 1711 os,cE,⟨814,0,817,15⟩):=by rw[Fast.te10110043849684766642,Fast.te14364793385576792824];kernel_rfl!
theorem c24(w:World)(os:OsState):segRunT treeTable pw w 11 (some (.ref 6)) 1 204 (S0 w (Fz w.params) 814 1711 os) (piecesOf ((body.drop 183).take 6) ae cE ⟨814,0,817,15⟩ B0)=some (.next,S0 w (gP w.params) 854 1784 os,cE,⟨865,0,897,199⟩):=by rw[Fast.te10110043849684766642,Fast.te14364793385576792824];kernel_rfl!
end
section
open PySem PySem.W
noncomputable def q1:Program:={pw with main:={pw.main with body:=[st 188]}}
noncomputable def oh:List Str:=pw.boundNames.filter λn=>!(n==("law":Str))
noncomputable def H1 (P:Params):Heap:=absHeap (gP P) 854 {}
theorem pre(w:World)(os:OsState):topGo treeTable pw w 11 (some (.ref 6)) 12 ⟨boot_heap w.params,#[],boot_drawn,boot_toks,os⟩ (topStub pw)=some ((S0 w (T0 w.params) 15 187 os).abs,⟨denote treeTable cE,cE,⟨0,0,0,0⟩,B0⟩):=by rw[Fast.te15667345088766844465,Fast.te14364793385576792824,Fast.te11892475500146522536];kernel_rfl!
theorem Es(w:World)(os:OsState):segRun treeTable pw w 11 (some (.ref 6)) 1 1 (S0 w (T0 w.params) 15 187 os).abs (blockOf (behindTheImports pw) ae cE ⟨0,0,0,0⟩ [topFrame ⟨0,0,0,0⟩])=some (.next,(S0 w (T0 w.params) 15 187 os).abs,cE,⟨0,0,0,0⟩):=by kernel_rfl!
theorem fin(w:World)(os:OsState):topRun treeTable pw w 11 (some (.ref 6)) 2 (S0 w (gP w.params) 854 1784 os).abs ⟨doneF .next,cE,⟨865,0,897,199⟩,[topFrame ⟨0,0,0,0⟩]⟩=some ⟨H1 w.params,#[],{},1784,os⟩:=by kernel_rfl!
theorem CV:behindTheImports pw=body:=by kernel_rfl!
theorem DK:body=(body.drop 0).take 9++((body.drop 9).take 1++((body.drop 10).take 24++((body.drop 34).take 8++((body.drop 42).take 2++((body.drop 44).take 5++((body.drop 49).take 13++((body.drop 62).take 30++((body.drop 92).take 1++((body.drop 93).take 1++((body.drop 94).take 6++((body.drop 100).take 26++((body.drop 126).take 6++((body.drop 132).take 2++((body.drop 134).take 2++((body.drop 136).take 2++((body.drop 138).take 1++((body.drop 139).take 3++((body.drop 142).take 5++((body.drop 147).take 1++((body.drop 148).take 7++((body.drop 155).take 15++((body.drop 170).take 13++((body.drop 183).take 6++[]))))))))))))))))))))))):=by kernel_rfl!
theorem E3(w:World)(os:OsState):topRun treeTable pw w 11 (some (.ref 6)) (323+(214+(421+(73+(413+(396+(399+(336+(248+(242+(391+(413+(277+(328+(352+(241+(423+(412+(132+(115+(405+(402+(387+(204+(2))))))))))))))))))))))))) (S0 w (T0 w.params) 15 187 os).abs (restOf (behindTheImports pw) ae cE ⟨0,0,0,0⟩ [topFrame ⟨0,0,0,0⟩])=some ⟨H1 w.params,#[],{},1784,os⟩:=by rw[CV,DK];refine piece_app (segRun_of (c1 w os)) ?_;refine piece_app (segRun_of (c2 w os)) ?_;refine piece_app (segRun_of (c3 w os)) ?_;refine piece_app (segRun_of (c4 w os)) ?_;refine piece_app (segRun_of (c5 w os)) ?_;refine piece_app (segRun_of (c6 w os)) ?_;refine piece_app (segRun_of (c7 w os)) ?_;refine piece_app (segRun_of (c8 w os)) ?_;refine piece_app (segRun_of (c9 w os)) ?_;refine piece_app (segRun_of (c10 w os)) ?_;refine piece_app (segRun_of (Ft w os)) ?_;refine piece_app (segRun_of (Fs w os)) ?_;refine piece_app (segRun_of (c13 w os)) ?_;refine piece_app (segRun_of (c14 w os)) ?_;refine piece_app (segRun_of (c15 w os)) ?_;refine piece_app (segRun_of (c16 w os)) ?_;refine piece_app (segRun_of (c17 w os)) ?_;refine piece_app (segRun_of (c18 w os)) ?_;refine piece_app (segRun_of (c19 w os)) ?_;refine piece_app (segRun_of (c20 w os)) ?_;refine piece_app (segRun_of (c21 w os)) ?_;refine piece_app (segRun_of (c22 w os)) ?_;refine piece_app (segRun_of (c23 w os)) ?_;refine piece_app (segRun_of (c24 w os)) ?_;exact piece_nil (fin w os)
theorem run(w:World)(os:OsState):topRun treeTable pw w 11 (some (.ref 6)) (12+(1+(323+(214+(421+(73+(413+(396+(399+(336+(248+(242+(391+(413+(277+(328+(352+(241+(423+(412+(132+(115+(405+(402+(387+(204+(2))))))))))))))))))))))))))) ⟨boot_heap w.params,#[],boot_drawn,boot_toks,os⟩ (topStub pw)=some ⟨H1 w.params,#[],{},1784,os⟩:=
 go_top (pre w os) (piece_block (Es w os) (E3 w os))
theorem DF(w:World):((boot_heap w.params).isNs mainGlobals&&(#[]:Array GenState).size==0,(boot_heap w.params).objs.size,(boot_heap w.params).nsMap mainGlobals "__annotations__")=(true,11,some (.ref 6)):=by kernel_rfl!
theorem CF(s:Shared):fenceModules? pw s=some s:=by kernel_rfl!
theorem B7:opening pw=plainProg pw.main.scope.names:=by kernel_rfl!
theorem DY(w:World)(os:OsState):(staticsOk (importedModules pw.main.body) (boot_heap w.params) (H1 w.params)&&namesBound pw (H1 w.params)&&gensDone ⟨H1 w.params,#[],{},1784,os⟩&&laidKept (boot_heap w.params) (H1 w.params))=true:=by kernel_rfl!
theorem DX(w:World)(os:OsState):openSeen q1 oh (importedModules pw.main.body) (λ_=>true) true ⟨H1 w.params,#[],{},1784,os⟩=openGood q1 oh:=by rw[Fast.te4187177175401517315];kernel_rfl!
theorem left:LeftO pw q1 oh (λ_=>true) Shared.heap (λw=>H1 w.params) 20000:=
 LeftO.of_pieces (boot_open B7 (by decide+kernel) CF) DF run (by decide+kernel) (λw=>by
  funext os
  rw[DY,DX])
end
set_option tactic.hygienic false
section
open PySem PySem.W PyProof.Rows
set_option genInjectivity true in
inductive KA where
 |i (n:Int)|s (x:Str)
 deriving DecidableEq
set_option genInjectivity true in
inductive KI where
 |a (k:KA)|t (ks:List KA)
 deriving DecidableEq
abbrev KD:=List KI
section
variable(prog:Program) (w:World)
noncomputable def KA.isB:KA->Value->Bool
 |.i n,.int m _=>decide (n=m)
 |.s x,.str y _=>x==y
 |_,_=>false
noncomputable def KA.hash:KA->Int
 |.i n=>(intKind prog w).hash n
 |.s x=>(strKind prog w).hash x
variable{prog w}
theorem KA.of_i{n:Int}{v:Value}(h:KA.isB (.i n) v=true):∃t,v=.int n t:=by induction v using PySem.Value.casesOn<;>simp[KA.isB]at h;exact⟨_,by rw[h]⟩
theorem KA.of_s{x:Str}{v:Value}(h:KA.isB (.s x) v=true):∃t,v=.str x t:=by induction v using PySem.Value.casesOn<;>simp[KA.isB]at h;exact⟨_,by rw[h]⟩
structure IK (prog:Program) (w:World) (K:Type) [DecidableEq K]where
 is:Heap->K->Value->Prop
 hash:K->Int
 draws:K->Nat
 r:Nat
 inj:∀{h:Heap} {x y:K} {v:Value},is h x v->is h y v->x=y
 pyHash:∀{A:Around} {E:Value->Shared->Prop} {s:Shared} {k:K} {v:Value} {Q:Int->Shared->Prop},A.units+r<cLine->is s.heap k v->Q (hash k) {s with toks:=s.toks+draws k}->wpAny (model prog w) A (PySem.pyHash v) Q E s
 eqBool:∀{A:Around} {E:Value->Shared->Prop} {s:Shared} {x y:K} {u v:Value} {Q:Bool->Shared->Prop},A.units+r<cLine->is s.heap x u->is s.heap y v->Q (decide (x=y)) s->wpAny (model prog w) A (PySem.eqBool u v) Q E s
 quiet:∀{A:Around} {E:Value->Shared->Prop} {s:Shared} {k:K} {v:Value} {Q:Bool->Shared->Prop} (n:Nat),is s.heap k v->Q true s->wpAny (model prog w) A (eqIsQuiet (n+r) v) Q E s
section
variable{A:Around} {E:Value->Shared->Prop} {s:Shared}
theorem wh{a:Int}{t:Tok}{b:Str}{u:Tok}{Q:Bool->Shared->Prop}(h:Q false s):wpAny (model prog w) A (eqBool (.int a t) (.str b u)) Q E s:=by unfold eqBool;refine wpAny_holding ?_;rw[if_neg (show¬(Value.int a t==Value.str b u)=true by intro e;cases e)];refine wpAny_bind ?_;refine wpAny_mono (show wpAny (model prog w) A (richCompare .Eq (.int a t) (.str b u)) (λr s'=>r=.bool false/\Q false s') E s from EqMixed.eq_int_str ⟨rfl,h⟩) ?_ (λ_ _ x=>x);rintro r s' ⟨rfl,hq⟩;exact wpAny_truthy_bool hq
theorem wg{a:Str}{t:Tok}{b:Int}{u:Tok}{Q:Bool->Shared->Prop}(h:Q false s):wpAny (model prog w) A (eqBool (.str a t) (.int b u)) Q E s:=by unfold eqBool;refine wpAny_holding ?_;rw[if_neg (show¬(Value.str a t==Value.int b u)=true by intro e;cases e)];refine wpAny_bind ?_;refine wpAny_mono (show wpAny (model prog w) A (richCompare .Eq (.str a t) (.int b u)) (λr s'=>r=.bool false/\Q false s') E s from EqMixed.eq_str_int ⟨rfl,h⟩) ?_ (λ_ _ x=>x);rintro r s' ⟨rfl,hq⟩;exact wpAny_truthy_bool hq
noncomputable def bJ:IK prog w KA where
 is:=λ_ k v=>KA.isB k v=true
 hash:=KA.hash prog w
 draws:=λ_=>1
 r:=0
 inj:=by
  intro h x y v hx hy
  induction x using KA.casesOn<;>induction y using KA.casesOn<;>induction v using PySem.Value.casesOn<;>simp_all [KA.isB]
 pyHash:=by
  intro A E s k v Q _ hk h
  induction k using KA.casesOn with
  |i n=>obtain⟨t,rfl⟩:=KA.of_i hk;exact wpAny_pyHash_int h
  |s x=>obtain⟨t,rfl⟩:=KA.of_s hk;exact wpAny_pyHash_str h
 eqBool:=by
  intro A E s x y u v Q _ hx hy h
  induction x using KA.casesOn with
  |i m=>
   obtain⟨t,rfl⟩:=KA.of_i hx
   induction y using KA.casesOn with
   |i n=>
    obtain⟨t',rfl⟩:=KA.of_i hy
    refine wpAny_eqBool_int ?_
    have e:(m==n)=decide (KA.i m=KA.i n):=by
     by_cases q:m=n
     ·subst q;simp
     ·simp[q]
    rw[e];exact h
   |s b=>
    obtain⟨t',rfl⟩:=KA.of_s hy
    rw[decide_eq_false (by intro q;cases q)]at h
    exact wh h
  |s a=>
   obtain⟨t,rfl⟩:=KA.of_s hx
   induction y using KA.casesOn with
   |i n=>
    obtain⟨t',rfl⟩:=KA.of_i hy
    rw[decide_eq_false (by intro q;cases q)]at h
    exact wg h
   |s b=>
    obtain⟨t',rfl⟩:=KA.of_s hy
    refine wpAny_eqBool_str ?_
    have e:decide (a=b)=decide (KA.s a=KA.s b):=by
     by_cases q:a=b
     ·subst q;simp
     ·simp[q]
    rw[e];exact h
 quiet:=by
  intro A E s k v Q n hk h
  have hv:carriedByValue v=true:=by
   induction k using KA.casesOn with
   |i n=>obtain⟨t,rfl⟩:=KA.of_i hk;rfl
   |s x=>obtain⟨t,rfl⟩:=KA.of_s hk;rfl
  rw[eqIsQuiet_byValue _ hv]
  exact wpAny_pure h
variable{K:Type} [DecidableEq K] (ik:IK prog w K)
inductive aG (h:Heap):List K->List Value->Prop
 |nil:aG h [] []
 |cons {k:K} {v:Value} {ks:List K} {vs:List Value}:ik.is h k v->aG h ks vs->aG h (k::ks) (v::vs)
noncomputable def cI (h:Heap) (ks:List K) (a:Addr):Prop:=∃o items n,h.get? a=some o/\o.cls=.type "tuple"/\o.data=.seq items n/\aG ik h ks items.toList
variable{ik}
theorem aG.inj{h:Heap}{x y:List K}{vs:List Value}(hx:aG ik h x vs)(hy:aG ik h y vs):x=y:=by
 induction hx generalizing y with
 |nil=>cases hy;rfl
 |cons h1 _ ih=>
  cases hy with
  |cons h2 t2=>rw[ik.inj h1 h2,ih t2]
theorem aG.length{h:Heap}{x:List K}{vs:List Value}(hx:aG ik h x vs):x.length=vs.length:=by
 induction hx with
 |nil=>rfl
 |cons _ _ ih=>simp[ih]
theorem cI.typeIs{ks:List K}{a:Addr}(x:cI ik s.heap ks a):s.TypeIs (.ref a) "tuple":=let⟨o,_,_,ho,hc,_⟩:=x;⟨o,ho,hc⟩
theorem cI.inj{h:Heap}{a:Addr}{x y:List K}(hx:cI ik h x a)(hy:cI ik h y a):x=y:=by
 obtain⟨o,items,n,ho,_,hd,hi⟩:=hx;obtain⟨o',items',n',ho',_,hd',hi'⟩:=hy;obtain rfl:o=o':=Option.some.inj (ho.symm.trans ho');rw[hd]at hd';injection hd' with h1 _
 subst h1;exact hi.inj hi'
noncomputable def um (ik:IK prog w K) (ks:List K):Int:=reduceHash (Builtin.Tuple.tupleHashOf (ks.map ik.hash))
noncomputable def bo (ik:IK prog w K):List K->Nat
 |[]=>1
 |k::ks=>ik.draws k+bo ik ks
theorem sn(ik:IK prog w K)(xs ys:List K):bo ik (xs++ys)+1=bo ik xs+bo ik ys:=by
 induction xs with
 |nil=>simp[bo];exact Nat.add_comm _ _
 |cons x xs ih=>simp only[List.cons_append,bo];lia
theorem qi{ks:List K}{a:Addr}{Q:Int->Shared->Prop}(hu:A.units+(ik.r+1)<cLine)(hk:cI ik s.heap ks a)(h:Q (um ik ks) {s with toks:=s.toks+bo ik ks}):wpAny (model prog w) A (pyHash (.ref a)) Q E s:=by
 have hT:=hk.typeIs;obtain⟨o,items,n,ho,_,hd,hi⟩:=hk;unfold pyHash;first|unfold pyHashByItsType|skip
 first|refine wpAny_bind (wpAny_cRoomFor_or (.inr (by exact Nat.lt_of_le_of_lt (Nat.le_add_right _ _) ‹_›)) ?_)|skip
 refine wpAny_bind (wpAny_specialOf hT PySem.F.slot_tuple_hash.lookup ?_);show wpAny _ _ (if(some (Value.builtin "tuple.__hash__")==some Value.none)=true then _ else _) Q E s;rw[if_neg (by rw[beq_builtin_none];exact Bool.false_ne_true)];refine wpAny_bind (wpAny_specialOf hT PySem.F.slot_tuple_hash.lookup ?_);show wpAny _ _ (callSpecialIfBoundUnlessNone? (.ref a) "__hash__" _>>=_) Q E s;refine wpAny_bind (wpAny_callSpecialIfBoundUnlessNone?_slot hT PySem.F.slot_tuple_hash (wpAny_call_entry PySem.F.slot_tuple_hash hT PySem.F.entry_tuple_hash ?_ (PySem.F.args_tuple_hash_1 _)));show wpAny _ _ (Builtin.Tuple.tupleItemsOf (.ref a)>>=_) _ _ s;refine wpAny_bind (wpAny_tupleItemsOf ho hd ?_);refine wpAny_bind ?_;rw[<-Array.forIn_toList]
 refine wpAny_forIn_list _
  (λrest (b:Array Int) s'=>∃done left,ks=done++left/\aG ik s.heap left rest/\b.toList=done.map ik.hash/\s'={s with toks:=s.toks+(bo ik done -1)})
  _ ?_ ?_ _ _ ⟨[],ks,rfl,hi,rfl,rfl⟩
 ·rintro x rest b s' ⟨done,left,rfl,hl,hb,rfl⟩;cases hl with
  |@cons k _ ks' _ h1 hl'=>
   refine wpAny_bind (ik.pyHash (by simp only[Around.in1_units];lia) h1 ?_);have e:s.toks+(bo ik done -1)+ik.draws k=s.toks+(bo ik (done++[k]) -1):=by
    have h1:=sn ik done [k];have h2:1<=bo ik done:=by
     have all:∀l:List K,1<=bo ik l:=by intro l;induction l with|nil=>simp[bo]|cons y l ih=>simp only[bo];lia
     exact all done
    simp only[bo]at h1;lia
   dsimp only;rw[e]
   first
    |exact wpAny_pure ⟨done++[k],ks',by simp,hl',by simp[hb],rfl⟩
    |exact wpAny_bind (wpAny_pure (wpAny_pure ⟨done++[k],ks',by simp,hl',by simp[hb],rfl⟩))
 ·rintro b s' ⟨done,left,rfl,hl,hb,rfl⟩;cases hl;rw[List.append_nil]at h;show wpAny _ _ (retInt (Builtin.Tuple.tupleHashOf b.toList)) _ _ _;rw[hb];have hp:1<=bo ik done:=by
   have:∀l:List K,1<=bo ik l:=by intro l;induction l with|nil=>simp[bo]|cons y l ih=>simp only[bo];lia
   exact this done
  refine wpAny_ret_mkInt ?_;have e:s.toks+(bo ik done -1)+1=s.toks+bo ik done:=by lia
  dsimp only;rw[e];show wpAny _ _ (if(decide (-(2:Int)^63<=Builtin.Tuple.tupleHashOf (done.map ik.hash))&&decide (Builtin.Tuple.tupleHashOf (done.map ik.hash)<2^63))=true then _ else _) Q E _;unfold um reduceHash at h;by_cases hr:(decide (-(2:Int)^63<=Builtin.Tuple.tupleHashOf (done.map ik.hash))&&decide (Builtin.Tuple.tupleHashOf (done.map ik.hash)<2^63))=true
  ·rw[if_pos hr];rw[if_pos hr]at h;exact wpAny_pure h
  ·rw[if_neg hr];rw[if_neg hr]at h;exact wpAny_bind (wpAny_rule (wpAny_pure h))
end
end
end
section
open PySem PySem.W PyProof.Rows
section
variable{prog:Program} {w:World} {K:Type} [DecidableEq K] {ik:IK prog w K} {A:Around} {E:Value->Shared->Prop} {s:Shared}
theorem yz{x y:List K}{a b:Addr}{P:Fin->Shared->Prop}(hu:A.units+ik.r<cLine)(hx:cI ik s.heap x a)(hy:cI ik s.heap y b)(h:P (.done (.ret (.bool (decide (x=y))))) s):wpAny (model prog w) A (Builtin.«tuple.__eq__» ⟨[.ref a,.ref b],[]⟩) P E s:=by
 have hTb:=hy.typeIs;obtain⟨oa,xs,na,hoa,_,hda,hia⟩:=hx;obtain⟨ob,ys,nb,hob,_,hdb,hib⟩:=hy;show wpAny _ _ (isInstance (.ref b) (.type "tuple")>>=_) _ _ s;refine wpAny_bind (wpAny_isInstance hTb isSubtype_tuple_tuple ?_);simp only[Bool.not_true,Bool.false_eq_true,if_false];refine wpAny_bind (wpAny_tupleItemsOf hoa hda ?_);refine wpAny_bind (wpAny_tupleItemsOf hob hdb ?_);refine wpAny_bind ?_
 refine wpAny_forIn_list _
  (λrest r s'=>r.1=none/\s'=s/\∃x' y' xs' ys',rest=List.zip xs' ys'/\aG ik s.heap x' xs'/\aG ik s.heap y' ys'/\decide (x'=y')=decide (x=y)/\(xs'.length==ys'.length)=(xs.size==ys.size))
  _ ?_ ?_ _ _ ⟨rfl,rfl,x,y,xs.toList,ys.toList,rfl,hia,hib,rfl,by simp⟩
 ·rintro⟨u,v⟩ rest r s' H;refine Fg ?_;intro P' hP';obtain⟨hr,rfl,x',y',xs',ys',hz,hx',hy',hdec,hlen⟩:=H;cases hx' with
  |nil=>simp at hz
  |@cons k1 u' x'' xs'' h1 hx''=>
   cases hy' with
   |nil=>simp at hz
   |@cons k2 v' y'' ys'' h2 hy''=>
    simp only[List.zip_cons_cons,List.cons.injEq,Prod.mk.injEq]at hz;obtain⟨⟨rfl,rfl⟩,rfl⟩:=hz;refine hP' ?_;refine wpAny_bind (ik.eqBool (x:=k1) (y:=k2) hu h1 h2 ?_);by_cases hk:k1=k2
    ·subst hk;rw[decide_eq_true rfl];simp only[Bool.not_true,Bool.false_eq_true,if_false];refine wpAny_pure ⟨rfl,rfl,x'',y'',xs'',ys'',rfl,hx'',hy'',?_,by simpa using hlen⟩;rw[<-hdec];by_cases hxy:x''=y''
     ·simp[hxy]
     ·simp[hxy]
    ·rw[decide_eq_false hk];simp only[Bool.not_false,if_true];have hf:decide (x=y)=false:=by rw[<-hdec];simp[hk]
     rw[hf]at h;exact wpAny_bind (wpAny_pure (wpAny_pure (wpAny_pure h)))
 ·rintro⟨r1,r2⟩ s' H;refine Fg ?_;intro P' hP';obtain⟨hr,rfl,x',y',xs',ys',hz,hx',hy',hdec,hlen⟩:=H;simp only at hr;subst hr;refine hP' ?_;refine wpAny_pure ?_;have hfin:(xs.size==ys.size)=decide (x=y):=by
   rw[<-hdec,<-hlen];cases hx' with
   |nil=>
    cases hy' with
    |nil=>simp
    |cons _ _=>simp
   |cons _ _=>
    cases hy' with
    |nil=>simp
    |cons _ _=>simp at hz
  show P (.done (.ret (.bool (xs.size==ys.size)))) s';rw[hfin];exact h
theorem jb{x y:List K}{a b:Addr}{Q:Bool->Shared->Prop}(hu:A.units+(ik.r+1)<cLine)(hx:cI ik s.heap x a)(hy:cI ik s.heap y b)(h:Q (decide (x=y)) s):wpAny (model prog w) A (eqBool (.ref a) (.ref b)) Q E s:=by
 unfold eqBool;try with_reducible refine wpAny_holding ?_
 show wpAny _ _ (if(Value.ref a==Value.ref b)=true then _ else _) Q E s;by_cases hab:(Value.ref a==Value.ref b)=true
 ·rw[if_pos hab];have e:a=b:=by have:=eq_of_beq hab;injection this
  subst e;obtain rfl:=hx.inj hy;exact wpAny_bind (wpAny_rule (wpAny_pure (by simpa using h)))
 ·rw[if_neg hab]
  exact wpAny_bind (wpAny_richCompare_same_room (op:=.Eq) hx.typeIs hy.typeIs PySem.F.slot_tuple_eq
   (wpAny_call_entry PySem.F.slot_tuple_eq hx.typeIs PySem.F.entry_tuple_eq (yz (by simp only[Around.in1_units];lia) hx hy ⟨_,rfl,(λe=>nomatch e),wpAny_truthy_bool h⟩) (PySem.F.args_tuple_eq_2 _ _)) (by exact Nat.lt_of_le_of_lt (Nat.le_add_right _ _) ‹_›))
theorem uz{ks:List K}{a:Addr}{Q:Bool->Shared->Prop}(n:Nat)(hk:cI ik s.heap ks a)(h:Q true s):wpAny (model prog w) A (eqIsQuiet (n+(ik.r+1)) (.ref a)) Q E s:=by
 have hT:=hk.typeIs;obtain⟨o,items,n',ho,_,hd,hi⟩:=hk;show wpAny (model prog w) A (eqIsQuiet ((n+ik.r)+1) (.ref a)) Q E s;unfold eqIsQuiet;refine wpAny_bind (wpAny_specialOf hT PySem.F.slot_tuple_eq.lookup ?_);show wpAny _ _ (isInstance (.ref a) (.type "tuple")>>=_) _ _ s;refine wpAny_bind (wpAny_isInstance hT isSubtype_tuple_tuple ?_);simp only[Bool.not_true,Bool.false_eq_true,if_false];refine wpAny_bind (wpAny_seqItems ho hd ?_);refine wpAny_bind ?_;show wpAny _ _ (forIn items _ _) _ _ s;rw[<-Array.forIn_toList];refine wpAny_forIn_list _ (λrest r s'=>r.1=none/\s'=s/\∃ks',aG ik s.heap ks' rest) _ ?_ ?_ _ _ ⟨rfl,rfl,ks,hi⟩
 ·rintro v rest r s' ⟨hr,rfl,ks',hl⟩;cases hl with
  |@cons k _ ks'' _ h1 hl'=>refine wpAny_bind (ik.quiet n h1 ?_);simp only[Bool.not_true,Bool.false_eq_true,if_false];exact wpAny_pure ⟨rfl,rfl,ks'',hl'⟩
 ·rintro⟨r1,r2⟩ s' ⟨hr,rfl,_⟩;simp only at hr;subst hr;exact wpAny_pure h
end
section
variable(prog:Program) (w:World)
noncomputable def KI.isR (h:Heap):KI->Value->Prop
 |.a k,v=>KA.isB k v=true
 |.t ks,v=>∃a,v=.ref a/\cI (bJ (prog:=prog) (w:=w)) h ks a
noncomputable def ak:IK prog w KI where
 is:=KI.isR prog w
 hash:=fun
  |.a k=>KA.hash prog w k
  |.t ks=>um (bJ (prog:=prog) (w:=w)) ks
 draws:=fun
  |.a _=>1
  |.t ks=>bo (bJ (prog:=prog) (w:=w)) ks
 r:=1
 inj:=by
  intro h x y v hx hy
  induction x using KI.casesOn with
  |a k=>
   induction y using KI.casesOn with
   |a k'=>exact congrArg KI.a ((bJ (prog:=prog) (w:=w)).inj (h:=h) hx hy)
   |t ks=>
    obtain⟨a,rfl,_⟩:=hy
    induction k using KA.casesOn<;>simp[KI.isR,KA.isB]at hx
  |t ks=>
   obtain⟨a,rfl,hx⟩:=hx
   induction y using KI.casesOn with
   |a k'=>induction k' using KA.casesOn<;>simp[KI.isR,KA.isB]at hy
   |t ks'=>
    obtain⟨b,e,hy⟩:=hy
    cases e
    exact congrArg KI.t (hx.inj hy)
 pyHash:=by
  intro A E s k v Q hu hk h
  induction k using KI.casesOn with
  |a k=>exact(bJ (prog:=prog) (w:=w)).pyHash (by show A.units+0<cLine;exact Nat.lt_of_succ_lt ‹_›) hk h
  |t ks=>
   obtain⟨a,rfl,hk⟩:=hk
   exact qi (by show A.units+(0+1)<cLine;assumption) hk h
 eqBool:=by
  intro A E s x y u v Q hu hx hy h
  induction x using KI.casesOn with
  |a k=>
   induction y using KI.casesOn with
   |a k'=>
    refine(bJ (prog:=prog) (w:=w)).eqBool (x:=k) (y:=k') (by show A.units+0<cLine;exact Nat.lt_of_succ_lt ‹_›) hx hy ?_
    have e:decide (k=k')=decide (KI.a k=KI.a k'):=by
     by_cases q:k=k'
     ·subst q;simp
     ·simp[q]
    rw[e];exact h
   |t ks=>
    obtain⟨b,rfl,⟨o,items,n,ho,hc,hd,_⟩⟩:=hy
    rw[decide_eq_false (by intro q;cases q)]at h
    induction k using KA.casesOn with
    |i m=>obtain⟨t,rfl⟩:=KA.of_i hx;exact SeqAt.EqAt.int_tuple m t ⟨o,ho,hc,n,hd⟩ (by exact Nat.lt_of_succ_lt ‹_›) prog w E Q h
    |s m=>obtain⟨t,rfl⟩:=KA.of_s hx;exact SeqAt.EqAt.str_tuple m t ⟨o,ho,hc,n,hd⟩ (by exact Nat.lt_of_succ_lt ‹_›) prog w E Q h
  |t ks=>
   obtain⟨a,rfl,hx⟩:=hx
   induction y using KI.casesOn with
   |a k'=>
    obtain⟨o,items,n,ho,hc,hd,_⟩:=hx
    rw[decide_eq_false (by intro q;cases q)]at h
    induction k' using KA.casesOn with
    |i m=>obtain⟨t,rfl⟩:=KA.of_i hy;exact SeqAt.EqAt.tuple_int m t ⟨o,ho,hc,n,hd⟩ (by exact Nat.lt_of_succ_lt ‹_›) prog w E Q h
    |s m=>obtain⟨t,rfl⟩:=KA.of_s hy;exact SeqAt.EqAt.tuple_str m t ⟨o,ho,hc,n,hd⟩ (by exact Nat.lt_of_succ_lt ‹_›) prog w E Q h
   |t ks'=>
    obtain⟨b,rfl,hy⟩:=hy
    refine jb (by show A.units+(0+1)<cLine;assumption) hx hy ?_
    have e:decide (ks=ks')=decide (KI.t ks=KI.t ks'):=by
     by_cases q:ks=ks'
     ·subst q;simp
     ·simp[q]
    rw[e];exact h
 quiet:=by
  intro A E s k v Q n hk h
  induction k using KI.casesOn with
  |a k=>exact(bJ (prog:=prog) (w:=w)).quiet (n+1) hk h
  |t ks=>
   obtain⟨a,rfl,hk⟩:=hk
   exact uz n hk h
theorem aG.keeps_a{h h':Heap}{ks:List KA}{vs:List Value}(x:aG (bJ (prog:=prog) (w:=w)) h ks vs):aG (bJ (prog:=prog) (w:=w)) h' ks vs:=by
 induction x with
 |nil=>exact .nil
 |cons h1 _ ih=>exact .cons h1 ih
theorem cI.keeps_a{h h':Heap}{ks:List KA}{a:Addr}(x:cI (bJ (prog:=prog) (w:=w)) h ks a)(k:∀o,h.get? a=some o->o.cls=.type "tuple"->h'.get? a=some o):cI (bJ (prog:=prog) (w:=w)) h' ks a:=by obtain⟨o,items,n,ho,hc,hd,hi⟩:=x;exact⟨o,items,n,k o ho hc,hc,hd,hi.keeps_a⟩
theorem aG.keeps_i{h h':Heap}{ks:KD}{vs:List Value}(x:aG (ak prog w) h ks vs)(k:∀a o,h.get? a=some o->o.cls=.type "tuple"->(∃it n,o.data=.seq it n)->h'.get? a=some o):aG (ak prog w) h' ks vs:=by
 induction x with
 |nil=>exact .nil
 |@cons k1 v ks vs h1 _ ih=>
  refine .cons ?_ ih;induction k1 using KI.casesOn with
  |a q=>exact h1
  |t q=>obtain⟨a,rfl,o,items,n,ho,hc,hd,hi⟩:=h1;exact⟨a,rfl,o,items,n,k a o ho hc ⟨_,_,hd⟩,hc,hd,hi.keeps_a⟩
theorem cI.keeps_i{h h':Heap}{ks:KD}{a:Addr}(x:cI (ak prog w) h ks a)(k:∀a o,h.get? a=some o->o.cls=.type "tuple"->(∃it n,o.data=.seq it n)->h'.get? a=some o):cI (ak prog w) h' ks a:=by obtain⟨o,items,n,ho,hc,hd,hi⟩:=x;exact⟨o,items,n,k a o ho hc ⟨_,_,hd⟩,hc,hd,hi.keeps_i prog w k⟩
noncomputable def ay:HeapKind prog w KD where
 is:=cI (ak prog w)
 hash:=um (ak prog w)
 draws:=bo (ak prog w)
 room:=λA=>A.units+2<cLine
 inj:=cI.inj
 keeps:=by
  intro h h' k a d o es ep hk hd ho hs
  refine hk.keeps_i prog w λb ob hb hc ⟨it,n,hdat⟩=>?_
  have:b≠d:=by
   rintro rfl
   rw[hd]at hb
   injection hb with e
   subst e
   rw[ho]at hdat
   cases hdat
  rw[hs.2 b this]
  exact hb
 pyHash:=λhu hk h=>qi hu hk h
 eqBool:=λhu hx hy h=>jb hu hx hy h
 quiet:=λhk h=>uz 6 hk h
end
end
section
open PySem PySem.W PyProof.Rows
inductive ac {α β:Type} (R:α->β->Prop):List α->List β->Prop
 |nil:ac R [] []
 |cons {a b x y}:R a b->ac R x y->ac R (a::x) (b::y)
namespace ac
variable{α β:Type} {R R':α->β->Prop}
theorem length{x:List α}{y:List β}(h:ac R x y):x.length=y.length:=by
 induction h with
 |nil=>rfl
 |cons _ _ ih=>simp[ih]
theorem nilE{y:List β}{P:Prop}(h:ac R [] y)(k:y=[]->P):P:=by
 cases h with
 |nil=>exact k rfl
theorem consE{a:α}{x:List α}{y:List β}{P:Prop}(h:ac R (a::x) y)(k:∀b y',y=b::y'->R a b->ac R x y'->P):P:=by
 cases h with
 |cons h1 h2=>exact k _ _ rfl h1 h2
theorem mono{x:List α}{y:List β}(h:ac R x y)(k:∀a b,R a b->R' a b):ac R' x y:=by
 induction h with
 |nil=>exact .nil
 |cons h1 _ ih=>exact .cons (k _ _ h1) ih
theorem app{x x':List α}{y y':List β}(h:ac R x y)(h':ac R x' y'):ac R (x++x') (y++y'):=by
 induction h with
 |nil=>exact h'
 |cons h1 _ ih=>exact .cons h1 ih
theorem drop{x:List α}{y:List β}(h:ac R x y)(n:Nat):ac R (x.drop n) (y.drop n):=by
 induction h generalizing n with
 |nil=>simp;exact .nil
 |cons h1 h2 ih=>
  induction n using Nat.casesOn with
  |zero=>exact .cons h1 h2
  |succ n=>exact ih n
theorem take{x:List α}{y:List β}(h:ac R x y)(n:Nat):ac R (x.take n) (y.take n):=by
 induction h generalizing n with
 |nil=>simp;exact .nil
 |cons h1 h2 ih=>
  induction n using Nat.casesOn with
  |zero=>exact .nil
  |succ n=>exact .cons h1 (ih n)
theorem nth{x:List α}{y:List β}(h:ac R x y){n:Nat}{a:α}(e:Mine.nth x n=some a):∃b,y[n]?=some b/\R a b:=by
 induction h generalizing n with
 |nil=>exact aa e
 |cons h1 h2 ih=>
  induction n using Nat.casesOn with
  |zero=>refine aB e ?_;clear e;intro h1;subst h1;exact⟨_,rfl,h1⟩
  |succ n=>exact ih e
theorem nth_none{x:List α}{y:List β}(h:ac R x y){n:Nat}(e:Mine.nth x n=none):y[n]?=none:=by
 induction h generalizing n with
 |nil=>rfl
 |cons h1 h2 ih=>
  induction n using Nat.casesOn with
  |zero=>exact rT e
  |succ n=>simpa using ih e
end ac
namespace Tr
theorem get_put{t:Tr}{i j:Nat}{o o':SO}(h:(t.put i o).get j=some o'):(j=i/\o'=o)\/(j≠i/\t.get j=some o'):=by
 induction t generalizing i j with
 |nil=>
  unfold put at h;induction hi:Nat.beq i 0 using Bool.casesOn with
  |true=>
   rw[hi]at h;have hi:=Nat.eq_of_beq_eq_true hi;dsimp only at h;unfold get at h;induction hj:Nat.beq j 0 using Bool.casesOn with
   |true=>rw[hj]at h;have hj:=Nat.eq_of_beq_eq_true hj;refine aB h ?_;clear h;intro h1;subst h1;exact .inl ⟨by lia,rfl⟩
   |false=>rw[hj]at h;dsimp only at h;split at h<;>(first|exact aa h|cases h)
  |false=>rw[hi]at h;exact aa h
 |node v l r ihl ihr=>
  unfold put at h;induction hi:Nat.beq i 0 using Bool.casesOn with
  |true=>
   rw[hi]at h;have hi:=Nat.eq_of_beq_eq_true hi;dsimp only at h;unfold get at h;induction hj:Nat.beq j 0 using Bool.casesOn with
   |true=>rw[hj]at h;have hj:=Nat.eq_of_beq_eq_true hj;refine aB h ?_;clear h;intro h1;subst h1;exact .inl ⟨by lia,rfl⟩
   |false=>have hj':=Nat.ne_of_beq_eq_false hj;refine .inr ⟨by lia,?_⟩;unfold get;rw[hj]at h|-;exact h
  |false=>
   have hi':=Nat.ne_of_beq_eq_false hi;rw[hi]at h;dsimp only at h;induction hj:Nat.beq j 0 using Bool.casesOn with
   |true=>have hj':=Nat.eq_of_beq_eq_true hj;refine .inr ⟨by lia,?_⟩;unfold get;rw[hj];induction hb:Nat.beq (i %2) 1 using Bool.casesOn<;>rw[hb]at h<;>dsimp only at h<;>unfold get at h<;>rw[hj]at h<;>exact h
   |false=>
    have hj':=Nat.ne_of_beq_eq_false hj;induction hb:Nat.beq (i %2) 1 using Bool.casesOn with
    |true=>
     have hb':=Nat.eq_of_beq_eq_true hb;rw[hb]at h;dsimp only at h;unfold get at h;rw[hj]at h;dsimp only at h;induction hc:Nat.beq (j %2) 1 using Bool.casesOn with
     |true=>
      have hc':=Nat.eq_of_beq_eq_true hc;rw[hc]at h;dsimp only at h;rcases ihl h with⟨a,b⟩|⟨a,b⟩
      ·exact .inl ⟨by lia,b⟩
      ·refine .inr ⟨by lia,?_⟩;unfold get;rw[hj];dsimp only;rw[hc];exact b
     |false=>have hc':=Nat.ne_of_beq_eq_false hc;rw[hc]at h;dsimp only at h;refine .inr ⟨by rintro rfl;exact hc' hb',?_⟩;unfold get;rw[hj];dsimp only;rw[hc];exact h
    |false=>
     have hb':=Nat.ne_of_beq_eq_false hb;rw[hb]at h;dsimp only at h;unfold get at h;rw[hj]at h;dsimp only at h;induction hc:Nat.beq (j %2) 1 using Bool.casesOn with
     |true=>have hc':=Nat.eq_of_beq_eq_true hc;rw[hc]at h;dsimp only at h;refine .inr ⟨by rintro rfl;exact hb' hc',?_⟩;unfold get;rw[hj];dsimp only;rw[hc];exact h
     |false=>
      have hc':=Nat.ne_of_beq_eq_false hc;rw[hc]at h;dsimp only at h;rcases ihr h with⟨a,b⟩|⟨a,b⟩
      ·exact .inl ⟨by lia,b⟩
      ·refine .inr ⟨by lia,?_⟩;unfold get;rw[hj];dsimp only;rw[hc];exact b
end Tr
theorem Bf:∀{a b:List Nat},lB a b=true↔a=b
 |[],[]=>by simp[lB]
 |[],_::_=>by simp[lB]
 |_::_,[]=>by simp[lB]
 |a::x,b::y=>by
  unfold lB;induction h:Nat.beq a b using Bool.casesOn with
  |true=>have:=Nat.eq_of_beq_eq_true h;subst this;simp[Bf (a:=x) (b:=y)]
  |false=>have:=Nat.ne_of_beq_eq_false h;simp[this]
theorem aI{a b:Str}:cq a b=true↔a=b:=by
 unfold cq;rw[Bf];constructor
 ·intro h;cases a;cases b;simp only[Str.mk.injEq];exact Array.toList_inj.mp h
 ·rintro rfl;rfl
theorem dI{a b:Str}(h:cq a b=false):a≠b:=by rintro rfl;rw[aI.mpr rfl]at h;exact ul h
theorem bl{a b:Int}:d7 a b=true↔a=b:=by
 induction a using Int.casesOn with
 |ofNat m=>
  induction b using Int.casesOn with
  |ofNat n=>unfold d7;rw[Nat.beq_eq];exact⟨λh=>by rw[h],λh=>by injection h⟩
  |negSucc n=>constructor<;>intro h<;>(first|exact ai h|cases h)
 |negSucc m=>
  induction b using Int.casesOn with
  |ofNat n=>constructor<;>intro h<;>(first|exact ai h|cases h)
  |negSucc n=>unfold d7;rw[Nat.beq_eq];exact⟨λh=>by rw[h],λh=>by injection h⟩
theorem on{a b:Int}(h:d7 a b=false):a≠b:=by rintro rfl;rw[bl.mpr rfl]at h;exact ul h
theorem ci(a b:Int):mS a b=decide (a<=b):=by
 induction a using Int.casesOn with
 |ofNat m=>
  induction b using Int.casesOn with
  |ofNat n=>
   show Nat.ble m n=_;induction h:Nat.ble m n using Bool.casesOn with
   |true=>have:=Nat.le_of_ble_eq_true h;symm;rw[decide_eq_true_eq];show(m:Int)<=(n:Int);lia
   |false=>
    have:¬m<=n:=λq=>by rw[Nat.ble_eq_true_of_le q]at h;exact ul h
    symm;rw[decide_eq_false_iff_not];show¬(m:Int)<=(n:Int);lia
  |negSucc n=>symm;show decide ((m:Int)<=Int.negSucc n)=false;rw[decide_eq_false_iff_not];lia
 |negSucc m=>
  induction b using Int.casesOn with
  |ofNat n=>symm;show decide (Int.negSucc m<=(n:Int))=true;rw[decide_eq_true_eq];exact Int.natCast_nonneg _
  |negSucc n=>
   show Nat.ble n m=_;induction h:Nat.ble n m using Bool.casesOn with
   |true=>have:=Nat.le_of_ble_eq_true h;symm;rw[decide_eq_true_eq];lia
   |false=>
    have:¬n<=m:=λq=>by rw[Nat.ble_eq_true_of_le q]at h;exact ul h
    symm;rw[decide_eq_false_iff_not];lia
theorem dY{α:Type}:∀(l:List (Str×α)) (x:Str),bE l x=l.lookup x
 |[]=>by intro _;exact rfl
 |(y,v)::r=>by
  intro x;unfold bE;rw[List.lookup_cons];induction h:cq y x using Bool.casesOn with
  |true=>have:=aI.mp h;subst this;simp
  |false=>
   have:=dI h;have e:(x==y)=false:=by simpa using λq=>this q.symm
   rw[e];exact dY r x
end
section
open PySem PySem.W PyProof.Rows
structure IP where
 nu:Nat->Int
 ol:Nat->List Value
 od:Nat->List (KD×Addr×Value)
 ss:Nat->Str
structure IP.Ok (I:IP):Prop where
 l0:I.ol 0=[]
 d0:I.od 0=[]
 len:∀o,o≠0->I.nu (1000+o)=(I.ol o).length
 small:∀o,(I.ol o).length<=100000
 smallD:∀o,(I.od o).length<=100000
 ss1:∀x,∃c,(I.ss x).cps.toList=[c]
 rg:∀x lo hi,zj x=some (lo,hi)->lo<=I.nu x/\I.nu x<=hi
 ch:∀x,yP x≠[]->∃j∈yP x,I.nu x=((j:Nat):Int)
noncomputable def nz:Bi->Value
 |.len=>.builtin "len"
 |.range=>.type "range"
 |.tuple=>.type "tuple"
 |.str=>.type "str"
 |.list=>.type "list"
structure Gr where
 I:IP
 prog:Program
 w:World
 h0:Heap
 h1:Heap
 K:Frag
section
variable(G:Gr)
noncomputable def VR (J:Nat->Nat) (nx:Nat):SV->Value->Prop
 |.none,v=>v=.none
 |.bool b,v=>v=.bool b
 |.int i,v=>∃t,v=.int i t
 |.sym x k,v=>∃t,v=.int (G.I.nu x+k) t
 |.str s,v=>∃t,v=.str s t
 |.ref n,v=>n<nx/\v=.ref (J n)
 |.top a,v=>v=.ref a
 |.bi b,v=>v=nz b
 |.ss x,v=>∃t,v=.str (G.I.ss x) t
 |.any,v=>handedIn v=true
noncomputable def cp:SV->Int->Prop
 |.int i,j=>j=i
 |.sym x k,j=>j=G.I.nu x+k
 |_,_=>False
noncomputable def eH:SV->Str->Prop
 |.str s,u=>u=s
 |.ss x,u=>u=G.I.ss x
 |_,_=>False
noncomputable def cP:SV->KA->Prop
 |.int i,k=>k=.i i
 |.sym x n,k=>k=.i (G.I.nu x+n)
 |.str s,k=>k=.s s
 |.ss x,k=>k=.s (G.I.ss x)
 |_,_=>False
noncomputable def Dp:SK1->KI->Prop
 |.a v,k=>∃q,k=.a q/\cP G v q
 |.t vs,k=>∃qs,k=.t qs/\ac (cP G) vs qs
noncomputable def KR (k:SK) (kd:KD):Prop:=ac (Dp G) k kd
noncomputable def bO (xs:List (KD×Addr×Value)):List (KD×Addr×Value)->List (KD×Addr×Value)
 |[]=>xs
 |(k,a,v)::r=>bO (storedH xs k a v) r
noncomputable def jG (h:Heap) (a:Addr) (items:Array Value):Prop:=∃o,h.get? a=some o/\o.cls=.type "list"/\o.dict=none/\∃n,o.data=.seq items n
theorem jG.isList{h:Heap}{a:Addr}{items:Array Value}(x:jG h a items):h.IsList a items:=let⟨o,a,b,_,c⟩:=x;⟨o,a,b,c⟩
noncomputable def OR (J:Nat->Nat) (nx:Nat) (h:Heap) (a:Nat):SO->Prop
 |.inst C d=>d<nx/\h.get? a=some (instObj C (J d))
 |.sd es=>∃kvs,h.DictOf (strKind G.prog G.w) a kvs/\ac (λ(x:Str×SV) (y:Str×Value)=>x.1=y.1/\VR G J nx x.2 y.2) es kvs
 |.idt es=>∃kvs,h.DictOf (intKind G.prog G.w) a kvs/\ac (λ(x:SV×SV) (y:Int×Value)=>cp G x.1 y.1/\VR G J nx x.2 y.2) es kvs
 |.hd o es=>∃xs,(h.DictOfH (ay G.prog G.w) a (bO (G.I.od o) xs)/\(xs.map (·.1)).Nodup)/\ac (λ(x:SK×SV) (y:KD×Addr×Value)=>KR G x.1 y.1/\VR G J nx x.2 y.2.2) es xs
 |.tup vs=>∃items,(h.IsTuple a items/\items.size<=200000)/\ac (VR G J nx) vs items.toList
 |.lst o vs=>∃items ys,(jG h a items/\items.size<=200000)/\items.toList=G.I.ol o++ys/\ac (VR G J nx) vs ys
 |.cell v=>∃ov,h.IsCell a ov/\(match v,ov with
  |some v,some val=>VR G J nx v val
  |some _,none=>False
  |none,ov=>ov=none)
 |.rng hi=>(-100000<=hi/\hi<=100000)/\∃t u v,PySem.IsRange h a 0 hi 1 t u v
 |.tab o es vs=>∃items ys,(jG h a items/\items.size<=200000)/\(items.toList=G.I.ol o++ys/\o≠0)/\ac (VR G J nx) vs ys/\∀x∈es,∃(i:Nat) (val:Value),cp G x.1 i/\(G.I.ol o)[i]?=some val/\VR G J nx x.2 val
 |.ks es=>∃kvs,h.DictOf (strKind G.prog G.w) a kvs/\∀x∈es,∃k val,eH G x.1 k/\valueAt kvs k=some val/\VR G J nx x.2 val
 |.ki es=>∃kvs,h.DictOf (intKind G.prog G.w) a kvs/\∀x∈es,∃k val,cp G x.1 k/\valueAt kvs k=some val/\VR G J nx x.2 val
end
noncomputable def aq (h h':Heap):Prop:=∀a o,h.get? a=some o->o.cls=.type "tuple"->(∃it n,o.data=.seq it n)->h'.get? a=some o
theorem aq.trans{h₁ h₂ h₃:Heap}(x:aq h₁ h₂)(y:aq h₂ h₃):aq h₁ h₃:=λa o e c d=>y a o (x a o e c d) c d
theorem aq.refl(h:Heap):aq h h:=λ_ _ e _ _=>e
section
variable{G:Gr}
theorem VR.mono{J J':Nat->Nat}{nx nx':Nat}{v:SV}{x:Value}(h:VR G J nx v x)(e:∀n,n<nx->J' n=J n)(l:nx<=nx'):VR G J' nx' v x:=by
 induction v using SV.casesOn<;>first|exact h|skip
 refine xA h ?_;clear h;intro a b;exact⟨by exact Nat.lt_of_lt_of_le ‹_› ‹_›,by rw[b,e _ a]⟩
theorem VRs.mono{J J':Nat->Nat}{nx nx':Nat}{v:List SV}{x:List Value}(h:ac (VR G J nx) v x)(e:∀n,n<nx->J' n=J n)(l:nx<=nx'):ac (VR G J' nx') v x:=ac.mono h λ_ _ q=>VR.mono q e l
theorem OR.mono{J J':Nat->Nat}{nx nx':Nat}{h h':Heap}{a:Nat}{o:SO}(x:OR G J nx h a o)(e:∀n,n<nx->J' n=J n)(l:nx<=nx')(ka:∀ob,h.get? a=some ob->h'.get? a=some ob)(kt:aq h h'):OR G J' nx' h' a o:=by
 induction o using SO.casesOn with
 |inst C d=>obtain⟨a1,b⟩:=x;exact⟨by exact Nat.lt_of_lt_of_le ‹_› ‹_›,by rw[e d a1];exact ka _ b⟩
 |sd es=>refine an x ?_;clear x;intro kvs q1' b;obtain⟨ob,en,ep,h1,h2⟩:=q1';exact⟨kvs,⟨ob,en,ep,ka _ h1,h2⟩,b.mono λ_ _ q=>⟨q.1,q.2.mono e l⟩⟩
 |idt es=>refine an x ?_;clear x;intro kvs q1' b;obtain⟨ob,en,ep,h1,h2⟩:=q1';exact⟨kvs,⟨ob,en,ep,ka _ h1,h2⟩,b.mono λ_ _ q=>⟨q.1,q.2.mono e l⟩⟩
 |hd o es=>refine an x ?_;clear x;intro xs q1' b;obtain⟨⟨ob,en,ep,h1,h2,h3,h4,h5,h6⟩,nd⟩:=q1';exact⟨xs,⟨⟨ob,en,ep,ka _ h1,h2,h3,h4,λx hx=>(h5 x hx).keeps_i G.prog G.w kt,h6⟩,nd⟩,b.mono λ_ _ q=>⟨q.1,q.2.mono e l⟩⟩
 |tup vs=>refine an x ?_;clear x;intro items q1' b;obtain⟨⟨ob,h1,h2⟩,z⟩:=q1';exact⟨items,⟨⟨ob,ka _ h1,h2⟩,z⟩,VRs.mono b e l⟩
 |lst o vs=>refine ap x ?_;clear x;intro items ys q1' c b;obtain⟨⟨ob,h1,h2⟩,z⟩:=q1';exact⟨items,ys,⟨⟨ob,ka _ h1,h2⟩,z⟩,c,VRs.mono b e l⟩
 |cell v=>
  refine an x ?_;clear x;intro ov q1' b;obtain⟨ob,h1,h2⟩:=q1';refine⟨ov,⟨ob,ka _ h1,h2⟩,?_⟩;induction v using Option.casesOn with
  |none=>exact b
  |some v=>
   induction ov using Option.casesOn with
   |none=>exact b
   |some val=>exact VR.mono b e l
 |rng hi=>obtain⟨z,t,u,v,h1⟩:=x;exact⟨z,t,u,v,ka _ h1⟩
 |tab o es vs=>refine gd x ?_;clear x;intro items ys q1' c b f;obtain⟨⟨ob,h1,h2⟩,z⟩:=q1';exact⟨items,ys,⟨⟨ob,ka _ h1,h2⟩,z⟩,c,VRs.mono b e l,λy hy=>by obtain⟨i,val,a1,a2,a3⟩:=f y hy;exact⟨i,val,a1,a2,a3.mono e l⟩⟩
 |ks es=>refine an x ?_;clear x;intro kvs q1' f;obtain⟨ob,en,ep,h1,h2⟩:=q1';exact⟨kvs,⟨ob,en,ep,ka _ h1,h2⟩,λy hy=>by obtain⟨i,val,a1,a2,a3⟩:=f y hy;exact⟨i,val,a1,a2,a3.mono e l⟩⟩
 |ki es=>refine an x ?_;clear x;intro kvs q1' f;obtain⟨ob,en,ep,h1,h2⟩:=q1';exact⟨kvs,⟨ob,en,ep,ka _ h1,h2⟩,λy hy=>by obtain⟨i,val,a1,a2,a3⟩:=f y hy;exact⟨i,val,a1,a2,a3.mono e l⟩⟩
variable(G)
structure Hp (J:Nat->Nat) (S:St) (h:Heap):Prop where
 obj:∀n o,n<S.next->S.hp.get n=some o->OR G J S.next h (J n) o
 lv:∀n,n<S.next->∃o,h.get? (J n)=some o
 inj:∀m n,m<S.next->n<S.next->J m=J n->m=n
 off:∀n,n<S.next->G.h0.get? (J n)=none
 base:∀a o,G.h0.get? a=some o->h.get? a=some o
 tk:aq G.h1 h
structure Lc (J:Nat->Nat) (S:St) (h:Heap) (L:Nat):Prop where
 ns:∃m,h.Ns L m/\∀x v,bE S.loc x=some v->∃val,m x=some val/\VR G J S.next v val
 off:G.h0.get? L=none
 ne:∀n,n<S.next->J n≠L
structure SR (J:Nat->Nat) (S:St) (s:Shared) (L:Nat):Prop where
 hp:Hp G J S s.heap
 lc:Lc G J S s.heap L
end
structure cT (X:Nat->Prop) (J:Nat->Nat) (S:St) (s:Shared) (J':Nat->Nat) (S':St) (s':Shared):Prop where
 le:S.next<=S'.next
 ext:∀n,n<S.next->J' n=J n
 alive:∀a o,s.heap.get? a=some o->∃o',s'.heap.get? a=some o'
 fresh:∀n,S.next<=n->n<S'.next->s.heap.get? (J' n)=none
 keep:∀a o,s.heap.get? a=some o->¬X a->(∀n,n<S.next->J n≠a)->s'.heap.get? a=some o
 tup:aq s.heap s'.heap
 gens:s'.gens=s.gens
 drawn:s'.drawn=s.drawn
 os:s'.os=s.os
theorem af{h:Heap}{a b:Nat}{o:Obj}(e:h.get? a=some o)(f:h.get? b=none):a≠b:=by rintro rfl;rw[e]at f;exact rT f
theorem cT.refl{X:Nat->Prop}{J:Nat->Nat}{S:St}{s:Shared}:cT X J S s J S s:=
 ⟨Nat.le_refl _,λ_ _=>rfl,λ_ o e=>⟨o,e⟩,λn a b=>by exact(aO ‹_› ‹_›).elim,λ_ _ e _ _=>e,.refl _,rfl,rfl,rfl⟩
theorem cT.trans{X:Nat->Prop}{J J' J'':Nat->Nat}{S S' S'':St}{s s' s'':Shared}(x:cT X J S s J' S' s')(y:cT X J' S' s' J'' S'' s''):cT X J S s J'' S'' s'' where
 le:=Nat.le_trans x.le y.le
 ext n hn:=by rw[y.ext n (Nat.lt_of_lt_of_le hn x.le),x.ext n hn]
 alive a o e:=by obtain⟨o',e'⟩:=x.alive a o e;exact y.alive a o' e'
 fresh n h1 h2:=by
  by_cases h:n<S'.next
  ·rw[y.ext n h];exact x.fresh n h1 h
  ·have f:=y.fresh n (by exact Nat.not_lt.mp ‹_›) h2
   induction c:s.heap.get? (J'' n)using Option.casesOn with
   |none=>rfl
   |some o=>obtain⟨o',e'⟩:=x.alive _ o c;rw[e']at f;exact rT f
 keep a o e hL hn:=by
  refine y.keep a o (x.keep a o e hL hn) hL λn hn'=>?_
  by_cases h:n<S.next
  ·rw[x.ext n h];exact hn n h
  ·exact(af e (x.fresh n (by exact Nat.not_lt.mp ‹_›) hn')).symm
 tup:=x.tup.trans y.tup
 gens:=y.gens.trans x.gens
 drawn:=y.drawn.trans x.drawn
 os:=y.os.trans x.os
theorem cT.cong{X:Nat->Prop}{J J':Nat->Nat}{S S' T T':St}{s s':Shared}(x:cT X J S s J' S' s')(e:T.next=S.next)(e':T'.next=S'.next):cT X J T s J' T' s':=by obtain⟨a,b,c,d,f,g,i,j,k⟩:=x;exact⟨by lia,λn h=>b n (by exact aE ‹_› ‹_›),c,λn h1 h2=>d n (by exact aR ‹_› ‹_›) (by exact aE ‹_› ‹_›),λa o h1 h2 h3=>f a o h1 h2 λn hn=>h3 n (by exact aF ‹_› ‹_›),g,i,j,k⟩
theorem cT.sub{X X':Nat->Prop}{J J':Nat->Nat}{S S':St}{s s':Shared}(x:cT X' J S s J' S' s')(h:∀a,X' a->X a\/s.heap.get? a=none):cT X J S s J' S' s':=by obtain⟨a,b,c,d,f,g,i,j,k⟩:=x;exact⟨a,b,c,d,λa o h1 h2 h3=>f a o h1 (λq=>(h a q).elim h2 λq=>af h1 q rfl) h3,g,i,j,k⟩
theorem aQ{h:Heap}:h.get? h.objs.size=none:=Heap.get?_none_of_le (Nat.le_refl _)
section
variable{G:Gr} {J J':Nat->Nat} {S S':St} {s s':Shared} {L:Nat} {X:Nat->Prop}
theorem Hp.cong{h:Heap}{T:St}(x:Hp G J S h)(e:T.next=S.next)(e':T.hp=S.hp):Hp G J T h:=by
 obtain⟨a,b,c,d,f,tk⟩:=x;constructor
 ·rw[e,e'];exact a
 ·rw[e];exact b
 ·rw[e];exact c
 ·rw[e];exact d
 ·exact f
 ·exact tk
theorem Lc.cong{h:Heap}{T:St}(x:Lc G J S h L)(e:T.next=S.next)(e':T.loc=S.loc):Lc G J T h L:=by
 obtain⟨a,b,c⟩:=x;constructor
 ·rw[e,e'];exact a
 ·exact b
 ·rw[e];exact c
theorem Lc.after{h h':Heap}(x:Lc G J S h L)(le:S.next<=S'.next)(ext:∀n,n<S.next->J' n=J n)(fresh:∀n,S.next<=n->n<S'.next->h.get? (J' n)=none)(k:∀o,h.get? L=some o->h'.get? L=some o)(e:S'.loc=S.loc):Lc G J' S' h' L:=by
 obtain⟨⟨m,hm,hv⟩,b,c⟩:=x;refine pS hm ?_;clear hm;intro o es ep ho r;refine⟨⟨m,⟨o,es,ep,k _ ho,r⟩,?_⟩,b,?_⟩
 ·intro x v hx;rw[e]at hx;refine an (hv x v hx) ?_;intro val h1 h2;exact⟨val,h1,h2.mono ext le⟩
 ·intro n hn;by_cases h:n<S.next
  ·rw[ext n h];exact c n h
  ·exact(af ho (fresh n (by exact Nat.not_lt.mp ‹_›) hn)).symm
theorem SR.grow{h':Heap}{tk:Nat}(x:SR G J S s L)(k:∀a o,s.heap.get? a=some o->h'.get? a=some o):SR G J S {s with heap:=h',toks:=tk} L/\cT X J S s J S {s with heap:=h',toks:=tk}:=by
 obtain⟨⟨a,b,c,d,f,tk⟩,l⟩:=x
 refine⟨⟨⟨λn o hn ho=>(a n o hn ho).mono (λ_ _=>rfl) (Nat.le_refl _) (k _) (λa o e _ _=>k a o e),λn hn=>by obtain⟨o,e⟩:=b n hn;exact⟨o,k _ o e⟩,c,d,λa o e=>k a o (f a o e),tk.trans λa o e _ _=>k a o e⟩,
  l.after (Nat.le_refl _) (λ_ _=>rfl) (λn h1 h2=>by exact(aO ‹_› ‹_›).elim) (k _) rfl⟩,
  ⟨Nat.le_refl _,λ_ _=>rfl,λa o e=>⟨o,k a o e⟩,λn h1 h2=>by exact(aO ‹_› ‹_›).elim,λa o e _ _=>k a o e,λa o e _ _=>k a o e,rfl,rfl,rfl⟩⟩
theorem SR.tok{tk:Nat}(x:SR G J S s L):SR G J S {s with toks:=tk} L/\cT X J S s J S {s with toks:=tk}:=x.grow (h':=s.heap) (λ_ _ e=>e)
noncomputable def dH (J:Nat->Nat) (n:Nat) (a:Nat):Nat->Nat:=λm=>if m=n then a else J m
theorem aA{J:Nat->Nat}{n m:Nat}{a:Nat}(h:m<n):dH J n a m=J m:=by unfold dH;rw[if_neg (by exact Nat.ne_of_lt ‹_›)]
theorem aV{J:Nat->Nat}{n:Nat}{a:Nat}:dH J n a n=a:=by unfold dH;rw[if_pos rfl]
theorem OR.alive{nx:Nat}{h:Heap}{a:Nat}{o:SO}(x:OR G J nx h a o):∃ob,h.get? a=some ob:=by
 induction o using SO.casesOn with
 |inst C d=>exact⟨_,x.2⟩
 |sd es=>obtain⟨kvs,⟨ob,en,ep,h1,h2⟩,b⟩:=x;exact⟨_,h1⟩
 |idt es=>obtain⟨kvs,⟨ob,en,ep,h1,h2⟩,b⟩:=x;exact⟨_,h1⟩
 |hd o es=>obtain⟨xs,⟨⟨ob,en,ep,h1,h2⟩,nd⟩,b⟩:=x;exact⟨_,h1⟩
 |tup vs=>obtain⟨items,⟨⟨ob,h1,h2⟩,z⟩,b⟩:=x;exact⟨_,h1⟩
 |lst o vs=>obtain⟨items,ys,⟨⟨ob,h1,h2⟩,z⟩,c,b⟩:=x;exact⟨_,h1⟩
 |cell v=>obtain⟨ov,⟨ob,h1,h2⟩,b⟩:=x;exact⟨_,h1⟩
 |rng hi=>obtain⟨z,t,u,v,h1⟩:=x;exact⟨_,h1⟩
 |tab o es vs=>obtain⟨items,ys,⟨⟨ob,h1,h2⟩,z⟩,_⟩:=x;exact⟨_,h1⟩
 |ks es=>obtain⟨kvs,⟨ob,en,ep,h1,h2⟩,b⟩:=x;exact⟨_,h1⟩
 |ki es=>obtain⟨kvs,⟨ob,en,ep,h1,h2⟩,b⟩:=x;exact⟨_,h1⟩
theorem SR.alloc{h':Heap}{tk:Nat}{o:SO}{a:Nat}(x:SR G J S s L)(k:∀b ob,s.heap.get? b=some ob->h'.get? b=some ob)(ha:s.heap.get? a=none)(ho:OR G (dH J S.next a) (S.next+1) h' a o):SR G (dH J S.next a) (S.new o).2 {s with heap:=h',toks:=tk} L/\cT X J S s (dH J S.next a) (S.new o).2 {s with heap:=h',toks:=tk}/\VR G (dH J S.next a) (S.new o).2.next (S.new o).1 (.ref a):=by
 obtain⟨⟨x1,x2,x3,x4,x5,x6⟩,l⟩:=x
 have fr:∀n,S.next<=n->n<S.next+1->s.heap.get? (dH J S.next a n)=none:=λn h1 h2=>by
  have:n=S.next:=by lia
  subst this;rw[aV];exact ha
 refine⟨⟨⟨?_,?_,?_,?_,λa o e=>k a o (x5 a o e),x6.trans λa o e _ _=>k a o e⟩,l.after (S':=(S.new o).2) (Nat.le_succ _) (λn hn=>aA hn) fr (k _) rfl⟩,⟨Nat.le_succ _,λn hn=>aA hn,λa o e=>⟨o,k a o e⟩,fr,λa o e _ _=>k a o e,λa o e _ _=>k a o e,rfl,rfl,rfl⟩,?_⟩
 ·intro n ob hn hob;show OR G _ (S.next+1) h' _ _;rcases Tr.get_put hob with⟨rfl,rfl⟩|⟨h1,h2⟩
  ·rw[aV];exact ho
  ·have hn':n<S.next+1:=hn;have h3:n<S.next:=by exact aN ‹_› ‹_›
   rw[aA h3];exact(x1 n ob h3 h2).mono (λm hm=>aA hm) (Nat.le_succ _) (k _) λa o e _ _=>k a o e
 ·intro n hn;have hn':n<S.next+1:=hn;show∃ob,h'.get? (dH J S.next a n)=some ob;by_cases h:n=S.next
  ·subst h;rw[aV];exact ho.alive
  ·have h3:n<S.next:=by exact aN ‹_› ‹_›
   rw[aA h3];refine xE (x2 n h3) ?_;intro ob e;exact⟨ob,k _ _ e⟩
 ·intro m n hm hn e;have hm':m<S.next+1:=hm;have hn':n<S.next+1:=hn;by_cases h:m=S.next
  ·by_cases h':n=S.next
   ·lia
   ·have h3:n<S.next:=by exact aN ‹_› ‹_›
    subst h;rw[aV,aA h3]at e;refine xE (x2 n h3) ?_;intro ob e';exact absurd e.symm (af e' ha)
  ·have h4:m<S.next:=by exact aN ‹_› ‹_›
   by_cases h':n=S.next
   ·subst h';rw[aV,aA h4]at e;refine xE (x2 m h4) ?_;intro ob e';exact absurd e (af e' ha)
   ·have h3:n<S.next:=by exact aN ‹_› ‹_›
    rw[aA h3,aA h4]at e;exact x3 m n h4 h3 e
 ·intro n hn;have hn':n<S.next+1:=hn;by_cases h:n=S.next
  ·subst h;rw[aV];induction c:G.h0.get? a using Option.casesOn with
   |none=>rfl
   |some ob=>have:=x5 a ob c;rw[ha]at this;exact aa this
  ·have h3:n<S.next:=by exact aN ‹_› ‹_›
   rw[aA h3];exact x4 n h3
 ·exact⟨Nat.lt_succ_self _,by show Value.ref a=.ref (dH J S.next a S.next);rw[aV]⟩
theorem SR.set{h':Heap}{tk:Nat}{o:SO}{n:Nat}(x:SR G J S s L)(hn:n<S.next)(hs:Heap.SameBut (J n) s.heap h')(hnt:∀ob,s.heap.get? (J n)=some ob->ob.cls=.type "tuple"->(∃it n,ob.data=.seq it n)->False)(ho:OR G J S.next h' (J n) o):SR G J (S.set n o) {s with heap:=h',toks:=tk} L/\cT X J S s J (S.set n o) {s with heap:=h',toks:=tk}:=by
 obtain⟨⟨x1,x2,x3,x4,x5,x6⟩,l⟩:=x;have k:∀b ob,b≠J n->s.heap.get? b=some ob->h'.get? b=some ob:=λb ob hb e=>by rw[hs.2 b hb];exact e
 have kt:aq s.heap h':=λa ob e c d=>by
  by_cases ha:a=J n
  ·subst ha;exact(hnt ob e c d).elim
  ·exact k a ob ha e
 have al:∀b ob,s.heap.get? b=some ob->∃ob',h'.get? b=some ob':=λb ob e=>by
  by_cases hb:b=J n
  ·subst hb;exact ho.alive
  ·exact⟨ob,k b ob hb e⟩
 refine⟨⟨⟨?_,?_,x3,x4,?_,x6.trans kt⟩,l.after (S':=S.set n o) (Nat.le_refl _) (λ_ _=>rfl) (λm h1 h2=>by exact absurd h2 (Nat.not_lt.mpr h1)) (λob e=>k _ ob (λq=>l.ne n hn q.symm) e) rfl⟩,⟨Nat.le_refl _,λ_ _=>rfl,al,λm h1 h2=>by exact absurd h2 (Nat.not_lt.mpr h1),λa ob e hL hN=>k a ob (λq=>hN n hn q.symm) e,kt,rfl,rfl,rfl⟩⟩
 ·intro m ob hm hob;show OR G _ S.next h' _ _;rcases Tr.get_put hob with⟨rfl,rfl⟩|⟨h1,h2⟩
  ·exact ho
  ·exact(x1 m ob hm h2).mono (λ_ _=>rfl) (Nat.le_refl _) (λob e=>k _ ob (λq=>h1 (x3 m n hm hn q)) e) kt
 ·intro m hm;show∃ob,h'.get? (J m)=some ob;refine xE (x2 m hm) ?_;intro ob e;exact al _ _ e
 ·intro a ob e;refine k a ob ?_ (x5 a ob e);exact af e (x4 n hn)
theorem SR.loc{h':Heap}{tk:Nat}{m':Str->Option Value}{loc':List (Str×SV)}(x:SR G J S s L)(hm:h'.Ns L m')(hs:Heap.SameBut L s.heap h')(hnt:∀ob,s.heap.get? L=some ob->ob.cls=.type "tuple"->(∃it n,ob.data=.seq it n)->False)(hv:∀x v,bE loc' x=some v->∃val,m' x=some val/\VR G J S.next v val)(hX:X L):SR G J {S with loc:=loc'} {s with heap:=h',toks:=tk} L/\cT X J S s J {S with loc:=loc'} {s with heap:=h',toks:=tk}:=by
 obtain⟨⟨x1,x2,x3,x4,x5,x6⟩,l⟩:=x;have k:∀b ob,b≠L->s.heap.get? b=some ob->h'.get? b=some ob:=λb ob hb e=>by rw[hs.2 b hb];exact e
 have kt:aq s.heap h':=λa ob e c d=>by
  by_cases ha:a=L
  ·subst ha;exact(hnt ob e c d).elim
  ·exact k a ob ha e
 have al:∀b ob,s.heap.get? b=some ob->∃ob',h'.get? b=some ob':=λb ob e=>by
  by_cases hb:b=L
  ·subst hb;obtain⟨o,_,_,h1,_⟩:=hm;exact⟨o,h1⟩
  ·exact⟨ob,k b ob hb e⟩
 refine⟨⟨⟨λn o hn ho=>(x1 n o hn ho).mono (λ_ _=>rfl) (Nat.le_refl _) (λob e=>k _ ob (l.ne n hn) e) kt,λn hn=>by obtain⟨ob,e⟩:=x2 n hn;exact al _ _ e,x3,x4,λa o e=>k a o (af e l.off) (x5 a o e),x6.trans kt⟩,⟨⟨m',hm,hv⟩,l.off,l.ne⟩⟩,
  ⟨Nat.le_refl _,λ_ _=>rfl,al,λm h1 h2=>by exact absurd h2 (Nat.not_lt.mpr h1),λa o e hL _=>k a o (λq=>hL (q▸hX)) e,kt,rfl,rfl,rfl⟩⟩
end
end
section
open PySem PySem.W PyProof.Rows
structure Rm (d:Nat) (A:Around):Prop where
 handled:A.handled=none
 depth:A.depth+3*d+10<recursionLimit
 units:A.units+12*d+60<cLine
structure ag (ae:Env) (fc:FC) (J:Nat->Nat) (nx:Nat) (L:Nat):Prop where
 kind:ae.scope.kind=.function
 names:ae.scope.names=fc.names
 loc:ae.locals=L
 glob:ae.globals=mainGlobals
 bi:ae.builtins=builtinsNs
 cells:∀x n,bE fc.cells x=some n->n<nx/\ae.cells.lookup x=some (J n)
theorem ag.after{ae:Env}{fc:FC}{J J':Nat->Nat}{nx nx' L:Nat}(x:ag ae fc J nx L)(e:∀n,n<nx->J' n=J n)(l:nx<=nx'):ag ae fc J' nx' L:=
 ⟨x.kind,x.names,x.loc,x.glob,x.bi,λy n h=>by obtain⟨a,b⟩:=x.cells y n h;exact⟨by exact Nat.lt_of_lt_of_le ‹_› ‹_›,by rw[b,e n a]⟩⟩
theorem ag.kindOf{ae:Env}{fc:FC}{J:Nat->Nat}{nx L:Nat}(x:ag ae fc J nx L){y:Str}{k:NameKind}(h:bE fc.names y=some k):ae.kindOf y=some k:=by unfold Env.kindOf;rw[x.names,<-dY];exact h
structure ED (G:Gr) (a:Addr) (f:FuncData):Prop where
 obj:∃o,G.h0.get? a=some o/\o.data=.func f
 co:f.scope.isCoroutine=false
 kind:f.scope.kind=.function
 clos:f.closure=[]
 glob:f.globals=mainGlobals
 bi:f.builtins=builtinsNs
 cd:G.h0.CodeRec f.code f.qualname
 dflt:f.defaults=.none
 nodup:(f.params.args.map (·.arg)).Nodup
 keep:keepIn G.K (.ref a)=true
structure Gd (G:Gr) (X:Cx):Prop where
 ok:G.I.Ok
 g:G.h0.Ns mainGlobals (G.h0.nsMap mainGlobals)
 b:G.h0.Ns builtinsNs (G.h0.nsMap builtinsNs)
 lim:G.h0.NoLimit
 nodig:G.h0.NoDigits
 gl:∀x v,X.gl x=some v->∃val,(∀J nx,VR G J nx v val)/\(G.h0.nsMap mainGlobals x=some val\/(G.h0.nsMap mainGlobals x=none/\G.h0.nsMap builtinsNs x=some val))
 big:∃o,G.h0.get? sysModules=some o
 kin:G.K.In G.h0
 own:∀C a,X.own C a=true->plainGet G.K C a=true/\hasDictIn G.K C=true/\(∃at_,findIn G.K (.ref C) a=some at_/\noGet G.K at_=true)/\
  findIn G.K (.ref C) "__setattr__"=some (some (.builtin "object.__setattr__"))/\plainOver G.K C=true/\takerIn G.K C a=some none
 meth:∀C a f,X.meth C a=some f->plainGet G.K C a=true/\findIn G.K (.ref C) a=some (some (.ref f))/\typeIn G.K (.ref f)=some (.type "function")/\keepIn G.K (.ref f)=true
 cls:∀C,X.cls C=true->makesIn G.K C=true/\keepIn G.K (.ref C)=true
 fn:∀a f,X.fn a=some f->ED G a f
 td:∀a es,X.tdict a=some es->(a==sysModules)=false/\
  ((∃kvs,G.h0.DictOf (strKind G.prog G.w) a kvs/\ac (λ(x:SV×SV) (y:Str×Value)=>x.1=.str y.1/\∀J nx,VR G J nx x.2 y.2) es kvs)\/
   (∃kvs,G.h0.DictOf (intKind G.prog G.w) a kvs/\ac (λ(x:SV×SV) (y:Int×Value)=>x.1=.int y.1/\∀J nx,VR G J nx x.2 y.2) es kvs))
 dq:∀o sk r kd,m8 o sk X.dq=some r->KR G sk kd->(match r with
  |none=>atKey (G.I.od o) kd=none
  |some v=>∃p,atKey (G.I.od o) kd=some p/\∀J nx,VR G J nx v p.2)
 din:∀o sk b kd,gY o sk X.din=some b->KR G sk kd->(atKey (G.I.od o) kd).isSome=b
 inq:∀o sk b kd,gY o sk X.inq=some b->KR G sk kd->(∀v∈G.I.ol o,∃a kd',v=.ref a/\cI (ak G.prog G.w) G.h1 kd' a)/\
  (b=true↔∃v∈G.I.ol o,∃a,v=.ref a/\cI (ak G.prog G.w) G.h1 kd a)
section
variable(G:Gr)
noncomputable def aj (X:Nat->Prop) (L:Nat) (J:Nat->Nat) (S:St) (s:Shared) (v:SV) (S':St) (Q:Value->Shared->Prop):Prop:=∀J' val s',cT X J S s J' S' s'->SR G J' S' s' L->VR G J' S'.next v val->Q val s'
noncomputable def cF (X:Nat->Prop) (L:Nat) (J:Nat->Nat) (S:St) (s:Shared) (S':St) (Q:Shared->Prop):Prop:=∀J' s',cT X J S s J' S' s'->SR G J' S' s' L->Q s'
end
section
variable{G:Gr} {J J':Nat->Nat} {S S' S'':St} {s s':Shared} {L:Nat} {X:Nat->Prop} {Cxt:Cx} {A:Around} {E:Value->Shared->Prop} {ae:Env} {fc:FC} {d:Nat}
theorem aj.cast{v u:SV}{Q:Value->Shared->Prop}(h:some (v,S')=some (u,S''))(q:aj G X L J S s u S'' Q):aj G X L J S s v S' Q:=by refine gS h ?_;clear h;intro h1 h2;subst h1;subst h2;exact q
theorem aj.later{v:SV}{Q:Value->Shared->Prop}(p:aj G X L J S s v S'' Q)(x:cT X J S s J' S' s'):aj G X L J' S' s' v S'' Q:=
 λJ'' val s'' a b c=>p J'' val s'' (x.trans a) b c
theorem cF.later{Q:Shared->Prop}(p:cF G X L J S s S'' Q)(x:cT X J S s J' S' s'):cF G X L J' S' s' S'' Q:=
 λJ'' s'' a b=>p J'' s'' (x.trans a) b
theorem aj.now{v:SV}{val:Value}{Q:Value->Shared->Prop}(p:aj G X L J S s v S Q)(x:SR G J S s L)(c:VR G J S.next v val):Q val s:=p J val s .refl x c
theorem aj.tok{v:SV}{val:Value}{tk:Nat}{Q:Value->Shared->Prop}(p:aj G X L J S s v S Q)(x:SR G J S s L)(c:VR G J S.next v val):Q val {s with toks:=tk}:=
 p J val _ (x.tok (X:=X)).2 (x.tok (X:=X)).1 c
theorem SR.named{n:Nat}{o:SO}(x:SR G J S s L)(hn:n<S.next)(e:S.hp.get n=some o):OR G J S.next s.heap (J n) o:=x.hp.obj n o hn e
theorem xl{x:Str}(h:Ch x=true):(x==("__debug__":Str))=false:=by
 induction q:x==("__debug__":Str)using Bool.casesOn with
 |false=>rfl
 |true=>rw[beq_iff_eq]at q;subst q;exact ai h
theorem nY{x:Str}(h:Ch x=true):(x==("__classdict__":Str))=false:=by
 induction q:x==("__classdict__":Str)using Bool.casesOn with
 |false=>rfl
 |true=>rw[beq_iff_eq]at q;subst q;exact ai h
theorem mT(x:Str){v:SV}{Q:Value->Shared->Prop}(D:Gd G Cxt)(e:ag ae fc J S.next L)(r:SR G J S s L)(h:lj Cxt fc S x=some v)(p:aj G X L J S s v S Q):wpAny (model G.prog G.w) A (loadName ae x) Q E s/\(x==("__debug__":Str))=false:=by
 unfold lj at h;refine vN h ?_;clear h;intro hk h;refine⟨?_,xl hk⟩;induction hn:bE fc.names x using Option.casesOn with
 |none=>rw[hn]at h;exact aa h
 |some k=>
 rw[hn]at h;have ek:=e.kindOf hn;induction k using PySem.NameKind.casesOn with
 |«local»=>refine an r.lc.ns ?_;intro m hm hv;refine an (hv x v h) ?_;intro val h1 h2;exact wpAny_loadName_local e.kind ek (e.loc▸hm) h1 (p.now r h2)
 |cell=>
  dsimp only at h;refine bU h ?_;clear h;intro n hc h;refine xA (e.cells x n hc) ?_;intro hlt hce;refine fV h ?_;clear h;intro ov ho h;have o:=r.named hlt ho;subst h;refine an o ?_;clear o;intro ov h1 h2;induction ov using Option.casesOn with
  |none=>exact h2.elim
  |some val=>exact wpAny_loadName_cell e.kind ek hce h1 (p.now r h2)
 |free=>
  dsimp only at h;refine bU h ?_;clear h;intro n hc h;refine xA (e.cells x n hc) ?_;intro hlt hce;refine fV h ?_;clear h;intro ov ho h;have o:=r.named hlt ho;subst h;refine an o ?_;clear o;intro ov h1 h2;induction ov using Option.casesOn with
  |none=>exact h2.elim
  |some val=>exact wpAny_loadName_free e.kind ek hce h1 (p.now r h2) (nY hk)
 |globalExplicit=>exact aa h
 |globalImplicit=>
  refine an (D.gl x v h) ?_;intro val h1 h2;rw[PyProof.Rows.loadName_read e.kind ek];have kg:∀a m,G.h0.Ns a m->s.heap.Ns a m:=λa m q=>q.keeps r.hp.base;rcases h2 with h2|⟨h2,h3⟩
  ·exact Calls.loadGlobal_global (mg:=G.h0.nsMap mainGlobals) (by rw[e.glob];exact kg _ _ D.g) h2 (p.now r (h1 _ _))
  ·exact Calls.loadGlobal_builtin (mg:=G.h0.nsMap mainGlobals) (mb:=G.h0.nsMap builtinsNs) (by rw[e.glob];exact kg _ _ D.g) h2 (by rw[e.bi];exact kg _ _ D.b) h3 (p.now r (h1 _ _))
set_option tactic.hygienic true in
theorem qy{α:Type}{x y:Str}{v:α}:∀{l:List (Str×α)} {u:α},bE (cr l x v) y=some u->(y=x/\u=v)\/(y≠x/\bE l y=some u)
 |[]=>by
  rename_i u;intro h;unfold cr bE at h;induction q:cq x y using Bool.casesOn with
  |true=>rw[q]at h;refine aB h ?_;clear h;intro h1;subst h1;exact .inl ⟨(aI.mp q).symm,rfl⟩
  |false=>rw[q]at h;dsimp only at h;unfold bE at h;exact aa h
 |(z,w)::r=>by
  rename_i u;intro h;unfold cr at h;induction q:cq z x using Bool.casesOn with
  |true=>
   rw[q]at h;dsimp only at h;have:=aI.mp q;subst this;unfold bE at h;induction q2:cq z y using Bool.casesOn with
   |true=>rw[q2]at h;refine aB h ?_;clear h;intro h1;subst h1;exact .inl ⟨(aI.mp q2).symm,rfl⟩
   |false=>rw[q2]at h;dsimp only at h;refine .inr ⟨λt=>dI q2 t.symm,?_⟩;unfold bE;rw[q2];exact h
  |false=>
   rw[q]at h;dsimp only at h;unfold bE at h;induction q2:cq z y using Bool.casesOn with
   |true=>rw[q2]at h;refine aB h ?_;clear h;intro h1;subst h1;refine .inr ⟨λt=>dI q (by rw[aI.mp q2,t]),?_⟩;unfold bE;rw[q2]
   |false=>
    rw[q2]at h;dsimp only at h;rcases qy h with⟨a,b⟩|⟨a,b⟩
    ·exact .inl ⟨a,b⟩
    ·refine .inr ⟨a,?_⟩;unfold bE;rw[q2];exact b
theorem fg{h:Heap}{L:Nat}{m:Str->Option Value}(n:h.Ns L m):∀ob,h.get? L=some ob->ob.cls=.type "tuple"->(∃it n,ob.data=.seq it n)->False:=by refine BC n ?_;clear n;intro o es ep ho hd _;rintro ob e _ ⟨it,n,q⟩;rw[ho]at e;refine aB e ?_;clear e;intro h1;subst h1;rw[hd]at q;cases q
theorem tY{h:Heap}{c:Nat}{v:Option Value}(n:h.IsCell c v):∀ob,h.get? c=some ob->ob.cls=.type "tuple"->(∃it n,ob.data=.seq it n)->False:=by refine an n ?_;clear n;intro o ho hd;rintro ob e _ ⟨it,n,q⟩;rw[ho]at e;refine aB e ?_;clear e;intro h1;subst h1;rw[hd]at q;cases q
theorem gD(x:Str){v:SV}{val:Value}{Q:Unit->Shared->Prop}(e:ag ae fc J S.next L)(r:SR G J S s L)(hX:X L)(hv:VR G J S.next v val)(h:di fc S x v=some S')(p:cF G X L J S s S' (Q ())):wpAny (model G.prog G.w) A (storeName ae x val) Q E s:=by
 unfold di at h;induction hn:bE fc.names x using Option.casesOn with
 |none=>rw[hn]at h;exact aa h
 |some k=>
 rw[hn]at h;have ek:=e.kindOf hn;induction k using PySem.NameKind.casesOn with
 |«local»=>
  dsimp only at h;refine aB h ?_;clear h;intro h1;subst h1;refine an r.lc.ns ?_;intro m hm hl;have el:=e.loc;refine wpAny_storeName_local ek (e.loc▸hm) (λh' hns hsb=>?_) (by rw[e.kind];rfl);rw[el]at hns hsb;have q:=r.loc (X:=X) (h':=h') (tk:=s.toks+1) (loc':=cr S.loc x v) hns hsb (fg hm) (λy u hu=>?_) hX
  ·exact p J _ q.2 q.1
  ·rcases qy hu with⟨rfl,rfl⟩|⟨a,b⟩
   ·exact⟨val,if_pos rfl,hv⟩
   ·refine an (hl y u b) ?_;intro val' h1 h2;exact⟨val',by rw[if_neg a];exact h1,h2⟩
 |cell=>dsimp only at h;refine bU h ?_;clear h;intro n hc h;refine xA (e.cells x n hc) ?_;intro hlt hce;refine fV h ?_;clear h;intro ov ho h;refine aB h ?_;clear h;intro h1;subst h1;refine an (r.named hlt ho) ?_;intro ov h1 h2;refine wpAny_storeName_cell e.kind ek hce h1 (λh' hi hsb=>?_);have q:=r.set (X:=X) (h':=h') (tk:=s.toks) (o:=.cell (some v)) hlt hsb (tY h1) ⟨some val,hi,hv⟩;exact p J _ q.2 q.1
 |_=>(first|exact aa h|cases h)
end
end
open PySem PySem.W PyProof.Rows
variable{G:Gr} {J J' J0:Nat->Nat} {S S' S'' S0:St} {s s' s0:Shared} {L:Nat} {X:Nat->Prop} {Cxt:Cx} {A:Around} {E:Value->Shared->Prop} {ae:Env} {fc:FC} {lv lc:Lv} {w:World} {h h' h0 h1:Heap} {I I':IP} {d:Nat} {ls dn:List Int} {Bd:Nat}
theorem dF{α:Type}{xs:List α}(h:small xs=true):xs.length<=4096:=Nat.le_of_ble_eq_true h
theorem qb(x:Str):((x.length:Int) !=0)=!qc x:=by
 obtain⟨⟨l⟩⟩:=x;induction l using List.casesOn with
 |nil=>rfl
 |cons c r=>show(((c::r).length:Int) !=0)=true;rw[List.length_cons];simp only[bne_iff_ne,ne_eq];omega
theorem aD{α β:Type}{R:α->β->Prop}{y:List β}(h:ac R [] y):y=[]:=by cases h;rfl
theorem au{α β:Type}{R:α->β->Prop}{a:α}{x:List α}{y:List β}(h:ac R (a::x) y):∃b z,y=b::z/\R a b/\ac R x z:=by cases h with|cons h1 h2=>exact⟨_,_,rfl,h1,h2⟩
theorem sg{a:Array Value}(h:a.toList=[]):a.isEmpty=true:=by obtain⟨l⟩:=a;simp only at h;subst h;rfl
theorem qa{a:Array Value}{v:Value}{r:List Value}(h:a.toList=v::r):a.isEmpty=false:=by obtain⟨l⟩:=a;simp only at h;subst h;rfl
set_option tactic.hygienic true in
theorem mC{v:SV}{val:Value}{b:Bool}{Q:Bool->Shared->Prop}(ok:G.I.Ok)(r:SR G J S s L)(hv:VR G J S.next v val)(h:truthy S v=some b)(q:∀tk,Q b {s with toks:=tk}):wpAny (model G.prog G.w) A (PySem.truthy val) Q E s:=by
 have q0:Q b s:=q s.toks;induction v using SV.casesOn with
 |none=>exact aa h
 |bool c=>subst hv;refine aB h ?_;clear h;intro h1;subst h1;exact wpAny_truthy_bool q0
 |int i=>
  refine xE hv ?_;clear hv;intro t q1';subst q1';refine aB h ?_;clear h;intro h1;subst h1;refine truthy_int ?_;have e:(i !=0)=!d7 i 0:=by
   induction c:d7 i 0 using Bool.casesOn with
   |true=>rw[bl.mp c];rfl
   |false=>simp[on c]
  rw[e];exact q0
 |sym x k=>
  refine xE hv ?_;clear hv;intro t q1';subst q1';unfold truthy at h;dsimp only at h;refine h8 h ?_;clear h;intro lo hi e h;refine ab h ?_;clear h;intro c h;refine aB h ?_;clear h;intro h1;subst h1;have c:1<=lo+k:=by
   have:=c;unfold mS at this;split at this<;>rename_i m n e1 e2
   ·have:=Nat.le_of_ble_eq_true this;cases e1;rw[e2];show(1:Int)<=(n:Int);omega
   ·exact ai this
   ·cases e1
   ·cases e1
  have r1:=ok.rg x lo hi e;refine truthy_int ?_;have e:(G.I.nu x+k !=0)=true:=by rw[bne_iff_ne];omega
  rw[e];exact q0
 |ss x=>exact aa h
 |any=>exact aa h
 |str x=>refine xE hv ?_;clear hv;intro t q1';subst q1';unfold truthy at h;dsimp only at h;refine ab h ?_;clear h;intro hl h;refine aB h ?_;clear h;intro h1;subst h1;have hl:x.cps.size<=4096:=Nat.le_of_ble_eq_true hl;exact PySem.W.KXt.truthy (qb x) (Nat.le_trans hl (by decide)) q
 |ref n=>
  refine xA hv ?_;clear hv;intro hn q1';subst q1';unfold truthy at h;dsimp only at h;induction ho:S.hp.get n using Option.casesOn with
  |none=>rw[ho]at h;exact aa h
  |some o=>
  rw[ho]at h;have R:=r.named hn ho;induction o using SO.casesOn with
  |lst o xs=>
   refine ap R ?_;clear R;intro items ys q1' e ha;obtain⟨hl,hz⟩:=q1';refine wpAny_truthy_list hl.isList (by lia) ?_;induction xs using List.casesOn with
   |cons x xs=>
    refine aB h ?_;clear h;intro h1;subst h1;refine ap (au ha) ?_;intro y z q1';subst q1';intro _ _;have:items.isEmpty=false:=by
     induction c:G.I.ol o++y::z using List.casesOn with
     |nil=>simp at c
     |cons a b=>exact qa (e.trans c)
    rw[this];exact q _
   |nil=>dsimp only at h;refine ab h ?_;clear h;intro h0 h;refine aB h ?_;clear h;intro h1;subst h1;have h0:=Nat.eq_of_beq_eq_true h0;subst h0;rw[aD ha,ok.l0]at e;rw[sg e];exact q _
  |_=>(first|exact aa h|cases h)
 |top a=>exact aa h
 |bi b=>exact aa h
theorem zo{v u:SV}{val:Value}{op:UnaryOp}{Q:Value->Shared->Prop}(ok:G.I.Ok)(r:SR G J S s L)(hv:VR G J S.next v val)(h:Dt S op v=some u)(q:aj G X L J S s u S Q):wpAny (model G.prog G.w) A (PySem.unaryOp op val) Q E s:=by
 induction op using PySem.UnaryOp.casesOn with
 |USub=>refine ln h ?_;clear h;intro i e0' h;subst e0';refine aB h ?_;clear h;intro h1;subst h1;refine xE hv ?_;clear hv;intro t q1';subst q1';exact neg_int (q.tok r ⟨_,rfl⟩)
 |Invert=>refine ln h ?_;clear h;intro i e0' h;subst e0';refine aB h ?_;clear h;intro h1;subst h1;refine xE hv ?_;clear hv;intro t q1';subst q1';exact invert_int (q.tok r ⟨s.toks,rfl⟩)
 |_=>(first|exact aa h|cases h)
theorem rO{a b u:SV}{va vb:Value}{op:Operator}{Q:Value->Shared->Prop}(r:SR G J S s L)(ha:VR G J S.next a va)(hb:VR G J S.next b vb)(h:yW op a b=some u)(q:aj G X L J S s u S Q):wpAny (model G.prog G.w) A (PySem.inplaceOp op va vb) Q E s:=by
 refine rn h ?_ ?_<;>clear h
 ·intro e0' h;subst e0';refine rp h ?_;clear h;intro x k j e0' e1' h;subst e0';subst e1';refine aB h ?_;clear h;intro h1;subst h1;refine xE ha ?_;clear ha;intro t q1';subst q1';refine xE hb ?_;clear hb;intro t' q1';subst q1';exact iadd_int (q.tok r ⟨_,by rw[Int.add_assoc]⟩)
 ·intro e0' h;subst e0';refine gw h ?_;clear h;intro i j e0' e1' h;subst e0';subst e1';refine aB h ?_;clear h;intro h1;subst h1;refine xE ha ?_;clear ha;intro t q1';subst q1';refine xE hb ?_;clear hb;intro t' q1';subst q1';exact ior_int (q.tok r ⟨_,rfl⟩)
theorem SR.push{o:SO}{ob:Obj}{tk:Nat}(r:SR G J S s L)(ho:OR G (dH J S.next s.heap.objs.size) (S.next+1) (s.heap.push ob) s.heap.objs.size o):SR G (dH J S.next s.heap.objs.size) (S.new o).2 {s with heap:=s.heap.push ob,toks:=tk} L/\cT X J S s (dH J S.next s.heap.objs.size) (S.new o).2 {s with heap:=s.heap.push ob,toks:=tk}/\VR G (dH J S.next s.heap.objs.size) (S.new o).2.next (S.new o).1 (.ref s.heap.objs.size):=
 r.alloc (λb ob' e=>Heap.get?_push_of_some _ e) aQ ho
theorem VRs.up{vs:List SV}{xs:List Value}{a:Nat}(h:ac (VR G J S.next) vs xs):ac (VR G (dH J S.next a) (S.next+1)) vs xs:=VRs.mono h (λ_ hn=>aA hn) (Nat.le_succ _)
theorem OR.tupNew{vs:List SV}{items:Array Value}(h:ac (VR G J S.next) vs items.toList)(hs:items.size<=200000)(hh:Heap):OR G (dH J S.next hh.objs.size) (S.next+1) (hh.push {cls:=.type "tuple",data:=.seq items}) hh.objs.size (.tup vs):=
 ⟨items,⟨⟨_,Heap.get?_push_size _ rfl,rfl,_,rfl⟩,hs⟩,VRs.up h⟩
theorem OR.lstNew{vs:List SV}{items:Array Value}(ok:G.I.Ok)(h:ac (VR G J S.next) vs items.toList)(hs:items.size<=200000)(hh:Heap):OR G (dH J S.next hh.objs.size) (S.next+1) (hh.push {cls:=.type "list",data:=.seq items}) hh.objs.size (.lst 0 vs):=
 ⟨items,items.toList,⟨⟨_,Heap.get?_push_size _ rfl,rfl,rfl,_,rfl⟩,hs⟩,by rw[ok.l0];rfl,VRs.up h⟩
theorem fB{vs:List SV}{items:Array Value}(h:ac (VR G J S.next) vs items.toList):items.size=vs.length:=by rw[h.length];simp
section
open AutoSeq1 (wpAny_loadPart')
theorem gJ(a:Int)(t:Tok)(l:Addr)(c:Value)(items:Array Value)(n:Nat)(dd:Option Addr)(sl:Array (Option Value)):Meets (Builtin.«int.__rmul__» ⟨[.int a t,.ref l],[]⟩) (λ_ R s=>s.heap.get? l=some {cls:=c,dict:=dd,data:=.seq items n,slots:=sl}/\R (.ok (.ret Value.notImplemented)) s):=
 .of_wp λprog w A R s h=>by obtain⟨hp,g,d,tk,os⟩:=s;obtain⟨hl,h⟩:=h;wp_walk using wpAny_loadPart' hl,wpAny_load hl;exact⟨_,rfl,h⟩
theorem vF(l:Addr)(items:Array Value)(n:Nat)(dd:Option Addr)(sl:Array (Option Value))(x:Int)(u:Tok)(hc0:¬(!Builtin.List.listFitsIndex x)=true)(hc1:¬items.size*x.toNat>(2^63 -1)/8)(hc2:¬Builtin.List.listTooLong (items.size*x.toNat)=true):Meets (Builtin.«list.__mul__» ⟨[.ref l,.int x u],[]⟩) (λ_ R s=>s.heap.get? l=some {cls:=.type "list",dict:=dd,data:=.seq items n,slots:=sl}/\R (.ok (.ret (Value.ref s.heap.objs.size))) {s with heap:=s.heap.push {cls:=Value.type "list",data:=Data.seq (List.foldl (λx1 x2=>x1++x2) #[] (List.replicate (if items.isEmpty=true then 0 else x.toNat) items))},toks:=s.toks}):=
 .of_wp λprog w A R s h=>by
  obtain⟨hp,g,d,tk,os⟩:=s;obtain⟨hl,h⟩:=h
  have hsz:=AutoListH.joined_fits hc2
  have f1:=AutoSeq1.idx_int;have f2:=AutoSeq1.sub_tuple_tuple;have f3:=AutoSeq1.sub_list_list;have f4:=AutoSeq1.sub_tuple_list;have f5:=AutoSeq1.sub_list_tuple
  wp_walk using wpAny_loadPart' hl;refine wpAny_ite_false (decide_eq_false (Nat.not_lt.mpr hsz)) ?_;wp_walk using wpAny_loadPart' hl;exact⟨_,rfl,h⟩
theorem dj:fillsNumberSlot (.type "tuple") "mul"=pure false:=
 PySem.fillsNumberSlot_seq (id:="tuple.__mul__") (r:=some (.builtin "tuple.__rmul__")) PySem.F.slot_tuple_mul.lookup (by decide+kernel) PySem.F.slot_tuple_rmul.lookup (by decide+kernel)
theorem fJ:seqRepeat? (.type "tuple")=pure (some (.builtin "tuple.__mul__")):=by unfold seqRepeat?;rw[PySem.seqSlot_of (T:="tuple") (name:="__mul__") (id:="tuple.__mul__") PySem.F.slot_tuple_mul.lookup (by decide+kernel),PySem.seqSlot_of (T:="tuple") (name:="__rmul__") (id:="tuple.__rmul__") PySem.F.slot_tuple_rmul.lookup (by decide+kernel)];rfl
theorem pX(l:Addr)(items:Array Value)(n:Nat)(dd:Option Addr)(sl:Array (Option Value))(u:Tok):Meets (Builtin.«tuple.__mul__» ⟨[.ref l,.int 1 u],[]⟩) (λ_ R s=>s.heap.get? l=some {cls:=.type "tuple",dict:=dd,data:=.seq items n,slots:=sl}/\R (.ok (.ret (Value.ref l))) s):=
 .of_wp λprog w A R s h=>by
  obtain⟨hp,g,d,tk,os⟩:=s;obtain⟨hl,h⟩:=h
  have f1:=AutoSeq1.idx_int;have f2:=AutoSeq1.sub_tuple_tuple;have f3:=AutoSeq1.sub_list_list;have f4:=AutoSeq1.sub_tuple_list;have f5:=AutoSeq1.sub_list_tuple
  have hc:(items.isEmpty||(1:Int)==1)=true:=by simp
  have hn:¬((decide ((1:Int)< -(2^63))||decide ((1:Int)>=2^63))=true):=by decide
  wp_walk using wpAny_loadPart' hl;exact⟨_,rfl,h⟩
theorem pY(l:Addr)(items:Array Value)(n:Nat)(dd:Option Addr)(sl:Array (Option Value))(u:Tok)(he:items.isEmpty=false):Meets (Builtin.«tuple.__mul__» ⟨[.ref l,.int 0 u],[]⟩) (λ_ R s=>s.heap.get? l=some {cls:=.type "tuple",dict:=dd,data:=.seq items n,slots:=sl}/\R (.ok (.ret (Value.ref s.heap.objs.size))) {s with heap:=s.heap.push {cls:=Value.type "tuple",data:=Data.seq #[]},toks:=s.toks}):=
 .of_wp λprog w A R s h=>by
  obtain⟨hp,g,d,tk,os⟩:=s;obtain⟨hl,h⟩:=h
  have f1:=AutoSeq1.idx_int;have f2:=AutoSeq1.sub_tuple_tuple;have f3:=AutoSeq1.sub_list_list;have f4:=AutoSeq1.sub_tuple_list;have f5:=AutoSeq1.sub_list_tuple
  have hc:¬((items.isEmpty||(0:Int)==1)=true):=by rw[he];decide
  have hn:¬((decide ((0:Int)< -(2^63))||decide ((0:Int)>=2^63))=true):=by decide
  have h0:(decide ((0:Int)<=0)||items.isEmpty)=true:=by simp
  wp_walk using wpAny_loadPart' hl;exact⟨_,rfl,h⟩
theorem pW(l:Addr)(items:Array Value)(n:Nat)(dd:Option Addr)(sl:Array (Option Value))(x:Int)(u:Tok)(he:items.isEmpty=false)(h2:2<=x)(hx:(items.size:Int)*x<=100000)(hx':x<=100000):Meets (Builtin.«tuple.__mul__» ⟨[.ref l,.int x u],[]⟩) (λ_ R s=>s.heap.get? l=some {cls:=.type "tuple",dict:=dd,data:=.seq items n,slots:=sl}/\R (.ok (.ret (Value.ref s.heap.objs.size))) {s with heap:=s.heap.push {cls:=Value.type "tuple",data:=Data.seq (List.foldl (λx1 x2=>x1++x2) #[] (List.replicate x.toNat items))},toks:=s.toks}):=
 .of_wp λprog w A R s h=>by
  obtain⟨hp,g,d,tk,os⟩:=s;obtain⟨hl,h⟩:=h
  have f1:=AutoSeq1.idx_int;have f2:=AutoSeq1.sub_tuple_tuple;have f3:=AutoSeq1.sub_list_list;have f4:=AutoSeq1.sub_tuple_list;have f5:=AutoSeq1.sub_list_tuple
  have e1:(x==1)=false:=by rw[beq_eq_false_iff_ne];lia
  have hc:¬((items.isEmpty||x==1)=true):=by rw[he,e1];decide
  have hn:¬((decide (x< -(2^63))||decide (x>=2^63))=true):=by
   rw[decide_eq_false (by lia),decide_eq_false (by lia)];decide
  have h0:¬((decide (x<=0)||items.isEmpty)=true):=by
   rw[decide_eq_false (by lia),he];decide
  have h1:¬((items.size:Int)*x>(2^63 -1)/8):=by lia
  have h3:¬(Builtin.Tuple.tupleTooMany ((items.size:Int)*x)=true):=by
   unfold Builtin.Tuple.tupleTooMany sizeLine
   simp only[gt_iff_lt,decide_eq_true_eq]
   lia
  have hsz:(List.foldl (λ(x1 x2:Array Value)=>x1++x2) #[] (List.replicate x.toNat items)).size<=sizeLine:=by
   rw[AutoListH.size_joined,sizeLine_eq,Array.size_empty,Nat.zero_add]
   have e:((x.toNat:Nat):Int)=x:=Int.toNat_of_nonneg (by lia)
   have:((x.toNat*items.size:Nat):Int)<=100000:=by
    rw[Int.natCast_mul,e,Int.mul_comm];exact hx
   omega
  wp_walk using wpAny_loadPart' hl
  refine wpAny_ite_false (decide_eq_false hn) ?_
  wp_walk using wpAny_loadPart' hl
  refine wpAny_ite_false (decide_eq_false h0) ?_
  rw[if_neg h1,if_neg h3]
  wp_walk using wpAny_loadPart' hl
  try(refine wpAny_ite_false (decide_eq_false (Nat.not_lt.mpr hsz)) ?_;wp_walk using wpAny_loadPart' hl)
  exact⟨_,rfl,h⟩
end
theorem gu(xs:Array Value):∀(k:Nat) (acc:Array Value),(List.foldl (λx1 x2=>x1++x2) acc (List.replicate k xs)).toList=acc.toList++(List.replicate k xs.toList).flatten
 |0=>by intro acc;simp
 |k+1=>by intro acc;rw[List.replicate_succ,List.foldl_cons,gu xs k,List.replicate_succ,List.flatten_cons,Array.toList_append,List.append_assoc]
theorem lY{R:SV->Value->Prop}{v:SV}{x:Value}(h:R v x):∀k,ac R (C5 k [v]) (List.replicate k [x]).flatten
 |0=>.nil
 |k+1=>by rw[List.replicate_succ,List.flatten_cons];exact .cons h (lY h k)
theorem kH{a:Array Value}{v:Value}(h:a.toList=[v]):a.size=1/\a.isEmpty=false:=by obtain⟨l⟩:=a;simp only at h;subst h;exact⟨rfl,rfl⟩
theorem gE:∀(k:Nat) (v:SV),(C5 k [v]).length=k
 |0=>by intro _;exact rfl
 |k+1=>by intro v;show([v]++C5 k [v]).length=k+1;rw[List.length_append,gE k v];show 1+k=k+1;exact Nat.add_comm _ _
theorem ku{vs:List SV}{u:SV}(h:C6 S vs=some (u,S')):u=(S.new (.tup vs)).1/\S'=(S.new (.tup vs)).2/\vs.length<=4096:=by unfold C6 at h;refine ab h ?_;clear h;intro q h;refine gS h ?_;clear h;intro h1 h2;subst h1;subst h2;exact⟨rfl,rfl,dF q⟩
theorem uI{vs:List SV}{u:SV}(h:DV S vs=some (u,S')):u=(S.new (.lst 0 vs)).1/\S'=(S.new (.lst 0 vs)).2/\vs.length<=4096:=by unfold DV at h;refine ab h ?_;clear h;intro q h;refine gS h ?_;clear h;intro h1 h2;subst h1;subst h2;exact⟨rfl,rfl,dF q⟩
theorem aj.newT{vs:List SV}{items:Array Value}{tk:Nat}{Q:Value->Shared->Prop}(q:aj G X L J S s (S.new (.tup vs)).1 (S.new (.tup vs)).2 Q)(r:SR G J S s L)(h:ac (VR G J S.next) vs items.toList)(hs:vs.length<=200000):Q (.ref s.heap.objs.size) {s with heap:=s.heap.push {cls:=.type "tuple",data:=.seq items},toks:=tk}:=by obtain⟨a,b,c⟩:=r.push (X:=X) (tk:=tk) (OR.tupNew h (by rw[fB h];exact hs) s.heap);exact q _ _ _ b a c
theorem aj.newL{vs:List SV}{items:Array Value}{tk:Nat}{Q:Value->Shared->Prop}(ok:G.I.Ok)(q:aj G X L J S s (S.new (.lst 0 vs)).1 (S.new (.lst 0 vs)).2 Q)(r:SR G J S s L)(h:ac (VR G J S.next) vs items.toList)(hs:vs.length<=200000):Q (.ref s.heap.objs.size) {s with heap:=s.heap.push {cls:=.type "list",data:=.seq items},toks:=tk}:=by obtain⟨a,b,c⟩:=r.push (X:=X) (tk:=tk) (OR.lstNew ok h (by rw[fB h];exact hs) s.heap);exact q _ _ _ b a c
theorem km{h:Heap}{a:Addr}{items:Array Value}{T:String}(x:∃o,h.get? a=some o/\o.cls=.type T/\∃n,o.data=.seq items n):∃dd sl n,h.get? a=some {cls:=.type T,dict:=dd,data:=.seq items n,slots:=sl}:=by refine wz x ?_;clear x;intro q1' h1 h2 n h3;obtain⟨c,dd,da,sl⟩:=q1';simp only at h2 h3;subst h2 h3;exact⟨dd,sl,n,h1⟩
theorem vG(l:Addr)(items:Array Value)(n:Nat)(dd:Option Addr)(sl:Array (Option Value))(k:Nat)(x:Int)(hx:Int.ofNat k=x)(u:Tok)(k1:items.size=1)(k2:items.isEmpty=false)(hk:k<=4096):Meets (Builtin.«list.__mul__» ⟨[.ref l,.int x u],[]⟩) (λ_ R s=>s.heap.get? l=some {cls:=.type "list",dict:=dd,data:=.seq items n,slots:=sl}/\R (.ok (.ret (Value.ref s.heap.objs.size))) {s with heap:=s.heap.push {cls:=Value.type "list",data:=Data.seq (List.foldl (λx1 x2=>x1++x2) #[] (List.replicate k items))},toks:=s.toks}):=by
 have e0:x.toNat=k:=by rw[<-hx];rfl
 have f1:¬(!Builtin.List.listFitsIndex x)=true:=by rw[<-hx];simp[Builtin.List.listFitsIndex];lia
 have f2:¬items.size*x.toNat>(2^63 -1)/8:=by rw[k1,e0];lia
 have f3:¬Builtin.List.listTooLong (items.size*x.toNat)=true:=by rw[k1,e0];simp[Builtin.List.listTooLong,sizeLine];exact Nat.le_trans ‹_› (by decide)
 have M:=vF l items n dd sl x u f1 f2 f3;rw[k2,e0]at M;exact M
theorem yr{i:Int}(h:ru i=true):-(2^64)<i/\i<2^64:=by
 induction i using Int.casesOn with
 |ofNat n=>have:=Nat.le_of_ble_eq_true h;show -(2^64)<((n:Nat):Int)/\((n:Nat):Int)<2^64;lia
 |negSucc n=>have:=Nat.le_of_ble_eq_true h;rw[Int.negSucc_eq];lia
theorem z7{i j:Int}(h:(ru i&&ru j)=true):IntMulOk i j:=by rw[Bool.and_eq_true]at h;refine xA (yr h.1) ?_;intro a b;exact .of_left (intBits_le_64 a b)
theorem yq(m n:Nat):(Int.ofNat m).fmod (Int.ofNat (n+1))=Int.ofNat (m %(n+1)):=by
 induction m using Nat.casesOn with
 |zero=>simp
 |succ m=>rfl
theorem xk{R:SV->Value->Prop}{xs:List SV}{a:Array Value}(h:ac R xs a.toList)(e:nilE xs=false):¬a.isEmpty=true:=by
 obtain⟨l⟩:=a;induction xs using List.casesOn with
 |nil=>exact ul e
 |cons x xs=>refine ap (au h) ?_;intro y z c _ _;have c:l=y::z:=c;subst c;exact Bool.false_ne_true
theorem yU{a b u:SV}{va vb:Value}{op:Operator}{Q:Value->Shared->Prop}(ok:G.I.Ok)(r:SR G J S s L)(ha:VR G J S.next a va)(hb:VR G J S.next b vb)(h:yV S op a b=some (u,S'))(q:aj G X L J S s u S' Q):wpAny (model G.prog G.w) A (PySem.binaryOp op va vb) Q E s:=by
 unfold yV at h;refine rd h ?_ ?_ ?_ ?_ ?_<;>clear h
 ·intro e0' h;subst e0';refine rk h ?_ ?_ ?_ ?_ ?_<;>clear h
  ·intro i j e0' e1' h;subst e0';subst e1';replace q:=aj.cast h q;clear h;refine xE ha ?_;clear ha;intro t q1';subst q1';refine xE hb ?_;clear hb;intro t' q1';subst q1';exact add_int (q.tok r ⟨_,rfl⟩)
  ·intro i x k e0' e1' h;subst e0';subst e1';replace q:=aj.cast h q;clear h;refine xE ha ?_;clear ha;intro t q1';subst q1';refine xE hb ?_;clear hb;intro t' q1';subst q1';exact add_int (q.tok r ⟨s.toks,by congr 1;lia⟩)
  ·intro x k j e0' e1' h;subst e0';subst e1';replace q:=aj.cast h q;clear h;refine xE ha ?_;clear ha;intro t q1';subst q1';refine xE hb ?_;clear hb;intro t' q1';subst q1';exact add_int (q.tok r ⟨s.toks,by congr 1;lia⟩)
  ·intro x y e0' e1' h;subst e0';subst e1';refine ab h ?_;clear h;intro hl h;replace q:=aj.cast h q;clear h;refine xE ha ?_;clear ha;intro t q1';subst q1';refine xE hb ?_;clear hb;intro t' q1';subst q1';rw[Bool.and_eq_true]at hl;have h1:=Nat.le_of_ble_eq_true hl.1;have h2:=Nat.le_of_ble_eq_true hl.2;refine PyProof.Rows.add_str (λt tk=>q.tok r ⟨t,rfl⟩) ?_;show _+_<=_;rw[sizeLine_eq];show Str.length _+Str.length _<=_;unfold Str.length;lia
  ·intro m n e0' e1' h;subst e0';subst e1';refine xA ha ?_;clear ha;intro hm q1';subst q1';refine xA hb ?_;clear hb;intro hn q1';subst q1';refine rm h ?_;clear h;intro xs ys e1 e2 h;refine vM h ?_;clear h;intro ne h;refine l8 (ku h) ?_;clear h;intro q1';subst q1';intro q2';subst q2';intro hl;refine an (r.named hm e1) ?_;intro i1 q1' w1;obtain⟨t1,z1⟩:=q1';refine an (r.named hn e2) ?_;intro i2 q1' w2;obtain⟨t2,z2⟩:=q1';refine zm (km t1) ?_;intro dd1 sl1 n1 g1;refine zm (km t2) ?_;intro dd2 sl2 n2 g2;rw[Bool.or_eq_false_iff]at ne
   exact concat_meets ⟨_,g1,rfl⟩ ⟨_,g2,rfl⟩ noFill_tuple_add seq_tuple_add PySem.F.slot_tuple_add PySem.F.entry_tuple_add (PySem.F.args_tuple_add_2 _ _)
    (tuple_addW2 _ _ _ _ _ _ _ _ _ _ (xk w1 ne.1) (xk w2 ne.2) (by rw[sizeLine_eq];lia)) ⟨g1,g2,q.newT r (by rw[Array.toList_append];exact w1.app w2) (by exact Nat.le_trans hl (by decide))⟩
 ·intro e0' h;subst e0';refine ri h ?_ ?_<;>clear h
  ·intro i j e0' e1' h;subst e0';subst e1';refine ab h ?_;clear h;intro hm h;replace q:=aj.cast h q;clear h;refine xE ha ?_;clear ha;intro t q1';subst q1';refine xE hb ?_;clear hb;intro t' q1';subst q1';exact PyProof.Rows.mul_int (q.tok r ⟨s.toks,rfl⟩) (z7 hm)
  ·intro m k e0' e1' h;subst e0';subst e1';refine xA ha ?_;clear ha;intro hm q1';subst q1';refine xE hb ?_;clear hb;intro t' q1';subst q1';refine rj h ?_ ?_<;>clear h
   ·intro x e1 h;refine l8 (uI h) ?_;intro q1';subst q1';intro q2';subst q2';intro hl;rw[gE]at hl;refine ap (r.named hm e1) ?_;intro items ys q1' c1 w1;obtain⟨t1,z1⟩:=q1';rw[ok.l0,List.nil_append]at c1;subst c1;refine ap (au w1) ?_;intro y z c1 w2 w3;rw[aD w3]at c1;refine xA (kH c1) ?_;intro k1 k2;refine zm (km t1.isList) ?_;intro dd1 sl1 n1 g1;generalize hx:Int.ofNat k=x';have M:=vG (J m) items n1 dd1 sl1 k x' hx t' k1 k2 hl
    refine wpAny_binaryOp_repeat_ref (T:="list") (U:="int") (by decide) ⟨_,g1,rfl⟩ (λs'=>typeIs_int s' _ _) noFill_list_mul F.fills_int_mul F.slot_int_rmul repeat_list F.slot_int_index.lookup
     (call_meets F.slot_int_rmul (typeIs_int s _ _) F.entry_int_rmul (F.args_int_rmul_2 _ _) (gJ _ _ _ _ _ _ _ _)
      ⟨g1,rfl,⟨_,g1,rfl⟩,call_meets F.slot_list_mul ⟨_,g1,rfl⟩ F.entry_list_mul (F.args_list_mul_2 _ _)
       M
       ⟨g1,?_⟩⟩)
    refine q.newL ok r (items:=List.foldl (λx1 x2=>x1++x2) #[] (List.replicate k items)) ?_ (by rw[gE];exact Nat.le_trans ‹_› (by decide));rw[gu,c1];exact lY w2 k
   ·intro x e1 h;refine an (r.named hm e1) ?_;intro items q1' w1;obtain⟨t1,z1⟩:=q1';refine ap (au w1) ?_;intro y z c1 w2 w3;rw[aD w3]at c1;refine xA (kH c1) ?_;intro k1 k2;refine zm (km t1) ?_;intro dd1 sl1 n1 g1;induction k using Nat.casesOn with
    |zero=>
     refine l8 (ku h) ?_;clear h;intro q1';subst q1';intro q2';subst q2';intro hl
     refine wpAny_binaryOp_repeat_ref (T:="tuple") (U:="int") (by decide) ⟨_,g1,rfl⟩ (λs'=>typeIs_int s' _ _) dj F.fills_int_mul F.slot_int_rmul fJ F.slot_int_index.lookup
      (call_meets F.slot_int_rmul (typeIs_int s _ _) F.entry_int_rmul (F.args_int_rmul_2 _ _) (gJ _ _ _ _ _ _ _ _)
       ⟨g1,rfl,⟨_,g1,rfl⟩,?_⟩)
     exact call_meets F.slot_tuple_mul ⟨_,g1,rfl⟩ F.entry_tuple_mul (F.args_tuple_mul_2 _ _)
       (pY _ _ _ _ _ _ k2) ⟨g1,q.newT r .nil (by rw[gE];exact Nat.zero_le _)⟩
    |succ k=>
    induction k using Nat.casesOn with
    |zero=>
     replace q:=aj.cast h q;clear h
     refine wpAny_binaryOp_repeat_ref (T:="tuple") (U:="int") (by decide) ⟨_,g1,rfl⟩ (λs'=>typeIs_int s' _ _) dj F.fills_int_mul F.slot_int_rmul fJ F.slot_int_index.lookup
      (call_meets F.slot_int_rmul (typeIs_int s _ _) F.entry_int_rmul (F.args_int_rmul_2 _ _) (gJ _ _ _ _ _ _ _ _)
       ⟨g1,rfl,⟨_,g1,rfl⟩,call_meets F.slot_tuple_mul ⟨_,g1,rfl⟩ F.entry_tuple_mul (F.args_tuple_mul_2 _ _)
        (pX _ _ _ _ _ _) ⟨g1,q.now r ⟨hm,rfl⟩⟩⟩)
    |succ k=>
     refine l8 (ku h) ?_;clear h;intro q1';subst q1';intro q2';subst q2';intro hl;rw[gE]at hl
     refine wpAny_binaryOp_repeat_ref (T:="tuple") (U:="int") (by decide) ⟨_,g1,rfl⟩ (λs'=>typeIs_int s' _ _) dj F.fills_int_mul F.slot_int_rmul fJ F.slot_int_index.lookup
      (call_meets F.slot_int_rmul (typeIs_int s _ _) F.entry_int_rmul (F.args_int_rmul_2 _ _) (gJ _ _ _ _ _ _ _ _)
       ⟨g1,rfl,⟨_,g1,rfl⟩,?_⟩)
     refine call_meets F.slot_tuple_mul ⟨_,g1,rfl⟩ F.entry_tuple_mul (F.args_tuple_mul_2 _ _)
       (pW _ _ _ _ _ _ _ k2 (by show(2:Int)<=((k+1+1:Nat):Int);lia) (by rw[k1];show(1:Int)*((k+1+1:Nat):Int)<=100000;lia) (by show((k+1+1:Nat):Int)<=100000;lia)) ⟨g1,?_⟩
     refine q.newT r (items:=List.foldl (λx1 x2=>x1++x2) #[] (List.replicate (k+1+1) items)) ?_ (by rw[gE];exact Nat.lt_of_lt_of_le ‹_› (by decide));rw[gu,c1];exact lY w2 (k+1+1)
 ·intro e0' h;subst e0';refine re h ?_;clear h;intro m n e0' e1' h;subst e0';subst e1';refine xE ha ?_;clear ha;intro t q1';subst q1';refine xE hb ?_;clear hb;intro t' q1';subst q1';refine rh h ?_;clear h;intro n' e0' h;subst e0';replace q:=aj.cast h q;clear h;exact mod_int' (by intro e;cases e) (q.tok r ⟨s.toks,by rw[yq]⟩)
 ·intro e0' h;subst e0';refine gw h ?_;clear h;intro i j e0' e1' h;subst e0';subst e1';replace q:=aj.cast h q;clear h;refine xE ha ?_;clear ha;intro t q1';subst q1';refine xE hb ?_;clear hb;intro t' q1';subst q1';exact or_int (q.tok r ⟨_,rfl⟩)
 ·intro e0' h;subst e0';refine gw h ?_;clear h;intro i j e0' e1' h;subst e0';subst e1';replace q:=aj.cast h q;clear h;refine xE ha ?_;clear ha;intro t q1';subst q1';refine xE hb ?_;clear hb;intro t' q1';subst q1';exact and_int (q.tok r ⟨_,rfl⟩)
structure bS (G:Gr) (h:Heap) (d:Addr) (kv:Value) (r:Option Value):Prop where
 obj:∃o,h.get? d=some o/\o.ExactDict
 sm:(d==sysModules)=false
 get:∀{A:Around} {E:Value->Shared->Prop} {s:Shared} {Q:Option Value->Shared->Prop},A.units+4<cLine->s.heap=h->(∀tk,Q r {s with toks:=tk})->wpAny (model G.prog G.w) A (dictGet d kv) Q E s
section
variable{d:Addr} {kv:Value} {r:Option Value}
theorem bS.typeIs(x:bS G s.heap d kv r):s.TypeIs (.ref d) "dict":=let⟨o,ho,hc,_⟩:=x.obj;⟨o,ho,hc⟩
theorem bS.isIn{Q:Value->Shared->Prop}(x:bS G s.heap d kv r)(hu:A.units+5<cLine)(h:∀tk,Q (.bool r.isSome) {s with toks:=tk}):wpAny (model G.prog G.w) A (compareOp .In kv (.ref d)) Q E s:=by
 show wpAny _ _ (do return .bool (<-PySem.contains (.ref d) kv)) Q E s;refine wpAny_bind ?_;unfold PySem.contains;try with_reducible refine wpAny_holding ?_
 refine wpAny_bind (wpAny_specialOf x.typeIs slot_dict_contains.lookup ?_);show wpAny _ _ (if(some (Value.builtin "dict.__contains__")==some Value.none)=true then _ else _) _ E s;refine se (by rw[beq_builtin_none];exact Bool.false_ne_true) ?_
 refine wpAny_bind (wpAny_callSpecialUnlessNone?_slot (name:=Str.ofString "__contains__") x.typeIs slot_dict_contains
  (wpAny_call_entry slot_dict_contains x.typeIs entry_dict_contains ?_ (args_dict_contains _ _)))
 show wpAny _ _ (dictGet d kv>>=_) _ _ s;refine wpAny_bind (x.get (by simp only[Around.in1_units];assumption) rfl λtk=>?_);induction r using Option.casesOn with
 |some p=>show wpAny _ _ (ret (.bool true)) _ _ _;exact wpAny_pure ⟨_,rfl,wpAny_truthy_bool (wpAny_pure (h tk))⟩
 |none=>show wpAny _ _ (Builtin.Dict.pendingKey? d kv>>=_) _ _ _;exact wpAny_bind (wpAny_pendingKey_other x.sm (wpAny_pure ⟨_,rfl,wpAny_truthy_bool (wpAny_pure (h tk))⟩))
theorem bS.item{v:Value}{Q:Value->Shared->Prop}(x:bS G s.heap d kv (some v))(hu:A.units+5<cLine)(h:∀tk,Q v {s with toks:=tk}):wpAny (model G.prog G.w) A (getItem (.ref d) kv) Q E s:=by
 unfold getItem;try with_reducible refine wpAny_holding ?_
 refine wpAny_bind (wpAny_sequenceKey x.typeIs (by decide) ?_)
 refine wpAny_bind (wpAny_callSpecial?_slot (name:=Str.ofString "__getitem__") x.typeIs slot_dict_getitem
  (wpAny_call_entry slot_dict_getitem x.typeIs entry_dict_getitem ?_ (args_dict_getitem _ _)))
 show wpAny _ _ (dictGet d kv>>=_) _ _ s;refine wpAny_bind (x.get (by simp only[Around.in1_units];assumption) rfl λtk=>?_);exact wpAny_pure ⟨v,rfl,wpAny_pure (h tk)⟩
theorem bS.get2{dv:Value}{Q:Value->Shared->Prop}(x:bS G s.heap d kv r)(hu:A.units+5<cLine)(h:∀tk,Q (r.getD dv) {s with toks:=tk}):wpAny (model G.prog G.w) A (call (.builtin "dict.get") [.ref d,kv,dv]) Q E s:=by
 refine wpAny_call_entry PySem.F.slot_dict_get x.typeIs PySem.F.entry_dict_get ?_ (PySem.F.args_dict_get_3 _ _ _);show wpAny _ _ (dictGet d kv>>=_) _ _ s;refine wpAny_bind (x.get (by simp only[Around.in1_units];assumption) rfl λtk=>?_);induction r using Option.casesOn with
 |some p=>exact wpAny_pure ⟨_,rfl,h tk⟩
 |none=>show wpAny _ _ (Builtin.Dict.missed d kv>>=_) _ _ _;exact wpAny_bind (wpAny_missed_other x.sm (wpAny_pure ⟨_,rfl,h tk⟩))
end
theorem cP.of{v:SV}{val:Value}{nx:Nat}(ha:d6 v=true)(h:VR G J nx v val):∃q,cP G v q/\KA.isB q val=true:=by
 induction v using SV.casesOn<;>try(first|exact ai ha|cases ha)
 ·refine xE h ?_;clear h;intro t q1';subst q1';exact⟨_,rfl,by simp[KA.isB]⟩
 ·refine xE h ?_;clear h;intro t q1';subst q1';exact⟨_,rfl,by simp[KA.isB]⟩
 ·refine xE h ?_;clear h;intro t q1';subst q1';exact⟨_,rfl,by simp[KA.isB]⟩
 ·refine xE h ?_;clear h;intro t q1';subst q1';exact⟨_,rfl,by simp[KA.isB]⟩
set_option tactic.hygienic true in
theorem cP.atoms{h:Heap}{nx:Nat}:∀{vs:List SV} {xs:List Value},fA vs=true->ac (VR G J nx) vs xs->∃qs,ac (cP G) vs qs/\aG (bJ (prog:=G.prog) (w:=G.w)) h qs xs
 |[]=>by rename_i w1;intro w2 al3;refine ac.nilE al3 ?_;clear al3;intro q';subst q';exact⟨[],.nil,.nil⟩
 |v::r=>by rename_i w1;intro ha al3;refine ac.consE al3 ?_;clear al3;intro y3' ys3' q' h1 h2;subst q';refine cb ha ?_;clear ha;intro hv ha;refine an (cP.of hv h1) ?_;intro q a b;obtain⟨qs,c,e⟩:=cP.atoms ha h2;exact⟨q::qs,.cons a c,.cons b e⟩
set_option tactic.hygienic true in
theorem hJ(r:Hp G J S s.heap):∀{vs:List SV} {xs:List Value} {sk:SK},iE S.hp vs=some sk->ac (VR G J S.next) vs xs->∃kd,KR G sk kd/\aG (ak G.prog G.w) s.heap kd xs
 |[]=>by rename_i w1 sk;intro h al4;refine ac.nilE al4 ?_;clear al4;intro q';subst q';refine aB h ?_;clear h;intro h1;subst h1;exact⟨[],.nil,.nil⟩
 |v::vs=>by
  rename_i w1 sk;intro h al4;refine ac.consE al4 ?_;clear al4;intro y4' ys4' q' h1 h2;subst q';unfold iE at h;split at h
  ·rename_i heq;cases heq
  ·rename_i n r' heq;cases heq;refine xA h1 ?_;clear h1;intro hn q1';subst q1';refine eQ h ?_;clear h;intro us ho h;refine ab h ?_;clear h;intro hat h;refine an (Option.map_eq_some_iff.mp h) ?_;intro sk' e1 q1';subst q1';refine an (hJ r e1 h2) ?_;intro kd a b;refine an (r.obj n _ hn ho) ?_;intro items q1' w1;obtain⟨⟨ob,g1,g2,m,g3⟩,z⟩:=q1';obtain⟨qs,c,e⟩:=cP.atoms (h:=s.heap) hat w1;exact⟨.t qs::kd,.cons ⟨qs,rfl,c⟩ a,.cons ⟨_,rfl,ob,items,m,g1,g2,g3,e⟩ b⟩
  ·rename_i v' r' hne heq;cases heq;refine ab h ?_;clear h;intro hat h;refine an (Option.map_eq_some_iff.mp h) ?_;intro sk' e1 q1';subst q1';refine an (hJ r e1 h2) ?_;intro kd a b;refine an (cP.of hat h1) ?_;intro q c e;exact⟨.a q::kd,.cons ⟨q,rfl,c⟩ a,.cons e b⟩
theorem dw{v:SV}{val:Value}{sk:SK}(r:Hp G J S s.heap)(h:ma S.hp v=some sk)(hv:VR G J S.next v val):∃n kd,v=.ref n/\n<S.next/\val=.ref (J n)/\KR G sk kd/\cI (ak G.prog G.w) s.heap kd (J n):=by unfold ma at h;refine cO h ?_;clear h;intro n e0' h;subst e0';refine xA hv ?_;clear hv;intro hn q1';subst q1';refine eQ h ?_;clear h;intro vs ho h;refine an (r.obj n _ hn ho) ?_;intro items q1' w1;obtain⟨⟨ob,g1,g2,m,g3⟩,z⟩:=q1';refine an (hJ r h w1) ?_;intro kd a b;exact⟨n,kd,rfl,hn,rfl,a,ob,items,m,g1,g2,g3,b⟩
theorem uC(ok:G.I.Ok){x:Nat}{k i:Int}{t:Bool}(h:zW x k i=some t):t=false/\G.I.nu x+k≠i:=by unfold zW at h;refine h8 h ?_;clear h;intro lo hi e h;have r:=ok.rg x lo hi e;refine bA h ?_;clear h;intro c h;refine aB h ?_;clear h;intro h1;subst h1;rw[Bool.and_eq_false_iff,ci,ci,decide_eq_false_iff_not,decide_eq_false_iff_not]at c;exact⟨rfl,by lia⟩
theorem uB(ok:G.I.Ok)(x:Nat){s:Str}{t:Bool}(h:zV s=some t):t=false/\G.I.ss x≠s:=by unfold zV at h;refine bA h ?_;clear h;intro c h;refine aB h ?_;clear h;intro h1;subst h1;refine⟨rfl,?_⟩;rintro rfl;refine xE (ok.ss1 x) ?_;intro d e;unfold one at c;rw[e]at c;exact ul c
theorem yA{x y:Nat}{k l:Int}{t:Bool}(h:yB x y k l=some t):t=decide (G.I.nu x+k=G.I.nu y+l):=by
 unfold yB at h;refine ab h ?_;clear h;intro c h;have c:=Nat.eq_of_beq_eq_true c;subst c;refine aB h ?_;clear h;intro h1;subst h1;induction c:d7 k l using Bool.casesOn with
 |true=>rw[bl.mp c];simp
 |false=>have:=on c;symm;rw[decide_eq_false_iff_not];lia
theorem AC{x y:Nat}{t:Bool}(h:CL x y=some t):t=true/\x=y:=by unfold CL at h;refine ab h ?_;clear h;intro c h;refine aB h ?_;clear h;intro h1;subst h1;exact⟨rfl,Nat.eq_of_beq_eq_true c⟩
set_option tactic.hygienic true in
theorem CP(i j:Int):d7 i j=decide (i=j):=by
 induction c:d7 i j using Bool.casesOn with
 |true=>rw[bl.mp c,decide_eq_true rfl]
 |false=>rw[decide_eq_false (on c)]
theorem yJ(i j:Str):cq i j=decide (i=j):=by
 induction c:cq i j using Bool.casesOn with
 |true=>rw[aI.mp c,decide_eq_true rfl]
 |false=>rw[decide_eq_false (dI c)]
theorem AD(ok:G.I.Ok){u v:SV}{i j:Int}{t:Bool}(hu:cp G u i)(hv:cp G v j)(h:CM u v=some t):t=decide (i=j):=by
 induction u using SV.casesOn<;>try exact hu.elim
 ·induction v using SV.casesOn<;>try exact hv.elim
  ·subst hu;subst hv;rw[<-Option.some.inj h,CP]
  ·subst hu;subst hv;obtain⟨rfl,e⟩:=uC ok h;exact(decide_eq_false λq=>e q.symm).symm
 ·induction v using SV.casesOn<;>try exact hv.elim
  ·subst hu;subst hv;obtain⟨rfl,e⟩:=uC ok h;exact(decide_eq_false e).symm
  ·subst hu;subst hv;exact yA (G:=G) h
theorem AB(ok:G.I.Ok){u v:SV}{i j:Str}{t:Bool}(hu:eH G u i)(hv:eH G v j)(h:CK u v=some t):t=decide (i=j):=by
 induction u using SV.casesOn<;>try exact hu.elim
 ·induction v using SV.casesOn<;>try exact hv.elim
  ·subst hu;subst hv;rw[<-Option.some.inj h,yJ]
  ·subst hu;subst hv;obtain⟨rfl,e⟩:=uB ok _ h;exact(decide_eq_false λq=>e q.symm).symm
 ·induction v using SV.casesOn<;>try exact hv.elim
  ·subst hu;subst hv;obtain⟨rfl,e⟩:=uB ok _ h;exact(decide_eq_false e).symm
  ·subst hu;subst hv;obtain⟨rfl,rfl⟩:=AC h;exact(decide_eq_true rfl).symm
theorem uV{a b:SV}{t:Bool}{P:Prop}(h:tO a b=some t)(k1:dg a=true->dg b=true->CM a b=some t->P)(k2:eB a=true->eB b=true->CK a b=some t->P)(k3:dg a=true->eB b=true->t=false->P)(k4:eB a=true->dg b=true->t=false->P):P:=by
 unfold tO at h;refine ah h ?_ ?_<;>clear h
 ·intro c h;exact xA (Bool.and_eq_true_iff.mp c) λc1 c2=>k1 c1 c2 h
 ·intro _ h;refine ah h ?_ ?_<;>clear h
  ·intro c h;exact xA (Bool.and_eq_true_iff.mp c) λc1 c2=>k2 c1 c2 h
  ·intro _ h;refine ab h ?_;clear h;intro c h;have h:=(Option.some.inj h).symm;rcases(Bool.or_eq_true_iff.mp c)with c|c
   ·exact xA (Bool.and_eq_true_iff.mp c) λc1 c2=>k3 c1 c2 h
   ·exact xA (Bool.and_eq_true_iff.mp c) λc1 c2=>k4 c1 c2 h
theorem cP.num{u:SV}{p:KA}(h:dg u=true)(k:cP G u p):∃i,p=.i i/\cp G u i:=by induction u using SV.casesOn<;>first|exact ai h|exact⟨_,k,rfl⟩
theorem cP.txt{u:SV}{p:KA}(h:eB u=true)(k:cP G u p):∃i,p=.s i/\eH G u i:=by induction u using SV.casesOn<;>first|exact ai h|exact⟨_,k,rfl⟩
theorem jE(ok:G.I.Ok){u v:SV}{p q:KA}{t:Bool}(hu:cP G u p)(hv:cP G v q)(h:tO u v=some t):t=decide (p=q):=by
 refine uV h ?_ ?_ ?_ ?_<;>clear h
 ·intro c1 c2 h;refine an (cP.num c1 hu) ?_;intro i e n1;subst e;refine an (cP.num c2 hv) ?_;intro j e n2;subst e;rw[AD ok n1 n2 h];exact decide_eq_decide.mpr ⟨λe=>e▸rfl,λe=>KA.i.inj e⟩
 ·intro c1 c2 h;refine an (cP.txt c1 hu) ?_;intro i e n1;subst e;refine an (cP.txt c2 hv) ?_;intro j e n2;subst e;rw[AB ok n1 n2 h];exact decide_eq_decide.mpr ⟨λe=>e▸rfl,λe=>KA.s.inj e⟩
 ·intro c1 c2 h;refine an (cP.num c1 hu) ?_;intro i e n1;subst e;refine an (cP.txt c2 hv) ?_;intro j e n2;subst e;rw[h];exact(decide_eq_false λe=>KA.noConfusion e).symm
 ·intro c1 c2 h;refine an (cP.txt c1 hu) ?_;intro i e n1;subst e;refine an (cP.num c2 hv) ?_;intro j e n2;subst e;rw[h];exact(decide_eq_false λe=>KA.noConfusion e).symm
theorem kD(ok:G.I.Ok):∀{us vs:List SV} {ps qs:List KA} {t:Bool},ac (cP G) us ps->ac (cP G) vs qs->AA us vs=some t->t=decide (ps=qs)
 |[],[]=>by rename_i w2 w3 t;intro al5 al6;refine ac.nilE al5 ?_;clear al5;intro q';subst q';refine ac.nilE al6 ?_;clear al6;intro q';subst q';intro h;refine aB h ?_;clear h;intro h1;subst h1;simp
 |[],v::vs=>by rename_i w2 w3 t;intro al5 al6;refine ac.nilE al5 ?_;clear al5;intro q';subst q';refine ac.consE al6 ?_;clear al6;intro y6' ys6' q' _ _;subst q';intro h;refine aB h ?_;clear h;intro h1;subst h1;simp
 |u::us,[]=>by rename_i w2 w3 t;intro al5 al6;refine ac.consE al5 ?_;clear al5;intro y5' ys5' q' _ _;subst q';refine ac.nilE al6 ?_;clear al6;intro q';subst q';intro h;refine aB h ?_;clear h;intro h1;subst h1;simp
 |u::us,v::vs=>by
  rename_i w2 w3 t;intro al5 al6;refine ac.consE al5 ?_;clear al5;intro y5' ys5' q' a1 a2;subst q';refine ac.consE al6 ?_;clear al6;intro y6' ys6' q' b1 b2;subst q';intro h;refine jz h ?_ ?_ ?_<;>clear h
  ·intro e h;have e1:=jE ok a1 b1 e;have e2:=kD ok a2 b2 h;have e1:=of_decide_eq_true e1.symm;subst e1;rw[e2];simp
  ·intro e h;refine aB h ?_;clear h;intro h1;subst h1;have e1:=of_decide_eq_false (jE ok a1 b1 e).symm;simp[e1]
  ·intro _ h;refine ic h ?_;clear h;intro e h;refine aB h ?_;clear h;intro h1;subst h1;have e2:=of_decide_eq_false (kD ok a2 b2 e).symm;simp[e2]
set_option tactic.hygienic true in
theorem eU(ok:G.I.Ok):∀{us vs:SK} {ps qs:KD} {t:Bool},KR G us ps->KR G vs qs->Br us vs=some t->t=decide (ps=qs)
 |[],[]=>by rename_i w2 w3 t;intro al5 al6;refine ac.nilE al5 ?_;clear al5;intro q';subst q';refine ac.nilE al6 ?_;clear al6;intro q';subst q';intro h;refine aB h ?_;clear h;intro h1;subst h1;simp
 |[],v::vs=>by rename_i w2 w3 t;intro al5 al6;refine ac.nilE al5 ?_;clear al5;intro q';subst q';refine ac.consE al6 ?_;clear al6;intro y6' ys6' q' _ _;subst q';intro h;refine aB h ?_;clear h;intro h1;subst h1;simp
 |.a u::us,[]=>by rename_i w2 w3 t;intro al5 al6;refine ac.consE al5 ?_;clear al5;intro y5' ys5' q' _ _;subst q';refine ac.nilE al6 ?_;clear al6;intro q';subst q';intro h;refine aB h ?_;clear h;intro h1;subst h1;simp
 |.t u::us,[]=>by rename_i w2 w3 t;intro al5 al6;refine ac.consE al5 ?_;clear al5;intro y5' ys5' q' _ _;subst q';refine ac.nilE al6 ?_;clear al6;intro q';subst q';intro h;refine aB h ?_;clear h;intro h1;subst h1;simp
 |.a u::us,.t v::vs=>by rename_i w2 w3 t;intro al5 al6;refine ac.consE al5 ?_;clear al5;intro y5' ys5' q' a1 a2;subst q';refine ac.consE al6 ?_;clear al6;intro y6' ys6' q' b1 b2;subst q';intro h;refine aB h ?_;clear h;intro h1;subst h1;refine an a1 ?_;clear a1;intro p q1';subst q1';intro _;refine an b1 ?_;clear b1;intro q q1';subst q1';intro _;simp
 |.t u::us,.a v::vs=>by rename_i w2 w3 t;intro al5 al6;refine ac.consE al5 ?_;clear al5;intro y5' ys5' q' a1 a2;subst q';refine ac.consE al6 ?_;clear al6;intro y6' ys6' q' b1 b2;subst q';intro h;refine aB h ?_;clear h;intro h1;subst h1;refine an a1 ?_;clear a1;intro p q1';subst q1';intro _;refine an b1 ?_;clear b1;intro q q1';subst q1';intro _;simp
 |.a u::us,.a v::vs=>by
  rename_i w2 w3 t;intro al5 al6;refine ac.consE al5 ?_;clear al5;intro y5' ys5' q' a1 a2;subst q';refine ac.consE al6 ?_;clear al6;intro y6' ys6' q' b1 b2;subst q';intro h;refine an a1 ?_;clear a1;intro p q1';subst q1';intro a1;refine an b1 ?_;clear b1;intro q q1';subst q1';intro b1;refine jz h ?_ ?_ ?_<;>clear h
  ·intro e h;have e1:=of_decide_eq_true (jE ok a1 b1 e).symm;have e2:=eU ok a2 b2 h;subst e1;rw[e2];simp
  ·intro e h;refine aB h ?_;clear h;intro h1;subst h1;have e1:=of_decide_eq_false (jE ok a1 b1 e).symm;simp[e1]
  ·intro _ h;refine ic h ?_;clear h;intro e h;refine aB h ?_;clear h;intro h1;subst h1;have e2:=of_decide_eq_false (eU ok a2 b2 e).symm;simp[e2]
 |.t u::us,.t v::vs=>by
  rename_i w2 w3 t;intro al5 al6;refine ac.consE al5 ?_;clear al5;intro y5' ys5' q' a1 a2;subst q';refine ac.consE al6 ?_;clear al6;intro y6' ys6' q' b1 b2;subst q';intro h;refine an a1 ?_;clear a1;intro p q1';subst q1';intro a1;refine an b1 ?_;clear b1;intro q q1';subst q1';intro b1;refine jz h ?_ ?_ ?_<;>clear h
  ·intro e h;have e1:=of_decide_eq_true (kD ok a1 b1 e).symm;have e2:=eU ok a2 b2 h;subst e1;rw[e2];simp
  ·intro e h;refine aB h ?_;clear h;intro h1;subst h1;have e1:=of_decide_eq_false (kD ok a1 b1 e).symm;simp[e1]
  ·intro _ h;refine ic h ?_;clear h;intro e h;refine aB h ?_;clear h;intro h1;subst h1;have e2:=of_decide_eq_false (eU ok a2 b2 e).symm;simp[e2]
theorem bc{K:Type}[DecidableEq K](x:K×Addr×Value)(r:List (K×Addr×Value))(k:K):atKey (x::r) k=if x.1=k then some x.2 else atKey r k:=by
 unfold atKey;rw[List.find?_cons];by_cases h:x.1=k
 ·simp[h]
 ·simp[h]
theorem nA{K:Type}[DecidableEq K](k k':K)(v:Value):∀xs:List (K×Addr×Value),atKey (xs.map (putAt k v)) k'=if k'=k then(atKey xs k).map (λp=>(p.1,v))else atKey xs k'
 |[]=>by simp[atKey]
 |x::r=>by
  rw[List.map_cons,bc,nA k k' v r,bc,bc];unfold putAt;by_cases h:x.1=k
  ·subst h;by_cases h':k'=x.1
   ·subst h';simp
   ·have:¬x.1=k':=λq=>h' q.symm;simp[h',this]
  ·by_cases h':k'=k
   ·subst h';simp[h]
   ·simp[h,h']
theorem wr{K:Type}[DecidableEq K](xs ys:List (K×Addr×Value))(k:K):atKey (xs++ys) k=(atKey xs k).orElse λ_=>atKey ys k:=by
 induction xs with
 |nil=>simp[atKey]
 |cons x r ih=>rw[List.cons_append,bc,bc,ih];by_cases h:x.1=k<;>simp[h]
theorem pG{K:Type}[DecidableEq K](xs:List (K×Addr×Value))(k k':K)(a:Addr)(v:Value):(atKey (storedH xs k a v) k').map (·.2)=if k'=k then some v else(atKey xs k').map (·.2):=by
 induction h:atKey xs k using Option.casesOn with
 |none=>
  rw[storedH_new h,wr];by_cases h':k'=k
  ·subst h';simp[h,bc]
  ·have:¬k=k':=λq=>h' q.symm;rw[bc,if_neg this,if_neg h'];cases atKey xs k'<;>simp[atKey]
 |some p=>
  rw[storedH_old h,nA];by_cases h':k'=k
  ·subst h';simp[h]
  ·simp[h']
theorem jj(xs:List (KD×Addr×Value)):∀ys zs,bO xs (ys++zs)=bO (bO xs ys) zs
 |[]=>by intro zs;exact rfl
 |(k,a,v)::r=>by intro zs;exact jj (storedH xs k a v) r zs
theorem cD:∀(ys:List (KD×Addr×Value)) (xs:List (KD×Addr×Value)) (k:KD),(ys.map (·.1)).Nodup->(atKey (bO xs ys) k).map (·.2)=match(atKey ys k).map (·.2)with|some v=>some v|none=>(atKey xs k).map (·.2)
 |[]=>by intro xs k _;simp[bO,atKey]
 |(k0,a,v)::r=>by
  intro xs k hn;rw[List.map_cons,List.nodup_cons]at hn;show(atKey (bO (storedH xs k0 a v) r) k).map (·.2)=_;rw[cD r _ k hn.2,pG,bc];by_cases h:k0=k
  ·subst h;have:atKey r k0=none:=by unfold atKey;rw[Option.map_eq_none_iff,List.find?_eq_none];intro x hx q;have q:=of_decide_eq_true q;exact hn.1 (List.mem_map.mpr ⟨x,hx,q⟩)
   rw[this];simp
  ·have:¬k=k0:=λq=>h q.symm;rw[if_neg this,if_neg h]
set_option tactic.hygienic true in
theorem d9(ok:G.I.Ok){sk:SK}{kd:KD}{nx:Nat}(hk:KR G sk kd):∀{es:List (SK×SV)} {xs:List (KD×Addr×Value)} {r:Option SV},ac (λ(x:SK×SV) (y:KD×Addr×Value)=>KR G x.1 y.1/\VR G J nx x.2 y.2.2) es xs->i7 sk es=some r->(match r with|some v=>∃val,(atKey xs kd).map (·.2)=some val/\VR G J nx v val|none=>atKey xs kd=none/\kd∉xs.map (·.1))
 |[]=>by rename_i w1 r;intro al3;refine ac.nilE al3 ?_;clear al3;intro q';subst q';intro h;refine aB h ?_;clear h;intro h1;subst h1;exact⟨rfl,by simp⟩
 |(k',v)::es=>by
  rename_i w1 r;intro al3;refine ac.consE al3 ?_;clear al3;intro y3' xs q' ha3 h3;subst q';obtain⟨kd',a,val⟩:=y3';obtain⟨h1,h2⟩:=ha3;intro h;refine ib h ?_ ?_<;>clear h
  ·intro e h;refine aB h ?_;clear h;intro h1;subst h1;have e:=of_decide_eq_true (eU ok h1 hk e).symm;refine⟨val,?_,h2⟩;rw[bc,if_pos e];rfl
  ·intro e h;have e:=of_decide_eq_false (eU ok h1 hk e).symm;have:=d9 ok hk h3 h;rw[bc,if_neg e];induction r using Option.casesOn with
   |some v=>exact this
   |none=>exact⟨this.1,by rw[List.map_cons,List.mem_cons];rintro(q|q);exact e q.symm;exact this.2 q⟩
noncomputable def rR (G:Gr) (J:Nat->Nat) (nx:Nat):Option SV->Option Value->Prop
 |some v,some val=>VR G J nx v val
 |none,none=>True
 |_,_=>False
theorem bS.of_keyed{K:Type}[DecidableEq K]{knd:KeyKind G.prog G.w K}{h:Heap}{a:Addr}{kvs:List (K×Value)}{k:K}{kv:Value}(D:h.DictOf knd a kvs)(hk:knd.is k kv=true)(sm:(a==sysModules)=false):bS G h a kv (valueAt kvs k)where
 obj:=by obtain⟨o,_,_,h1,h2,_⟩:=D;exact⟨o,h1,h2⟩
 sm:=sm
 get:=by
  intro A E s Q hu hs q
  subst hs
  exact wpAny_dictGet_of hk D.mapOf (q _)
theorem bS.of_heap{h:Heap}{a ka:Addr}{xs:List (KD×Addr×Value)}{k:KD}(D:h.DictOfH (ay G.prog G.w) a xs)(hk:cI (ak G.prog G.w) h k ka)(sm:(a==sysModules)=false):bS G h a (.ref ka) ((atKey xs k).map (·.2))where
 obj:=by obtain⟨o,_,_,h1,h2,_⟩:=D;exact⟨o,h1,h2⟩
 sm:=sm
 get:=by
  intro A E s Q hu hs q
  subst hs
  exact wpAny_dictGet_heap (knd:=ay G.prog G.w) (by show A.units+2<cLine;exact aU ‹_› (by decide)) hk D (q _)
theorem fF{K:Type}[DecidableEq K](x:K×Value)(r:List (K×Value))(k:K):valueAt (x::r) k=if x.1=k then some x.2 else valueAt r k:=by
 unfold valueAt;rw[List.find?_cons];by_cases h:x.1=k
 ·simp[h]
 ·simp[h]
set_option tactic.hygienic true in
theorem fO{nx:Nat}(k:Str):∀{es:List (Str×SV)} {kvs:List (Str×Value)},ac (λ(x:Str×SV) (y:Str×Value)=>x.1=y.1/\VR G J nx x.2 y.2) es kvs->rR G J nx (bE es k) (valueAt kvs k)
 |[]=>by rename_i w1;intro al2;refine ac.nilE al2 ?_;clear al2;intro q';subst q';exact True.intro
 |(k',v)::es=>by
  rename_i w1;intro al2;refine ac.consE al2 ?_;clear al2;intro y2' kvs q' ha2 h3;subst q';obtain⟨k'',val⟩:=y2';obtain⟨h1,h2⟩:=ha2;dsimp only at h1;subst h1;unfold bE;rw[fF];induction c:cq k' k using Bool.casesOn with
  |true=>have:=aI.mp c;subst this;rw[if_pos rfl];exact h2
  |false=>rw[if_neg (dI c)];exact fO k h3
theorem cp.ka{v:SV}{j:Int}(h:cp G v j):cP G v (.i j):=by induction v using SV.casesOn<;>first|exact h.elim|((first|subst h|cases h);rfl)
theorem eH.ka{v:SV}{j:Str}(h:eH G v j):cP G v (.s j):=by induction v using SV.casesOn<;>first|exact h.elim|((first|subst h|cases h);rfl)
theorem bz{v:SV}{val:Value}{nx:Nat}(ha:dg v=true)(h:VR G J nx v val):∃j t,cp G v j/\val=.int j t:=by
 induction v using SV.casesOn<;>try(first|exact ai ha|cases ha)
 ·refine xE h ?_;clear h;intro t q1';subst q1';exact⟨_,t,rfl,rfl⟩
 ·refine xE h ?_;clear h;intro t q1';subst q1';exact⟨_,t,rfl,rfl⟩
theorem dD{v:SV}{val:Value}{nx:Nat}(ha:eB v=true)(h:VR G J nx v val):∃j t,eH G v j/\val=.str j t:=by
 induction v using SV.casesOn<;>try(first|exact ai ha|cases ha)
 ·refine xE h ?_;clear h;intro t q1';subst q1';exact⟨_,t,rfl,rfl⟩
 ·refine xE h ?_;clear h;intro t q1';subst q1';exact⟨_,t,rfl,rfl⟩
theorem i'(ok:G.I.Ok){u v:SV}{i j:Int}{t:Bool}(hu:cp G u i)(hv:cp G v j)(h:tO u v=some t):t=decide (i=j):=by rw[jE ok hu.ka hv.ka h];simp
theorem uU(ok:G.I.Ok){u v:SV}{i j:Str}{t:Bool}(hu:eH G u i)(hv:eH G v j)(h:tO u v=some t):t=decide (i=j):=by rw[jE ok hu.ka hv.ka h];simp
theorem bM{u v:SV}(h:cj u v=true):u=v:=by
 induction u using SV.casesOn<;>induction v using SV.casesOn<;>first|exact Bool.noConfusion h|skip
 ·rfl
 ·rw[bl.mp h]
 ·rw[Nat.eq_of_beq_eq_true (Bool.and_eq_true_iff.mp h).1,bl.mp (Bool.and_eq_true_iff.mp h).2]
 ·rw[aI.mp h]
 ·rw[Nat.eq_of_beq_eq_true h]
theorem vu{u v:SV}{i j:Int}(hu:cp G u i)(hv:cp G v j)(h:cj u v=true):i=j:=by rw[<-bM h]at hv;induction u using SV.casesOn<;>first|exact hu.elim|((first|subst hu|cases hu);(first|subst hv|cases hv);rfl)
theorem vt{u v:SV}{i j:Str}(hu:eH G u i)(hv:eH G v j)(h:cj u v=true):i=j:=by rw[<-bM h]at hv;induction u using SV.casesOn<;>first|exact hu.elim|((first|subst hu|cases hu);(first|subst hv|cases hv);rfl)
set_option tactic.hygienic true in
theorem iQ{K:Type}[DecidableEq K]{R:SV->K->Prop}(he:∀u v i j t,R u i->R v j->tO u v=some t->t=decide (i=j)){nx:Nat}{k:SV}{i:K}(hk:R k i):∀{es:List (SV×SV)} {kvs:List (K×Value)} {r:Option SV},ac (λ(x:SV×SV) (y:K×Value)=>R x.1 y.1/\VR G J nx x.2 y.2) es kvs->qx es k=some r->rR G J nx r (valueAt kvs i)
 |[]=>by rename_i w1 r;intro al h;refine ac.nilE al ?_;clear al;intro q';subst q';refine aB h ?_;clear h;intro h1;subst h1;exact True.intro
 |(k',v)::es=>by
  rename_i w1 r;intro al h;refine ac.consE al ?_;clear al;intro y kvs q' ha h3;subst q';obtain⟨k'',val⟩:=y;refine xA ha ?_;clear ha;intro h1 h2;rw[fF];refine ib h ?_ ?_<;>clear h
  ·intro e h;refine aB h ?_;clear h;intro h1;subst h1;have e:=of_decide_eq_true (he _ _ _ _ _ h1 hk e).symm;rw[if_pos e];exact h2
  ·intro e h;have e:=of_decide_eq_false (he _ _ _ _ _ h1 hk e).symm;rw[if_neg e];exact iQ he hk h3 h
theorem kw{k v:SV}:∀{es:List (SV×SV)},D0 es k=some v->∃y,(y,v)∈es/\cj y k=true
 |[]=>by intro h;exact aa h
 |(y,u)::es=>by
  intro h;refine ah h ?_ ?_<;>clear h
  ·intro c h;refine aB h ?_;clear h;intro h1;subst h1;exact⟨y,List.mem_cons_self,c⟩
  ·intro _ h;refine an (kw h) ?_;intro z a b;exact⟨z,List.mem_cons_of_mem _ a,b⟩
theorem eh{K:Type}[DecidableEq K]{knd:KeyKind G.prog G.w K}{h:Heap}{a:Addr}(D:h.DictOf knd a []):∃o ep,h.get? a=some o/\o.ExactDict/\o.data=.dict #[] ep:=by
 refine eZ D ?_;clear D;intro o es ep h1 h2 h3 h4 h5 h6;have:es=#[]:=by obtain⟨l⟩:=es;simp only at h5;cases h5;rfl
 subst this;exact⟨o,ep,h1,h2,h3⟩
theorem fj{K:Type}[DecidableEq K]{knd:KeyKind G.prog G.w K}{h:Heap}{a:Addr}(D:∃o ep,h.get? a=some o/\o.ExactDict/\o.data=.dict #[] ep):h.DictOf knd a []:=by refine ap D ?_;clear D;intro o ep h1 h2 h3;exact⟨o,#[],ep,h1,h2,h3,λ_ he=>by simp at he,Pairs.nil,List.nodup_nil⟩
theorem gH{h:Heap}{a:Addr}(D:∃o ep,h.get? a=some o/\o.ExactDict/\o.data=.dict #[] ep):h.DictOfH (ay G.prog G.w) a []:=by refine ap D ?_;clear D;intro o ep h1 h2 h3;exact⟨o,#[],ep,h1,h2,h3,rfl,λ_ hx=>by simp at hx,List.nodup_nil⟩
theorem qe(D:Gd G Cxt)(r:SR G J S s L){n:Nat}(hn:n<S.next):(J n==sysModules)=false:=by have h1:=r.hp.off n hn;refine xE D.big ?_;intro o h2;rw[beq_eq_false_iff_ne];exact(af h2 h1).symm
theorem iC{x:Str}{t:Tok}:(strKind G.prog G.w).is x (.str x t)=true:=by show Value.isStrOf x (.str x t)=true;unfold Value.isStrOf;simp
theorem iX{x:Int}{t:Tok}:(intKind G.prog G.w).is x (.int x t)=true:=by show Value.isInt x (.int x t)=true;unfold Value.isInt;simp
theorem bq{α:Type}{l:List α}(h:nilE l=true):l=[]:=by induction l using List.casesOn<;>first|rfl|(first|exact ai h|cases h)
theorem qF{γ:Type}{r:γ}{P:Prop}{x1:Mine.SV}{f0:(PySem.Str)->Option γ}{f1:(Mine.SV)->Option γ}(h:(match x1 with|Mine.SV.str a1=>f0 a1|a1=>f1 a1)=some r)(k0:∀a1,x1=Mine.SV.str a1->f0 a1=some r->P)(k1:∀a1,x1=a1->f1 a1=some r->P):P:=by
 obtain⟨z1,e1⟩:∃z,x1=z:=⟨_,rfl⟩
 rw[e1]at h;induction z1 using SV.casesOn with
 |none=>exact k1 _ e1 h
 |bool y1'0=>exact k1 _ e1 h
 |int y1'0=>exact k1 _ e1 h
 |sym y1'0 y1'1=>exact k1 _ e1 h
 |str y1'0=>exact k0 _ e1 h
 |ref y1'0=>exact k1 _ e1 h
 |top y1'0=>exact k1 _ e1 h
 |bi y1'0=>exact k1 _ e1 h
 |ss y1'0=>exact k1 _ e1 h
 |any=>exact k1 _ e1 h
theorem vr{es:List (Str×SV)}{kvs:List (Str×Value)}{k:SV}{kv:Value}{ro:Option SV}{a:Addr}(r:SR G J S s L)(sm:(a==sysModules)=false)(dk:s.heap.DictOf (strKind G.prog G.w) a kvs)(al:ac (λ(x:Str×SV) (y:Str×Value)=>x.1=y.1/\VR G J S.next x.2 y.2) es kvs)(h:ji S.hp es k=some ro)(hk:VR G J S.next k kv):∃rv,bS G s.heap a kv rv/\rR G J S.next ro rv:=by
 unfold ji at h;refine qF h ?_ ?_<;>clear h
 ·intro _ e0' h;subst e0';refine aB h ?_;clear h;intro h1;subst h1;refine xE hk ?_;clear hk;intro t q1';subst q1';exact⟨_,bS.of_keyed dk iC sm,fO _ al⟩
 ·intro _ e0' h;subst e0';refine ab h ?_;clear h;intro c h;rw[Bool.and_eq_true]at c;have c2:=bq c.2;subst c2;refine aB h ?_;clear h;intro h1;subst h1;refine bb (bz c.1 hk) ?_;intro j t n q1';subst q1';rw[aD al]at dk;exact⟨_,bS.of_keyed (knd:=intKind G.prog G.w) (fj (eh dk)) iX sm,True.intro⟩
theorem lw{γ:Type}{r:γ}{P:Prop}{x1:Mine.SV}{f0:(Nat)->Option γ}{f1:(Nat)->Option γ}(h:(match x1 with|Mine.SV.top a1=>f0 a1|Mine.SV.ref a1=>f1 a1|a1=>none)=some r)(k0:∀a1,x1=Mine.SV.top a1->f0 a1=some r->P)(k1:∀a1,x1=Mine.SV.ref a1->f1 a1=some r->P):P:=by
 obtain⟨z1,e1⟩:∃z,x1=z:=⟨_,rfl⟩
 rw[e1]at h;induction z1 using SV.casesOn with
 |ref y1'0=>exact k1 _ e1 h
 |top y1'0=>exact k0 _ e1 h
 |_=>exact aa h
theorem eE{dv k:SV}{dval kv:Value}{ro:Option SV}(D:Gd G Cxt)(r:SR G J S s L)(h:bP Cxt S dv k=some ro)(hd:VR G J S.next dv dval)(hk:VR G J S.next k kv):∃a rv,dval=.ref a/\bS G s.heap a kv rv/\rR G J S.next ro rv:=by
 unfold bP at h;refine lw h ?_ ?_<;>clear h
 ·intro a e0' h;subst e0';refine fU h ?_;clear h;intro es ht h;refine xA (D.td a es ht) ?_;intro sm T;subst hd;unfold uk at h;refine ah h ?_ ?_<;>clear h
  ·intro c h;refine bb (dD c hk) ?_;intro j t n q1';subst q1';refine ab h ?_;clear h;intro c2 h;rcases T with⟨kvs,dk,al⟩|⟨kvs,dk,al⟩
   ·refine pS dk ?_;clear dk;intro o en ep h1 h2;refine⟨_,_,rfl,bS.of_keyed ⟨o,en,ep,r.hp.base _ _ h1,h2⟩ iC sm,iQ (nx:=S.next) (R:=eH G) (λ_ _ _ _ _ a b c=>uU D.ok a b c) n (al.mono λx y q=>⟨?_,q.2 _ _⟩) h⟩;rw[q.1];rfl
   ·cases al with
    |nil=>exact ai c2
    |@cons x y _ _ q _=>obtain⟨x1,x2⟩:=x;have:=q.1;dsimp only at this;subst this;exact ai c2
  ·intro _ h;refine ab h ?_;clear h;intro c h;rw[Bool.and_eq_true]at c;refine xA c ?_;clear c;intro c c2;refine bb (bz c hk) ?_;intro j t n q1';subst q1';rcases T with⟨kvs,dk,al⟩|⟨kvs,dk,al⟩
   ·cases al with
    |nil=>exact ai c2
    |@cons x y _ _ q _=>obtain⟨x1,x2⟩:=x;have:=q.1;dsimp only at this;subst this;exact ai c2
   ·refine pS dk ?_;clear dk;intro o en ep h1 h2;refine⟨_,_,rfl,bS.of_keyed ⟨o,en,ep,r.hp.base _ _ h1,h2⟩ iX sm,iQ (nx:=S.next) (R:=cp G) (λ_ _ _ _ _ a b c=>i' D.ok a b c) n (al.mono λx y q=>⟨?_,q.2 _ _⟩) h⟩;rw[q.1];rfl
 ·intro n e0' h;subst e0';refine xA hd ?_;clear hd;intro hn q1';subst q1';have sm:=qe D r hn;refine lx h ?_ ?_ ?_ ?_ ?_<;>clear h
  ·intro es ho h;refine an (r.named hn ho) ?_;intro kvs dk al;refine an (vr r sm dk al h hk) ?_;intro rv a1 a2;exact⟨_,rv,rfl,a1,a2⟩
  ·intro es ho h;refine an (r.named hn ho) ?_;intro kvs dk al;refine ab h ?_;clear h;intro c h;refine bb (bz c hk) ?_;intro j t n q1';subst q1';exact⟨_,_,rfl,bS.of_keyed dk iX sm,iQ (R:=cp G) (λ_ _ _ _ _ a b c=>i' D.ok a b c) n al h⟩
  ·intro o es ho h;refine an (r.named hn ho) ?_;intro xs q1' al;obtain⟨dk,nd⟩:=q1';refine cV h ?_;clear h;intro sk e h;refine cM (dw r.hp e hk) ?_;intro m kd e' hm q1';subst q1';intro k1 k2;refine⟨_,_,rfl,bS.of_heap dk k2 sm,?_⟩;rw[cD xs _ kd nd];unfold Bl at h;induction e2:i7 sk es using Option.casesOn with
   |none=>rw[e2]at h;exact aa h
   |some ov=>
   rw[e2]at h;have F:=d9 D.ok k1 al e2;induction ov using Option.casesOn with
   |some v=>refine aB h ?_;clear h;intro h1;subst h1;refine an F ?_;clear F;intro val f1 f2;rw[f1];exact f2
   |none=>
    rw[F.1];dsimp only at h;show rR G J S.next ro ((atKey (G.I.od o) kd).map (·.2));refine ah h ?_ ?_<;>clear h
    ·intro c h;have c:=Nat.eq_of_beq_eq_true c;subst c;refine aB h ?_;clear h;intro h1;subst h1;rw[D.ok.d0];exact True.intro
    ·intro _ h;have q:=D.dq _ _ _ _ h k1;induction ro using Option.casesOn with
     |none=>rw[q];exact True.intro
     |some v=>refine an q ?_;clear q;intro p q1 q2;rw[q1];exact q2 _ _
  ·intro es ho h;refine an (r.named hn ho) ?_;intro kvs dk al;refine ab h ?_;clear h;intro c h;refine bb (dD c hk) ?_;intro j t n q1';subst q1';refine an (Option.map_eq_some_iff.mp h) ?_;intro v e q1';subst q1';refine an (kw e) ?_;intro y y1 y2;refine ap (al _ y1) ?_;intro k' val z1 z2 z3;have:=vt z1 n y2;subst this;refine⟨_,_,rfl,bS.of_keyed dk iC sm,?_⟩;rw[z2];exact z3
  ·intro es ho h;refine an (r.named hn ho) ?_;intro kvs dk al;refine ab h ?_;clear h;intro c h;refine bb (bz c hk) ?_;intro j t n q1';subst q1';refine an (Option.map_eq_some_iff.mp h) ?_;intro v e q1';subst q1';refine an (kw e) ?_;intro y y1 y2;refine ap (al _ y1) ?_;intro k' val z1 z2 z3;have:=vu z1 n y2;subst this;refine⟨_,_,rfl,bS.of_keyed dk iX sm,?_⟩;rw[z2];exact z3
section
open SeqAt (EqAt RcAt)
noncomputable def Ds:Value->Value->Bool
 |.int i _,.int j _=>i==j
 |.str a _,.str b _=>a==b
 |.none,.none=>true
 |_,_=>false
theorem wI(i j:Str):cq i j=(i==j):=by
 induction c:cq i j using Bool.casesOn with
 |true=>rw[aI.mp c];simp
 |false=>simp[dI c]
theorem tL(ok:G.I.Ok){a b:SV}{va vb:Value}{t:Bool}{nx:Nat}(ha:VR G J nx a va)(hb:VR G J nx b vb)(h:tO a b=some t):Ds va vb=t/\EqAt A s va vb t/\RcAt A s va vb t:=by
 refine uV h ?_ ?_ ?_ ?_
 ·intro c1 c2 _;refine bb (bz c1 ha) ?_;intro i t1 n1 e;subst e;refine bb (bz c2 hb) ?_;intro j t2 n2 e;subst e;have:t=(i==j):=i' ok n1 n2 h;rw[this];exact⟨rfl,EqAt.int_int _ _ _ _,RcAt.int_int _ _ _ _⟩
 ·intro c1 c2 _;refine bb (dD c1 ha) ?_;intro i t1 n1 e;subst e;refine bb (dD c2 hb) ?_;intro j t2 n2 e;subst e;have:t=(i==j):=(uU ok n1 n2 h).trans (by rw[<-yJ,wI]);rw[this];exact⟨rfl,EqAt.str_str _ _ _ _,RcAt.str_str _ _ _ _⟩
 ·intro c1 c2 e;subst e;refine bb (bz c1 ha) ?_;intro i t1 n1 e;subst e;refine bb (dD c2 hb) ?_;intro j t2 n2 e;subst e;exact⟨rfl,EqAt.int_str _ _ _ _,RcAt.int_str _ _ _ _⟩
 ·intro c1 c2 e;subst e;refine bb (dD c1 ha) ?_;intro i t1 n1 e;subst e;refine bb (bz c2 hb) ?_;intro j t2 n2 e;subst e;exact⟨rfl,EqAt.str_int _ _ _ _,RcAt.str_int _ _ _ _⟩
set_option tactic.hygienic true in
theorem lW(ok:G.I.Ok){v:SV}{val:Value}{nx:Nat}(hv:VR G J nx v val):∀{xs:List SV} {ys:List Value} {t:Bool},ac (VR G J nx) xs ys->ve v xs=some t->(∀y,y∈ys->EqAt A s y val (Ds y val))/\ys.any (λy=>Ds y val)=t
 |[]=>by rename_i w1 t;intro al3;refine ac.nilE al3 ?_;clear al3;intro q';subst q';intro h;refine aB h ?_;clear h;intro h1;subst h1;exact⟨λ_ h=>by simp at h,rfl⟩
 |x::xs=>by
  rename_i w1 t;intro al3;refine ac.consE al3 ?_;clear al3;intro y ys q' h1 h2;subst q';intro h;refine rq h ?_;clear h;intro t1 t2 e1 e2 h;refine aB h ?_;clear h;intro h1;subst h1;obtain⟨a1,a2,_⟩:=tL (A:=A) (s:=s) ok h1 hv e1;refine xA (lW ok hv h2 e2) ?_;intro b1 b2;refine⟨λz hz=>?_,?_⟩
  ·rcases List.mem_cons.mp hz with rfl|hz
   ·rw[a1];exact a2
   ·exact b1 z hz
  ·rw[List.any_cons,a1,b2]
theorem aG.anyA{p p':Program}{w w':World}{h:Heap}{ks:List KA}{vs:List Value}(x:aG (bJ (prog:=p) (w:=w)) h ks vs):aG (bJ (prog:=p') (w:=w')) h ks vs:=by
 induction x with
 |nil=>exact .nil
 |cons h1 _ ih=>exact .cons h1 ih
theorem cI.anyA{p p':Program}{w w':World}{h:Heap}{ks:List KA}{a:Addr}(x:cI (bJ (prog:=p) (w:=w)) h ks a):cI (bJ (prog:=p') (w:=w')) h ks a:=by refine fE x ?_;clear x;intro o it n h1 h2 h3 h4;exact⟨o,it,n,h1,h2,h3,h4.anyA⟩
theorem aG.anyI{p p':Program}{w w':World}{h:Heap}{ks:KD}{vs:List Value}(x:aG (ak p w) h ks vs):aG (ak p' w') h ks vs:=by
 induction x with
 |nil=>exact .nil
 |@cons k v ks vs h1 _ ih=>
  refine .cons ?_ ih;induction k using KI.casesOn with
  |a q=>exact h1
  |t q=>obtain⟨a,rfl,h2⟩:=h1;exact⟨a,rfl,h2.anyA⟩
theorem cI.anyI{p p':Program}{w w':World}{h:Heap}{ks:KD}{a:Addr}(x:cI (ak p w) h ks a):cI (ak p' w') h ks a:=by refine fE x ?_;clear x;intro o it n h1 h2 h3 h4;exact⟨o,it,n,h1,h2,h3,h4.anyI⟩
theorem qo{M:Model}{a b:Value}{Q:Value->Shared->Prop}(h:wpAny M A (compareOp .In a b) (λv s'=>∃t,v=.bool t/\Q (.bool (!t)) s') E s):wpAny M A (compareOp .NotIn a b) Q E s:=by have h:wpAny M A (PySem.contains b a>>=λr=>pure (Value.bool r)) (λv s'=>∃t,v=.bool t/\Q (.bool (!t)) s') E s:=h;show wpAny M A (PySem.contains b a>>=λr=>pure (Value.bool (!r))) Q E s;refine wpAny_bind ?_;intro Γ p hΓ;have q:=h Γ p hΓ;rw[Sem.wp_bind']at q;refine Sem.wp_mono M Γ _ (λr p' s' hr=>?_) (λ_ _ _ z=>z) p s q;refine an hr ?_;clear hr;intro t e hq;cases e;exact wpAny_pure hq
theorem uK(c:Nat):∀l:List Nat,qu c l=decide (c∈l)
 |[]=>rfl
 |x::r=>by
  unfold qu;induction h:Nat.beq x c using Bool.casesOn with
  |true=>have:=Nat.eq_of_beq_eq_true h;subst this;simp
  |false=>have:=Nat.ne_of_beq_eq_false h;have h':¬c=x:=λq=>this q.symm;rw[uK c r];simp[h']
set_option tactic.hygienic true in
open Classical in
theorem j3{a b:SV}{va vb:Value}{t:Bool}{Q:Value->Shared->Prop}(D:Gd G Cxt)(r:SR G J S s L)(hu:A.units+10<cLine)(ha:VR G J S.next a va)(hb:VR G J S.next b vb)(h:contains Cxt S a b=some t)(q:∀tk,Q (.bool t) {s with toks:=tk}):wpAny (model G.prog G.w) A (compareOp .In va vb) Q E s:=by
 have viaDict:∀{ro:Option SV},bP Cxt S b a=some ro->ro.isSome=t->wpAny (model G.prog G.w) A (compareOp .In va vb) Q E s:=by
  intro ro h1 h2;refine ap (eE D r h1 hb ha) ?_;intro d rv q1';subst q1';intro g o;refine g.isIn (by exact aU ‹_› (by decide)) λtk=>?_;have:rv.isSome=t:=by rw[<-h2];induction ro using Option.casesOn<;>induction rv using Option.casesOn<;>first|rfl|exact o.elim
  rw[this];exact q tk
 unfold contains at h;induction b using SV.casesOn<;>(try dsimp only at h)<;>try(first|exact aa h|cases h)
 ·
  induction a using SV.casesOn<;>(try dsimp only at h)<;>try(first|exact aa h|cases h)
  rename_i y x;refine vK h ?_;clear h;intro n e h;refine aB h ?_;clear h;intro h1;subst h1;refine xE ha ?_;clear ha;intro t1 q1';subst q1';refine xE hb ?_;clear hb;intro t2 q1';subst q1';refine PyProof.Rows.in_str ?_;have e':x=⟨#[n]⟩:=by obtain⟨⟨l⟩⟩:=x;simp only at e;rw[e]
  rw[e',PySem.StrLaws.found_one,<-uK];exact q _
 ·
  rename_i n;have hb':=hb;refine xA hb ?_;clear hb;intro hn q1';subst q1';have elsewhere:(bP Cxt S (.ref n) a).map (·.isSome)=some t->wpAny (model G.prog G.w) A (compareOp .In va (.ref (J n))) Q E s:=by intro h;refine an (Option.map_eq_some_iff.mp h) ?_;intro ro h1 h2;exact viaDict h1 h2
  induction ho:S.hp.get n using Option.casesOn with
  |none=>rw[ho]at h;exact elsewhere h
  |some o=>
  rw[ho]at h;induction o using SO.casesOn<;>(try dsimp only at h)<;>try(exact elsewhere h)
  ·rename_i o es;refine cV h ?_;clear h;intro sk e h;refine an (r.named hn ho) ?_;intro xs q1' al;obtain⟨dk,nd⟩:=q1';refine cM (dw r.hp e ha) ?_;intro m kd e' hm q1';subst q1';intro k1 k2;refine(bS.of_heap dk k2 (qe D r hn)).isIn (by exact aU ‹_› (by decide)) λtk=>?_;rw[cD xs _ kd nd];induction e2:i7 sk es using Option.casesOn with
   |none=>rw[e2]at h;exact aa h
   |some ov=>
   rw[e2]at h;have F:=d9 D.ok k1 al e2;induction ov using Option.casesOn with
   |some v=>refine aB h ?_;clear h;intro h1;subst h1;refine an F ?_;clear F;intro val f1 f2;rw[f1];exact q tk
   |none=>
    rw[F.1];dsimp only at h;show Q (.bool ((atKey (G.I.od o) kd).map (·.2)).isSome) _;rw[Option.isSome_map];refine ah h ?_ ?_<;>clear h
    ·intro c h;have c:=Nat.eq_of_beq_eq_true c;subst c;refine aB h ?_;clear h;intro h1;subst h1;rw[D.ok.d0];exact q tk
    ·intro _ h;rw[D.din _ _ _ _ h k1];exact q tk
  ·rename_i xs;refine ab h ?_;clear h;intro _ h;refine an (r.named hn ho) ?_;intro items q1' al;obtain⟨ht,hz⟩:=q1';obtain⟨f1,f2⟩:=lW (A:=A.in1) (s:=s) D.ok ha al h;refine SeqAt.in_tupleAt (λy=>Ds y va) ht (λy hy=>f1 y (Array.mem_toList_iff.mpr hy)) ?_;rw[<-Array.any_toList,f2];exact q s.toks
  ·rename_i o xs;refine ap (r.named hn ho) ?_;intro items ys q1' c1 al;obtain⟨hl,hz⟩:=q1';have hl:=hl.isList;refine ah h ?_ ?_<;>clear h
   ·intro c h;have c:=Nat.eq_of_beq_eq_true c;subst c;rw[D.ok.l0,List.nil_append]at c1;subst c1;induction xs using List.casesOn with
    |nil=>
     refine aB h ?_;clear h;intro h1;subst h1;have:=aD al;refine SeqAt.in_listAt (λ_=>false) hl (λy hy=>?_) ?_
     ·have:=Array.mem_toList_iff.mpr hy;simp_all
     ·rw[<-Array.any_toList,aD al];exact q s.toks
    |cons x xs=>dsimp only at h;refine ab h ?_;clear h;intro _ h;obtain⟨f1,f2⟩:=lW (A:=A.in1) (s:=s) D.ok ha al h;refine SeqAt.in_listAt (λy=>Ds y va) hl (λy hy=>f1 y (Array.mem_toList_iff.mpr hy)) ?_;rw[<-Array.any_toList,f2];exact q s.toks
   ·intro _ h;refine ly h ?_;clear h;intro sk e0' e h;subst e0';refine cM (dw r.hp e ha) ?_;intro m kd e' hm q1';subst q1';intro k1 k2;rw[aD al,List.append_nil]at c1;refine xA (D.inq _ _ _ _ h k1) ?_;intro f1 f2;have up:∀{kd' a},cI (ak G.prog G.w) G.h1 kd' a->cI (ak G.prog G.w) s.heap kd' a:=λx=>x.keeps_i G.prog G.w r.hp.tk;refine SeqAt.in_listAt (λy=>decide (∃a,y=.ref a/\cI (ak G.prog G.w) G.h1 kd a)) hl (λy hy=>?_) ?_
    ·have hy:=Array.mem_toList_iff.mpr hy;rw[c1]at hy;refine bb (f1 y hy) ?_;intro a kd' q1';subst q1';intro k3;intro p w' E' Q' hq;refine jb (K:=KI) (ik:=ak p w') (by show A.in1.units+(1+1)<cLine;simp only[Around.in1_units];exact aY ‹_› (by decide)) (up k3).anyI k2.anyI ?_;have:decide (∃a',Value.ref a=.ref a'/\cI (ak G.prog G.w) G.h1 kd a')=decide (kd'=kd):=by
      by_cases c:kd'=kd
      ·subst c;rw[decide_eq_true rfl,decide_eq_true];exact⟨a,rfl,k3⟩
      ·rw[decide_eq_false c,decide_eq_false];rintro⟨a',e,k4⟩;cases e;exact c (k3.inj k4)
     rw[<-this];exact hq
    ·have:items.any (λy=>decide (∃a,y=.ref a/\cI (ak G.prog G.w) G.h1 kd a))=t:=by
      rw[<-Array.any_toList,c1,Bool.eq_iff_iff,f2,List.any_eq_true]
      constructor
      ·rintro⟨v,hv,e⟩;exact⟨v,hv,of_decide_eq_true e⟩
      ·rintro⟨v,hv,e⟩;exact⟨v,hv,decide_eq_true e⟩
     rw[this];exact q s.toks
 ·refine an (Option.map_eq_some_iff.mp h) ?_;intro ro h1 h2;exact viaDict h1 h2
end
section
open SeqAt (EqAt RcAt)
theorem mU{a:SV}{va:Value}{t:Bool}{nx:Nat}(ha:VR G J nx a va)(h:isNone a=some t):(va==Value.none)=t/\plainIs va .none=true:=by
 induction a using SV.casesOn<;>(first|exact aa h|(refine aB h ?_;clear h;intro h1;subst h1)|cases h)
 ·subst ha;exact⟨rfl,rfl⟩
 ·refine xE ha ?_;clear ha;intro t q1';subst q1';exact⟨rfl,rfl⟩
 ·refine xE ha ?_;clear ha;intro t q1';subst q1';exact⟨rfl,rfl⟩
 ·refine xA ha ?_;clear ha;intro _ q1';subst q1';exact⟨rfl,rfl⟩
 ·subst ha;exact⟨rfl,rfl⟩
 ·refine xE ha ?_;clear ha;intro t q1';subst q1';exact⟨rfl,rfl⟩
theorem nQ(ok:G.I.Ok){a:SV}{va:Value}{lo hi:Int}{nx:Nat}(ha:VR G J nx a va)(h:C4 a=some (lo,hi)):∃i t,va=.int i t/\lo<=i/\i<=hi:=by
 unfold C4 at h;refine qP h ?_ ?_<;>clear h
 ·intro _ e0' h;subst e0';refine gS h ?_;clear h;intro h1 h2;subst h1;subst h2;refine xE ha ?_;clear ha;intro t q1';subst q1';exact⟨_,t,rfl,Int.le_refl _,Int.le_refl _⟩
 ·intro x k e0' h;subst e0';refine xE ha ?_;clear ha;intro t q1';subst q1';refine h8 h ?_;clear h;intro l h' e h;refine gS h ?_;clear h;intro h1 h2;subst h1;subst h2;have:=ok.rg x _ _ e;exact⟨_,t,rfl,by lia,by lia⟩
set_option tactic.hygienic true in
theorem xt(ok:G.I.Ok){a b:SV}{va vb:Value}{t:Bool}{nx:Nat}(ha:VR G J nx a va)(hb:VR G J nx b vb)(h:EL a b=some t):∃i j t1 t2,va=.int i t1/\vb=.int j t2/\decide (i<j)=t:=by
 unfold EL at h;refine mW h ?_;clear h;intro l1 h1 l2 h2 e1 e2 h;refine ap (nQ ok ha e1) ?_;intro i t1 q1';subst q1';intro a1 a2;refine ap (nQ ok hb e2) ?_;intro j t2 q1';subst q1';intro b1 b2;refine⟨i,j,t1,t2,rfl,rfl,?_⟩;refine xQ h ?_ ?_<;>clear h
 ·intro c h;refine aB h ?_;clear h;intro h1;subst h1;rw[ci,decide_eq_false_iff_not]at c;rw[decide_eq_true_eq];lia
 ·intro _ h;split at h
  ·rename_i c1 c;refine aB h ?_;clear h;intro h1;subst h1;rw[ci,decide_eq_true_eq]at c;rw[decide_eq_false_iff_not];lia
  ·exact aa h
set_option tactic.hygienic true in
theorem xG(ok:G.I.Ok){a b:SV}{va vb:Value}{t:Bool}{nx:Nat}(ha:VR G J nx a va)(hb:VR G J nx b vb)(h:EN a b=some t):∃i j t1 t2,va=.int i t1/\vb=.int j t2/\decide (i<=j)=t:=by
 unfold EN at h;refine mW h ?_;clear h;intro l1 h1 l2 h2 e1 e2 h;refine ap (nQ ok ha e1) ?_;intro i t1 q1';subst q1';intro a1 a2;refine ap (nQ ok hb e2) ?_;intro j t2 q1';subst q1';intro b1 b2;refine⟨i,j,t1,t2,rfl,rfl,?_⟩;refine ah h ?_ ?_<;>clear h
 ·intro c h;refine aB h ?_;clear h;intro h1;subst h1;rw[ci,decide_eq_true_eq]at c;rw[decide_eq_true_eq];lia
 ·intro _ h;split at h
  ·rename_i c1 c;refine aB h ?_;clear h;intro h1;subst h1;rw[ci,decide_eq_false_iff_not]at c;rw[decide_eq_false_iff_not];lia
  ·exact aa h
theorem AK{op:CmpOp}{a b:SV}{va vb:Value}{t:Bool}{Q:Value->Shared->Prop}(D:Gd G Cxt)(r:SR G J S s L)(hu:A.units+10<cLine)(ha:VR G J S.next a va)(hb:VR G J S.next b vb)(h:yO Cxt S op a b=some t)(q:∀tk,Q (.bool t) {s with toks:=tk}):wpAny (model G.prog G.w) A (compareOp op va vb) Q E s:=by
 have q0:Q (.bool t) s:=q s.toks;unfold yO at h;induction op using PySem.CmpOp.casesOn<;>dsimp only at h
 ·exact(tL D.ok ha hb h).2.2 G.prog G.w E Q q0
 ·refine ab h ?_;clear h;intro c h;refine an (Option.map_eq_some_iff.mp h) ?_;intro u h1 q1';subst q1';have w:=(tL (A:=A) (s:=s) D.ok ha hb h1).1;unfold A4 at c;rcases Bool.or_eq_true_iff.mp c with c|c
  ·refine xA (Bool.and_eq_true_iff.mp c) ?_;intro c1 c2;refine bb (bz c1 ha) ?_;intro i t1 n1 e;subst e;refine bb (bz c2 hb) ?_;intro j t2 n2 e;subst e;refine PyProof.Rows.ne_int ?_;rw[<-w]at q0;exact q0
  ·refine xA (Bool.and_eq_true_iff.mp c) ?_;intro c1 c2;refine bb (dD c1 ha) ?_;intro i t1 n1 e;subst e;refine bb (dD c2 hb) ?_;intro j t2 n2 e;subst e;refine PyProof.Rows.ne_str ?_;rw[<-w]at q0;exact q0
 ·refine j' (xt D.ok ha hb h) ?_;intro i j t1 t2 q1';subst q1';intro q2';subst q2';intro e;exact PyProof.Rows.lt_int (by rw[e];exact q0)
 ·refine j' (xG D.ok ha hb h) ?_;intro i j t1 t2 q1';subst q1';intro q2';subst q2';intro e;exact PyProof.Rows.le_int (by rw[e];exact q0)
 ·refine j' (xt D.ok hb ha h) ?_;intro i j t1 t2 q1';subst q1';intro q2';subst q2';intro e;exact PyProof.Rows.gt_int (by rw[e];exact q0)
 ·refine j' (xG D.ok hb ha h) ?_;intro i j t1 t2 q1';subst q1';intro q2';subst q2';intro e;exact PyProof.Rows.ge_int (by rw[e];exact q0)
 ·refine ie h ?_;clear h;intro e0' h;subst e0';subst hb;refine is_none ?_;rw[(mU ha h).1];exact q0
 ·refine ie h ?_;clear h;intro e0' h;subst e0';refine an (Option.map_eq_some_iff.mp h) ?_;intro u h1 q1';subst q1';subst hb;refine xA (mU ha h1) ?_;intro e1 e2;refine wpAny_isNot_plain e2 ?_;rw[e1];exact q0
 ·exact j3 D r hu ha hb h q
 ·refine an (Option.map_eq_some_iff.mp h) ?_;intro u h1 q1';subst q1';exact qo (j3 D r hu ha hb h1 λtk=>⟨_,rfl,q tk⟩)
end
set_option tactic.hygienic true in
theorem uE{α:Type}:∀{l:List α} {i:Nat} {x:α},nth l i=some x->l[i]?=some x
 |[],_=>by intro h;exact aa h
 |y::r,0=>by rename_i x;intro h;refine aB h ?_;clear h;intro h1;subst h1;rfl
 |y::r,i+1=>by rename_i x;intro h;rw[List.getElem?_cons_succ];exact uE h
theorem fH{i n:Nat}(h:i<n):seqIndex? (Int.ofNat i) n=some i:=by
 unfold seqIndex?;have h1:¬(Int.ofNat i<0):=by show¬((i:Int)<0);simp
 simp only[h1,if_false];have h2:(decide ((0:Int)<=Int.ofNat i)&&decide (Int.ofNat i<(n:Int)))=true:=by
  rw[Bool.and_eq_true,decide_eq_true_eq,decide_eq_true_eq];constructor
  ·show(0:Int)<=(i:Int);exact Int.natCast_nonneg _
  ·show(i:Int)<(n:Int);lia
 rw[if_pos h2];rfl
theorem kW{o i:Nat}{k:SV}{kv:Value}{nx:Nat}(ok:G.I.Ok)(h:qj o k=some i)(hk:VR G J nx k kv):∃t,kv=.int (((G.I.ol o).length+i:Nat):Int) t:=by
 unfold qj at h;refine qI h ?_ ?_<;>clear h
 ·intro _ e0' h;subst e0';refine ab h ?_;clear h;intro c h;have c:=Nat.eq_of_beq_eq_true c;subst c;cases(Option.some.inj h);obtain⟨t,rfl⟩:=hk;exact⟨t,by rw[ok.l0];show Value.int (i:Int) t=_;simp⟩
 ·intro _ _ e0' h;subst e0';refine qJ h ?_;clear h;intro c1 c2 h;have c1:=Nat.ne_of_beq_eq_false c1;have c2:=Nat.eq_of_beq_eq_true c2;subst c2;cases(Option.some.inj h);obtain⟨t,rfl⟩:=hk;exact⟨t,by rw[ok.len o c1];show Value.int (_+(i:Int)) t=_;simp⟩
theorem rQ{xs:List SV}{v:SV}:∀{l:List Nat},zc xs v l=true->∀j∈l,nth xs j=some v
 |[]=>by intro _ j m;cases m
 |i::r=>by
  intro h j m;refine ph h ?_;clear h;intro u e h;refine cb h ?_;clear h;intro e2 h;rcases List.mem_cons.mp m with rfl|m
  ·rw[e,bM e2]
  ·exact rQ h j m
theorem za{xs:List SV}{v:SV}{l:List Nat}(h:zb xs l=some v):l≠[]/\∀j∈l,nth xs j=some v:=by unfold zb at h;refine tf h ?_;clear h;intro _ _ e0' h;subst e0';refine dE h ?_;clear h;intro _ _ h;refine ab h ?_;clear h;intro e h;refine aB h ?_;clear h;intro h1;subst h1;exact⟨λh=>(by cases h),rQ e⟩
theorem tl{γ:Type}{r:γ}{P:Prop}{x1:Mine.SV}{f0:(PySem.Str)->Option γ}{f1:(Nat)->Option γ}(h:(match x1 with|Mine.SV.str a1=>f0 a1|Mine.SV.ref a1=>f1 a1|a1=>none)=some r)(k0:∀a1,x1=Mine.SV.str a1->f0 a1=some r->P)(k1:∀a1,x1=Mine.SV.ref a1->f1 a1=some r->P):P:=by
 obtain⟨z1,e1⟩:∃z,x1=z:=⟨_,rfl⟩
 rw[e1]at h;induction z1 using SV.casesOn with
 |str y1'0=>exact k0 _ e1 h
 |ref y1'0=>exact k1 _ e1 h
 |_=>exact aa h
theorem tq{γ:Type}{r:γ}{P:Prop}{x1:Mine.SV}{f0:(Nat)->Option γ}(h:(match x1 with|Mine.SV.int (Int.ofNat a1)=>f0 a1|a1=>none)=some r)(k0:∀a1,x1=Mine.SV.int (Int.ofNat a1)->f0 a1=some r->P):P:=by
 obtain⟨z1,e1⟩:∃z,x1=z:=⟨_,rfl⟩
 rw[e1]at h;induction z1 using SV.casesOn with
 |int y1'0=>
  induction y1'0 using Int.casesOn with
  |ofNat y2'0=>exact k0 _ e1 h
  |_=>exact aa h
 |_=>exact aa h
theorem to{γ:Type}{r:γ}{P:Prop}{x1:Mine.SV}{f0:(Nat)->Option γ}{f1:(Nat)->Option γ}(h:(match x1 with|Mine.SV.int (Int.ofNat a1)=>f0 a1|Mine.SV.sym a1 (Int.ofNat 0)=>f1 a1|a1=>none)=some r)(k0:∀a1,x1=Mine.SV.int (Int.ofNat a1)->f0 a1=some r->P)(k1:∀a1,x1=Mine.SV.sym a1 (Int.ofNat 0)->f1 a1=some r->P):P:=by
 obtain⟨z1,e1⟩:∃z,x1=z:=⟨_,rfl⟩
 rw[e1]at h;induction z1 using SV.casesOn with
 |int y1'0=>
  induction y1'0 using Int.casesOn with
  |ofNat y2'0=>exact k0 _ e1 h
  |_=>exact aa h
 |sym y1'0 y1'1=>
  induction y1'1 using Int.casesOn with
  |ofNat y2'0=>
   induction y2'0 using Nat.casesOn with
   |zero=>exact k1 _ e1 h
   |_=>exact aa h
  |_=>exact aa h
 |_=>exact aa h
theorem tm{γ:Type}{r:γ}{P:Prop}{x1:Option (Option Mine.SV)}{f0:(Mine.SV)->Option γ}(h:(match x1 with|Option.some (Option.some a1)=>f0 a1|a1=>none)=some r)(k0:∀a1,x1=Option.some (Option.some a1)->f0 a1=some r->P):P:=by
 obtain⟨z1,e1⟩:∃z,x1=z:=⟨_,rfl⟩
 rw[e1]at h;induction z1 using Option.casesOn with
 |some y1'0=>
  induction y1'0 using Option.casesOn with
  |some y2'0=>exact k0 _ e1 h
  |_=>exact aa h
 |_=>exact aa h
theorem Ce{k:SV}{i:Int}{kv:Value}{nx:Nat}(n:cp G k i)(h:VR G J nx k kv):∃t,kv=.int i t:=by induction k using SV.casesOn<;>first|exact n.elim|((first|subst n|cases n);exact h)
theorem uO{o k v:SV}{oval kv:Value}{Q:Value->Shared->Prop}(D:Gd G Cxt)(r:SR G J S s L)(hu:A.units+10<cLine)(ho:VR G J S.next o oval)(hk:VR G J S.next k kv)(h:item Cxt S o k=some v)(q:aj G X L J S s v S Q):wpAny (model G.prog G.w) A (getItem oval kv) Q E s:=by
 have viaDict:(match bP Cxt S o k with|some (some v)=>some v|_=>none)=some v->wpAny (model G.prog G.w) A (getItem oval kv) Q E s:=by
  intro h;refine tm h ?_;clear h;intro v' e h;refine aB h ?_;clear h;intro h1;subst h1;refine ap (eE D r e ho hk) ?_;intro d rv q1';subst q1';intro g ov;induction rv using Option.casesOn with
  |none=>exact ov.elim
  |some val=>exact g.item (by exact aU ‹_› (by decide)) λtk=>q.tok r ov
 unfold item at h;refine tl h ?_ ?_<;>clear h
 ·intro x e0' h;clear viaDict;subst e0';refine tq h ?_;clear h;intro i e0' h;subst e0';refine ab h ?_;clear h;intro hb h;have hb:=Nat.le_of_ble_eq_true hb;refine an (Option.map_eq_some_iff.mp h) ?_;intro c e q1';subst q1';refine xE ho ?_;clear ho;intro t q1';subst q1';refine xE hk ?_;clear hk;intro t' q1';subst q1';have e:=uE e;have e':x.cps[i]?=some c:=by rw[<-Array.getElem?_toList];exact e
  have hlt:i<x.length:=by have:=Array.getElem?_eq_some_iff.mp e';exact this.1
  refine PyProof.Rows.getItem_str ?_ ?_ (q.tok r ⟨_,rfl⟩)
  ·rw[Bool.or_eq_false_iff,decide_eq_false_iff_not,decide_eq_false_iff_not];constructor
   ·show¬((i:Int)< -(2^63));simp
   ·show¬((i:Int)>=2^63);lia
  ·rw[fH hlt,Option.bind_some];exact e'
 ·intro n e0' h;subst e0';refine vO h ?_ ?_ ?_ ?_<;>clear h
  ·intro xs e h;clear viaDict;refine xA ho ?_;clear ho;intro hn q1';subst q1';refine an (r.named hn e) ?_;intro items q1' al;obtain⟨ht,hz⟩:=q1';have go:∀(i:Nat),nth xs i=some v->(∃t,kv=.int (i:Int) t)->wpAny (model G.prog G.w) A (getItem (.ref (J n)) kv) Q E s:=by
    intro i h hk;refine xE hk ?_;clear hk;intro t' q1';subst q1';refine an (al.nth h) ?_;intro val e1 e2;have e1':items[i]?=some val:=by rw[<-Array.getElem?_toList];exact e1
    have hlt:i<items.size:=(Array.getElem?_eq_some_iff.mp e1').1;exact PyProof.Rows.getItem_tuple ht (by show -(2^63)<=(i:Int);exact Int.natCast_nonneg _) (by show(i:Int)<2^63;lia) (fH hlt) e1' (q.now r e2)
   refine to h ?_ ?_<;>clear h
   ·intro i e0' h;subst e0';exact go i h hk
   ·intro x e0' h;subst e0';refine xA (za h) ?_;intro hne hall;refine an (D.ok.ch x hne) ?_;intro j hj ej;refine xE hk ?_;clear hk;intro t hk;exact go j (hall j hj) ⟨t,by rw[hk,ej];congr 1⟩
  ·intro o xs e h;clear viaDict;refine xA ho ?_;clear ho;intro hn q1';subst q1';refine ap (r.named hn e) ?_;intro items ys q1' c1 al;obtain⟨hl,hz⟩:=q1';have hl:=hl.isList;refine bU h ?_;clear h;intro i e3 h;refine xE (kW D.ok e3 hk) ?_;intro t q1';subst q1';refine an (al.nth h) ?_;intro val e1 e2;have e1':items[(G.I.ol o).length+i]?=some val:=by rw[<-Array.getElem?_toList,c1,List.getElem?_append_right (by exact Nat.le_add_right _ _)];rw[Nat.add_sub_cancel_left];exact e1
   have hlt:(G.I.ol o).length+i<items.size:=(Array.getElem?_eq_some_iff.mp e1').1;exact wpAny_getItem_list hl (by exact Int.natCast_nonneg _) (by lia) (by rw[Int.toNat_natCast];exact e1') (q.now r e2)
  ·intro o es xs e h;clear viaDict;refine xA ho ?_;clear ho;intro hn q1';subst q1';refine gd (r.named hn e) ?_;intro items ys q1' q2' al f;obtain⟨hl,hz⟩:=q1';obtain⟨c1,c2⟩:=q2';have hl:=hl.isList;refine an (kw h) ?_;intro y y1 y2;refine ap (f _ y1) ?_;intro i val z1 z2 z3;have e0:=bM y2;rw[e0]at z1;refine xE (Ce z1 hk) ?_;intro t q1';subst q1';have hlt:i<(G.I.ol o).length:=(List.getElem?_eq_some_iff.mp z2).1;have e1':items[i]?=some val:=by rw[<-Array.getElem?_toList,c1,List.getElem?_append_left hlt];exact z2
   have hlt:i<items.size:=(Array.getElem?_eq_some_iff.mp e1').1;exact wpAny_getItem_list hl (by exact Int.natCast_nonneg _) (by lia) (by rw[Int.toNat_natCast];exact e1') (q.now r z3)
  ·intro _ _ h;exact viaDict h
theorem gj{K:Type}[DecidableEq K]{x:K×Value}{r:List (K×Value)}{k:K}(v:Value)(h:x.1=k)(hn:k∉r.map (·.1)):stored (x::r) k v=(x.1,v)::r:=by
 unfold stored;rw[if_pos (by rw[List.any_cons];simp[h]),List.map_cons,if_pos h];congr 1;have:∀y∈r,(if y.1=k then(y.1,v)else y)=y:=λy hy=>if_neg λq=>hn (List.mem_map.mpr ⟨y,hy,q⟩);conv=>rhs;rw[<-List.map_id r]
 exact List.map_congr_left this
theorem gi{K:Type}[DecidableEq K]{x:K×Value}{r:List (K×Value)}{k:K}(v:Value)(h:¬x.1=k):stored (x::r) k v=x::stored r k v:=by
 unfold stored;rw[List.any_cons,decide_eq_false h,Bool.false_or];by_cases c:(r.any λkv=>decide (kv.1=k))=true
 ·rw[if_pos c,if_pos c,List.map_cons,if_neg h]
 ·rw[if_neg c,if_neg c,List.cons_append]
set_option tactic.hygienic true in
theorem kf{nx:Nat}{k:Str}{v:SV}{val:Value}(hv:VR G J nx v val):∀{es:List (Str×SV)} {kvs:List (Str×Value)},ac (λ(x:Str×SV) (y:Str×Value)=>x.1=y.1/\VR G J nx x.2 y.2) es kvs->(kvs.map (·.1)).Nodup->ac (λ(x:Str×SV) (y:Str×Value)=>x.1=y.1/\VR G J nx x.2 y.2) (cr es k v) (stored kvs k val)
 |[]=>by rename_i w1;intro al2;refine ac.nilE al2 ?_;clear al2;intro q';subst q';intro _;exact .cons ⟨rfl,hv⟩ .nil
 |(k',u)::es=>by
  rename_i w1;intro al2;refine ac.consE al2 ?_;clear al2;intro y2' kvs q' ha2 h3;subst q';obtain⟨k'',uv⟩:=y2';obtain⟨h1,h2⟩:=ha2;intro hn;dsimp only at h1;subst h1;rw[List.map_cons,List.nodup_cons]at hn;unfold cr;induction c:cq k' k using Bool.casesOn with
  |true=>have c:=aI.mp c;subst c;rw[gj (x:=(k',uv)) val rfl hn.1];exact .cons ⟨rfl,hv⟩ h3
  |false=>rw[gi (x:=(k',uv)) val (dI c)];exact .cons ⟨rfl,h2⟩ (kf hv h3 hn.2)
theorem nS{K:Type}[DecidableEq K]{R:SV->K->Prop}(he:∀u v i j t,R u i->R v j->tO u v=some t->t=decide (i=j)){nx:Nat}{k v:SV}{i:K}{val:Value}(hk:R k i)(hv:VR G J nx v val):∀{es l:List (SV×SV)} {kvs:List (K×Value)},ac (λ(x:SV×SV) (y:K×Value)=>R x.1 y.1/\VR G J nx x.2 y.2) es kvs->(kvs.map (·.1)).Nodup->B5 es k v=some l->ac (λ(x:SV×SV) (y:K×Value)=>R x.1 y.1/\VR G J nx x.2 y.2) l (stored kvs i val)
 |[],_,_,.nil=>by intro _ h;refine aB h ?_;clear h;intro h1;subst h1;exact .cons ⟨hk,hv⟩ .nil
 |(k',u)::es,l,(k'',uv)::kvs,.cons ⟨h1,h2⟩ h3=>by
  intro hn h;rw[List.map_cons,List.nodup_cons]at hn;refine ib h ?_ ?_<;>clear h
  ·intro e h;refine aB h ?_;clear h;intro h1;subst h1;have e:=of_decide_eq_true (he _ _ _ _ _ h1 hk e).symm;dsimp only at e;subst e;rw[gj (x:=(k'',uv)) val rfl hn.1];exact .cons ⟨h1,hv⟩ h3
  ·intro e h;have e:=of_decide_eq_false (he _ _ _ _ _ h1 hk e).symm;refine fU h ?_;clear h;intro l' e2 h;refine aB h ?_;clear h;intro h1;subst h1;rw[gi (x:=(k'',uv)) val e];exact .cons ⟨h1,h2⟩ (nS he hk hv h3 hn.2 e2)
theorem bV{K:Type}[DecidableEq K]{knd:KeyKind G.prog G.w K}{h:Heap}{a:Addr}{kvs:List (K×Value)}(D:h.DictOf knd a kvs):∀ob,h.get? a=some ob->ob.cls=.type "tuple"->(∃it n,ob.data=.seq it n)->False:=by refine fE D ?_;clear D;intro o es ep h1 h2 h3 _;rintro ob e _ ⟨it,n,q⟩;rw[h1]at e;refine aB e ?_;clear e;intro h1;subst h1;rw[h3]at q;cases q
theorem j2{h:Heap}{a:Addr}{kvs:List (KD×Addr×Value)}(D:h.DictOfH (ay G.prog G.w) a kvs):∀ob,h.get? a=some ob->ob.cls=.type "tuple"->(∃it n,ob.data=.seq it n)->False:=by refine fE D ?_;clear D;intro o es ep h1 h2 h3 _;rintro ob e _ ⟨it,n,q⟩;rw[h1]at e;refine aB e ?_;clear e;intro h1;subst h1;rw[h3]at q;cases q
theorem ee{K:Type}[DecidableEq K]{knd:KeyKind G.prog G.w K}{h:Heap}{a:Addr}{kvs:List (K×Value)}(D:h.DictOf knd a kvs):(kvs.map (·.1)).Nodup:=by refine eZ D ?_;clear D;intro o es ep _ _ _ _ _ h;exact h
theorem jw(n:Str):(λe:DictEntry=>e.key.isStr n)=λe=>(strKind G.prog G.w).is n e.key:=by funext e;show _=Value.isStrOf n e.key;cases e.key<;>rfl
theorem nT{h:Heap}{a:Addr}{kvs:List (Str×Value)}(D:h.DictOf (strKind G.prog G.w) a kvs)(name:Str)(tk:Tok)(v:Value):(h.update a (Obj.putName name (PyData.keyHash G.w.params name) (.str name tk) v)).DictOf (strKind G.prog G.w) a (stored kvs name v):=by
 refine eZ D ?_;clear D;intro q1' es ep ho q2' hd hk hp hn;obtain⟨c,dd,da,sl⟩:=q1';obtain⟨hc1,hc2,hc3⟩:=q2';simp only at hc1 hc2 hc3 hd;subst hc1 hc2 hc3 hd;have hidx:(es.findIdx? λe=>(strKind G.prog G.w).is name e.key)=kvs.findIdx? λkv=>decide (kv.1=name):=by rw[<-hp.findIdx name];obtain⟨l⟩:=es;simp
 induction hi:es.findIdx? (λe=>e.key.isStr name)using Option.casesOn with
 |some i=>
  have hi':(es.findIdx? λe=>(strKind G.prog G.w).is name e.key)=some i:=by rw[<-hi,jw (G:=G)]
  have e:Obj.putName name (PyData.keyHash G.w.params name) (.str name tk) v ⟨.type "dict",none,.dict es ep,#[]⟩=⟨.type "dict",none,.dict (es.modify i λe=>{e with val:=v}) ep,#[]⟩:=by rw[Obj.putName_eq];unfold Obj.putNameByArray;dsimp only;rw[hi]
  refine⟨_,_,ep,Heap.get?_update_self _ ho (by rw[e];rfl),by rw[e];exact⟨rfl,rfl,rfl⟩,by rw[e],hk.modify _ _,?_,?_⟩
  ·rw[stored,if_pos (any_of_findIdx_some (hidx▸hi'))];have hl:(es.toList.findIdx? λe=>(strKind G.prog G.w).is name e.key)=some i:=by rw[<-hi'];obtain⟨l⟩:=es;simp
   have:=hp.modify hn hl v;obtain⟨l⟩:=es;simpa using this
  ·rw[stored,if_pos (any_of_findIdx_some (hidx▸hi')),keys_map_store];exact hn
 |none=>
  have hi':(es.findIdx? λe=>(strKind G.prog G.w).is name e.key)=none:=by rw[<-hi,jw (G:=G)]
  have hnot:name∉kvs.map (·.1):=not_mem_of_findIdx_none (hidx▸hi');have hany:¬(kvs.any λkv=>decide (kv.1=name))=true:=by rw[List.any_eq_true];rintro⟨kv,hkv,he⟩;exact hnot (List.mem_map.mpr ⟨kv,hkv,of_decide_eq_true he⟩)
  have e:Obj.putName name (PyData.keyHash G.w.params name) (.str name tk) v ⟨.type "dict",none,.dict es ep,#[]⟩=⟨.type "dict",none,.dict (es.push ⟨PyData.keyHash G.w.params name,.str name tk,v⟩) (ep+1),#[]⟩:=by rw[Obj.putName_eq];unfold Obj.putNameByArray;dsimp only;rw[hi]
  refine⟨_,_,ep+1,Heap.get?_update_self _ ho (by rw[e];rfl),by rw[e];exact⟨rfl,rfl,rfl⟩,by rw[e];rfl,hk.push (k:=name) (key:=.str name tk) iC v,?_,?_⟩
  ·rw[stored,if_neg hany,Array.toList_push];exact hp.append (k:=name) (key:=.str name tk) iC _ v
  ·rw[stored,if_neg hany,List.map_append,List.nodup_append];refine⟨hn,by simp,?_⟩;intro a ha b hb;simp only[List.map_cons,List.map_nil,List.mem_singleton]at hb;subst hb;rintro rfl;exact hnot ha
theorem mR{h:Heap}{a:Addr}{kvs:List (Str×Value)}(D:h.DictOf (strKind G.prog G.w) a kvs)(name:Str):∃o,h.get? a=some o/\lookIn name o=some (valueAt kvs name)/\∃es ep,o.data=.dict es ep/\es.size=kvs.length:=by
 refine eZ D ?_;clear D;intro o es ep ho hc hd hk hp hn;refine⟨o,ho,?_,es,ep,hd,by rw[<-hp.length];simp⟩;unfold lookIn;rw[hd];dsimp only;have hf:=hp.find name;have e:(λe:DictEntry=>e.key.isStr name)=λe=>(strKind G.prog G.w).is name e.key:=jw name;have hno:(es.toList.any λe=>e.refKey)=false:=by rw[List.any_eq_false];intro x hx;refine an (hk x (Array.mem_toList_iff.mp hx)) ?_;intro k h1 h2;refine xE (Value.isStrOf_shape h1) ?_;intro t h3;unfold DictEntry.refKey;rw[h3];exact Bool.false_ne_true
 rw[show(es.toList.find? (·.key.isStr name))=es.toList.find? λe=>(strKind G.prog G.w).is name e.key from by rw[<-e]];induction c:es.toList.find? λe=>(strKind G.prog G.w).is name e.key using Option.casesOn with
 |some en=>rw[c]at hf;rw[<-hf];rfl
 |none=>rw[c]at hf;dsimp only;rw[hno,<-hf];rfl
theorem jx(r:SR G J S s L){n C d:Nat}{es:List (Str×SV)}(hn:n<S.next)(e1:S.hp.get n=some (.inst C d))(e2:S.hp.get d=some (.sd es))(name:Str):d<S.next/\∃od kvs,InstAt s.heap (J n) (instObj C (J d)) C (some od)/\s.heap.get? (J d)=some od/\s.heap.DictOf (strKind G.prog G.w) (J d) kvs/\lookIn name od=some (valueAt kvs name)/\ac (λ(x:Str×SV) (y:Str×Value)=>x.1=y.1/\VR G J S.next x.2 y.2) es kvs/\∃es' ep,od.data=.dict es' ep/\es'.size=kvs.length:=by refine xA (r.named hn e1) ?_;intro hd ho;refine an (r.named hd e2) ?_;intro kvs dk al;refine dT (mR dk name) ?_;intro od h1 h2 h3;exact⟨hd,od,kvs,⟨ho,rfl,rfl,h1⟩,h1,dk,h2,al,h3⟩
theorem jA{v:SV}{val:Value}{nx:Nat}(h:VR G J nx v val):handedIn val=true:=by
 induction v using SV.casesOn with
 |bi b=>subst h;induction b using Bi.casesOn<;>decide+kernel
 |none=>subst h;rfl
 |bool b=>subst h;rfl
 |int i=>obtain⟨t,rfl⟩:=h;rfl
 |sym x k=>obtain⟨t,rfl⟩:=h;rfl
 |str x=>obtain⟨t,rfl⟩:=h;rfl
 |ref n=>obtain⟨_,rfl⟩:=h;rfl
 |top a=>subst h;rfl
 |ss x=>obtain⟨t,rfl⟩:=h;rfl
 |any=>exact h
theorem AO{o v:SV}{oval:Value}{a:Str}{expr:Bool}{Q:Value->Shared->Prop}(D:Gd G Cxt)(r:SR G J S s L)(ho:VR G J S.next o oval)(h:CX Cxt S o a=some v)(q:aj G X L J S s v S Q):wpAny (model G.prog G.w) A (getAttr oval a expr) Q E s:=by
 unfold CX at h;refine cO h ?_;clear h;intro n e0' h;subst e0';refine xA ho ?_;clear ho;intro hn q1';subst q1';refine lA h ?_;clear h;intro C d e1 h;refine ab h ?_;clear h;intro ow h;refine du h ?_;clear h;intro es e2 h;refine mz (jx r hn e1 e2 a) ?_;intro hd od kvs I od1 dk hl al _;refine gM (D.own C a ow) ?_;intro o1 o2 q1' _;obtain⟨at_,o3,o4⟩:=q1';have ov:=fO (G:=G) (J:=J) (nx:=S.next) a al;rw[h]at ov;induction hv:valueAt kvs a using Option.casesOn with
 |none=>rw[hv]at ov;exact ov.elim
 |some val=>rw[hv]at ov hl;have kin:G.K.In s.heap:=λb ob e=>r.hp.base _ _ (D.kin b ob e);exact get_value kin I (plainGet_of o1).1 (findObj_own o2 o3 o4 hl) (jA ov) (q.tok r ov)
set_option tactic.hygienic true
section
open PySem.Calls Builtin Builtin.ObjectAttr Builtin.Getset_descriptor
theorem sC{o v:SV}{oval val:Value}{a:Str}{Q:Unit->Shared->Prop}(D:Gd G Cxt)(r:SR G J S s L)(ho:VR G J S.next o oval)(hv:VR G J S.next v val)(h:kP Cxt S o a v=some S')(q:cF G X L J S s S' (Q ())):wpAny (model G.prog G.w) A (setAttr oval a val) Q E s:=by
 unfold kP at h;refine cO h ?_;clear h;intro n e0' h;subst e0';refine xA ho ?_;clear ho;intro hn q1';subst q1';refine lA h ?_;clear h;intro C dd e1 h;refine ab h ?_;clear h;intro ow h;refine du h ?_;clear h;intro es e2 h;refine ab h ?_;clear h;intro sm h;refine aB h ?_;clear h;intro h1;subst h1;refine nC (jx r hn e1 e2 a) ?_;intro hd od kvs I od1 dk hl al es' ep hes hsz;refine BD (D.own C a ow) ?_;intro o1 o2 _ o5 o6 o7;have kin:G.K.In s.heap:=λb ob e=>r.hp.base _ _ (D.kin b ob e);refine set_plain kin I o5 ?_;refine osa_open (s:={s with toks:=s.toks+1}) kin I o6 o7 λb=>?_;refine an (any_some o2) ?_;intro cd hc hd';have hx:=I.at_;have hsz':kvs.length<=4096:=by rw[<-al.length];exact dF sm
 have dk':=nT dk a (s.toks+1) val;refine wpAny_bind (wpAny_pure (wpAny_bind (wpAny_bind (wpAny_loadPart (s:={s with toks:=s.toks+1}) hx (wpAny_bind (looks_clsIn (h:=s.heap) kin hc _ _ _ _ (λ_ _ e=>e) ?_))))));rw[hd'];refine wpAny_pure (a:=some (J dd)) (wpAny_bind (wpAny_pure (wpAny_bind ?_)));unfold nsSet;refine wpAny_bind (wpAny_bind (wpAny_askSetting (wpAny_pure (wpAny_bind (wpAny_mkText (wpAny_bind (wpAny_loadPart (s:={s with toks:=s.toks+1+1}) od1 ?_)))))));rw[hes];dsimp only;have c:(!es'.any (·.key.isStr a)&&es'.any (·.refKey))=false:=by
  unfold lookIn at hl;rw[hes]at hl;dsimp only at hl;rw[<-Array.any_toList,<-Array.any_toList];refine qO hl ?_ ?_<;>clear hl
  ·intro en he hl;rw[List.any_eq_true.mpr ⟨en,List.mem_of_find?_eq_some he,List.find?_some he⟩];rfl
  ·intro _ hl;split at hl
   ·exact aa hl
   ·rename_i z;rw[Bool.not_eq_true]at z;rw[z,Bool.and_false]
 rw[aRefKeyMayBeTheName_at,c];refine wpAny_updatePart (s:={s with toks:=s.toks+1+1}) od1 ?_;refine eZ (id dk') ?_;intro ob2 en2 ep2 g1 g2 g3 g4 g5 g6;have hlen:(stored kvs a val).length<=5000:=by
  have:(stored kvs a val).length<=kvs.length+1:=by
   unfold stored;split
   ·rw[List.length_map];exact Nat.le_succ _
   ·rw[List.length_append];exact Nat.le_refl _
  lia
 have hen:en2.size<=5000:=by have:=g5.length;rw[Array.length_toList]at this;exact aS ‹_› ‹_›
 refine wpAny_bind (wpAny_lookBehind g1 (by rw[g3];exact pastItsLine_dict (by rw[sizeLine_eq];exact Nat.le_trans ‹_› (by decide))) ?_)
 have R:=r.set (X:=X) (h':=s.heap.update (J dd) (Obj.putName a (PyData.keyHash G.w.params a) (.str a (s.toks+1)) val)) (tk:=s.toks+1+1) (o:=.sd (cr es a v)) hd (Heap.SameBut.update ..) (bV dk)
  ⟨_,dk',kf hv al (ee dk)⟩
 exact wpAny_pure (q _ _ R.2 R.1)
end
set_option tactic.hygienic false
theorem dm:∀(ys xs:List (KD×Addr×Value)),(bO xs ys).length<=xs.length+ys.length
 |[]=>by intro xs;exact Nat.le_refl _
 |(k,a,v)::r=>by
  intro xs;have h:=dm r (storedH xs k a v);have h2:(storedH xs k a v).length<=xs.length+1:=by
   unfold storedH;split
   ·rw[List.length_map];exact Nat.le_succ _
   ·rw[List.length_append];exact Nat.le_refl _
  show(bO (storedH xs k a v) r).length<=_;rw[List.length_cons];lia
theorem wO{n:Nat}{es:List (Str×SV)}{kvs:List (Str×Value)}{k v:SV}{kv val:Value}{Q:Unit->Shared->Prop}(D:Gd G Cxt)(r:SR G J S s L)(hu:A.units+10<cLine)(hn:n<S.next)(dk:s.heap.DictOf (strKind G.prog G.w) (J n) kvs)(al:ac (λ(x:Str×SV) (y:Str×Value)=>x.1=y.1/\VR G J S.next x.2 y.2) es kvs)(hk:VR G J S.next k kv)(hv:VR G J S.next v val)(h:mG S n es k v=some S')(q:cF G X L J S s S' (Q ())):wpAny (model G.prog G.w) A (PySem.setItem (.ref (J n)) kv val) Q E s:=by
 unfold mG at h;refine mX h ?_ ?_ ?_<;>clear h
 ·intro _ e0' h;subst e0';refine ab h ?_;clear h;intro sm h;refine aB h ?_;clear h;intro h1;subst h1;refine xE hk ?_;clear hk;intro t q1';subst q1';have hl:kvs.length<=4096:=by rw[<-al.length];exact dF sm
  refine wpAny_setItem_pairs (knd:=strKind G.prog G.w) iC dk (λh' dk' hs=>?_) (by rw[sizeLine_eq];exact Nat.le_trans ‹_› (by decide));have Z:=r.set (X:=X) (h':=h') (tk:=s.toks+1) (o:=.sd (cr es _ v)) hn hs (bV dk) ⟨_,dk',kf hv al (ee dk)⟩;exact q _ _ Z.2 Z.1
 ·intro _ e0' h;subst e0';refine jU h ?_;clear h;intro sk e0' e2 h;subst e0';refine aB h ?_;clear h;intro h1;subst h1;refine cM (dw r.hp e2 hk) ?_;intro m kd e' hm q1';subst q1';intro k1 k2;rw[aD al]at dk;have dn:=eh dk;refine wpAny_setItem_heap (knd:=ay G.prog G.w) (xs:=[]) (by show A.in1.units+2<cLine;simp only[Around.in1_units];exact aY ‹_› (by decide)) k2 (gH dn) (λh' dk' hs=>?_) (by simp)
  have Z:=r.set (X:=X) (h':=h') (tk:=s.toks+(ay G.prog G.w).draws kd) (o:=.hd 0 [(sk,v)]) hn hs (bV dk)
   ⟨[(kd,J m,val)],⟨by rw[D.ok.d0];exact dk',by simp⟩,.cons ⟨k1,hv⟩ .nil⟩
  exact q _ _ Z.2 Z.1
 ·intro _ e0' h;subst e0';refine ab h ?_;clear h;intro c h;rw[Bool.and_eq_true]at c;have c2:=bq c.2;subst c2;refine aB h ?_;clear h;intro h1;subst h1;refine bb (bz c.1 hk) ?_;intro j t nj q1';subst q1';rw[aD al]at dk;have dn:=eh dk;refine wpAny_setItem_pairs (knd:=intKind G.prog G.w) (kvs:=[]) iX (fj dn) (λh' dk' hs=>?_) (by simp);have Z:=r.set (X:=X) (h':=h') (tk:=s.toks+1) (o:=.idt [(k,v)]) hn hs (bV dk) ⟨_,dk',.cons ⟨nj,hv⟩ .nil⟩;exact q _ _ Z.2 Z.1
set_option tactic.hygienic true in
theorem kO{o k v:SV}{oval kv val:Value}{Q:Unit->Shared->Prop}(D:Gd G Cxt)(r:SR G J S s L)(hu:A.units+10<cLine)(ho:VR G J S.next o oval)(hk:VR G J S.next k kv)(hv:VR G J S.next v val)(h:setItem Cxt S o k v=some S')(q:cF G X L J S s S' (Q ())):wpAny (model G.prog G.w) A (PySem.setItem oval kv val) Q E s:=by
 unfold setItem at h;induction o using SV.casesOn<;>(try dsimp only at h)<;>try(first|exact aa h|cases h)
 rename_i n;refine xA ho ?_;clear ho;intro hn q1';subst q1';induction e:S.hp.get n using Option.casesOn with
 |none=>rw[e]at h;exact aa h
 |some ob=>
 rw[e]at h;have R:=r.named hn e;induction ob using SO.casesOn<;>(try dsimp only at h)<;>try(first|exact aa h|cases h)
 ·rename_i es;refine an R ?_;clear R;intro kvs dk al;exact wO D r hu hn dk al hk hv h q
 ·rename_i es;refine an R ?_;clear R;intro kvs dk al;unfold sA at h;refine ab h ?_;clear h;intro c h;rw[Bool.and_eq_true]at c;refine xA c ?_;clear c;intro c sm;refine fU h ?_;clear h;intro l e2 h;refine aB h ?_;clear h;intro h1;subst h1;refine bb (bz c hk) ?_;intro j t nj q1';subst q1';have hl:kvs.length<=4096:=by rw[<-al.length];exact dF sm
  refine wpAny_setItem_pairs (knd:=intKind G.prog G.w) iX dk (λh' dk' hs=>?_) (by rw[sizeLine_eq];exact Nat.le_trans ‹_› (by decide));have Z:=r.set (X:=X) (h':=h') (tk:=s.toks+1) (o:=.idt l) hn hs (bV dk) ⟨_,dk',nS (R:=cp G) (λ_ _ _ _ _ a b c=>i' D.ok a b c) nj hv al (ee dk) e2⟩;exact q _ _ Z.2 Z.1
 ·rename_i o es;refine an R ?_;clear R;intro xs q1' al;obtain⟨dk,nd⟩:=q1';unfold wP at h;refine cV h ?_;clear h;intro sk e2 h;refine cM (dw r.hp e2 hk) ?_;intro m kd e' hm q1';subst q1';intro k1 k2;refine jV h ?_;clear h;intro e3 h;refine ab h ?_;clear h;intro sm h;refine aB h ?_;clear h;intro h1;subst h1;have F:=d9 D.ok k1 al e3;have hl:xs.length<=4096:=by rw[<-al.length];exact dF sm
  have hb:=dm xs (G.I.od o);have hb2:=D.ok.smallD o;refine wpAny_setItem_heap (knd:=ay G.prog G.w) (by show A.in1.units+2<cLine;simp only[Around.in1_units];exact aY ‹_› (by decide)) k2 dk (λh' dk' hs=>?_) (by rw[sizeLine_eq];lia)
  have Z:=r.set (X:=X) (h':=h') (tk:=s.toks+(ay G.prog G.w).draws kd) (o:=.hd o (es++[(sk,v)])) hn hs (j2 dk)
   ⟨xs++[(kd,J m,val)],⟨by rw[jj];exact dk',by
    rw[List.map_append,List.nodup_append]
    refine⟨nd,by simp,?_⟩
    intro a ha b hb
    simp only[List.map_cons,List.map_nil,List.mem_singleton]at hb
    subst hb
    rintro rfl
    exact F.2 ha⟩,al.app (.cons ⟨k1,hv⟩ .nil)⟩
  exact q _ _ Z.2 Z.1
theorem jG.noTup{h:Heap}{a:Addr}{items:Array Value}(x:jG h a items):∀ob,h.get? a=some ob->ob.cls=.type "tuple"->(∃it n,ob.data=.seq it n)->False:=by
 refine eJ x ?_;clear x;intro o h1 h2 h3 n h4;rintro ob e c _;rw[h1]at e;refine aB e ?_;clear e;intro h1;subst h1;rw[h2]at c;injection c with c
 exact absurd c (by decide)
theorem jG.plain{h:Heap}{a:Addr}{items:Array Value}(x:jG h a items):PlainL h a items:=let⟨o,a,b,c,n,e⟩:=x;⟨o,n,a,b,c,e⟩
theorem jG.ofPlain{h:Heap}{a:Addr}{items:Array Value}(x:PlainL h a items):jG h a items:=let⟨o,n,a,b,c,e⟩:=x;⟨o,a,b,c,n,e⟩
theorem nB{n o:Nat}{xs:List SV}{v:SV}{val:Value}{Q:Value->Shared->Prop}(ok:G.I.Ok)(r:SR G J S s L)(hn:n<S.next)(e:S.hp.get n=some (.lst o xs))(sm:small (xs++[v])=true)(hv:VR G J S.next v val)(q:cF G X L J S s (S.set n (.lst o (xs++[v]))) (Q .none)):wpAny (model G.prog G.w) A (call (.builtin "list.append") [.ref (J n),val]) Q E s:=by
 refine ap (r.named hn e) ?_;intro items ys q1' c1 al;obtain⟨hl,hz⟩:=q1';have e2:items.size=(G.I.ol o).length+ys.length:=by rw[<-Array.length_toList,c1,List.length_append]
 have h3:=ok.small o;have h4:=dF sm;rw[List.length_append,al.length]at h4;refine list_append_plainL hl.plain (λh' pl hs=>?_) (by rw[sizeLine_eq];exact Nat.le_trans ‹_› (by decide))
 have Z:=r.set (X:=X) (h':=h') (tk:=s.toks) (o:=.lst o (xs++[v])) hn hs hl.noTup
  ⟨items.push val,ys++[val],⟨jG.ofPlain pl,by rw[Array.size_push];simp only[List.length_cons,List.length_nil]at h4;lia⟩,by rw[Array.toList_push,c1,List.append_assoc],al.app (.cons hv .nil)⟩
 exact q _ _ Z.2 Z.1
theorem ug{n o:Nat}{es:List (SV×SV)}{xs:List SV}{v:SV}{val:Value}{Q:Value->Shared->Prop}(ok:G.I.Ok)(r:SR G J S s L)(hn:n<S.next)(e:S.hp.get n=some (.tab o es xs))(sm:small (xs++[v])=true)(hv:VR G J S.next v val)(q:cF G X L J S s (S.set n (.tab o es (xs++[v]))) (Q .none)):wpAny (model G.prog G.w) A (call (.builtin "list.append") [.ref (J n),val]) Q E s:=by
 refine gd (r.named hn e) ?_;intro items ys q1' q2' al f;obtain⟨hl,hz⟩:=q1';obtain⟨c1,c2⟩:=q2';have e2:items.size=(G.I.ol o).length+ys.length:=by rw[<-Array.length_toList,c1,List.length_append]
 have h3:=ok.small o;have h4:=dF sm;rw[List.length_append,al.length]at h4;refine list_append_plainL hl.plain (λh' pl hs=>?_) (by rw[sizeLine_eq];exact Nat.le_trans ‹_› (by decide))
 have Z:=r.set (X:=X) (h':=h') (tk:=s.toks) (o:=.tab o es (xs++[v])) hn hs hl.noTup
  ⟨items.push val,ys++[val],⟨jG.ofPlain pl,by rw[Array.size_push];simp only[List.length_cons,List.length_nil]at h4;lia⟩,⟨by rw[Array.toList_push,c1,List.append_assoc],c2⟩,al.app (.cons hv .nil),f⟩
 exact q _ _ Z.2 Z.1
set_option tactic.hygienic true in
theorem Ae{v u:SV}{val:Value}{Q:Value->Shared->Prop}(ok:G.I.Ok)(r:SR G J S s L)(hv:VR G J S.next v val)(h:xF S v=some u)(q:aj G X L J S s u S Q):wpAny (model G.prog G.w) A (call (.builtin "len") [val]) Q E s:=by
 unfold xF at h;refine cO h ?_;clear h;intro n e0' h;subst e0'
 ·refine xA hv ?_;clear hv;intro hn q1';subst q1';induction e:S.hp.get n using Option.casesOn with
  |none=>rw[e]at h;exact aa h
  |some ob=>
  rw[e]at h;induction ob using SO.casesOn<;>(try dsimp only at h)<;>try(first|exact aa h|(refine aB h ?_;clear h;intro h1;subst h1)|cases h)
  ·rename_i xs;refine an (r.named hn e) ?_;intro items q1' al;obtain⟨ht,hz⟩:=q1';refine PyProof.Rows.len_tuple ht (by lia) (q.tok r ⟨s.toks+1,?_⟩);rw[fB al];rfl
  ·rename_i o xs;refine ap (r.named hn e) ?_;intro items ys q1' c1 al;obtain⟨hl,hz⟩:=q1';have e2:items.size=(G.I.ol o).length+ys.length:=by rw[<-Array.length_toList,c1,List.length_append]
   refine PyProof.Rows.len_list hl.isList (by lia) ?_;rw[e2,<-al.length];refine ah h ?_ ?_<;>clear h
   ·intro c h;have c:=Nat.eq_of_beq_eq_true c;subst c;refine aB h ?_;clear h;intro h1;subst h1;rw[ok.l0];exact q.tok r ⟨s.toks+1,by simp⟩
   ·intro c h;have c:=Nat.ne_of_beq_eq_false c;refine aB h ?_;clear h;intro h1;subst h1;refine q.tok r ⟨s.toks+1,?_⟩;rw[ok.len o c];rfl
  ·rename_i o es xs;refine gd (r.named hn e) ?_;intro items ys q1' q2' al _;obtain⟨hl,hz⟩:=q1';obtain⟨c1,c⟩:=q2';have e2:items.size=(G.I.ol o).length+ys.length:=by rw[<-Array.length_toList,c1,List.length_append]
   refine PyProof.Rows.len_list hl.isList (by lia) ?_;rw[e2,<-al.length];refine q.tok r ⟨s.toks+1,?_⟩;rw[ok.len o c];rfl
theorem Ad{vs:List SV}{items:Array Value}{h':Heap}{c':Nat}{Q:Value->Shared->Prop}(ok:G.I.Ok)(r:SR G J S s L)(al:ac (VR G J S.next) vs items.toList)(hz:items.size<=200000)(k:∀b o',s.heap.get? b=some o'->h'.get? b=some o')(hn:h'.get? s.heap.objs.size=some {cls:=.type "list",dict:=none,data:=.seq items c',slots:=#[]})(q:aj G X L J S s (S.new (.lst 0 vs)).1 (S.new (.lst 0 vs)).2 Q):Q (.ref s.heap.objs.size) {s with heap:=h'}:=by obtain⟨a,b,c⟩:=r.alloc (X:=X) (tk:=s.toks) (o:=.lst 0 vs) k aQ ⟨items,items.toList,⟨⟨_,hn,rfl,rfl,_,rfl⟩,hz⟩,by rw[ok.l0];rfl,VRs.up al⟩;exact q _ _ _ b a c
set_option tactic.hygienic true in
theorem yS{b:Bi}{vs:List SV}{u:SV}{vals:List Value}{Q:Value->Shared->Prop}(D:Gd G Cxt)(hh:A.handled=none)(r:SR G J S s L)(hv:ac (VR G J S.next) vs vals)(h:rK b vs S=some (u,S'))(q:aj G X L J S s u S' Q):wpAny (model G.prog G.w) A (call (nz b) vals) Q E s:=by
 unfold rK at h;refine q8 h ?_ ?_ ?_ ?_ ?_<;>clear h
 ·intro _ e0' e1' h;subst e0';subst e1';refine ap (au hv) ?_;intro v1 z1 q1';subst q1';intro hv1 hz1;have q0':=aD hz1;subst q0';refine an (Option.map_eq_some_iff.mp h) ?_;intro u' h1 h2;replace q:=aj.cast (congrArg some h2) q;clear h2;exact Ae D.ok r hv1 h1 q
 ·intro _ e0' e1' h;subst e0';subst e1';refine ap (au hv) ?_;intro v1 z1 q1';subst q1';intro hv1 hz1;have q0':=aD hz1;subst q0';rename_i i;refine ab h ?_;clear h;intro c h;rw[Bool.and_eq_true,ci,ci,decide_eq_true_eq,decide_eq_true_eq]at c;replace q:=aj.cast h q;clear h;refine xE hv1 ?_;clear hv1;intro t q1';subst q1';refine call_range_1 ?_;have R:=r.push (X:=X) (tk:=s.toks+1+1) (o:=.rng i) (ob:={cls:=.type "range",data:=.fields #[.int 0 s.toks,.int i t,.int 1 (s.toks+1)]}) ⟨c,s.toks,t,s.toks+1,PySem.IsRange.new ..⟩;exact q _ _ _ R.2.1 R.1 R.2.2
 ·intro _ e0' e1' h;subst e0';subst e1';refine ap (au hv) ?_;intro v1 z1 q1';subst q1';intro hv1 hz1;have q0':=aD hz1;subst q0';refine xA hv1 ?_;clear hv1;intro hn q1';subst q1';refine q9 h ?_ ?_<;>clear h
  ·intro xs e h;replace q:=aj.cast h q;clear h;refine ap (r.named hn e) ?_;intro items ys q1' c1 al;obtain⟨hl,hz⟩:=q1';rw[D.ok.l0,List.nil_append]at c1;subst c1;refine call_tuple_list hl.isList (λh' k=>?_) (by rw[sizeLine_eq];exact Nat.le_trans ‹_› (by decide));have hn0:s.heap.get? h'.objs.size=none:=by
    induction c:s.heap.get? h'.objs.size using Option.casesOn with
    |none=>rfl
    |some o=>exact absurd (Heap.lt_size (k _ _ c)) (Nat.lt_irrefl _)
   obtain⟨a,b,c⟩:=r.alloc (X:=X) (tk:=s.toks) (o:=.tup xs) (h':=h'.push {cls:=.type "tuple",data:=.seq items}) (λb o' e=>Heap.get?_push_of_some _ (k b o' e)) hn0
    ⟨items,⟨⟨_,Heap.get?_push_size _ rfl,rfl,_,rfl⟩,hz⟩,VRs.up al⟩
   exact q _ _ _ b a c
  ·intro xs e h;replace q:=aj.cast h q;clear h;refine an (r.named hn e) ?_;intro items q1' al;obtain⟨ht,hz⟩:=q1';exact call_tuple_same ht (q.now r ⟨hn,rfl⟩)
 ·intro _ e0' e1' h;subst e0';subst e1';refine ap (au hv) ?_;intro v1 z1 q1';subst q1';intro hv1 hz1;have q0':=aD hz1;subst q0';refine xA hv1 ?_;clear hv1;intro hn q1';subst q1';refine eQ h ?_;clear h
  ·intro xs e h;replace q:=aj.cast h q;clear h;refine an (r.named hn e) ?_;intro items q1' al;obtain⟨ht,hz⟩:=q1';refine wz ht ?_;clear ht;intro o ho hc m hd;exact call_list_seq _ (.inr rfl) ho hc hd (λh' c' k hn'=>Ad D.ok r al hz k hn' q) (by rw[sizeLine_eq];exact Nat.le_trans ‹_› (by decide))
 ·intro _ e0' e1' h;subst e0';subst e1';refine ap (au hv) ?_;intro v1 z1 q1';subst q1';intro hv1 hz1;have q0':=aD hz1;subst q0';rename_i i;refine xE hv1 ?_;clear hv1;intro t q1';subst q1';refine an (Option.map_eq_some_iff.mp h) ?_;intro x h1 h2;replace q:=aj.cast (congrArg some h2) q;clear h2;have e:Str.ofString (toString (Int.ofNat i))=x/\(Int.ofNat i).natAbs<10^4300:=by
   unfold uH at h1;split at h1<;>first|((first|exact aa h1|(refine aB h1 ?_;clear h1;intro h1;subst h1)|cases h1);done)|skip
   ·refine aB h1 ?_;clear h1;intro h1;subst h1;exact⟨by decide+kernel,Nat.lt_of_lt_of_le (by decide:(Int.ofNat 0).natAbs<10^2) (Nat.pow_le_pow_right (by decide) (by decide))⟩
   ·refine aB h1 ?_;clear h1;intro h1;subst h1;exact⟨by decide+kernel,Nat.lt_of_lt_of_le (by decide:(Int.ofNat 1).natAbs<10^2) (Nat.pow_le_pow_right (by decide) (by decide))⟩
   ·refine aB h1 ?_;clear h1;intro h1;subst h1;exact⟨by decide+kernel,Nat.lt_of_lt_of_le (by decide:(Int.ofNat 16).natAbs<10^2) (Nat.pow_le_pow_right (by decide) (by decide))⟩
  refine str_of_int_or hh (D.nodig.keeps r.hp.base) (λ_=>q.tok r ⟨s.toks,?_⟩) (λhge=>absurd e.2 (Nat.not_lt.mpr hge));rw[<-e.1]
theorem CR{o lo hi u:SV}{oval vlo vhi:Value}{sl:Addr}{Q:Value->Shared->Prop}(D:Gd G Cxt)(r:SR G J S s L)(ho:VR G J S.next o oval)(hlo:VR G J S.next lo vlo)(hhi:VR G J S.next hi vhi)(h:cut S o lo hi=some (u,S'))(hs:s.heap.IsSliceOf sl vlo vhi .none)(q:aj G X L J S s u S' Q):wpAny (model G.prog G.w) A (getItem oval (.ref sl)) Q E s/\∃T id,s.TypeIs oval T/\typeLookup (.type T) "__getitem__"=pure (some (.builtin id)):=by
 unfold cut at h;refine cO h ?_;clear h;intro n e0' h;subst e0';refine xA ho ?_;clear ho;intro hn q1';subst q1';refine vU h ?_ ?_<;>clear h
 ·intro xs e h;refine an (r.named hn e) ?_;intro items q1' al;obtain⟨ht,hz⟩:=q1';refine⟨?_,"tuple",_,by obtain⟨o,a,b,_⟩:=ht;exact⟨o,a,b⟩,slot_tuple_getitem.lookup⟩;refine vX h ?_;clear h;intro i e0' e1' h;subst e0';subst e1';refine ab h ?_;clear h;intro c h;rw[Bool.and_eq_true]at c;have c1:=Nat.le_of_ble_eq_true c.1;have c2:=Nat.le_of_ble_eq_true c.2;replace q:=aj.cast h q;clear h;refine xE hlo ?_;clear hlo;intro t q1';subst q1';subst hhi;have e2:=fB al;refine getItem_tuple_from (a:=i) ht hs c1 (by exact aH ‹_› ‹_›) ?_ (by rw[sizeLine_eq];exact Nat.le_trans ‹_› (by decide));exact q.newT (tk:=s.toks) r (items:=(items.toList.drop i).toArray) (al.drop i) (by rw[List.length_drop];lia)
 ·intro o xs e h;refine ap (r.named hn e) ?_;intro items ys q1' c1 al;obtain⟨hl,hz⟩:=q1';have e3:items.size=(G.I.ol o).length+ys.length:=by rw[<-Array.length_toList,c1,List.length_append]
  refine⟨?_,"list",_,hl.isList.typeIs,slot_list_getitem.lookup⟩;refine vW h ?_ ?_<;>clear h
  ·intro e0' h;subst e0';refine bU h ?_;clear h;intro i e4 h;refine ab h ?_;clear h;intro c h;have c:=Nat.le_of_ble_eq_true c;replace q:=aj.cast h q;clear h;refine xE (kW D.ok e4 hlo) ?_;intro t q1';subst q1';subst hhi;refine wpAny_getItem_list_slice hl.isList hs (.int _ _) .none .none (by simp) ?_ (by rw[sizeLine_eq];exact Nat.le_trans ‹_› (by decide));have:slicePick items (some (((G.I.ol o).length+i:Nat):Int)) none none=(items.toList.drop ((G.I.ol o).length+i)).toArray:=slicePick_from' items _;rw[this,c1,List.drop_append,List.drop_eq_nil_of_le (by exact Nat.le_add_right _ _),List.nil_append,Nat.add_sub_cancel_left];exact q.newL (tk:=s.toks) D.ok r (items:=(ys.drop i).toArray) (al.drop i) (by rw[List.length_drop,al.length];lia)
  ·intro j e0' h;subst e0';refine ie h ?_;clear h;intro e0' h;subst e0';refine ab h ?_;clear h;intro c h;have c:=Nat.eq_of_beq_eq_true c;subst c;replace q:=aj.cast h q;clear h;subst hlo;refine xE hhi ?_;clear hhi;intro t q1';subst q1';rw[D.ok.l0,List.nil_append]at c1;subst c1;refine wpAny_getItem_list_slice hl.isList hs .none (.int _ _) .none (by simp) ?_ (by rw[sizeLine_eq];exact Nat.le_trans ‹_› (by decide));have:slicePick items none (some (Int.ofNat j)) none=(items.toList.take j).toArray:=slicePick_upto' items j;rw[this];exact q.newL (tk:=s.toks) D.ok r (items:=(items.toList.take j).toArray) (al.take j) (by rw[List.length_take];have:=al.length;simp only[Array.length_toList]at this;lia)
set_option tactic.hygienic true in
theorem qz{o k v:SV}{oval kv:Value}(D:Gd G Cxt)(r:SR G J S s L)(ho:VR G J S.next o oval)(hk:VR G J S.next k kv)(h:item Cxt S o k=some v):∃T id,s.TypeIs oval T/\typeLookup (.type T) "__getitem__"=pure (some (.builtin id)):=by
 have viaDict:(match bP Cxt S o k with|some (some v)=>some v|_=>none)=some v->∃T id,s.TypeIs oval T/\typeLookup (.type T) "__getitem__"=pure (some (.builtin id)):=by
  intro h;split at h
  ·rename_i v' e;refine ap (eE D r e ho hk) ?_;intro d rv q1';subst q1';intro g ov;exact⟨"dict",_,g.typeIs,slot_dict_getitem.lookup⟩
  ·exact aa h
 unfold item at h;induction o using SV.casesOn<;>(try dsimp only at h)<;>try exact aa h
 ·rename_i x;refine xE ho ?_;clear ho;intro t q1';subst q1';exact⟨"str",_,typeIs_str s x t,slot_str_getitem.lookup⟩
 ·rename_i n;have ho':=ho;refine xA ho ?_;clear ho;intro hn q1';subst q1';induction e:S.hp.get n using Option.casesOn with
  |none=>rw[e]at h;exact viaDict h
  |some ob=>
  rw[e]at h;induction ob using SO.casesOn<;>(try dsimp only at h)<;>try(exact viaDict h)
  ·refine an (r.named hn e) ?_;intro items q1' al;obtain⟨ht,hz⟩:=q1';exact⟨"tuple",_,by obtain⟨o,a,b,_⟩:=ht;exact⟨o,a,b⟩,slot_tuple_getitem.lookup⟩
  ·refine ap (r.named hn e) ?_;intro items ys q1' c1 al;obtain⟨hl,hz⟩:=q1';exact⟨"list",_,hl.isList.typeIs,slot_list_getitem.lookup⟩
  ·refine ap (r.named hn e) ?_;intro items ys q1' c1 al;obtain⟨hl,hz⟩:=q1';exact⟨"list",_,hl.isList.typeIs,slot_list_getitem.lookup⟩
theorem bw{i:PExpr}(h:iL i=true)(o iv:Value):subscripted i false o iv=operate [o,iv] (getItem o iv):=by induction i using PySem.Expr.casesOn<;>first|rfl|(first|exact ai h|cases h)
section
variable{prog:Program}
theorem rL(a n:Nat)(h:a<=n):sliceBounds (some (a:Int)) none none n=((a:Int),(n:Int),(1:Int)):=by unfold sliceBounds;simp;lia
theorem nM{l m sl:Addr}{items ys:Array Value}{a:Nat}{t:Tok}{Q:Unit->Shared->Prop}(hl:jG s.heap l items)(hy:s.heap.IsList m ys)(hs:s.heap.IsSliceOf sl (.int (a:Int) t) .none .none)(ha:a<=items.size)(hz:items.size+ys.size<=1000000)(hQ:∀h',jG h' l (items.extract 0 a++ys)->Heap.SameBut l s.heap h'->Q () {s with heap:=h'}):wpAny (model prog w) A (PySem.setItem (.ref l) (.ref sl) (.ref m)) Q E s:=by
 refine eJ (id hl) ?_;intro o ho hc hdn ne hd;refine wz (id hy) ?_;intro oy hoy hcy ny hdy;refine dT (id hs) ?_;intro os hos hcs hds;have hTs:s.TypeIs (.ref sl) "slice":=⟨os,hos,hcs⟩
 have hTy:s.TypeIs (.ref m) "list":=⟨oy,hoy,hcy⟩
 unfold PySem.setItem;try with_reducible refine wpAny_holding ?_
 first|refine wpAny_bind (wpAny_pure ?_)|skip
 refine wpAny_bind (wpAny_sequenceKey hl.isList.typeIs (by decide) ?_)
 refine wpAny_bind (wpAny_callSpecial?_slot (name:=Str.ofString "__setitem__") hl.isList.typeIs slot_list_setitem
  (wpAny_call_entry slot_list_setitem hl.isList.typeIs entry_list_setitem ?_ (args_list_setitem _ _ _)))
 show wpAny _ _ (Builtin.List.listSubscript? (.ref sl)>>=_) _ _ s;refine wpAny_bind ?_;unfold Builtin.List.listSubscript?;refine wpAny_bind (wpAny_specialOf hTs slice_no_index ?_);refine wB rfl ?_;refine wpAny_pure ?_;show wpAny _ _ (typeOf (.ref sl)>>=_) _ _ s;refine wpAny_bind (wpAny_typeOf hTs ?_);refine se (by decide) ?_;rw[listSliceParts_eq];refine wpAny_bind (wpAny_bind (wpAny_field hos hds (x:=.none) rfl (wpAny_bind (wpAny_listPart .none ?_))));refine se (show¬((rawPart none==rawInt 0)=true)from Bool.false_ne_true) ?_;refine wpAny_bind (wpAny_field hos hds (x:=.int (a:Int) t) rfl (wpAny_bind (wpAny_listPart (.int _ _) ?_)));refine wpAny_bind (wpAny_field hos hds (x:=.none) rfl (wpAny_bind (wpAny_listPart .none (wpAny_pure ?_))));have gy:∀{Q':Array Value->Shared->Prop},Q' ys s->wpAny (model prog w) A.in1 (Builtin.List.listItems (.ref m)) Q' E s:=λh=>by unfold Builtin.List.listItems;exact wpAny_bind (wpAny_seqItems hoy hdy (wpAny_pure h))
 have gl:∀{Q':Array Value->Shared->Prop},Q' items s->wpAny (model prog w) A.in1 (Builtin.List.listItems (.ref l)) Q' E s:=λh=>by unfold Builtin.List.listItems;exact wpAny_bind (wpAny_seqItems ho hd (wpAny_pure h))
 have gall:∀{msg:String} {Q':Array Value->Shared->Prop},Q' ys s->wpAny (model prog w) A.in1 (Builtin.List.listAllItems (.ref m) msg) Q' E s:=λh=>by unfold Builtin.List.listAllItems;refine wpAny_bind (wpAny_typeOf hTy ?_);refine wB (by decide) ?_;exact gy h
 have htl:¬(Builtin.List.listTooLong (items.size+ys.size)=true):=by simp[Builtin.List.listTooLong,sizeLine];exact Nat.le_trans ‹_› (by decide)
 have ea:(a:Int).toNat=a:=by simp
 have em:(max (a:Int) (items.size:Int)).toNat=items.size:=by omega
 have ef:items.extract 0 (a:Int).toNat++ys++items.extract (max (a:Int) (items.size:Int)).toNat items.size=items.extract 0 a++ys:=by rw[ea,em];simp
 refine xE (Obj.data_mapSeq hd (λxs:Array Value=>xs.extract 0 (a:Int).toNat++ys++xs.extract (max (a:Int) (items.size:Int)).toNat xs.size)) ?_;intro n' hd';rw[ef]at hd';have fin:jG (s.heap.update l (Obj.mapSeq λxs:Array Value=>xs.extract 0 (a:Int).toNat++ys++xs.extract (max (a:Int) (items.size:Int)).toNat xs.size)) l (items.extract 0 a++ys):=by refine⟨_,Heap.get?_update_self _ ho (Obj.isFreed_of_seq hd'),(Obj.cls_mapSeq ..).trans hc,?_,n',hd'⟩;obtain⟨c,d,dt,sl⟩:=o;simp only at hd hdn;subst hd;exact hdn
 dsimp only;refine EY gy gall ?_;refine wpAny_bind (gl ?_);refine wpAny_bind (wpAny_of_eq (sliceIndices_raw (some (a:Int)) none none items.size (by simp)) ?_);rw[rL a items.size ha];show wpAny _ _ (if((1:Int)==1)=true then _ else _) _ _ s;refine wB (by decide) ?_;refine wpAny_bind (wpAny_rule ?_);refine se htl ?_;refine wpAny_bind (m:=updateSeq l _) (wpAny_updateSeq ho hd ?_ (by rw[sizeLine_eq];lia) (by dsimp only;rw[ef,Array.size_append,Array.size_extract,sizeLine_eq];lia));refine wpAny_bind (wpAny_letGo ?_);exact wpAny_pure ⟨.none,rfl,wpAny_pure (hQ _ fin (Heap.SameBut.update ..))⟩
end
theorem vq{o lo v:SV}{oval vlo val:Value}{sl:Addr}{Q:Unit->Shared->Prop}(D:Gd G Cxt)(r:SR G J S s L)(ho:VR G J S.next o oval)(hlo:VR G J S.next lo vlo)(hv:VR G J S.next v val)(h:sB S o lo v=some S')(hs:s.heap.IsSliceOf sl vlo .none .none)(q:cF G X L J S s S' (Q ())):wpAny (model G.prog G.w) A (PySem.setItem oval (.ref sl) val) Q E s:=by
 unfold sB at h;refine ou h ?_;clear h;intro n m e0' e1' h;subst e0';subst e1';refine xA ho ?_;clear ho;intro hn q1';subst q1';refine xA hv ?_;clear hv;intro hm q1';subst q1';refine ox h ?_;clear h;intro o xs ys e1 e2 h;refine ap (r.named hn e1) ?_;intro i1 y1 q1' c1 a1;obtain⟨l1,z1⟩:=q1';refine ap (r.named hm e2) ?_;intro i2 y2 q1' c2 a2;obtain⟨l2,z2⟩:=q1';rw[D.ok.l0,List.nil_append]at c2;subst c2;refine bU h ?_;clear h;intro i e3 h;refine ab h ?_;clear h;intro c h;have c:=Nat.le_of_ble_eq_true c;refine ab h ?_;clear h;intro sm h;refine aB h ?_;clear h;intro h1;subst h1;refine xE (kW D.ok e3 hlo) ?_;intro t q1';subst q1';have e4:i1.size=(G.I.ol o).length+y1.length:=by rw[<-Array.length_toList,c1,List.length_append]
 have e5:=fB a2;have hl:=dF sm;rw[List.length_append,List.length_take]at hl;have b1:=D.ok.small o;have b2:=a1.length;refine nM l1 l2.isList hs (by lia) (by lia) (λh' pl hb=>?_)
 have Z:=r.set (X:=X) (h':=h') (tk:=s.toks) (o:=.lst o (xs.take i++ys)) hn hb l1.noTup
  ⟨_,y1.take i++i2.toList,⟨pl,by rw[Array.size_append,Array.size_extract];lia⟩,by
   rw[Array.toList_append,Array.toList_extract,c1]
   simp only[List.extract,List.drop_zero,Nat.sub_zero]
   rw[List.take_append,List.take_of_length_le (by exact Nat.le_add_right _ _),Nat.add_sub_cancel_left,List.append_assoc],(a1.take i).app a2⟩
 exact q _ _ Z.2 Z.1
noncomputable def XL (L:Nat):Nat->Prop:=λa=>a=L
noncomputable def FlR (G:Gr) (J:Nat->Nat) (nx:Nat):Fl->Flow->Prop
 |.next,f=>f=.next
 |.ret v,f=>∃val,f=.ret val/\VR G J nx v val
noncomputable def pL (G:Gr) (J:Nat->Nat) (S:St) (h:Heap) (it:Nat) (xs:SV) (i:Nat):Prop:=match xs with
 |.ref n=>n<S.next/\(match S.hp.get n with
  |some (.lst 0 _)=>h.IsListIter it (J n) i
  |some (.tup _)=>h.IsTupleIter it (J n) i
  |some (.rng hi)=>∃left,PySem.IsRangeIter h it (i:Int) left 1/\(left=hi -i\/(left<=0/\hi<=i))
  |_=>False)
 |_=>False
section
variable(G:Gr) (X:Cx)
noncomputable def ze (L:Nat) (J:Nat->Nat) (S:St) (s:Shared) (vs:List SV) (S':St) (Q:List Value->Shared->Prop):Prop:=∀J' vals s',cT (XL L) J S s J' S' s'->SR G J' S' s' L->ac (VR G J' S'.next) vs vals->Q vals s'
noncomputable def bt (Z:Nat->Prop) (L:Nat) (J:Nat->Nat) (S:St) (s:Shared) (fl:Fl) (S':St) (Q:Flow->Shared->Prop):Prop:=∀J' f s',cT Z J S s J' S' s'->SR G J' S' s' L->FlR G J' S'.next fl f->Q f s'
theorem bt.cast{G:Gr}{Z:Nat->Prop}{L:Nat}{J:Nat->Nat}{S S' S'':St}{s:Shared}{f g:Fl}{Q:Flow->Shared->Prop}(h:some (f,S')=some (g,S''))(q:bt G Z L J S s g S'' Q):bt G Z L J S s f S' Q:=by refine gS h ?_;clear h;intro h1 h2;subst h1;subst h2;exact q
structure ba (d:Nat) (lv:Lv):Prop where
 ex:∀{fc e S v S'},lv.ex fc e S=some (v,S')->∀{A E ae J s L Q},Rm d A->ag ae fc J S.next L->SR G J S s L->aj G (XL L) L J S s v S' Q->wpAny (model G.prog G.w) A (eval e ae) Q E s
 ts:∀{fc e S b S'},lv.ts fc e S=some (b,S')->∀{A E ae J s L Q},Rm d A->ag ae fc J S.next L->SR G J S s L->cF G (XL L) L J S s S' (Q b)->wpAny (model G.prog G.w) A (isTrue e ae (eval e ae)) Q E s
 st:∀{fc e S fl S'},lv.st fc e S=some (fl,S')->∀{A E ae J s L Q},Rm d A->ag ae fc J S.next L->SR G J S s L->bt G (XL L) L J S s fl S' Q->wpAny (model G.prog G.w) A (exec e ae) Q E s
 sts:∀{fc b S fl S'},lv.sts fc b S=some (fl,S')->∀{A E ae J s L Q},Rm d A->ag ae fc J S.next L->SR G J S s L->bt G (XL L) L J S s fl S' Q->wpAny (model G.prog G.w) A (execs b ae) Q E s
 call:∀{a vs S v S'},lv.call a vs S=some (v,S')->∀{A E J s vals Q},Rm d A->Hp G J S s.heap->ac (VR G J S.next) vs vals->
  (∀J' val s',cT (λ_=>False) J S s J' S' s'->Hp G J' S' s'.heap->S'.loc=S.loc->VR G J' S'.next v val->Q val s')->wpAny (model G.prog G.w) A (call (.ref a) vals) Q E s
 keep:∀{a vs S r},lv.call a vs S=some r->keepIn G.K (.ref a)=true
 fors:∀{fc t xs i b S fl S'},lv.fors fc t xs i b S=some (fl,S')->∀{A ae J s L it J0 S0 s0} {R:Result->Shared->Prop},Rm d A->ag ae fc J S.next L->SR G J S s L->pL G J S s.heap it xs i->(∀n,n<S.next->J n≠it)->it≠L->G.h0.get? it=none->
  cT (XL L) J0 S0 s0 J S s->s0.heap.get? it=none->bt G (XL L) L J0 S0 s0 fl S' (λf=>R (.ok f))->codeAny (model G.prog G.w) A (.forLoop t (.ref it) b [] ae) R s
 whl:∀{fc t b S fl S'},lv.whl fc t b S=some (fl,S')->∀{A ae J s L} {R:Result->Shared->Prop},Rm d A->ag ae fc J S.next L->SR G J S s L->
  bt G (XL L) L J S s fl S' (λf=>R (.ok f))->codeAny (model G.prog G.w) A (.whileLoop t b [] ae) R s
 comp:∀{fc out t ifs elt xs i n S S'},lv.comp fc out t ifs elt xs i n S=some S'->∀{A ae J s L it J0 S0 s0 iter scope pos} {R:Result->Shared->Prop},Rm d A->ag ae fc J S.next L->SR G J S s L->pL G J S s.heap it xs i->(∀n,n<S.next->J n≠it)->it≠L->G.h0.get? it=none->n<S.next->
  cT (XL L) J0 S0 s0 J S s->s0.heap.get? it=none->(∀J' s',cT (XL L) J0 S0 s0 J' S' s'->SR G J' S' s' L->J' n=J n/\S.next<=S'.next->R (.ok .next) s')->codeAny (model G.prog G.w) A (.compLoop (.ListComp elt [⟨t,iter,ifs,0⟩] scope pos) 0 (.ref it) (.ref (J n)) ae) R s
 forsI:∀{fc t xs i b S r},lv.fors fc t xs i b S=some r->∃ov,bI S xs i=some ov
 compI:∀{fc out t ifs elt xs i n S r},lv.comp fc out t ifs elt xs i n S=some r->∃ov,bI S xs i=some ov
end
theorem ag.stp{Z:Nat->Prop}(x:ag ae fc J S.next L)(t:cT Z J S s J' S' s'):ag ae fc J' S'.next L:=x.after t.ext t.le
theorem VR.stp{Z:Nat->Prop}{v:SV}{val:Value}(x:VR G J S.next v val)(t:cT Z J S s J' S' s'):VR G J' S'.next v val:=x.mono t.ext t.le
theorem VRs.stp{Z:Nat->Prop}{v:List SV}{val:List Value}(x:ac (VR G J S.next) v val)(t:cT Z J S s J' S' s'):ac (VR G J' S'.next) v val:=VRs.mono x t.ext t.le
theorem iD{e:PExpr}{es:List PExpr}{ae:Env}(h:eM e=true):starEach (e::es) ae=(false,eval e ae)::starEach es ae:=by induction e using PySem.Expr.casesOn<;>first|rfl|(first|exact ai h|cases h)
set_option tactic.hygienic true in
theorem pu(O:ba G d lv)(pos:Pos){es:List PExpr}{S:St}{vs:List SV}{S':St}:rx lv fc es S=some (vs,S')->∀{J s Q},Rm d A->ag ae fc J S.next L->SR G J S s L->ze G L J S s vs S' Q->wpAny (model G.prog G.w) A (spliced (backTo pos (starEach es ae))) Q E s/\(backTo pos (starEach es ae)).any (·.1)=false:=by
 induction es generalizing S vs S' with
 |nil=>intro h J s Q hR hE r q;refine gS h ?_;clear h;intro h1 h2;subst h1;subst h2;exact⟨wpAny_pure (q J [] s .refl r .nil),rfl⟩
 |cons e es ih=>
  intro h J s Q hR hE r q;refine ab h ?_;clear h;intro ns h;have hs:=iD (ae:=ae) (es:=es) ns;rw[hs];induction e1:lv.ex fc e S using Option.casesOn with
  |none=>rw[e1]at h;exact aa h
  |some x1=>
  obtain⟨v,S1⟩:=x1;rw[e1]at h;dsimp only at h;induction e2:rx lv fc es S1 using Option.casesOn with
  |none=>rw[e2]at h;exact aa h
  |some x2=>
  obtain⟨vs',S2⟩:=x2;rw[e2]at h;refine gS h ?_;clear h;intro h1 h2;subst h1;subst h2;have hb:∀(x:Bool×Sem Value) (r:List (Bool×Sem Value)),backTo pos (x::r)=backTo pos [x]++backTo pos r:=λ_ _=>rfl;refine⟨?_,?_⟩
  ·show wpAny _ _ (spliced ((false,eval e ae)::backTo pos (starEach es ae))) Q E s;refine Calls.spliced_cons (O.ex e1 hR hE r λJ1 val s1 t1 r1 v1=>?_);refine wpAny_mono (ih e2 hR (hE.stp t1) r1 (Q:=λvs s2=>Q (val::vs) s2) λJ2 vals s2 t2 r2 v2=>?_).1 (λ_ _ z=>z) (λ_ _ z=>z);exact q J2 (val::vals) s2 (t1.trans t2) r2 (.cons (v1.stp t2) v2)
  ·show(false||(backTo pos (starEach es ae)).any (·.1))=false;rw[Bool.false_or];have:∀(Q':List Value->Shared->Prop),True:=λ_=>trivial;exact backTo_plain lv e2
where
 backTo_plain {pos:Pos} {ae:Env} {fc:FC} (lv:Lv):∀{es:List PExpr} {S:St} {r:List SV×St},rx lv fc es S=some r->(backTo pos (starEach es ae)).any (·.1)=false
 |[],_,_,_=>rfl
 |e::es,S,r,h=>by
  refine ab h ?_;clear h;intro ns h
  have hs:=iD (ae:=ae) (es:=es) ns
  rw[hs]
  induction e1:lv.ex fc e S using Option.casesOn with
  |none=>rw[e1]at h;exact aa h
  |some x1=>
  obtain⟨v,S1⟩:=x1
  rw[e1]at h;dsimp only at h
  induction e2:rx lv fc es S1 using Option.casesOn with
  |none=>rw[e2]at h;exact aa h
  |some x2=>
  show(false||(backTo pos (starEach es ae)).any (·.1))=false
  rw[Bool.false_or]
  exact backTo_plain lv e2
set_option tactic.hygienic true
theorem aj.of{X:Nat->Prop}{v:SV}{Q:Value->Shared->Prop}(p:aj G X L J S s v S'' Q)(x:cT X J S s J' S' s'):aj G X L J' S' s' v S'' Q:=p.later x
theorem rM(ok:G.I.Ok)(O:ba G d lv)(pos:Pos)(op:BoolOp):∀{es:List PExpr} {S:St} {v:SV} {S':St},u8 lv fc op es S=some (v,S')->∀{J s Q},Rm d A->ag ae fc J S.next L->SR G J S s L->aj G (XL L) L J S s v S' Q->wpAny (model G.prog G.w) A (boolOp pos op (evalEach es ae)) Q E s
 |[]=>by rename_i S v S';intro h J s Q hR hE r q;exact aa h
 |[e]=>by rename_i S v S';intro h J s Q hR hE r q;exact O.ex h hR hE r q
 |e::e'::es=>by
  rename_i S v S';intro h J s Q hR hE r q;refine ao h ?_;clear h;intro u S1 e1 h;refine rc h ?_;clear h;intro t e2 h;show wpAny _ _ (eval e ae>>=_) _ _ _;refine wpAny_bind (O.ex e1 hR hE r λJ1 val s1 t1 r1 v1=>?_);refine wpAny_bind (wpAny_standAt (wpAny_bind (wpAny_holding (mC ok r1 v1 e2 λtk=>?_))));have R2:=r1.tok (X:=XL L) (tk:=tk);have go:u8 lv fc op (e'::es) S1=some (v,S')->wpAny (model G.prog G.w) A (boolOp pos op (evalEach (e'::es) ae)) Q E {s1 with toks:=tk}:=λh=>rM ok O pos op h hR ((hE.stp t1).stp R2.2) R2.1 (q.later (t1.trans R2.2));induction op using PySem.BoolOp.casesOn<;>induction t using Bool.casesOn<;>dsimp only at h|-
  ·replace q:=aj.cast h q;clear h;exact wpAny_pure (q _ _ _ (t1.trans R2.2) R2.1 v1)
  ·exact go h
  ·exact go h
  ·replace q:=aj.cast h q;clear h;exact wpAny_pure (q _ _ _ (t1.trans R2.2) R2.1 v1)
theorem pI(O:ba G d lv)(op:BoolOp):∀{es:List PExpr} {S:St} {b:Bool} {S':St},CY lv fc op es S=some (b,S')->∀{J s Q},Rm d A->ag ae fc J S.next L->SR G J S s L->cF G (XL L) L J S s S' (Q b)->wpAny (model G.prog G.w) A (allTrue op es ae) Q E s
 |[]=>by
  rename_i S b S';intro h J s Q hR hE r q;induction op using PySem.BoolOp.casesOn<;>(first|(refine gS h ?_;clear h;intro h1 h2;subst h1;subst h2)|cases h)
  ·exact wpAny_allTrue_And_nil (q _ _ .refl r)
  ·exact wpAny_allTrue_Or_nil (q _ _ .refl r)
 |e::es=>by
  rename_i S b S';intro h J s Q hR hE r q;refine lC h ?_;clear h;intro t S1 e1 h;induction op using PySem.BoolOp.casesOn with
  |And=>
   refine wpAny_allTrue_And_cons (O.ts e1 hR hE r λJ1 s1 t1 r1=>?_);induction t using Bool.casesOn<;>dsimp only at h
   ·refine gS h ?_;clear h;intro h1 h2;subst h1;subst h2;exact q _ _ t1 r1
   ·exact pI O .And h hR (hE.stp t1) r1 (q.later t1)
  |Or=>
   refine wpAny_allTrue_Or_cons (O.ts e1 hR hE r λJ1 s1 t1 r1=>?_);induction t using Bool.casesOn<;>dsimp only at h
   ·exact pI O .Or h hR (hE.stp t1) r1 (q.later t1)
   ·refine gS h ?_;clear h;intro h1 h2;subst h1;subst h2;exact q _ _ t1 r1
set_option tactic.hygienic false
section
variable{prog:Program}
theorem wk{it l:Addr}{items:Array Value}(hne:l≠it):∀(n i:Nat) (s:Shared) (Q:List Value->Shared->Prop),s.heap.IsListIter it l i->s.heap.IsList l items->i+n<=items.size->(∀h',h'.IsListIter it l (i+n)->Heap.SameBut it s.heap h'->Q ((items.toList.drop i).take n) {s with heap:=h'})->wpAny (model prog w) A (draw (.ref it) n) Q E s:=by
 intro n;induction n with
 |zero=>intro i s Q hit hl hi hQ;rw[List.take_zero]at hQ;exact wpAny_pure (hQ s.heap hit (.refl ..))
 |succ n ih=>
  intro i s Q hit hl hi hQ;have hlt:i<items.size:=by exact Nat.lt_of_le_of_lt (Nat.le_add_right _ _) ‹_›
  unfold draw;refine wpAny_bind (wpAny_pyNext_list_item hit hl (Array.getElem?_eq_getElem hlt) λh₁ hit₁ hs₁=>?_);have hl1:h₁.IsList l items:=by obtain⟨o,ho,r⟩:=hl;exact⟨o,(hs₁.2 l hne).trans ho,r⟩
  refine wpAny_bind (wpAny_holding (ih (i+1) _ _ hit₁ hl1 (by lia) λh₂ hit₂ hs₂=>wpAny_pure ?_));have hd:items.toList.drop i=items[i]::items.toList.drop (i+1):=by simp[List.drop_eq_getElem_cons,hlt]
  have:=hQ h₂ (by rw[show i+(n+1)=i+1+n by lia];exact hit₂) (hs₁.trans hs₂);rw[hd,List.take_succ_cons]at this;exact this
theorem je{l:Addr}{items:Array Value}{Q:List Value->Shared->Prop}(hh:A.handled=none)(hl:s.heap.IsList l items)(hQ:∀h',(∀b o,s.heap.get? b=some o->h'.get? b=some o)->Q items.toList {s with heap:=h'}):wpAny (model prog w) A (unpackItems (.ref l) items.size none) Q E s:=by
 have hlt:l≠s.heap.objs.size:=by obtain⟨o,ho,_⟩:=hl;exact Nat.ne_of_lt (Heap.lt_size ho)
 unfold unpackItems;refine wpAny_bind ?_;unfold notIterableAtAll;refine wpAny_bind (wpAny_specialOf hl.typeIs slot_list_iter.lookup ?_);refine wpAny_pure ?_;refine se Bool.false_ne_true ?_;refine wpAny_bind (wpAny_holding (wpAny_pyIter_list hl ?_));have hl0:(s.heap.push {cls:=.type "list_iterator",data:=.fields #[.ref l,.int 0 0]}).IsList l items:=by obtain⟨o,ho,r⟩:=hl;exact⟨o,Heap.get?_push_of_some _ ho,r⟩
 refine wpAny_bind (wpAny_holding (wk hlt items.size 0 _ _ ⟨_,Heap.get?_push_size _ rfl,rfl,rfl⟩ hl0 (by simp) λh₁ hit₁ hs₁=>?_));have hall:List.take items.size (List.drop 0 items.toList)=items.toList:=by rw[List.drop_zero];exact List.take_of_length_le (by simp)
 rw[hall];refine se (by simp) ?_;have hl1:h₁.IsList l items:=by obtain⟨o,ho,r⟩:=hl0;exact⟨o,(hs₁.2 l hlt).trans ho,r⟩
 refine wpAny_bind (wpAny_holding (wpAny_pyNext_list_end hh hit₁ hl1 (by simp) λh₂ he₂=>?_));simp only[Option.isSome_none,Bool.false_eq_true,if_false];refine wpAny_pure (hQ h₂ λb o e=>?_);have hb:b≠s.heap.objs.size:=Nat.ne_of_lt (Heap.lt_size e);exact he₂ b o hb (hs₁.extBut b o hb (Heap.get?_push_of_some _ e))
end
theorem kJ{t:PExpr}{ts:List PExpr}{xs:List Str}(h:cJ (t::ts)=some xs){P:Prop}(k:∀x p xs',t=.Name x p->cJ ts=some xs'->xs=x::xs'->P):P:=by
 induction t using PySem.Expr.casesOn<;>try exact aa h
 exact an (Option.map_eq_some_iff.mp h) λys a b=>k _ _ ys rfl a b.symm
theorem nF{ts:List PExpr}{xs:List Str}(h:cJ ts=some xs):(assignEach ts ae).length=xs.length/\(assignEach ts ae).findIdx? (·.1)=none:=by
 induction ts generalizing xs with
 |nil=>refine aB h ?_;clear h;intro h1;subst h1;exact⟨rfl,rfl⟩
 |cons t ts ih=>refine kJ h ?_;intro x pos xs' e0' h3 q1';subst e0';subst q1';refine xA (ih h3) ?_;intro a b;have e:assignEach (.Name x pos::ts) ae=(false,assign (.Name x pos) ae)::assignEach ts ae:=rfl;rw[e];refine⟨by rw[List.length_cons,List.length_cons,a],?_⟩;rw[List.findIdx?_cons,b];rfl
theorem AQ{xs:List Str}:∀{vs:List SV} {S S':St},fz fc xs vs S=some S'->xs.length=vs.length:=by
 induction xs with
 |nil=>
  intro vs S S' h;induction vs using List.casesOn with
  |nil=>rfl
  |cons _ _=>exact aa h
 |cons x xs ih=>
  intro vs S S' h;induction vs using List.casesOn with
  |nil=>exact aa h
  |cons v vs=>refine bf h ?_;clear h;intro _ _ h;exact congrArg Nat.succ (ih h)
theorem jd{nx:Nat}{ts:List PExpr}{xs:List Str}{vs:List SV}{vals:List Value}{S S':St}(h1:cJ ts=some xs)(h2:fz fc xs vs S=some S')(hv:ac (VR G J nx) vs vals):(assignEach ts ae).length=vals.length/\(assignEach ts ae).findIdx? (·.1)=none:=
 ⟨(nF h1).1.trans ((AQ h2).trans hv.length),(nF h1).2⟩
set_option tactic.hygienic true in
theorem gB:∀{ts:List PExpr} {xs:List Str} {vs:List SV} {vals:List Value} {S S':St},cJ ts=some xs->fz fc xs vs S=some S'->∀{J s Q},ac (VR G J S.next) vs vals->ag ae fc J S.next L->SR G J S s L->cF G (XL L) L J S s S' (Q ())->wpAny (model G.prog G.w) A (assignInOrder ((assignEach ts ae).map (·.2)) vals) Q E s
 |[]=>by
  rename_i xs vs vals S S';intro h1 h2 J s Q hv hE r q;refine aB h1 ?_;clear h1;intro h1;subst h1;cases hv with
  |nil=>refine aB h2 ?_;clear h2;intro h1;subst h1;exact wpAny_pure (q _ _ .refl r)
  |cons _ _=>exact aa h2
 |t::ts=>by
  rename_i xs vs vals S S';intro h1 h2 J s Q hv hE r q;refine kJ h1 ?_;intro x pos xs' e0' h3 q1';subst e0';subst q1';cases hv with
  |nil=>exact aa h2
  |@cons v val vs vals v1 v2=>
  refine bf h2 ?_;clear h2;intro S1 e1 h2;show wpAny _ _ (do holding vals (assign (.Name x pos) ae val);assignInOrder ((assignEach ts ae).map (·.2)) vals) _ _ _;refine wpAny_bind (wpAny_holding ?_);show wpAny _ _ (do standAt pos;bindName ae x val) _ _ _;refine wpAny_bind (wpAny_standAt (wpAny_bindName (gD (X:=XL L) x hE r rfl v1 e1 λJ1 s1 t1 r1=>?_)));exact gB h3 h2 (VRs.stp v2 t1) (hE.stp t1) r1 (q.later t1)
theorem ij(D:Gd G Cxt)(O:ba G d lv){t:PExpr}{v:SV}{val:Value}{Q:Unit->Shared->Prop}(hR:Rm d A)(hE:ag ae fc J S.next L)(r:SR G J S s L)(hv:VR G J S.next v val)(h:y0 Cxt lv fc t v S=some S')(q:cF G (XL L) L J S s S' (Q ())):wpAny (model G.prog G.w) A (assign t ae val) Q E s:=by
 have hu:A.units+10<cLine:=by have:=hR.units;exact aW ‹_› (by decide)
 unfold y0 at h;refine m5 h ?_ ?_ ?_ ?_<;>clear h
 ·intro x pos e0' h;subst e0';show wpAny _ _ (do standAt pos;bindName ae x val) _ _ _;exact wpAny_bind (wpAny_standAt (wpAny_bindName (gD (X:=XL L) x hE r rfl hv h q)))
 ·intro ts k pos e0' h;subst e0';unfold yY at h;refine pa h ?_;clear h;intro xs n e1 e1' h;subst e1';refine xA hv ?_;clear hv;intro hn q1';subst q1';refine pd h ?_ ?_<;>clear h
  ·intro vs e2 h;refine an (r.named hn e2) ?_;intro items q1' al;obtain⟨ht,hz⟩:=q1';obtain⟨g1,g2⟩:=jd (ae:=ae) e1 h al;refine wpAny_assign_Tuple hR.handled ht (by rw[g1];simp) g2 λh' hx=>?_;have R:=r.grow (X:=XL L) (h':=h') (tk:=s.toks) λa o e=>hx a o (Nat.ne_of_lt (Heap.lt_size e)) e;exact gB e1 h (VRs.stp al R.2) (hE.stp R.2) R.1 (q.later R.2)
  ·intro vs e2 h;refine ap (r.named hn e2) ?_;intro items ys q1' c1 al;obtain⟨hl,hz⟩:=q1';rw[D.ok.l0,List.nil_append]at c1;subst c1;obtain⟨g1,g2⟩:=jd (ae:=ae) e1 h al;rw[arm_assign_Tuple];refine wpAny_bind (wpAny_standAt ?_);unfold unpack;rw[g1,g2,Array.length_toList];refine wpAny_bind (wpAny_holding (je hR.handled hl.isList λh' hx=>?_));have R:=r.grow (X:=XL L) (h':=h') (tk:=s.toks) hx;exact gB e1 h (VRs.stp al R.2) (hE.stp R.2) R.1 (q.later R.2)
 ·intro o a pos e0' h;subst e0';unfold vc at h;refine ao h ?_;clear h;intro ov S1 e1 h;show wpAny _ _ (do let ov<-holding [val] (eval o ae);standAt pos.atName;holding [val,ov] (setAttr ov a val);release [val,ov] []) _ _ _;refine wpAny_bind (wpAny_holding (O.ex e1 hR hE r λJ1 oval s1 t1 r1 v1=>?_));refine wpAny_bind (wpAny_standAt (wpAny_bind (wpAny_holding (sC (X:=XL L) D r1 v1 (hv.stp t1) h λJ2 s2 t2 r2=>?_))));exact wpAny_release' (q _ _ (t1.trans t2) r2)
 ·intro o i pos e0' h;subst e0';unfold pH at h;refine ao h ?_;clear h;intro ov S1 e1 h;rw[arm_assign_Subscript];refine wpAny_bind (wpAny_holding (O.ex e1 hR hE r λJ1 oval s1 t1 r1 v1=>?_));refine gV h ?_ ?_<;>clear h
  ·intro lo hi stp pos' e0' h;subst e0';unfold yZ at h;refine pf h ?_;clear h;intro lo' e0' e1' e2' h;subst e0';subst e1';subst e2';refine ao h ?_;clear h;intro l S2 e2 h;show wpAny _ _ (holding [val,oval] (eval (.Slice (some lo') none none pos') ae)>>=_) _ _ _;refine wpAny_bind (wpAny_holding (wpAny_Slice ?_));refine O.ex e2 hR (hE.stp t1) r1 λJ2 vlo s2 t2 r2 v2=>?_;refine wpAny_pure (wpAny_pure ?_);have R:=r2.grow (X:=XL L) (h':=s2.heap.push {cls:=.type "slice",data:=.fields #[vlo,.none,.none]}) (tk:=s2.toks) λa o e=>Heap.get?_push_of_some _ e;have t3:=(t1.trans t2).trans R.2;refine wpAny_bind (wpAny_standAt (wpAny_bind (wpAny_holding (vq (X:=XL L) D R.1 ((v1.stp t2).stp R.2) (v2.stp R.2) (hv.stp t3) h ⟨_,Heap.get?_push_size _ rfl,rfl,rfl⟩ λJ4 s4 t4 r4=>?_))));exact wpAny_release' (q _ _ (t3.trans t4) r4)
  ·intro _ e0' h;subst e0';refine ao h ?_;clear h;intro iv S2 e2 h;refine wpAny_bind (wpAny_holding (O.ex e2 hR (hE.stp t1) r1 λJ2 ival s2 t2 r2 v2=>?_));refine wpAny_bind (wpAny_standAt (wpAny_bind (wpAny_holding (kO (X:=XL L) D r2 hu (v1.stp t2) v2 (hv.stp (t1.trans t2)) h λJ3 s3 t3 r3=>?_))));exact wpAny_release' (q _ _ ((t1.trans t2).trans t3) r3)
noncomputable def Fb:Me->Value
 |.fn f=>.ref f
 |.append=>.builtin "list.append"
 |.get=>.builtin "dict.get"
theorem i9{M:Model}{f:Value}{trees:List (Bool×Sem Value)}{Q:Args->Shared->Prop}(hp:trees.any (·.1)=false)(h:wpAny M A (spliced trees) (λvs s'=>Q ⟨vs,[]⟩ s') E s):wpAny M A (evalArgs f true trees []) Q E s:=by
 induction trees using List.casesOn with
 |nil=>unfold evalArgs;show wpAny M A (spliced []>>=_) Q E s;refine wpAny_bind (wpAny_mono h (λvs s' h'=>wpAny_bind (wpAny_pure ?_)) λ_ _ x=>x);refine wpAny_holding ?_;exact wpAny_bind (wpAny_pure (wpAny_bind (wpAny_pure (wpAny_pure h'))))
 |cons x r=>
  obtain⟨b,t⟩:=x;have:b=false:=by rw[List.any_cons,Bool.or_eq_false_iff]at hp;exact hp.1
  subst this;exact Calls.evalArgs_plain h
theorem xL(D:Gd G Cxt)(r:SR G J S s L):G.K.In s.heap:=λb ob e=>r.hp.base _ _ (D.kin b ob e)
theorem gA(D:Gd G Cxt)(O:ba G d lv){pos:Pos}{f:Value}{first:List Value}{args:List PExpr}{vs:List SV}{Q:Value->Shared->Prop}(hR:Rm d A)(hE:ag ae fc J S.next L)(r:SR G J S s L)(hk:∀h,G.K.In h->∃k,(k=Keeper.frame\/k=Keeper.machine\/k=Keeper.boundFrame)/\Looks (model G.prog G.w) h (keeperOf f) k)(h:rx lv fc args S=some (vs,S'))(q:ze G L J S s vs S' (λvals s'=>wpAny (model G.prog G.w) A (call f (first++vals)) Q E s')):wpAny (model G.prog G.w) A (callWith pos f first (backTo pos (starEach args ae)) (backToKw pos (keywordEach [] ae))) Q E s:=by obtain⟨a1,a2⟩:=pu (E:=E) O pos h hR hE r (Q:=λvals s'=>G.K.In s'.heap/\wpAny (model G.prog G.w) A (call f (first++vals)) Q E s') (λJ' vals s' t r' v=>⟨xL D r',q J' vals s' t r' v⟩);exact callWith_of (P:=λh=>G.K.In h) (by rw[a2];rfl) hk (i9 a2 a1)
theorem dy{id:String}(h:Heap):∃k,(k=Keeper.frame\/k=Keeper.machine\/k=Keeper.boundFrame)/\Looks (model G.prog G.w) h (keeperOf (.builtin id)) k:=⟨.machine,.inr (.inl rfl),Looks.of_pure rfl⟩
theorem ll{id:String}(h:Heap):∃k,(k=Keeper.frame\/k=Keeper.machine\/k=Keeper.boundFrame)/\Looks (model G.prog G.w) h (keeperOf (.type id)) k:=⟨.machine,.inr (.inl rfl),Looks.of_pure rfl⟩
theorem lV:vd=("append":Str):=by decide+kernel
theorem An:Ao=("get":Str):=by decide+kernel
theorem pq(D:Gd G Cxt)(r:SR G J S s L){o:SV}{oval:Value}{a:Str}{m:Me}{pl:Sem Bool}{Q:Value×List Value->Shared->Prop}(ho:VR G J S.next o oval)(h:ld Cxt S o a=some m)(q:Q (Fb m,[oval]) s):wpAny (model G.prog G.w) A (getMethod oval a pl) Q E s:=by
 have dictGet:∀{d:Addr},(∃ob,s.heap.get? d=some ob/\ob.ExactDict)->cq a Ao=true->Q (.builtin "dict.get",[.ref d]) s->wpAny (model G.prog G.w) A (getMethod (.ref d) a pl) Q E s:=by rintro d ⟨ob,h1,h2,h3,h4⟩ hs q;rw[aI.mp hs,An];exact getMethod_builtin ⟨ob,h1,h2⟩ PySem.F.plainAttrs_dict PySem.F.slot_dict_get PySem.F.type_dict_get (λa e=>by cases e;exact⟨ob,h1,h3⟩) q
 unfold ld at h;refine iY h ?_ ?_<;>clear h
 ·intro n e0' h;subst e0';refine xA ho ?_;clear ho;intro hn q1';subst q1';refine i0 h ?_ ?_ ?_ ?_ ?_ ?_ ?_ ?_<;>clear h
  ·intro C dd e1 h;refine du h ?_;clear h;intro es e2 h;refine i6 h ?_;clear h;intro e3 h;refine an (Option.map_eq_some_iff.mp h) ?_;intro f hf q1';subst q1';refine mz (jx r hn e1 e2 a) ?_;intro hd od kvs I od1 dk hl al _;refine gM (D.meth C a f hf) ?_;intro m1 m2 m3 _;have ov:=fO (G:=G) (J:=J) (nx:=S.next) a al;rw[e3]at ov;have hv:valueAt kvs a=none:=by
    induction hv:valueAt kvs a using Option.casesOn with
    |none=>rfl
    |some val=>rw[hv]at ov;exact ov.elim
   rw[hv]at hl;exact method_fn (xL D r) I (plainGet_of m1).1 (plainGet_of m1).2 m2 m3 (by show(lookIn a od).map _=_;rw[hl];rfl) q
  ·intro o xs e1 h;refine ab h ?_;clear h;intro hs h;refine aB h ?_;clear h;intro h1;subst h1;refine ap (r.named hn e1) ?_;intro items ys q1' c1 al;obtain⟨⟨ob,h1,h2,h3,_⟩,hz⟩:=q1';rw[aI.mp hs,lV];exact Calls.getMethod_list_append h1 h2 h3 q
  ·intro o es xs e1 h;refine ab h ?_;clear h;intro hs h;refine aB h ?_;clear h;intro h1;subst h1;refine ap (r.named hn e1) ?_;intro items ys q1' c1 al;obtain⟨⟨ob,h1,h2,h3,_⟩,hz⟩:=q1';rw[aI.mp hs,lV];exact Calls.getMethod_list_append h1 h2 h3 q
  ·intro es e1 h;refine ab h ?_;clear h;intro hs h;refine aB h ?_;clear h;intro h1;subst h1;refine an (r.named hn e1) ?_;intro kvs q1' _;obtain⟨ob,en,ep,h1,h2,_⟩:=q1';exact dictGet ⟨ob,h1,h2⟩ hs q
  ·intro es e1 h;refine ab h ?_;clear h;intro hs h;refine aB h ?_;clear h;intro h1;subst h1;refine an (r.named hn e1) ?_;intro kvs q1' _;obtain⟨ob,en,ep,h1,h2,_⟩:=q1';exact dictGet ⟨ob,h1,h2⟩ hs q
  ·intro oo es e1 h;refine ab h ?_;clear h;intro hs h;refine aB h ?_;clear h;intro h1;subst h1;refine an (r.named hn e1) ?_;intro xs q1' _;obtain⟨⟨ob,en,ep,h1,h2,_⟩,_⟩:=q1';exact dictGet ⟨ob,h1,h2⟩ hs q
  ·intro es e1 h;refine ab h ?_;clear h;intro hs h;refine aB h ?_;clear h;intro h1;subst h1;refine an (r.named hn e1) ?_;intro kvs q1' _;obtain⟨ob,en,ep,h1,h2,_⟩:=q1';exact dictGet ⟨ob,h1,h2⟩ hs q
  ·intro es e1 h;refine ab h ?_;clear h;intro hs h;refine aB h ?_;clear h;intro h1;subst h1;refine an (r.named hn e1) ?_;intro kvs q1' _;obtain⟨ob,en,ep,h1,h2,_⟩:=q1';exact dictGet ⟨ob,h1,h2⟩ hs q
 ·intro b e0' h;subst e0';subst ho;refine iZ h ?_;clear h;intro es e1 hs h;refine aB h ?_;clear h;intro h1;subst h1;refine xA (D.td b es e1) ?_;intro sm T;rcases T with⟨kvs,⟨ob,en,ep,h1,h2,_⟩,_⟩|⟨kvs,⟨ob,en,ep,h1,h2,_⟩,_⟩
  ·exact dictGet ⟨ob,r.hp.base _ _ h1,h2⟩ hs q
  ·exact dictGet ⟨ob,r.hp.base _ _ h1,h2⟩ hs q
theorem Ci(D:Gd G Cxt){o:SV}{a:Str}{m:Me}(h:ld Cxt S o a=some m):∀h,G.K.In h->∃k,(k=Keeper.frame\/k=Keeper.machine\/k=Keeper.boundFrame)/\Looks (model G.prog G.w) h (keeperOf (Fb m)) k:=by
 induction m using Me.casesOn with
 |append=>exact λh _=>dy h
 |get=>exact λh _=>dy h
 |fn f=>
  unfold ld at h;refine iY h ?_ ?_<;>clear h
  ·intro _ e0' h;subst e0';refine i0 h ?_ ?_ ?_ ?_ ?_ ?_ ?_ ?_<;>clear h
   ·intro _ _ _ h;refine du h ?_;clear h;intro _ _ h;refine i6 h ?_;clear h;intro _ h;refine an (Option.map_eq_some_iff.mp h) ?_;intro f' hf e;cases e;exact λh X=>keeps_K (D.meth _ _ _ hf).2.2.2 h X
   ·intro _ _ _ h;refine ab h ?_;clear h;intro _ h;exact Me.noConfusion (Option.some.inj h)
   ·intro _ _ _ _ h;refine ab h ?_;clear h;intro _ h;exact Me.noConfusion (Option.some.inj h)
   ·intro _ _ h;refine ab h ?_;clear h;intro _ h;exact Me.noConfusion (Option.some.inj h)
   ·intro _ _ h;refine ab h ?_;clear h;intro _ h;exact Me.noConfusion (Option.some.inj h)
   ·intro _ _ _ h;refine ab h ?_;clear h;intro _ h;exact Me.noConfusion (Option.some.inj h)
   ·intro _ _ h;refine ab h ?_;clear h;intro _ h;exact Me.noConfusion (Option.some.inj h)
   ·intro _ _ h;refine ab h ?_;clear h;intro _ h;exact Me.noConfusion (Option.some.inj h)
  ·intro _ e0' h;subst e0';refine iZ h ?_;clear h;intro _ _ _ h;exact Me.noConfusion (Option.some.inj h)
theorem SR.fromCall{J':Nat->Nat}(r:SR G J S s L)(t:cT (λ_=>False) J S s J' S' s')(hp:Hp G J' S' s'.heap)(e:S'.loc=S.loc):SR G J' S' s' L/\cT (XL L) J S s J' S' s':=by have t':cT (XL L) J S s J' S' s':=t.sub λ_ h=>h.elim;refine⟨⟨hp,r.lc.after t.le t.ext t.fresh (λo e=>t.keep _ _ e (λh=>h) λn hn=>r.lc.ne n hn) e⟩,t'⟩
theorem wp(D:Gd G Cxt)(O:ba G d lv)(hR:Rm d A)(r:SR G J S s L){m:Me}{o u:SV}{oval:Value}{vs:List SV}{vals:List Value}{Q:Value->Shared->Prop}(ho:VR G J S.next o oval)(hv:ac (VR G J S.next) vs vals)(h:uc Cxt lv m o vs S=some (u,S'))(q:aj G (XL L) L J S s u S' Q):wpAny (model G.prog G.w) A (call (Fb m) (oval::vals)) Q E s:=by
 have hu:A.units+5<cLine:=by have:=hR.units;exact aW ‹_› (by decide)
 unfold uc at h;refine q7 h ?_ ?_ ?_<;>clear h
 ·intro f e0' h;subst e0';refine O.call h hR r.hp (.cons ho hv) λJ' val s' t hp e v=>?_;refine xA (r.fromCall t hp e) ?_;intro a b;exact q _ _ _ b a v
 ·intro e0' h;subst e0';refine o8 h ?_;clear h;intro n v e0' e1' h;subst e0';subst e1';refine xA ho ?_;clear ho;intro hn q1';subst q1';refine ap (au hv) ?_;intro v1 z1 q1';subst q1';intro hv1 hz1;have q0':=aD hz1;subst q0';refine o9 h ?_ ?_<;>clear h
  ·intro k xs e1 h;refine ab h ?_;clear h;intro sm h;replace q:=aj.cast h q;clear h;refine nB (X:=XL L) D.ok r hn e1 sm hv1 λJ' s' t r'=>?_;exact q _ _ _ t r' rfl
  ·intro k es xs e1 h;refine ab h ?_;clear h;intro sm h;replace q:=aj.cast h q;clear h;refine ug (X:=XL L) D.ok r hn e1 sm hv1 λJ' s' t r'=>?_;exact q _ _ _ t r' rfl
 ·intro e0' h;subst e0';refine oZ h ?_;clear h
  ·intro _ _ e0' h;subst e0';refine ap (au hv) ?_;intro v1 z1 q1';subst q1';intro hv1 hz1;refine ap (au hz1) ?_;intro v2 z2 q1';subst q1';intro hv2 hz2;have q0':=aD hz2;subst q0';refine an (Option.map_eq_some_iff.mp h) ?_;intro ro e1 e2;replace q:=aj.cast (congrArg some e2) q;clear e2;refine ap (eE D r e1 ho hv1) ?_;intro a rv q1';subst q1';intro g ov;refine g.get2 hu λtk=>q.tok r ?_;induction ro using Option.casesOn<;>induction rv using Option.casesOn<;>first|exact ov.elim|exact hv2|exact ov
theorem aZ{op:CmpOp}{r:PExpr}(h:bG r=true):behindInMarks op r=false:=by induction r using PySem.Expr.casesOn<;>first|rfl|(first|exact ai h|cases h)
theorem lT{o:PExpr}{a:Str}{ae:Env}{t:Sem Value}(h:cz o=false):attributeBase o a ae t=t:=by
 induction o using PySem.Expr.casesOn with
 |Call f args kws pos=>
  induction f using PySem.Expr.casesOn with
  |Name x p=>
   induction args using List.casesOn with
   |nil=>
    induction kws using List.casesOn with
    |nil=>exact ul h
    |cons _ _=>rfl
   |cons _ _=>rfl
  |_=>rfl
 |_=>rfl
theorem qm(O:ba G d lv){e:Option PExpr}{v:SV}{Q:Value->Shared->Prop}(hR:Rm d A)(hE:ag ae fc J S.next L)(r:SR G J S s L)(h:xg lv fc e S=some (v,S'))(q:aj G (XL L) L J S s v S' Q):wpAny (model G.prog G.w) A (evalPart e ae) Q E s:=by
 induction e using Option.casesOn with
 |none=>replace q:=aj.cast h q;clear h;exact wpAny_pure (q _ _ _ .refl r rfl)
 |some e=>exact O.ex h hR hE r q
theorem lN(D:Gd G Cxt)(O:ba G d lv){l r0:PExpr}{op:CmpOp}{t:Bool}{Q:Value->Shared->Prop}(hR:Rm d A)(hE:ag ae fc J S.next L)(r:SR G J S s L){a b:SV}{S1 S2:St}(e1:lv.ex fc l S=some (a,S1))(e2:lv.ex fc r0 S1=some (b,S2))(e3:yO Cxt S2 op a b=some t)(q:cF G (XL L) L J S s S2 (Q (.bool t))):wpAny (model G.prog G.w) A (eval l ae) (λa s₁=>wpAny (model G.prog G.w) A (eval r0 ae) (λb s₂=>wpAny (model G.prog G.w) A (compareOp op a b) Q E s₂) E s₁) E s:=by
 have hu:A.units+10<cLine:=by have:=hR.units;exact aW ‹_› (by decide)
 refine O.ex e1 hR hE r λJ1 va s1 t1 r1 v1=>?_;refine O.ex e2 hR (hE.stp t1) r1 λJ2 vb s2 t2 r2 v2=>?_;refine AK D r2 hu (v1.stp t2) v2 e3 λtk=>?_;have R:=r2.tok (X:=XL L) (tk:=tk);exact q _ _ ((t1.trans t2).trans R.2) R.1
theorem nh{l:PExpr}{ops:List CmpOp}{rs:List PExpr}{t:Bool}(h:rz Cxt lv fc l ops rs S=some (t,S')):∃op r0,ops=[op]/\rs=[r0]/\∃a S1 b,lv.ex fc l S=some (a,S1)/\lv.ex fc r0 S1=some (b,S')/\bG r0=true/\yO Cxt S' op a b=some t:=by unfold rz at h;refine Fg ?_;intro P' hP';refine qY h ?_;clear h;intro op r0 e0' e1' h;subst e0';subst e1';refine ao h ?_;clear h;intro a S1 e1 h;refine ao h ?_;clear h;intro b S2 e2 h;refine ab h ?_;clear h;intro ns h;refine an (Option.map_eq_some_iff.mp h) ?_;intro t e3 e4;refine EK e4 ?_;clear e4;intro h1 h2;subst h1;subst h2;refine hP' ?_;exact⟨op,r0,rfl,rfl,a,S1,b,e1,e2,ns,e3⟩
theorem tz{γ:Type}{r:γ}{P:Prop}{x1:Mine.PExpr}{f0:(PySem.Const)->(Nat)->(PySem.Pos)->Option γ}{f1:(PySem.Str)->(PySem.Pos)->Option γ}{f2:(PySem.Expr)->(PySem.Operator)->(PySem.Expr)->(PySem.Pos)->Option γ}{f3:(PySem.UnaryOp)->(PySem.Expr)->(PySem.Pos)->Option γ}{f4:(PySem.BoolOp)->(List PySem.Expr)->(PySem.Pos)->Option γ}{f5:(PySem.Expr)->(PySem.Expr)->(PySem.Expr)->(PySem.Pos)->Option γ}{f6:(PySem.Expr)->(List PySem.CmpOp)->(List PySem.Expr)->(PySem.Pos)->Option γ}{f7:(PySem.Expr)->(List PySem.Expr)->(List PySem.Keyword)->(PySem.Pos)->Option γ}{f8:(PySem.Expr)->(PySem.Str)->(PySem.Pos)->Option γ}{f9:(PySem.Expr)->(PySem.Expr)->(PySem.Pos)->Option γ}{f10:(List PySem.Expr)->(Nat)->(PySem.Pos)->Option γ}{f11:(List PySem.Expr)->(PySem.Pos)->Option γ}{f12:(List (Option PySem.Expr))->(List PySem.Expr)->(PySem.Pos)->Option γ}{f13:(PySem.Expr)->(List PySem.Comprehension)->(PySem.Scope)->(PySem.Pos)->Option γ}(h:(match x1 with|PySem.Expr.Constant a1 a2 a3=>f0 a1 a2 a3|PySem.Expr.Name a1 a2=>f1 a1 a2|PySem.Expr.BinOp a1 a2 a3 a4=>f2 a1 a2 a3 a4|PySem.Expr.UnaryOp a1 a2 a3=>f3 a1 a2 a3|PySem.Expr.BoolOp a1 a2 a3=>f4 a1 a2 a3|PySem.Expr.IfExp a1 a2 a3 a4=>f5 a1 a2 a3 a4|PySem.Expr.Compare a1 a2 a3 a4=>f6 a1 a2 a3 a4|PySem.Expr.Call a1 a2 a3 a4=>f7 a1 a2 a3 a4|PySem.Expr.Attribute a1 a2 a3=>f8 a1 a2 a3|PySem.Expr.Subscript a1 a2 a3=>f9 a1 a2 a3|PySem.Expr.Tuple a1 a2 a3=>f10 a1 a2 a3|PySem.Expr.List a1 a2=>f11 a1 a2|PySem.Expr.Dict a1 a2 a3=>f12 a1 a2 a3|PySem.Expr.ListComp a1 a2 a3 a4=>f13 a1 a2 a3 a4|a1=>none)=some r)(k0:∀a1 a2 a3,x1=PySem.Expr.Constant a1 a2 a3->f0 a1 a2 a3=some r->P)(k1:∀a1 a2,x1=PySem.Expr.Name a1 a2->f1 a1 a2=some r->P)(k2:∀a1 a2 a3 a4,x1=PySem.Expr.BinOp a1 a2 a3 a4->f2 a1 a2 a3 a4=some r->P)(k3:∀a1 a2 a3,x1=PySem.Expr.UnaryOp a1 a2 a3->f3 a1 a2 a3=some r->P)(k4:∀a1 a2 a3,x1=PySem.Expr.BoolOp a1 a2 a3->f4 a1 a2 a3=some r->P)(k5:∀a1 a2 a3 a4,x1=PySem.Expr.IfExp a1 a2 a3 a4->f5 a1 a2 a3 a4=some r->P)(k6:∀a1 a2 a3 a4,x1=PySem.Expr.Compare a1 a2 a3 a4->f6 a1 a2 a3 a4=some r->P)(k7:∀a1 a2 a3 a4,x1=PySem.Expr.Call a1 a2 a3 a4->f7 a1 a2 a3 a4=some r->P)(k8:∀a1 a2 a3,x1=PySem.Expr.Attribute a1 a2 a3->f8 a1 a2 a3=some r->P)(k9:∀a1 a2 a3,x1=PySem.Expr.Subscript a1 a2 a3->f9 a1 a2 a3=some r->P)(k10:∀a1 a2 a3,x1=PySem.Expr.Tuple a1 a2 a3->f10 a1 a2 a3=some r->P)(k11:∀a1 a2,x1=PySem.Expr.List a1 a2->f11 a1 a2=some r->P)(k12:∀a1 a2 a3,x1=PySem.Expr.Dict a1 a2 a3->f12 a1 a2 a3=some r->P)(k13:∀a1 a2 a3 a4,x1=PySem.Expr.ListComp a1 a2 a3 a4->f13 a1 a2 a3 a4=some r->P):P:=by
 obtain⟨z1,e1⟩:∃z,x1=z:=⟨_,rfl⟩
 rw[e1]at h;induction z1 using PySem.Expr.casesOn with
 |BoolOp y1'0 y1'1 y1'2=>exact k4 _ _ _ e1 h
 |BinOp y1'0 y1'1 y1'2 y1'3=>exact k2 _ _ _ _ e1 h
 |UnaryOp y1'0 y1'1 y1'2=>exact k3 _ _ _ e1 h
 |IfExp y1'0 y1'1 y1'2 y1'3=>exact k5 _ _ _ _ e1 h
 |Dict y1'0 y1'1 y1'2=>exact k12 _ _ _ e1 h
 |ListComp y1'0 y1'1 y1'2 y1'3=>exact k13 _ _ _ _ e1 h
 |Compare y1'0 y1'1 y1'2 y1'3=>exact k6 _ _ _ _ e1 h
 |Call y1'0 y1'1 y1'2 y1'3=>exact k7 _ _ _ _ e1 h
 |Constant y1'0 y1'1 y1'2=>exact k0 _ _ _ e1 h
 |Attribute y1'0 y1'1 y1'2=>exact k8 _ _ _ e1 h
 |Subscript y1'0 y1'1 y1'2=>exact k9 _ _ _ e1 h
 |Name y1'0 y1'1=>exact k1 _ _ e1 h
 |List y1'0 y1'1=>exact k11 _ _ e1 h
 |Tuple y1'0 y1'1 y1'2=>exact k10 _ _ _ e1 h
 |_=>exact aa h
theorem CW(D:Gd G Cxt)(O:ba G d lv){l:PExpr}{op:Operator}{r0:PExpr}{pos:Pos}{v:SV}{Q:Value->Shared->Prop}(hR:Rm d A)(hE:ag ae fc J S.next L)(r:SR G J S s L)(h:rA lv fc l op r0 S=some (v,S'))(q:aj G (XL L) L J S s v S' Q):wpAny (model G.prog G.w) A (eval (.BinOp l op r0 pos) ae) Q E s:=by unfold rA at h;refine ao h ?_;clear h;intro a S1 e1 h;refine ao h ?_;clear h;intro b S2 e2 h;refine wpAny_BinOp (O.ex e1 hR hE r λJ1 va s1 t1 r1 v1=>O.ex e2 hR (hE.stp t1) r1 λJ2 vb s2 t2 r2 v2=>?_);exact yU (X:=XL L) D.ok r2 (v1.stp t2) v2 h (q.later (t1.trans t2))
theorem Du(D:Gd G Cxt)(O:ba G d lv){op:UnaryOp}{x:PExpr}{pos:Pos}{v:SV}{Q:Value->Shared->Prop}(hR:Rm d A)(hE:ag ae fc J S.next L)(r:SR G J S s L)(h:CG lv fc op x S=some (v,S'))(q:aj G (XL L) L J S s v S' Q):wpAny (model G.prog G.w) A (eval (.UnaryOp op x pos) ae) Q E s:=by unfold CG at h;refine ao h ?_;clear h;intro a S1 e1 h;refine an (Option.map_eq_some_iff.mp h) ?_;intro u e2 e3;replace q:=aj.cast (congrArg some e3) q;clear e3;refine wpAny_UnaryOp (O.ex e1 hR hE r λJ1 va s1 t1 r1 v1=>?_);exact zo (X:=XL L) D.ok r1 v1 e2 (q.later t1)
theorem Cy(D:Gd G Cxt)(O:ba G d lv){t a b:PExpr}{pos:Pos}{v:SV}{Q:Value->Shared->Prop}(hR:Rm d A)(hE:ag ae fc J S.next L)(r:SR G J S s L)(h:CI lv fc t a b S=some (v,S'))(q:aj G (XL L) L J S s v S' Q):wpAny (model G.prog G.w) A (eval (.IfExp t a b pos) ae) Q E s:=by
 unfold CI at h;refine d8 h ?_ ?_<;>clear h
 ·intro S1 e1 h;exact wpAny_IfExp (O.ts e1 hR hE r λJ1 s1 t1 r1=>O.ex h hR (hE.stp t1) r1 (q.later t1))
 ·intro S1 e1 h;exact wpAny_IfExp (O.ts e1 hR hE r λJ1 s1 t1 r1=>O.ex h hR (hE.stp t1) r1 (q.later t1))
theorem CT(D:Gd G Cxt)(O:ba G d lv){l:PExpr}{ops:List CmpOp}{rs:List PExpr}{pos:Pos}{v:SV}{Q:Value->Shared->Prop}(hR:Rm d A)(hE:ag ae fc J S.next L)(r:SR G J S s L)(h:((rz Cxt lv fc l ops rs S).map λr=>(SV.bool r.1,r.2))=some (v,S'))(q:aj G (XL L) L J S s v S' Q):wpAny (model G.prog G.w) A (eval (.Compare l ops rs pos) ae) Q E s:=by refine an (Option.map_eq_some_iff.mp h) ?_;intro q1' h2 e4;obtain⟨t,S2⟩:=q1';replace q:=aj.cast (congrArg some e4) q;clear e4;refine jI (nh h2) ?_;intro op r0 q1';subst q1';intro q2';subst q2';intro a S1 b e1 e2 ns e3;exact wpAny_Compare1 (lN D O hR hE r e1 e2 e3 λJ' s' t r'=>q _ _ _ t r' rfl) (aZ ns)
theorem yT(D:Gd G Cxt)(O:ba G d lv){o:PExpr}{a:Str}{apos:Pos}{args:List PExpr}{cpos:Pos}{v:SV}{Q:Value->Shared->Prop}(hR:Rm d A)(hE:ag ae fc J S.next L)(r:SR G J S s L)(h:lR Cxt lv fc o a apos args cpos S=some (v,S'))(q:aj G (XL L) L J S s v S' Q):wpAny (model G.prog G.w) A (eval (.Call (.Attribute o a apos) args [] cpos) ae) Q E s:=by
 unfold lR at h;refine ab h ?_;clear h;intro c h;rw[Bool.and_eq_true,Bool.and_eq_true]at c;refine xA c ?_;clear c;intro q1' c3;obtain⟨c1,c2⟩:=q1';have c1:=Nat.eq_of_beq_eq_true c1;have c2:cz o=false:=by simpa using c2
 have c3:=Nat.le_of_ble_eq_true c3;refine ao h ?_;clear h;intro ov S1 e1 h;refine lz h ?_;clear h;intro m e2 h;refine fu h ?_;clear h;intro vs S2 e3 h;rw[arm_eval_Call,lT c2];refine wpAny_bind (O.ex e1 hR hE r λJ1 oval s1 t1 r1 v1=>?_);refine wpAny_bind (wpAny_standAt ?_);have plain:=(pu (E:=E) (Q:=λ_ _=>True) O cpos e3 hR (hE.stp t1) r1 (λ_ _ _ _ _ _=>trivial)).2;have hform:methodCallForm (args.length+([]:List Keyword).length) (backTo cpos (starEach args ae)) (backToKw cpos (keywordEach [] ae))=true:=by
  unfold methodCallForm;have p1:(backTo cpos (starEach args ae)).all (λx=>!x.1)=true:=by rw[List.all_eq_true];intro x hx;rw[List.any_eq_false]at plain;have:=plain x hx;simpa using this
  rw[p1];show(true&&true&&decide (args.length+0+0<30))=true;rw[decide_eq_true (by exact Nat.lt_of_le_of_lt ‹_› (by decide))];rfl
 have hpos:methodCallPos true o ae apos cpos=pure cpos:=by unfold methodCallPos;simp[c1]
 unfold methodCall;rw[hform];refine wpAny_bind (wpAny_holding (m:=getMethod oval a _) (pq D r1 v1 e2 ?_));refine wpAny_bind (wpAny_of_eq hpos ?_);refine gA D O hR (hE.stp t1) r1 (Ci D e2) e3 λJ2 vals s2 t2 r2 v2=>?_;exact wp D O hR r2 (v1.stp t2) v2 h (q.later (t1.trans t2))
theorem tZ{f:PExpr}{args:List PExpr}{cpos:Pos}(h:sU f=false):eval (.Call f args [] cpos) ae=(do callWith cpos (<-eval f ae) [] (backTo cpos (starEach args ae)) (backToKw cpos (keywordEach [] ae))):=by induction f using PySem.Expr.casesOn<;>first|rfl|(first|exact ul h|cases h)
theorem yR(D:Gd G Cxt)(O:ba G d lv){f:PExpr}{args:List PExpr}{cpos:Pos}(na:sU f=false){v:SV}{Q:Value->Shared->Prop}(hR:Rm d A)(hE:ag ae fc J S.next L)(r:SR G J S s L)(h:dR lv fc f args S=some (v,S'))(q:aj G (XL L) L J S s v S' Q):wpAny (model G.prog G.w) A (eval (.Call f args [] cpos) ae) Q E s:=by
 rw[tZ na];unfold dR at h;refine j9 h ?_ ?_<;>clear h
 ·intro a S1 e1 h;refine fu h ?_;clear h;intro vs S2 e2 h;refine wpAny_bind (O.ex e1 hR hE r λJ1 fval s1 t1 r1 v1=>?_);subst v1;refine gA D O hR (hE.stp t1) r1 ?_ e2 λJ2 vals s2 t2 r2 v2=>?_
  ·exact λh' X=>keeps_K (O.keep h) h' X
  ·refine O.call h hR r2.hp v2 λJ' val s' t hp e v=>?_;refine xA (r2.fromCall t hp e) ?_;intro a1 a2;exact q _ _ _ ((t1.trans t2).trans a2) a1 v
 ·intro b S1 e1 h;refine fu h ?_;clear h;intro vs S2 e2 h;refine wpAny_bind (O.ex e1 hR hE r λJ1 fval s1 t1 r1 v1=>?_);subst v1;refine gA D O hR (hE.stp t1) r1 ?_ e2 λJ2 vals s2 t2 r2 v2=>?_
  ·induction b using Bi.casesOn<;>first|exact λh _=>dy h|exact λh _=>ll h
  ·exact yS (X:=XL L) D hR.handled r2 v2 h (q.later (t1.trans t2))
theorem wK(D:Gd G Cxt)(O:ba G d lv){o:PExpr}{lo hi stp:Option PExpr}{pos pos':Pos}{ov:SV}{S1:St}(e1:lv.ex fc o S=some (ov,S1)){v:SV}{Q:Value->Shared->Prop}(hR:Rm d A)(hE:ag ae fc J S.next L)(r:SR G J S s L)(h:yx lv fc ov lo hi stp S1=some (v,S'))(q:aj G (XL L) L J S s v S' Q):wpAny (model G.prog G.w) A (eval (.Subscript o (.Slice lo hi stp pos') pos) ae) Q E s:=by refine Subscript_ (O.ex e1 hR hE r λJ1 va s1 t1 r1 v1=>?_);unfold yx at h;refine qM h ?_;clear h;intro e0' h;subst e0';refine ao h ?_;clear h;intro l S2 e2 h;refine ao h ?_;clear h;intro hv S3 e3 h;refine wpAny_Slice ?_;refine qm O hR (hE.stp t1) r1 e2 λJ2 vl s2 t2 r2 v2=>?_;refine qm O hR ((hE.stp t1).stp t2) r2 e3 λJ3 vh s3 t3 r3 v3=>?_;refine wpAny_pure ?_;have R:=r3.grow (X:=XL L) (h':=s3.heap.push {cls:=.type "slice",data:=.fields #[vl,vh,.none]}) (tk:=s3.toks) λa o e=>Heap.get?_push_of_some _ e;have t4:=t3.trans R.2;obtain⟨c1,T,id,c2,c3⟩:=CR (X:=XL L) (A:=A) (E:=E) (Q:=Q) D R.1 ((v1.stp t2).stp t4) (v2.stp t4) (v3.stp R.2) h ⟨_,Heap.get?_push_size _ rfl,rfl,rfl⟩ (q.later ((t1.trans t2).trans t4));exact tail_any c2 c3 c1 rfl
theorem zr(D:Gd G Cxt)(O:ba G d lv){o i:PExpr}{pos:Pos}{ov:SV}{S1:St}(e1:lv.ex fc o S=some (ov,S1))(ns:iL i=true){v:SV}{Q:Value->Shared->Prop}(hR:Rm d A)(hE:ag ae fc J S.next L)(r:SR G J S s L)(h:(match lv.ex fc i S1 with|some (iv,S2)=>(item Cxt S2 ov iv).map λv=>(v,S2)|none=>none)=some (v,S'))(q:aj G (XL L) L J S s v S' Q):wpAny (model G.prog G.w) A (eval (.Subscript o i pos) ae) Q E s:=by
 have hu:A.units+10<cLine:=by have:=hR.units;exact aW ‹_› (by decide)
 refine Subscript_ (O.ex e1 hR hE r λJ1 va s1 t1 r1 v1=>?_);refine ao h ?_;clear h;intro iv S2 e2 h;refine an (Option.map_eq_some_iff.mp h) ?_;intro u e3 e4;replace q:=aj.cast (congrArg some e4) q;clear e4;refine O.ex e2 hR (hE.stp t1) r1 λJ2 vi s2 t2 r2 v2=>?_;refine bb (qz D r2 (v1.stp t2) v2 e3) ?_;intro T id c2 c3;refine tail_any c2 c3 (uO (X:=XL L) D r2 hu (v1.stp t2) v2 e3 (q.later (t1.trans t2))) (bw ns _ _)
theorem uf(D:Gd G Cxt)(O:ba G d lv){o:PExpr}{a:Str}{pos:Pos}{v:SV}{Q:Value->Shared->Prop}(hR:Rm d A)(hE:ag ae fc J S.next L)(r:SR G J S s L)(h:tK Cxt lv fc o a S=some (v,S'))(q:aj G (XL L) L J S s v S' Q):wpAny (model G.prog G.w) A (eval (.Attribute o a pos) ae) Q E s:=by unfold tK at h;refine bA h ?_;clear h;intro pc h;refine ao h ?_;clear h;intro ov S1 e1 h;refine an (Option.map_eq_some_iff.mp h) ?_;intro u e2 e3;replace q:=aj.cast (congrArg some e3) q;clear e3;rw[arm_eval_Attribute,lT pc];refine wpAny_bind (O.ex e1 hR hE r λJ1 va s1 t1 r1 v1=>?_);refine wpAny_bind (wpAny_standAt (wpAny_bind (wpAny_holding (AO (X:=XL L) D r1 v1 e2 λJ2 val s2 t2 r2 v2=>?_))));exact wpAny_bind (wpAny_letTemporaryGo (wpAny_pure (q _ _ _ (t1.trans t2) r2 v2)))
theorem z6(D:Gd G Cxt)(O:ba G d lv){x:Str}{pos:Pos}{v:SV}{Q:Value->Shared->Prop}(hR:Rm d A)(hE:ag ae fc J S.next L)(r:SR G J S s L)(h:((lj Cxt fc S x).map λv=>(v,S))=some (v,S'))(q:aj G (XL L) L J S s v S' Q):wpAny (model G.prog G.w) A (eval (.Name x pos) ae) Q E s:=by refine an (Option.map_eq_some_iff.mp h) ?_;intro u e2 e3;replace q:=aj.cast (congrArg some e3) q;clear e3;obtain⟨a1,a2⟩:=mT (X:=XL L) (A:=A) (E:=E) (Q:=Q) x D hE r e2 q;exact wpAny_Name a1 a2
theorem Ac(D:Gd G Cxt)(O:ba G d lv){es:List PExpr}{pos:Pos}{v:SV}{Q:Value->Shared->Prop}(hR:Rm d A)(hE:ag ae fc J S.next L)(r:SR G J S s L)(h:(match rx lv fc es S with|some (vs,S1)=>DV S1 vs|none=>none)=some (v,S'))(q:aj G (XL L) L J S s v S' Q):wpAny (model G.prog G.w) A (eval (.List es pos) ae) Q E s:=by refine fu h ?_;clear h;intro vs S1 e1 h;refine l8 (uI h) ?_;intro q1';subst q1';intro q2';subst q2';intro hl;refine wpAny_List (pu O pos e1 hR hE r λJ1 vals s1 t1 r1 v1=>⟨by rw[<-v1.length,sizeLine_eq];exact Nat.le_trans ‹_› (by decide),?_⟩).1;exact aj.newL (tk:=s1.toks) D.ok (q.later t1) r1 (items:=vals.toArray) v1 (by exact Nat.le_trans ‹_› (by decide))
theorem BF(D:Gd G Cxt)(O:ba G d lv){es:List PExpr}{k:Nat}{pos:Pos}{v:SV}{Q:Value->Shared->Prop}(hR:Rm d A)(hE:ag ae fc J S.next L)(r:SR G J S s L)(h:(match rx lv fc es S with|some (vs,S1)=>C6 S1 vs|none=>none)=some (v,S'))(q:aj G (XL L) L J S s v S' Q):wpAny (model G.prog G.w) A (eval (.Tuple es k pos) ae) Q E s:=by refine fu h ?_;clear h;intro vs S1 e1 h;refine l8 (ku h) ?_;intro q1';subst q1';intro q2';subst q2';intro hl;refine wpAny_Tuple (pu O pos e1 hR hE r λJ1 vals s1 t1 r1 v1=>⟨by rw[<-v1.length,sizeLine_eq];exact Nat.le_trans ‹_› (by decide),?_⟩).1;exact aj.newT (tk:=s1.toks) (q.later t1) r1 (items:=vals.toArray) v1 (by exact Nat.le_trans ‹_› (by decide))
theorem yM(D:Gd G Cxt)(O:ba G d lv){c:Const}{k:Nat}{pos:Pos}{v:SV}{Q:Value->Shared->Prop}(hR:Rm d A)(hE:ag ae fc J S.next L)(r:SR G J S s L)(h:pA c S=some (v,S'))(q:aj G (XL L) L J S s v S' Q):wpAny (model G.prog G.w) A (eval (.Constant c k pos) ae) Q E s:=by
 unfold pA at h;refine ml h ?_ ?_ ?_ ?_<;>clear h
 ·intro e0' h;subst e0';replace q:=aj.cast h q;clear h;exact wpAny_Constant_none (q _ _ _ .refl r rfl)
 ·intro _ e0' h;subst e0';replace q:=aj.cast h q;clear h;exact wpAny_Constant_bool (q _ _ _ .refl r rfl)
 ·intro _ e0' h;subst e0';replace q:=aj.cast h q;clear h;exact wpAny_Constant_int (q.tok r ⟨_,rfl⟩)
 ·intro _ e0' h;subst e0';replace q:=aj.cast h q;clear h;exact wpAny_Constant_str (q.tok r ⟨_,rfl⟩)
theorem CH(D:Gd G Cxt)(O:ba G d lv){e:PExpr}{v:SV}{Q:Value->Shared->Prop}(hcomp:∀elt gens sc pos,e=.ListComp elt gens sc pos->fW lv fc elt gens sc S=some (v,S')->wpAny (model G.prog G.w) A (eval e ae) Q E s)(hdict:∀ks vs pos,e=.Dict ks vs pos->pz Cxt lv fc ks vs S=some (v,S')->wpAny (model G.prog G.w) A (eval e ae) Q E s)(hR:Rm d A)(hE:ag ae fc J S.next L)(r:SR G J S s L)(h:Bq Cxt lv fc e S=some (v,S'))(q:aj G (XL L) L J S s v S' Q):wpAny (model G.prog G.w) A (eval e ae) Q E s:=by
 refine tz h ?_ ?_ ?_ ?_ ?_ ?_ ?_ ?_ ?_ ?_ ?_ ?_ ?_ ?_<;>clear h
 ·intro _ _ _ e0' h;clear hcomp hdict;subst e0';exact yM D O hR hE r h q
 ·intro _ _ e0' h;clear hcomp hdict;subst e0';exact z6 D O hR hE r h q
 ·intro _ _ _ _ e0' h;clear hcomp hdict;subst e0';exact CW D O hR hE r h q
 ·intro _ _ _ e0' h;clear hcomp hdict;subst e0';exact Du D O hR hE r h q
 ·intro op _ pos e0' h;clear hcomp hdict;subst e0';exact rM D.ok O pos op h hR hE r q
 ·intro _ _ _ _ e0' h;clear hcomp hdict;subst e0';exact Cy D O hR hE r h q
 ·intro _ _ _ _ e0' h;clear hcomp hdict;subst e0';exact CT D O hR hE r h q
 ·intro f args kws cpos e0' h;clear hcomp hdict;subst e0';refine oY h ?_;clear h;intro e0' h;subst e0';refine qR h ?_ ?_<;>clear h
  ·intro o a apos e0' h;subst e0';exact yT D O hR hE r h q
  ·intro _ e0' h;subst e0';refine bA h ?_;clear h;intro na h;exact yR D O na hR hE r h q
 ·intro _ _ _ e0' h;clear hcomp hdict;subst e0';exact uf D O hR hE r h q
 ·intro o i pos e0' h;clear hcomp hdict;subst e0';refine ao h ?_;clear h;intro ov S1 e1 h;refine gV h ?_ ?_<;>clear h
  ·intro _ _ _ _ e0' h;subst e0';exact wK D O e1 hR hE r h q
  ·intro _ e0' h;subst e0';refine ab h ?_;clear h;intro ns h;exact zr D O e1 ns hR hE r h q
 ·intro _ _ _ e0' h;clear hcomp hdict;subst e0';exact BF D O hR hE r h q
 ·intro _ _ e0' h;clear hcomp hdict;subst e0';exact Ac D O hR hE r h q
 ·intro _ _ _ e0' h;exact hdict _ _ _ e0' h
 ·intro _ _ _ _ e0' h;exact hcomp _ _ _ _ e0' h
section
variable{prog:Program}
theorem i8{R:Result->Shared->Prop}{target it body orelse ae}
  (turn:wpAny (model prog w) A (pyNext it) (λr s₁=>match r with
   |none=>wpAny (model prog w) A (execs orelse ae) (λf s₃=>R (.ok f) s₃) (notedBy (model prog w) A ae λe s'=>R (.error e) s') s₁
   |some v=>wpAny (model prog w) A (letOwnedTupleGo target it v) (λ_ s₁'=>
     wpAny (model prog w) A (assign target ae v) (λ_ s₂=>wpAny (model prog w) A (execs body ae) (λf s₃=>match f with
      |.next|.cont=>codeAny (model prog w) A (.forLoop target it body orelse ae) R s₃
      |.brk=>R (.ok .next) s₃
      |.ret v=>R (.ok (.ret v)) s₃) (notedBy (model prog w) A ae λe s'=>R (.error e) s') s₂) (notedBy (model prog w) A ae λe s'=>R (.error e) s') s₁') (notedBy (model prog w) A ae λe s'=>R (.error e) s') s₁) (notedBy (model prog w) A ae λe s'=>R (.error e) s') s):
  codeAny (model prog w) A (.forLoop target it body orelse ae) R s:=by
 refine codeAny_of_tree ?_
 show wpAny _ A ((forTurn target it body orelse ae).onRaise (λx=>do noteFrame x ae;theTreesLotGoes x)) _ _ s
 refine wpAny_noted ?_
 simp only[forTurn]
 refine wpAny_bind (wpAny_standAt (wpAny_bind (wpAny_onRaise (wpAny_mono turn (λr s₁ h₁=>?_) λ_ _ h'=>wpAny_standAt h'))))
 induction r using Option.casesOn with
 |none=>exact wpAny_pure ⟨rfl,codeAny_block h₁⟩
 |some v=>
  refine wpAny_bind (wpAny_mono h₁ (λ_ s₁' h₁'=>?_) λ_ _ h'=>h')
  refine wpAny_bind (wpAny_mono h₁' (λ_ s₂ h₂=>wpAny_bind (wpAny_mono h₂ (λf s₃ h₃=>?_) λ_ _ h'=>h')) λ_ _ h'=>h')
  cases f with
  |next=>exact wpAny_pure ⟨rfl,h₃⟩
  |cont=>exact wpAny_pure ⟨rfl,h₃⟩
  |brk=>exact wpAny_pure h₃
  |ret v=>exact wpAny_pure h₃
theorem vm{R:Result->Shared->Prop}{test body orelse ae}
  (turn:wpAny (model prog w) A (isTrue test ae (eval test ae)) (λb s₂=>
    if b then wpAny (model prog w) A (execs body ae) (λf s₃=>match f with
      |.next|.cont=>codeAny (model prog w) A (.whileLoop test body orelse ae) R s₃
      |.brk=>R (.ok .next) s₃
      |.ret v=>R (.ok (.ret v)) s₃) (notedBy (model prog w) A ae λe s'=>R (.error e) s') s₂
    else wpAny (model prog w) A (execs orelse ae) (λf s₃=>R (.ok f) s₃) (notedBy (model prog w) A ae λe s'=>R (.error e) s') s₂)
    (notedBy (model prog w) A ae λe s'=>R (.error e) s') s):
  codeAny (model prog w) A (.whileLoop test body orelse ae) R s:=by
 refine codeAny_of_tree ?_
 show wpAny _ A ((whileTurn test body orelse ae).onRaise (λx=>do noteFrame x ae;theTreesLotGoes x)) _ _ s
 refine wpAny_noted ?_
 simp only[whileTurn]
 refine wpAny_bind (wpAny_mono turn (λb s₂ h₂=>?_) λ_ _ h'=>h')
 induction b using Bool.casesOn with
 |false=>
  simp only[Bool.false_eq_true,if_false]at h₂|-
  exact wpAny_bind (wpAny_mono h₂ (λf s₃ h₃=>wpAny_pure h₃) λ_ _ h'=>h')
 |true=>
  simp only[if_true]at h₂|-
  refine wpAny_bind (wpAny_mono h₂ (λf s₃ h₃=>?_) λ_ _ h'=>h')
  cases f with
  |next=>exact wpAny_pure ⟨rfl,h₃⟩
  |cont=>exact wpAny_pure ⟨rfl,h₃⟩
  |brk=>exact wpAny_pure h₃
  |ret v=>exact wpAny_pure h₃
end
set_option tactic.hygienic true
theorem bt.later{Z:Nat->Prop}{fl:Fl}{Q:Flow->Shared->Prop}(p:bt G Z L J S s fl S'' Q)(x:cT Z J S s J' S' s'):bt G Z L J' S' s' fl S'' Q:=
 λJ'' f s'' a b c=>p J'' f s'' (x.trans a) b c
theorem pZ(D:Gd G Cxt)(O:ba G d lv){e:PExpr}{b:Bool}{Q:Bool->Shared->Prop}(hR:Rm d A)(hE:ag ae fc J S.next L)(r:SR G J S s L)(q:cF G (XL L) L J S s S' (Q b))(h:uj lv fc e S=some (b,S'))(he:isTrue e ae (eval e ae)=(do let v<-eval e ae;standAt e.pos;holding [v] (PySem.truthy v))):wpAny (model G.prog G.w) A (isTrue e ae (eval e ae)) Q E s:=by unfold uj at h;refine ao h ?_;clear h;intro v S1 e1 h;refine an (Option.map_eq_some_iff.mp h) ?_;intro t e2 e3;refine EK e3 ?_;clear e3;intro h1 h2;subst h1;subst h2;refine wpAny_isTrue_value (O.ex e1 hR hE r λJ1 val s1 t1 r1 v1=>mC D.ok r1 v1 e2 λtk=>?_) he;have R:=r1.tok (X:=XL L) (tk:=tk);exact q _ _ (t1.trans R.2) R.1
theorem BG(D:Gd G Cxt)(O:ba G d lv){e:PExpr}{b:Bool}{Q:Bool->Shared->Prop}(hR:Rm d A)(hE:ag ae fc J S.next L)(r:SR G J S s L)(h:EF Cxt lv fc e S=some (b,S'))(q:cF G (XL L) L J S s S' (Q b)):wpAny (model G.prog G.w) A (isTrue e ae (eval e ae)) Q E s:=by
 induction e using PySem.Expr.casesOn<;>try(exact pZ D O hR hE r q h rfl)
 case BoolOp op es pos=>exact wpAny_isTrue_BoolOp (pI O op h hR hE r q)
 case UnaryOp op x pos=>
  induction op using PySem.UnaryOp.casesOn<;>try(exact pZ D O hR hE r q h rfl)
  unfold EF at h;dsimp only at h;unfold AX at h;refine lC h ?_;clear h;intro t S1 e1 h;refine gS h ?_;clear h;intro h1 h2;subst h1;subst h2;exact wpAny_isTrue_Not (O.ts e1 hR hE r q)
 case IfExp=>exact aa h
 case Compare l ops rs pos=>unfold EF at h;dsimp only at h;refine jI (nh h) ?_;intro op r0 q1';subst q1';intro q2';subst q2';intro a S1 b' e1 e2 ns e3;refine wpAny_isTrue_Compare1 ?_ (aZ ns);exact lN (Q:=λc s₃=>wpAny (model G.prog G.w) A (PySem.truthy c) Q E s₃) D O hR hE r e1 e2 e3 λJ' s' t r'=>wpAny_truthy_bool (q _ _ t r')
theorem uo(O:ba G d lv):∀{b:List Stmt} {S:St} {fl:Fl} {S':St},jg lv fc b S=some (fl,S')->∀{J s Q},Rm d A->ag ae fc J S.next L->SR G J S s L->bt G (XL L) L J S s fl S' Q->wpAny (model G.prog G.w) A (execs b ae) Q E s
 |[]=>by rename_i S fl S';intro h J s Q hR hE r q;replace q:=bt.cast h q;clear h;exact wpAny_execs_nil (q _ _ _ .refl r rfl)
 |x::b=>by
  rename_i S fl S';intro h J s Q hR hE r q;unfold jg at h;induction e1:lv.st fc x S using Option.casesOn with
  |none=>rw[e1]at h;exact aa h
  |some x1=>
  obtain⟨f1,S1⟩:=x1;rw[e1]at h;refine wpAny_execs_cons (O.st e1 hR hE r λJ1 f s1 t1 r1 v1=>?_);induction f1 using Fl.casesOn with
  |next=>subst v1;exact uo O h hR (hE.stp t1) r1 (q.later t1)
  |ret v=>refine an v1 ?_;clear v1;intro val q1';subst q1';intro v2;replace q:=bt.cast h q;clear h;exact q _ _ _ t1 r1 ⟨val,rfl,v2⟩
theorem zn(O:ba G d lv){t:PExpr}{b:List Stmt}{fl:Fl}{R:Result->Shared->Prop}(hR:Rm d A)(hE:ag ae fc J S.next L)(r:SR G J S s L)(h:BE lv fc t b S=some (fl,S'))(q:bt G (XL L) L J S s fl S' (λf=>R (.ok f))):codeAny (model G.prog G.w) A (.whileLoop t b [] ae) R s:=by
 refine vm ?_;unfold BE at h;refine d8 h ?_ ?_<;>clear h
 ·intro S1 e1 h;refine O.ts e1 hR hE r λJ1 s1 t1 r1=>?_;simp only[if_true];refine sW h ?_;clear h;intro S2 e2 h;refine O.sts e2 hR (hE.stp t1) r1 λJ2 f s2 t2 r2 v2=>?_;subst v2;exact O.whl h hR ((hE.stp t1).stp t2) r2 (q.later (t1.trans t2))
 ·intro S1 e1 h;replace q:=bt.cast h q;clear h;refine O.ts e1 hR hE r λJ1 s1 t1 r1=>?_;simp only[Bool.false_eq_true,if_false];exact wpAny_execs_nil (q _ _ _ t1 r1 rfl)
set_option tactic.hygienic false
theorem SR.iter{it:Nat}{h':Heap}{tk:Nat}(r:SR G J S s L)(hn:∀n,n<S.next->J n≠it)(hL:it≠L)(hb:G.h0.get? it=none)(k:∀b o,b≠it->s.heap.get? b=some o->h'.get? b=some o)(hnt:∀ob,s.heap.get? it=some ob->ob.cls=.type "tuple"->(∃it n,ob.data=.seq it n)->False)(T:cT (XL L) J0 S0 s0 J S s)(h0:s0.heap.get? it=none):SR G J S {s with heap:=h',toks:=tk} L/\cT (XL L) J0 S0 s0 J S {s with heap:=h',toks:=tk}:=by
 obtain⟨⟨x1,x2,x3,x4,x5,x6⟩,l⟩:=r
 have kt:aq s.heap h':=λa ob e c d=>by
  by_cases ha:a=it
  ·subst ha;exact(hnt ob e c d).elim
  ·exact k a ob ha e
 refine⟨⟨⟨λn o hn' ho=>(x1 n o hn' ho).mono (λ_ _=>rfl) (Nat.le_refl _) (λob e=>k _ ob (hn n hn') e) kt,λn hn'=>by obtain⟨ob,e⟩:=x2 n hn';exact⟨ob,k _ _ (hn n hn') e⟩,x3,x4,λa o e=>k a o (af e hb) (x5 a o e),x6.trans kt⟩,
  l.after (Nat.le_refl _) (λ_ _=>rfl) (λn h1 h2=>by exact(aO ‹_› ‹_›).elim) (λo e=>k _ o (λq=>hL q.symm) e) rfl⟩,?_⟩
 obtain⟨t1,t2,t3,t4,t5,t6,t7,t8,t9⟩:=T;refine⟨t1,t2,λa o e=>?_,t4,λa o e hX hN=>?_,λa o e c d=>?_,t7,t8,t9⟩
 ·refine xE (t3 a o e) ?_;intro o' e';exact⟨o',k _ _ (af e h0) e'⟩
 ·exact k _ _ (af e h0) (t5 a o e hX hN)
 ·exact k _ _ (af e h0) (t6 a o e c d)
theorem bB{h:Heap}{it:Nat}{c:Value}{vs:Array Value}(e:∃o,h.get? it=some o/\o.cls=c/\o.data=.fields vs):∀ob,h.get? it=some ob->ob.cls=.type "tuple"->(∃it n,ob.data=.seq it n)->False:=by refine dT e ?_;clear e;intro o h1 h2 h3;rintro ob e _ ⟨i,n,q⟩;rw[h1]at e;refine aB e ?_;clear e;intro h1;subst h1;rw[h3]at q;cases q
noncomputable def EB (G:Gr) (J:Nat->Nat) (S:St) (h:Heap) (it:Nat) (xs:SV) (i:Nat):Option SV->Option Value->Prop
 |some v,some val=>VR G J S.next v val/\pL G J S h it xs (i+1)
 |none,none=>True
 |_,_=>False
set_option tactic.hygienic true in
theorem kq(D:Gd G Cxt)(hh:A.handled=none)(r:SR G J S s L){it:Nat}{xs:SV}{i:Nat}{ov:Option SV}{Q:Option Value->Shared->Prop}(hI:pL G J S s.heap it xs i)(hn:∀n,n<S.next->J n≠it)(hL:it≠L)(hb:G.h0.get? it=none)(T:cT (XL L) J0 S0 s0 J S s)(h0:s0.heap.get? it=none)(h:bI S xs i=some ov)(q:∀oval s',SR G J S s' L->cT (XL L) J0 S0 s0 J S s'->EB G J S s'.heap it xs i ov oval->Q oval s'):wpAny (model G.prog G.w) A (pyNext (.ref it)) Q E s:=by
 induction xs using SV.casesOn<;>try(cases hI;done)
 rename_i n;refine xA hI ?_;clear hI;intro hlt hI;unfold bI at h;dsimp only at h;induction e:S.hp.get n using Option.casesOn with
 |none=>rw[e]at h;exact aa h
 |some o=>
 rw[e]at h hI;have mk:∀{h':Heap} {P:Prop},(P->pL G J S h' it (.ref n) (i+1))->P->pL G J S h' it (.ref n) (i+1):=λf p=>f p;induction o using SO.casesOn<;>(try dsimp only at h hI)<;>try(cases hI;done)
 ·rename_i l;refine an (r.named hlt e) ?_;intro items q1' al;obtain⟨ht,hz⟩:=q1';have nt:∀ob,s.heap.get? it=some ob->ob.cls=.type "tuple"->(∃it n,ob.data=.seq it n)->False:=by refine dT hI ?_;clear hI;intro o a b c;exact bB ⟨o,a,b,c⟩
  refine aB h ?_;clear h;intro h1;subst h1;induction e2:nth l i using Option.casesOn with
  |some v=>rw[e2]at q;refine an (al.nth e2) ?_;intro val h1 h2;rw[Array.getElem?_toList]at h1;refine wpAny_pyNext_tuple_item hI ht h1 λh' hi hs=>?_;obtain⟨a,b⟩:=r.iter (tk:=s.toks) hn hL hb (λb o hb' e=>by rw[hs.2 b hb'];exact e) nt T h0;refine q _ _ a b (show VR G J S.next v val/\pL G J S h' it (.ref n) (i+1)from⟨h2,hlt,?_⟩);rw[e];exact hi
  |none=>rw[e2]at q;have h1:=al.nth_none e2;rw[Array.getElem?_toList]at h1;refine wpAny_pyNext_tuple_end hh hI ht h1 λh' hs=>?_;obtain⟨a,b⟩:=r.iter (tk:=s.toks) hn hL hb (λb o hb' e=>hs b o hb' e) nt T h0;exact q _ _ a b trivial
 ·rename_i k l;induction k using Nat.casesOn<;>try((first|exact aa h|(refine aB h ?_;clear h;intro h1;subst h1)|cases h);done)
  refine ap (r.named hlt e) ?_;intro items ys q1' c1 al;obtain⟨hl,hz⟩:=q1';rw[D.ok.l0,List.nil_append]at c1;subst c1;have nt:∀ob,s.heap.get? it=some ob->ob.cls=.type "tuple"->(∃it n,ob.data=.seq it n)->False:=by refine dT hI ?_;clear hI;intro o a b c;exact bB ⟨o,a,b,c⟩
  refine aB h ?_;clear h;intro h1;subst h1;induction e2:nth l i using Option.casesOn with
  |some v=>rw[e2]at q;refine an (al.nth e2) ?_;intro val h1 h2;rw[Array.getElem?_toList]at h1;refine wpAny_pyNext_list_item hI hl.isList h1 λh' hi hs=>?_;obtain⟨a,b⟩:=r.iter (tk:=s.toks) hn hL hb (λb o hb' e=>by rw[hs.2 b hb'];exact e) nt T h0;refine q _ _ a b (show VR G J S.next v val/\pL G J S h' it (.ref n) (i+1)from⟨h2,hlt,?_⟩);rw[e];exact hi
  |none=>rw[e2]at q;have h1:=al.nth_none e2;rw[Array.getElem?_toList]at h1;refine wpAny_pyNext_list_end hh hI hl.isList h1 λh' hs=>?_;obtain⟨a,b⟩:=r.iter (tk:=s.toks) hn hL hb (λb o hb' e=>hs b o hb' e) nt T h0;exact q _ _ a b trivial
 ·rename_i hi;refine an hI ?_;clear hI;intro left hit hleft;have nt:∀ob,s.heap.get? it=some ob->ob.cls=.type "tuple"->(∃it n,ob.data=.seq it n)->False:=bB ⟨_,hit,rfl,rfl⟩;refine ah h ?_ ?_<;>clear h
  ·intro c h;rw[ci,decide_eq_true_eq]at c;have c:hi<=(i:Int):=c;refine aB h ?_;clear h;intro h1;subst h1;refine wpAny_pyNext_range_end hh hit (by lia) λh' hs=>?_;obtain⟨a,b⟩:=r.iter (tk:=s.toks) hn hL hb (λb o hb' e=>hs b o hb' e) nt T h0;exact q _ _ a b trivial
  ·intro c h;rw[ci,decide_eq_false_iff_not]at c;have c:¬hi<=(i:Int):=c;refine aB h ?_;clear h;intro h1;subst h1;refine wpAny_pyNext_range_item hit (by omega) λh' hi' hs=>?_;obtain⟨a,b⟩:=r.iter (tk:=s.toks+1) hn hL hb (λb o hb' e=>by rw[hs.2 b hb'];exact e) nt T h0;refine q _ _ a b (show VR G J S.next (.int (.ofNat i)) _/\pL G J S h' it (.ref n) (i+1)from⟨⟨_,rfl⟩,hlt,?_⟩);rw[e];refine⟨left -1,?_,by lia⟩;have:((i+1:Nat):Int)=(i:Int)+1:=by rfl
   rw[this];exact hi'
theorem zS(t:PExpr)(it v:Value):letOwnedTupleGo t it v=letOwnedTupleGo (.Tuple [] 0 default) it v\/letOwnedTupleGo t it v=pure ():=by induction t using PySem.Expr.casesOn<;>first|exact .inr rfl|exact .inl rfl
set_option tactic.hygienic true in
theorem gG{t:PExpr}{it:Nat}{val:Value}{c:String}{vs:Array Value}{Q:Unit->Shared->Prop}(ho:∃o,s.heap.get? it=some o/\o.cls=.type c/\o.data=.fields vs)(hc:(["enumerate","zip","dict_itemiterator","dict_reverseitemiterator","odict_iterator","itertools.zip_longest","itertools.pairwise"].contains c)=false)(q:Q () s):wpAny (model G.prog G.w) A (letOwnedTupleGo t (.ref it) val) Q E s:=by
 refine dT ho ?_;clear ho;intro o h1 h2 h3;rcases zS t (.ref it) val with e|e
 ·rw[e];induction val using PySem.Value.casesOn<;>try exact wpAny_pure q
  refine wpAny_bind (wpAny_load h1 ?_);rw[h2,h3];dsimp only;rw[hc];simp only[Bool.false_and,Bool.false_eq_true,if_false];exact wpAny_pure q
 ·rw[e];exact wpAny_pure q
theorem uN{it:Nat}{xs:SV}{i:Nat}{h:Heap}(hI:pL G J S h it xs i):∃c vs,(∃o,h.get? it=some o/\o.cls=.type c/\o.data=.fields vs)/\(["enumerate","zip","dict_itemiterator","dict_reverseitemiterator","odict_iterator","itertools.zip_longest","itertools.pairwise"].contains c)=false:=by
 induction xs using SV.casesOn<;>try(cases hI;done)
 refine xA hI ?_;clear hI;intro _ hI;split at hI
 ·refine dT hI ?_;clear hI;intro o a b c;exact⟨_,_,⟨o,a,b,c⟩,by decide⟩
 ·refine dT hI ?_;clear hI;intro o a b c;exact⟨_,_,⟨o,a,b,c⟩,by decide⟩
 ·refine an hI ?_;clear hI;intro left a _;exact⟨_,_,⟨_,a,rfl,rfl⟩,by decide⟩
 ·exact hI.elim
set_option tactic.hygienic true in
theorem jv{it:Nat}{xs:SV}{i:Nat}(hI:pL G J S s.heap it xs i)(T:cT (XL L) J S s J' S' s')(hs:fe S S' xs=true)(hn:∀n,n<S.next->J n≠it)(hL:it≠L):pL G J' S' s'.heap it xs i:=by
 have k:∀o,s.heap.get? it=some o->s'.heap.get? it=some o:=λo e=>T.keep _ _ e hL hn;induction xs using SV.casesOn<;>try(cases hI;done)
 rename_i n;refine xA hI ?_;clear hI;intro h1 hI;refine⟨Nat.lt_of_lt_of_le h1 T.le,?_⟩;unfold fe at hs;dsimp only at hs;refine j8 hs ?_ ?_ ?_<;>clear hs
 ·intro _ _ e1 e2 hs;rw[e1]at hI;rw[e2,T.ext n h1];refine an hI ?_;clear hI;intro o a b;exact⟨o,k _ a,b⟩
 ·intro _ _ e1 e2 hs;rw[e1]at hI;rw[e2,T.ext n h1];refine an hI ?_;clear hI;intro o a b;exact⟨o,k _ a,b⟩
 ·intro a b e1 e2 hs;have:=bl.mp hs;subst this;rw[e1]at hI;rw[e2];refine an hI ?_;clear hI;intro left a b;exact⟨left,k _ a,b⟩
set_option tactic.hygienic true in
theorem yo(D:Gd G Cxt)(O:ba G d lv){t:PExpr}{xs:SV}{i it:Nat}{b:List Stmt}{fl:Fl}{R:Result->Shared->Prop}(h:rt Cxt lv fc t xs i b S=some (fl,S'))(hR:Rm d A)(hE:ag ae fc J S.next L)(r:SR G J S s L)(hI:pL G J S s.heap it xs i)(hn:∀n,n<S.next->J n≠it)(hL:it≠L)(hb:G.h0.get? it=none)(T:cT (XL L) J0 S0 s0 J S s)(h0:s0.heap.get? it=none)(q:bt G (XL L) L J0 S0 s0 fl S' (λf=>R (.ok f))):codeAny (model G.prog G.w) A (.forLoop t (.ref it) b [] ae) R s:=by
 refine i8 ?_;unfold rt at h;refine jY h ?_ ?_<;>clear h
 ·intro v e1 h;refine kq D hR.handled r hI hn hL hb T h0 e1 λoval s1 r1 T1 N=>?_;induction oval using Option.casesOn with
  |none=>exact N.elim
  |some val=>
  refine xA N ?_;clear N;intro v1 hI1;refine bb (uN hI1) ?_;intro c vs hob hc;refine gG hob hc ?_;refine bf h ?_;clear h;intro S1 e2 h;refine ij D O hR hE r1 v1 e2 λJ2 s2 t2 r2=>?_;induction e3:lv.sts fc b S1 using Option.casesOn with
  |none=>rw[e3]at h;exact aa h
  |some x3=>
  obtain⟨f3,S2⟩:=x3;rw[e3]at h;refine O.sts e3 hR (hE.stp t2) r2 λJ3 f s3 t3 r3 v3=>?_;have t23:=t2.trans t3
  have hn3:∀n,n<S2.next->J3 n≠it:=λn hn'=>by
   by_cases c:n<S.next
   ·rw[t23.ext n c];exact hn n c
   ·refine an hob ?_;clear hob;intro o ho _;exact(af ho (t23.fresh n (by exact Nat.not_lt.mp ‹_›) hn')).symm
  have go:fe S S2 xs=true->lv.fors fc t xs (i+1) b S2=some (fl,S')->codeAny (model G.prog G.w) A (.forLoop t (.ref it) b [] ae) R s3:=λhs h=>O.fors h hR ((hE.stp t2).stp t3) r3 (jv hI1 t23 hs hn hL) hn3 hL hb (T1.trans t23) h0 q;induction f3 using Fl.casesOn with
  |next=>subst v3;dsimp only at h;refine ab h ?_;clear h;intro hs h;exact go hs h
  |ret v=>exact aa h
 ·intro _ h;replace q:=bt.cast h q;clear h;rename_i e1;refine kq D hR.handled r hI hn hL hb T h0 e1 λoval s1 r1 T1 N=>?_;induction oval using Option.casesOn with
  |some val=>exact N.elim
  |none=>exact wpAny_execs_nil (q _ _ _ T1 r1 rfl)
section
variable{prog:Program}
theorem gz{R:Result->Shared->Prop}{elt target iter:PExpr}{ifs:List PExpr}{scope:Scope}{pos:Pos}{it acc:Value}{ae:Env}
  (turn:wpAny (model prog w) A (pyNext it) (λr s₁=>match r with
   |none=>R (.ok .next) s₁
   |some v=>wpAny (model prog w) A (letOwnedTupleGo target it v) (λ_ s₁'=>wpAny (model prog w) A (assign target ae v) (λ_ s₂=>
     wpAny (model prog w) A (forIn ifs true λc r=>if r=true then do let ok<-isTrue c ae (eval c ae);pure (ForInStep.yield ok)else pure (ForInStep.yield r)) (λok s₃=>
      if ok=true then wpAny (model prog w) A (eval elt ae) (λx s₄=>
       wpAny (model prog w) A (call (.builtin "list.append") [acc,x]) (λ_ s₅=>codeAny (model prog w) A (.compLoop (.ListComp elt [⟨target,iter,ifs,0⟩] scope pos) 0 it acc ae) R s₅) (notedBy (model prog w) A ae λe s'=>R (.error e) s') s₄) (notedBy (model prog w) A ae λe s'=>R (.error e) s') s₃
      else codeAny (model prog w) A (.compLoop (.ListComp elt [⟨target,iter,ifs,0⟩] scope pos) 0 it acc ae) R s₃) (notedBy (model prog w) A ae λe s'=>R (.error e) s') s₂) (notedBy (model prog w) A ae λe s'=>R (.error e) s') s₁') (notedBy (model prog w) A ae λe s'=>R (.error e) s') s₁) (notedBy (model prog w) A ae λe s'=>R (.error e) s') s):
  codeAny (model prog w) A (.compLoop (.ListComp elt [⟨target,iter,ifs,0⟩] scope pos) 0 it acc ae) R s:=by
 refine codeAny_of_tree ?_
 show wpAny _ A ((compTurn (.ListComp elt [⟨target,iter,ifs,0⟩] scope pos) 0 it acc ae).onRaise (λx=>do noteFrame x ae;theTreesLotGoes x)) _ _ s
 refine wpAny_noted ?_
 rw[compTurn_list]
 refine wpAny_bind (wpAny_standAt (wpAny_bind (wpAny_mono turn (λr s₁ h₁=>?_) λ_ _ h'=>h')))
 induction r using Option.casesOn with
 |none=>exact wpAny_pure h₁
 |some v=>
  refine wpAny_bind (wpAny_mono h₁ (λ_ s₁' h₁'=>?_) λ_ _ h'=>h')
  refine wpAny_bind (wpAny_mono h₁' (λ_ s₂ h₂=>wpAny_bind (wpAny_mono h₂ (λok s₃ h₃=>?_) λ_ _ h'=>h')) λ_ _ h'=>h')
  induction ok using Bool.casesOn with
  |false=>exact wpAny_pure ⟨rfl,h₃⟩
  |true=>
   exact wpAny_bind (wpAny_bind (wpAny_mono h₃ (λx s₄ h₄=>wpAny_bind (wpAny_mono h₄ (λ_ s₅ h₅=>wpAny_pure (wpAny_pure ⟨rfl,h₅⟩)) λ_ _ h'=>h')) λ_ _ h'=>h'))
theorem jL{M:Model}{E:Value->Shared->Prop}{ae:Env}{Q:Bool->Shared->Prop}:∀{ifs:List PExpr},Q false s->wpAny M A (forIn ifs false λc r=>if r=true then do let ok<-isTrue c ae (eval c ae);pure (ForInStep.yield ok)else pure (ForInStep.yield r)) Q E s
 |[]=>by intro h;rw[List.forIn_nil];exact wpAny_pure h
 |c::r=>by intro h;rw[List.forIn_cons,if_neg (by decide)];exact wpAny_bind (wpAny_pure (jL h))
end
set_option tactic.hygienic true in
theorem kK(O:ba G d lv):∀{ifs:List PExpr} {S:St} {b:Bool} {S':St},nG lv fc ifs S=some (b,S')->∀{J s Q},Rm d A->ag ae fc J S.next L->SR G J S s L->cF G (XL L) L J S s S' (Q b)->wpAny (model G.prog G.w) A (forIn ifs true λc r=>if r=true then do let ok<-isTrue c ae (eval c ae);pure (ForInStep.yield ok)else pure (ForInStep.yield r)) Q E s
 |[]=>by rename_i S b S';intro h J s Q hR hE r q;refine gS h ?_;clear h;intro h1 h2;subst h1;subst h2;rw[List.forIn_nil];exact wpAny_pure (q _ _ .refl r)
 |c::ifs=>by
  rename_i S b S';intro h J s Q hR hE r q;rw[List.forIn_cons,if_pos rfl];refine d8 h ?_ ?_<;>clear h
  ·intro S1 e1 h;refine wpAny_bind (wpAny_bind (O.ts e1 hR hE r λJ1 s1 t1 r1=>wpAny_pure ?_));exact kK O h hR (hE.stp t1) r1 (q.later t1)
  ·intro S1 e1 h;refine gS h ?_;clear h;intro h1 h2;subst h1;subst h2;refine wpAny_bind (wpAny_bind (O.ts e1 hR hE r λJ1 s1 t1 r1=>wpAny_pure ?_));exact jL (q _ _ t1 r1)
set_option tactic.hygienic true in
theorem gF(r:SR G J S s L){xs:SV}{val:Value}{ov:Option SV}{Q:Value->Shared->Prop}(hv:VR G J S.next xs val)(h:bI S xs 0=some ov)(q:∀ob,ob.isFreed=false->pL G J S (s.heap.push ob) s.heap.objs.size xs 0->Q (.ref s.heap.objs.size) {s with heap:=s.heap.push ob}):wpAny (model G.prog G.w) A (pyIter val) Q E s:=by
 induction xs using SV.casesOn<;>try((first|exact aa h|cases h);done)
 rename_i n;refine xA hv ?_;clear hv;intro hn q1';subst q1';unfold bI at h;dsimp only at h;induction e:S.hp.get n using Option.casesOn with
 |none=>rw[e]at h;exact aa h
 |some o=>
 rw[e]at h;have R:=r.named hn e;induction o using SO.casesOn<;>(try dsimp only at h)<;>try((first|exact aa h|(refine aB h ?_;clear h;intro h1;subst h1)|cases h);done)
 ·refine an R ?_;clear R;intro items q1' al;obtain⟨ht,hz⟩:=q1';refine wpAny_pyIter_tuple ht (q _ rfl ⟨hn,?_⟩);rw[e];exact⟨_,Heap.get?_push_size _ rfl,rfl,rfl⟩
 ·rename_i k l;induction k using Nat.casesOn<;>try((first|exact aa h|(refine aB h ?_;clear h;intro h1;subst h1)|cases h);done)
  refine ap R ?_;clear R;intro items ys q1' c1 al;obtain⟨hl,hz⟩:=q1';refine wpAny_pyIter_list hl.isList (q _ rfl ⟨hn,?_⟩);rw[e];exact⟨_,Heap.get?_push_size _ rfl,rfl,rfl⟩
 ·rename_i hi;refine Dq R ?_;clear R;intro z t u v h1;refine wpAny_pyIter_range h1 (small_one (by decide) (by decide) (by lia) (by lia)) (q _ rfl ⟨hn,?_⟩);rw[e];refine⟨Builtin.Range.rangeSize 0 hi 1,?_,?_⟩
  ·show PySem.IsRangeIter _ _ _ _ _;exact Heap.get?_push_size _ rfl
  ·rw[rangeSize_one];split
   ·left;rfl
   ·right;constructor<;>lia
set_option tactic.hygienic true in
theorem xN{it:Nat}{xs:SV}{i:Nat}{Q:Value->Shared->Prop}(hI:pL G J S s.heap it xs i)(q:Q (.ref it) s):wpAny (model G.prog G.w) A (pyIter (.ref it)) Q E s:=by
 induction xs using SV.casesOn<;>try(cases hI;done)
 rename_i n;refine xA hI ?_;clear hI;intro _ hI;induction e:S.hp.get n using Option.casesOn with
 |none=>rw[e]at hI;exact hI.elim
 |some o=>
 rw[e]at hI;induction o using SO.casesOn<;>(try dsimp only at hI)<;>try(exact hI.elim)
 ·exact wpAny_pyIter_tupleiter hI q
 ·rename_i k l;induction k using Nat.casesOn<;>first|exact hI.elim|exact wpAny_pyIter_listiter hI q
 ·refine an hI ?_;clear hI;intro left h1 _;exact wpAny_pyIter_rangeiter h1 q
set_option tactic.hygienic true in
theorem yN(D:Gd G Cxt)(O:ba G d lv){out:FC}{t elt iter:PExpr}{ifs:List PExpr}{scope:Scope}{pos:Pos}{xs:SV}{i n it:Nat}{R:Result->Shared->Prop}(h:rH Cxt lv fc out t ifs elt xs i n S=some S')(hR:Rm d A)(hE:ag ae fc J S.next L)(r:SR G J S s L)(hI:pL G J S s.heap it xs i)(hn:∀n,n<S.next->J n≠it)(hL:it≠L)(hb:G.h0.get? it=none)(hnn:n<S.next)(T:cT (XL L) J0 S0 s0 J S s)(h0:s0.heap.get? it=none)(q:∀J' s',cT (XL L) J0 S0 s0 J' S' s'->SR G J' S' s' L->J' n=J n/\S.next<=S'.next->R (.ok .next) s'):codeAny (model G.prog G.w) A (.compLoop (.ListComp elt [⟨t,iter,ifs,0⟩] scope pos) 0 (.ref it) (.ref (J n)) ae) R s:=by
 refine gz ?_;unfold rH at h;refine jY h ?_ ?_<;>clear h
 ·intro v e1 h;refine kq D hR.handled r hI hn hL hb T h0 e1 λoval s1 r1 T1 N=>?_;induction oval using Option.casesOn with
  |none=>exact N.elim
  |some val=>
  refine xA N ?_;clear N;intro v1 hI1;refine bb (uN hI1) ?_;intro c vs hob hc;refine gG hob hc ?_;refine bf h ?_;clear h;intro S1 e2 h;refine ij D O hR hE r1 v1 e2 λJ2 s2 t2 r2=>?_
  have names:∀{J3:Nat->Nat} {S3:St} {s3:Shared},cT (XL L) J S s1 J3 S3 s3->∀n,n<S3.next->J3 n≠it:=λ{J3 S3 s3} t23 n hn'=>by
   by_cases c:n<S.next
   ·rw[t23.ext n c];exact hn n c
   ·refine an hob ?_;clear hob;intro o ho _;exact(af ho (t23.fresh n (by exact Nat.not_lt.mp ‹_›) hn')).symm
  refine d8 h ?_ ?_<;>clear h
  ·intro S2 e3 h;refine kK O e3 hR (hE.stp t2) r2 λJ3 s3 t3 r3=>?_;rw[if_pos rfl];refine ao h ?_;clear h;intro u S3 e4 h;refine O.ex e4 hR ((hE.stp t2).stp t3) r3 λJ4 uval s4 t4 r4 v4=>?_;refine oq h ?_;clear h;intro k ys e5 h;refine ab h ?_;clear h;intro sm h;refine ab h ?_;clear h;intro hs h;have t24:=(t2.trans t3).trans t4;have en:J4 n=J n:=t24.ext n hnn;rw[<-en];have hn4:n<S3.next:=Nat.lt_of_lt_of_le hnn t24.le;refine nB (X:=XL L) D.ok r4 hn4 e5 sm v4 λJ5 s5 t5 r5=>?_;have t25:=t24.trans t5;have e5n:J5 n=J4 n:=t5.ext n hn4;rw[<-e5n];exact O.comp h hR (hE.stp t25) r5 (jv hI1 t25 hs hn hL) (names t25) hL hb (Nat.lt_of_lt_of_le hn4 t5.le) (T1.trans t25) h0 λJ' s' a b c=>q J' s' a b ⟨c.1.trans (e5n.trans en),Nat.le_trans t25.le c.2⟩
  ·intro S2 e3 h;refine kK O e3 hR (hE.stp t2) r2 λJ3 s3 t3 r3=>?_;rw[if_neg (by decide)];refine ab h ?_;clear h;intro hs h;have t23:=t2.trans t3;have en:J3 n=J n:=t23.ext n hnn;rw[<-en];exact O.comp h hR (hE.stp t23) r3 (jv hI1 t23 hs hn hL) (names t23) hL hb (Nat.lt_of_lt_of_le hnn t23.le) (T1.trans t23) h0 λJ' s' a b c=>q J' s' a b ⟨c.1.trans en,Nat.le_trans t23.le c.2⟩
 ·intro _ h;refine aB h ?_;clear h;intro h1;subst h1;rename_i e1;refine kq D hR.handled r hI hn hL hb T h0 e1 λoval s1 r1 T1 N=>?_;induction oval using Option.casesOn with
  |some val=>exact N.elim
  |none=>exact q _ _ T1 r1 ⟨rfl,Nat.le_refl _⟩
theorem dM{all:List (Str×NameKind)}:∀{l:List (Str×NameKind)},aM all l=true->∀y∈l,y.2≠.cell/\(y.2=.local->all.lookup y.1=some .local)
 |[]=>by intro _ y hy;cases hy
 |(x,k)::r=>by
  intro h y hy
  have other:aM all r=true->k≠.cell->k≠.local->y.2≠.cell/\(y.2=.local->all.lookup y.1=some .local):=λh k1 k2=>by
   rcases List.mem_cons.mp hy with rfl|hy
   ·exact⟨k1,λe=>(k2 e).elim⟩
   ·exact dM h y hy
  unfold aM at h;induction k using PySem.NameKind.casesOn with
  |cell=>exact ai h
  |«local»=>
   dsimp only at h;refine ia h ?_;clear h;intro e1 h;rcases List.mem_cons.mp hy with rfl|hy
   ·refine⟨λe=>(by cases e),λ_=>?_⟩;rw[<-dY];exact e1
   ·exact dM h y hy
  |free=>exact other h (λe=>by cases e) (λe=>by cases e)
  |globalExplicit=>exact other h (λe=>by cases e) (λe=>by cases e)
  |globalImplicit=>exact other h (λe=>by cases e) (λe=>by cases e)
noncomputable def wu (J:Nat->Nat) (nx:Nat) (x:Str×Nat) (y:Str×Addr):Prop:=x.1=y.1/\x.2<nx/\y.2=J x.2
set_option tactic.hygienic true in
theorem wu.look{nx:Nat}{x:Str}{n:Nat}:∀{cs:List (Str×Nat)} {cl:List (Str×Addr)},ac (wu J nx) cs cl->bE cs x=some n->n<nx/\cl.lookup x=some (J n)
 |[]=>by rename_i w1;intro al2;refine ac.nilE al2 ?_;clear al2;intro q';subst q';intro h;exact aa h
 |(y,m)::cs=>by
  rename_i w1;intro al2;refine ac.consE al2 ?_;clear al2;intro y2' cl q' ha2 t;subst q';obtain⟨z,a⟩:=y2';obtain⟨h1,h2,h3⟩:=ha2;intro h;dsimp only at h1 h2 h3;subst h1 h3;unfold bE at h;rw[List.lookup_cons];induction c:cq y x using Bool.casesOn with
  |true=>rw[c]at h;refine aB h ?_;clear h;intro h1;subst h1;have:=aI.mp c;subst this;rw[beq_self_eq_true];exact⟨h2,rfl⟩
  |false=>
   rw[c]at h;have:=dI c;have e:(x==y)=false:=by simpa using λq=>this q.symm
   rw[e];exact wu.look t h
theorem fX(hE:ag ae fc J S.next L){sc:Scope}{cs:List (Str×Nat)}(h:bW sc.names fc.cells []=some cs):∃cl,closureFor sc ae=pure cl/\ac (wu J S.next) cs cl:=by
 have key:∀(f:Str×NameKind->List (Str×Addr)->Sem (ForInStep (List (Str×Addr)))) (hf:∀x k c,f (x,k) c=if(k==NameKind.free)=true then(do let a<-cellOf ae x;pure (.yield ((x,a)::c)))else pure (.yield c))
   (l:List (Str×NameKind)) (acc:List (Str×Nat)) (acc':List (Str×Addr)) (cs:List (Str×Nat)),bW l fc.cells acc=some cs->ac (wu J S.next) acc acc'->∃cl,forIn l acc' f=pure cl/\ac (wu J S.next) cs cl:=by
  intro f hf l
  induction l with
  |nil=>
   intro acc acc' cs h al
   refine aB h ?_;clear h;intro h1;subst h1
   exact⟨acc',List.forIn_nil,al⟩
  |cons x r ih=>
   obtain⟨x,k⟩:=x
   intro acc acc' cs h al
   unfold bW at h
   rw[List.forIn_cons,hf]
   induction k using PySem.NameKind.casesOn<;>dsimp only at h<;>try(rw[if_neg (by decide),pure_bind];exact ih _ _ _ h al)
   refine bU h ?_;clear h;intro n e h
   obtain⟨a1,a2⟩:=hE.cells x n e
   rw[if_pos (by decide)]
   unfold cellOf
   rw[a2]
   dsimp only
   rw[pure_bind,pure_bind]
   exact ih _ _ _ h (.cons ⟨rfl,a1,rfl⟩ al)
 have e:closureFor sc ae=forIn sc.names ([]:List (Str×Addr)) (λx c=>if(x.2==NameKind.free)=true then(do let a<-cellOf ae x.1;pure (ForInStep.yield ((x.1,a)::c)))else pure (ForInStep.yield c)):=by unfold closureFor;rw[bind_pure]
 rw[e];exact key _ (λx k c=>rfl) sc.names [] [] cs h .nil
theorem eL(hE:ag ae fc J S.next L)(sc:Scope):(relabel sc ae).names=bQ fc.names sc.names:=by
 unfold relabel;dsimp only;generalize sc.names=l;induction l with
 |nil=>rfl
 |cons x r ih=>
  obtain⟨x,k⟩:=x;rw[List.map_cons];unfold bQ
  have hk:(ae.kindOf x==some NameKind.cell)=match bE fc.names x with|some .cell=>true|_=>false:=by
   unfold Env.kindOf;rw[hE.names,<-dY];cases bE fc.names x with
   |none=>rfl
   |some q=>induction q using PySem.NameKind.casesOn<;>rfl
  rw[ih];dsimp only;rw[hk,hE.kind];induction k using PySem.NameKind.casesOn<;>dsimp only<;>try rfl
  cases bE fc.names x with
  |none=>rfl
  |some q=>induction q using PySem.NameKind.casesOn<;>rfl
set_option tactic.hygienic true in
theorem sT{o:SO}{T:St}{xs:SV}{val:Value}{i:Nat}{ov:Option SV}(hT:T.hp=S.hp.put S.next o)(hv:VR G J S.next xs val)(h:bI T xs i=some ov):bI S xs i=some ov:=by
 induction xs using SV.casesOn<;>try((first|exact aa h|cases h);done)
 rename_i n;refine xA hv ?_;clear hv;intro hn _;unfold bI at h|-;dsimp only at h|-;induction e:T.hp.get n using Option.casesOn with
 |none=>rw[e]at h;exact aa h
 |some o'=>
  rw[e]at h;rw[hT]at e;rcases Tr.get_put e with⟨a,_⟩|⟨_,b⟩
  ·lia
  ·rw[b];exact h
set_option tactic.hygienic true in
theorem Ah{o:SO}{T:St}{xs:SV}{i j it a:Nat}{ov:Option SV}{h h':Heap}(hT:T.hp=S.hp.put S.next o/\T.next=S.next+1)(e:bI T xs j=some ov)(k:∀o,h.get? it=some o->h'.get? it=some o)(hI:pL G J S h it xs i):pL G (dH J S.next a) T h' it xs i:=by
 induction xs using SV.casesOn<;>try(cases hI;done)
 rename_i n;refine xA hI ?_;clear hI;intro hn hI;refine⟨by rw[hT.2];exact Nat.lt_succ_of_lt ‹_›,?_⟩;rw[aA hn];unfold bI at e;dsimp only at e;induction e1:T.hp.get n using Option.casesOn with
 |none=>rw[e1]at e;exact aa e
 |some o'=>
  rw[hT.1]at e1;rcases Tr.get_put e1 with⟨a,_⟩|⟨_,b⟩
  ·lia
  ·rw[b]at hI;induction o' using SO.casesOn<;>(try dsimp only at hI|-)<;>try(exact hI)
   ·refine an hI ?_;clear hI;intro o a b;exact⟨o,k _ a,b⟩
   ·rename_i kk l;induction kk using Nat.casesOn<;>first|exact hI|(obtain⟨o,a,b⟩:=hI;exact⟨o,k _ a,b⟩)
   ·refine an hI ?_;clear hI;intro left a b;exact⟨left,k _ a,b⟩
noncomputable def zd (G:Gr) (A:Around) (E:Value->Shared->Prop) (L:Nat) (J:Nat->Nat) (S:St) (s:Shared) (v:SV) (S':St) (use:Option (Value->Sem Unit)) (Q:Value->Shared->Prop):Prop:=
 match use with
 |none=>aj G (XL L) L J S s v S' Q
 |some u=>∀J' val s',cT (XL L) J S s J' S' s'->SR G J' S' s' L->VR G J' S'.next v val->wpAny (model G.prog G.w) A (u val) (λ_ s''=>∃J'' S'',cT (XL L) J' S' s' J'' S'' s''/\SR G J'' S'' s'' L/\
   ∀J3 s3,cT (XL L) J S s J3 S'' s3->SR G J3 S'' s3 L->Q .none s3) E s'
theorem u7(D:Gd G Cxt)(O:ba G d lv){elt:PExpr}{gens:List Comprehension}{sc:Scope}{cpos ppos:Pos}{v:SV}{use:Option (Value->Sem Unit)}{Q:Value->Shared->Prop}(hR:Rm d A)(hE:ag ae fc J S.next L)(r:SR G J S s L)(h:fW lv fc elt gens sc S=some (v,S'))(q:zd G A E L J S s v S' use Q):wpAny (model G.prog G.w) A (comprehension (.ListComp elt gens sc cpos) sc ae ppos (newList []) (firstAsync gens) (firstIter gens ae) use) Q E s:=by
 unfold fW at h;refine oW h ?_;clear h;intro tgt itx ifs e0' h;subst e0';refine oX h ?_;clear h;intro cs c1 c2 h;rw[Bool.and_eq_true]at c1;refine xA c1 ?_;clear c1;intro c1 c3;have hk:sc.kind=.function:=by unfold tW at c1;refine mq c1 ?_;clear c1;intro _ c1;assumption
 have hnc:aM sc.names sc.names=true:=by unfold tW at c1;rw[hk]at c1;exact c1
 refine an (fX hE c2) ?_;intro cl k1 k2;refine ao h ?_;clear h;intro xs S1 e1 h;refine bf h ?_;clear h;intro S2 e2 h;refine gS h ?_;clear h;intro h1 h2;subst h1;subst h2;refine xE (O.compI e2) ?_;intro ov e3;refine wpAny_comprehension_free (g:=⟨tgt,itx,ifs,0⟩) (gs:=[]) rfl (λx=>?_) k1 hk (λx hx hl=>(dM hnc x hx).2 hl) ?_
 ·induction itx using PySem.Expr.casesOn<;>first|rfl|(first|exact ai c3|cases c3)
 show wpAny _ _ (eval itx ae) _ _ _;refine O.ex e1 hR hE r λJ1 val s1 t1 r1 v1=>?_;have e4:=sT (T:={(S1.new (.lst 0 [])).2 with loc:=[]}) rfl v1 e3;refine gF r1 v1 e4 λob hf hI=>?_;have I1:=(r1.grow (X:=XL L) (h':=s1.heap.push ob) (tk:=s1.toks) λa o e=>Heap.get?_push_of_some _ e).1;have st1:=λX=>(r1.grow (X:=X) (h':=s1.heap.push ob) (tk:=s1.toks) λa o e=>Heap.get?_push_of_some _ e).2;generalize hit:s1.heap.objs.size=it at hI;have fit:s1.heap.get? it=none:=by rw[<-hit];exact aQ
 have ait:∃o,(s1.heap.push ob).get? it=some o:=⟨ob,by rw[<-hit];exact Heap.get?_push_size _ hf⟩
 refine wpAny_newObj_type (hd:=by size_fits) ?_;have new2:=OR.lstNew (G:=G) (J:=J1) (S:=S1) (vs:=[]) (items:=#[]) D.ok .nil (by simp) (s1.heap.push ob);obtain⟨I2,_,v2⟩:=I1.push (X:=XL L) (o:=.lst 0 []) (ob:={cls:=.type "list",dict:=none,data:=.seq ([]:List Value).toArray}) (tk:=s1.toks) new2;have t2:=λX=>(I1.push (X:=X) (o:=.lst 0 []) (ob:={cls:=.type "list",dict:=none,data:=.seq ([]:List Value).toArray}) (tk:=s1.toks) new2).2.1;clear new2;generalize hacc:(s1.heap.push ob).objs.size=acc at I2 t2 v2;refine wpAny_newFunctionEnv (λx hx=>(dM hnc x hx).1) (by intro y hy;simp at hy) (λh₁ hns₁ hsb₁=>?_) hk;dsimp only at hns₁ hsb₁|-;have hnone:(s1.heap.push ob).get? acc=none:=by rw[<-hacc];exact aQ
 generalize hH2:(s1.heap.push ob).push {cls:=.type "list",dict:=none,data:=.seq ([]:List Value).toArray}=H2 at I2 t2 hns₁ hsb₁|-;generalize hC:H2.objs.size=C at hns₁ hsb₁|-;have fC:H2.get? C=none:=by rw[<-hC];exact aQ
 have k2':∀a o,H2.get? a=some o->h₁.get? a=some o:=λa o e=>by rw[hsb₁.2 a (af e fC)];exact Heap.get?_push_of_some _ e
 have I3:=(I2.grow (X:=XL L) (h':=h₁) (tk:=s1.toks+([]:List (Str×Value)).length) k2').1;have st3:=λX=>(I2.grow (X:=X) (h':=h₁) (tk:=s1.toks+([]:List (Str×Value)).length) k2').2;have Ey:=λX=>(st1 X).trans ((t2 X).trans (st3 X));have itH2:∃o,H2.get? it=some o:=by obtain⟨o,e⟩:=ait;exact⟨o,by rw[<-hH2];exact Heap.get?_push_of_some _ e⟩
 have itC:it≠C:=by obtain⟨o,e⟩:=itH2;exact af e fC
 have fC1:s1.heap.get? C=none:=by
  induction c:s1.heap.get? C using Option.casesOn with
  |none=>rfl
  |some o=>
   have:H2.get? C=some o:=by rw[<-hH2];exact Heap.get?_push_of_some _ (Heap.get?_push_of_some _ c)
   rw[fC]at this;exact aa this
 have LC:L≠C:=by obtain⟨⟨m,⟨o,_,_,e,_⟩,_⟩,_,_⟩:=I2.lc;exact af e fC
 have itb:G.h0.get? it=none:=by
  induction c:G.h0.get? it using Option.casesOn with
  |none=>rfl
  |some o=>have:=r1.hp.base _ _ c;rw[fit]at this;exact aa this
 have Cb:G.h0.get? C=none:=by
  induction c:G.h0.get? C using Option.casesOn with
  |none=>rfl
  |some o=>have:=I2.hp.base _ _ c;rw[fC]at this;exact aa this
 have iacc:it≠acc:=by refine xE ait ?_;clear ait;intro o e;exact af e hnone
 have itn:∀n,n<(S1.new (.lst 0 [])).2.next->dH J1 S1.next acc n≠it:=λn hn=>by
  have hn:n<S1.next+1:=hn;by_cases c:n=S1.next
  ·subst c;rw[aV];exact iacc.symm
  ·rw[aA (by exact aN ‹_› ‹_›)];refine xE (r1.hp.lv n (by exact aN ‹_› ‹_›)) ?_;intro o e;exact af e fit
 have Cn:∀n,n<(S1.new (.lst 0 [])).2.next->dH J1 S1.next acc n≠C:=λn hn=>by refine xE (I2.hp.lv n hn) ?_;intro o e;exact af e fC
 have RC:SR G (dH J1 S1.next acc) {(S1.new (.lst 0 [])).2 with loc:=[]} {s1 with heap:=h₁,toks:=s1.toks+([]:List (Str×Value)).length} C:=
  ⟨I3.hp.cong rfl rfl,⟨⟨_,hns₁,λx v hx=>by exact aa hx⟩,Cb,Cn⟩⟩
 have hE':ag (compEnvC sc cl C ae) ⟨bQ fc.names sc.names,cs⟩ (dH J1 S1.next acc) (S1.new (.lst 0 [])).2.next C:=
  ⟨hk,eL hE sc,rfl,hE.glob,hE.bi,λx n e=>by
   refine xA (wu.look k2 e) ?_;intro a1 a2
   have le:S.next<=S1.next:=t1.le
   refine⟨Nat.lt_of_lt_of_le a1 (Nat.le_trans le (Nat.le_succ _)),?_⟩
   show cl.lookup x=_
   rw[a2,aA (by exact Nat.lt_of_lt_of_le ‹_› ‹_›),t1.ext n a1]⟩
 have hI3:pL G (dH J1 S1.next acc) {(S1.new (.lst 0 [])).2 with loc:=[]} h₁ it xs 0:=Ah ⟨rfl,rfl⟩ e3 (λo e=>k2' _ _ (by rw[<-hH2];exact Heap.get?_push_of_some _ e)) hI;have loop:codeAny (model G.prog G.w) A (.compLoop (.ListComp elt [⟨tgt,itx,ifs,0⟩] sc cpos) 0 (.ref it) (.ref acc) (compEnvC sc cl C ae)) (compPost (model G.prog G.w) A E use Q (.ref acc) C) {s1 with heap:=h₁,toks:=s1.toks+([]:List (Str×Value)).length}:=by
  have hrefl:dH J1 S1.next acc S1.next=acc:=aV;have go:=O.comp (R:=compPost (model G.prog G.w) A E use Q (.ref acc) C) (iter:=itx) (scope:=sc) (pos:=cpos) e2 hR hE' RC hI3 itn itC itb (Nat.lt_succ_self _) ((Ey (XL C)).cong rfl rfl) fit (λJ' s' T' r' en=>?_)
  ·rw[hrefl]at go;exact go
  have T1':cT (XL L) J1 S1 s1 J' S2 s':=T'.sub λa ha=>by subst ha;exact .inr fC1
  have r3:SR G J' {S2 with loc:=S1.loc} s' L:=⟨r'.hp.cong rfl rfl,r1.lc.after T1'.le T1'.ext T1'.fresh (λo e=>T'.keep _ _ e (λq=>LC q) r1.lc.ne) rfl⟩
  have T3:cT (XL L) J S s J' {S2 with loc:=S1.loc} s':=(t1.trans T1').cong rfl rfl;have vv:VR G J' S2.next (.ref S1.next) (.ref acc):=⟨Nat.lt_of_lt_of_le (Nat.lt_succ_self _) en.2,by rw[en.1,hrefl]⟩
  obtain⟨⟨m,hm,_⟩,_,cne⟩:=r'.lc;have fCs:s.heap.get? C=none:=by
   induction c:s.heap.get? C using Option.casesOn with
   |none=>rfl
   |some o=>obtain⟨o',e'⟩:=t1.alive _ _ c;rw[fC1]at e';exact aa e'
  induction use using Option.casesOn with
  |none=>refine⟨m,hm,λh' hs=>?_⟩;obtain⟨a,b⟩:=r3.iter (tk:=s'.toks) (it:=C) (h':=h') cne LC.symm Cb (λb o hb e=>by rw[hs.2 b hb];exact e) (fg hm) T3 fCs;exact q _ _ _ b a vv
  |some u=>
   refine wpAny_mono (q _ _ _ T3 r3 vv) (λ_ s'' hq=>?_) λ_ _ z=>z;refine ap hq ?_;clear hq;intro J4 S4 t4 r4 hq;refine pS hm ?_;clear hm;intro oC esC epC hC1 hC2;have kC:=t4.keep C oC hC1 (λq=>LC q.symm) cne;refine⟨m,⟨oC,esC,epC,kC,hC2⟩,λh' hs=>?_⟩
   have c4:∀n,n<S4.next->J4 n≠C:=λn hn=>by
    by_cases c:n<S2.next
    ·rw[t4.ext n c];exact cne n c
    ·exact(af hC1 (t4.fresh n (Nat.le_of_not_lt c) hn)).symm
   obtain⟨a,b⟩:=r4.iter (tk:=s''.toks) (it:=C) (h':=h') c4 LC.symm Cb (λb o hb e=>by rw[hs.2 b hb];exact e) (fg ⟨oC,esC,epC,kC,hC2⟩) (T3.trans t4) fCs;exact hq _ _ b a
 exact codeAny_compStart_list loop (xN hI3 loop)
theorem wj{n:Nat}{es:List (Str×SV)}{kvs:List (Str×Value)}{k v:SV}{kv val:Value}{Q:Unit->Shared->Prop}(D:Gd G Cxt)(r:SR G J S s L)(hu:A.units+10<cLine)(hn:n<S.next)(dk:s.heap.DictOf (strKind G.prog G.w) (J n) kvs)(al:ac (λ(x:Str×SV) (y:Str×Value)=>x.1=y.1/\VR G J S.next x.2 y.2) es kvs)(hk:VR G J S.next k kv)(hv:VR G J S.next v val)(h:mG S n es k v=some S')(q:cF G X L J S s S' (Q ())):wpAny (model G.prog G.w) A (dictSet (J n) kv val) Q E s:=by
 unfold mG at h;refine mX h ?_ ?_ ?_<;>clear h
 ·intro _ e0' h;subst e0';refine ab h ?_;clear h;intro sm h;refine aB h ?_;clear h;intro h1;subst h1;refine xE hk ?_;clear hk;intro t q1';subst q1';have hl:kvs.length<=4096:=by rw[<-al.length];exact dF sm
  refine wpAny_dictSet_pairs (knd:=strKind G.prog G.w) iC dk (λh' dk' hs=>?_) (by rw[sizeLine_eq];exact Nat.le_trans ‹_› (by decide));have Z:=r.set (X:=X) (h':=h') (tk:=s.toks+1) (o:=.sd (cr es _ v)) hn hs (bV dk) ⟨_,dk',kf hv al (ee dk)⟩;exact q _ _ Z.2 Z.1
 ·intro _ e0' h;subst e0';refine jU h ?_;clear h;intro sk e0' e2 h;subst e0';refine aB h ?_;clear h;intro h1;subst h1;refine cM (dw r.hp e2 hk) ?_;intro m kd e' hm q1';subst q1';intro k1 k2;rw[aD al]at dk;have dn:=eh dk;refine wpAny_dictSet_heap (knd:=ay G.prog G.w) (xs:=[]) (by show A.units+2<cLine;exact aU ‹_› (by decide)) k2 (gH dn) (λh' dk' hs=>?_) (by simp)
  have Z:=r.set (X:=X) (h':=h') (tk:=s.toks+(ay G.prog G.w).draws kd) (o:=.hd 0 [(sk,v)]) hn hs (bV dk)
   ⟨[(kd,J m,val)],⟨by rw[D.ok.d0];exact dk',by simp⟩,.cons ⟨k1,hv⟩ .nil⟩
  exact q _ _ Z.2 Z.1
 ·intro _ e0' h;subst e0';refine ab h ?_;clear h;intro c h;rw[Bool.and_eq_true]at c;have c2:=bq c.2;subst c2;refine aB h ?_;clear h;intro h1;subst h1;refine bb (bz c.1 hk) ?_;intro j t nj q1';subst q1';rw[aD al]at dk;have dn:=eh dk;refine wpAny_dictSet_pairs (knd:=intKind G.prog G.w) (kvs:=[]) iX (fj dn) (λh' dk' hs=>?_) (by simp);have Z:=r.set (X:=X) (h':=h') (tk:=s.toks+1) (o:=.idt [(k,v)]) hn hs (bV dk) ⟨_,dk',.cons ⟨nj,hv⟩ .nil⟩;exact q _ _ Z.2 Z.1
set_option tactic.hygienic true in
theorem rF{o k v:SV}{oval:Addr}{kv val:Value}{Q:Unit->Shared->Prop}(D:Gd G Cxt)(r:SR G J S s L)(hu:A.units+10<cLine)(ho:VR G J S.next o (.ref oval))(hk:VR G J S.next k kv)(hv:VR G J S.next v val)(h:setItem Cxt S o k v=some S')(q:cF G X L J S s S' (Q ())):wpAny (model G.prog G.w) A (dictSet oval kv val) Q E s:=by
 unfold setItem at h;induction o using SV.casesOn<;>(try dsimp only at h)<;>try(first|exact aa h|cases h)
 rename_i n;refine xA ho ?_;clear ho;intro hn ho;injection ho with ho
 subst ho;induction e:S.hp.get n using Option.casesOn with
 |none=>rw[e]at h;exact aa h
 |some ob=>
 rw[e]at h;have R:=r.named hn e;induction ob using SO.casesOn<;>(try dsimp only at h)<;>try(first|exact aa h|cases h)
 ·rename_i es;refine an R ?_;clear R;intro kvs dk al;exact wj D r hu hn dk al hk hv h q
 ·rename_i es;refine an R ?_;clear R;intro kvs dk al;unfold sA at h;refine ab h ?_;clear h;intro c h;rw[Bool.and_eq_true]at c;refine xA c ?_;clear c;intro c sm;refine fU h ?_;clear h;intro l e2 h;refine aB h ?_;clear h;intro h1;subst h1;refine bb (bz c hk) ?_;intro j t nj q1';subst q1';have hl:kvs.length<=4096:=by rw[<-al.length];exact dF sm
  refine wpAny_dictSet_pairs (knd:=intKind G.prog G.w) iX dk (λh' dk' hs=>?_) (by rw[sizeLine_eq];exact Nat.le_trans ‹_› (by decide));have Z:=r.set (X:=X) (h':=h') (tk:=s.toks+1) (o:=.idt l) hn hs (bV dk) ⟨_,dk',nS (R:=cp G) (λ_ _ _ _ _ a b c=>i' D.ok a b c) nj hv al (ee dk) e2⟩;exact q _ _ Z.2 Z.1
 ·rename_i o es;refine an R ?_;clear R;intro xs q1' al;obtain⟨dk,nd⟩:=q1';unfold wP at h;refine cV h ?_;clear h;intro sk e2 h;refine cM (dw r.hp e2 hk) ?_;intro m kd e' hm q1';subst q1';intro k1 k2;refine jV h ?_;clear h;intro e3 h;refine ab h ?_;clear h;intro sm h;refine aB h ?_;clear h;intro h1;subst h1;have F:=d9 D.ok k1 al e3;have hl:xs.length<=4096:=by rw[<-al.length];exact dF sm
  have hb:=dm xs (G.I.od o);have hb2:=D.ok.smallD o;refine wpAny_dictSet_heap (knd:=ay G.prog G.w) (by show A.units+2<cLine;exact aU ‹_› (by decide)) k2 dk (λh' dk' hs=>?_) (by rw[sizeLine_eq];lia)
  have Z:=r.set (X:=X) (h':=h') (tk:=s.toks+(ay G.prog G.w).draws kd) (o:=.hd o (es++[(sk,v)])) hn hs (j2 dk)
   ⟨xs++[(kd,J m,val)],⟨by rw[jj];exact dk',by
    rw[List.map_append,List.nodup_append]
    refine⟨nd,by simp,?_⟩
    intro a ha b hb
    simp only[List.map_cons,List.map_nil,List.mem_singleton]at hb
    subst hb
    rintro rfl
    exact F.2 ha⟩,al.app (.cons ⟨k1,hv⟩ .nil)⟩
  exact q _ _ Z.2 Z.1
noncomputable def FY (G:Gr) (J:Nat->Nat) (nx:Nat) (x:SV×SV) (y:Value×Value):Prop:=VR G J nx x.1 y.1/\VR G J nx x.2 y.2
set_option tactic.hygienic true in
theorem lL(O:ba G d lv){pos:Pos}:∀{ks:List (Option PExpr)} {es:List PExpr} {S:St} {kvs:List (SV×SV)} {S':St},dicts lv fc ks es S=some (kvs,S')->∀{J s} {Q:List (Value×Value)->Shared->Prop},Rm d A->ag ae fc J S.next L->SR G J S s L->(∀J' vals s',cT (XL L) J S s J' S' s'->SR G J' S' s' L->ac (FY G J' S'.next) kvs vals->Q vals s')->wpAny (model G.prog G.w) A (evalPairs (pairTrees ks es ae pos)) Q E s
 |[],[]=>by rename_i S kvs S';intro h J s Q hR hE r q;refine gS h ?_;clear h;intro h1 h2;subst h1;subst h2;exact wpAny_pure (q _ _ _ .refl r .nil)
 |[],_::_=>by rename_i S kvs S';intro h J s Q hR hE r q;exact aa h
 |none::_,_=>by rename_i S kvs S';intro h J s Q hR hE r q;exact aa h
 |some k::ks,[]=>by rename_i S kvs S';intro h J s Q hR hE r q;exact aa h
 |some k::ks,e::es=>by rename_i S kvs S';intro h J s Q hR hE r q;refine ao h ?_;clear h;intro kv S1 e1 h;refine ao h ?_;clear h;intro v S2 e2 h;refine gv h ?_;clear h;intro rs S3 e3 h;refine gS h ?_;clear h;intro h1 h2;subst h1;subst h2;show wpAny _ _ (eval k ae>>=_) _ _ _;refine wpAny_bind (O.ex e1 hR hE r λJ1 kval s1 t1 r1 v1=>?_);refine wpAny_bind (wpAny_holding (wpAny_bind (O.ex e2 hR (hE.stp t1) r1 λJ2 val s2 t2 r2 v2=>wpAny_bind (wpAny_standAt (wpAny_pure ?_)))));refine wpAny_bind (wpAny_holding (lL O e3 hR ((hE.stp t1).stp t2) r2 λJ3 vals s3 t3 r3 v3=>wpAny_pure ?_));exact q _ _ _ ((t1.trans t2).trans t3) r3 (.cons ⟨(v1.stp t2).stp t3,v2.stp t3⟩ v3)
theorem mK(D:Gd G Cxt)(hu:A.units+10<cLine){n:Nat}{a:Addr}{kvs:List (SV×SV)}:∀{vals:List (Value×Value)} {S:St},jk Cxt S (.ref n) kvs=some S'->∀{J s} {Q:PUnit->Shared->Prop},n<S.next->J n=a->SR G J S s L->ac (FY G J S.next) kvs vals->cF G (XL L) L J S s S' (Q ())->wpAny (model G.prog G.w) A (storeAll a vals) Q E s:=by
 induction kvs with
 |nil=>intro vals S h J s Q hn ha r al q;cases al;refine aB h ?_;clear h;intro h1;subst h1;unfold storeAll;rw[List.forIn_nil];exact wpAny_pure (q _ _ .refl r)
 |cons x kvs ih=>obtain⟨k,v⟩:=x;intro vals S h J s Q hn ha r al q;refine ap (au al) ?_;intro q1' vals' q2';subst q2';intro h1 h2;obtain⟨kval,val⟩:=q1';refine bf h ?_;clear h;intro S1 e1 h;unfold storeAll;rw[List.forIn_cons];refine wpAny_bind (wpAny_bind (rF (X:=XL L) D r hu (o:=.ref n) ⟨hn,by rw[ha]⟩ h1.1 h1.2 e1 λJ1 s1 t1 r1=>wpAny_pure ?_));exact ih h (Nat.lt_of_lt_of_le hn t1.le) ((t1.ext n hn).trans ha) r1 (h2.mono λx y z=>⟨z.1.stp t1,z.2.stp t1⟩) (q.later t1)
theorem wm{ks:List (Option PExpr)}{es:List PExpr}{S S':St}{kvs:List (SV×SV)}(h:dicts lv fc ks es S=some (kvs,S')):ks.all (·.isSome)=true/\ks.length=es.length:=by
 induction ks generalizing es S S' kvs with
 |nil=>induction es using List.casesOn with
  |nil=>exact⟨rfl,rfl⟩
  |cons _ _=>exact aa h
 |cons k ks ih=>
  induction k using Option.casesOn with
  |none=>exact aa h
  |some k=>
   induction es using List.casesOn with
   |nil=>exact aa h
   |cons e es=>refine ao h ?_;clear h;intro _ _ _ h;refine ao h ?_;clear h;intro _ _ _ h;refine gv h ?_;clear h;intro _ _ e3 h;refine xA (ih e3) ?_;intro a b;exact⟨by rw[List.all_cons,a];rfl,by rw[List.length_cons,List.length_cons,b]⟩
theorem AJ(D:Gd G Cxt)(O:ba G d lv){ks:List (Option PExpr)}{es:List PExpr}{pos:Pos}{v:SV}{Q:Value->Shared->Prop}(hR:Rm d A)(hE:ag ae fc J S.next L)(r:SR G J S s L)(h:pz Cxt lv fc ks es S=some (v,S'))(q:aj G (XL L) L J S s v S' Q):wpAny (model G.prog G.w) A (eval (.Dict ks es pos) ae) Q E s:=by
 have hu:A.units+10<cLine:=by have:=hR.units;exact aW ‹_› (by decide)
 unfold pz at h;refine ab h ?_;clear h;intro sm h;refine gv h ?_;clear h;intro kvs S1 e1 h;refine bf h ?_;clear h;intro S2 e2 h;replace q:=aj.cast h q;clear h
 have new:OR G (dH J S.next s.heap.objs.size) (S.next+1) (s.heap.push {cls:=.type "dict",data:=.dict #[]}) s.heap.objs.size (.sd []):=
  ⟨[],fj ⟨_,_,Heap.get?_push_size _ rfl,⟨rfl,rfl,rfl⟩,rfl⟩,.nil⟩
 obtain⟨r0,t0,v0⟩:=r.push (X:=XL L) (tk:=s.toks) new;refine xA (wm e1) ?_;intro a1 a2;have hlen:ks.length<=15:=Nat.le_of_ble_eq_true sm;induction ks using List.casesOn with
 |nil=>
  induction es using List.casesOn with
  |cons _ _=>cases a2
  |nil=>refine gS e1 ?_;clear e1;intro h1 h2;subst h1;subst h2;refine aB e2 ?_;clear e2;intro h1;subst h1;exact wpAny_Dict_empty (q _ _ _ t0 r0 v0)
 |cons k ks=>
  refine wpAny_Dict_any a1 a2 (by simp) hlen ?_;refine lL O e1 hR (hE.stp t0) r0 λJ1 vals s1 t1 r1 v1=>?_;have hn:S.next<S1.next:=Nat.lt_of_lt_of_le (Nat.lt_succ_self _) t1.le;have hJ:J1 S.next=s.heap.objs.size:=by rw[t1.ext _ (Nat.lt_succ_self _),aV]
  refine mK D hu e2 hn hJ r1 v1 λJ2 s2 t2 r2=>?_;exact q _ _ _ ((t0.trans t1).trans t2) r2 ⟨Nat.lt_of_lt_of_le hn t2.le,by rw[t2.ext _ hn,hJ]⟩
theorem we(D:Gd G Cxt)(O:ba G d lv){e:PExpr}{v:SV}{Q:Value->Shared->Prop}(hR:Rm d A)(hE:ag ae fc J S.next L)(r:SR G J S s L)(h:Bq Cxt lv fc e S=some (v,S'))(q:aj G (XL L) L J S s v S' Q):wpAny (model G.prog G.w) A (eval e ae) Q E s:=by
 refine CH D O (λelt gens sc pos he hc=>?_) (λks vs pos he hd=>?_) hR hE r h q
 ·subst he;rw[arm_eval_ListComp];exact u7 D O hR hE r hc q
 ·subst he;exact AJ D O hR hE r hd q
theorem gh{e:PExpr}{t:Option PExpr}{n:Nat}(h:hV e=false):swapsWith e t n ae=pure false:=by induction e using PySem.Expr.casesOn<;>first|rfl|(first|exact ul h|cases h)
theorem sq{elt:PExpr}{gens:List Comprehension}{sc:Scope}{pos:Pos}{t:PExpr}{n:Nat}:(∃c,swapsWith (.ListComp elt gens sc pos) (some t) n ae=pure c):=by induction t using PySem.Expr.casesOn<;>exact⟨_,rfl⟩
theorem eW{t:PExpr}{v:Value}(h:∀a b,t≠.Starred a b):assignAll v ((assignEach [t] ae).map (·.2))=assign t ae v:=by induction t using PySem.Expr.casesOn<;>first|rfl|exact(h _ _ rfl).elim
theorem yX{t:PExpr}{v:SV}{S1 S2:St}(h:y0 Cxt lv fc t v S1=some S2):(∀a b,t≠.Starred a b)/\∀a b,t≠.List a b:=by
 refine m5 h ?_ ?_ ?_ ?_<;>clear h
 ·intro _ _ e0' _;subst e0';exact⟨λa b e=>PySem.Expr.noConfusion e,λa b e=>PySem.Expr.noConfusion e⟩
 ·intro _ _ _ e0' _;subst e0';exact⟨λa b e=>PySem.Expr.noConfusion e,λa b e=>PySem.Expr.noConfusion e⟩
 ·intro _ _ _ e0' _;subst e0';exact⟨λa b e=>PySem.Expr.noConfusion e,λa b e=>PySem.Expr.noConfusion e⟩
 ·intro _ _ _ e0' _;subst e0';exact⟨λa b e=>PySem.Expr.noConfusion e,λa b e=>PySem.Expr.noConfusion e⟩
theorem iA{t e:PExpr}(h:(jQ t&&jQ e)=false)(hl:∀a b,t≠.List a b):swappedStores [t] e ae=pure none:=by induction t using PySem.Expr.casesOn<;>first|rfl|(exact(hl _ _ rfl).elim)|(induction e using PySem.Expr.casesOn<;>first|rfl|(first|exact ul h|cases h))
set_option tactic.hygienic true in
theorem Ay(O:ba G d lv){e:PExpr}{pos:Pos}{fl:Fl}{Q:Flow->Shared->Prop}(hR:Rm d A)(hE:ag ae fc J S.next L)(r:SR G J S s L)(h:su lv fc e S=some (fl,S'))(q:bt G (XL L) L J S s fl S' Q):wpAny (model G.prog G.w) A (exec (.Expr e pos) ae) Q E s:=by
 unfold su at h;refine bA h ?_;clear h;intro hc h;refine ao h ?_;clear h;intro v S1 e1 h;refine bA h ?_;clear h;intro hr h;replace q:=bt.cast h q;clear h;rw[exec_Expr ae e pos (by unfold interactive;rw[hE.kind];rfl) (gh hc)];refine wpAny_bind (wpAny_standAt (wpAny_bind (O.ex e1 hR hE r λJ1 val s1 t1 r1 v1=>?_)))
 have hv:∀a,val≠.ref a:=λa hva=>by
  subst hva;induction v using SV.casesOn<;>first|((first|exact ul hr|cases hr);done)|skip
  all_goals first
   |(cases v1;done)
   |(obtain⟨t,e⟩:=v1;cases e;done)
   |(rename_i b;induction b using Bi.casesOn<;>cases v1)
 rw[dropValue_plain hv];exact wpAny_pure (q _ _ _ t1 r1 rfl)
theorem mr(D:Gd G Cxt)(O:ba G d lv){lv':Lv}(O':ba G d lv'){t:PExpr}{elt:PExpr}{gens:List Comprehension}{sc:Scope}{cpos pos:Pos}{v:SV}{S1:St}{Q:Flow->Shared->Prop}(ns:∀a b,t≠.Starred a b)(e1:fW lv' fc elt gens sc S=some (v,S1))(e2:y0 Cxt lv fc t v S1=some S')(hs:swapsWith (.ListComp elt gens sc cpos) (some t) pos.line ae=pure true)(hR:Rm d A)(hE:ag ae fc J S.next L)(r:SR G J S s L)(q:bt G (XL L) L J S s .next S' Q):wpAny (model G.prog G.w) A (exec (.Assign [t] (.ListComp elt gens sc cpos) pos) ae) Q E s:=by
 have use:zd G A E L J S s v S1 (some λv=>assignAll v ((assignEach [t] ae).map (·.2))) (λ_ s'=>Q .next s'):=by unfold zd;dsimp only;intro J1 val s1 t1 r1 v1;rw[eW ns];exact ij D O hR (hE.stp t1) r1 v1 e2 λJ2 s2 t2 r2=>⟨J2,S',t2,r2,λJ3 s3 t3 r3=>q _ _ _ t3 r3 rfl⟩
 have main:=u7 (E:=E) (cpos:=cpos) (ppos:=firstIterPos gens cpos) D O' hR hE r e1 use;rw[exec_Assign_arm];refine wpAny_bind (wpAny_standAt ?_);have hs':swapsWithSole [t] (.ListComp elt gens sc cpos) pos.line ae=pure true:=hs;rw[hs'];refine wpAny_bind (wpAny_pure ?_);refine wB rfl ?_;refine wpAny_bind ?_;rw[arm_evalThenUse_ListComp];refine wpAny_bind (wpAny_mono main (λ_ s' hq=>wpAny_pure (wpAny_pure hq)) λ_ _ z=>z)
theorem ws(D:Gd G Cxt)(O:ba G d lv){ts:List PExpr}{e:PExpr}{pos:Pos}{fl:Fl}{Q:Flow->Shared->Prop}(hc:∀v S1,hV e=true->lv.ex fc e S=some (v,S1)->∃elt gens sc p lv',e=.ListComp elt gens sc p/\ba G d lv'/\fW lv' fc elt gens sc S=some (v,S1))(hR:Rm d A)(hE:ag ae fc J S.next L)(r:SR G J S s L)(h:mF Cxt lv fc ts e S=some (fl,S'))(q:bt G (XL L) L J S s fl S' Q):wpAny (model G.prog G.w) A (exec (.Assign ts e pos) ae) Q E s:=by
 unfold mF at h;refine qE h ?_;clear h;intro t e0' h;subst e0';refine bA h ?_;clear h;intro htt h;refine ao h ?_;clear h;intro v S1 e1 h;refine an (Option.map_eq_some_iff.mp h) ?_;intro S2 e2 e3;replace q:=bt.cast (congrArg some e3) q;clear e3;refine xA (yX e2) ?_;intro ns nl;have plain:swapsWithSole [t] e pos.line ae=pure false->wpAny (model G.prog G.w) A (exec (.Assign [t] e pos) ae) Q E s:=λhs=>by refine wpAny_Assign_stores ?_ hs (iA htt nl);refine O.ex e1 hR hE r λJ1 val s1 t1 r1 v1=>?_;rw[eW ns];exact ij D O hR (hE.stp t1) r1 v1 e2 λJ2 s2 t2 r2=>q _ _ _ (t1.trans t2) r2 rfl
 induction hcomp:hV e using Bool.casesOn with
 |false=>exact plain (gh hcomp)
 |true=>
  refine pQ (hc _ _ hcomp e1) ?_;intro elt gens sc cpos lv' q1';subst q1';intro O' e1';obtain⟨c,hs⟩:=sq (ae:=ae) (elt:=elt) (gens:=gens) (sc:=sc) (pos:=cpos) (t:=t) (n:=pos.line);induction c using Bool.casesOn with
  |false=>exact plain hs
  |true=>exact mr D O O' ns e1' e2 hs hR hE r q
theorem ue(D:Gd G Cxt)(O:ba G d lv){x:Str}{op:Operator}{e:PExpr}{p pos:Pos}{fl:Fl}{Q:Flow->Shared->Prop}(hR:Rm d A)(hE:ag ae fc J S.next L)(r:SR G J S s L)(h:pF Cxt lv fc x op e S=some (fl,S'))(q:bt G (XL L) L J S s fl S' Q):wpAny (model G.prog G.w) A (exec (.AugAssign (.Name x p) op e pos) ae) Q E s:=by unfold pF at h;refine dE h ?_;clear h;intro a ea h;refine ao h ?_;clear h;intro b S1 e1 h;refine dE h ?_;clear h;intro v e2 h;refine an (Option.map_eq_some_iff.mp h) ?_;intro S3 e3 e4;replace q:=bt.cast (congrArg some e4) q;clear e4;refine wpAny_AugAssign_Name ?_;refine(mT (X:=XL L) x D hE r ea λJ1 aval s1 t1 r1 v1=>?_).1;refine O.ex e1 hR (hE.stp t1) r1 λJ2 bval s2 t2 r2 v2=>?_;refine rO (X:=XL L) r2 (v1.stp t2) v2 e2 λJ3 val s3 t3 r3 v3=>?_;have T:=(t1.trans t2).trans t3;exact gD (X:=XL L) x (hE.stp T) r3 rfl v3 e3 λJ4 s4 t4 r4=>q _ _ _ (T.trans t4) r4 rfl
theorem wq(D:Gd G Cxt)(O:ba G d lv){o i:PExpr}{op:Operator}{e:PExpr}{p pos:Pos}{fl:Fl}{Q:Flow->Shared->Prop}(hR:Rm d A)(hE:ag ae fc J S.next L)(r:SR G J S s L)(h:ud Cxt lv fc o i op e S=some (fl,S'))(q:bt G (XL L) L J S s fl S' Q):wpAny (model G.prog G.w) A (exec (.AugAssign (.Subscript o i p) op e pos) ae) Q E s:=by
 have hu:A.units+10<cLine:=by have:=hR.units;exact aW ‹_› (by decide)
 unfold ud at h;refine ao h ?_;clear h;intro ov S1 e1 h;refine bA h ?_;clear h;intro hsl h;refine ao h ?_;clear h;intro iv S2 e2 h;refine dE h ?_;clear h;intro a e3 h;refine ao h ?_;clear h;intro b S3 e4 h;refine dE h ?_;clear h;intro v e5 h;refine an (Option.map_eq_some_iff.mp h) ?_;intro S5 e6 e7;replace q:=bt.cast (congrArg some e7) q;clear e7;refine wpAny_AugAssign_SubscriptAny ?_ (λov iv new=>by induction i using PySem.Expr.casesOn<;>first|rfl|(first|exact ul hsl|cases hsl));refine O.ex e1 hR hE r λJ1 oval s1 t1 r1 v1=>?_;refine O.ex e2 hR (hE.stp t1) r1 λJ2 ival s2 t2 r2 v2=>?_;refine uO (X:=XL L) D r2 hu (v1.stp t2) v2 e3 λJ3 aval s3 t3 r3 v3=>?_;have T3:=(t1.trans t2).trans t3;refine O.ex e4 hR (hE.stp T3) r3 λJ4 bval s4 t4 r4 v4=>?_;refine rO (X:=XL L) r4 (v3.stp t4) v4 e5 λJ5 val s5 t5 r5 v5=>?_;have t35:=t4.trans t5;refine kO (X:=XL L) D r5 hu (((v1.stp t2).stp t3).stp t35) ((v2.stp t3).stp t35) v5 e6 λJ6 s6 t6 r6=>?_;exact q _ _ _ ((T3.trans t35).trans t6) r6 rfl
theorem Rm.mark(h:Rm d A):Rm d (A.mark none):=⟨h.handled,h.depth,h.units⟩
theorem CC(D:Gd G Cxt)(O:ba G d lv){t it:PExpr}{b els:List Stmt}{pos:Pos}{fl:Fl}{Q:Flow->Shared->Prop}(hR:Rm d A)(hE:ag ae fc J S.next L)(r:SR G J S s L)(h:wJ lv fc t it b els S=some (fl,S'))(q:bt G (XL L) L J S s fl S' Q):wpAny (model G.prog G.w) A (exec (.For t it b els pos) ae) Q E s:=by
 unfold wJ at h;refine jT h ?_;clear h;intro e0' h;subst e0';refine ab h ?_;clear h;intro ns h;refine ao h ?_;clear h;intro xs S1 e1 h;refine xE (O.forsI h) ?_;intro ov e2;refine wpAny_For ?_ (λx=>by induction it using PySem.Expr.casesOn<;>first|rfl|(first|exact ai ns|cases ns));refine O.ex e1 hR hE r λJ1 val s1 t1 r1 v1=>?_;refine gF r1 v1 e2 λob hf hI=>?_;have G1:=r1.grow (X:=XL L) (h':=s1.heap.push ob) (tk:=s1.toks) λa o e=>Heap.get?_push_of_some _ e;have fit:s1.heap.get? s1.heap.objs.size=none:=aQ;have fs:s.heap.get? s1.heap.objs.size=none:=by
  induction c:s.heap.get? s1.heap.objs.size using Option.casesOn with
  |none=>rfl
  |some o=>obtain⟨o',e'⟩:=t1.alive _ _ c;rw[fit]at e';exact aa e'
 refine O.fors h (hR.mark) (hE.stp t1) G1.1 hI (λn hn=>?_) ?_ ?_ (t1.trans G1.2) fs ?_
 ·refine xE (r1.hp.lv n hn) ?_;intro o e;exact af e fit
 ·obtain⟨⟨m,⟨o,_,_,e,_⟩,_⟩,_,_⟩:=r1.lc;exact(af e fit).symm
 ·induction c:G.h0.get? s1.heap.objs.size using Option.casesOn with
  |none=>rfl
  |some o=>have:=r1.hp.base _ _ c;rw[fit]at this;exact aa this
 ·exact q
set_option tactic.hygienic true in
theorem BP(D:Gd G Cxt)(O:ba G d lv){x:Stmt}{fl:Fl}{Q:Flow->Shared->Prop}(hc:∀e v S1,hV e=true->lv.ex fc e S=some (v,S1)->∃elt gens sc p lv',e=.ListComp elt gens sc p/\ba G d lv'/\fW lv' fc elt gens sc S=some (v,S1))(hR:Rm d A)(hE:ag ae fc J S.next L)(r:SR G J S s L)(h:A0 Cxt lv fc x S=some (fl,S'))(q:bt G (XL L) L J S s fl S' Q):wpAny (model G.prog G.w) A (exec x ae) Q E s:=by
 induction x using PySem.Stmt.casesOn<;>try((first|exact aa h|cases h);done)
 case Return e pos=>
  unfold A0 at h;dsimp only at h;unfold A1 at h;refine sZ h ?_ ?_<;>clear h
  ·intro e0' h;subst e0';replace q:=bt.cast h q;clear h;exact wpAny_Return_none (q _ _ _ .refl r ⟨_,rfl,rfl⟩)
  ·intro _ e0' h;subst e0';refine ao h ?_;clear h;intro v S1 e1 h;replace q:=bt.cast h q;clear h;exact wpAny_Return_some (O.ex e1 hR hE r λJ1 val s1 t1 r1 v1=>q _ _ _ t1 r1 ⟨_,rfl,v1⟩)
 case Assign ts e pos=>exact ws D O (hc e) hR hE r h q
 case AugAssign t op e pos=>
  unfold A0 at h;dsimp only at h;unfold A2 at h;refine qD h ?_ ?_<;>clear h
  ·intro _ _ e0' h;subst e0';exact ue D O hR hE r h q
  ·intro _ _ _ e0' h;subst e0';exact wq D O hR hE r h q
 case For t it b els pos=>exact CC D O hR hE r h q
 case While t b els pos=>unfold A0 at h;dsimp only at h;refine jT h ?_;clear h;intro e0' h;subst e0';exact wpAny_While (O.whl h hR.mark hE r q)
 case If t a b pos=>
  unfold A0 at h;dsimp only at h;unfold DE at h;refine d8 h ?_ ?_<;>clear h
  ·intro S1 e1 h;refine wpAny_If (O.ts e1 hR hE r λJ1 s1 t1 r1=>?_);rw[if_pos rfl];exact O.sts h hR (hE.stp t1) r1 (q.later t1)
  ·intro S1 e1 h;refine wpAny_If (O.ts e1 hR hE r λJ1 s1 t1 r1=>?_);rw[if_neg Bool.false_ne_true];exact O.sts h hR (hE.stp t1) r1 (q.later t1)
 case Expr e pos=>exact Ay O hR hE r h q
theorem qv{α:Type}:∀{l:List (Str×α)},(l.map (·.1)).Nodup->(l.map (·.1)).filterMap (λn=>(l.lookup n).map (n,·))=l
 |[]=>by intro _;exact rfl
 |(k,v)::r=>by
  intro h;rw[List.map_cons,List.nodup_cons]at h;rw[List.map_cons,List.filterMap_cons];have e1:List.lookup k ((k,v)::r)=some v:=by rw[List.lookup_cons,beq_self_eq_true]
  rw[e1];dsimp only[Option.map_some];congr 1;have e2:∀l:List Str,(∀n∈l,n≠k)->l.filterMap (λn=>(List.lookup n ((k,v)::r)).map (n,·))=l.filterMap (λn=>(r.lookup n).map (n,·)):=by
   intro l;induction l with
   |nil=>intro _;rfl
   |cons n l ih=>
    intro hl;have:(n==k)=false:=by rw[beq_eq_false_iff_ne];exact hl n List.mem_cons_self
    rw[List.filterMap_cons,List.filterMap_cons,List.lookup_cons,this,ih λm hm=>hl m (List.mem_cons_of_mem _ hm)]
  rw[e2 _ λn hn=>by rintro rfl;exact h.1 hn];exact qv h.2
theorem mQ{α:Type}{n:Str}:∀{l:List (Str×α)},n∈l.map (·.1)->(l.lookup n).isNone=false
 |[]=>by intro h;cases h
 |(k,v)::r=>by
  intro h;rw[List.lookup_cons];induction c:n==k using Bool.casesOn with
  |true=>rfl
  |false=>
   rw[beq_eq_false_iff_ne]at c;rcases List.mem_cons.mp h with e|h
   ·exact(c e).elim
   ·exact mQ h
theorem lS{fd:FuncData}{vals:List Value}(hp:cR fd.params=true)(hd:fd.defaults=.none)(hl:fd.params.args.length=vals.length)(hn:(fd.params.args.map (·.arg)).Nodup):bindArgs fd ⟨vals,[]⟩=pure ((fd.params.args.map (·.arg)).zip vals):=by
 have hp':fd.params.posonlyargs=[]/\fd.params.vararg=none/\fd.params.kwonlyargs=[]/\fd.params.kwarg=none:=by unfold cR at hp;refine jy hp ?_;clear hp;intro a b c d hp;exact⟨a,b,c,d⟩
 refine gM hp' ?_;clear hp';intro p1 p2 p3 p4;have hz:((fd.params.args.map (·.arg)).zip vals).map (·.1)=fd.params.args.map (·.arg):=by rw[List.map_fst_zip];rw[List.length_map];exact Nat.le_of_eq ‹_›
 unfold bindArgs;have hs:seqItems? fd.defaults=pure none:=by rw[hd];rfl
 have hmiss:(List.take (vals.length -0) (fd.params.args.map (·.arg))).filter (λn=>(List.lookup n ((fd.params.args.map (·.arg)).zip vals)).isNone)=[]:=by rw[List.filter_eq_nil_iff];intro n hn' q;rw[mQ (by rw[hz];exact List.mem_of_mem_take hn')]at q;exact ai q
 have hb:(fd.params.args.map (·.arg)).filterMap (λn=>(List.lookup n ((fd.params.args.map (·.arg)).zip vals)).map (n,·))=(fd.params.args.map (·.arg)).zip vals:=by have:=qv (l:=(fd.params.args.map (·.arg)).zip vals) (by rw[hz];exact hn);rw[hz]at this;exact this
 simp only[p1,p2,p3,p4,hs,List.map_nil,List.nil_append,List.append_nil,List.forIn_nil,pure_bind,Option.getD_none,List.length_nil,List.length_map,hl,Nat.lt_irrefl,decide_false,Bool.false_and,Bool.false_eq_true,if_false,List.drop_nil];rw[hmiss,if_neg (by decide),List.zip_nil_right,List.forIn_nil,pure_bind,if_neg (by decide),hb]
theorem Hp.grow{h':Heap}{tk:Nat}(x:Hp G J S s.heap)(k:∀a o,s.heap.get? a=some o->h'.get? a=some o):Hp G J S h'/\cT X J S s J S {s with heap:=h',toks:=tk}:=by
 obtain⟨a,b,c,d,f,tk⟩:=x
 exact⟨⟨λn o hn ho=>(a n o hn ho).mono (λ_ _=>rfl) (Nat.le_refl _) (k _) (λa o e _ _=>k a o e),λn hn=>by obtain⟨o,e⟩:=b n hn;exact⟨o,k _ _ e⟩,c,d,λa o e=>k a o (f a o e),tk.trans λa o e _ _=>k a o e⟩,
  ⟨Nat.le_refl _,λ_ _=>rfl,λa o e=>⟨o,k a o e⟩,λn h1 h2=>by exact(aO ‹_› ‹_›).elim,λa o e _ _=>k a o e,λa o e _ _=>k a o e,rfl,rfl,rfl⟩⟩
theorem rI(f:Str×NameKind->List (Str×Addr)->Sem (ForInStep (List (Str×Addr))))(hf:∀name kind cells,f (name,kind) cells=if kind==.cell then(do let a<-alloc {cls:=.type "cell",data:=.cell none};pure (.yield ((name,a)::cells)))else pure (.yield cells)){M:Model}:∀{names:List (Str×NameKind)} {S:St} {cs:List (Str×Nat)} {S':St} {cs':List (Str×Nat)},cK names S cs=(S',cs')->∀{J s cv} {Q:List (Str×Addr)->Shared->Prop},SR G J S s L->ac (wu J S.next) cs cv->(∀J' s' cv',cT (XL L) J S s J' S' s'->SR G J' S' s' L->ac (wu J' S'.next) cs' cv'->Q cv' s')->wpAny M A (forIn names cv f) Q E s:=by
 intro names;induction names with
 |nil=>intro S cs S' cs' h J s cv Q r al q;refine EK h ?_;clear h;intro h1 h2;subst h1;subst h2;rw[List.forIn_nil];exact wpAny_pure (q _ _ _ .refl r al)
 |cons x names ih=>
  obtain⟨x,k⟩:=x;intro S cs S' cs' h J s cv Q r al q;rw[List.forIn_cons,hf];unfold cK at h;induction k using PySem.NameKind.casesOn<;>dsimp only at h<;>try(rw[if_neg (by decide)];exact wpAny_bind (wpAny_pure (ih h r al q)))
  rw[if_pos (by decide)];have new:OR G (dH J S.next s.heap.objs.size) (S.next+1) (s.heap.push {cls:=.type "cell",data:=.cell none}) s.heap.objs.size (.cell none):=⟨none,⟨_,Heap.get?_push_size _ rfl,rfl⟩,rfl⟩
  obtain⟨r1,t1,v1⟩:=r.push (X:=XL L) (tk:=s.toks) new;refine wpAny_bind (wpAny_bind (wpAny_alloc (wpAny_pure ?_)));refine ih h r1 (.cons ⟨rfl,Nat.lt_succ_self _,by rw[aV]⟩ (al.mono λa b z=>⟨z.1,Nat.lt_succ_of_lt z.2.1,by rw[z.2.2,aA z.2.1]⟩)) λJ' s' cv' t2 r2 al2=>?_;exact q _ _ _ (t1.trans t2) r2 al2
noncomputable def ET (G:Gr) (J:Nat->Nat) (nx:Nat) (x:Str×SV) (y:Str×Value):Prop:=x.1=y.1/\VR G J nx x.2 y.2
theorem rN(f:Str×Value->PUnit->Sem (ForInStep PUnit))(hf:∀n v u,f (n,v) u=(do storeName ae n v;pure (.yield ⟨⟩))):∀{bs:List (Str×SV)} {S S':St},eG fc bs S=some S'->∀{J s} {vs:List (Str×Value)} {Q:PUnit->Shared->Prop},ag ae fc J S.next L->SR G J S s L->ac (ET G J S.next) bs vs->cF G (XL L) L J S s S' (Q ())->wpAny (model G.prog G.w) A (forIn vs PUnit.unit f) Q E s:=by
 intro bs;induction bs with
 |nil=>intro S S' h J s vs Q hE r al q;cases al;refine aB h ?_;clear h;intro h1;subst h1;rw[List.forIn_nil];exact wpAny_pure (q _ _ .refl r)
 |cons x bs ih=>obtain⟨x,v⟩:=x;intro S S' h J s vs Q hE r al q;refine ap (au al) ?_;intro q1' vs' q2';subst q2';intro q3' h3;obtain⟨y,val⟩:=q1';obtain⟨h1,h2⟩:=q3';dsimp only at h1;subst h1;refine bf h ?_;clear h;intro S1 e1 h;rw[List.forIn_cons,hf];refine wpAny_bind (wpAny_bind (gD (X:=XL L) x hE r rfl h2 e1 λJ1 s1 t1 r1=>wpAny_pure ?_));exact ih h (hE.stp t1) r1 (h3.mono λa b z=>⟨z.1,z.2.stp t1⟩) (q.later t1)
theorem hF{nx:Nat}:∀{args:List Arg} {vs:List SV} {bs:List (Str×SV)} {vals:List Value},eu args vs=some bs->ac (VR G J nx) vs vals->args.length=vals.length/\ac (ET G J nx) bs ((args.map (·.arg)).zip vals)
 |[],[],bs,_,h,.nil=>by refine aB h ?_;clear h;intro h1;subst h1;exact⟨rfl,.nil⟩
 |[],_::_,bs,_,h,_=>by exact aa h
 |_::_,[],bs,_,h,_=>by exact aa h
 |a::args,v::vs,bs,val::vals,h,.cons h1 h2=>by refine an (Option.map_eq_some_iff.mp h) ?_;intro bs' e q1';subst q1';refine xA (hF e h2) ?_;intro a1 a2;exact⟨by rw[List.length_cons,List.length_cons,a1],.cons ⟨rfl,h1⟩ a2⟩
noncomputable def g0 (G:Gr) (J:Nat->Nat) (S:St) (s:Shared) (v:SV) (S':St) (Q:Value->Shared->Prop):Prop:=∀J' val s',cT (λ_=>False) J S s J' S' s'->Hp G J' S' s'.heap->S'.loc=S.loc->VR G J' S'.next v val->Q val s'
theorem g0.cast{G:Gr}{J:Nat->Nat}{S S' S'':St}{s:Shared}{v u:SV}{Q:Value->Shared->Prop}(h:some (v,S')=some (u,S''))(q:g0 G J S s u S'' Q):g0 G J S s v S' Q:=by refine gS h ?_;clear h;intro h1 h2;subst h1;subst h2;exact q
structure Dn (d:Nat) (A:Around):Prop where
 handled:A.handled=none
 depth:A.depth+3*d+11<recursionLimit
 units:A.units+12*d+63<cLine
set_option tactic.hygienic true in
theorem lP(D:Gd G Cxt)(O:ba G d lc){a:Nat}{vs:List SV}{v:SV}{vals:List Value}{R:Result->Shared->Prop}(hR:Dn d A)(hp:Hp G J S s.heap)(hv:ac (VR G J S.next) vs vals)(h:fY Cxt lc a vs S=some (v,S'))(q:g0 G J S s v S' (λval s'=>R (.ok (.ret val)) s')):codeAny (model G.prog G.w) A (.call (.ref a) ⟨vals,[]⟩) R s:=by
 unfold fY at h;refine eT h ?_;clear h;intro f e1 h;have F:=D.fn a f e1;refine gW h ?_;clear h;intro binds c1 c2 c3 h;split at h;rename_i S1 cs e2;refine bf h ?_;clear h;intro S2 e3 h;refine gX h ?_;clear h;intro b hb h;refine an F.obj ?_;intro o ho hdata;refine xA (hF c3 hv) ?_;intro z1 z2;have hroom:A.depth<recursionLimit:=by have:=hR.depth;lia
 refine codeAny_call_function hroom (hp.base _ _ ho) hdata F.co c2 hb (F.cd.keeps hp.base) ?_;rw[lS c1 F.dflt z1 F.nodup,F.clos];refine wpAny_pure ?_;simp only[newFunctionEnv,Option.isSome_none,Bool.false_eq_true,if_false];refine wpAny_bind (wpAny_alloc ?_);have k0:∀a o,s.heap.get? a=some o->(s.heap.push {cls:=.type "frame",data:=.dict #[]}).get? a=some o:=λa o e=>Heap.get?_push_of_some _ e;obtain⟨uS,t0⟩:=hp.grow (X:=XL s.heap.objs.size) (tk:=s.toks) k0;have fL:s.heap.get? s.heap.objs.size=none:=aQ;have fb:G.h0.get? s.heap.objs.size=none:=by
  induction c:G.h0.get? s.heap.objs.size using Option.casesOn with
  |none=>rfl
  |some o=>have:=hp.base _ _ c;rw[fL]at this;exact aa this
 have fn:∀n,n<S.next->J n≠s.heap.objs.size:=λn hn=>by refine xE (hp.lv n hn) ?_;intro o e;exact af e fL
 have r0:SR G J {S with loc:=[]} {s with heap:=s.heap.push {cls:=.type "frame",data:=.dict #[]}} s.heap.objs.size:=
  ⟨uS.cong rfl rfl,⟨⟨_,Heap.Ns.new s.heap (.type "frame"),λx v hx=>(by exact aa hx)⟩,fb,fn⟩⟩
 refine wpAny_bind (rI _ (λname kind cells=>by induction hkc:kind==NameKind.cell using Bool.casesOn<;>simp[hkc]) e2 r0 .nil λJ1 s1 cv t1 r1 al1=>?_)
 have hE:ag (newEnv f.scope s.heap.objs.size f.globals cv (f.qualname++".<locals>.") (some a) f.code none f.builtins) ⟨f.scope.names,cs⟩ J1 S1.next s.heap.objs.size:=
  ⟨F.kind,rfl,rfl,F.glob,F.bi,λx n e=>wu.look al1 e⟩
 have z3:=z2.mono (R':=ET G J1 S1.next) λx y z=>⟨z.1,z.2.mono t1.ext t1.le⟩
 refine wpAny_bind (rN (ae:=newEnv f.scope s.heap.objs.size f.globals cv (f.qualname++".<locals>.") (some a) f.code none f.builtins) _ (λ_ _ _=>rfl) e3 hE r1 z3 λJ2 s2 t2 r2=>wpAny_pure ?_);refine⟨D.lim.keeps r2.hp.base,codeAny_func ?_⟩
 have hR':Rm d (A.deeper (newEnv f.scope s.heap.objs.size f.globals cv (f.qualname++".<locals>.") (some a) f.code none f.builtins)):=
  ⟨hR.handled,by have:=hR.depth;show A.depth+1+_+_<_;lia,by have:=hR.units;rw[Around.deeper_units];lia⟩
 induction e4:lc.sts ⟨f.scope.names,cs⟩ b S2 using Option.casesOn with
 |none=>rw[e4]at h;exact aa h
 |some x4=>
 obtain⟨fl,S3⟩:=x4;rw[e4]at h;refine O.sts e4 hR' (hE.stp t2) r2 λJ3 fv s3 t3 r3 v3=>?_;have TX:cT (XL s.heap.objs.size) J S s J3 S3 s3:=t0.trans (((t1.trans (t2.trans t3))).cong rfl rfl);have T:cT (λ_=>False) J S s J3 S3 s3:=TX.sub λa h=>.inr (by subst h;exact fL);induction fl using Fl.casesOn with
 |ret u=>refine an v3 ?_;clear v3;intro val q1';subst q1';intro v4;replace q:=g0.cast h q;clear h;exact q _ _ _ (T.cong rfl rfl) (r3.hp.cong rfl rfl) rfl v4
 |next=>subst v3;replace q:=g0.cast h q;clear h;exact q _ _ _ (T.cong rfl rfl) (r3.hp.cong rfl rfl) rfl rfl
theorem Hp.alloc{h':Heap}{tk:Nat}{o:SO}{a:Nat}(x:Hp G J S s.heap)(k:∀b ob,s.heap.get? b=some ob->h'.get? b=some ob)(ha:s.heap.get? a=none)(ho:OR G (dH J S.next a) (S.next+1) h' a o):Hp G (dH J S.next a) (S.new o).2 h'/\cT X J S s (dH J S.next a) (S.new o).2 {s with heap:=h',toks:=tk}/\VR G (dH J S.next a) (S.new o).2.next (S.new o).1 (.ref a):=by
 obtain⟨x1,x2,x3,x4,x5,x6⟩:=x
 have fr:∀n,S.next<=n->n<S.next+1->s.heap.get? (dH J S.next a n)=none:=λn h1 h2=>by
  have:n=S.next:=by lia
  subst this;rw[aV];exact ha
 refine⟨⟨?_,?_,?_,?_,λa o e=>k a o (x5 a o e),x6.trans λa o e _ _=>k a o e⟩,⟨Nat.le_succ _,λn hn=>aA hn,λa o e=>⟨o,k a o e⟩,fr,λa o e _ _=>k a o e,λa o e _ _=>k a o e,rfl,rfl,rfl⟩,?_⟩
 ·intro n ob hn hob;show OR G _ (S.next+1) h' _ _;rcases Tr.get_put hob with⟨rfl,rfl⟩|⟨h1,h2⟩
  ·rw[aV];exact ho
  ·have hn':n<S.next+1:=hn;have h3:n<S.next:=by exact aN ‹_› ‹_›
   rw[aA h3];exact(x1 n ob h3 h2).mono (λm hm=>aA hm) (Nat.le_succ _) (k _) λa o e _ _=>k a o e
 ·intro n hn;have hn':n<S.next+1:=hn;show∃ob,h'.get? (dH J S.next a n)=some ob;by_cases h:n=S.next
  ·subst h;rw[aV];exact ho.alive
  ·have h3:n<S.next:=by exact aN ‹_› ‹_›
   rw[aA h3];refine xE (x2 n h3) ?_;intro ob e;exact⟨ob,k _ _ e⟩
 ·intro m n hm hn e;have hm':m<S.next+1:=hm;have hn':n<S.next+1:=hn;by_cases h:m=S.next
  ·by_cases h':n=S.next
   ·lia
   ·have h3:n<S.next:=by exact aN ‹_› ‹_›
    subst h;rw[aV,aA h3]at e;refine xE (x2 n h3) ?_;intro ob e';exact absurd e.symm (af e' ha)
  ·have h4:m<S.next:=by exact aN ‹_› ‹_›
   by_cases h':n=S.next
   ·subst h';rw[aV,aA h4]at e;refine xE (x2 m h4) ?_;intro ob e';exact absurd e (af e' ha)
   ·have h3:n<S.next:=by exact aN ‹_› ‹_›
    rw[aA h3,aA h4]at e;exact x3 m n h4 h3 e
 ·intro n hn;have hn':n<S.next+1:=hn;by_cases h:n=S.next
  ·subst h;rw[aV];induction c:G.h0.get? a using Option.casesOn with
   |none=>rfl
   |some ob=>have:=x5 a ob c;rw[ha]at this;exact aa this
  ·have h3:n<S.next:=by exact aN ‹_› ‹_›
   rw[aA h3];exact x4 n h3
 ·exact⟨Nat.lt_succ_self _,by show Value.ref a=.ref (dH J S.next a S.next);rw[aV]⟩
structure Tk (G:Gr) (X:Cx):Prop where
 keep:keepIn G.K (.ref X.take)=true
 call:∀{w:SV} {n:Int} {S:St} {v:SV} {S':St},kL X S w n=some (v,S')->∀{A:Around} {E:Value->Shared->Prop} {J:Nat->Nat} {s:Shared} {vals:List Value} {Q:Value->Shared->Prop},Dn 0 A->Hp G J S s.heap->ac (VR G J S.next) [w,.int n] vals->
  g0 G J S s v S' Q->wpAny (model G.prog G.w) A (call (.ref X.take) vals) Q E s
theorem Rm.call(h:Rm (d+1) A):Dn d A:=⟨h.handled,by have:=h.depth;lia,by have:=h.units;lia⟩
theorem Dn.zero(h:Dn d A):Dn 0 A:=⟨h.handled,by have:=h.depth;exact aW ‹_› (by decide),by have:=h.units;exact aW ‹_› (by decide)⟩
theorem jf(A:Around)(C:Addr)(vals:List Value):(A.under (.builtin "type.__call__" ⟨.ref C::vals,[]⟩)).depth=A.depth+1:=rfl
theorem xO:xP=("__init__":Str):=by decide+kernel
theorem yQ(D:Gd G Cxt)(T:Tk G Cxt)(O:ba G d lc){a:Nat}{vs:List SV}{v:SV}{vals:List Value}{Q:Value->Shared->Prop}(h:jc Cxt lc a vs S=some (v,S'))(hR:Rm (d+1) A)(hp:Hp G J S s.heap)(hv:ac (VR G J S.next) vs vals)(q:g0 G J S s v S' Q):wpAny (model G.prog G.w) A (call (.ref a) vals) Q E s:=by
 unfold jc at h;refine ah h ?_ ?_<;>clear h
 ·intro c h;have c:=Nat.eq_of_beq_eq_true c;subst c;refine j0 h ?_;clear h;intro _ _ e0' h;subst e0';exact T.call h hR.call.zero hp hv q
 ·intro _ h;refine ah h ?_ ?_<;>clear h
  ·intro hcls h;refine bU h ?_;clear h;intro f hm h;dsimp only at h;refine jZ h ?_;clear h;intro S2 e h;replace q:=g0.cast h q;clear h;refine gM (D.meth a xP f hm) ?_;intro m1 m2 m3 m4;rw[xO]at m2;have kin:G.K.In s.heap:=λb ob e=>hp.base _ _ (D.kin b ob e);obtain⟨hh,g,dr,t,os⟩:=s;refine wpAny_call (make_core (makes_of kin (D.cls a hcls).1) (looks_findIn kin m2) (λself=>bind_fn kin self m3) (.inl rfl) ?_)
   have new1:OR G (dH J S.next hh.objs.size) (S.next+1) (hh.push emptyDict) hh.objs.size (.sd []):=
    ⟨[],fj ⟨_,_,Heap.get?_push_size _ rfl,⟨rfl,rfl,rfl⟩,rfl⟩,.nil⟩
   obtain⟨p1,t1,v1⟩:=Hp.alloc (X:=λ_=>False) (s:=⟨hh,g,dr,t,os⟩) (tk:=t) hp (λb ob e=>Heap.get?_push_of_some _ e) aQ new1;have hx:((hh.push emptyDict).push (instObj a hh.objs.size)).get? (hh.objs.size+1)=some (instObj a hh.objs.size):=by have:=Heap.get?_push_size (hh.push emptyDict) (o:=instObj a hh.objs.size) rfl;rw[Heap.size_push]at this;exact this
   have new2:OR G (dH (dH J S.next hh.objs.size) (S.next+1) (hh.objs.size+1)) (S.next+1+1) ((hh.push emptyDict).push (instObj a hh.objs.size)) (hh.objs.size+1) (.inst a S.next):=
    ⟨by exact Nat.le_succ _,by rw[aA (Nat.lt_succ_self _),aV];exact hx⟩
   obtain⟨p2,t2,v2⟩:=Hp.alloc (X:=λ_=>False) (S:=(S.new (.sd [])).2) (s:=⟨hh.push emptyDict,g,dr,t,os⟩) (tk:=t) p1 (λb ob e=>Heap.get?_push_of_some _ e) (by
    have:(hh.push emptyDict).get? (hh.push emptyDict).objs.size=none:=aQ
    rw[Heap.size_push]at this;exact this) new2
   refine lP D O (hR:=⟨hR.handled,by rw[jf];have:=hR.depth;lia,by rw[units_under_make];have:=hR.units;lia⟩) p2 (vals:=.ref (hh.objs.size+1)::vals) (.cons v2 (hv.mono λx y z=>(z.mono t1.ext t1.le).mono t2.ext t2.le)) e λJ' val s' t3 p3 eloc v3=>?_;subst v3;refine⟨rfl,?_⟩
   exact q _ _ _ ((t1.trans t2).trans t3) p3 eloc ⟨Nat.lt_of_lt_of_le (by show S.next+1<S.next+1+1;exact Nat.lt_succ_self _) t3.le,by
    rw[t3.ext _ (by show S.next+1<S.next+1+1;exact Nat.lt_succ_self _)];exact v2.2⟩
  ·intro _ h;refine wpAny_call (lP D O hR.call hp hv h λJ' val s' a b c e=>q _ _ _ a b c e)
theorem ua(D:Gd G Cxt)(T:Tk G Cxt){a:Nat}{vs:List SV}{r:SV×St}(h:jc Cxt lc a vs S=some r):keepIn G.K (.ref a)=true:=by
 unfold jc at h;refine ah h ?_ ?_<;>clear h
 ·intro c h;have c:=Nat.eq_of_beq_eq_true c;subst c;exact T.keep
 ·intro _ h;refine ah h ?_ ?_<;>clear h
  ·intro hcls h;exact(D.cls a hcls).2
  ·intro _ h;unfold fY at h;refine eT h ?_;clear h;intro f e1 h;exact(D.fn a f e1).keep
theorem uF(d:Nat):ba G d Lv.no where
 ex:=λh=>by exact aa h
 ts:=λh=>by exact aa h
 st:=λh=>by exact aa h
 sts:=λh=>by exact aa h
 call:=λh=>by exact aa h
 keep:=λh=>by exact aa h
 fors:=λh=>by exact aa h
 whl:=λh=>by exact aa h
 comp:=λh=>by exact aa h
 forsI:=λh=>by exact aa h
 compI:=λh=>by exact aa h
theorem CA{t:PExpr}{xs:SV}{i:Nat}{b:List Stmt}{r:Fl×St}(h:rt Cxt lv fc t xs i b S=some r):∃ov,bI S xs i=some ov:=by
 unfold rt at h;induction e:bI S xs i using Option.casesOn with
 |none=>rw[e]at h;exact aa h
 |some ov=>exact⟨ov,rfl⟩
theorem CS{out:FC}{t elt:PExpr}{ifs:List PExpr}{xs:SV}{i n:Nat}{r:St}(h:rH Cxt lv fc out t ifs elt xs i n S=some r):∃ov,bI S xs i=some ov:=by
 unfold rH at h;induction e:bI S xs i using Option.casesOn with
 |none=>rw[e]at h;exact aa h
 |some ov=>exact⟨ov,rfl⟩
theorem vp{e:PExpr}{v:SV}{S1:St}(hc:hV e=true)(h:Bq Cxt lv fc e S=some (v,S1)):∃elt gens sc p,e=.ListComp elt gens sc p/\fW lv fc elt gens sc S=some (v,S1):=by
 induction e using PySem.Expr.casesOn<;>try((first|exact ai hc|cases hc);done)
 ·exact⟨_,_,_,_,rfl,h⟩
 ·exact aa h
 ·exact aa h
theorem oi(D:Gd G Cxt){d:Nat}{lc:Lv}(hcall:∀{a:Nat} {vs:List SV} {S:St} {v:SV} {S':St},jc Cxt lc a vs S=some (v,S')->∀{A:Around} {E:Value->Shared->Prop} {J:Nat->Nat} {s:Shared} {vals:List Value} {Q:Value->Shared->Prop},Rm d A->Hp G J S s.heap->ac (VR G J S.next) vs vals->g0 G J S s v S' Q->wpAny (model G.prog G.w) A (call (.ref a) vals) Q E s)(hkeep:∀{a:Nat} {vs:List SV} {S:St} {r:SV×St},jc Cxt lc a vs S=some r->keepIn G.K (.ref a)=true):∀n,ba G d (eO Cxt lc n)/\∀{fc:FC} {e:PExpr} {v:SV} {S S1:St},hV e=true->(eO Cxt lc n).ex fc e S=some (v,S1)->∃elt gens sc p lv',e=.ListComp elt gens sc p/\ba G d lv'/\fW lv' fc elt gens sc S=some (v,S1)
 |0=>⟨uF _,λ_ h=>by exact aa h⟩
 |n+1=>by
  refine xA (oi D hcall hkeep n) ?_;intro ih ihc;refine⟨?_,λhc h=>?_⟩
  ·exact{
    ex:=by intro fc e S v S' h A E ae J s L Q hR hE r q;exact we D ih hR hE r h q
    ts:=by intro fc e S b S' h A E ae J s L Q hR hE r q;exact BG D ih hR hE r h q
    st:=by intro fc e S fl S' h A E ae J s L Q hR hE r q;exact BP D ih (λe v S1 hc h=>ihc hc h) hR hE r h q
    sts:=by intro fc b S fl S' h A E ae J s L Q hR hE r q;exact uo ih h hR hE r q
    call:=by intro a vs S v S' h A E J s vals Q hR hp hv q;exact hcall h hR hp hv q
    keep:=by intro a vs S r h;exact hkeep h
    fors:=by intro fc t xs i b S fl S' h A ae J s L it J0 S0 s0 R hR hE r hI hn hL hb TT h0 q;exact yo D ih h hR hE r hI hn hL hb TT h0 q
    whl:=by intro fc t b S fl S' h A ae J s L R hR hE r q;exact zn ih hR hE r h q
    comp:=by intro fc out t ifs elt xs i n S S' h A ae J s L it J0 S0 s0 iter scope pos R hR hE r hI hn hL hb hnn TT h0 q;exact yN D ih h hR hE r hI hn hL hb hnn TT h0 q
    forsI:=λh=>CA h
    compI:=λh=>CS h}
  ·refine BB (vp hc h) ?_;intro elt gens sc p e1 e2;exact⟨elt,gens,sc,p,_,e1,ih,e2⟩
theorem sR(D:Gd G Cxt)(T:Tk G Cxt)(O:ba G d lc)(n:Nat):ba G (d+1) (eO Cxt lc n):=
 (oi D (by intro a vs S v S' h A E J s vals Q hR hp hv q;exact yQ D T O h hR hp hv q) (by intro a vs S r h;exact ua D T h) n).1
theorem pE(D:Gd G Cxt)(T:Tk G Cxt)(n:Nat):∀d,ba G d (rW Cxt n d)
 |0=>uF 0
 |d+1=>sR D T (pE D T n d) n
theorem lQ{a:Nat}{vs:List SV}{r:SV×St}(h:fY Cxt Lv.no a vs S=some r):False:=by unfold fY at h;refine eT h ?_;clear h;intro _ _ h;refine gW h ?_;clear h;intro _ _ _ _ h;split at h;refine bf h ?_;clear h;intro _ _ h;refine gX h ?_;clear h;intro _ _ h;exact aa h
theorem rJ(ht:∀{S w n r},kL Cxt S w n=some r->False){a:Nat}{vs:List SV}{r:SV×St}(h:jc Cxt Lv.no a vs S=some r):False:=by
 unfold jc at h;refine ah h ?_ ?_<;>clear h
 ·intro _ h;refine j0 h ?_;clear h;intro _ _ e0' h;subst e0';exact ht h
 ·intro _ h;refine ah h ?_ ?_<;>clear h
  ·intro _ h;refine bU h ?_;clear h;intro _ _ h;dsimp only at h;refine jZ h ?_;clear h;intro _ e h;exact lQ e
  ·intro _ h;exact lQ h
theorem xC(D:Gd G Cxt)(ht:∀{S w n r},kL Cxt S w n=some r->False)(n:Nat):ba G 0 (eO Cxt Lv.no n):=
 (oi D (by intro a vs S v S' h;exact(rJ ht h).elim) (by intro a vs S r h;exact(rJ ht h).elim) n).1
set_option tactic.hygienic true
noncomputable def fnA:List Nat:=[21,35,81,88,95,109,116,123,130,137,144,151,158,165,172,179,186,193,200,207,214,221,228,235,249,270,291,305,312,319,326,333,340,347,354,361,368,375,382,389,403,424,431,438,445,468,489,496,503,510,517,524,531,545,559,566,573,580,587,601,608,613,629,643,650,657,662,669,676,683,690,695,700,705,712,719,726,733,740,747,754,759,766,773,778,785,792,799,806,813,820,827,834,841,848,853]
noncomputable def clA:List Nat:=[38,37,51,50,63,62,98,97,252,251,273,272,294,293,406,405,448,447,471,470,534,533,590,589,632,631]
noncomputable def kA:List Nat:=clA++fnA
noncomputable def KK (P:Params):Frag:=kA.filterMap λa=>((gP P).get a).map λo=>(a,o)
noncomputable def qw (P:Params) (a:Nat):Option Obj:=match Nat.blt a 854 with
 |true=>(gP P).get a
 |false=>none
noncomputable def XX (P:Params) (q:io):Cx:=Fk (qw P) q
noncomputable def im (o:Obj):Bool:=match o.data with
 |.freed=>false
 |_=>true
theorem jB{P:Params}{a:Nat}{o:Obj}(h:a<854)(g:(gP P).get a=some o)(l:im o=true):(H1 P).get? a=some o:=by unfold H1;rw[abs_get h g];obtain⟨c,d,dt,sl⟩:=o;induction dt using PySem.Data.casesOn<;>first|rfl|(first|exact ai l|cases l)
theorem xM(P:Params):(kA.all λa=>Nat.blt a 854&&(match(gP P).get a with|some o=>im o|none=>true))=true:=by kernel_rfl!
theorem sS{P:Params}:∀{l:List Nat} {a:Nat} {o:Obj},(l.filterMap λa=>((gP P).get a).map λo=>(a,o)).lookup a=some o->a∈l/\(gP P).get a=some o
 |[]=>by rename_i a o;intro h;exact aa h
 |b::l=>by
  rename_i a o;intro h;rw[List.filterMap_cons]at h;induction e:(gP P).get b using Option.casesOn with
  |none=>rw[e]at h;obtain⟨x,y⟩:=sS (l:=l) h;exact⟨List.mem_cons_of_mem _ x,y⟩
  |some ob=>
   rw[e]at h;dsimp only[Option.map_some]at h;rw[List.lookup_cons]at h;induction c:a==b using Bool.casesOn with
   |true=>rw[c]at h;refine aB h ?_;clear h;intro h1;subst h1;have:=beq_iff_eq.mp c;subst this;exact⟨List.mem_cons_self,e⟩
   |false=>rw[c]at h;obtain⟨x,y⟩:=sS (l:=l) h;exact⟨List.mem_cons_of_mem _ x,y⟩
theorem D3(P:Params):(KK P).In (H1 P):=by intro a o e;obtain⟨x,y⟩:=sS (l:=kA) e;have:=List.all_eq_true.mp (xM P) a x;rw[Bool.and_eq_true,y]at this;exact jB (by simpa using this.1) y this.2
noncomputable def A9 (K:Frag) (C:Addr) (a:Str):Bool:=plainGet K C a&&hasDictIn K C&&(match findIn K (.ref C) a with|some at_=>noGet K at_|none=>false)&&
 findIn K (.ref C) "__setattr__"==some (some (.builtin "object.__setattr__"))&&plainOver K C&&takerIn K C a==some none
theorem oK{P:Prop}{x1:Option (Option PySem.Value)}{f0:(Option PySem.Value)->Bool}(h:(match x1 with|Option.some a1=>f0 a1|Option.none=>false)=true)(k0:∀a1,x1=Option.some a1->f0 a1=true->P):P:=by
 obtain⟨z1,e1⟩:∃z,x1=z:=⟨_,rfl⟩
 rw[e1]at h;induction z1 using Option.casesOn with
 |some y1'0=>exact k0 _ e1 h
 |_=>exact ai h
noncomputable def xn (K:Frag) (C:Addr) (a:Str) (f:Nat):Bool:=plainGet K C a&&findIn K (.ref C) a==some (some (.ref f))&&typeIn K (.ref f)==some (.type "function")&&keepIn K (.ref f)
theorem zT(P:Params):(Cd.all λx=>x.2.all λa=>A9 (KK P) x.1 a)=true:=by kernel_rfl!
theorem xm(P:Params):(mO.all λx=>x.2.all λy=>xn (KK P) x.1 y.1 y.2)=true:=by kernel_rfl!
theorem AL(P:Params):(mO.all λx=>makesIn (KK P) x.1&&keepIn (KK P) (.ref x.1))=true:=by kernel_rfl!
noncomputable def hM:List Str->Bool
 |[]=>true
 |x::r=>!tE x r&&hM r
theorem lF{a:Str}:∀{l:List Str},tE a l=true↔a∈l
 |[]=>by simp[tE]
 |x::r=>by
  unfold tE;induction c:cq x a using Bool.casesOn with
  |true=>rw[aI.mp c];simp
  |false=>have:=dI c;dsimp only;rw[lF,List.mem_cons];exact⟨.inr,λh=>h.elim (λe=>(this e.symm).elim) id⟩
theorem jm:∀{l:List Str},hM l=true->l.Nodup
 |[]=>by intro _;exact List.nodup_nil
 |x::r=>by intro h;unfold hM at h;rw[Bool.and_eq_true,Bool.not_eq_true']at h;refine List.nodup_cons.mpr ⟨λq=>?_,jm h.2⟩;rw[lF.mpr q]at h;cases h.1
noncomputable def Bg:ScopeKind->Bool
 |.function=>true
 |_=>false
noncomputable def uP:Value->Bool
 |.none=>true
 |_=>false
noncomputable def DT {α:Type}:List α->Bool
 |[]=>true
 |_=>false
noncomputable def A7 (o:Obj) (q:Str):Bool:=match o.data with
 |.fields vs=>match vs.toList with
  |_::.str x _::_=>cq x q
  |_=>false
 |_=>false
theorem oE{P:Prop}{x1:PySem.Data}{f0:(Array PySem.Value)->Bool}(h:(match x1 with|PySem.Data.fields a1=>f0 a1|a1=>false)=true)(k0:∀a1,x1=PySem.Data.fields a1->f0 a1=true->P):P:=by
 obtain⟨z1,e1⟩:∃z,x1=z:=⟨_,rfl⟩
 rw[e1]at h;induction z1 using PySem.Data.casesOn with
 |fields y1'0=>exact k0 _ e1 h
 |_=>exact ai h
theorem oG{P:Prop}{x1:List PySem.Value}{f0:(PySem.Value)->(PySem.Str)->(PySem.Tok)->(List PySem.Value)->Bool}(h:(match x1 with|a1::PySem.Value.str a2 a3::a4=>f0 a1 a2 a3 a4|a1=>false)=true)(k0:∀a1 a2 a3 a4,x1=a1::PySem.Value.str a2 a3::a4->f0 a1 a2 a3 a4=true->P):P:=by
 obtain⟨z1,e1⟩:∃z,x1=z:=⟨_,rfl⟩
 rw[e1]at h;induction z1 using List.casesOn with
 |cons y1'0 y1'1=>
  induction y1'1 using List.casesOn with
  |cons y2'0 y2'1=>
   induction y2'0 using PySem.Value.casesOn with
   |str y3'0 y3'1=>exact k0 _ _ _ _ e1 h
   |_=>exact ai h
  |_=>exact ai h
 |_=>exact ai h
noncomputable def Bt (T:BT) (f:FuncData):Bool:=match f.code with
 |.ref c=>Nat.blt c 854&&(match T.get c with
  |some o=>A7 o f.qualname
  |none=>false)
 |_=>false
noncomputable def Bn (T:BT) (K:Frag) (a:Nat) (f:FuncData):Bool:=!f.scope.isCoroutine&&Bg f.scope.kind&&DT f.closure&&Nat.beq f.globals mainGlobals&&Nat.beq f.builtins builtinsNs&&Bt T f&&uP f.defaults&&hM (f.params.args.map (·.arg))&&keepIn K (.ref a)
noncomputable def Ee (T:BT) (K:Frag) (a:Nat):Bool:=match T.get a with
 |some ⟨_,_,.func f,_⟩=>match f.code with
  |.ref _=>Bn T K a f
  |_=>true
 |_=>true
theorem CD(P:Params):((List.range 854).all λa=>Ee (gP P) (KK P) a)=true:=by kernel_rfl!
noncomputable def mE (v:SV) (x:Value):Bool:=match v,x with
 |.top a,.ref b=>Nat.beq a b
 |.int i,.int j _=>d7 i j
 |.str s,.str t _=>cq s t
 |.bi b,x=>x==nz b
 |_,_=>false
theorem ot{P:Prop}{x1:Mine.SV}{x2:PySem.Value}{f0:(Nat)->(PySem.Addr)->Bool}{f1:(Int)->(Int)->(PySem.Tok)->Bool}{f2:(PySem.Str)->(PySem.Str)->(PySem.Tok)->Bool}{f3:(Mine.Bi)->(PySem.Value)->Bool}(h:(match x1,x2 with|Mine.SV.top a1,PySem.Value.ref a2=>f0 a1 a2|Mine.SV.int a1,PySem.Value.int a2 a3=>f1 a1 a2 a3|Mine.SV.str a1,PySem.Value.str a2 a3=>f2 a1 a2 a3|Mine.SV.bi a1,a2=>f3 a1 a2|a1,a2=>false)=true)(k0:∀a1 a2,x1=Mine.SV.top a1->x2=PySem.Value.ref a2->f0 a1 a2=true->P)(k1:∀a1 a2 a3,x1=Mine.SV.int a1->x2=PySem.Value.int a2 a3->f1 a1 a2 a3=true->P)(k2:∀a1 a2 a3,x1=Mine.SV.str a1->x2=PySem.Value.str a2 a3->f2 a1 a2 a3=true->P)(k3:∀a1 a2,x1=Mine.SV.bi a1->x2=a2->f3 a1 a2=true->P):P:=by
 obtain⟨z1,e1⟩:∃z,x1=z:=⟨_,rfl⟩
 obtain⟨z2,e2⟩:∃z,x2=z:=⟨_,rfl⟩
 rw[e1,e2]at h;induction z1 using SV.casesOn with
 |int y1'0=>
  induction z2 using PySem.Value.casesOn with
  |int y2'0 y2'1=>exact k1 _ _ _ e1 e2 h
  |_=>exact ai h
 |str y1'0=>
  induction z2 using PySem.Value.casesOn with
  |str y2'0 y2'1=>exact k2 _ _ _ e1 e2 h
  |_=>exact ai h
 |top y1'0=>
  induction z2 using PySem.Value.casesOn with
  |ref y2'0=>exact k0 _ _ e1 e2 h
  |_=>exact ai h
 |bi y1'0=>exact k3 _ _ e1 e2 h
 |_=>exact ai h
theorem iB{v:SV}{x:Value}(h:mE v x=true)(G:Gr)(J:Nat->Nat)(nx:Nat):VR G J nx v x:=by
 unfold mE at h;refine ot h ?_ ?_ ?_ ?_<;>clear h
 ·intro _ _ e0' e1' h;subst e0';subst e1';rw[Nat.eq_of_beq_eq_true h];rfl
 ·intro _ _ _ e0' e1' h;subst e0';subst e1';rw[bl.mp h];exact⟨_,rfl⟩
 ·intro _ _ _ e0' e1' h;subst e0';subst e1';rw[aI.mp h];exact⟨_,rfl⟩
 ·intro _ _ e0' e1' h;subst e0';subst e1';exact eq_of_beq h
noncomputable def NT.list {α:Type}:NT α->List (Str×α)
 |.nil=>[]
 |.node _ x v l r=>(x,v)::(l.list++r.list)
theorem NT.get_mem{α:Type}{k:Nat}{x:Str}{v:α}:∀{t:NT α},t.get k x=some v->(x,v)∈t.list
 |.nil=>by intro h;exact aa h
 |.node k' x' v' l r=>by
  intro h;refine j1 h ?_ ?_<;>clear h
  ·intro _ h;refine pn h ?_;clear h;intro c h;refine aB h ?_;clear h;intro h1;subst h1;rw[aI.mp c];exact List.mem_cons_self
  ·intro _ h;refine j1 h ?_ ?_<;>clear h
   ·intro _ h;exact List.mem_cons_of_mem _ (List.mem_append_left _ (NT.get_mem h))
   ·intro _ h;exact List.mem_cons_of_mem _ (List.mem_append_right _ (NT.get_mem h))
noncomputable def lM (T:BT) (a:Nat):Array DictEntry:=match T.get a with
 |some ⟨_,_,.dict es _,_⟩=>es
 |_=>#[]
noncomputable def ya (T:BT) (x:Str) (v:SV):Bool:=match nsFind (lM T mainGlobals) x with
 |some val=>mE v val
 |none=>match nsFind (lM T builtinsNs) x with
  |some val=>mE v val
  |none=>false
theorem oQ{P:Prop}{x1:Option PySem.Value}{f0:(PySem.Value)->Bool}(h:(match x1 with|Option.some a1=>f0 a1|Option.none=>false)=true)(k0:∀a1,x1=Option.some a1->f0 a1=true->P):P:=by
 obtain⟨z1,e1⟩:∃z,x1=z:=⟨_,rfl⟩
 rw[e1]at h;induction z1 using Option.casesOn with
 |some y1'0=>exact k0 _ e1 h
 |_=>exact ai h
theorem qU{P:Prop}{x1:Option PySem.Value}{f0:(PySem.Value)->Bool}{f1:Bool}(h:(match x1 with|Option.some a1=>f0 a1|Option.none=>f1)=true)(k0:∀a1,x1=Option.some a1->f0 a1=true->P)(k1:x1=Option.none->f1=true->P):P:=by
 obtain⟨z1,e1⟩:∃z,x1=z:=⟨_,rfl⟩
 rw[e1]at h;induction z1 using Option.casesOn with
 |none=>exact k1 e1 h
 |some y1'0=>exact k0 _ e1 h
theorem xZ(P:Params):(Ea.list.all λx=>ya (gP P) x.1 x.2)=true:=by kernel_rfl!
noncomputable def yC:List DictEntry->List (SV×SV)->Bool
 |[],[]=>true
 |e::r,(.str k,v)::s=>(match e.key with|.str x _=>cq x k|_=>false)&&mE v e.val&&yC r s
 |_,_=>false
theorem qZ{P:Prop}{x1:PySem.Value}{f0:(PySem.Str)->(PySem.Tok)->Bool}(h:(match x1 with|PySem.Value.str a1 a2=>f0 a1 a2|a1=>false)=true)(k0:∀a1 a2,x1=PySem.Value.str a1 a2->f0 a1 a2=true->P):P:=by
 obtain⟨z1,e1⟩:∃z,x1=z:=⟨_,rfl⟩
 rw[e1]at h;induction z1 using PySem.Value.casesOn with
 |str y1'0 y1'1=>exact k0 _ _ e1 h
 |_=>exact ai h
noncomputable def wi:List DictEntry->List (SV×SV)->Bool
 |[],[]=>true
 |e::r,(.int k,v)::s=>(match e.key with|.int x _=>d7 x k|_=>false)&&mE v e.val&&wi r s
 |_,_=>false
theorem q6{P:Prop}{x1:PySem.Value}{f0:(Int)->(PySem.Tok)->Bool}(h:(match x1 with|PySem.Value.int a1 a2=>f0 a1 a2|a1=>false)=true)(k0:∀a1 a2,x1=PySem.Value.int a1 a2->f0 a1 a2=true->P):P:=by
 obtain⟨z1,e1⟩:∃z,x1=z:=⟨_,rfl⟩
 rw[e1]at h;induction z1 using PySem.Value.casesOn with
 |int y1'0 y1'1=>exact k0 _ _ e1 h
 |_=>exact ai h
noncomputable def gt:SV->Str
 |.str s=>s
 |_=>⟨#[]⟩
noncomputable def hU:SV->Int
 |.int i=>i
 |_=>0
section
variable{prog:Program} {a:Addr} {es:Array DictEntry} {ep:Nat}
theorem uX(G:Gr):∀{l:List DictEntry} {t:List (SV×SV)},yC l t=true->l.map (·.hash)=t.map (λx=>hashStr w (gt x.1))->(∀e∈l,∃k,(strKind prog w).is k e.key=true/\e.hash=(strKind prog w).hash k)/\∃kvs,Pairs (strKind prog w) l kvs/\kvs.map (·.1)=t.map (λx=>gt x.1)/\ac (λ(x:SV×SV) (y:Str×Value)=>x.1=.str y.1/\∀J nx,VR G J nx x.2 y.2) t kvs
 |[],[]=>by intro _ _;exact⟨λe he=>(by cases he),[],.nil,rfl,.nil⟩
 |[],_::_=>by intro h _;exact ai h
 |e::r,[]=>by intro h _;exact ai h
 |e::r,(k,v)::s=>by
  intro h hh;induction k using SV.casesOn<;>try((first|exact ai h|cases h);done)
  rename_i k;replace h:=(Bool.and_eq_true_iff.mp h).imp Bool.and_eq_true_iff.mp id;refine xA h ?_;clear h;intro q1' h3;obtain⟨h1,h2⟩:=q1';rw[List.map_cons,List.map_cons,List.cons.injEq]at hh;refine AW (uX G h3 hh.2) ?_;intro c1 kvs c2 c3 c4;refine qZ h1 ?_;clear h1;intro x t e1 h1;have h1:=aI.mp h1;subst h1;have is:(strKind prog w).is x e.key=true:=by rw[e1];exact iC (G:={G with prog:=prog,w:=w})
  refine⟨λe' he=>?_,(x,e.val)::kvs,.cons is rfl c2,by rw[List.map_cons,List.map_cons,c3];rfl,.cons ⟨rfl,λJ nx=>iB h2 G J nx⟩ c4⟩;rcases List.mem_cons.mp he with rfl|he
  ·exact⟨x,is,hh.1⟩
  ·exact c1 e' he
theorem uY(G:Gr):∀{l:List DictEntry} {t:List (SV×SV)},wi l t=true->l.map (·.hash)=t.map (λx=>hashInt (hU x.1))->(∀e∈l,∃k,(intKind prog w).is k e.key=true/\e.hash=(intKind prog w).hash k)/\∃kvs,Pairs (intKind prog w) l kvs/\kvs.map (·.1)=t.map (λx=>hU x.1)/\ac (λ(x:SV×SV) (y:Int×Value)=>x.1=.int y.1/\∀J nx,VR G J nx x.2 y.2) t kvs
 |[],[]=>by intro _ _;exact⟨λe he=>(by cases he),[],.nil,rfl,.nil⟩
 |[],_::_=>by intro h _;exact ai h
 |e::r,[]=>by intro h _;exact ai h
 |e::r,(k,v)::s=>by
  intro h hh;induction k using SV.casesOn<;>try((first|exact ai h|cases h);done)
  rename_i k;replace h:=(Bool.and_eq_true_iff.mp h).imp Bool.and_eq_true_iff.mp id;refine xA h ?_;clear h;intro q1' h3;obtain⟨h1,h2⟩:=q1';rw[List.map_cons,List.map_cons,List.cons.injEq]at hh;refine AW (uY G h3 hh.2) ?_;intro c1 kvs c2 c3 c4;refine q6 h1 ?_;clear h1;intro x t e1 h1;have h1:=bl.mp h1;subst h1;have is:(intKind prog w).is x e.key=true:=by rw[e1];exact iX (G:={G with prog:=prog,w:=w})
  refine⟨λe' he=>?_,(x,e.val)::kvs,.cons is rfl c2,by rw[List.map_cons,List.map_cons,c3];rfl,.cons ⟨rfl,λJ nx=>iB h2 G J nx⟩ c4⟩;rcases List.mem_cons.mp he with rfl|he
  ·exact⟨x,is,hh.1⟩
  ·exact c1 e' he
end
noncomputable def AU (G:Gr) (a:Nat) (es:List (SV×SV)):Prop:=(∃kvs,G.h0.DictOf (strKind G.prog G.w) a kvs/\ac (λ(x:SV×SV) (y:Str×Value)=>x.1=.str y.1/\∀J nx,VR G J nx x.2 y.2) es kvs)\/
   (∃kvs,G.h0.DictOf (intKind G.prog G.w) a kvs/\ac (λ(x:SV×SV) (y:Int×Value)=>x.1=.int y.1/\∀J nx,VR G J nx x.2 y.2) es kvs)
noncomputable def dK (es:List DictEntry) (ep:Nat):Obj:={cls:=.type "dict",data:=.dict es.toArray ep}
theorem wE{G:Gr}{a:Nat}{l:List DictEntry}{ep:Nat}{t:List (SV×SV)}(ho:G.h0.get? a=some (dK l ep))(h1:yC l t=true)(h2:l.map (·.hash)=t.map (λx=>hashStr G.w (gt x.1)))(h3:hM (t.map λx=>gt x.1)=true):AU G a t:=by obtain⟨c1,kvs,c2,c3,c4⟩:=uX (prog:=G.prog) G h1 h2;exact .inl ⟨kvs,⟨_,l.toArray,ep,ho,⟨rfl,rfl,rfl⟩,rfl,λe he=>c1 e (by simpa using he),c2,by rw[c3];exact jm h3⟩,c4⟩
theorem sj{G:Gr}{a:Nat}{l:List DictEntry}{ep:Nat}{t:List (SV×SV)}(ho:G.h0.get? a=some (dK l ep))(h1:wi l t=true)(h2:l.map (·.hash)=t.map (λx=>hashInt (hU x.1)))(h3:(t.map λx=>hU x.1).Nodup):AU G a t:=by obtain⟨c1,kvs,c2,c3,c4⟩:=uY (prog:=G.prog) G h1 h2;exact .inr ⟨kvs,⟨_,l.toArray,ep,ho,⟨rfl,rfl,rfl⟩,rfl,λe he=>c1 e (by simpa using he),c2,by rw[c3];exact h3⟩,c4⟩
noncomputable def cA (P:Params) (a:Nat):List DictEntry:=(lM (gP P) a).toList
noncomputable def tR (P:Params) (a:Nat):Nat:=match(gP P).get a with
 |some ⟨_,_,.dict _ ep,_⟩=>ep
 |_=>0
noncomputable def gN (a:Nat):List (SV×SV):=(bF Dy a).getD []
theorem BJ(P:Params):(gP P).get 66=some (dK (cA P 66) (tR P 66))/\(gP P).get 67=some (dK (cA P 67) (tR P 67))/\(gP P).get 453=some (dK (cA P 453) (tR P 453))/\(gP P).get 454=some (dK (cA P 454) (tR P 454))/\(gP P).get 614=some (dK (cA P 614) (tR P 614)):=by refine⟨?_,?_,?_,?_,?_⟩<;>kernel_rfl!
theorem BK(P:Params):(wi (cA P 66) (gN 66)&&wi (cA P 67) (gN 67)&&yC (cA P 453) (gN 453)&&yC (cA P 454) (gN 454)&&wi (cA P 614) (gN 614)&&hM ((gN 453).map λx=>gt x.1)&&hM ((gN 454).map λx=>gt x.1))=true:=by kernel_rfl!
theorem zp(w:World):(cA w.params 66).map (·.hash)=(gN 66).map (λx=>hashInt (hU x.1))/\(cA w.params 67).map (·.hash)=(gN 67).map (λx=>hashInt (hU x.1))/\(cA w.params 453).map (·.hash)=(gN 453).map (λx=>hashStr w (gt x.1))/\(cA w.params 454).map (·.hash)=(gN 454).map (λx=>hashStr w (gt x.1))/\(cA w.params 614).map (·.hash)=(gN 614).map (λx=>hashInt (hU x.1)):=by refine⟨?_,?_,?_,?_,?_⟩<;>kernel_rfl!
theorem aP{α:Type}{k:Nat}{v:α}:∀{l:List (Nat×α)},bF l k=some v->(k,v)∈l
 |[]=>by intro h;exact aa h
 |(y,u)::r=>by
  intro h;refine ah h ?_ ?_<;>clear h
  ·intro c h;refine aB h ?_;clear h;intro h1;subst h1;rw[Nat.eq_of_beq_eq_true c];exact List.mem_cons_self
  ·intro _ h;exact List.mem_cons_of_mem _ (aP h)
theorem iT{α:Type}{k:Str}{v:α}:∀{l:List (Str×α)},bE l k=some v->(k,v)∈l
 |[]=>by intro h;exact aa h
 |(y,u)::r=>by
  intro h;refine ah h ?_ ?_<;>clear h
  ·intro c h;refine aB h ?_;clear h;intro h1;subst h1;rw[aI.mp c];exact List.mem_cons_self
  ·intro _ h;exact List.mem_cons_of_mem _ (iT h)
theorem sP{h:Heap}{a:Addr}{m:Str->Option Value}(x:h.Ns a m):h.Ns a (h.nsMap a)/\h.nsMap a=m:=by
 refine fE x ?_;clear x;intro o es ep h1 h2 h3 h4;have e:h.nsMap a=m:=by funext y;unfold Heap.nsMap;rw[h1];dsimp only;rw[h2];exact h4 y
 exact⟨by rw[e];exact⟨o,es,ep,h1,h2,h3,h4⟩,e⟩
theorem jr(P:Params):((match(gP P).get 3 with|some o=>im o&&(match o.data with|.dict _ _=>true|_=>false)|none=>false)&&(match(gP P).get 0 with|some o=>im o&&(match o.data with|.dict _ _=>true|_=>false)|none=>false)&&(match(gP P).get 1 with|some o=>im o|none=>false))=true:=by kernel_rfl!
theorem xh{P:Params}{h:Heap}{a:Nat}(E:∀b o,(H1 P).get? b=some o->h.get? b=some o)(ha:a<854)(hk:(match(gP P).get a with|some o=>im o&&(match o.data with|.dict _ _=>true|_=>false)|none=>false)=true)(x:Str):h.nsMap a x=nsFind (lM (gP P) a) x:=by
 unfold lM Heap.nsMap;induction e:(gP P).get a using Option.casesOn with
 |none=>rw[e]at hk;exact ai hk
 |some o=>rw[e]at hk;dsimp only at hk|-;rw[Bool.and_eq_true]at hk;rw[E _ _ (jB ha e hk.1)];obtain⟨c,d,dt,sl⟩:=o;induction dt using PySem.Data.casesOn<;>first|(cases hk.2;done)|rfl
structure cQ (w:World) (h:Heap):Prop where
 ext:∀b o,(H1 w.params).get? b=some o->h.get? b=some o
 lim:h.NoLimit
 nodig:h.NoDigits
 g:∃m,h.Ns mainGlobals m
 b:∃m,h.Ns builtinsNs m
noncomputable def GG (I:IP) (w:World) (h h1:Heap):Gr:=⟨I,pw,w,h,h1,KK w.params⟩
theorem Ec{w:World}{h h1:Heap}{I:IP}{q:io}(B:cQ w h)(ok:I.Ok)
  (dq:∀o sk r kd,m8 o sk q.dq=some r->KR (GG I w h h1) sk kd->(match r with
   |none=>atKey (I.od o) kd=none
   |some v=>∃p,atKey (I.od o) kd=some p/\∀J nx,VR (GG I w h h1) J nx v p.2))
  (din:∀o sk b kd,gY o sk q.din=some b->KR (GG I w h h1) sk kd->(atKey (I.od o) kd).isSome=b)
  (inq:∀o sk b kd,gY o sk q.inq=some b->KR (GG I w h h1) sk kd->(∀v∈I.ol o,∃a kd',v=.ref a/\cI (ak pw w) h1 kd' a)/\
   (b=true↔∃v∈I.ol o,∃a,v=.ref a/\cI (ak pw w) h1 kd a)):Gd (GG I w h h1) (XX w.params q)where
 ok:=ok
 g:=(sP B.g.choose_spec).1
 b:=(sP B.b.choose_spec).1
 lim:=B.lim
 nodig:=B.nodig
 gl:=by
  intro x v hx
  have hm:=NT.get_mem (t:=Ea) hx
  have hk:=List.all_eq_true.mp (xZ w.params) _ hm
  have mo:=jr w.params
  rw[Bool.and_eq_true,Bool.and_eq_true]at mo
  unfold ya at hk
  dsimp only at hk
  show∃val,(∀J nx,VR (GG I w h h1) J nx v val)/\(h.nsMap mainGlobals x=some val\/(h.nsMap mainGlobals x=none/\h.nsMap builtinsNs x=some val))
  rw[xh (a:=mainGlobals) B.ext (by decide) mo.1.1,xh (a:=builtinsNs) B.ext (by decide) mo.1.2]
  refine qU hk ?_ ?_<;>clear hk
  ·intro val e hk
   exact⟨val,λJ nx=>iB hk _ J nx,.inl e⟩
  ·intro e hk
   refine oQ hk ?_;clear hk;intro val e2 hk
   exact⟨val,λJ nx=>iB hk _ J nx,.inr ⟨e,e2⟩⟩
 big:=by
  have mo:=jr w.params
  rw[Bool.and_eq_true]at mo
  induction e:(gP w.params).get 1 using Option.casesOn with
  |none=>rw[e]at mo;cases mo.2
  |some o=>
   rw[e]at mo
   exact⟨o,B.ext _ _ (jB (by decide) e mo.2)⟩
 kin:=λa o e=>B.ext _ _ (D3 w.params a o e)
 own:=by
  intro C a hx
  have hx:(match bF Cd C with|some l=>tE a l|none=>false)=true:=hx
  split at hx
  ·rename_i l e
   have h1:=List.all_eq_true.mp (zT w.params) _ (aP e)
   have h2:=List.all_eq_true.mp h1 a (lF.mp hx)
   unfold A9 at h2
   simp only[Bool.and_eq_true,beq_iff_eq]at h2
   refine xA h2 ?_;clear h2;intro q1' a6;obtain⟨⟨⟨⟨a1,a2⟩,a3⟩,a4⟩,a5⟩:=q1'
   refine⟨a1,a2,?_,a4,a5,a6⟩
   refine oK a3 ?_;clear a3;intro at_ e2 a3
   exact⟨at_,e2,a3⟩
  ·exact ai hx
 meth:=by
  intro C a f hx
  have hx:(match bF mO C with|some l=>bE l a|none=>none)=some f:=hx
  split at hx
  ·rename_i l e
   have h1:=List.all_eq_true.mp (xm w.params) _ (aP e)
   have h2:=List.all_eq_true.mp h1 _ (iT hx)
   unfold xn at h2
   simp only[Bool.and_eq_true,beq_iff_eq]at h2
   refine xA h2 ?_;clear h2;intro q1' a4;obtain⟨⟨a1,a2⟩,a3⟩:=q1'
   exact⟨a1,a2,a3,a4⟩
  ·exact aa hx
 cls:=by
  intro C hx
  have hx:(match bF mO C with|some _=>true|none=>false)=true:=hx
  split at hx
  ·rename_i l e
   have h1:=List.all_eq_true.mp (AL w.params) _ (aP e)
   rw[Bool.and_eq_true]at h1
   exact h1
  ·exact ai hx
 fn:=by
  intro a f hx
  have hx:(match qw w.params a with|some ⟨_,_,.func f,_⟩=>(match f.code with|.ref _=>some f|_=>none)|_=>none)=some f:=hx
  unfold qw at hx
  induction c:Nat.blt a 854 using Bool.casesOn with
  |false=>rw[c]at hx;exact aa hx
  |true=>
  rw[c]at hx
  dsimp only at hx
  have ha:a<854:=by simpa using c
  have hk:=List.all_eq_true.mp (CD w.params) a (List.mem_range.mpr ha)
  unfold Ee at hk
  split at hx
  ·rename_i c1 c2 f' c4 e
   rw[e]at hk
   dsimp only at hk
   split at hx
   ·rename_i cc ec
    refine aB hx ?_;clear hx;intro h1;subst h1
    rw[ec]at hk
    dsimp only at hk
    unfold Bn at hk
    simp only[Bool.and_eq_true,Bool.not_eq_true']at hk
    refine xA hk ?_;clear hk;intro q1' k9;obtain⟨⟨⟨⟨⟨⟨⟨k1,k2⟩,k3⟩,k4⟩,k5⟩,k6⟩,k7⟩,k8⟩:=q1'
    exact{
     obj:=⟨_,B.ext _ _ (jB ha e rfl),rfl⟩
     co:=k1
     kind:=by unfold Bg at k2;split at k2<;>first|assumption|(first|exact ai k2|cases k2)
     clos:=by unfold DT at k3;split at k3<;>first|assumption|(first|exact ai k3|cases k3)
     glob:=Nat.eq_of_beq_eq_true k4
     bi:=Nat.eq_of_beq_eq_true k5
     cd:=by
      unfold Bt at k6
      rw[ec]at k6
      dsimp only at k6
      rw[Bool.and_eq_true]at k6
      refine xA k6 ?_;clear k6;intro q1 q2
      induction e2:(gP w.params).get cc using Option.casesOn with
      |none=>rw[e2]at q2;exact ai q2
      |some o=>
       rw[e2]at q2
       dsimp only at q2
       unfold A7 at q2
       refine oE q2 ?_;clear q2;intro vs hd q2
       refine oG q2 ?_;clear q2;intro x0 x1 t1 r1 hl q2
       refine⟨cc,o,vs,t1,ec,B.ext _ _ (jB (by simpa using q1) e2 (by unfold im;rw[hd])),hd,?_⟩
       rw[<-Array.getElem?_toList,hl,<-aI.mp q2];rfl
     dflt:=by unfold uP at k7;split at k7<;>first|assumption|(first|exact ai k7|cases k7)
     nodup:=jm k8
     keep:=k9}
   ·exact aa hx
  ·exact aa hx
 td:=by
  intro a es hx
  have hx:bF Dy a=some es:=hx
  have ha:a∈Dy.map (·.1):=List.mem_map.mpr ⟨_,aP hx,rfl⟩
  have ek:Dy.map (·.1)=[66,67,453,454,614]:=rfl
  rw[ek]at ha
  have he:es=gN a:=by unfold gN;rw[hx];rfl
  subst he
  have ent:=BK w.params
  simp only[Bool.and_eq_true,Bool.false_eq_true]at ent
  refine xA ent ?_;clear ent;intro q1' n7;obtain⟨⟨⟨⟨⟨n1,n2⟩,n3⟩,n4⟩,n5⟩,n6⟩:=q1'
  refine jJ (BJ w.params) ?_;intro o1 o2 o3 o4 o5
  refine jJ (zp w) ?_;intro s1 s2 s3 s4 s5
  have up:∀{b:Nat},b<854->(gP w.params).get b=some (dK (cA w.params b) (tR w.params b))->h.get? b=some (dK (cA w.params b) (tR w.params b)):=λhb e=>B.ext _ _ (jB hb e rfl)
  simp only[List.mem_cons,List.not_mem_nil,or_false]at ha
  have done:∀{b:Nat},(b==sysModules)=false->AU (GG I w h h1) b (gN b)->(b==sysModules)=false/\AU (GG I w h h1) b (gN b):=λx y=>⟨x,y⟩
  rcases ha with rfl|rfl|rfl|rfl|rfl
  ·exact done (by decide) (sj (up (by decide) o1) n1 s1 (by decide+kernel))
  ·exact done (by decide) (sj (up (by decide) o2) n2 s2 (by decide+kernel))
  ·exact done (by decide) (wE (up (by decide) o3) n3 s3 n6)
  ·exact done (by decide) (wE (up (by decide) o4) n4 s4 n7)
  ·exact done (by decide) (sj (up (by decide) o5) n5 s5 (by decide+kernel))
 dq:=dq
 din:=din
 inq:=inq
set_option backward.match.sparseCases true in
set_option bootstrap.genMatcherCode true in
theorem rD(D:Gd G Cxt){a:Nat}{f:FuncData}(F:ED G a f){b:List Stmt}{binds:List (Str×SV)}{vs:List SV}{vals:List Value}{S1 S2:St}{cs:List (Str×Nat)}{R:Result->Shared->Prop}(pl:cR f.params=true)(gen:f.scope.isGenerator=false)(hb:f.body=.stmts b)(hz:eu f.params.args vs=some binds)(e2:cK f.scope.names {S with loc:=[]} []=(S1,cs))(e3:eG ⟨f.scope.names,cs⟩ binds S1=some S2)(hroom:A.depth<recursionLimit)(hp:Hp G J S s.heap)(hv:ac (VR G J S.next) vs vals)(k:∀ae L J2 s2 E',ag ae ⟨f.scope.names,cs⟩ J2 S2.next L->SR G J2 S2 s2 L->cT (XL L) J S s J2 S2 s2->s.heap.get? L=none->wpAny (model G.prog G.w) (A.deeper ae) (execs b ae) (λfl s'=>R (.ok (.ret (match fl with|.ret v=>v|_=>.none))) s') E' s2):codeAny (model G.prog G.w) A (.call (.ref a) ⟨vals,[]⟩) R s:=by
 refine an F.obj ?_;intro o ho hdata;refine xA (hF hz hv) ?_;intro z1 z2;refine codeAny_call_function hroom (hp.base _ _ ho) hdata F.co gen hb (F.cd.keeps hp.base) ?_;rw[lS pl F.dflt z1 F.nodup,F.clos];refine wpAny_pure ?_;simp only[newFunctionEnv,Option.isSome_none,Bool.false_eq_true,if_false];refine wpAny_bind (wpAny_alloc ?_);have k0:∀a o,s.heap.get? a=some o->(s.heap.push {cls:=.type "frame",data:=.dict #[]}).get? a=some o:=λa o e=>Heap.get?_push_of_some _ e;obtain⟨uS,t0⟩:=hp.grow (X:=XL s.heap.objs.size) (tk:=s.toks) k0;have fL:s.heap.get? s.heap.objs.size=none:=aQ;have fb:G.h0.get? s.heap.objs.size=none:=by
  induction c:G.h0.get? s.heap.objs.size using Option.casesOn with
  |none=>rfl
  |some o=>have:=hp.base _ _ c;rw[fL]at this;exact aa this
 have fn:∀n,n<S.next->J n≠s.heap.objs.size:=λn hn=>by refine xE (hp.lv n hn) ?_;intro o e;exact af e fL
 have r0:SR G J {S with loc:=[]} {s with heap:=s.heap.push {cls:=.type "frame",data:=.dict #[]}} s.heap.objs.size:=
  ⟨uS.cong rfl rfl,⟨⟨_,Heap.Ns.new s.heap (.type "frame"),λx v hx=>(by exact aa hx)⟩,fb,fn⟩⟩
 refine wpAny_bind (rI _ (λname kind cells=>by induction hkc:kind==NameKind.cell using Bool.casesOn<;>simp[hkc]) e2 r0 .nil λJ1 s1 cv t1 r1 al1=>?_)
 have hE:ag (newEnv f.scope s.heap.objs.size f.globals cv (f.qualname++".<locals>.") (some a) f.code none f.builtins) ⟨f.scope.names,cs⟩ J1 S1.next s.heap.objs.size:=
  ⟨F.kind,rfl,rfl,F.glob,F.bi,λx n e=>wu.look al1 e⟩
 have z3:=z2.mono (R':=ET G J1 S1.next) λx y z=>⟨z.1,z.2.mono t1.ext t1.le⟩
 refine wpAny_bind (rN (ae:=newEnv f.scope s.heap.objs.size f.globals cv (f.qualname++".<locals>.") (some a) f.code none f.builtins) _ (λ_ _ _=>rfl) e3 hE r1 z3 λJ2 s2 t2 r2=>wpAny_pure ?_);refine⟨D.lim.keeps r2.hp.base,codeAny_func ?_⟩;exact k _ _ J2 s2 _ (hE.stp t2) r2 (t0.trans ((t1.trans t2).cong rfl rfl)) fL
noncomputable def fT (P:Params):FuncData:=match(XX P {}).fn 792 with
 |some f=>f
 |none=>default
theorem Bo(P:Params)(q:io):(XX P q).fn 792=some (fT P):=by kernel_rfl!
noncomputable def tB:List Stmt:=dB (st 179)
theorem As(P:Params):(fT P).body=.stmts tB:=by kernel_rfl!
noncomputable def tN:List (Str×NameKind):=(dS (st 179)).names
theorem lI(P:Params):(fT P).scope.names=tN:=by kernel_rfl!
theorem yt(P:Params):(cR (fT P).params&&!(fT P).scope.isGenerator)=true:=by kernel_rfl!
noncomputable def wN:Str:=⟨⟨[119]⟩⟩
noncomputable def nN:Str:=⟨⟨[110]⟩⟩
noncomputable def lG:Str:=⟨⟨[102,105,108,108]⟩⟩
theorem Au(P:Params)(u v:SV):eu (fT P).params.args [u,v]=some [(wN,u),(nN,v)]:=by kernel_rfl!
noncomputable def tC:FC:=⟨tN,[]⟩
theorem wH(S:St):cK tN S []=(S,[]):=by kernel_rfl!
theorem zq(nx:Nat)(hp:Tr)(u v:SV):eG tC [(wN,u),(nN,v)] ⟨nx,hp,[]⟩=some ⟨nx,hp,[(wN,u),(nN,v)]⟩:=by kernel_rfl!
noncomputable def Fw (s:Stmt):PExpr:=sX 0 s
noncomputable def Dg (s:Stmt):PExpr:=sX 1 s
noncomputable def Ff (s:Stmt):PExpr:=sX 0 s
noncomputable def FS (s:Stmt):List Stmt:=bX 0 s
noncomputable def E7 (s:Stmt):PExpr:=sX 0 s
noncomputable def bL (e:PExpr):PExpr:=eX 0 e
noncomputable def bR (e:PExpr):PExpr:=eX 1 e
noncomputable def Bh (e:PExpr):PExpr:=eX 2 e
noncomputable def aC (e:PExpr):Pos:=(ev e).p
noncomputable def sE (s:Stmt):Pos:=(sv s).p
noncomputable def dX (l:List Stmt) (n:Nat):Stmt:=(nth l n).getD (.Pass default)
noncomputable def t3:Stmt:=dX tB 3
noncomputable def t4:Stmt:=dX tB 4
noncomputable def EH:PExpr:=Ff t3
noncomputable def C1:PExpr:=E7 (dX (FS t3) 0)
noncomputable def l9:PExpr:=E7 t4
theorem Dz:tB=[dX tB 0,dX tB 1,dX tB 2,t3,t4]:=by kernel_rfl!
theorem DB:t3=.If (.Compare (.Name cu (aC (bL EH))) [.Lt] [bR EH] (aC EH)) [.Return (some (.BinOp (.Subscript (bL (bL C1)) (.Name cu (aC (bR (bL C1)))) (aC (bL C1))) .Mod (.Name nN (aC (bR C1))) (aC C1))) (sE (dX (FS t3) 0))] [] (sE t3):=by kernel_rfl!
theorem DA:t4=.Return (some (.IfExp (.Compare (.Name cu (aC (bL (Bh l9)))) [.Lt] [bR (Bh l9)] (aC (Bh l9)))
  (.BinOp (.Subscript (.Name lG (aC (bL (bL (bL l9))))) (.Name cu (aC (bR (bL (bL l9))))) (aC (bL (bL l9)))) .Mod (.Name nN (aC (bR (bL l9)))) (aC (bL l9)))
  (.BinOp (.BinOp (.BinOp (.Constant (.int 5) 0 (aC (bL (bL (bL (bR l9)))))) .Mult (.Name cu (aC (bR (bL (bL (bR l9)))))) (aC (bL (bL (bR l9))))) .Add (.Constant (.int 3) 0 (aC (bR (bL (bR l9))))) (aC (bL (bR l9)))) .Mod (.Name nN (aC (bR (bR l9)))) (aC (bR l9))) (aC l9))) (sE t4):=by kernel_rfl!
noncomputable def dr (ls:List Int) (i:Nat) (n:Int):Int:=(match ls[i]? with
 |some x=>x
 |none=>match m9[i]? with
  |some x=>x
  |none=>5*(i:Int)+3).fmod n
noncomputable def cW (i:Int) (v:Value):Prop:=∃t,v=.int i t
section
variable{X:Cx} {n:Nat} {nx:Nat} {hp:Tr} {m:Nat} {N:Int} {es:List (Str×SV)} {k k':SV}
noncomputable def zi:PExpr:=Fw (dX tB 0)
noncomputable def zg:PExpr:=Dg (dX tB 1)
noncomputable def zh:PExpr:=Fw (dX tB 1)
theorem DD:dX tB 0=.Assign [.Name cu (aC (Dg (dX tB 0)))] (.Subscript (.Name wN (aC (bL zi))) (.Constant (.str cu) 0 (aC (bR zi))) (aC zi)) (sE (dX tB 0)):=by kernel_rfl!
theorem DC:dX tB 1=.Assign [.Subscript (.Name wN (aC (bL zg))) (.Constant (.str cu) 0 (aC (bR zg))) (aC zg)] (.BinOp (.Name cu (aC (bL zh))) .Add (.Constant (.int 1) 0 (aC (bR zh))) (aC zh)) (sE (dX tB 1)):=by kernel_rfl!
theorem js(j:Nat):(eO X lc (j+1)).ex=Bq X (eO X lc j):=rfl
theorem xD(j:Nat):(eO X lc (j+1)).st=A0 X (eO X lc j):=rfl
theorem pv{lv:Lv}{fc:FC}{o i:PExpr}{p:Pos}{S:St}:Bq X lv fc (.Subscript o i p) S=ry X lv fc o i S:=rfl
theorem Az{lv:Lv}{fc:FC}{o i:PExpr}{op:Operator}{p:Pos}{S:St}:Bq X lv fc (.BinOp o op i p) S=rA lv fc o op i S:=rfl
theorem uq{lv:Lv}{fc:FC}{ts:List PExpr}{e:PExpr}{p:Pos}{S:St}:A0 X lv fc (.Assign ts e p) S=mF X lv fc ts e S:=rfl
theorem ng{lv:Lv}{fc:FC}{x:Str}{args:List PExpr}{p p':Pos}{S:St}:Bq X lv fc (.Call (.Name x p) args [] p') S=dR lv fc (.Name x p) args S:=rfl
theorem AP{lv:Lv}{fc:FC}{o i:PExpr}{p:Pos}{v:SV}{S:St}:y0 X lv fc (.Subscript o i p) v S=pH X lv fc o i v S:=rfl
theorem DQ(loc:List (Str×SV))(p:Pos)(u:SV):(eO X lc (n+1)).ex tC (.Name wN p) ⟨nx,hp,(wN,u)::loc⟩=some (u,⟨nx,hp,(wN,u)::loc⟩):=by kernel_rfl!
theorem Ai(loc:List (Str×SV))(hm:hp.get m=some (.sd es))(hk:bE es cu=some k):item X ⟨nx,hp,loc⟩ (.ref m) (.str cu)=some k:=by unfold item;dsimp only;rw[hm];dsimp only;unfold bP;dsimp only;rw[hm];dsimp only;unfold ji;dsimp only;rw[hk]
theorem E6(hm:hp.get m=some (.sd es))(hk:bE es cu=some k):(eO X lc (n+3)).st tC (dX tB 0) ⟨nx,hp,[(wN,.ref m),(nN,.int N)]⟩=some (.next,⟨nx,hp,[(wN,.ref m),(nN,.int N),(cu,k)]⟩):=by
 rw[DD];have e1:(eO X lc (n+2)).ex tC (.Subscript (.Name wN (aC (bL zi))) (.Constant (.str cu) 0 (aC (bR zi))) (aC zi)) ⟨nx,hp,[(wN,.ref m),(nN,.int N)]⟩=some (k,⟨nx,hp,[(wN,.ref m),(nN,.int N)]⟩):=by rw[js,pv];unfold ry;rw[DQ];dsimp only;have:(eO X lc (n+1)).ex tC (.Constant (.str cu) 0 (aC (bR zi))) ⟨nx,hp,[(wN,.ref m),(nN,.int N)]⟩=some (.str cu,⟨nx,hp,[(wN,.ref m),(nN,.int N)]⟩):=rfl;rw[this];dsimp only;rw[Ai _ hm hk];rfl
 rw[xD,uq];unfold mF;dsimp only;rw[show(jQ (.Name cu (aC (Dg (dX tB 0))))&&jQ (.Subscript (.Name wN (aC (bL zi))) (.Constant (.str cu) 0 (aC (bR zi))) (aC zi)))=false from rfl];dsimp only;rw[e1];dsimp only;have:y0 X (eO X lc (n+2)) tC (.Name cu (aC (Dg (dX tB 0)))) k ⟨nx,hp,[(wN,.ref m),(nN,.int N)]⟩=some ⟨nx,hp,[(wN,.ref m),(nN,.int N),(cu,k)]⟩:=by kernel_rfl!
 rw[this];rfl
theorem DR(p:Pos):(eO X lc (n+1)).ex tC (.Name cu p) ⟨nx,hp,[(wN,.ref m),(nN,.int N),(cu,k)]⟩=some (k,⟨nx,hp,[(wN,.ref m),(nN,.int N),(cu,k)]⟩):=by kernel_rfl!
theorem E5(hm:hp.get m=some (.sd es))(sm:small es=true)(hk:AZ k=some k'):(eO X lc (n+3)).st tC (dX tB 1) ⟨nx,hp,[(wN,.ref m),(nN,.int N),(cu,k)]⟩=some (.next,⟨nx,hp.put m (.sd (cr es cu k')),[(wN,.ref m),(nN,.int N),(cu,k)]⟩):=by
 rw[DC];have e1:(eO X lc (n+2)).ex tC (.BinOp (.Name cu (aC (bL zh))) .Add (.Constant (.int 1) 0 (aC (bR zh))) (aC zh)) ⟨nx,hp,[(wN,.ref m),(nN,.int N),(cu,k)]⟩=some (k',⟨nx,hp,[(wN,.ref m),(nN,.int N),(cu,k)]⟩):=by rw[js,Az];unfold rA;rw[DR];dsimp only;have:(eO X lc (n+1)).ex tC (.Constant (.int 1) 0 (aC (bR zh))) ⟨nx,hp,[(wN,.ref m),(nN,.int N),(cu,k)]⟩=some (.int 1,⟨nx,hp,[(wN,.ref m),(nN,.int N),(cu,k)]⟩):=rfl;rw[this];dsimp only;induction k using SV.casesOn<;>first|((first|exact aa hk|(refine aB hk ?_;clear hk;intro h1;subst h1)|cases hk);done)|((first|(refine aB hk ?_;clear hk;intro h1;subst h1)|cases hk);rfl)
 rw[xD,uq];unfold mF;dsimp only;rw[show(jQ (.Subscript (.Name wN (aC (bL zg))) (.Constant (.str cu) 0 (aC (bR zg))) (aC zg))&&jQ (.BinOp (.Name cu (aC (bL zh))) .Add (.Constant (.int 1) 0 (aC (bR zh))) (aC zh)))=false from rfl];dsimp only;rw[e1];dsimp only;have:y0 X (eO X lc (n+2)) tC (.Subscript (.Name wN (aC (bL zg))) (.Constant (.str cu) 0 (aC (bR zg))) (aC zg)) k' ⟨nx,hp,[(wN,.ref m),(nN,.int N),(cu,k)]⟩=some ⟨nx,hp.put m (.sd (cr es cu k')),[(wN,.ref m),(nN,.int N),(cu,k)]⟩:=by rw[AP];unfold pH;rw[DQ];dsimp only;have:(eO X lc (n+2)).ex tC (.Constant (.str cu) 0 (aC (bR zg))) ⟨nx,hp,[(wN,.ref m),(nN,.int N),(cu,k)]⟩=some (.str cu,⟨nx,hp,[(wN,.ref m),(nN,.int N),(cu,k)]⟩):=rfl;rw[this];dsimp only;unfold setItem;dsimp only;rw[hm];dsimp only;unfold mG;dsimp only;rw[sm];rfl
 rw[this];rfl
theorem E4:(eO X lc (n+3)).st tC (dX tB 2) ⟨nx,hp,[(wN,.ref m),(nN,.int N),(cu,k)]⟩=some (.next,⟨nx+1,hp.put nx (.tup gx),[(wN,.ref m),(nN,.int N),(cu,k),(lG,.ref nx)]⟩):=by kernel_rfl!
end
namespace Tr
theorem put_other{t:Tr}{i j:Nat}{o:SO}(h:j≠i):(t.put i o).get j=t.get j:=by
 induction e:(t.put i o).get j using Option.casesOn with
 |some o'=>
  rcases get_put e with⟨a,_⟩|⟨_,b⟩
  ·exact(h a).elim
  ·exact b.symm
 |none=>
  induction e2:t.get j using Option.casesOn with
  |none=>rfl
  |some o'=>
   exfalso;induction t generalizing i j with
   |nil=>unfold get at e2;exact aa e2
   |node v l r ihl ihr=>
    unfold put at e;unfold get at e2;induction hi:Nat.beq i 0 using Bool.casesOn with
    |true=>
     rw[hi]at e;dsimp only at e;have hi:=Nat.eq_of_beq_eq_true hi;unfold get at e;induction hj:Nat.beq j 0 using Bool.casesOn with
     |true=>exact h (by rw[Nat.eq_of_beq_eq_true hj,hi])
     |false=>rw[hj]at e e2;dsimp only at e e2;induction hb:Nat.beq (j %2) 1 using Bool.casesOn<;>rw[hb]at e e2<;>dsimp only at e e2<;>rw[e]at e2<;>(first|exact aa e2|cases e2)
    |false=>
     rw[hi]at e;dsimp only at e;have hi':=Nat.ne_of_beq_eq_false hi;induction hb:Nat.beq (i %2) 1 using Bool.casesOn with
     |true=>
      have hb':=Nat.eq_of_beq_eq_true hb;rw[hb]at e;dsimp only at e;unfold get at e;induction hj:Nat.beq j 0 using Bool.casesOn with
      |true=>rw[hj]at e;exact rT e
      |false=>
       have hj':=Nat.ne_of_beq_eq_false hj;rw[hj]at e e2;dsimp only at e e2;induction hc:Nat.beq (j %2) 1 using Bool.casesOn with
       |true=>have hc':=Nat.eq_of_beq_eq_true hc;rw[hc]at e e2;dsimp only at e e2;exact ihl (by lia) e e2
       |false=>rw[hc]at e e2;dsimp only at e e2;rw[e]at e2;exact aa e2
     |false=>
      have hb':=Nat.ne_of_beq_eq_false hb;rw[hb]at e;dsimp only at e;unfold get at e;induction hj:Nat.beq j 0 using Bool.casesOn with
      |true=>rw[hj]at e;exact rT e
      |false=>
       have hj':=Nat.ne_of_beq_eq_false hj;rw[hj]at e e2;dsimp only at e e2;induction hc:Nat.beq (j %2) 1 using Bool.casesOn with
       |true=>rw[hc]at e e2;dsimp only at e e2;rw[e]at e2;exact aa e2
       |false=>have hc':=Nat.ne_of_beq_eq_false hc;rw[hc]at e e2;dsimp only at e e2;exact ihr (by lia) e e2
theorem put_same{t:Tr}{i:Nat}{o o0:SO}(h:t.get i=some o0):(t.put i o).get i=some o:=by
 induction t generalizing i with
 |nil=>unfold get at h;exact aa h
 |node v l r ihl ihr=>
  unfold put;unfold get at h;induction hi:Nat.beq i 0 using Bool.casesOn with
  |true=>dsimp only;unfold get;rw[hi]
  |false=>
   rw[hi]at h;dsimp only at h|-;induction hb:Nat.beq (i %2) 1 using Bool.casesOn with
   |true=>rw[hb]at h;dsimp only at h|-;unfold get;rw[hi];dsimp only;rw[hb];dsimp only;exact ihl h
   |false=>rw[hb]at h;dsimp only at h|-;unfold get;rw[hi];dsimp only;rw[hb];dsimp only;exact ihr h
end Tr
theorem lh{α:Type}{x y:Str}{v:α}(h:x≠y):∀{l:List (Str×α)},bE (cr l x v) y=bE l y
 |[]=>by
  unfold cr bE;induction c:cq x y using Bool.casesOn with
  |true=>exact(h (aI.mp c)).elim
  |false=>rfl
 |(z,u)::r=>by
  unfold cr;induction c:cq z x using Bool.casesOn with
  |true=>
   have:=aI.mp c;subst this;dsimp only;unfold bE;induction c2:cq z y using Bool.casesOn with
   |true=>exact(h (aI.mp c2)).elim
   |false=>rfl
  |false=>
   dsimp only;unfold bE;induction c2:cq z y using Bool.casesOn with
   |true=>rfl
   |false=>exact lh h
section
variable{P:Params} {q:io} {n:Nat} {nx:Nat} {hp:Tr} {m l:Nat} {N:Int} {es:List (Str×SV)} {k k':SV}
noncomputable def cG (m:Nat) (N:Int) (k:SV) (f:Nat):List (Str×SV):=[(wN,.ref m),(nN,.int N),(cu,k),(lG,.ref f)]
theorem qp{f:Nat}(p:Pos):((eO (XX P q) lc (n+1)).ex tC (.Name cu p) ⟨nx,hp,cG m N k f⟩=some (k,⟨nx,hp,cG m N k f⟩)/\(eO (XX P q) lc (n+1)).ex tC (.Name nN p) ⟨nx,hp,cG m N k f⟩=some (.int N,⟨nx,hp,cG m N k f⟩))/\(eO (XX P q) lc (n+1)).ex tC (.Name lG p) ⟨nx,hp,cG m N k f⟩=some (.ref f,⟨nx,hp,cG m N k f⟩)/\(eO (XX P q) lc (n+1)).ex tC (.Name wN p) ⟨nx,hp,cG m N k f⟩=some (.ref m,⟨nx,hp,cG m N k f⟩):=by refine⟨⟨?_,?_⟩,?_,?_⟩<;>kernel_rfl!
noncomputable def Dc:PExpr:=bL (bL C1)
theorem Cw:Dc=.Subscript (.Name wN (aC (bL Dc))) (.Constant (.str gU) 0 (aC (bR Dc))) (aC Dc):=by kernel_rfl!
theorem BX{f:Nat}(hm:hp.get m=some (.sd es))(hk:bE es gU=some (.ref l)):(eO (XX P q) lc (n+2)).ex tC Dc ⟨nx,hp,cG m N k f⟩=some (.ref l,⟨nx,hp,cG m N k f⟩):=by rw[Cw];rw[js,pv];unfold ry;rw[(qp _).2.2];dsimp only;have:(eO (XX P q) lc (n+1)).ex tC (.Constant (.str gU) 0 (aC (bR Dc))) ⟨nx,hp,cG m N k f⟩=some (.str gU,⟨nx,hp,cG m N k f⟩):=rfl;rw[this];dsimp only;unfold item;dsimp only;rw[hm];dsimp only;unfold bP;dsimp only;rw[hm];dsimp only;unfold ji;dsimp only;rw[hk];rfl
noncomputable def Fd (e:PExpr):PExpr:=eX 0 e
noncomputable def xy (e:PExpr):PExpr:=eX 1 e
noncomputable def FQ (e:PExpr):Pos:=(ev e).p
noncomputable def rU:PExpr:=bR EH
noncomputable def jt:Str:=⟨⟨[108,101,110]⟩⟩
theorem Cl:rU=.Call (.Name jt (aC (Fd rU))) [.Subscript (.Name wN (aC (bL (xy rU)))) (.Constant (.str gU) 0 (aC (bR (xy rU)))) (aC (xy rU))] [] (FQ rU):=by kernel_rfl!
theorem zA{f:Nat}(hm:hp.get m=some (.sd es))(hk:bE es gU=some (.ref l))(hl:hp.get l=some (.lst 1 [])):(eO (XX P q) lc (n+4)).ex tC rU ⟨nx,hp,cG m N k f⟩=some (.sym 1001 0,⟨nx,hp,cG m N k f⟩):=by
 rw[Cl];rw[js,ng];unfold dR;have e1:(eO (XX P q) lc (n+3)).ex tC (.Name jt (aC (Fd rU))) ⟨nx,hp,cG m N k f⟩=some (.bi .len,⟨nx,hp,cG m N k f⟩):=by kernel_rfl!
 rw[e1];dsimp only;have e2:(eO (XX P q) lc (n+3)).ex tC (.Subscript (.Name wN (aC (bL (xy rU)))) (.Constant (.str gU) 0 (aC (bR (xy rU)))) (aC (xy rU))) ⟨nx,hp,cG m N k f⟩=some (.ref l,⟨nx,hp,cG m N k f⟩):=by rw[js,pv];unfold ry;rw[(qp _).2.2];dsimp only;have:(eO (XX P q) lc (n+2)).ex tC (.Constant (.str gU) 0 (aC (bR (xy rU)))) ⟨nx,hp,cG m N k f⟩=some (.str gU,⟨nx,hp,cG m N k f⟩):=rfl;rw[this];dsimp only;unfold item;dsimp only;rw[hm];dsimp only;unfold bP;dsimp only;rw[hm];dsimp only;unfold ji;dsimp only;rw[hk];rfl
 have e3:rx (eO (XX P q) lc (n+3)) tC [.Subscript (.Name wN (aC (bL (xy rU)))) (.Constant (.str gU) 0 (aC (bR (xy rU)))) (aC (xy rU))] ⟨nx,hp,cG m N k f⟩=some ([.ref l],⟨nx,hp,cG m N k f⟩):=by unfold rx;rw[e2];rfl
 rw[e3];dsimp only;unfold rK;dsimp only;unfold xF;dsimp only;rw[hl];rfl
theorem wU{f:Nat}(p1 p2 p3:Pos)(hf:hp.get f=some (.tup gx))(n0:Nat):(eO (XX P q) lc (n+4)).ex tC (.Call (.Name jt p1) [.Name lG p2] [] p3) ⟨nx,hp,cG m N k f⟩=some (.int 37,⟨nx,hp,cG m N k f⟩):=by
 rw[js,ng];unfold dR;have e1:(eO (XX P q) lc (n+3)).ex tC (.Name jt p1) ⟨nx,hp,cG m N k f⟩=some (.bi .len,⟨nx,hp,cG m N k f⟩):=by kernel_rfl!
 rw[e1];dsimp only;have e3:rx (eO (XX P q) lc (n+3)) tC [.Name lG p2] ⟨nx,hp,cG m N k f⟩=some ([.ref f],⟨nx,hp,cG m N k f⟩):=by unfold rx;rw[(qp _).2.1];rfl
 rw[e3];dsimp only;unfold rK;dsimp only;unfold xF;dsimp only;rw[hf];rfl
end
theorem ac.at{α β:Type}{R:α->β->Prop}:∀{x:List α} {y:List β} {i:Nat},ac R x y->(∃a b,x[i]?=some a/\y[i]?=some b/\R a b)\/(x[i]?=none/\y[i]?=none)
 |[]=>by intro h;refine h.nilE ?_;intro e;subst e;exact .inr ⟨rfl,rfl⟩
 |a::x=>by
  rename_i y i;intro h;refine h.consE ?_;clear h;intro b y' e h t;subst e;induction i using Nat.casesOn with
  |zero=>exact .inl ⟨a,b,rfl,rfl,h⟩
  |succ i=>simpa using ac.at (i:=i) t
structure rS (G:Gr) (q:io) (ls:List Int):Prop where
 vals:ac cW ls (G.I.ol 1)
 dr:∀k n v,drawn k n q.draws=some v->∃i:Nat,cp G k i/\i<=1000/\1<=n/\n<=1000/\∀J nx t,VR G J nx v (.int (dr ls i n) t)
theorem tI{G:Gr}{J:Nat->Nat}{nx:Nat}{vs:List Value}(h:ac (VR G J nx) gx vs):ac cW m9 vs:=by
 have:∀{l:List Int} {vs:List Value},ac (VR G J nx) (l.map .int) vs->ac cW l vs:=by
  intro l;induction l with
  |nil=>intro vs h;cases h;exact .nil
  |cons a l ih=>intro vs h;cases h with|cons h1 h2=>exact .cons h1 (ih h2)
 exact this h
theorem jK:behindInMarks .Lt rU=false/\behindInMarks .Lt (bR (Bh l9))=false:=by refine⟨aZ (by kernel_rfl!),aZ (by kernel_rfl!)⟩
theorem BM:bR (Bh l9)=.Call (.Name jt (aC (Fd (bR (Bh l9))))) [.Name lG (aC (xy (bR (Bh l9))))] [] (FQ (bR (Bh l9))):=by kernel_rfl!
theorem vn{w:World}{S:St}{wv:SV}{n:Int}{r:SV×St}(h:kL (XX w.params {}) S wv n=some r):False:=by unfold kL at h;refine cO h ?_;clear h;intro _ e0' h;subst e0';refine du h ?_;clear h;intro _ _ h;refine jS h ?_;clear h;intro k c1 c2 h;have:drawn k n (XX w.params {}).draws=none:=rfl;rw[this]at h;exact aa h
theorem lZ{G:Gr}{J:Nat->Nat}{nx:Nat}{k:SV}{i:Int}{v:Value}(h:VR G J nx k v)(n:cp G k i):∃t,v=.int i t:=by
 induction k using SV.casesOn<;>first|exact n.elim|skip
 ·subst n;exact h
 ·subst n;exact h
section
variable{nx:Nat} {hp:Tr} {m l:Nat} {n:Int} {es:List (Str×SV)} {k:SV} {i:Nat}
theorem wG(D:Gd (GG I w h h1) (XX w.params {}))(O:ba (GG I w h h1) 0 (eO (XX w.params {}) Lv.no 50))(hv:ac cW ls (I.ol 1))(ni:cp (GG I w h h1) k i)(hi:i<=1000)(hn1:1<=n)(hn2:n<=1000)(hm:hp.get m=some (.sd es))(hin:bE es gU=some (.ref l))(hl:hp.get l=some (.lst 1 []))(hf:hp.get (nx -1)=some (.tup gx))(hR:Rm 0 A)(hE:ag ae tC J nx L)(r:SR (GG I w h h1) J ⟨nx,hp,cG m n k (nx -1)⟩ s L){Q:Flow->Shared->Prop}(q:∀J' s' t,cT (XL L) J ⟨nx,hp,cG m n k (nx -1)⟩ s J' ⟨nx,hp,cG m n k (nx -1)⟩ s'->SR (GG I w h h1) J' ⟨nx,hp,cG m n k (nx -1)⟩ s' L->Q (.ret (.int (dr ls i n) t)) s'):wpAny (model pw w) A (execs [t3,t4] ae) Q E s:=by
 have hn0:n≠0:=by lia
 have len1:I.nu 1001=((I.ol 1).length:Int):=D.ok.len 1 (by decide);rw[DB];refine wpAny_execs_cons (wpAny_If (wpAny_isTrue_Compare1 ?_ jK.1));refine O.ex (qp _).1.1 hR hE r λJ6 av s6 t6 r6 v6=>?_;refine xE (lZ v6 ni) ?_;intro ta q1';subst q1';refine O.ex (zA hm hin hl) hR (hE.stp t6) r6 λJ7 bv s7 t7 r7 v7=>?_;refine xE v7 ?_;clear v7;intro tb q1';subst q1';have t67:=t6.trans t7;have hE7:=hE.stp t67;refine lt_int (wpAny_truthy_bool ?_);have e7:(GG I w h h1).I.nu 1001+0=((I.ol 1).length:Int):=by rw[Int.add_zero];exact len1
 rw[e7];rcases ac.at (i:=i) hv with⟨x,val,hx1,hx2,hx3⟩|⟨hx1,hx2⟩
 ·have hlt:i<(I.ol 1).length:=(List.getElem?_eq_some_iff.mp hx2).1;rw[decide_eq_true (by lia:(i:Int)<((I.ol 1).length:Int))];rw[if_pos rfl];refine wpAny_execs_cons (wpAny_Return_some (wpAny_BinOp ?_));refine Subscript_ (O.ex (BX hm hin) hR hE7 r7 λJ8 lval s8 t8 r8 v8=>O.ex (qp _).1.1 hR (hE7.stp t8) r8 λJ9 iv s9 t9 r9 v9=>?_);refine xE (lZ v9 ni) ?_;intro tc q1';subst q1';have v8':=v8.stp t9;refine xA v8' ?_;clear v8';intro hlt2 q1';subst q1';refine ap (r9.named hlt2 hl) ?_;intro items ys q1' c1 al;obtain⟨hl1,hz⟩:=q1';have e10:items.toList=I.ol 1:=by rw[c1,aD al,List.append_nil];rfl
  have hl1:=hl1.isList;refine tail_any hl1.typeIs slot_list_getitem.lookup (wpAny_getItem_list (x:=val) hl1 (by exact Int.natCast_nonneg _) (by lia) (by rw[Int.toNat_natCast,<-Array.getElem?_toList,e10];exact hx2) ?_) (bw rfl _ _);refine O.ex (qp _).1.2 hR ((hE7.stp t8).stp t9) r9 λJ10 nv s10 t10 r10 v10=>?_;refine xE v10 ?_;clear v10;intro tn q1';subst q1';refine xE hx3 ?_;clear hx3;intro tv q1';subst q1';refine mod_int hn0 ?_;have T:=(t67.trans t8).trans (t9.trans t10);have R:=r10.tok (X:=XL L) (tk:=s10.toks+1);have ed:dr ls i n=x.fmod n:=by unfold dr;rw[hx1]
  rw[<-ed];exact q _ _ _ (T.trans R.2) R.1
 ·have hge:¬i<(I.ol 1).length:=by rw[List.getElem?_eq_none_iff]at hx2;lia
  rw[decide_eq_false (by lia:¬(i:Int)<((I.ol 1).length:Int))];rw[if_neg Bool.false_ne_true];refine wpAny_execs_nil ?_;dsimp only;rw[DA];refine wpAny_execs_cons (wpAny_Return_some (wpAny_IfExp (wpAny_isTrue_Compare1 ?_ jK.2)));refine O.ex (qp _).1.1 hR hE7 r7 λJ8 av s8 t8 r8 v8=>?_;refine xE (lZ v8 ni) ?_;intro tc q1';subst q1';rw[BM];refine O.ex (wU _ _ _ hf 0) hR (hE7.stp t8) r8 λJ9 bv s9 t9 r9 v9=>?_;refine xE v9 ?_;clear v9;intro td q1';subst q1';have t79:=t67.trans (t8.trans t9);have hE9:=hE.stp t79;refine lt_int (wpAny_truthy_bool ?_);by_cases c37:(i:Int)<37
  ·rw[decide_eq_true c37,if_pos rfl];refine wpAny_BinOp ?_;refine Subscript_ (O.ex (qp _).2.1 hR hE9 r9 λJa fv sa ta' ra va=>O.ex (qp _).1.1 hR (hE9.stp ta') ra λJb iv sb tb' rb vb=>?_);refine xE (lZ vb ni) ?_;intro te q1';subst q1';have va':=va.stp tb';refine xA va' ?_;clear va';intro hlt2 q1';subst q1';refine an (rb.named hlt2 hf) ?_;intro items q1' al;obtain⟨ht,hz⟩:=q1';rcases ac.at (i:=i) (tI al)with⟨x,val,hy1,hy2,hy3⟩|⟨hy1,hy2⟩
   ·have hit:items[i]?=some val:=by rw[<-Array.getElem?_toList];exact hy2
    have hlti:i<items.size:=(Array.getElem?_eq_some_iff.mp hit).1;refine tail_any (by obtain⟨o,a,b,_⟩:=ht;exact⟨o,a,b⟩) slot_tuple_getitem.lookup (PyProof.Rows.getItem_tuple ht (by exact Int.natCast_nonneg _) (by lia) (fH hlti) hit ?_) (bw rfl _ _);refine O.ex (qp _).1.2 hR ((hE9.stp ta').stp tb') rb λJ10 nv s10 t10 r10 v10=>?_;refine xE v10 ?_;clear v10;intro tn q1';subst q1';refine xE hy3 ?_;clear hy3;intro tv q1';subst q1';refine mod_int hn0 ?_;have T:=t79.trans (ta'.trans (tb'.trans t10));have R:=r10.tok (X:=XL L) (tk:=s10.toks+1);have ed:dr ls i n=x.fmod n:=by unfold dr;rw[hx1];dsimp only;rw[hy1]
    rw[<-ed];exact q _ _ _ (T.trans R.2) R.1
   ·exfalso;rw[List.getElem?_eq_none_iff]at hy1;have:m9.length=37:=rfl;lia
  ·rw[decide_eq_false c37,if_neg Bool.false_ne_true];refine wpAny_BinOp (wpAny_BinOp (wpAny_BinOp ?_));refine wpAny_Constant_int ?_;have Ra:=r9.tok (X:=XL L) (tk:=s9.toks+1);refine O.ex (qp _).1.1 hR (hE9.stp Ra.2) Ra.1 λJb iv sb tb' rb vb=>?_;refine xE (lZ vb ni) ?_;intro te q1';subst q1';refine PyProof.Rows.mul_int ?_ (.of_left (intBits_le_64 (by decide) (by decide)));have Rb:=rb.tok (X:=XL L) (tk:=sb.toks+1);refine wpAny_Constant_int ?_;have Rc:=Rb.1.tok (X:=XL L) (tk:=sb.toks+1+1);refine add_int ?_;have Rd:=Rc.1.tok (X:=XL L) (tk:=sb.toks+1+1+1);refine O.ex (qp _).1.2 hR ((((hE9.stp Ra.2).stp tb').stp Rb.2).stp (Rc.2.trans Rd.2)) Rd.1 λJ10 nv s10 t10 r10 v10=>?_;refine xE v10 ?_;clear v10;intro tn q1';subst q1';refine mod_int hn0 ?_;have T:=t79.trans (Ra.2.trans (tb'.trans (Rb.2.trans ((Rc.2.trans Rd.2).trans t10))));have R:=r10.tok (X:=XL L) (tk:=s10.toks+1);have hy:m9[i]?=none:=by rw[List.getElem?_eq_none_iff];have:m9.length=37:=rfl;lia
   have ed:dr ls i n=(5*(i:Int)+3).fmod n:=by unfold dr;rw[hx1];dsimp only;rw[hy]
   rw[<-ed];exact q _ _ _ (T.trans R.2) R.1
end
theorem kI{G:Gr}{lv:Lv}{d:Nat}{fc:FC}{x0 x1 x2:Stmt}{rest:List Stmt}{S0 S1 S2 S3:St}{A:Around}{E:Value->Shared->Prop}{ae:Env}{J:Nat->Nat}{s:Shared}{L:Nat}{Q:Flow->Shared->Prop}(O:ba G d lv)(a0:lv.st fc x0 S0=some (.next,S1))(a1:lv.st fc x1 S1=some (.next,S2))(a2:lv.st fc x2 S2=some (.next,S3))(hR:Rm d A)(hE:ag ae fc J S0.next L)(r:SR G J S0 s L)(q:∀J' s',cT (XL L) J S0 s J' S3 s'->ag ae fc J' S3.next L->SR G J' S3 s' L->wpAny (model G.prog G.w) A (execs rest ae) Q E s'):wpAny (model G.prog G.w) A (execs (x0::x1::x2::rest) ae) Q E s:=by refine wpAny_execs_cons (O.st a0 hR hE r λJ3 f3 s3 u3 r3 w3=>?_);subst w3;refine wpAny_execs_cons (O.st a1 hR (hE.stp u3) r3 λJ4 f4 s4 u4 r4 w4=>?_);subst w4;refine wpAny_execs_cons (O.st a2 hR ((hE.stp u3).stp u4) r4 λJ5 f5 s5 u5 r5 w5=>?_);subst w5;exact q J5 s5 ((u3.trans u4).trans u5) (((hE.stp u3).stp u4).stp u5) r5
theorem nJ{w:World}{h h1:Heap}{I:IP}{q:io}{ls:List Int}(D:Gd (GG I w h h1) (XX w.params {}))(R:rS (GG I w h h1) q ls):Tk (GG I w h h1) (XX w.params q)where
 keep:=(D.fn 792 (fT w.params) (Bo w.params {})).keep
 call:=by
  intro wv n S v S' hT A E J s vals Q hR hp hv post
  unfold kL at hT
  refine cO hT ?_;clear hT;intro m e0' hT;subst e0'
  refine du hT ?_;clear hT;intro es hm hT
  refine jS hT ?_;clear hT;intro k c1 c2 hT
  rw[Bool.and_eq_true]at c1
  refine xA c1 ?_;clear c1;intro c1 sm
  refine qA hT ?_;clear hT;intro v' k' d1 d2 hT
  dsimp only at hT
  refine qB hT ?_;clear hT;intro oo hget hT
  refine gS hT ?_;clear hT;intro h1 h2;subst h1;subst h2
  refine rZ (R.dr _ _ _ d1) ?_;intro i ni hi hn1 hn2 hval
  unfold isIn at c1
  refine qQ c1 ?_;clear c1;intro l hin c1
  refine md c1 ?_;clear c1;intro oo xs hl c1
  rw[Bool.and_eq_true]at c1
  have Ft:=Nat.eq_of_beq_eq_true c1.1
  have Fs:=bq c1.2
  subst Ft Fs
  refine ap (au hv) ?_;intro mv z1 q1';subst q1';intro hmv hz1
  refine ap (au hz1) ?_;intro nv z2 q1';subst q1';intro hnv hz2
  have q0':=aD hz2;subst q0'
  have F:=D.fn 792 (fT w.params) (Bo w.params {})
  have pl:=yt w.params
  rw[Bool.and_eq_true,Bool.not_eq_true']at pl
  have O:ba (GG I w h h1) 0 (eO (XX w.params {}) Lv.no 50):=xC D (λh=>vn h) 50
  have hml:l≠m:=by rintro rfl;rw[hm]at hl;cases hl
  have hmlt:m<S.next:=hmv.1
  have hllt:l<S.next:=by
   refine an (hp.obj m _ hmlt hm) ?_;intro kvs dk al
   have o:=fO (G:=GG I w h h1) (J:=J) (nx:=S.next) gU al
   rw[hin]at o
   induction e:valueAt kvs gU using Option.casesOn with
   |none=>rw[e]at o;exact o.elim
   |some x=>rw[e]at o;exact o.1
  have cc1:cK (fT w.params).scope.names ⟨S.next,S.hp,[]⟩ []=(⟨S.next,S.hp,[]⟩,[]):=(congrArg (λz=>cK z ⟨S.next,S.hp,[]⟩ []) (lI w.params)).trans (wH _)
  have cc2:eG ⟨(fT w.params).scope.names,[]⟩ [(wN,.ref m),(nN,.int n)] ⟨S.next,S.hp,[]⟩=some ⟨S.next,S.hp,[(wN,.ref m),(nN,.int n)]⟩:=(congrArg (λz=>eG ⟨z,[]⟩ [(wN,.ref m),(nN,.int n)] ⟨S.next,S.hp,[]⟩) (lI w.params)).trans (zq _ _ _ _)
  refine wpAny_call (rD D F (b:=tB) (S1:=⟨S.next,S.hp,[]⟩) (S2:=⟨S.next,S.hp,[(wN,.ref m),(nN,.int n)]⟩) (cs:=[]) pl.1 pl.2 (As w.params) (Au w.params _ _) cc1 cc2 (by have:=hR.depth;exact Nat.lt_of_le_of_lt (Nat.le_add_right _ _) ‹_›) hp (.cons hmv (.cons hnv .nil)) λae L J2 s2 E' hE r t fL=>?_)
  rw[lI]at hE
  have hR':Rm 0 (A.deeper ae):=by
   have h1:=hR.depth
   have h2:=hR.units
   refine⟨hR.handled,?_,?_⟩
   ·show A.depth+1+3*0+10<recursionLimit
    assumption
   ·show A.units+3+12*0+60<cLine
    assumption
  rw[Dz]
  have a0:(eO (XX w.params {}) Lv.no 50).st tC (dX tB 0) ⟨S.next,S.hp,[(wN,.ref m),(nN,.int n)]⟩=some (.next,⟨S.next,S.hp,[(wN,.ref m),(nN,.int n),(cu,k)]⟩):=E6 (n:=47) hm c2
  have a1:(eO (XX w.params {}) Lv.no 50).st tC (dX tB 1) ⟨S.next,S.hp,[(wN,.ref m),(nN,.int n),(cu,k)]⟩=some (.next,⟨S.next,S.hp.put m (.sd (cr es cu k')),[(wN,.ref m),(nN,.int n),(cu,k)]⟩):=E5 (n:=47) hm sm d2
  have a2:(eO (XX w.params {}) Lv.no 50).st tC (dX tB 2) ⟨S.next,S.hp.put m (.sd (cr es cu k')),[(wN,.ref m),(nN,.int n),(cu,k)]⟩=some (.next,⟨S.next+1,(S.hp.put m (.sd (cr es cu k'))).put S.next (.tup gx),cG m n k S.next⟩):=E4 (n:=47)
  refine kI O a0 a1 a2 hR' hE r λJ5 s5 u35 hE5 r5=>?_
  have gm:(((S.hp.put m (.sd (cr es cu k'))).put S.next (.tup gx))).get m=some (.sd (cr es cu k')):=by
   rw[Tr.put_other (by exact Nat.ne_of_lt ‹_›)];exact Tr.put_same hm
  have gl:(((S.hp.put m (.sd (cr es cu k'))).put S.next (.tup gx))).get l=some (.lst 1 []):=by
   rw[Tr.put_other (by exact Nat.ne_of_lt ‹_›),Tr.put_other hml];exact hl
  have gf:(((S.hp.put m (.sd (cr es cu k'))).put S.next (.tup gx))).get (S.next+1 -1)=some (.tup gx):=by
   rw[Nat.add_sub_cancel]
   rcases Tr.get_put hget with⟨_,e⟩|⟨e,_⟩
   ·have e2:(((S.hp.put m (.sd (cr es cu k'))).put S.next (.tup gx))).get S.next=some oo:=hget
    rw[e2,e]
   ·exact(e rfl).elim
  have gin:bE (cr es cu k') gU=some (.ref l):=by rw[lh (by decide+kernel)];exact hin
  refine wG (nx:=S.next+1) D O R.vals ni hi hn1 hn2 gm gin gl gf hR' hE5 r5 λJ6 s6 t6 u6 r6=>?_
  dsimp only
  refine post J6 _ s6 ?_ (r6.hp.cong rfl rfl) rfl (hval J6 _ t6)
  exact((t.trans (u35.trans u6)).sub (X:=λ_=>False) (λa ha=>.inr (by subst ha;exact fL))).cong rfl rfl
structure Cv where
 mu:Nat->Nat
 dl:List (Nat×SV)
 sy:List (Nat×Nat)
 fx:List (Nat×Int)
 sx:List (Nat×Str)
noncomputable def EM (i:Int):List (SV×SV)->Option SV
 |(.int j,v)::r=>match d7 j i with
  |true=>some v
  |false=>EM i r
 |_=>none
theorem xR{γ:Type}{r:γ}{P:Prop}{x1:Bool}{f0:Option γ}{f1:Option γ}(h:(match x1 with|Bool.true=>f0|Bool.false=>f1)=some r)(k0:x1=Bool.true->f0=some r->P)(k1:x1=Bool.false->f1=some r->P):P:=by
 obtain⟨z1,e1⟩:∃z,x1=z:=⟨_,rfl⟩
 rw[e1]at h;induction z1 using Bool.casesOn with
 |false=>exact k1 e1 h
 |true=>exact k0 e1 h
namespace Cv
variable(c:Cv)
noncomputable def nf:SV->SV
 |.sym x k=>match bF c.fx x with
  |some i=>.int (i+k)
  |none=>.sym x k
 |.ss x=>match bF c.sx x with
  |some s=>.str s
  |none=>.ss x
 |v=>v
noncomputable def sb:SV->SV
 |.sym x k=>match bF c.dl x with
  |some (.int i)=>.int (i+k)
  |some (.sym y l)=>.sym y (l+k)
  |some _=>.any
  |none=>.sym x k
 |.ss x=>match bF c.sy x with
  |some y=>.ss y
  |none=>.ss x
 |v=>v
noncomputable def same (u v:SV):Bool:=cj (c.nf u) (c.nf (c.sb v))
noncomputable def vB (nx:Nat) (u v:SV):Bool:=match v with
 |.any=>true
 |.ref n=>match u with
  |.ref m=>Nat.beq m (c.mu n)&&Nat.ble (n+1) nx
  |_=>false
 |.top a=>match u with
  |.top b=>Nat.beq a b
  |_=>false
 |.bool a=>match u with
  |.bool b=>a==b
  |_=>false
 |.bi _=>false
 |v=>c.same u v
noncomputable def vsB (nx:Nat):List SV->List SV->Bool
 |[],[]=>true
 |u::x,v::y=>c.vB nx u v&&vsB nx x y
 |_,_=>false
noncomputable def sdB (nx:Nat):List (Str×SV)->List (Str×SV)->Bool
 |[],[]=>true
 |(p,u)::x,(q,v)::y=>cq p q&&(c.vB nx u v&&sdB nx x y)
 |_,_=>false
noncomputable def itB (nx:Nat) (xs:List SV) (fs:List (SV×SV)):Bool:=fs.all λy=>match c.nf (c.sb y.1)with
 |.int (.ofNat i)=>match nth xs i with
  |some u=>c.vB nx u y.2
  |none=>false
 |_=>false
noncomputable def skB (nx:Nat) (es:List (Str×SV)) (fs:List (SV×SV)):Bool:=fs.all λy=>match c.nf (c.sb y.1)with
 |.str s=>match bE es s with
  |some u=>c.vB nx u y.2
  |none=>false
 |_=>false
noncomputable def ikB (nx:Nat) (es fs:List (SV×SV)):Bool:=fs.all λy=>match c.nf (c.sb y.1)with
 |.int i=>match EM i es with
  |some u=>c.vB nx u y.2
  |none=>false
 |_=>false
noncomputable def esB (nx:Nat) (es fs:List (SV×SV)):Bool:=fs.all λy=>es.any λx=>c.same x.1 y.1&&c.vB nx x.2 y.2
noncomputable def cellB (nx:Nat) (u v:Option SV):Bool:=match u,v with
 |some u,some v=>c.vB nx u v
 |none,none=>true
 |_,_=>false
noncomputable def oB (nx:Nat) (u v:SO):Bool:=match v with
 |.inst C d=>match u with
  |.inst C' d'=>Nat.beq C' C&&(Nat.beq d' (c.mu d)&&Nat.ble (d+1) nx)
  |_=>false
 |.sd fs=>match u with
  |.sd es=>c.sdB nx es fs
  |_=>false
 |.hd o fs=>Nat.ble 1 o&&nilE fs
 |.tup ys=>match u with
  |.tup xs=>c.vsB nx xs ys
  |_=>false
 |.lst o ys=>match u with
  |.lst o' xs=>match o with
   |0=>Nat.beq o' 0&&c.vsB nx xs ys
   |_+1=>nilE ys
  |_=>false
 |.tab o fs ys=>match u with
  |.tab _ es _=>Nat.ble 1 o&&(nilE ys&&c.esB nx es fs)
  |.lst o' xs=>Nat.beq o' 0&&(Nat.ble 1 o&&(nilE ys&&c.itB nx xs fs))
  |_=>false
 |.cell w=>match u with
  |.cell w'=>c.cellB nx w' w
  |_=>false
 |.ks fs=>match u with
  |.ks es=>c.esB nx es fs
  |.sd es=>c.skB nx es fs
  |_=>false
 |.ki fs=>match u with
  |.ki es=>c.esB nx es fs
  |.idt es=>c.ikB nx es fs
  |_=>false
 |_=>false
noncomputable def hpB (S T:St):Nat->Bool
 |0=>true
 |n+1=>(match T.hp.get n with
  |none=>true
  |some v=>match S.hp.get (c.mu n)with
   |some u=>c.oB T.next u v
   |none=>false)&&(Nat.ble (c.mu n+1) S.next&&hpB S T n)
noncomputable def locB (S T:St):Bool:=T.loc.all λy=>match bE S.loc y.1 with
 |some u=>c.vB T.next u y.2
 |none=>false
end Cv
noncomputable def bm (h:Heap) (a:Nat):List Value:=match h.get? a with
 |some o=>match o.data with
  |.seq items _=>items.toList
  |_=>[]
 |none=>[]
theorem ft{h:Heap}{a:Nat}{items:Array Value}(x:jG h a items):bm h a=items.toList:=by refine eJ x ?_;clear x;intro o e _ _ n d;unfold bm;rw[e];dsimp only;rw[d]
structure dG (c:Cv) (I I':IP):Prop where
 nu:∀x,match bF c.dl x with
  |some (.int i)=>I'.nu x=i
  |some (.sym y l)=>I'.nu x=I.nu y+l
  |some _=>True
  |none=>I'.nu x=I.nu x
 sy:∀x,match bF c.sy x with
  |some y=>I'.ss x=I.ss y
  |none=>I'.ss x=I.ss x
 fx:∀x i,bF c.fx x=some i->I.nu x=i
 sx:∀x s,bF c.sx x=some s->I.ss x=s
noncomputable def Gr.at (G:Gr) (I:IP) (h1:Heap):Gr:=⟨I,G.prog,G.w,G.h0,h1,G.K⟩
section
variable{c:Cv} {nx nx':Nat}
noncomputable def fZ (I:IP):SV->Value->Prop
 |.int i,v=>∃t,v=.int i t
 |.sym x k,v=>∃t,v=.int (I.nu x+k) t
 |.str s,v=>∃t,v=.str s t
 |.ss x,v=>∃t,v=.str (I.ss x) t
 |.none,v=>v=.none
 |_,_=>False
theorem fZ.nf(k:dG c G.I I'){v:SV}{x:Value}:fZ G.I v x↔fZ G.I (c.nf v) x:=by
 induction v using SV.casesOn<;>try exact Iff.rfl
 ·rename_i y l;unfold Cv.nf;dsimp only;induction e:bF c.fx y using Option.casesOn with
  |none=>exact Iff.rfl
  |some i=>dsimp only[fZ];rw[k.fx y i e]
 ·rename_i y;unfold Cv.nf;dsimp only;induction e:bF c.sx y using Option.casesOn with
  |none=>exact Iff.rfl
  |some i=>dsimp only[fZ];rw[k.sx y i e]
theorem fZ.sb(k:dG c G.I I'){v:SV}{x:Value}(h:fZ G.I (c.sb v) x):fZ I' v x:=by
 induction v using SV.casesOn<;>try exact h
 ·rename_i y l;have n:=k.nu y;unfold Cv.sb at h;dsimp only at h;induction e:bF c.dl y using Option.casesOn with
  |none=>rw[e]at h n;dsimp only[fZ]at h n|-;rw[n];exact h
  |some u=>
   rw[e]at h n;induction u using SV.casesOn<;>dsimp only[fZ]at h n|-<;>first|exact h.elim|skip
   ·rw[n];exact h
   ·rw[n];refine xE h ?_;clear h;intro t h;exact⟨t,by rw[h];congr 1;lia⟩
 ·rename_i y;have n:=k.sy y;unfold Cv.sb at h;dsimp only at h;induction e:bF c.sy y using Option.casesOn with
  |none=>rw[e]at h n;dsimp only[fZ]at h n|-;rw[n];exact h
  |some u=>rw[e]at h n;dsimp only[fZ]at h n|-;rw[n];exact h
theorem wS{u v:SV}(h:cj u v=true):u=v/\(∀J nx val,VR G J nx u val->fZ G.I u val):=by obtain rfl:=bM h;refine⟨rfl,?_⟩;induction u using SV.casesOn<;>first|exact Bool.noConfusion h|exact λ_ _ _ h=>h
theorem VR.of_mean{v:SV}{val:Value}(h:fZ G.I v val):VR G J nx v val:=by induction v using SV.casesOn<;>first|exact h|exact h.elim
theorem VR.mean{v:SV}{val:Value}(h:VR G J nx v val)(q:match v with|.int _=>True|.sym _ _=>True|.str _=>True|.ss _=>True|.none=>True|_=>False):fZ G.I v val:=by induction v using SV.casesOn<;>first|exact h|exact q.elim
theorem Cv.same_ok(k:dG c G.I I'){u v:SV}(h:c.same u v=true){val:Value}(x:VR G J nx u val):VR (G.at I' h1) (J∘c.mu) nx' v val:=by
 unfold Cv.same at h;have q:=wS (G:=G) h;have m:fZ G.I u val:=by
  refine x.mean ?_;induction u using SV.casesOn<;>first|trivial|skip
  all_goals(exfalso;cases e:c.nf (c.sb v)<;>(rw[e]at h;cases h))
 have m2:=(fZ.nf k).mp m;rw[q.1]at m2;exact VR.of_mean (G:=G.at I' h1) (fZ.sb k ((fZ.nf k).mpr m2))
theorem Cv.vB_ok(k:dG c G.I I'){u v:SV}(h:c.vB nx' u v=true){val:Value}(x:VR G J nx u val):VR (G.at I' h1) (J∘c.mu) nx' v val:=by
 unfold Cv.vB at h;induction v using SV.casesOn<;>dsimp only at h<;>first|exact Cv.same_ok k h x|((first|exact ai h|cases h);done)|skip
 ·induction u using SV.casesOn<;>first|((first|exact ai h|cases h);done)|skip
  dsimp only at h;rw[beq_iff_eq]at h;subst h;exact x
 ·induction u using SV.casesOn<;>first|((first|exact ai h|cases h);done)|skip
  dsimp only at h;rw[Bool.and_eq_true]at h;have e:=Nat.eq_of_beq_eq_true h.1;subst e;exact⟨Nat.le_of_ble_eq_true h.2,x.2⟩
 ·induction u using SV.casesOn<;>first|((first|exact ai h|cases h);done)|skip
  dsimp only at h;have e:=Nat.eq_of_beq_eq_true h;subst e;exact x
 ·exact jA x
theorem Cv.vsB_ok(k:dG c G.I I'):∀{us vs:List SV} {vals:List Value},c.vsB nx' us vs=true->ac (VR G J nx) us vals->ac (VR (G.at I' h1) (J∘c.mu) nx') vs vals
 |[],[],_,_,.nil=>.nil
 |u::x,v::y,_,h,.cons a b=>by replace h:=Bool.and_eq_true_iff.mp h;exact .cons (Cv.vB_ok k h.1 a) (vsB_ok k h.2 b)
 |[],_::_,_,h,_=>by exact ai h
 |_::_,[],_,h,_=>by exact ai h
theorem Cv.sdB_ok(k:dG c G.I I'):∀{us vs:List (Str×SV)} {kvs:List (Str×Value)},c.sdB nx' us vs=true->ac (λ(x:Str×SV) (y:Str×Value)=>x.1=y.1/\VR G J nx x.2 y.2) us kvs->ac (λ(x:Str×SV) (y:Str×Value)=>x.1=y.1/\VR (G.at I' h1) (J∘c.mu) nx' x.2 y.2) vs kvs
 |[],[],_,_,.nil=>.nil
 |(p,u)::x,(q,v)::y,_,h,.cons a b=>by unfold Cv.sdB at h;rw[Bool.and_eq_true,Bool.and_eq_true]at h;refine .cons ⟨?_,Cv.vB_ok k h.2.1 a.2⟩ (sdB_ok k h.2.2 b);rw[<-a.1];exact(aI.mp h.1).symm
 |[],_::_,_,h,_=>by exact ai h
 |_::_,[],_,h,_=>by exact ai h
theorem Cv.num_ok(k:dG c G.I I'){u v:SV}(h:c.same u v=true){i:Int}(x:cp G u i):cp (G.at I' h1) v i:=by
 have a:VR G (λ_=>0) 0 u (.int i 0):=by induction u using SV.casesOn<;>first|exact x.elim|((first|subst x|cases x);exact⟨_,rfl⟩)
 have b:=Cv.same_ok (h1:=h1) (nx':=0) k h a;unfold Cv.same at h;induction v using SV.casesOn<;>first|exact b.elim|(obtain⟨t,b⟩:=b;cases b;exact rfl)|(obtain⟨t,b⟩:=b;cases b)|skip
 all_goals(first|(cases b;done)|skip)
 all_goals(induction e:c.nf u using SV.casesOn<;>(rw[e]at h;(first|exact ai h|cases h)))
theorem Cv.txt_ok(k:dG c G.I I'){u v:SV}(h:c.same u v=true){i:Str}(x:eH G u i):eH (G.at I' h1) v i:=by
 have a:VR G (λ_=>0) 0 u (.str i 0):=by induction u using SV.casesOn<;>first|exact x.elim|((first|subst x|cases x);exact⟨_,rfl⟩)
 have b:=Cv.same_ok (h1:=h1) (nx':=0) k h a;unfold Cv.same at h;induction v using SV.casesOn<;>first|exact b.elim|(obtain⟨t,b⟩:=b;cases b;exact rfl)|(obtain⟨t,b⟩:=b;cases b)|skip
 all_goals(first|(cases b;done)|skip)
 all_goals(induction e:c.nf u using SV.casesOn<;>(rw[e]at h;(first|exact ai h|cases h)))
end
section
variable{c:Cv} {nx nx':Nat}
theorem Cv.esB_mem{es fs:List (SV×SV)}(h:c.esB nx' es fs=true){y:SV×SV}(hy:y∈fs):∃x∈es,c.same x.1 y.1=true/\c.vB nx' x.2 y.2=true:=by unfold Cv.esB at h;have q:=List.all_eq_true.mp h y hy;refine an (List.any_eq_true.mp q) ?_;intro x hx hq;rw[Bool.and_eq_true]at hq;exact⟨x,hx,hq⟩
theorem mV(i:Int):d7 i i=true:=bl.mpr rfl
theorem Cv.itB_mem{xs:List SV}{fs:List (SV×SV)}(h:c.itB nx' xs fs=true){y:SV×SV}(hy:y∈fs):∃(i:Nat),c.same (.int i) y.1=true/\∃u,nth xs i=some u/\c.vB nx' u y.2=true:=by
 unfold Cv.itB at h;have q:=List.all_eq_true.mp h y hy;split at q
 ·rename_i i e;split at q
  ·rename_i u hu;refine⟨i,?_,u,hu,q⟩;unfold Cv.same;rw[e];exact mV (Int.ofNat i)
  ·exact ai q
 ·exact ai q
theorem xz{G:Gr}{J:Nat->Nat}{nx:Nat}{i:Int}:∀{es:List (SV×SV)} {kvs:List (Int×Value)} {u:SV},ac (λ(x:SV×SV) (y:Int×Value)=>cp G x.1 y.1/\VR G J nx x.2 y.2) es kvs->EM i es=some u->∃val,valueAt kvs i=some val/\VR G J nx u val
 |[]=>by rename_i w1 u;intro al3;refine ac.nilE al3 ?_;clear al3;intro q';subst q';intro h;exact aa h
 |(k',v)::es=>by
  rename_i w1 u;intro al3;refine ac.consE al3 ?_;clear al3;intro y3' kvs q' ha3 h3;subst q';obtain⟨k'',val⟩:=y3';obtain⟨h1,h2⟩:=ha3;intro h;rw[fF];induction k' using SV.casesOn<;>first|((first|exact aa h|cases h);done)|skip
  rename_i j;have h1:k''=j:=h1;subst h1;refine xR h ?_ ?_<;>clear h
  ·intro e h;refine aB h ?_;clear h;intro h1;subst h1;rw[if_pos (bl.mp e)];exact⟨val,rfl,h2⟩
  ·intro e h;have ne:k''≠i:=λq=>by rw[bl.mpr q]at e;exact ul e
   rw[if_neg ne];exact xz h3 h
theorem Cv.skB_mem{es:List (Str×SV)}{fs:List (SV×SV)}(h:c.skB nx' es fs=true){y:SV×SV}(hy:y∈fs):∃i:Str,c.same (.str i) y.1=true/\∃u,bE es i=some u/\c.vB nx' u y.2=true:=by
 unfold Cv.skB at h;have q:=List.all_eq_true.mp h y hy;split at q
 ·rename_i i e;split at q
  ·rename_i u hu;refine⟨i,?_,u,hu,q⟩;unfold Cv.same;rw[e];exact aI.mpr rfl
  ·exact ai q
 ·exact ai q
theorem Cv.ikB_mem{es fs:List (SV×SV)}(h:c.ikB nx' es fs=true){y:SV×SV}(hy:y∈fs):∃i:Int,c.same (.int i) y.1=true/\∃u,EM i es=some u/\c.vB nx' u y.2=true:=by
 unfold Cv.ikB at h;have q:=List.all_eq_true.mp h y hy;split at q
 ·rename_i i e;split at q
  ·rename_i u hu;refine⟨i,?_,u,hu,q⟩;unfold Cv.same;rw[e];exact mV i
  ·exact ai q
 ·exact ai q
theorem Cv.oB_ok(k:dG c G.I I'){h:Heap}{a:Nat}{u v:SO}(q:c.oB nx' u v=true)(x:OR G J nx h a u)(l0:G.I.ol 0=[])(l0':I'.ol 0=[])(hl:∀o ys,(v=.lst o ys\/∃fs,v=.tab o fs ys)->o≠0->I'.ol o=bm h a)(hd:∀o,v=.hd o []->h.DictOfH (ay G.prog G.w) a (I'.od o)):OR (G.at I' h1) (J∘c.mu) nx' h a v:=by
 unfold Cv.oB at q;induction v using SO.casesOn<;>dsimp only at q<;>first|((first|exact ai q|cases q);done)|skip
 ·rename_i C d;induction u using SO.casesOn<;>first|((first|exact ai q|cases q);done)|skip
  dsimp only at q;rw[Bool.and_eq_true,Bool.and_eq_true]at q;refine l8 q ?_;clear q;intro q1 q2 q3;have q1:=Nat.eq_of_beq_eq_true q1;have q2:=Nat.eq_of_beq_eq_true q2;subst q1 q2;exact⟨Nat.le_of_ble_eq_true q3,x.2⟩
 ·rename_i fs;induction u using SO.casesOn<;>first|((first|exact ai q|cases q);done)|skip
  dsimp only at q;refine an x ?_;clear x;intro kvs dk al;exact⟨kvs,dk,Cv.sdB_ok k q al⟩
 ·rename_i o fs;rw[Bool.and_eq_true]at q;have e:=bq q.2;subst e;exact⟨[],⟨hd o rfl,List.nodup_nil⟩,.nil⟩
 ·rename_i ys;induction u using SO.casesOn<;>first|((first|exact ai q|cases q);done)|skip
  dsimp only at q;refine an x ?_;clear x;intro items z al;exact⟨items,z,Cv.vsB_ok k q al⟩
 ·rename_i o ys;induction u using SO.casesOn<;>first|((first|exact ai q|cases q);done)|skip
  rename_i o' xs;dsimp only at q;refine ap x ?_;clear x;intro items zs z e al;induction o using Nat.casesOn with
  |zero=>dsimp only at q;rw[Bool.and_eq_true]at q;have q1:=Nat.eq_of_beq_eq_true q.1;subst q1;refine⟨items,zs,z,?_,Cv.vsB_ok k q.2 al⟩;show _=I'.ol 0++_;rw[l0'];rw[l0]at e;exact e
  |succ o=>dsimp only at q;have e2:=bq q;subst e2;refine⟨items,[],z,?_,.nil⟩;show _=I'.ol (o+1)++_;rw[hl (o+1) [] (.inl rfl) (by simp),ft z.1,List.append_nil]
 ·rename_i w;induction u using SO.casesOn<;>first|((first|exact ai q|cases q);done)|skip
  rename_i w';dsimp only at q;unfold Cv.cellB at q;refine an x ?_;clear x;intro ov z m;refine⟨ov,z,?_⟩;induction w using Option.casesOn with
  |none=>
   induction w' using Option.casesOn with
   |none=>exact m
   |some u=>exact ai q
  |some v=>
   induction w' using Option.casesOn with
   |none=>exact ai q
   |some u=>
    induction ov using Option.casesOn with
    |none=>exact m
    |some val=>exact Cv.vB_ok k q m
 ·rename_i o fs ys;induction u using SO.casesOn<;>first|((first|exact ai q|cases q);done)|skip
  ·rename_i o' xs;dsimp only at q;rw[Bool.and_eq_true,Bool.and_eq_true,Bool.and_eq_true]at q;refine gM q ?_;clear q;intro q0 q1 q2 q3;have q0:=Nat.eq_of_beq_eq_true q0;subst q0;have e2:=bq q2;subst e2;refine ap x ?_;clear x;intro items zs z e al;rw[l0,List.nil_append]at e;have n1:o≠0:=by have:=Nat.le_of_ble_eq_true q1;exact Nat.ne_of_gt ‹_›
   have e3:I'.ol o=items.toList:=by rw[hl o [] (.inr ⟨fs,rfl⟩) n1,ft z.1]
   refine⟨items,[],z,⟨?_,n1⟩,.nil,λy hy=>?_⟩
   ·show _=I'.ol o++_;rw[e3,List.append_nil]
   ·refine ui (Cv.itB_mem q3 hy) ?_;intro i hs u hu hv;refine an (al.nth hu) ?_;intro val a1 a2;refine⟨i,val,Cv.num_ok k hs rfl,?_,Cv.vB_ok k hv a2⟩;show(I'.ol o)[i]?=some val;rw[e3,e];exact a1
  ·rename_i o' es xs;dsimp only at q;rw[Bool.and_eq_true,Bool.and_eq_true]at q;refine l8 q ?_;clear q;intro q1 q2 q3;have e2:=bq q2;subst e2;refine gd x ?_;clear x;intro items zs z q1' al f;obtain⟨e,n0⟩:=q1';have n1:o≠0:=by have:=Nat.le_of_ble_eq_true q1;exact Nat.ne_of_gt ‹_›
   have e3:I'.ol o=items.toList:=by rw[hl o [] (.inr ⟨fs,rfl⟩) n1,ft z.1]
   refine⟨items,[],z,⟨?_,n1⟩,.nil,λy hy=>?_⟩
   ·show _=I'.ol o++_;rw[e3,List.append_nil]
   ·refine dT (Cv.esB_mem q3 hy) ?_;intro x hx hs hv;refine ap (f x hx) ?_;intro i val a1 a2 a3;refine⟨i,val,Cv.num_ok k hs a1,?_,Cv.vB_ok k hv a3⟩;show(I'.ol o)[i]?=some val;rw[e3,e];have hlt:i<(G.I.ol o').length:=by
     rcases Nat.lt_or_ge i (G.I.ol o').length with h|h
     ·exact h
     ·rw[List.getElem?_eq_none h]at a2;exact aa a2
    rw[List.getElem?_append_left hlt];exact a2
 ·rename_i fs;induction u using SO.casesOn<;>first|((first|exact ai q|cases q);done)|skip
  ·dsimp only at q;refine an x ?_;clear x;intro kvs dk al;refine⟨kvs,dk,λy hy=>?_⟩;refine ui (Cv.skB_mem q hy) ?_;intro i hs u hu hv;have o:=fO i al;rw[hu]at o;induction e:valueAt kvs i using Option.casesOn with
   |none=>rw[e]at o;exact o.elim
   |some val=>rw[e]at o;exact⟨i,val,Cv.txt_ok k hs rfl,e,Cv.vB_ok k hv o⟩
  ·dsimp only at q;refine an x ?_;clear x;intro kvs dk f;refine⟨kvs,dk,λy hy=>?_⟩;refine dT (Cv.esB_mem q hy) ?_;intro x hx hs hv;refine ap (f x hx) ?_;intro i val a1 a2 a3;exact⟨i,val,Cv.txt_ok k hs a1,a2,Cv.vB_ok k hv a3⟩
 ·rename_i fs;induction u using SO.casesOn<;>first|((first|exact ai q|cases q);done)|skip
  ·rename_i es;dsimp only at q;refine an x ?_;clear x;intro kvs dk al;refine⟨kvs,dk,λy hy=>?_⟩;refine ui (Cv.ikB_mem q hy) ?_;intro i hs u hu hv;refine an (xz al hu) ?_;intro val o1 o2;exact⟨i,val,Cv.num_ok k hs rfl,o1,Cv.vB_ok k hv o2⟩
  ·dsimp only at q;refine an x ?_;clear x;intro kvs dk f;refine⟨kvs,dk,λy hy=>?_⟩;refine dT (Cv.esB_mem q hy) ?_;intro x hx hs hv;refine ap (f x hx) ?_;intro i val a1 a2 a3;exact⟨i,val,Cv.num_ok k hs a1,a2,Cv.vB_ok k hv a3⟩
theorem Cv.hpB_at{S T:St}:∀{N:Nat},c.hpB S T N=true->∀n,n<N->c.mu n<S.next/\∀v,T.hp.get n=some v->∃u,S.hp.get (c.mu n)=some u/\c.oB T.next u v=true
 |0=>by intro _ n hn;exact absurd ‹_› (Nat.not_lt_zero _)
 |N+1=>by
  intro h n hn;unfold Cv.hpB at h;rw[Bool.and_eq_true,Bool.and_eq_true]at h;rcases Nat.lt_or_ge n N with e|e
  ·exact hpB_at h.2.2 n e
  ·have:n=N:=by lia
   subst this;refine⟨Nat.le_of_ble_eq_true h.2.1,λv hv=>?_⟩;have q:=h.1;rw[hv]at q;dsimp only at q;split at q
   ·rename_i u hu;exact⟨u,hu,q⟩
   ·exact ai q
theorem Cv.conv{S T:St}{s:Shared}{L:Nat}(k:dG c G.I I')(chk:c.hpB S T T.next=true)(chl:c.locB S T=true)(inj:∀m n,m<T.next->n<T.next->c.mu m=c.mu n->m=n)(l0:G.I.ol 0=[])(l0':I'.ol 0=[])(hl:∀n o ys,n<T.next->(T.hp.get n=some (.lst o ys)\/∃fs,T.hp.get n=some (.tab o fs ys))->o≠0->I'.ol o=bm s.heap (J (c.mu n)))(hd:∀n o,n<T.next->T.hp.get n=some (.hd o [])->s.heap.DictOfH (ay G.prog G.w) (J (c.mu n)) (I'.od o))(tk:aq h1 s.heap)(r:SR G J S s L):SR (G.at I' h1) (J∘c.mu) T s L where
 hp:={
  obj:=λn v hn e=>by
   refine xA (Cv.hpB_at chk n hn) ?_;intro hm q
   refine an (q v e) ?_;intro u hu ho
   exact Cv.oB_ok k ho (r.hp.obj _ _ hm hu) l0 l0' (λo ys h n0=>hl n o ys hn (h.imp (λh=>by rw[e,h]) (λ⟨fs,h⟩=>⟨fs,by rw[e,h]⟩)) n0) (λo h=>hd n o hn (by rw[e,h]))
  lv:=λn hn=>r.hp.lv _ (Cv.hpB_at chk n hn).1
  inj:=λm n hm hn e=>inj m n hm hn (r.hp.inj _ _ (Cv.hpB_at chk m hm).1 (Cv.hpB_at chk n hn).1 e)
  off:=λn hn=>r.hp.off _ (Cv.hpB_at chk n hn).1
  base:=r.hp.base
  tk:=tk}
 lc:={
  ns:=by
   refine an r.lc.ns ?_;intro m hm f
   refine⟨m,hm,λx v hx=>?_⟩
   unfold Cv.locB at chl
   have q:=List.all_eq_true.mp chl (x,v) (iT hx)
   dsimp only at q
   split at q
   ·rename_i u hu
    refine an (f x u hu) ?_;intro val h1 h2
    exact⟨val,h1,Cv.vB_ok k q h2⟩
   ·exact ai q
  off:=r.lc.off
  ne:=λn hn=>r.lc.ne _ (Cv.hpB_at chk n hn).1}
end
noncomputable def fq:List (Nat×Nat):=[(1,2),(2,3),(3,4),(4,5),(5,6),(6,7),(7,8),(8,9),(9,10),(10,29),(11,49),(12,56),(13,63),(14,21),(15,32),(16,34),(17,35),(20,15),(21,17),(22,18),(23,19),(24,20)]
noncomputable def nH (T:St):Nat->Bool
 |0=>true
 |n+1=>(match T.hp.get n with
  |some (.lst (o+1) _)=>match bF fq (o+1)with
   |some m=>Nat.beq m n
   |none=>false
  |some (.tab (o+1) _ _)=>match bF fq (o+1)with
   |some m=>Nat.beq m n
   |none=>false
  |_=>true)&&nH T n
theorem jR{P:Prop}{x1:Option Nat}{f0:(Nat)->Bool}(h:(match x1 with|Option.some a1=>f0 a1|Option.none=>false)=true)(k0:∀a1,x1=Option.some a1->f0 a1=true->P):P:=by
 obtain⟨z1,e1⟩:∃z,x1=z:=⟨_,rfl⟩
 rw[e1]at h;induction z1 using Option.casesOn with
 |some y1'0=>exact k0 _ e1 h
 |_=>exact ai h
theorem kc{T:St}:∀{N:Nat},nH T N=true->∀n o ys,n<N->(T.hp.get n=some (.lst o ys)\/∃fs,T.hp.get n=some (.tab o fs ys))->o≠0->bF fq o=some n
 |0=>by intro _ n o ys hn _ _;exact absurd ‹_› (Nat.not_lt_zero _)
 |N+1=>by
  intro h n o ys hn e n0;replace h:=Bool.and_eq_true_iff.mp h;rcases Nat.lt_or_ge n N with l|l
  ·exact kc h.2 n o ys l e n0
  ·have:n=N:=by lia
   subst this;have q:=h.1;obtain⟨o,rfl⟩:∃k,o=k+1:=⟨o -1,by lia⟩
   rcases e with e|⟨fs,e⟩
   ·rw[e]at q;dsimp only at q;refine jR q ?_;clear q;intro m hm q;rw[hm,Nat.eq_of_beq_eq_true q]
   ·rw[e]at q;dsimp only at q;refine jR q ?_;clear q;intro m hm q;rw[hm,Nat.eq_of_beq_eq_true q]
theorem iy(so ro ky:SV)(lc:List (Str×SV)):nH (iz so ro ky lc) 66=true:=by kernel_rfl!
namespace Cv
variable(c:Cv)
noncomputable def nu (I:IP) (x:Nat):Int:=match bF c.dl x with
 |some (.int i)=>i
 |some (.sym y l)=>I.nu y+l
 |_=>I.nu x
noncomputable def ss (I:IP) (x:Nat):Str:=match bF c.sy x with
 |some y=>I.ss y
 |none=>I.ss x
noncomputable def toI (I:IP) (h:Heap) (J:Nat->Nat) (od:Nat->List (KD×Addr×Value)):IP where
 nu:=c.nu I
 ol o:=match bF fq o with
  |some n=>bm h (J (c.mu n))
  |none=>match o with
   |0=>[]
   |_=>List.replicate (c.nu I (1000+o)).toNat .none
 od:=od
 ss:=c.ss I
noncomputable def lenB1 (o o1:Nat) (n:Nat):Bool:=Nat.ble n 200&&cj (c.sb (.sym (1000+o) 0)) (match o1 with
 |0=>.int n
 |k+1=>.sym (1000+(k+1)) n)
noncomputable def lenB (S:St):Bool:=(fq.all λx=>match S.hp.get (c.mu x.2)with
  |some (.lst o1 xs)=>c.lenB1 x.1 o1 xs.length
  |some (.tab o1 _ xs)=>c.lenB1 x.1 o1 xs.length
  |_=>false)&&c.dl.all λx=>match Nat.ble x.1 1000 with
  |true=>true
  |false=>match bF fq (x.1 -1000)with
   |some _=>true
   |none=>match x.2 with
    |.int i=>mS 0 i&&mS i 1000
    |.sym y l=>Nat.ble 1001 y&&(mS 0 l&&mS l 200)
    |_=>false
end Cv
section
variable{c:Cv} {T:St} {od:Nat->List (KD×Addr×Value)}
theorem Cv.toI_ok(I:IP)(h:Heap)(J:Nat->Nat)(od:Nat->List (KD×Addr×Value))(fx:∀x i,bF c.fx x=some i->I.nu x=i)(sx:∀x s,bF c.sx x=some s->I.ss x=s):dG c I (c.toI I h J od)where
 nu x:=by
  show match bF c.dl x with
  |some (.int i)=>c.nu I x=i
  |some (.sym y l)=>c.nu I x=I.nu y+l
  |some _=>True
  |none=>c.nu I x=I.nu x
  unfold Cv.nu
  induction e:bF c.dl x using Option.casesOn with
  |none=>rfl
  |some v=>induction v using SV.casesOn<;>first|rfl|trivial
 sy x:=by
  show match bF c.sy x with
  |some y=>c.ss I x=I.ss y
  |none=>c.ss I x=I.ss x
  unfold Cv.ss
  induction e:bF c.sy x using Option.casesOn<;>rfl
 fx:=fx
 sx:=sx
theorem A'{I:IP}{x:Nat}{v:SV}(h:cj (c.sb (.sym x 0)) v=true)(j:Int)(hv:match v with|.int i=>j=i|.sym y l=>j=I.nu y+l|_=>False):c.nu I x=j:=by
 unfold Cv.nu;unfold Cv.sb at h;dsimp only at h;induction e:bF c.dl x using Option.casesOn with
 |none=>
  rw[e]at h;dsimp only at h|-;induction v using SV.casesOn<;>first|((first|exact ai h|cases h);done)|skip
  unfold cj at h;rw[Bool.and_eq_true]at h;have a:=Nat.eq_of_beq_eq_true h.1;have b:=bl.mp h.2;subst a b;dsimp only at hv;lia
 |some u=>
  rw[e]at h;induction u using SV.casesOn<;>(try dsimp only at h)<;>(try dsimp only)<;>induction v using SV.casesOn<;>first|((first|exact ai h|cases h);done)|skip
  ·have b:=bl.mp h;subst b;dsimp only at hv;lia
  ·unfold cj at h;rw[Bool.and_eq_true]at h;have a:=Nat.eq_of_beq_eq_true h.1;have b:=bl.mp h.2;subst a b;dsimp only at hv;lia
theorem dZ{n o1:Nat}{xs:List SV}(hp:Hp G J S s.heap)(hn:n<S.next)(e:S.hp.get n=some (.lst o1 xs)\/∃fs,S.hp.get n=some (.tab o1 fs xs)):∃ys,bm s.heap (J n)=G.I.ol o1++ys/\ac (VR G J S.next) xs ys:=by
 rcases e with e|⟨fs,e⟩
 ·refine ap (hp.obj n _ hn e) ?_;intro items ys z q al;exact⟨ys,by rw[ft z.1,q],al⟩
 ·refine gd (hp.obj n _ hn e) ?_;intro items ys z q al _;exact⟨ys,by rw[ft z.1,q.1],al⟩
theorem Cv.toI_Ok(ok:G.I.Ok)(hp:Hp G J S s.heap)(hS:∀x∈fq,c.mu x.2<S.next)(chk:c.lenB S=true){B:Nat}(hB:∀o,(G.I.ol o).length<=B)(B2:1000<=B)(B3:B+200<=100000)(d0:od 0=[])(dB:∀o,(od o).length<=100000)(rg:∀x lo hi,zj x=some (lo,hi)->lo<=c.nu G.I x/\c.nu G.I x<=hi)(ch:∀x,yP x≠[]->∃j∈yP x,c.nu G.I x=((j:Nat):Int)):(c.toI G.I s.heap J od).Ok/\∀o,((c.toI G.I s.heap J od).ol o).length<=B+200:=by
 unfold Cv.lenB at chk;rw[Bool.and_eq_true]at chk;refine xA chk ?_;clear chk;intro k1 k2;have known:∀o n,bF fq o=some n->(c.nu G.I (1000+o)=((bm s.heap (J (c.mu n))).length:Int))/\(bm s.heap (J (c.mu n))).length<=B+200:=by
  intro o n e;have mem:=aP e;have q:=List.all_eq_true.mp k1 _ mem;have lt:=hS _ mem;dsimp only at q lt;have main:∀o1 xs,(S.hp.get (c.mu n)=some (.lst o1 xs)\/∃fs,S.hp.get (c.mu n)=some (.tab o1 fs xs))->c.lenB1 o o1 xs.length=true->(c.nu G.I (1000+o)=((bm s.heap (J (c.mu n))).length:Int))/\(bm s.heap (J (c.mu n))).length<=B+200:=by
   intro o1 xs e q;refine an (dZ hp lt e) ?_;intro ys hy al;unfold Cv.lenB1 at q;rw[Bool.and_eq_true]at q;have len:(bm s.heap (J (c.mu n))).length=(G.I.ol o1).length+xs.length:=by rw[hy,List.length_append,al.length]
   have b1:=Nat.le_of_ble_eq_true q.1;have b2:=hB o1;refine⟨A' q.2 _ ?_,by lia⟩;induction o1 using Nat.casesOn with
   |zero=>dsimp only;rw[len,ok.l0];simp
   |succ k=>dsimp only;rw[ok.len (k+1) (by simp),len];rfl
  split at q
  ·rename_i o1 xs e;exact main o1 xs (.inl e) q
  ·rename_i o1 fs xs e;exact main o1 xs (.inr ⟨fs,e⟩) q
  ·exact ai q
 have other:∀o,o≠0->bF fq o=none->0<=c.nu G.I (1000+o)/\c.nu G.I (1000+o)<=B+200:=by
  intro o n0 e;induction d:bF c.dl (1000+o)using Option.casesOn with
  |none=>
   have:c.nu G.I (1000+o)=G.I.nu (1000+o):=by unfold Cv.nu;rw[d]
   rw[this,ok.len o n0];have:=hB o;lia
  |some v=>
   have q:=List.all_eq_true.mp k2 _ (aP d);dsimp only at q;have h1:Nat.ble (1000+o) 1000=false:=by
    induction h:Nat.ble (1000+o) 1000 using Bool.casesOn with
    |false=>rfl
    |true=>have:=Nat.le_of_ble_eq_true h;lia
   have h2:1000+o -1000=o:=by simp
   rw[h1,h2,e]at q;dsimp only at q;unfold Cv.nu;rw[d];induction v using SV.casesOn<;>dsimp only at q|-<;>first|((first|exact ai q|cases q);done)|skip
   ·rw[Bool.and_eq_true,ci,ci,decide_eq_true_eq,decide_eq_true_eq]at q;lia
   ·rename_i y l;rw[Bool.and_eq_true,Bool.and_eq_true,ci,ci,decide_eq_true_eq,decide_eq_true_eq]at q;have y1:=Nat.le_of_ble_eq_true q.1;have:=ok.len (y -1000) (by lia);have e2:1000+(y -1000)=y:=by lia
    rw[e2]at this;have:=hB (y -1000);lia
 have lens:∀o,((c.toI G.I s.heap J od).ol o).length<=B+200/\(o≠0->(c.toI G.I s.heap J od).nu (1000+o)=((c.toI G.I s.heap J od).ol o).length):=by
  intro o
  show(match bF fq o with
   |some n=>bm s.heap (J (c.mu n))
   |none=>match o with
    |0=>[]
    |_=>List.replicate (c.nu G.I (1000+o)).toNat .none).length<=B+200/\(o≠0->c.nu G.I (1000+o)=(match bF fq o with
   |some n=>bm s.heap (J (c.mu n))
   |none=>match o with
    |0=>[]
    |_=>List.replicate (c.nu G.I (1000+o)).toNat .none).length)
  induction e:bF fq o using Option.casesOn with
  |some n=>dsimp only;have:=known o n e;exact⟨this.2,λ_=>this.1⟩
  |none=>
   induction o using Nat.casesOn with
   |zero=>exact⟨by show 0<=_;exact Nat.zero_le _,λh=>(h rfl).elim⟩
   |succ o=>
    refine xA (other (o+1) (by simp) e) ?_;intro a b;show(List.replicate (c.nu G.I (1000+(o+1))).toNat (Value.none)).length<=B+200/\(o+1≠0->c.nu G.I (1000+(o+1))=((List.replicate (c.nu G.I (1000+(o+1))).toNat (Value.none)).length:Int))
    rw[List.length_replicate];exact⟨by lia,λ_=>by lia⟩
 refine⟨⟨rfl,d0,λo n0=>(lens o).2 n0,λo=>by have:=(lens o).1;exact Nat.le_trans ‹_› ‹_›,dB,λx=>?_,λx lo hi e=>rg x lo hi e,ch⟩,λo=>(lens o).1⟩;show∃ch,(c.ss G.I x).cps.toList=[ch]
 unfold Cv.ss;cases bF c.sy x<;>exact ok.ss1 _
end
inductive El where
 |it
 |fld (C:Nat) (x:Str)
inductive Sh where
 |one (e:El)
 |tup (es:List El)
noncomputable def Nm (J:Nat->Nat) (L:Nat):Nat->Prop:=λa=>a=L\/∃n,n<66/\J n=a
section
variable(prog:Program) (w:World)
noncomputable def dL (h:Heap) (N:Nat->Prop):El->Value->KI->Prop
 |.it,v,k=>KI.isR prog w h k v
 |.fld C x,v,k=>∃a d kvs u q,v=.ref a/\(¬N a/\¬N d)/\h.get? a=some (instObj C d)/\h.DictOf (strKind prog w) d kvs/\valueAt kvs x=some u/\k=.a q/\KA.isB q u=true
inductive bC (h:Heap) (N:Nat->Prop):List El->List Value->KD->Prop
 |nil:bC h N [] [] []
 |cons {e v k es vs ks}:dL prog w h N e v k->bC h N es vs ks->bC h N (e::es) (v::vs) (k::ks)
noncomputable def bg (h:Heap) (N:Nat->Prop):Sh->KD->Value->Prop
 |.one e,kd,v=>∃k,kd=[k]/\dL prog w h N e v k
 |.tup es,kd,v=>∃a o items n,v=.ref a/\h.get? a=some o/\o.cls=.type "tuple"/\o.data=.seq items n/\bC prog w h N es items.toList kd
end
section
variable{prog:Program} {N:Nat->Prop}
theorem KI.isR_keep(kt:aq h h'){k:KI}{v:Value}(x:KI.isR prog w h k v):KI.isR prog w h' k v:=by
 induction k using KI.casesOn with
 |a k=>exact x
 |t ks=>refine vk x ?_;clear x;intro a q1';subst q1';intro o items n e c d i;exact⟨a,rfl,o,items,n,kt a o e c ⟨_,_,d⟩,c,d,i.keeps_a⟩
theorem dL.keep(kt:aq h h')(kn:∀a o,h.get? a=some o->¬N a->h'.get? a=some o){e:El}{v:Value}{k:KI}(x:dL prog w h N e v k):dL prog w h' N e v k:=by
 induction e using El.casesOn with
 |it=>exact KI.isR_keep kt x
 |fld C y=>refine hH x ?_;clear x;intro a d kvs u q q1';subst q1';intro n g q2' r;obtain⟨ob,en,ep,h1,h2⟩:=q2';exact⟨a,d,kvs,u,q,rfl,n,kn _ _ g n.1,⟨ob,en,ep,kn _ _ h1 n.2,h2⟩,r⟩
theorem bC.keep(kt:aq h h')(kn:∀a o,h.get? a=some o->¬N a->h'.get? a=some o){e:List El}{v:List Value}{k:KD}(x:bC prog w h N e v k):bC prog w h' N e v k:=by
 induction x with
 |nil=>exact .nil
 |cons a _ ih=>exact .cons (a.keep kt kn) ih
theorem bg.keep(kt:aq h h')(kn:∀a o,h.get? a=some o->¬N a->h'.get? a=some o){e:Sh}{v:Value}{k:KD}(x:bg prog w h N e k v):bg prog w h' N e k v:=by
 induction e using Sh.casesOn with
 |one e=>obtain⟨k,a,b⟩:=x;exact⟨k,a,b.keep kt kn⟩
 |tup es=>refine dh x ?_;clear x;intro a o items n e1 e2 c d i;exact⟨a,o,items,n,e1,kt a o e2 c ⟨_,_,d⟩,c,d,i.keep kt kn⟩
theorem dL.names{N':Nat->Prop}(hN:∀a,N' a->N a){e:El}{v:Value}{k:KI}(x:dL prog w h N e v k):dL prog w h N' e v k:=by
 induction e using El.casesOn with
 |it=>exact x
 |fld C y=>refine pQ x ?_;clear x;intro a d kvs u q q1';subst q1';intro n r;exact⟨a,d,kvs,u,q,rfl,⟨λq=>n.1 (hN _ q),λq=>n.2 (hN _ q)⟩,r⟩
theorem bC.names{N':Nat->Prop}(hN:∀a,N' a->N a){e:List El}{v:List Value}{k:KD}(x:bC prog w h N e v k):bC prog w h N' e v k:=by
 induction x with
 |nil=>exact .nil
 |cons a _ ih=>exact .cons (a.names hN) ih
theorem bg.names{N':Nat->Prop}(hN:∀a,N' a->N a){e:Sh}{v:Value}{k:KD}(x:bg prog w h N e k v):bg prog w h N' e k v:=by
 induction e using Sh.casesOn with
 |one e=>obtain⟨k,a,b⟩:=x;exact⟨k,a,b.names hN⟩
 |tup es=>refine dh x ?_;clear x;intro a o items n e1 e2 c d i;exact⟨a,o,items,n,e1,e2,c,d,i.names hN⟩
end
noncomputable def Ej (S:St) (e:El) (v:SV):Option SK1:=match e with
 |.it=>match v with
  |.ref n=>match S.hp.get n with
   |some (.tup vs)=>match fA vs with
    |true=>some (.t vs)
    |false=>none
   |_=>none
  |v=>match d6 v with
   |true=>some (.a v)
   |false=>none
 |.fld C x=>match v with
  |.ref n=>match S.hp.get n with
   |some (.inst C' d)=>match Nat.beq C' C&&(Nat.ble 66 n&&(Nat.ble 66 d&&Nat.blt d S.next))with
    |true=>match S.hp.get d with
     |some (.sd es)=>match bE es x with
      |some u=>match d6 u with
       |true=>some (.a u)
       |false=>none
      |none=>none
     |_=>none
    |false=>none
   |_=>none
  |_=>none
theorem vQ{γ:Type}{r:γ}{P:Prop}{x1:Option Mine.SO}{f0:(Nat)->(Nat)->Option γ}(h:(match x1 with|Option.some (Mine.SO.inst a1 a2)=>f0 a1 a2|a1=>none)=some r)(k0:∀a1 a2,x1=Option.some (Mine.SO.inst a1 a2)->f0 a1 a2=some r->P):P:=by
 obtain⟨z1,e1⟩:∃z,x1=z:=⟨_,rfl⟩
 rw[e1]at h;induction z1 using Option.casesOn with
 |some y1'0=>
  induction y1'0 using SO.casesOn with
  |inst y2'0 y2'1=>exact k0 _ _ e1 h
  |_=>exact aa h
 |_=>exact aa h
theorem vR{γ:Type}{r:γ}{P:Prop}{x1:Option Mine.SO}{f0:(List (PySem.Str×Mine.SV))->Option γ}(h:(match x1 with|Option.some (Mine.SO.sd a1)=>f0 a1|a1=>none)=some r)(k0:∀a1,x1=Option.some (Mine.SO.sd a1)->f0 a1=some r->P):P:=by
 obtain⟨z1,e1⟩:∃z,x1=z:=⟨_,rfl⟩
 rw[e1]at h;induction z1 using Option.casesOn with
 |some y1'0=>
  induction y1'0 using SO.casesOn with
  |sd y2'0=>exact k0 _ e1 h
  |_=>exact aa h
 |_=>exact aa h
theorem vT{γ:Type}{r:γ}{P:Prop}{x1:Option Mine.SV}{f0:(Mine.SV)->Option γ}(h:(match x1 with|Option.some a1=>f0 a1|Option.none=>none)=some r)(k0:∀a1,x1=Option.some a1->f0 a1=some r->P):P:=by
 obtain⟨z1,e1⟩:∃z,x1=z:=⟨_,rfl⟩
 rw[e1]at h;induction z1 using Option.casesOn with
 |some y1'0=>exact k0 _ e1 h
 |_=>exact aa h
theorem mY{γ:Type}{r:γ}{P:Prop}{x1:Mine.SV}{f0:(Nat)->Option γ}(h:(match x1 with|Mine.SV.ref a1=>f0 a1|a1=>none)=some r)(k0:∀a1,x1=Mine.SV.ref a1->f0 a1=some r->P):P:=by
 obtain⟨z1,e1⟩:∃z,x1=z:=⟨_,rfl⟩
 rw[e1]at h;induction z1 using SV.casesOn with
 |ref y1'0=>exact k0 _ e1 h
 |_=>exact aa h
theorem xS{γ:Type}{r:γ}{P:Prop}{x1:Mine.SV}{f0:(Nat)->Option γ}{f1:(Mine.SV)->Option γ}(h:(match x1 with|Mine.SV.ref a1=>f0 a1|a1=>f1 a1)=some r)(k0:∀a1,x1=Mine.SV.ref a1->f0 a1=some r->P)(k1:∀a1,x1=a1->f1 a1=some r->P):P:=by
 obtain⟨z1,e1⟩:∃z,x1=z:=⟨_,rfl⟩
 rw[e1]at h;induction z1 using SV.casesOn with
 |none=>exact k1 _ e1 h
 |bool y1'0=>exact k1 _ e1 h
 |int y1'0=>exact k1 _ e1 h
 |sym y1'0 y1'1=>exact k1 _ e1 h
 |str y1'0=>exact k1 _ e1 h
 |ref y1'0=>exact k0 _ e1 h
 |top y1'0=>exact k1 _ e1 h
 |bi y1'0=>exact k1 _ e1 h
 |ss y1'0=>exact k1 _ e1 h
 |any=>exact k1 _ e1 h
theorem mZ{γ:Type}{r:γ}{P:Prop}{x1:Option Mine.SO}{f0:(List Mine.SV)->Option γ}(h:(match x1 with|Option.some (Mine.SO.tup a1)=>f0 a1|a1=>none)=some r)(k0:∀a1,x1=Option.some (Mine.SO.tup a1)->f0 a1=some r->P):P:=by
 obtain⟨z1,e1⟩:∃z,x1=z:=⟨_,rfl⟩
 rw[e1]at h;induction z1 using Option.casesOn with
 |some y1'0=>
  induction y1'0 using SO.casesOn with
  |tup y2'0=>exact k0 _ e1 h
  |_=>exact aa h
 |_=>exact aa h
theorem gK{γ:Type}{r:γ}{P:Prop}{x1:Bool}{f0:Option γ}(h:(match x1 with|Bool.true=>f0|Bool.false=>none)=some r)(k0:x1=Bool.true->f0=some r->P):P:=by
 obtain⟨z1,e1⟩:∃z,x1=z:=⟨_,rfl⟩
 rw[e1]at h;induction z1 using Bool.casesOn with
 |true=>exact k0 e1 h
 |_=>exact aa h
noncomputable def CN (S:St):List El->List SV->Option SK
 |[],[]=>some []
 |e::es,v::vs=>match Ej S e v with
  |some k=>match CN S es vs with
   |some ks=>some (k::ks)
   |none=>none
  |none=>none
 |_,_=>none
theorem lu{γ:Type}{r:γ}{P:Prop}{x1:Option Mine.SK1}{f0:(Mine.SK1)->Option γ}(h:(match x1 with|Option.some a1=>f0 a1|Option.none=>none)=some r)(k0:∀a1,x1=Option.some a1->f0 a1=some r->P):P:=by
 obtain⟨z1,e1⟩:∃z,x1=z:=⟨_,rfl⟩
 rw[e1]at h;induction z1 using Option.casesOn with
 |some y1'0=>exact k0 _ e1 h
 |_=>exact aa h
theorem tA{γ:Type}{r:γ}{P:Prop}{x1:Option Mine.SK}{f0:(Mine.SK)->Option γ}(h:(match x1 with|Option.some a1=>f0 a1|Option.none=>none)=some r)(k0:∀a1,x1=Option.some a1->f0 a1=some r->P):P:=by
 obtain⟨z1,e1⟩:∃z,x1=z:=⟨_,rfl⟩
 rw[e1]at h;induction z1 using Option.casesOn with
 |some y1'0=>exact k0 _ e1 h
 |_=>exact aa h
noncomputable def C3 (S:St) (e:Sh) (v:SV):Option SK:=match e with
 |.one e=>match Ej S e v with
  |some k=>some [k]
  |none=>none
 |.tup es=>match v with
  |.ref n=>match S.hp.get n with
   |some (.tup vs)=>CN S es vs
   |_=>none
  |_=>none
theorem SR.notNm(r:SR G J S s L){n:Nat}(hn:n<S.next)(h:66<=n):¬Nm J L (J n):=by
 rintro(e|⟨m,hm,e⟩)
 ·exact r.lc.ne n hn e
 ·have:=r.hp.inj m n (by lia) hn e;lia
theorem yF(r:SR G J S s L){e:El}{v:SV}{val:Value}{k:SK1}(h:Ej S e v=some k)(x:VR G J S.next v val):∃kd,Dp G k kd/\dL G.prog G.w s.heap (Nm J L) e val kd:=by
 have atom:∀{u:SV} {val:Value},d6 u=true->VR G J S.next u val->∃q,cP G u q/\KA.isB q val=true:=λa b=>cP.of a b;induction e using El.casesOn with
 |it=>
  unfold Ej at h;dsimp only at h;refine xS h ?_ ?_<;>clear h
  ·intro n e0' h;subst e0';refine xA x ?_;clear x;intro hn q1';subst q1';refine mZ h ?_;clear h;intro vs ho h;refine gK h ?_;clear h;intro hat h;refine aB h ?_;clear h;intro h1;subst h1;refine an (r.hp.obj n _ hn ho) ?_;intro items q1' w1;obtain⟨⟨ob,g1,g2,m,g3⟩,z⟩:=q1';obtain⟨qs,c,e⟩:=cP.atoms (h:=s.heap) hat w1;exact⟨.t qs,⟨qs,rfl,c⟩,_,rfl,ob,items,m,g1,g2,g3,e⟩
  ·intro _ e0' h;subst e0';refine gK h ?_;clear h;intro hat h;refine aB h ?_;clear h;intro h1;subst h1;refine an (atom hat x) ?_;intro q a b;exact⟨.a q,⟨q,rfl,a⟩,b⟩
 |fld C y=>
  unfold Ej at h;dsimp only at h;refine mY h ?_;clear h;intro n e0' h;subst e0';refine xA x ?_;clear x;intro hn q1';subst q1';refine vQ h ?_;clear h;intro C' d ho h;refine gK h ?_;clear h;intro c h;rw[Bool.and_eq_true,Bool.and_eq_true,Bool.and_eq_true]at c;refine gM c ?_;clear c;intro c1 c2 c3 c4;have c1:=Nat.eq_of_beq_eq_true c1;have c2:=Nat.le_of_ble_eq_true c2;have c3:=Nat.le_of_ble_eq_true c3;subst c1;refine vR h ?_;clear h;intro es hd h;refine vT h ?_;clear h;intro u hu h;refine gK h ?_;clear h;intro hat h;refine aB h ?_;clear h;intro h1;subst h1;refine xA (r.hp.obj n _ hn ho) ?_;intro lt g;refine an (r.hp.obj d _ lt hd) ?_;intro kvs dk al;have o:=fO y al;rw[hu]at o;induction e:valueAt kvs y using Option.casesOn with
  |none=>rw[e]at o;exact o.elim
  |some val=>rw[e]at o;refine an (atom hat o) ?_;intro q a b;exact⟨.a q,⟨q,rfl,a⟩,J n,J d,kvs,val,q,rfl,⟨r.notNm hn c2,r.notNm lt c3⟩,g,dk,e,rfl,b⟩
theorem u0(r:SR G J S s L):∀{es:List El} {vs:List SV} {vals:List Value} {ks:SK},CN S es vs=some ks->ac (VR G J S.next) vs vals->∃kd,KR G ks kd/\bC G.prog G.w s.heap (Nm J L) es vals kd
 |[],[],_,ks,h,.nil=>by refine aB h ?_;clear h;intro h1;subst h1;exact⟨[],.nil,.nil⟩
 |e::es,v::vs,_,ks,h,.cons a b=>by refine lu h ?_;clear h;intro k hk h;refine tA h ?_;clear h;intro ks' hks h;refine aB h ?_;clear h;intro h1;subst h1;refine an (yF r hk a) ?_;intro q q1 q2;refine an (u0 r hks b) ?_;intro kd d1 d2;exact⟨q::kd,.cons q1 d1,.cons q2 d2⟩
 |[],_::_,_,ks,h,_=>by exact aa h
 |_::_,[],_,ks,h,_=>by exact aa h
theorem wM(r:SR G J S s L){e:Sh}{v:SV}{val:Value}{k:SK}(h:C3 S e v=some k)(x:VR G J S.next v val):∃kd,KR G k kd/\bg G.prog G.w s.heap (Nm J L) e kd val:=by
 induction e using Sh.casesOn with
 |one e=>unfold C3 at h;dsimp only at h;refine lu h ?_;clear h;intro k' hk h;refine aB h ?_;clear h;intro h1;subst h1;refine an (yF r hk x) ?_;intro q q1 q2;exact⟨[q],.cons q1 .nil,q,rfl,q2⟩
 |tup es=>unfold C3 at h;dsimp only at h;refine mY h ?_;clear h;intro n e0' h;subst e0';refine xA x ?_;clear x;intro hn q1';subst q1';refine mZ h ?_;clear h;intro vs ho h;refine an (r.hp.obj n _ hn ho) ?_;intro items q1' w1;obtain⟨⟨ob,g1,g2,m,g3⟩,z⟩:=q1';refine an (u0 r h w1) ?_;intro kd d1 d2;exact⟨kd,d1,J n,ob,items,m,rfl,g1,g2,g3,d2⟩
section
variable(G:Gr)
noncomputable def mw (h:Heap) (o:Nat):Prop:=∀v∈G.I.ol o,∃a kd,v=.ref a/\cI (ak G.prog G.w) h kd a
noncomputable def eY (h:Heap) (o:Nat) (q:SK):Prop:=∃v∈G.I.ol o,∃a kd,KR G q kd/\v=.ref a/\cI (ak G.prog G.w) h kd a
noncomputable def vg (o:Nat) (q:SK):Prop:=∃kd,KR G q kd/\(atKey (G.I.od o) kd).isSome=true
end
inductive pK where
 |kl (k:SK) (o:Nat) (q:SK)
 |lk (k:SK) (o:Nat) (q:SK)
 |nv (k:SK)
noncomputable def pJ (G:Gr) (h:Heap):pK->Prop
 |.kl k o q=>vg G 2 k->eY G h o q
 |.lk k o q=>eY G h o q->vg G 2 k
 |.nv k=>¬vg G 2 k
noncomputable def bh (S:St) (n:Nat):List SV:=match S.hp.get n with
 |some (.lst _ xs)=>xs
 |some (.tab _ _ xs)=>xs
 |_=>[]
noncomputable def xV (k:SK):List (SK×SV)->Option Bool
 |[]=>some false
 |(k',_)::r=>match Br k' k with
  |some true=>some true
  |some false=>xV k r
  |none=>none
theorem jX{γ:Type}{r:γ}{P:Prop}{x1:Option Bool}{f0:Option γ}{f1:Option γ}(h:(match x1 with|Option.some Bool.true=>f0|Option.some Bool.false=>f1|Option.none=>none)=some r)(k0:x1=Option.some Bool.true->f0=some r->P)(k1:x1=Option.some Bool.false->f1=some r->P):P:=by
 obtain⟨z1,e1⟩:∃z,x1=z:=⟨_,rfl⟩
 rw[e1]at h;induction z1 using Option.casesOn with
 |some y1'0=>
  induction y1'0 using Bool.casesOn with
  |false=>exact k1 e1 h
  |true=>exact k0 e1 h
 |_=>exact aa h
noncomputable def xU (S:St) (q:SK):List SV->Option Bool
 |[]=>some false
 |x::r=>match ma S.hp x with
  |some k=>match Br k q with
   |some true=>some true
   |some false=>xU S q r
   |none=>none
  |none=>none
theorem qS{γ:Type}{r:γ}{P:Prop}{x1:Option Mine.SK}{f0:(Mine.SK)->Option γ}(h:(match x1 with|Option.some a1=>f0 a1|Option.none=>none)=some r)(k0:∀a1,x1=Option.some a1->f0 a1=some r->P):P:=by
 obtain⟨z1,e1⟩:∃z,x1=z:=⟨_,rfl⟩
 rw[e1]at h;induction z1 using Option.casesOn with
 |some y1'0=>exact k0 _ e1 h
 |_=>exact aa h
noncomputable def wf (S:St) (n:Nat):List (SK×SV):=match S.hp.get n with
 |some (.hd _ es)=>es
 |_=>[]
noncomputable def vY (S:St) (o:Nat) (q:SK):Option Bool:=match bF fq o with
 |some n=>xU S q (bh S n)
 |none=>none
theorem lr{γ:Type}{r:γ}{P:Prop}{x1:Option Nat}{f0:(Nat)->Option γ}(h:(match x1 with|Option.some a1=>f0 a1|Option.none=>none)=some r)(k0:∀a1,x1=Option.some a1->f0 a1=some r->P):P:=by
 obtain⟨z1,e1⟩:∃z,x1=z:=⟨_,rfl⟩
 rw[e1]at h;induction z1 using Option.casesOn with
 |some y1'0=>exact k0 _ e1 h
 |_=>exact aa h
noncomputable def xW (S:St) (q:SK):Option Bool:=xV q (wf S 36)
namespace Cv
variable(c:Cv)
noncomputable def stV (v:SV):Bool:=cj (c.sb v) v
noncomputable def stVs:List SV->Bool
 |[]=>true
 |v::r=>c.stV v&&stVs r
noncomputable def stK:SK->Bool
 |[]=>true
 |.a v::r=>c.stV v&&stK r
 |.t vs::r=>c.stVs vs&&stK r
noncomputable def relB (S:St):pK->Bool
 |.kl k o q=>c.stK k&&(c.stK q&&(match xW S k with
  |some false=>true
  |some true=>match vY S o q with
   |some true=>true
   |_=>false
  |none=>false))
 |.lk k o q=>c.stK k&&(c.stK q&&(match vY S o q with
  |some false=>true
  |some true=>match xW S k with
   |some true=>true
   |_=>false
  |none=>false))
 |.nv k=>c.stK k&&(match xW S k with
  |some false=>true
  |_=>false)
end Cv
section
variable{c:Cv}
theorem BO(k:dG c G.I I'){x:Nat}{n:Int}(h:c.stV (.sym x n)=true):I'.nu x=G.I.nu x:=by
 have q:=k.nu x;unfold Cv.stV Cv.sb at h;dsimp only at h;induction e:bF c.dl x using Option.casesOn with
 |none=>rw[e]at q;exact q
 |some v=>
  rw[e]at h q;induction v using SV.casesOn<;>first|((first|exact ai h|cases h);done)|skip
  unfold cj at h;dsimp only at h q;rw[Bool.and_eq_true]at h;have a:=Nat.eq_of_beq_eq_true h.1;have b:=bl.mp h.2;subst a;rw[q];lia
theorem BN(k:dG c G.I I'){x:Nat}(h:c.stV (.ss x)=true):I'.ss x=G.I.ss x:=by
 have q:=k.sy x;unfold Cv.stV Cv.sb at h;dsimp only at h;induction e:bF c.sy x using Option.casesOn with
 |none=>rw[e]at q;exact q
 |some v=>rw[e]at h q;unfold cj at h;dsimp only at h q;have a:=Nat.eq_of_beq_eq_true h;subst a;exact q
theorem cP.st(k:dG c G.I I'){v:SV}{q:KA}(h:c.stV v=true):cP (G.at I' h1) v q↔cP G v q:=by
 induction v using SV.casesOn<;>try exact Iff.rfl
 ·rename_i x n;show q=.i (I'.nu x+n)↔q=.i (G.I.nu x+n);rw[BO k h]
 ·rename_i x;show q=.s (I'.ss x)↔q=.s (G.I.ss x);rw[BN k h]
theorem KA1s.st(k:dG c G.I I'):∀{vs:List SV} {qs:List KA},c.stVs vs=true->(ac (cP (G.at I' h1)) vs qs↔ac (cP G) vs qs)
 |[]=>by rename_i qs;intro _;exact⟨λx=>by cases x;exact .nil,λx=>by cases x;exact .nil⟩
 |v::vs=>by
  rename_i qs;intro h;replace h:=Bool.and_eq_true_iff.mp h;constructor
  ·intro x;cases x with|cons a b=>exact .cons ((cP.st k h.1).mp a) ((KA1s.st k h.2).mp b)
  ·intro x;cases x with|cons a b=>exact .cons ((cP.st k h.1).mpr a) ((KA1s.st k h.2).mpr b)
theorem KR.st(k:dG c G.I I'):∀{vs:SK} {qs:KD},c.stK vs=true->(KR (G.at I' h1) vs qs↔KR G vs qs)
 |[]=>by rename_i qs;intro _;exact⟨λx=>by cases x;exact .nil,λx=>by cases x;exact .nil⟩
 |.a v::vs=>by
  rename_i qs;intro h;replace h:=Bool.and_eq_true_iff.mp h;constructor
  ·intro x;cases x with|cons a b=>obtain⟨q,e,a⟩:=a;exact .cons ⟨q,e,(cP.st k h.1).mp a⟩ ((KR.st k h.2).mp b)
  ·intro x;cases x with|cons a b=>obtain⟨q,e,a⟩:=a;exact .cons ⟨q,e,(cP.st k h.1).mpr a⟩ ((KR.st k h.2).mpr b)
 |.t us::vs=>by
  rename_i qs;intro h;replace h:=Bool.and_eq_true_iff.mp h;constructor
  ·intro x;cases x with|cons a b=>obtain⟨q,e,a⟩:=a;exact .cons ⟨q,e,(KA1s.st k h.1).mp a⟩ ((KR.st k h.2).mp b)
  ·intro x;cases x with|cons a b=>obtain⟨q,e,a⟩:=a;exact .cons ⟨q,e,(KA1s.st k h.1).mpr a⟩ ((KR.st k h.2).mpr b)
theorem cP.one{v:SV}{p q:KA}(x:cP G v p)(y:cP G v q):p=q:=by induction v using SV.casesOn<;>first|exact x.elim|exact x.trans y.symm
theorem KA1s.one:∀{vs:List SV} {p q:List KA},ac (cP G) vs p->ac (cP G) vs q->p=q
 |[]=>by rename_i w1 w2;intro al3 al4;refine ac.nilE al3 ?_;clear al3;intro q';subst q';refine ac.nilE al4 ?_;clear al4;intro q';subst q';exact rfl
 |_::_=>by rename_i w1 w2;intro al3 al4;refine ac.consE al3 ?_;clear al3;intro y3' ys3' q' a b;subst q';refine ac.consE al4 ?_;clear al4;intro y4' ys4' q' c d;subst q';rw[cP.one a c,KA1s.one b d]
theorem Dp.one{v:SK1}{p q:KI}(x:Dp G v p)(y:Dp G v q):p=q:=by
 induction v using SK1.casesOn with
 |a v=>obtain⟨a,rfl,x⟩:=x;obtain⟨b,rfl,y⟩:=y;rw[cP.one x y]
 |t v=>obtain⟨a,rfl,x⟩:=x;obtain⟨b,rfl,y⟩:=y;rw[KA1s.one x y]
theorem KR.one:∀{vs:SK} {p q:KD},KR G vs p->KR G vs q->p=q
 |[]=>by rename_i w1 w2;intro al3 al4;refine ac.nilE al3 ?_;clear al3;intro q';subst q';refine ac.nilE al4 ?_;clear al4;intro q';subst q';exact rfl
 |_::_=>by rename_i w1 w2;intro al3 al4;refine ac.consE al3 ?_;clear al3;intro y3' ys3' q' a b;subst q';refine ac.consE al4 ?_;clear al4;intro y4' ys4' q' c d;subst q';rw[Dp.one a c,KR.one b d]
theorem lD(ok:G.I.Ok)(hp:Hp G J S h){q:SK}{kd:KD}(hq:KR G q kd):∀{xs:List SV} {ys:List Value} {b:Bool},xU S q xs=some b->ac (VR G J S.next) xs ys->(b=true↔∃v∈ys,∃a,v=.ref a/\cI (ak G.prog G.w) h kd a)
 |[]=>by rename_i w1 b;intro e al4;refine ac.nilE al4 ?_;clear al4;intro q';subst q';refine aB e ?_;clear e;intro h1;subst h1;simp
 |x::xs=>by
  rename_i w1 b;intro e al4;refine ac.consE al4 ?_;clear al4;intro y ys4' q' hx hxs;subst q';refine qS e ?_;clear e;intro sk hsk e;obtain⟨n,kd',rfl,hn,rfl,hk,ht⟩:=dw (s:={heap:=h}) hp hsk hx;refine jX e ?_ ?_<;>clear e
  ·intro q1 e;refine aB e ?_;clear e;intro h1;subst h1;have:=eU ok hk hq q1;have e2:kd'=kd:=of_decide_eq_true this.symm;subst e2;exact⟨λ_=>⟨_,List.mem_cons_self,_,rfl,ht⟩,λ_=>rfl⟩
  ·intro q1 e;have:=eU ok hk hq q1;have e2:kd'≠kd:=of_decide_eq_false this.symm;rw[lD ok hp hq e hxs];constructor
   ·rintro⟨v,m,r⟩;exact⟨v,List.mem_cons_of_mem _ m,r⟩
   ·rintro⟨v,m,a,e3,t⟩;rcases List.mem_cons.mp m with m|m
    ·rw[e3]at m;cases m;exact(e2 (ht.inj t)).elim
    ·exact⟨v,m,a,e3,t⟩
theorem lE(ok:G.I.Ok){q:SK}{kd:KD}(hq:KR G q kd){J:Nat->Nat}{nx:Nat}:∀{es:List (SK×SV)} {ys:List (KD×Addr×Value)} {b:Bool},xV q es=some b->ac (λ(x:SK×SV) (y:KD×Addr×Value)=>KR G x.1 y.1/\VR G J nx x.2 y.2.2) es ys->(atKey ys kd).isSome=b
 |[]=>by rename_i w1 b;intro e al4;refine ac.nilE al4 ?_;clear al4;intro q';subst q';refine aB e ?_;clear e;intro h1;subst h1;rfl
 |(k,v)::es=>by
  rename_i w1 b;intro e al4;refine ac.consE al4 ?_;clear al4;intro y ys4' q' h1 h2;subst q';rw[bc];refine jX e ?_ ?_<;>clear e
  ·intro q1 e;refine aB e ?_;clear e;intro h1;subst h1;have:=eU ok h1.1 hq q1;rw[if_pos (of_decide_eq_true this.symm)];rfl
  ·intro q1 e;have:=eU ok h1.1 hq q1;rw[if_neg (of_decide_eq_false this.symm)];exact lE ok hq e h2
end
noncomputable def eV:SK->Bool
 |[]=>true
 |.a v::r=>d6 v&&eV r
 |.t vs::r=>fA vs&&eV r
theorem cP.ex{G:Gr}{v:SV}(h:d6 v=true):∃q,cP G v q:=by induction v using SV.casesOn<;>first|((first|exact ai h|cases h);done)|exact⟨_,rfl⟩
theorem KA1s.ex{G:Gr}:∀{vs:List SV},fA vs=true->∃q,ac (cP G) vs q
 |[]=>by intro _;exact⟨[],.nil⟩
 |v::vs=>by intro h;refine cb h ?_;clear h;intro a h;obtain⟨q,x⟩:=cP.ex (G:=G) a;obtain⟨qs,y⟩:=KA1s.ex (G:=G) h;exact⟨q::qs,.cons x y⟩
theorem KR.ex{G:Gr}:∀{k:SK},eV k=true->∃kd,KR G k kd
 |[]=>by intro _;exact⟨[],.nil⟩
 |.a v::r=>by intro h;replace h:=Bool.and_eq_true_iff.mp h;obtain⟨q,x⟩:=cP.ex (G:=G) h.1;obtain⟨qs,y⟩:=KR.ex (G:=G) h.2;exact⟨.a q::qs,.cons ⟨q,rfl,x⟩ y⟩
 |.t v::r=>by intro h;replace h:=Bool.and_eq_true_iff.mp h;obtain⟨q,x⟩:=KA1s.ex (G:=G) h.1;obtain⟨qs,y⟩:=KR.ex (G:=G) h.2;exact⟨.t q::qs,.cons ⟨q,rfl,x⟩ y⟩
structure Nx (c:Cv) (G:Gr) (J:Nat->Nat) (S:St) (s:Shared) (L:Nat) (I':IP):Prop where
 r:SR G J S s L
 k:dG c G.I I'
 ok:G.I.Ok
 ol:∀o n,bF fq o=some n->∃ys,I'.ol o=G.I.ol o++ys/\ac (VR G J S.next) (bh S n) ys
 od:∃ys,I'.od 2=bO (G.I.od 2) ys/\(ys.map (·.1)).Nodup/\ac (λ(x:SK×SV) (y:KD×Addr×Value)=>KR G x.1 y.1/\VR G J S.next x.2 y.2.2) (wf S 36) ys
noncomputable def gC (S:St):List SV->Bool
 |[]=>true
 |x::r=>(match ma S.hp x with
  |some _=>true
  |none=>false)&&gC S r
theorem pg{P:Prop}{x1:Option Mine.SK}{f0:(Mine.SK)->Bool}(h:(match x1 with|Option.some a1=>f0 a1|Option.none=>false)=true)(k0:∀a1,x1=Option.some a1->f0 a1=true->P):P:=by
 obtain⟨z1,e1⟩:∃z,x1=z:=⟨_,rfl⟩
 rw[e1]at h;induction z1 using Option.casesOn with
 |some y1'0=>exact k0 _ e1 h
 |_=>exact ai h
section
variable{c:Cv}
theorem rP(hp:Hp G J S s.heap):∀{xs:List SV} {ys:List Value},gC S xs=true->ac (VR G J S.next) xs ys->∀v∈ys,∃a kd,v=.ref a/\cI (ak G.prog G.w) s.heap kd a
 |[]=>by rename_i w1;intro w2 al3;refine ac.nilE al3 ?_;clear al3;intro q';subst q';intro v m;cases m
 |x::xs=>by
  rename_i w1;intro h al3;refine ac.consE al3 ?_;clear al3;intro y ys3' q' hx hxs;subst q';intro v m;replace h:=Bool.and_eq_true_iff.mp h;rcases List.mem_cons.mp m with rfl|m
  ·have q:=h.1;refine pg q ?_;clear q;intro sk e q;refine cM (dw hp e hx) ?_;intro n kd' q1';subst q1';intro hn q2';subst q2';intro hk ht;exact⟨_,_,rfl,ht⟩
  ·exact rP hp h.2 hxs v m
namespace Nx
variable(x:Nx c G J S s L I')
include x
theorem allT{o n:Nat}(e:bF fq o=some n)(a:mw G G.h1 o)(h:gC S (bh S n)=true):mw (G.at I' s.heap) s.heap o:=by
 refine an (x.ol o n e) ?_;intro ys e1 e2;intro v hv;have hv:v∈I'.ol o:=hv;rw[e1]at hv;rcases List.mem_append.mp hv with m|m
 ·refine bb (a v m) ?_;intro b kd q1';subst q1';intro t;exact⟨b,kd,rfl,t.keeps_i _ _ x.r.hp.tk⟩
 ·exact rP x.r.hp h e2 v m
theorem inL_mono{o n:Nat}{q:SK}(e:bF fq o=some n)(st:c.stK q=true)(h:eY G G.h1 o q):eY (G.at I' s.heap) s.heap o q:=by refine an (x.ol o n e) ?_;intro ys e1 e2;refine uh h ?_;clear h;intro v m a kd k q1';subst q1';intro t;refine⟨_,?_,a,kd,(KR.st x.k st).mpr k,rfl,t.keeps_i _ _ x.r.hp.tk⟩;show _∈I'.ol o;rw[e1];exact List.mem_append_left _ m
theorem inL_back{o:Nat}{q:SK}(a:mw G G.h1 o)(st:c.stK q=true)(b:vY S o q=some false)(h:eY (G.at I' s.heap) s.heap o q):eY G G.h1 o q:=by
 unfold vY at b;refine lr b ?_;clear b;intro n e b;refine an (x.ol o n e) ?_;intro ys e1 e2;refine uh h ?_;clear h;intro v m ad kd k q1';subst q1';intro t;have k:=(KR.st x.k st).mp k;have m:_∈I'.ol o:=m;rw[e1]at m;rcases List.mem_append.mp m with m|m
 ·refine bb (a _ m) ?_;intro ad' kd' e3 t';cases e3;have:=(t'.keeps_i _ _ x.r.hp.tk).inj t;subst this;exact⟨_,m,ad,_,k,rfl,t'⟩
 ·have:=(lD x.ok x.r.hp k b e2).mpr ⟨_,m,ad,rfl,t⟩;exact ai this
theorem inL_hit{o:Nat}{q:SK}(st:c.stK q=true)(at_:eV q=true)(b:vY S o q=some true):eY (G.at I' s.heap) s.heap o q:=by unfold vY at b;refine lr b ?_;clear b;intro n e b;refine an (x.ol o n e) ?_;intro ys e1 e2;obtain⟨kd,k⟩:=KR.ex (G:=G) at_;refine ui ((lD x.ok x.r.hp k b e2).mp rfl) ?_;intro v m a q1';subst q1';intro t;refine⟨_,?_,a,kd,(KR.st x.k st).mpr k,rfl,t⟩;show _∈I'.ol o;rw[e1];exact List.mem_append_right _ m
theorem atK(kd:KD){ys:List (KD×Addr×Value)}(e1:I'.od 2=bO (G.I.od 2) ys)(e2:(ys.map (·.1)).Nodup):(atKey (I'.od 2) kd).isSome=((atKey ys kd).isSome||(atKey (G.I.od 2) kd).isSome):=by
 have q:=cD ys (G.I.od 2) kd e2;rw[e1];have e:∀(o:Option (Addr×Value)),o.isSome=(o.map (·.2)).isSome:=λo=>by induction o using Option.casesOn<;>rfl
 rw[e,q,e (atKey ys kd),e (atKey (G.I.od 2) kd)];cases(atKey ys kd).map (·.2)<;>simp
theorem inK_mono{q:SK}(st:c.stK q=true)(h:vg G 2 q):vg (G.at I' s.heap) 2 q:=by refine dT x.od ?_;intro ys e1 e2 e3;refine an h ?_;clear h;intro kd k t;refine⟨kd,(KR.st x.k st).mpr k,?_⟩;show(atKey (I'.od 2) kd).isSome=true;rw[x.atK kd e1 e2,t,Bool.or_true]
theorem inK_back{q:SK}(st:c.stK q=true)(b:xW S q=some false)(h:vg (G.at I' s.heap) 2 q):vg G 2 q:=by refine dT x.od ?_;intro ys e1 e2 e3;refine an h ?_;clear h;intro kd k t;have k:=(KR.st x.k st).mp k;refine⟨kd,k,?_⟩;have t:(atKey (I'.od 2) kd).isSome=true:=t;rw[x.atK kd e1 e2,lE x.ok k b e3,Bool.false_or]at t;exact t
theorem inK_hit{q:SK}(st:c.stK q=true)(at_:eV q=true)(b:xW S q=some true):vg (G.at I' s.heap) 2 q:=by refine dT x.od ?_;intro ys e1 e2 e3;obtain⟨kd,k⟩:=KR.ex (G:=G) at_;refine⟨kd,(KR.st x.k st).mpr k,?_⟩;show(atKey (I'.od 2) kd).isSome=true;rw[x.atK kd e1 e2,lE x.ok k b e3,Bool.true_or]
end Nx
noncomputable def uy:pK->Bool
 |.kl k o q=>eV k&&(eV q&&(match bF fq o with|some _=>true|none=>false))
 |.lk k o q=>eV k&&(eV q&&(match bF fq o with|some _=>true|none=>false))
 |.nv k=>eV k
theorem oA{P:Prop}{x1:Option Nat}{f0:(Nat)->Bool}(h:(match x1 with|Option.some a1=>f0 a1|Option.none=>false)=true)(k0:∀a1,x1=Option.some a1->f0 a1=true->P):P:=by
 obtain⟨z1,e1⟩:∃z,x1=z:=⟨_,rfl⟩
 rw[e1]at h;induction z1 using Option.casesOn with
 |some y1'0=>exact k0 _ e1 h
 |_=>exact ai h
theorem Nx.rel(x:Nx c G J S s L I'){r:pK}(ok:uy r=true)(a:∀k o q,(r=.kl k o q\/r=.lk k o q)->mw G G.h1 o)(b:c.relB S r=true)(h:pJ G G.h1 r):pJ (G.at I' s.heap) s.heap r:=by
 induction r using pK.casesOn with
 |kl k o q=>
  have a:=a k o q (.inl rfl);unfold Cv.relB at b;unfold uy at ok;dsimp only at b ok;rw[Bool.and_eq_true,Bool.and_eq_true]at b ok;refine l8 b ?_;clear b;intro b1 b2 b3;refine l8 ok ?_;clear ok;intro o1 o2 o3;intro hk;split at b3
  ·rename_i hh;have h2:=h (x.inK_back b1 hh hk);refine oA o3 ?_;clear o3;intro n e o3;exact x.inL_mono e b2 h2
  ·rename_i hh;split at b3
   ·rename_i hl;exact x.inL_hit b2 o2 hl
   ·exact ai b3
  ·exact ai b3
 |lk k o q=>
  have a:=a k o q (.inr rfl);unfold Cv.relB at b;unfold uy at ok;dsimp only at b ok;rw[Bool.and_eq_true,Bool.and_eq_true]at b ok;refine l8 b ?_;clear b;intro b1 b2 b3;refine l8 ok ?_;clear ok;intro o1 o2 o3;intro hk;split at b3
  ·rename_i hh;exact x.inK_mono b1 (h (x.inL_back a b2 hh hk))
  ·rename_i hh;split at b3
   ·rename_i hl;exact x.inK_hit b1 o1 hl
   ·exact ai b3
  ·exact ai b3
 |nv k=>
  unfold Cv.relB at b;dsimp only at b;rw[Bool.and_eq_true]at b;refine xA b ?_;clear b;intro b1 b3;intro hk;split at b3
  ·rename_i hh;exact h (x.inK_back b1 hh hk)
  ·exact ai b3
end
noncomputable def BQ:Sh:=.tup [.it,.it,.it]
noncomputable def FM:Sh:=.tup [.it,.fld 406 cu,.it]
noncomputable def E2:Sh:=.tup [.it,.it,.it,.it,.it]
noncomputable def FL:Sh:=.tup [.it,.it,.it,.it,.fld 406 cu]
noncomputable def A3:Sh:=.one .it
noncomputable def nU:Str:=⟨⟨[111,119,110,101,114]⟩⟩
noncomputable def FK:Sh:=.one (.fld 273 nU)
noncomputable def aw (t:Int):Nat->List KD->List KD
 |_,[]=>[]
 |i,k::r=>if k=[.a (.i t)]then[.a (.i i)]::aw t (i+1) r else aw t (i+1) r
theorem dJ(t u:Int):∀(i:Nat) (O:List KD),aw t i (O++[[.a (.i u)]])=aw t i O++(if u=t then[[.a (.i (i+O.length:Nat))]]else[])
 |i,[]=>by
  show(if[KI.a (.i u)]=[.a (.i t)]then[.a (.i i)]::aw t (i+1) []else aw t (i+1) [])=[]++_;by_cases h:u=t
  ·subst h;rw[if_pos rfl,if_pos rfl];rfl
  ·have:¬[KI.a (.i u)]=[.a (.i t)]:=λe=>h (by injection e with e;injection e with e;injection e);rw[if_neg this,if_neg h];rfl
 |i,k::r=>by
  have ih:=dJ t u (i+1) r;have e:i+1+r.length=i+(k::r).length:=by rw[List.length_cons];exact Nat.add_right_comm _ _ _
  rw[e]at ih;show(if k=[.a (.i t)]then[.a (.i i)]::aw t (i+1) (r++[[.a (.i u)]])else aw t (i+1) (r++[[.a (.i u)]]))=(if k=[.a (.i t)]then[.a (.i i)]::aw t (i+1) r else aw t (i+1) r)++_;rw[ih];split<;>rfl
structure Ct (G:Gr) (J:Nat->Nat) (h:Heap) (L:Nat) (W T F O:List KD):Prop where
 w:ac (bg G.prog G.w h (Nm J L) BQ) W (G.I.ol 3)
 d:ac (bg G.prog G.w h (Nm J L) FM) W (G.I.ol 15)
 t:ac (bg G.prog G.w h (Nm J L) BQ) T (G.I.ol 4)
 y:ac (bg G.prog G.w h (Nm J L) BQ) T (G.I.ol 10)
 f:ac (bg G.prog G.w h (Nm J L) E2) F (G.I.ol 9)
 e:ac (bg G.prog G.w h (Nm J L) FL) F (G.I.ol 16)
 o:ac (bg G.prog G.w h (Nm J L) A3) O (G.I.ol 2)
 m:∃m0 ms,G.I.ol 14=m0::ms/\ac (bg G.prog G.w h (Nm J L) FK) O ms
 p0:ac (bg G.prog G.w h (Nm J L) A3) (aw (G.I.nu 5000) 1 O) (G.I.ol 11)
 p1:ac (bg G.prog G.w h (Nm J L) A3) (aw (G.I.nu 5010) 1 O) (G.I.ol 12)
 p2:ac (bg G.prog G.w h (Nm J L) A3) (aw (G.I.nu 5020) 1 O) (G.I.ol 13)
noncomputable def nrm:SV->SV
 |.sym x k=>match Nat.beq x 1014 with
  |true=>.sym 1002 (k+1)
  |false=>.sym x k
 |v=>v
noncomputable def xi:SK->SK
 |[]=>[]
 |.a v::r=>.a (nrm v)::xi r
 |.t vs::r=>.t (vs.map nrm)::xi r
noncomputable def tQ (S:St) (a b:Sh):List SV->List SV->Bool
 |[],[]=>true
 |u::x,v::y=>match C3 S a u with
  |some p=>match C3 S b v with
   |some q=>ff (xi p) (xi q)&&tQ S a b x y
   |none=>false
  |none=>false
 |_,_=>false
theorem eC{P:Prop}{x1:Option Mine.SK}{f0:(Mine.SK)->Bool}(h:(match x1 with|Option.some a1=>f0 a1|Option.none=>false)=true)(k0:∀a1,x1=Option.some a1->f0 a1=true->P):P:=by
 obtain⟨z1,e1⟩:∃z,x1=z:=⟨_,rfl⟩
 rw[e1]at h;induction z1 using Option.casesOn with
 |some y1'0=>exact k0 _ e1 h
 |_=>exact ai h
noncomputable def DM (S:St):Bool:=(match bh S 3 with
 |[]=>nilE (bh S 49)
 |[v]=>match bh S 49 with
  |[u]=>cj v (.sym 5000 0)&&cj (nrm u) (.sym 1002 1)
  |_=>false
 |_=>false)&&(nilE (bh S 56)&&nilE (bh S 63))
theorem qK{P:Prop}{x1:List Mine.SV}{f0:Bool}{f1:(Mine.SV)->Bool}(h:(match x1 with|[]=>f0|[a1]=>f1 a1|a1=>false)=true)(k0:x1=[]->f0=true->P)(k1:∀a1,x1=[a1]->f1 a1=true->P):P:=by
 obtain⟨z1,e1⟩:∃z,x1=z:=⟨_,rfl⟩
 rw[e1]at h;induction z1 using List.casesOn with
 |nil=>exact k0 e1 h
 |cons y1'0 y1'1=>
  induction y1'1 using List.casesOn with
  |nil=>exact k1 _ e1 h
  |_=>exact ai h
theorem qL{P:Prop}{x1:List Mine.SV}{f0:(Mine.SV)->Bool}(h:(match x1 with|[a1]=>f0 a1|a1=>false)=true)(k0:∀a1,x1=[a1]->f0 a1=true->P):P:=by
 obtain⟨z1,e1⟩:∃z,x1=z:=⟨_,rfl⟩
 rw[e1]at h;induction z1 using List.casesOn with
 |cons y1'0 y1'1=>
  induction y1'1 using List.casesOn with
  |nil=>exact k0 _ e1 h
  |_=>exact ai h
 |_=>exact ai h
noncomputable def Ep (S:St):Bool:=tQ S BQ FM (bh S 4) (bh S 32)&&(tQ S BQ BQ (bh S 5) (bh S 29)&&(tQ S E2 FL (bh S 10) (bh S 34)&&(tQ S A3 FK (bh S 3) (bh S 21)&&DM S)))
section
variable{c:Cv}
theorem cP.nrm(hm:G.I.nu 1014=G.I.nu 1002+1){v:SV}{q:KA}:cP G (nrm v) q↔cP G v q:=by
 induction v using SV.casesOn<;>try exact Iff.rfl
 rename_i x k;unfold Mine.nrm;dsimp only;induction e:Nat.beq x 1014 using Bool.casesOn with
 |false=>exact Iff.rfl
 |true=>have e:=Nat.eq_of_beq_eq_true e;subst e;show q=.i (G.I.nu 1002+(k+1))↔q=.i (G.I.nu 1014+k);rw[hm,show G.I.nu 1002+(k+1)=G.I.nu 1002+1+k by lia]
theorem KA1s.nrm(hm:G.I.nu 1014=G.I.nu 1002+1):∀{vs:List SV} {q:List KA},ac (cP G) (vs.map Mine.nrm) q↔ac (cP G) vs q
 |[]=>by rename_i q;exact Iff.rfl
 |v::vs=>by
  rename_i q;constructor
  ·intro x;cases x with|cons a b=>exact .cons ((cP.nrm hm).mp a) ((KA1s.nrm hm).mp b)
  ·intro x;cases x with|cons a b=>exact .cons ((cP.nrm hm).mpr a) ((KA1s.nrm hm).mpr b)
theorem KR.nrm(hm:G.I.nu 1014=G.I.nu 1002+1):∀{k:SK} {q:KD},KR G (xi k) q↔KR G k q
 |[]=>by rename_i q;exact Iff.rfl
 |.a v::r=>by
  rename_i q;constructor
  ·intro x;cases x with|cons a b=>obtain⟨p,e,a⟩:=a;exact .cons ⟨p,e,(cP.nrm hm).mp a⟩ ((KR.nrm hm).mp b)
  ·intro x;cases x with|cons a b=>obtain⟨p,e,a⟩:=a;exact .cons ⟨p,e,(cP.nrm hm).mpr a⟩ ((KR.nrm hm).mpr b)
 |.t v::r=>by
  rename_i q;constructor
  ·intro x;cases x with|cons a b=>obtain⟨p,e,a⟩:=a;exact .cons ⟨p,e,(KA1s.nrm hm).mp a⟩ ((KR.nrm hm).mp b)
  ·intro x;cases x with|cons a b=>obtain⟨p,e,a⟩:=a;exact .cons ⟨p,e,(KA1s.nrm hm).mpr a⟩ ((KR.nrm hm).mpr b)
theorem kT:∀{x y:List SV},sD x y=true->x=y
 |[],[]=>by intro _;exact rfl
 |a::x,b::y=>by intro h;refine cb h ?_;clear h;intro e h;rw[bM e,kT h]
 |[],_::_=>by intro h;exact ai h
 |_::_,[]=>by intro h;exact ai h
theorem bN:∀{x y:SK},ff x y=true->x=y
 |[],[]=>by intro _;exact rfl
 |.a u::x,.a v::y=>by intro h;refine cb h ?_;clear h;intro e h;rw[bM e,bN h]
 |.t u::x,.t v::y=>by intro h;refine cb h ?_;clear h;intro e h;rw[kT e,bN h]
 |[],_::_=>by intro h;exact ai h
 |.a _::_,[]=>by intro h;exact ai h
 |.t _::_,[]=>by intro h;exact ai h
 |.a _::_,.t _::_=>by intro h;exact ai h
 |.t _::_,.a _::_=>by intro h;exact ai h
theorem ja(r:SR G J S s L)(hm:G.I.nu 1014=G.I.nu 1002+1){a b:Sh}:∀{xs ys:List SV} {us vs:List Value},tQ S a b xs ys=true->ac (VR G J S.next) xs us->ac (VR G J S.next) ys vs->∃K,ac (bg G.prog G.w s.heap (Nm J L) a) K us/\ac (bg G.prog G.w s.heap (Nm J L) b) K vs/\ac (λx kd=>∃k,C3 S a x=some k/\KR G k kd) xs K
 |[],[]=>by rename_i w2 w3;intro w4 al5 al6;refine ac.nilE al5 ?_;clear al5;intro q';subst q';refine ac.nilE al6 ?_;clear al6;intro q';subst q';exact⟨[],.nil,.nil,.nil⟩
 |x::xs,y::ys=>by rename_i w2 w3;intro h al5 al6;refine ac.consE al5 ?_;clear al5;intro y5' ys5' q' a1 a2;subst q';refine ac.consE al6 ?_;clear al6;intro y6' ys6' q' b1 b2;subst q';refine eC h ?_;clear h;intro p hp h;refine eC h ?_;clear h;intro q hq h;rw[Bool.and_eq_true]at h;refine an (wM r hp a1) ?_;intro kd k1 k2;refine an (wM r hq b1) ?_;intro kd' k3 k4;have e:=bN h.1;have:=KR.one ((KR.nrm hm).mpr k1) (e▸(KR.nrm hm).mpr k3);subst this;refine dT (ja r hm h.2 a2 b2) ?_;intro K c1 c2 c3;exact⟨kd::K,.cons k2 c1,.cons k4 c2,.cons ⟨p,hp,k1⟩ c3⟩
 |[],_::_=>by rename_i w2 w3;intro h w5 w6;exact ai h
 |_::_,[]=>by rename_i w2 w3;intro h w5 w6;exact ai h
end
section
variable{c:Cv} {W T F O:List KD}
theorem Nm.ext(e:∀n,n<66->J n=J0 n)(a:Nat):Nm J L a↔Nm J0 L a:=by
 constructor
 ·rintro(h|⟨n,hn,h⟩)
  ·exact .inl h
  ·exact .inr ⟨n,hn,by rw[<-e n hn,h]⟩
 ·rintro(h|⟨n,hn,h⟩)
  ·exact .inl h
  ·exact .inr ⟨n,hn,by rw[e n hn,h]⟩
theorem aK{α β:Type}{R:α->β->Prop}{x:List β}(h:ac R [] x):x=[]:=by cases h;rfl
theorem rY{xs:List SV}(h:nilE xs=true):xs=[]:=bq h
theorem Ct.step(x:Nx c G J S s L I')(C:Ct G J0 G.h1 L W T F O)(ext:∀n,n<66->J n=J0 n)(keep:∀a o,G.h1.get? a=some o->¬Nm J0 L a->s.heap.get? a=some o)(hm:G.I.nu 1014=G.I.nu 1002+1)(b:Ep S=true)(n0:I'.nu 5000=G.I.nu 5000)(n1:I'.nu 5010=G.I.nu 5010)(n2:I'.nu 5020=G.I.nu 5020)(d1:G.I.nu 5000≠G.I.nu 5010)(d2:G.I.nu 5000≠G.I.nu 5020):∃W' T' F' O',Ct (G.at I' s.heap) J s.heap L W' T' F' O':=by
 unfold Ep at b;rw[Bool.and_eq_true,Bool.and_eq_true,Bool.and_eq_true,Bool.and_eq_true]at b;refine jJ b ?_;clear b;intro b1 b2 b3 b4 b5;have old:∀{e:Sh} {K:List KD} {vs:List Value},ac (bg G.prog G.w G.h1 (Nm J0 L) e) K vs->ac (bg G.prog G.w s.heap (Nm J L) e) K vs:=λa=>a.mono λ_ _ q=>(q.keep x.r.hp.tk keep).names λa h=>(Nm.ext ext a).mp h;refine an (x.ol 3 4 rfl) ?_;intro y3 e3 a3;refine an (x.ol 15 32 rfl) ?_;intro y15 e15 a15;refine an (x.ol 4 5 rfl) ?_;intro y4 e4 a4;refine an (x.ol 10 29 rfl) ?_;intro y10 e10 a10;refine an (x.ol 9 10 rfl) ?_;intro y9 e9 a9;refine an (x.ol 16 34 rfl) ?_;intro y16 e16 a16;refine an (x.ol 2 3 rfl) ?_;intro y2 e2 a2;refine an (x.ol 14 21 rfl) ?_;intro y14 e14 Di;refine an (x.ol 11 49 rfl) ?_;intro y11 e11 a11;refine an (x.ol 12 56 rfl) ?_;intro y12 e12 AS;refine an (x.ol 13 63 rfl) ?_;intro y13 e13 AR;refine dT (ja x.r hm b1 a3 a15) ?_;intro KW w1 w2 _;refine dT (ja x.r hm b2 a4 a10) ?_;intro KT t1 t2 _;refine dT (ja x.r hm b3 a9 a16) ?_;intro KF f1 f2 _;refine dT (ja x.r hm b4 a2 Di) ?_;intro KO o1 o2 o3;unfold DM at b5;rw[Bool.and_eq_true,Bool.and_eq_true]at b5;refine l8 b5 ?_;clear b5;intro q1 q2 q3;rw[rY q2]at AS;rw[rY q3]at AR;have z12:=aK AS;have z13:=aK AR;subst z12 z13;rw[List.append_nil]at e12 e13;refine bb C.m ?_;intro m0 ms em am;have len2:G.I.nu 1002=(O.length:Int):=by rw[C.o.length];exact x.ok.len 2 (by decide)
 have key:(KO=[]/\y11=[])\/(KO=[[.a (.i (G.I.nu 5000))]]/\ac (bg G.prog G.w s.heap (Nm J L) A3) [[.a (.i (1+O.length:Nat))]] y11):=by
  refine qK q1 ?_ ?_<;>clear q1
  ·intro e q1;rw[e]at o3;rw[rY q1]at a11;exact .inl ⟨aK o3,aK a11⟩
  ·intro v e q1;refine qL q1 ?_;clear q1;intro u e' q1;rw[Bool.and_eq_true]at q1;have v1:=bM q1.1;have u1:=bM q1.2;subst v1;rw[e]at o3;rw[e']at a11;refine .inr ⟨?_,?_⟩
   ·refine ac.consE o3 ?_;clear o3;intro y3 ys3 e3 h1 h2;refine ac.nilE h2 ?_;intro e4;subst e4;subst e3;refine an h1 ?_;clear h1;intro k h3 h4;refine aB h3 ?_;clear h3;intro h1;subst h1;refine ac.consE h4 ?_;clear h4;intro y4 ys4 e3 h5 h6;refine ac.nilE h6 ?_;intro e4;subst e4;subst e3;refine an h5 ?_;clear h5;intro q q1';subst q1';intro h7;have h7:q=.i (G.I.nu 5000+0):=h7;rw[h7,Int.add_zero]
   ·refine ac.consE a11 ?_;clear a11;intro y3 ys3 e3 h1 h2
    ·refine ac.nilE h2 ?_;intro e4;subst e4;subst e3;have hat:d6 u=true:=by
      induction u using SV.casesOn<;>first|rfl|skip
      all_goals(exfalso;cases u1)
     refine an (cP.of hat h1) ?_;intro q h3 h4;have h5:=(cP.nrm hm).mpr h3;rw[u1]at h5;have h5:q=.i (G.I.nu 1002+1):=h5;rw[len2,show((O.length:Int)+1)=((1+O.length:Nat):Int)by lia]at h5;subst h5;exact .cons ⟨_,rfl,h4⟩ .nil
 refine⟨W++KW,T++KT,F++KF,O++KO,?_⟩;constructor
 ·show ac _ _ (I'.ol 3);rw[e3];exact(old C.w).app w1
 ·show ac _ _ (I'.ol 15);rw[e15];exact(old C.d).app w2
 ·show ac _ _ (I'.ol 4);rw[e4];exact(old C.t).app t1
 ·show ac _ _ (I'.ol 10);rw[e10];exact(old C.y).app t2
 ·show ac _ _ (I'.ol 9);rw[e9];exact(old C.f).app f1
 ·show ac _ _ (I'.ol 16);rw[e16];exact(old C.e).app f2
 ·show ac _ _ (I'.ol 2);rw[e2];exact(old C.o).app o1
 ·refine⟨m0,ms++y14,?_,(old am).app o2⟩;show I'.ol 14=_;rw[e14,em,List.cons_append]
 ·show ac _ (aw (I'.nu 5000) 1 _) (I'.ol 11);rw[e11,n0];rcases key with⟨rfl,rfl⟩|⟨rfl,k2⟩
  ·rw[List.append_nil,List.append_nil];exact old C.p0
  ·rw[dJ,if_pos rfl];exact(old C.p0).app k2
 ·show ac _ (aw (I'.nu 5010) 1 _) (I'.ol 12);rw[e12,n1];rcases key with⟨rfl,rfl⟩|⟨rfl,k2⟩
  ·rw[List.append_nil];exact old C.p1
  ·rw[dJ,if_neg d1,List.append_nil];exact old C.p1
 ·show ac _ (aw (I'.nu 5020) 1 _) (I'.ol 13);rw[e13,n2];rcases key with⟨rfl,rfl⟩|⟨rfl,k2⟩
  ·rw[List.append_nil];exact old C.p2
  ·rw[dJ,if_neg d2,List.append_nil];exact old C.p2
end
noncomputable def mB:SV:=.sym 5000 0
noncomputable def Da:SV:=.sym 5001 0
noncomputable def E9:SV:=.ss 0
noncomputable def DG:Nat->SV
 |0=>.str ⟨⟨[43]⟩⟩
 |1=>.str ⟨⟨[45]⟩⟩
 |2=>.str ⟨⟨[33]⟩⟩
 |3=>.str ⟨⟨[126]⟩⟩
 |4=>.str ⟨⟨[42]⟩⟩
 |5=>.str ⟨⟨[47]⟩⟩
 |6=>.str ⟨⟨[37]⟩⟩
 |7=>.str ⟨⟨[38]⟩⟩
 |8=>.str ⟨⟨[124]⟩⟩
 |9=>.str ⟨⟨[94]⟩⟩
 |_=>.none
noncomputable def unV:Nat->SV
 |0=>.str ⟨⟨[111,112,95,85,110,97,114,121,80,108,117,115]⟩⟩
 |1=>.str ⟨⟨[111,112,95,85,110,97,114,121,78,101,103,97,116,105,111,110]⟩⟩
 |2=>.str ⟨⟨[111,112,95,76,111,103,105,99,97,108,78,111,116]⟩⟩
 |3=>.str ⟨⟨[111,112,95,79,110,101,115,67,111,109,112,108,101,109,101,110,116]⟩⟩
 |_=>.none
noncomputable def Fu:Nat->SV
 |0=>.str ⟨⟨[111,112,95,65,100,100,105,116,105,111,110]⟩⟩
 |1=>.str ⟨⟨[111,112,95,83,117,98,116,114,97,99,116,105,111,110]⟩⟩
 |2=>.str ⟨⟨[]⟩⟩
 |3=>.str ⟨⟨[]⟩⟩
 |4=>.str ⟨⟨[111,112,95,77,117,108,116,105,112,108,121]⟩⟩
 |5=>.str ⟨⟨[111,112,95,68,105,118,105,115,105,111,110]⟩⟩
 |6=>.str ⟨⟨[111,112,95,77,111,100,117,108,117,115]⟩⟩
 |7=>.str ⟨⟨[111,112,95,66,105,116,119,105,115,101,65,110,100]⟩⟩
 |8=>.str ⟨⟨[111,112,95,66,105,116,119,105,115,101,79,114]⟩⟩
 |9=>.str ⟨⟨[111,112,95,69,120,99,108,117,115,105,118,101,79,114]⟩⟩
 |_=>.none
noncomputable def EE:Nat->SV
 |0=>E9
 |1=>.str ⟨⟨[105,110,116]⟩⟩
 |2=>.str ⟨⟨[115,116,114,105,110,103]⟩⟩
 |3=>.str ⟨⟨[98,111,111,108]⟩⟩
 |_=>.none
noncomputable def Db:Nat->SV
 |0=>Da
 |1=>.int 7
 |2=>.int 13
 |3=>.int 1
 |_=>.none
noncomputable def Cg:Nat->SV
 |0=>.str ⟨⟨[111,112,95,73,109,112,108,105,99,105,116]⟩⟩
 |1=>.str ⟨⟨[111,112,95,69,120,112,108,105,99,105,116]⟩⟩
 |_=>.none
noncomputable def FT:Nat->SV
 |0=>.str ⟨⟨[49,54,46,111,112,95,73,109,112,108,105,99,105,116]⟩⟩
 |1=>.str ⟨⟨[49,54,46,111,112,95,69,120,112,108,105,99,105,116]⟩⟩
 |_=>.none
noncomputable def sV:SV:=.str ⟨⟨[115]⟩⟩
noncomputable def vV:SV:=.str ⟨⟨[118]⟩⟩
noncomputable def nV:SV:=.str ⟨⟨[110]⟩⟩
noncomputable def mL:SV:=.str ⟨⟨[109]⟩⟩
noncomputable def cL:SV:=.str ⟨⟨[99]⟩⟩
noncomputable def yL:Str:=⟨⟨[99,111,117,110,116]⟩⟩
noncomputable def dc (i:Nat) (both:Int):SK:=[.a mB,.a (DG i),.a (.int both)]
noncomputable def cU (i:Nat) (both:Int):SK:=match both with
 |.ofNat 0=>[.a sV,.a (unV i),.a (.int 0),.t [Da]]
 |_=>[.a sV,.a (Fu i),.a (.int 0),.t [Da,.int 7]]
noncomputable def ez (o ord:Nat):SK:=match ord with
 |0=>[.a mB,.a E9,.a (EE o)]
 |_=>[.a mB,.a (EE o),.a E9]
noncomputable def jP (o ord:Nat):SK:=match ord with
 |0=>[.a sV,.a (Cg 0),.a (.int 0),.t [Da,Db o]]
 |_=>[.a sV,.a (Cg 0),.a (.int 0),.t [Db o,Da]]
noncomputable def br (n j:Nat) (c:SV):SK:=[.a mB,.a (Cg n),.a (EE j),.a c]
noncomputable def kS (n j:Nat) (g:Int):SK:=[.a sV,.a (Cg n),.a (.int g),.t [Db j]]
noncomputable def kF (n j:Nat):SK:=[.a sV,.a (FT n),.a (.int 0),.t [Db j]]
noncomputable def kV (n j:Nat):SK:=[.a vV,.a (Cg n),.t [Db j]]
noncomputable def kG (n j:Nat):SK:=[.a vV,.a (FT n),.t [Db j]]
noncomputable def bj (n j:Nat) (way:Int):SK:=[.a mB,.a (Cg n),.a (EE j),.a (.int way)]
noncomputable def kN (n:Nat):SK:=[.a nV,.a (Cg n)]
noncomputable def kU:List pK:=[
 .kl (cU 0 0) 6 (dc 0 0),.kl (cU 0 1) 6 (dc 0 1),.kl (cU 1 0) 6 (dc 1 0),.kl (cU 1 1) 6 (dc 1 1),.kl (cU 2 0) 6 (dc 2 0),.kl (cU 3 0) 6 (dc 3 0),.kl (cU 4 1) 6 (dc 4 1),.kl (cU 5 1) 6 (dc 5 1),.kl (cU 6 1) 6 (dc 6 1),.kl (cU 7 1) 6 (dc 7 1),.kl (cU 8 1) 6 (dc 8 1),.kl (cU 9 1) 6 (dc 9 1),.kl (jP 1 0) 7 (ez 1 0),.kl (jP 1 1) 7 (ez 1 1),.kl (jP 2 0) 7 (ez 2 0),.kl (jP 2 1) 7 (ez 2 1),.kl (jP 3 0) 7 (ez 3 0),.kl (jP 3 1) 7 (ez 3 1),.kl (kS 0 0 0) 5 (br 0 0 mL),.lk (kS 0 0 0) 5 (br 0 0 mL),.kl (kV 0 0) 5 (br 0 0 cL),.lk (kV 0 0) 5 (br 0 0 cL),.kl (kS 0 1 0) 5 (br 0 1 mL),.lk (kS 0 1 0) 5 (br 0 1 mL),.kl (kV 0 1) 5 (br 0 1 cL),.lk (kV 0 1) 5 (br 0 1 cL),.kl (kS 0 2 0) 5 (br 0 2 mL),.lk (kS 0 2 0) 5 (br 0 2 mL),.kl (kV 0 2) 5 (br 0 2 cL),.lk (kV 0 2) 5 (br 0 2 cL),.kl (kS 0 3 0) 5 (br 0 3 mL),.lk (kS 0 3 0) 5 (br 0 3 mL),.kl (kV 0 3) 5 (br 0 3 cL),.lk (kV 0 3) 5 (br 0 3 cL),.kl (kS 0 0 0) 8 (bj 0 0 0),.kl (kS 0 0 1) 8 (bj 0 0 1),.kl (kF 0 0) 8 (bj 0 0 2),.nv (kG 0 0),.kl (kS 0 1 0) 8 (bj 0 1 0),.kl (kS 0 1 1) 8 (bj 0 1 1),.kl (kF 0 1) 8 (bj 0 1 2),.nv (kG 0 1),.kl (kS 0 2 0) 8 (bj 0 2 0),.kl (kS 0 2 1) 8 (bj 0 2 1),.kl (kF 0 2) 8 (bj 0 2 2),.nv (kG 0 2),.nv (kN 0),.kl (kS 1 0 0) 5 (br 1 0 mL),.lk (kS 1 0 0) 5 (br 1 0 mL),.kl (kV 1 0) 5 (br 1 0 cL),.lk (kV 1 0) 5 (br 1 0 cL),.kl (kS 1 1 0) 5 (br 1 1 mL),.lk (kS 1 1 0) 5 (br 1 1 mL),.kl (kV 1 1) 5 (br 1 1 cL),.lk (kV 1 1) 5 (br 1 1 cL),.kl (kS 1 2 0) 5 (br 1 2 mL),.lk (kS 1 2 0) 5 (br 1 2 mL),.kl (kV 1 2) 5 (br 1 2 cL),.lk (kV 1 2) 5 (br 1 2 cL),.kl (kS 1 3 0) 5 (br 1 3 mL),.lk (kS 1 3 0) 5 (br 1 3 mL),.kl (kV 1 3) 5 (br 1 3 cL),.lk (kV 1 3) 5 (br 1 3 cL),.kl (kS 1 0 0) 8 (bj 1 0 0),.kl (kS 1 0 1) 8 (bj 1 0 1),.kl (kF 1 0) 8 (bj 1 0 2),.nv (kG 1 0),.kl (kS 1 1 0) 8 (bj 1 1 0),.kl (kS 1 1 1) 8 (bj 1 1 1),.kl (kF 1 1) 8 (bj 1 1 2),.nv (kG 1 1),.kl (kS 1 2 0) 8 (bj 1 2 0),.kl (kS 1 2 1) 8 (bj 1 2 1),.kl (kF 1 2) 8 (bj 1 2 2),.nv (kG 1 2),.nv (kN 1)]
theorem zL:kU.all uy=true:=by decide+kernel
noncomputable def Fh (l:List (Int×Int)):List (SV×Int×SV):=l.zipIdx.map λ(x,i)=>(.sym 1 i,x.1,.int x.2)
noncomputable def eD (S:St) (x:Str) (old:SV):SV:=match S.hp.get 1 with
 |some (.sd es)=>match bE es x with
  |some v=>v
  |none=>old
 |_=>old
noncomputable def Fi (S:St):List (Nat×SV):=(1,eD S cu (.sym 1 0))::(2,eD S yL (.sym 2 0))::fq.filterMap λx=>match bh S x.2 with
 |[]=>none
 |l=>some (1000+x.1,.sym (1000+x.1) l.length)
noncomputable def cZ (S:St):Cv:=⟨λn=>n,Fi S,[],[],[]⟩
noncomputable def lg (S:St):Bool:=fq.all λx=>match S.hp.get x.2 with
 |some (.lst o xs)=>Nat.beq o x.1
 |some (.tab o _ xs)=>Nat.beq o x.1
 |_=>false
theorem jW{P:Prop}{x1:Option Mine.SO}{f0:(Nat)->(List Mine.SV)->Bool}{f1:(Nat)->(List (Mine.SV×Mine.SV))->(List Mine.SV)->Bool}(h:(match x1 with|Option.some (Mine.SO.lst a1 a2)=>f0 a1 a2|Option.some (Mine.SO.tab a1 a2 a3)=>f1 a1 a2 a3|a1=>false)=true)(k0:∀a1 a2,x1=Option.some (Mine.SO.lst a1 a2)->f0 a1 a2=true->P)(k1:∀a1 a2 a3,x1=Option.some (Mine.SO.tab a1 a2 a3)->f1 a1 a2 a3=true->P):P:=by
 obtain⟨z1,e1⟩:∃z,x1=z:=⟨_,rfl⟩
 rw[e1]at h;induction z1 using Option.casesOn with
 |some y1'0=>
  induction y1'0 using SO.casesOn with
  |lst y2'0 y2'1=>exact k0 _ _ e1 h
  |tab y2'0 y2'1 y2'2=>exact k1 _ _ _ e1 h
  |_=>exact ai h
 |_=>exact ai h
noncomputable def Bk (S:St) (n o:Nat):Bool:=match S.hp.get n with
 |some (.hd o' es)=>Nat.beq o' o&&Nat.ble es.length 20
 |_=>false
theorem tw{P:Prop}{x1:Option Mine.SO}{f0:(Nat)->(List (Mine.SK×Mine.SV))->Bool}(h:(match x1 with|Option.some (Mine.SO.hd a1 a2)=>f0 a1 a2|a1=>false)=true)(k0:∀a1 a2,x1=Option.some (Mine.SO.hd a1 a2)->f0 a1 a2=true->P):P:=by
 obtain⟨z1,e1⟩:∃z,x1=z:=⟨_,rfl⟩
 rw[e1]at h;induction z1 using Option.casesOn with
 |some y1'0=>
  induction y1'0 using SO.casesOn with
  |hd y2'0 y2'1=>exact k0 _ _ e1 h
  |_=>exact ai h
 |_=>exact ai h
noncomputable def Fe (fr:Bool) (S:St):Bool:=match wf S 16 with
 |[]=>nilE (bh S 15)
 |[(k,v)]=>match bh S 15 with
  |[_]=>fr&&ff k [.a (.int 7),.a (.int 0)]&&cj v (.sym 1020 0)
  |_=>false
 |_=>false
theorem ti{P:Prop}{x1:List (Mine.SK×Mine.SV)}{f0:Bool}{f1:(Mine.SK)->(Mine.SV)->Bool}(h:(match x1 with|[]=>f0|[(a1,a2)]=>f1 a1 a2|a1=>false)=true)(k0:x1=[]->f0=true->P)(k1:∀a1 a2,x1=[(a1,a2)]->f1 a1 a2=true->P):P:=by
 obtain⟨z1,e1⟩:∃z,x1=z:=⟨_,rfl⟩
 rw[e1]at h;induction z1 using List.casesOn with
 |nil=>exact k0 e1 h
 |cons y1'0 y1'1=>
  induction y1'0 using Prod.casesOn with
  |mk y2'0 y2'1=>
   induction y1'1 using List.casesOn with
   |nil=>exact k1 _ _ e1 h
   |_=>exact ai h
theorem tj{P:Prop}{x1:List Mine.SV}{f0:(Mine.SV)->Bool}(h:(match x1 with|[a1]=>f0 a1|a1=>false)=true)(k0:∀a1,x1=[a1]->f0 a1=true->P):P:=by
 obtain⟨z1,e1⟩:∃z,x1=z:=⟨_,rfl⟩
 rw[e1]at h;induction z1 using List.casesOn with
 |cons y1'0 y1'1=>
  induction y1'1 using List.casesOn with
  |nil=>exact k0 _ e1 h
  |_=>exact ai h
 |_=>exact ai h
noncomputable def Aa (S:St):List SV->Bool
 |[]=>true
 |x::r=>(match ma S.hp x with
  |some (.a v::_)=>cj v mB
  |_=>false)&&Aa S r
theorem qN{P:Prop}{x1:Option Mine.SK}{f0:(Mine.SV)->(List Mine.SK1)->Bool}(h:(match x1 with|Option.some (Mine.SK1.a a1::a2)=>f0 a1 a2|a1=>false)=true)(k0:∀a1 a2,x1=Option.some (Mine.SK1.a a1::a2)->f0 a1 a2=true->P):P:=by
 obtain⟨z1,e1⟩:∃z,x1=z:=⟨_,rfl⟩
 rw[e1]at h;induction z1 using Option.casesOn with
 |some y1'0=>
  induction y1'0 using List.casesOn with
  |cons y2'0 y2'1=>
   induction y2'0 using SK1.casesOn with
   |a y3'0=>exact k0 _ _ e1 h
   |_=>exact ai h
  |_=>exact ai h
 |_=>exact ai h
noncomputable def Fv (S:St):Bool:=(nilE (bh S 2)&&nilE (bh S 20))&&match eD S cu .none with
 |.sym x k=>Nat.beq x 1&&(mS 0 k&&mS k 20)
 |_=>false
theorem tD{P:Prop}{x1:Mine.SV}{f0:(Nat)->(Int)->Bool}(h:(match x1 with|Mine.SV.sym a1 a2=>f0 a1 a2|a1=>false)=true)(k0:∀a1 a2,x1=Mine.SV.sym a1 a2->f0 a1 a2=true->P):P:=by
 obtain⟨z1,e1⟩:∃z,x1=z:=⟨_,rfl⟩
 rw[e1]at h;induction z1 using SV.casesOn with
 |sym y1'0 y1'1=>exact k0 _ _ e1 h
 |_=>exact ai h
noncomputable def AF (fr:Bool) (T S:St):Bool:=Fv S&&(Nat.ble 66 S.next&&((cZ S).hpB S T 66&&((cZ S).locB S T&&((cZ S).lenB S&&(lg S&&((Bk S 16 1&&(Bk S 36 2&&Bk S 37 3))&&(Fe fr S&&(Ep S&&(kU.all ((cZ S).relB S)&&((gC S (bh S 6)&&(gC S (bh S 7)&&(gC S (bh S 8)&&gC S (bh S 9))))&&Aa S (bh S 6)))))))))))
noncomputable def Et (R:Int):Nat×SK×Option SV:=(1,[.a (.int R),.a mB,.t []],some Da)
noncomputable def zU (R:Int) (ds:List (SV×Int×SV)) (inq:List (Nat×SK×Bool)) (dq:List (Nat×SK×Option SV)) (din:List (Nat×SK×Bool)):io:=⟨inq,Et R::dq,(1,[.a (.int R),.a mB,.t []],true)::(dq.map λx=>(x.1,x.2.1,x.2.2.isSome))++din,ds⟩
noncomputable def pB (i both:Nat):List (Int×Int):=match i with
 |0=>[(4,0),(10,0),(2,both)]
 |1=>[(4,0),(10,1),(2,both)]
 |i=>[(4,0),(10,i)]
noncomputable def gn (R:Int) (i both:Nat):io:=zU R (Fh (pB i both)) [(6,dc i both,true)] [] []
noncomputable def kZ (R:Int) (i both:Nat):io:=zU R (Fh (pB i both)) [(6,dc i both,false)] [] [(2,cU i both,false)]
noncomputable def lK (o ord sort:Nat):List (SV×Int×SV):=[(.sym 1 0,4,.sym 5005 0),(.sym 1 1,3,.int o),(.sym 1 2,2,.int ord),(.sym 1 3,2,.int sort)]
noncomputable def gR (o ord:Nat):Nat:=match ord with
 |0=>0
 |_=>o+1
noncomputable def iJ (R:Int) (o ord sort:Nat):io:=zU R (lK o ord sort) [(7,ez (o+1) ord,true)] [] []
noncomputable def gk (R:Int) (o ord sort:Nat) (b:Bool):io:=zU R (lK o ord sort) [(7,ez (o+1) ord,false),(5,br sort (gR o ord) mL,b)] [] [(2,jP (o+1) ord,false),(2,kS sort (gR o ord) 0,b)]
noncomputable def jD:Nat->SV
 |0=>.sym 5007 0
 |j=>.int j
noncomputable def yD:Nat->SV
 |0=>.sym 5006 0
 |y=>.int y
noncomputable def ii (j n y:Nat):List (SV×Int×SV):=[(.sym 1 0,4,.int 1),(.sym 1 1,4,jD j),(.sym 1 2,2,.int n),(.sym 1 3,4,yD y)]
noncomputable def wA:Nat->Int
 |2=>1
 |3=>2
 |_=>0
noncomputable def iK (R:Int) (j n y:Nat):io:=zU R (ii j n y) [(8,bj n j (wA y),true)] [] []
noncomputable def dW (R:Int) (j n:Nat) (b:Bool):io:=zU R (ii j n 0) [(8,bj n j 0,false),(5,br n j cL,b)] [] [(2,kN n,false),(2,kS n j 0,false),(2,kV n j,b)]
noncomputable def dU (R:Int) (j n:Nat) (b:Bool):io:=zU R (ii j n 2) [(8,bj n j 1,false)] [(1,[.a (.int 7),.a (.int 0)],match b with|true=>some (.int 20)|false=>none)] [(2,kN n,false),(2,kS n j 1,false)]
noncomputable def la (R:Int) (j n:Nat):io:=zU R (ii j n 3) [(8,bj n j 2,false)] [] [(2,kN n,false),(2,kF n j,false),(2,kG n j,false)]
noncomputable def k7:KD:=[.a (.i 7),.a (.i 0)]
noncomputable def de (I:IP) (g:Nat):KD:=[.a (.i (I.nu (5003+10*g))),.a (.i (I.nu (5000+10*g))),.t []]
structure g' (G:Gr) (J:Nat->Nat) (h:Heap) (L:Nat) (dn:List Int) (Bd:Nat):Prop where
 ok:G.I.Ok
 bL:∀o,(G.I.ol o).length<=Bd
 bD:∀o,(G.I.od o).length<=Bd
 ct:∃W T F O,Ct G J h L W T F O
 tp:∀o,o=5\/o=6\/o=7\/o=8->mw G h o
 rel:∀r∈kU,pJ G h r
 lenM:G.I.nu 1014=G.I.nu 1002+1
 met:∀v∈G.I.ol 5,∀a kd,v=.ref a->cI (ak G.prog G.w) h kd a->∃t r,kd=.a (.i t)::r/\t∈dn
 ix:∀g,g<3->∃p t,atKey (G.I.od 1) (de G.I g)=some p/\p.2=.int (G.I.nu (5001+10*g)) t
 ix7:(atKey (G.I.od 1) k7=none/\G.I.nu 1020=20)\/(∃p t,atKey (G.I.od 1) k7=some p/\p.2=.int 20 t/\G.I.nu 1020=21)
 dist:G.I.nu 5000≠G.I.nu 5010/\G.I.nu 5000≠G.I.nu 5020/\G.I.nu 5010≠G.I.nu 5020
 srt:∀g,g<3->(G.I.nu (5002+10*g)=1\/G.I.nu (5002+10*g)=2)/\G.I.nu (5003+10*g)=G.I.nu (5002+10*g)+1
 at0:0<=G.I.nu 1
structure Bz (fr:Bool) (T S:St):Prop where
 a:Fv S=true
 nx:66<=S.next
 hp:(cZ S).hpB S T 66=true
 lc:(cZ S).locB S T=true
 len:(cZ S).lenB S=true
 ls:lg S=true
 h1:Bk S 16 1=true
 h2:Bk S 36 2=true
 h3:Bk S 37 3=true
 ix:Fe fr S=true
 ct:Ep S=true
 rl:kU.all ((cZ S).relB S)=true
 sk:gC S (bh S 6)=true/\gC S (bh S 7)=true/\gC S (bh S 8)=true/\gC S (bh S 9)=true
 mt:Aa S (bh S 6)=true
theorem uZ{fr:Bool}{T S:St}(h:AF fr T S=true):Bz fr T S:=by unfold AF at h;simp only[Bool.and_eq_true]at h;refine nD h ?_;clear h;intro a b c d e f q1' i j k q2' m;obtain⟨g1,g2,g3⟩:=q1';obtain⟨l1,l2,l3,l4⟩:=q2';exact⟨a,Nat.le_of_ble_eq_true b,c,d,e,f,g1,g2,g3,i,j,k,⟨l1,l2,l3,l4⟩,m⟩
theorem fo:∀x∈fq,x.1<=24/\x.2<66:=by decide
theorem yG{S:St}{x:Nat}{v:SV}(h:(x,v)∈Fi S):x=1\/x=2\/(1000<=x/\x<=1024):=by
 unfold Fi at h;rcases List.mem_cons.mp h with h|h
 ·injection h with h;exact .inl h
 ·rcases List.mem_cons.mp h with h|h
  ·injection h with h;exact .inr (.inl h)
  ·refine an (List.mem_filterMap.mp h) ?_;intro y hy e;have:=(fo y hy).1;split at e
   ·exact aa e
   ·injection e with e
    injection e with e
    exact .inr (.inr (by lia))
theorem AI{S:St}{x:Nat}(h:x≠1/\x≠2/\(x<1000\/1024<x))(I:IP):(cZ S).nu I x=I.nu x:=by
 unfold Cv.nu;induction e:bF (cZ S).dl x using Option.casesOn with
 |none=>rfl
 |some v=>have:=yG (aP e);lia
section
variable{J1:Nat->Nat} {s1:Shared} {so ro:SV} {fr:Bool} {S1:St}
theorem xX{n o:Nat}{S:St}{s:Shared}(hp:Hp G J S s.heap)(hn:n<S.next)(b:Bk S n o=true):∃ys,s.heap.DictOfH (ay G.prog G.w) (J n) (bO (G.I.od o) ys)/\(ys.map (·.1)).Nodup/\ac (λ(x:SK×SV) (y:KD×Addr×Value)=>KR G x.1 y.1/\VR G J S.next x.2 y.2.2) (wf S n) ys/\ys.length<=20:=by
 unfold Bk at b;refine tw b ?_;clear b;intro o' es e b;rw[Bool.and_eq_true]at b;have b1:=Nat.eq_of_beq_eq_true b.1;subst b1;refine an (hp.obj n _ hn e) ?_;intro ys q1' al;obtain⟨d,nd⟩:=q1';have e2:wf S n=es:=by unfold wf;rw[e]
 exact⟨ys,d,nd,by rw[e2];exact al,by rw[<-al.length];exact Nat.le_of_ble_eq_true b.2⟩
noncomputable def kj (G:Gr) (y1 y2 y3:List (KD×Addr×Value)):Nat->List (KD×Addr×Value)
 |1=>bO (G.I.od 1) y1
 |2=>bO (G.I.od 2) y2
 |3=>bO (G.I.od 3) y3
 |o=>G.I.od o
noncomputable def rr (T:St):Nat->Bool
 |0=>true
 |n+1=>(match T.hp.get n with
  |some (.hd o _)=>(Nat.beq n 16&&Nat.beq o 1)||((Nat.beq n 36&&Nat.beq o 2)||(Nat.beq n 37&&Nat.beq o 3))
  |_=>true)&&rr T n
theorem pp{T:St}:∀{N:Nat},rr T N=true->∀n o es,n<N->T.hp.get n=some (.hd o es)->(n=16/\o=1)\/(n=36/\o=2)\/(n=37/\o=3)
 |0=>by intro _ n o es hn _;exact absurd ‹_› (Nat.not_lt_zero _)
 |N+1=>by
  intro h n o es hn e;replace h:=Bool.and_eq_true_iff.mp h;rcases Nat.lt_or_ge n N with l|l
  ·exact pp h.2 n o es l e
  ·have:n=N:=by lia
   subst this;have q:=h.1;rw[e]at q;dsimp only at q;simp only[Bool.or_eq_true,Bool.and_eq_true]at q;rcases q with⟨a,b⟩|⟨a,b⟩|⟨a,b⟩
   ·exact .inl ⟨Nat.eq_of_beq_eq_true a,Nat.eq_of_beq_eq_true b⟩
   ·exact .inr (.inl ⟨Nat.eq_of_beq_eq_true a,Nat.eq_of_beq_eq_true b⟩)
   ·exact .inr (.inr ⟨Nat.eq_of_beq_eq_true a,Nat.eq_of_beq_eq_true b⟩)
theorem AY(so ro ky:SV)(lc:List (Str×SV)):rr (iz so ro ky lc) 66=true:=by kernel_rfl!
theorem xu{n o:Nat}{S:St}{s:Shared}(hp:Hp G J S s.heap)(hS:66<=S.next)(b:lg S=true)(e:bF fq o=some n):∃ys,bm s.heap (J n)=G.I.ol o++ys/\ac (VR G J S.next) (bh S n) ys:=by
 unfold lg at b;have m:=aP e;have lt:=(fo _ m).2;have q:=List.all_eq_true.mp b _ m;dsimp only at q lt;refine jW q ?_ ?_<;>clear q
 ·intro o' xs e2 q;have q:=Nat.eq_of_beq_eq_true q;subst q;have e3:bh S n=xs:=by unfold bh;rw[e2]
  rw[e3];exact dZ hp (by exact Nat.lt_of_lt_of_le ‹_› ‹_›) (.inl e2)
 ·intro o' es xs e2 q;have q:=Nat.eq_of_beq_eq_true q;subst q;have e3:bh S n=xs:=by unfold bh;rw[e2]
  rw[e3];exact dZ hp (by exact Nat.lt_of_lt_of_le ‹_› ‹_›) (.inr ⟨es,e2⟩)
theorem uJ{S:St}{s:Shared}(hp:Hp G J S s.heap):∀{xs:List SV} {ys:List Value},Aa S xs=true->ac (VR G J S.next) xs ys->∀v∈ys,∀a kd,v=.ref a->cI (ak G.prog G.w) s.heap kd a->∃r,kd=.a (.i (G.I.nu 5000))::r
 |[],_,_,.nil=>by intro v m;cases m
 |x::xs,_,h,.cons (b:=y) hx hxs=>by
  intro v m;replace h:=Bool.and_eq_true_iff.mp h;rcases List.mem_cons.mp m with rfl|m
  ·have q:=h.1;refine qN q ?_;clear q;intro u r e q;refine cM (dw hp e hx) ?_;intro n kd' q1';subst q1';intro hn q2';subst q2';intro hk ht;intro a kd ea t;cases ea;have e2:=ht.inj t;subst e2;cases hk with
   |cons h1 h2=>refine an h1 ?_;clear h1;intro p q1';subst q1';intro h3;rw[bM q]at h3;have h3:p=.i (G.I.nu 5000+0):=h3;rw[Int.add_zero]at h3;exact⟨_,by rw[h3]⟩
  ·exact uJ hp h.2 hxs v m
theorem si{c:Cv}{I:IP}{h:Heap}{J:Nat->Nat}{od:Nat->List (KD×Addr×Value)}{o n:Nat}:bF fq o=some n->(c.toI I h J od).ol o=bm h (J (c.mu n)):=by unfold Cv.toI;dsimp only;intro e;rw[e]
structure EA (I I':IP):Prop where
 nu:∀x,x≠1/\x≠2/\(x<1000\/1024<x)->I'.nu x=I.nu x
 inl:I'.ol 1=I.ol 1
 ss:I'.ss=I.ss
 len:I'.nu 1024=I.nu 1024
 at1:I.nu 1<=I'.nu 1/\I'.nu 1<=I.nu 1+20
theorem nW{S:St}{I:IP}(ok:I.Ok)(ls:lg S=true)(len:(cZ S).lenB S=true){o n:Nat}(e:bF fq o=some n)(h0:o≠0):(cZ S).nu I (1000+o)=I.nu (1000+o)+(bh S n).length:=by
 have m:=aP e;unfold lg at ls;have q:=List.all_eq_true.mp ls _ m;unfold Cv.lenB at len;rw[Bool.and_eq_true]at len;have q2:=List.all_eq_true.mp len.1 _ m
 have q2:(match S.hp.get n with
  |some (.lst o1 xs)=>(cZ S).lenB1 o o1 xs.length
  |some (.tab o1 _ xs)=>(cZ S).lenB1 o o1 xs.length
  |_=>false)=true:=q2
 dsimp only at q;have fin:∀xs:List SV,(cZ S).lenB1 o o xs.length=true->(cZ S).nu I (1000+o)=I.nu (1000+o)+xs.length:=by
  intro xs h;unfold Cv.lenB1 at h;rw[Bool.and_eq_true]at h;obtain⟨k,rfl⟩:∃k,o=k+1:=⟨o -1,by lia⟩
  exact A' h.2 _ rfl
 refine jW q ?_ ?_<;>clear q
 ·intro o' xs e2 q;have q:=Nat.eq_of_beq_eq_true q;subst q;rw[e2]at q2;have e3:bh S n=xs:=by unfold bh;rw[e2]
  rw[e3];exact fin xs q2
 ·intro o' es xs e2 q;have q:=Nat.eq_of_beq_eq_true q;subst q;rw[e2]at q2;have e3:bh S n=xs:=by unfold bh;rw[e2]
  rw[e3];exact fin xs q2
theorem rC{S:St}{a b:Sh}:∀{xs ys:List SV},tQ S a b xs ys=true->xs.length=ys.length
 |[],[]=>by intro _;exact rfl
 |x::xs,y::ys=>by intro h;refine eC h ?_;clear h;intro _ _ h;refine eC h ?_;clear h;intro _ _ h;rw[Bool.and_eq_true]at h;rw[List.length_cons,List.length_cons,rC h.2]
 |[],_::_=>by intro h;exact ai h
 |_::_,[]=>by intro h;exact ai h
noncomputable def w0:pK->Bool
 |.kl _ o _=>Nat.ble 5 o&&Nat.ble o 8
 |.lk _ o _=>Nat.ble 5 o&&Nat.ble o 8
 |.nv _=>true
theorem sF:kU.all w0=true:=by decide+kernel
theorem zI{G:Gr}{J:Nat->Nat}{nx:Nat}{kk:SK}{v:SV}{y1:List (KD×Addr×Value)}(al:ac (λ(x:SK×SV) (y:KD×Addr×Value)=>KR G x.1 y.1/\VR G J nx x.2 y.2.2) [(kk,v)] y1)(h2:ff kk [.a (.int 7),.a (.int 0)]=true)(h3:cj v (.sym 1020 0)=true){P:Prop}(k:∀a val t,y1=[(k7,a,val)]->val=.int (G.I.nu 1020) t->P):P:=by refine ac.consE al ?_;intro yy y' e0 p q;refine ac.nilE q ?_;intro e1;subst e1;subst e0;obtain⟨kd,a,val⟩:=yy;obtain⟨p1,p2⟩:=p;dsimp only at p1 p2;rw[bN h2]at p1;rw[bM h3]at p2;refine xE p2 ?_;clear p2;intro t p2;rw[Int.add_zero]at p2;have e7:KR G [.a (.int 7),.a (.int 0)] k7:=.cons ⟨_,rfl,rfl⟩ (.cons ⟨_,rfl,rfl⟩ .nil);have:=KR.one p1 e7;subst this;exact k a val t rfl p2
theorem rG(hso:nH (iz so ro mB pN) 66=true)(I:g' G J G.h1 L dn Bd)(hG:s0.heap=G.h1)(r0:SR G J (iz so ro mB pN) s0 L)(u:cT (XL L) J (iz so ro mB pN) s0 J1 S1 s1)(r1:SR G J1 S1 s1 L)(E:Bz fr (iz so ro mB pN) S1)(hfr:fr=true->atKey (G.I.od 1) k7=none)(tin:G.I.nu 5000∈dn)(hb:Bd+400<=100000)(hb2:1000<=Bd):∃I',SR (G.at I' s1.heap) J1 (iz so ro mB pN) s1 L/\g' (G.at I' s1.heap) J1 s1.heap L dn (Bd+200)/\EA G.I I'/\∀n,n<66->J1 n=J n:=by
 have ext:∀n,n<66->J1 n=J n:=λn hn=>u.ext n hn;have nx:=E.nx;refine pT (xX r1.hp (by lia:16<S1.next) E.h1) ?_;intro y1 d1 nd1 al1 ln1;refine pT (xX r1.hp (by lia:36<S1.next) E.h2) ?_;intro y2 d2 nd2 al2 ln2;refine pT (xX r1.hp (by lia:37<S1.next) E.h3) ?_;intro y3 d3 nd3 al3 ln3;have lens:∀o,(kj G y1 y2 y3 o).length<=Bd+200:=by
  intro o;have b:=I.bD o;unfold kj;split
  ·have:=dm y1 (G.I.od 1);have:=I.bD 1;lia
  ·have:=dm y2 (G.I.od 2);have:=I.bD 2;lia
  ·have:=dm y3 (G.I.od 3);have:=I.bD 3;lia
  ·exact Nat.le_trans ‹_› (Nat.le_add_right _ _)
 have k:dG (cZ S1) G.I ((cZ S1).toI G.I s1.heap J1 (kj G y1 y2 y3)):=Cv.toI_ok _ _ _ _ (λx i h=>by exact aa h) (λx i h=>by exact aa h);have nuOff:∀x,x≠1/\x≠2/\(x<1000\/1024<x)->(cZ S1).nu G.I x=G.I.nu x:=λx h=>AI h G.I;have olK:∀o n,bF fq o=some n->∃ys,((cZ S1).toI G.I s1.heap J1 (kj G y1 y2 y3)).ol o=G.I.ol o++ys/\ac (VR G J1 S1.next) (bh S1 n) ys:=by intro o n e;refine an (xu r1.hp nx E.ls e) ?_;intro ys a b;refine⟨ys,?_,b⟩;rw[si e];exact a
 have Nx1:Nx (cZ S1) G J1 S1 s1 L ((cZ S1).toI G.I s1.heap J1 (kj G y1 y2 y3)):=⟨r1,k,I.ok,olK,y2,rfl,nd2,al2⟩
 have b:=E.ct;unfold Ep at b;rw[Bool.and_eq_true,Bool.and_eq_true,Bool.and_eq_true,Bool.and_eq_true]at b;have lenOM:=rC b.2.2.2.1;have n1002:=nW I.ok E.ls E.len (o:=2) (n:=3) rfl (by decide);have n1014:=nW I.ok E.ls E.len (o:=14) (n:=21) rfl (by decide);have n1020:=nW I.ok E.ls E.len (o:=20) (n:=15) rfl (by decide);have ha:=E.a;unfold Fv at ha;rw[Bool.and_eq_true,Bool.and_eq_true]at ha;refine xA ha ?_;clear ha;intro q1' ha2;obtain⟨ha1,ha20⟩:=q1';have ha1:=bq ha1;have n1:G.I.nu 1<=(cZ S1).nu G.I 1/\(cZ S1).nu G.I 1<=G.I.nu 1+20:=by
  unfold eD at ha2
  have e:(cZ S1).nu G.I 1=(match eD S1 cu (.sym 1 0)with
   |.int i=>i
   |.sym y l=>G.I.nu y+l
   |_=>G.I.nu 1):=by
   unfold Cv.nu
   have:bF (cZ S1).dl 1=some (eD S1 cu (.sym 1 0)):=rfl
   rw[this]
   cases eD S1 cu (.sym 1 0)<;>rfl
  rw[e];unfold eD;refine tD ha2 ?_;clear ha2;intro x k hx ha2;rw[Bool.and_eq_true,Bool.and_eq_true,ci,ci,decide_eq_true_eq,decide_eq_true_eq]at ha2;have:=Nat.eq_of_beq_eq_true ha2.1;subst this;split at hx
  ·rename_i es he;split at hx
   ·rename_i v hv;subst hx;refine l8 ha2 ?_;clear ha2;intro _ ha3 ha4;show G.I.nu 1<=G.I.nu 1+k/\G.I.nu 1+k<=G.I.nu 1+20;exact⟨by lia,by lia⟩
   ·cases hx
  ·cases hx
 have row:(y1=[]/\bh S1 15=[])\/(∃a v t,y1=[(k7,a,v)]/\v=.int (G.I.nu 1020) t/\fr=true/\(bh S1 15).length=1):=by
  have h:=E.ix;unfold Fe at h;refine ti h ?_ ?_<;>clear h
  ·intro e h;rw[e]at al1;exact .inl ⟨aK al1,bq h⟩
  ·intro kk v e h;refine tj h ?_;clear h;intro x0 e' h;rw[Bool.and_eq_true,Bool.and_eq_true]at h;refine xA h ?_;clear h;intro q1' h3;obtain⟨h1,h2⟩:=q1';rw[e]at al1;refine zI al1 h2 h3 ?_;intro a val t e2 e3;exact .inr ⟨a,val,t,e2,e3,h1,by rw[e'];rfl⟩
 have ix7':(atKey (bO (G.I.od 1) y1) k7=none/\(cZ S1).nu G.I 1020=20)\/(∃p t,atKey (bO (G.I.od 1) y1) k7=some p/\p.2=.int 20 t/\(cZ S1).nu G.I 1020=21):=by
  rcases row with⟨rfl,e⟩|⟨a,v,t,rfl,hv,hf,e⟩
  ·rw[e]at n1020;have n1020:(cZ S1).nu G.I 1020=G.I.nu 1020:=by rw[n1020];exact Int.add_zero _
   rw[n1020];exact I.ix7
  ·have h7:=hfr hf;have h20:G.I.nu 1020=20:=by
    rcases I.ix7 with⟨_,e⟩|⟨p,t,e,_⟩
    ·exact e
    ·rw[h7]at e;exact aa e
   rw[e]at n1020;have n1020:(cZ S1).nu G.I 1020=21:=by rw[n1020];show G.I.nu 1020+_=21;rw[h20];rfl
   have q:=cD [(k7,a,v)] (G.I.od 1) k7 nd1;have e7:atKey [(k7,a,v)] k7=some (a,v):=by rw[bc,if_pos rfl]
   rw[e7]at q;induction e8:atKey (bO (G.I.od 1) [(k7,a,v)]) k7 using Option.casesOn with
   |none=>rw[e8]at q;exact aa q
   |some p=>
    rw[e8]at q;injection q with q
    have q:p.2=v:=q;exact .inr ⟨p,t,rfl,by rw[q,hv,h20],n1020⟩
 refine jH I.ct ?_;intro W T F O C;have keep:∀a o,G.h1.get? a=some o->¬Nm J L a->s1.heap.get? a=some o:=λa o e hn=>u.keep a o (by rw[hG];exact e) (λh=>hn (.inl h)) (λn hn' h=>hn (.inr ⟨n,hn',h⟩));refine jH (Ct.step Nx1 C ext keep I.lenM E.ct (nuOff 5000 (by decide)) (nuOff 5010 (by decide)) (nuOff 5020 (by decide)) I.dist.1 I.dist.2.1) ?_;intro W' T' F' O' C'
 obtain⟨okN,jt⟩:=Cv.toI_Ok (c:=cZ S1) (od:=kj G y1 y2 y3) I.ok r1.hp (λx hx=>by have:=(fo x hx).2;show x.2<_;exact Nat.lt_of_lt_of_le ‹_› ‹_›) E.len I.bL hb2 (by exact aU ‹_› (by decide)) (show G.I.od 0=[]from I.ok.d0) (λo=>by have:=lens o;lia) (by
  intro x lo hi e
  by_cases h:x=1020
  ·subst h
   refine gS e ?_;clear e;intro h1 h2;subst h1;subst h2
   rcases ix7' with⟨_,e⟩|⟨_,_,_,_,e⟩<;>rw[e]<;>decide
  ·have h2:x≠1/\x≠2/\(x<1000\/1024<x):=by
    unfold zj at e
    refine ah e ?_ ?_<;>clear e
    ·intro c e
     have:=Nat.eq_of_beq_eq_true c;lia
    ·intro _ e
     refine ah e ?_ ?_<;>clear e
     ·intro c e
      have:=Nat.eq_of_beq_eq_true c;lia
     ·intro _ e
      refine ah e ?_ ?_<;>clear e
      ·intro c e
       have:=Nat.eq_of_beq_eq_true c;lia
      ·intro _ e
       refine ab e ?_;clear e;intro c e
       have:=Nat.eq_of_beq_eq_true c;lia
   rw[nuOff x h2]
   exact I.ok.rg x lo hi e) (by
  intro x hx
  have h2:x=5006\/x=5007:=by
   unfold yP at hx
   split at hx
   ·rename_i c;exact .inl (Nat.eq_of_beq_eq_true c)
   ·split at hx
    ·rename_i c;exact .inr (Nat.eq_of_beq_eq_true c)
    ·exact(hx rfl).elim
  rw[nuOff x (by lia)]
  exact I.ok.ch x hx)
 refine⟨(cZ S1).toI G.I s1.heap J1 (kj G y1 y2 y3),?_,?_,?_,ext⟩
 ·refine Cv.conv (c:=cZ S1) k E.hp E.lc (λm n _ _ h=>h) I.ok.l0 okN.l0 ?_ ?_ (.refl _) r1
  ·intro n o ys hn e n0;exact si (kc hso n o ys hn e n0)
  ·intro n o hn e;rcases pp (AY so ro mB pN) n o [] hn e with⟨rfl,rfl⟩|⟨rfl,rfl⟩|⟨rfl,rfl⟩
   ·exact d1
   ·exact d2
   ·exact d3
 ·constructor
  ·exact okN
  ·exact jt
  ·exact lens
  ·exact⟨W',T',F',O',C'⟩
  ·rintro o (rfl|rfl|rfl|rfl)
   ·exact Nx1.allT (n:=6) rfl (I.tp 5 (by decide)) E.sk.1
   ·exact Nx1.allT (n:=7) rfl (I.tp 6 (by decide)) E.sk.2.1
   ·exact Nx1.allT (n:=8) rfl (I.tp 7 (by decide)) E.sk.2.2.1
   ·exact Nx1.allT (n:=9) rfl (I.tp 8 (by decide)) E.sk.2.2.2
  ·intro r hr;refine Nx1.rel (List.all_eq_true.mp zL r hr) ?_ (List.all_eq_true.mp E.rl r hr) (I.rel r hr);intro kk o q h;have:=List.all_eq_true.mp sF r hr;rcases h with rfl|rfl
   all_goals
    unfold w0 at this
    dsimp only at this
    rw[Bool.and_eq_true]at this
    have a:=Nat.le_of_ble_eq_true this.1
    have b:=Nat.le_of_ble_eq_true this.2
    exact I.tp o (by lia)
  ·show(cZ S1).nu G.I 1014=(cZ S1).nu G.I 1002+1;have:=I.lenM;have e1:(cZ S1).nu G.I 1014=G.I.nu 1014+(bh S1 21).length:=n1014;have e2:(cZ S1).nu G.I 1002=G.I.nu 1002+(bh S1 3).length:=n1002;rw[e1,e2,lenOM];lia
  ·intro v hv a kd ea t;refine an (olK 5 6 rfl) ?_;intro ys e1 e2;have hv:v∈((cZ S1).toI G.I s1.heap J1 (kj G y1 y2 y3)).ol 5:=hv;rw[e1]at hv;rcases List.mem_append.mp hv with m|m
   ·refine bb (I.tp 5 (by decide) v m) ?_;intro a' kd' q1';subst q1';intro t';cases ea;have:=(t'.keeps_i _ _ r1.hp.tk).inj t;subst this;exact I.met _ m _ _ rfl t'
   ·refine xE (uJ r1.hp E.mt e2 v m a kd ea t) ?_;intro r h;exact⟨_,r,h,tin⟩
  ·intro g hg;refine bb (I.ix g hg) ?_;intro p t h1 h2;have eN:∀x,5000<=x->((cZ S1).toI G.I s1.heap J1 (kj G y1 y2 y3)).nu x=G.I.nu x:=λx hx=>nuOff x (by lia);have ek:de ((cZ S1).toI G.I s1.heap J1 (kj G y1 y2 y3)) g=de G.I g:=by unfold de;rw[eN _ (by lia),eN _ (by exact Nat.le_add_right _ _)]
   show∃p t,atKey (bO (G.I.od 1) y1) (de ((cZ S1).toI G.I s1.heap J1 (kj G y1 y2 y3)) g)=some p/\p.2=.int (((cZ S1).toI G.I s1.heap J1 (kj G y1 y2 y3)).nu (5001+10*g)) t;rw[ek,eN _ (by lia)];have q:=cD y1 (G.I.od 1) (de G.I g) nd1;have none1:atKey y1 (de G.I g)=none:=by
    rcases row with⟨rfl,_⟩|⟨a,v,t,rfl,_,_,_⟩
    ·rfl
    ·rw[bc,if_neg]
     ·rfl
     ·intro e;unfold k7 de at e;injection e with _ e
      injection e with _ e
      cases e
   rw[none1,h1]at q;induction e8:atKey (bO (G.I.od 1) y1) (de G.I g)using Option.casesOn with
   |none=>rw[e8]at q;exact aa q
   |some p'=>
    rw[e8]at q;injection q with q
    have q:p'.2=p.2:=q;exact⟨p',t,rfl,by rw[q,h2]⟩
  ·exact ix7'
  ·have eN:∀x,5000<=x->((cZ S1).toI G.I s1.heap J1 (kj G y1 y2 y3)).nu x=G.I.nu x:=λx hx=>nuOff x (by lia);show((cZ S1).toI G.I s1.heap J1 (kj G y1 y2 y3)).nu 5000≠((cZ S1).toI G.I s1.heap J1 (kj G y1 y2 y3)).nu 5010/\((cZ S1).toI G.I s1.heap J1 (kj G y1 y2 y3)).nu 5000≠((cZ S1).toI G.I s1.heap J1 (kj G y1 y2 y3)).nu 5020/\((cZ S1).toI G.I s1.heap J1 (kj G y1 y2 y3)).nu 5010≠((cZ S1).toI G.I s1.heap J1 (kj G y1 y2 y3)).nu 5020;rw[eN _ (by exact Nat.lt_succ_self _),eN _ (by exact Nat.le_add_left _ _),eN _ (by exact Nat.le_add_left _ _)];exact I.dist
  ·intro g hg;have eN:∀x,5000<=x->((cZ S1).toI G.I s1.heap J1 (kj G y1 y2 y3)).nu x=G.I.nu x:=λx hx=>nuOff x (by lia);show(((cZ S1).toI G.I s1.heap J1 (kj G y1 y2 y3)).nu (5002+10*g)=1\/((cZ S1).toI G.I s1.heap J1 (kj G y1 y2 y3)).nu (5002+10*g)=2)/\((cZ S1).toI G.I s1.heap J1 (kj G y1 y2 y3)).nu (5003+10*g)=((cZ S1).toI G.I s1.heap J1 (kj G y1 y2 y3)).nu (5002+10*g)+1;rw[eN _ (by lia),eN _ (by lia)];exact I.srt g hg
  ·show 0<=(cZ S1).nu G.I 1;have:=I.at0;lia
 ·refine⟨λx h=>nuOff x h,?_,rfl,?_,n1⟩;rotate_left
  ·have e:(cZ S1).nu G.I 1024=G.I.nu 1024+(bh S1 20).length:=nW I.ok E.ls E.len (o:=24) (n:=20) rfl (by decide);show(cZ S1).nu G.I 1024=G.I.nu 1024;rw[e,bq ha20];exact Int.add_zero _
  refine an (olK 1 2 rfl) ?_;intro ys a b;rw[ha1]at b;rw[a,aK b,List.append_nil]
end
noncomputable def P0:Params:={strHash:=λ_=>0,shareClass:=λ_=>0,mergeTok:=λt=>t,idOf:=λ_=>0,idOfShared:=λ_ _=>0,followText:=λ_=>false,idOfImm:=λ_=>0}
noncomputable def yp (T:BT) (a:Nat):Option FuncData:=match T.get a with
 |some ⟨_,_,.func f,_⟩=>match f.code with
  |.ref _=>some f
  |_=>none
 |_=>none
noncomputable def Dd:List Nat:=[21,35,81,88,95,109,116,123,130,137,144,151,158,165,172,179,186,193,200,207,214,221,228,235,249,270,291,305,312,319,326,333,340,347,354,361,368,375,382,389,403,424,431,438,445,468,489,496,503,510,517,524,531,545,559,566,573,580,587,601,608,613,629,643,650,657,662,669,676,683,690,695,700,705,712,719,726,733,740,747,754,759,766,773,778,785,792,799,806,813,820,827,834,841,848,853]
theorem Ap(P:Params):Dd.map (yp (gP P))=Dd.map (yp (gP P0)):=by kernel_rfl!
theorem wd:Dd.all (λa=>Nat.blt a 854)=true:=by decide
noncomputable def Xc (q:io):Cx:={XX P0 q with fn:=λa=>match qu a Dd with
 |true=>yp (gP P0) a
 |false=>none}
theorem qt{a:Nat}:∀{l:List Nat},qu a l=true->a∈l
 |[]=>by intro h;exact ai h
 |b::l=>by
  intro h;refine pj h ?_ ?_<;>clear h
  ·intro e h;rw[Nat.eq_of_beq_eq_true e];exact List.mem_cons_self
  ·intro _ h;exact List.mem_cons_of_mem _ (qt h)
theorem xo{α β:Type}{f g:α->β}:∀{l:List α},l.map f=l.map g->∀a∈l,f a=g a
 |[]=>by intro _ _ m;cases m
 |b::l=>by
  intro h a m;rw[List.map_cons,List.map_cons]at h;injection h with h1 h2
  rcases List.mem_cons.mp m with rfl|m
  ·exact h1
  ·exact xo h2 a m
theorem Ex{q:io}{P:Params}{a:Nat}{f:FuncData}(h:(Xc q).fn a=some f):(XX P q).fn a=some f:=by
 have h:(match qu a Dd with
  |true=>yp (gP P0) a
  |false=>none)=some f:=h
 induction e:qu a Dd using Bool.casesOn with
 |false=>rw[e]at h;exact aa h
 |true=>
  rw[e]at h;have m:=qt e;have lt:=List.all_eq_true.mp wd a m;have h:yp (gP P0) a=some f:=h;rw[<-xo (Ap P) a m]at h
  show(match qw P a with
   |some ⟨_,_,.func f,_⟩=>(match f.code with
    |.ref _=>some f
    |_=>none)
   |_=>none)=some f
  unfold qw;rw[lt];exact h
theorem Gd.c{G:Gr}{P:Params}{q:io}(D:Gd G (XX P q)):Gd G (Xc q)where
 ok:=D.ok
 g:=D.g
 b:=D.b
 lim:=D.lim
 nodig:=D.nodig
 gl:=D.gl
 big:=D.big
 kin:=D.kin
 own:=D.own
 meth:=D.meth
 cls:=D.cls
 fn:=λa f h=>D.fn a f (Ex h)
 td:=D.td
 dq:=D.dq
 din:=D.din
 inq:=D.inq
theorem Tk.c{G:Gr}{P:Params}{q:io}(T:Tk G (XX P q)):Tk G (Xc q)where
 keep:=T.keep
 call:=λ{w n S v S'} h=>T.call (w:=w) (n:=n) (S:=S) (v:=v) (S':=S') h
noncomputable def er:Stmt:=st 188
noncomputable def cf:FC:=⟨(dS er).names,[(⟨⟨[119]⟩⟩,0)]⟩
noncomputable def gO (s:Stmt):List Stmt:=bX 0 s
noncomputable def cY (l:List Stmt) (n:Nat):Stmt:=match l,n with
 |[],_=>.Pass default
 |x::_,0=>x
 |_::r,n+1=>cY r n
noncomputable def tb:List Stmt:=gO (cY (gO (cY (dB er) 11)) 3)
noncomputable def DI (R:Int) (q:io):Option (Fl×St):=(rW (Xc q) 100 9).sts cf tb (iz (.int (R -1)) (.int R) mB pN)
noncomputable def bZ (fr:Bool) (R:Int) (q:io):Bool:=match DI R q with
 |some (.next,S)=>AF fr (iz (.int (R -1)) (.int R) mB pN) S
 |_=>false
theorem qT{P:Prop}{x1:Option (Mine.Fl×Mine.St)}{f0:(Mine.St)->Bool}(h:(match x1 with|Option.some (Mine.Fl.next,a1)=>f0 a1|a1=>false)=true)(k0:∀a1,x1=Option.some (Mine.Fl.next,a1)->f0 a1=true->P):P:=by
 obtain⟨z1,e1⟩:∃z,x1=z:=⟨_,rfl⟩
 rw[e1]at h;induction z1 using Option.casesOn with
 |some y1'0=>
  induction y1'0 using Prod.casesOn with
  |mk y2'0 y2'1=>
   induction y2'0 using Fl.casesOn with
   |next=>exact k0 _ e1 h
   |_=>exact ai h
 |_=>exact ai h
theorem jC{o:Nat}{k:SK}{b:Bool}:∀{l:List (Nat×SK×Bool)},gY o k l=some b->(o,k,b)∈l
 |[]=>by intro h;exact aa h
 |(o',k',b')::r=>by
  intro h;refine ah h ?_ ?_<;>clear h
  ·intro c h;rw[Bool.and_eq_true]at c;refine aB h ?_;clear h;intro h1;subst h1;rw[Nat.eq_of_beq_eq_true c.1,bN c.2];exact List.mem_cons_self
  ·intro _ h;exact List.mem_cons_of_mem _ (jC h)
theorem m7{o:Nat}{k:SK}{b:Option SV}:∀{l:List (Nat×SK×Option SV)},m8 o k l=some b->(o,k,b)∈l
 |[]=>by intro h;exact aa h
 |(o',k',b')::r=>by
  intro h;refine ah h ?_ ?_<;>clear h
  ·intro c h;rw[Bool.and_eq_true]at c;refine aB h ?_;clear h;intro h1;subst h1;rw[Nat.eq_of_beq_eq_true c.1,bN c.2];exact List.mem_cons_self
  ·intro _ h;exact List.mem_cons_of_mem _ (m7 h)
theorem Cu{l:List (Nat×SK×Bool)}(q:∀x∈l,mw G h x.1/\(eY G h x.1 x.2.1↔x.2.2=true))(o:Nat)(sk:SK)(b:Bool)(kd:KD)(e:gY o sk l=some b)(k:KR G sk kd):(∀v∈G.I.ol o,∃a kd',v=.ref a/\cI (ak G.prog G.w) h kd' a)/\(b=true↔∃v∈G.I.ol o,∃a,v=.ref a/\cI (ak G.prog G.w) h kd a):=by
 refine xA (q _ (jC e)) ?_;intro a i;refine⟨a,i.symm.trans ⟨?_,?_⟩⟩
 ·rintro⟨v,m,ad,kd',k',rfl,t⟩;have:=KR.one k' k;subst this;exact⟨_,m,ad,rfl,t⟩
 ·rintro⟨v,m,ad,rfl,t⟩;exact⟨_,m,ad,kd,k,rfl,t⟩
theorem CO{l:List (Nat×SK×Bool)}(q:∀x∈l,(vg G x.1 x.2.1↔x.2.2=true))(o:Nat)(sk:SK)(b:Bool)(kd:KD)(e:gY o sk l=some b)(k:KR G sk kd):(atKey (G.I.od o) kd).isSome=b:=by
 have i:=q _ (jC e);dsimp only at i;induction c:(atKey (G.I.od o) kd).isSome using Bool.casesOn with
 |true=>exact(i.mp ⟨kd,k,c⟩).symm
 |false=>
  induction b using Bool.casesOn with
  |false=>rfl
  |true=>refine an (i.mpr rfl) ?_;intro kd' k' t;have:=KR.one k' k;subst this;rw[c]at t;exact ai t
theorem Em {l:List (Nat×SK×Option SV)} (q:∀x∈l,∀kd,KR G x.2.1 kd->(match x.2.2 with
  |none=>atKey (G.I.od x.1) kd=none
  |some v=>∃p,atKey (G.I.od x.1) kd=some p/\∀J nx,VR G J nx v p.2)):∀o sk r kd,m8 o sk l=some r->KR G sk kd->(match r with
  |none=>atKey (G.I.od o) kd=none
  |some v=>∃p,atKey (G.I.od o) kd=some p/\∀J nx,VR G J nx v p.2):=by
 intro o sk r kd e k
 have h:=q _ (m7 e) kd k
 induction r using Option.casesOn<;>exact h
noncomputable def eK (R:Int):St:=iz (.int (R -1)) (.int R) mB pN
structure cn (G:Gr) (h:Heap) (q:io):Prop where
 inq:∀x∈q.inq,mw G h x.1/\(eY G h x.1 x.2.1↔x.2.2=true)
 din:∀x∈q.din,(vg G x.1 x.2.1↔x.2.2=true)
 dq:∀x∈q.dq,∀kd,KR G x.2.1 kd->(match x.2.2 with
  |none=>atKey (G.I.od x.1) kd=none
  |some v=>∃p,atKey (G.I.od x.1) kd=some p/\∀J nx,VR G J nx v p.2)
section
variable{Q:Flow->Shared->Prop} {R:Int} {fr:Bool} {q:io}
theorem cH{h1:Heap}(B:cQ w h0)(ok:I.Ok)(O:cn (GG I w h0 h1) h1 q):Gd (GG I w h0 h1) (XX w.params q):=
 Ec B ok (Em O.dq) (λo sk b kd e k=>CO O.din o sk b kd e k) (λo sk b kd e k=>Cu O.inq o sk b kd e k)
theorem bx{G:Gr}{h:Heap}:cn G h {}:=⟨λx m=>(by cases m),λx m=>(by cases m),λx m=>(by cases m)⟩
theorem lf{h1:Heap}(B:cQ w h0)(ok:I.Ok)(O:cn (GG I w h0 h1) h1 q)(D:rS (GG I w h0 h1) q ls):ba (GG I w h0 h1) 9 (rW (Xc q) 100 9):=
 pE (Gd.c (cH B ok O)) (Tk.c (nJ (cH B ok bx) D)) 100 9
theorem yI(B:cQ w h0)(V:g' (GG I w h0 s0.heap) J s0.heap L dn Bd)(r0:SR (GG I w h0 s0.heap) J (eK R) s0 L)(O:cn (GG I w h0 s0.heap) s0.heap q)(D:rS (GG I w h0 s0.heap) q ls)(g:bZ fr R q=true)(hfr:fr=true->atKey (I.od 1) k7=none)(tin:I.nu 5000∈dn)(hb:Bd+400<=100000)(hb2:1000<=Bd)(hA:Rm 9 A)(hE:ag ae cf J 66 L)(post:∀J1 I1 s1,SR (GG I1 w h0 s1.heap) J1 (eK R) s1 L->g' (GG I1 w h0 s1.heap) J1 s1.heap L dn (Bd+200)->EA I I1->(∀n,n<66->J1 n=J n)->(∀a o,s0.heap.get? a=some o->¬Nm J L a->s1.heap.get? a=some o)->s1.gens=s0.gens->s1.os=s0.os->Q .next s1):wpAny (model pw w) A (execs tb ae) Q E s0:=by unfold bZ DI at g;refine qT g ?_;clear g;intro S1 e g;refine(lf B V.ok O D).sts e hA hE r0 λJ1 f s1 u r1 fl=>?_;subst fl;refine pT (rG (iy _ _ _ _) V rfl r0 u r1 (uZ g) hfr tin hb hb2) ?_;intro I1 a b c d;exact post J1 I1 s1 a b c d (λa o e hn=>u.keep a o e (λh=>hn (.inl h)) (λn hn' h=>hn (.inr ⟨n,hn',h⟩))) u.gens u.os
end
noncomputable def be (I:IP) (e a b:Int):IP:={I with
 nu:=λx=>if x=5005 then e else if x=5006 then a else if x=5007 then b else I.nu x
 ol:=λo=>if o=4005 then List.replicate e.toNat .none else if o=4006 then List.replicate a.toNat .none else if o=4007 then List.replicate b.toNat .none else I.ol o}
theorem dz{I:IP}{e a b:Int}{x:Nat}(h:x<5005\/5007<x):(be I e a b).nu x=I.nu x:=by show(if x=5005 then e else if x=5006 then a else if x=5007 then b else I.nu x)=I.nu x;rw[if_neg (by lia),if_neg (by lia),if_neg (by lia)]
theorem iH{I:IP}{e a b:Int}{o:Nat}(h:o<4005\/4007<o):(be I e a b).ol o=I.ol o:=by show(if o=4005 then _ else if o=4006 then _ else if o=4007 then _ else I.ol o)=I.ol o;rw[if_neg (by lia),if_neg (by lia),if_neg (by lia)]
noncomputable def wy (e a b:Int):Cv:=⟨λn=>n,[(5005,.int e),(5006,.int a),(5007,.int b)],[],[],[]⟩
theorem ux(I:IP)(e a b:Int):dG (wy e a b) I (be I e a b)where
 nu x:=by
  show match bF [(5005,SV.int e),(5006,.int a),(5007,.int b)] x with
  |some (.int i)=>(be I e a b).nu x=i
  |some (.sym y l)=>(be I e a b).nu x=I.nu y+l
  |some _=>True
  |none=>(be I e a b).nu x=I.nu x
  by_cases h1:x=5005
  ·subst h1;rfl
  ·by_cases h2:x=5006
   ·subst h2;rfl
   ·by_cases h3:x=5007
    ·subst h3;rfl
    ·have n:∀y,x≠y->Nat.beq y x=false:=λy h=>by
      induction c:Nat.beq y x using Bool.casesOn with
      |false=>rfl
      |true=>exact(h (Nat.eq_of_beq_eq_true c).symm).elim
     have:bF [(5005,SV.int e),(5006,.int a),(5007,.int b)] x=none:=by
      unfold bF
      rw[n _ h1]
      dsimp only
      unfold bF
      rw[n _ h2]
      dsimp only
      unfold bF
      rw[n _ h3]
      rfl
     rw[this]
     exact dz (by lia)
 sy x:=rfl
 fx x i h:=by exact aa h
 sx x i h:=by exact aa h
theorem qf{I:IP}{e a b:Int}(he:0<=e)(ha:0<=a)(hb:0<=b)(o:Nat):(be I e a b).ol o=I.ol o\/((be I e a b).nu (1000+o)=((be I e a b).ol o).length/\((be I e a b).nu (1000+o)=e\/(be I e a b).nu (1000+o)=a\/(be I e a b).nu (1000+o)=b)):=by
 by_cases h1:o=4005
 ·subst h1;refine .inr ⟨?_,.inl rfl⟩;show e=((List.replicate e.toNat Value.none).length:Int)
  rw[List.length_replicate];lia
 ·by_cases h2:o=4006
  ·subst h2;refine .inr ⟨?_,.inr (.inl rfl)⟩;show a=((List.replicate a.toNat Value.none).length:Int)
   rw[List.length_replicate];lia
  ·by_cases h3:o=4007
   ·subst h3;refine .inr ⟨?_,.inr (.inr rfl)⟩;show b=((List.replicate b.toNat Value.none).length:Int)
    rw[List.length_replicate];lia
   ·exact .inl (iH (by lia))
noncomputable def ur (c:Cv):pK->Bool
 |.kl k o q=>c.stK k&&c.stK q
 |.lk k o q=>c.stK k&&c.stK q
 |.nv k=>c.stK k
theorem zK(e a b:Int):kU.all (ur (wy e a b))=true:=by kernel_rfl!
theorem Ct.cong{G:Gr}{J:Nat->Nat}{h:Heap}{L:Nat}{W T F O:List KD}{e a b:Int}(C:Ct G J h L W T F O):Ct (G.at (be G.I e a b) G.h1) J h L W T F O:=
 ⟨C.w,C.d,C.t,C.y,C.f,C.e,C.o,C.m,C.p0,C.p1,C.p2⟩
theorem pJ.set{G:Gr}{h:Heap}{e a b:Int}{r:pK}(st:ur (wy e a b) r=true)(ro:w0 r=true)(x:pJ G h r):pJ (G.at (be G.I e a b) G.h1) h r:=by
 have k:=ux G.I e a b;have inK:∀{q:SK},(wy e a b).stK q=true->(vg (G.at (be G.I e a b) G.h1) 2 q↔vg G 2 q):=λst=>⟨λ⟨kd,a,t⟩=>⟨kd,(KR.st k st).mp a,t⟩,λ⟨kd,a,t⟩=>⟨kd,(KR.st k st).mpr a,t⟩⟩
 have inL:∀{o:Nat} {q:SK},(wy e a b).stK q=true->o<=8->(eY (G.at (be G.I e a b) G.h1) h o q↔eY G h o q):=λ{o q} st ho=>by have eo:(G.at (be G.I e a b) G.h1).I.ol o=G.I.ol o:=iH (.inl (by exact Nat.lt_of_le_of_lt ‹_› (by decide)));exact⟨λ⟨v,m,ad,kd,a,t⟩=>⟨v,eo▸m,ad,kd,(KR.st k st).mp a,t⟩,λ⟨v,m,ad,kd,a,t⟩=>⟨v,eo▸m,ad,kd,(KR.st k st).mpr a,t⟩⟩
 have ho:∀{k o q},(r=.kl k o q\/r=.lk k o q)->o<=8:=by
  rintro k o q (rfl|rfl)
  all_goals
   unfold w0 at ro
   dsimp only at ro
   rw[Bool.and_eq_true]at ro
   exact Nat.le_of_ble_eq_true ro.2
 cases r with
 |kl kk o q=>unfold ur at st;dsimp only at st;rw[Bool.and_eq_true]at st;exact λz=>(inL st.2 (ho (.inl rfl))).mpr (x ((inK st.1).mp z))
 |lk kk o q=>unfold ur at st;dsimp only at st;rw[Bool.and_eq_true]at st;exact λz=>(inK st.1).mpr (x ((inL st.2 (ho (.inr rfl))).mp z))
 |nv kk=>exact λz=>x ((inK st).mp z)
theorem g'.set{G:Gr}{J:Nat->Nat}{h:Heap}{L:Nat}{dn:List Int}{Bd:Nat}{e a b:Int}(V:g' G J h L dn Bd)(he:e=2\/e=3)(ha:a=0\/a=1)(hb:b=0\/b=3)(hB:1000<=Bd):g' (G.at (be G.I e a b) G.h1) J h L dn Bd:=by
 have lens:∀o,((be G.I e a b).ol o).length<=Bd/\((be G.I e a b).ol o).length<=100000:=by
  intro o;rcases qf (I:=G.I) (e:=e) (a:=a) (b:=b) (by lia) (by lia) (by lia) o with h|⟨h,h2⟩
  ·rw[h];exact⟨V.bL o,V.ok.small o⟩
  ·lia
 have off:∀x,x<5005\/5007<x->(G.at (be G.I e a b) G.h1).I.nu x=G.I.nu x:=λx h=>dz h
 refine{
  ok:={
   l0:=V.ok.l0
   d0:=V.ok.d0
   len:=λo n0=>?_
   small:=λo=>(lens o).2
   smallD:=V.ok.smallD
   ss1:=V.ok.ss1
   rg:=λx lo hi h=>?_
   ch:=λx h=>?_}
  bL:=λo=>(lens o).1
  bD:=V.bD
  ct:=let⟨W,T,F,O,C⟩:=V.ct;⟨W,T,F,O,C.cong⟩
  tp:=λo h=>?_
  rel:=λr m=>pJ.set (List.all_eq_true.mp (zK e a b) r m) (List.all_eq_true.mp sF r m) (V.rel r m)
  lenM:=V.lenM
  met:=V.met
  ix:=λg hg=>?_
  ix7:=V.ix7
  dist:=V.dist
  srt:=λg hg=>?_
  at0:=V.at0}
 ·rcases qf (I:=G.I) (e:=e) (a:=a) (b:=b) (by lia) (by lia) (by lia) o with h|⟨h,h2⟩
  ·show(be G.I e a b).nu (1000+o)=(((be G.I e a b).ol o).length:Int)
   rw[h];by_cases c:o<4005\/4007<o
   ·rw[dz (by lia)];exact V.ok.len o n0
   ·rw[<-h];have:o=4005\/o=4006\/o=4007:=by lia
    rcases this with rfl|rfl|rfl
    ·show e=((List.replicate e.toNat Value.none).length:Int);rw[List.length_replicate];lia
    ·show a=((List.replicate a.toNat Value.none).length:Int);rw[List.length_replicate];lia
    ·show b=((List.replicate b.toNat Value.none).length:Int);rw[List.length_replicate];lia
  ·exact h
 ·by_cases h5:x=5005
  ·subst h5;refine gS h ?_;clear h;intro h1 h2;subst h1;subst h2;show(2:Int)<=e/\e<=3;lia
  ·have hx:x<5005\/5007<x:=by
    unfold zj at h
    refine ah h ?_ ?_<;>clear h
    ·intro c h
     have:=Nat.eq_of_beq_eq_true c;omega
    ·intro _ h
     refine ah h ?_ ?_<;>clear h
     ·intro c h
      have:=Nat.eq_of_beq_eq_true c;omega
     ·intro _ h
      refine ah h ?_ ?_<;>clear h
      ·intro c h
       have:=Nat.eq_of_beq_eq_true c;omega
      ·intro _ h
       refine ab h ?_;clear h;intro c h
       exact(h5 (Nat.eq_of_beq_eq_true c)).elim
   rw[off x hx]
   exact V.ok.rg x lo hi h
 ·have hx:x=5006\/x=5007:=by
   unfold yP at h
   split at h
   ·rename_i c;exact .inl (Nat.eq_of_beq_eq_true c)
   ·split at h
    ·rename_i c;exact .inr (Nat.eq_of_beq_eq_true c)
    ·exact(h rfl).elim
  rcases hx with rfl|rfl
  ·rcases ha with rfl|rfl
   ·exact⟨0,by decide,rfl⟩
   ·exact⟨1,by decide,rfl⟩
  ·rcases hb with rfl|rfl
   ·exact⟨0,by decide,rfl⟩
   ·exact⟨3,by decide,rfl⟩
 ·rcases h with rfl|rfl|rfl|rfl
  ·exact V.tp 5 (by decide)
  ·exact V.tp 6 (by decide)
  ·exact V.tp 7 (by decide)
  ·exact V.tp 8 (by decide)
 ·refine bb (V.ix g hg) ?_;intro p t h1 h2;refine⟨p,t,?_,?_⟩
  ·have:de (G.at (be G.I e a b) G.h1).I g=de G.I g:=by
    unfold de
    rw[off _ (by lia),off _ (by lia)]
   rw[this]
   exact h1
  ·rw[off _ (by lia)];exact h2
 ·rw[off _ (by lia),off _ (by lia)];exact V.srt g hg
section
open PySem PySem.W
noncomputable def fM:List (Nat×Nat):=[(0,0),(0,1),(1,0),(1,1),(2,0),(3,0),(4,1),(5,1),(6,1),(7,1),(8,1),(9,1)]
noncomputable def ga:List (Nat×Nat×Nat):=[(0,0,0),(0,0,1),(0,1,0),(0,1,1),(1,0,0),(1,0,1),(1,1,0),(1,1,1),(2,0,0),(2,0,1),(2,1,0),(2,1,1)]
noncomputable def gc:List (Nat×Nat):=[(0,0),(0,1),(1,0),(1,1),(2,0),(2,1)]
noncomputable def n9:List (Nat×Nat×Nat):=[(0,0,0),(0,0,2),(0,0,3),(0,1,0),(0,1,2),(0,1,3),(1,0,0),(1,0,2),(1,0,3),(1,1,0),(1,1,2),(1,1,3),(2,0,0),(2,0,2),(2,0,3),(2,1,0),(2,1,2),(2,1,3)]
end
section
open PySem PySem.W
theorem yj:(fM.all λx=>bZ false 2 (kZ 2 x.1 x.2))=true:=by decide+kernel
theorem tG:(fM.all λx=>bZ false 2 (gn 2 x.1 x.2))=true:=by decide+kernel
theorem wb:(ga.all λx=>bZ false 2 (iJ 2 x.1 x.2.1 x.2.2))=true:=by decide+kernel
end
section
open PySem PySem.W
theorem yh:(ga.all λx=>bZ false 2 (gk 2 x.1 x.2.1 x.2.2 true))=true:=by decide+kernel
theorem yi:(ga.all λx=>bZ false 2 (gk 2 x.1 x.2.1 x.2.2 false))=true:=by decide+kernel
end
section
open PySem PySem.W
theorem wc:(n9.all λx=>bZ false 2 (iK 2 x.1 x.2.1 x.2.2))=true:=by decide+kernel
theorem ym:(gc.all λx=>bZ false 2 (dW 2 x.1 x.2 true)&&bZ false 2 (dW 2 x.1 x.2 false))=true:=by decide+kernel
theorem yl:(gc.all λx=>bZ false 2 (dU 2 x.1 x.2 true)&&bZ true 2 (dU 2 x.1 x.2 false))=true:=by decide+kernel
theorem yk:(gc.all λx=>bZ false 2 (la 2 x.1 x.2))=true:=by decide+kernel
end
section
open PySem PySem.W
theorem yd:(fM.all λx=>bZ false 3 (kZ 3 x.1 x.2))=true:=by decide+kernel
theorem tF:(fM.all λx=>bZ false 3 (gn 3 x.1 x.2))=true:=by decide+kernel
theorem vZ:(ga.all λx=>bZ false 3 (iJ 3 x.1 x.2.1 x.2.2))=true:=by decide+kernel
end
section
open PySem PySem.W
theorem yb:(ga.all λx=>bZ false 3 (gk 3 x.1 x.2.1 x.2.2 true))=true:=by decide+kernel
theorem yc:(ga.all λx=>bZ false 3 (gk 3 x.1 x.2.1 x.2.2 false))=true:=by decide+kernel
end
section
open PySem PySem.W
theorem wa:(n9.all λx=>bZ false 3 (iK 3 x.1 x.2.1 x.2.2))=true:=by decide+kernel
theorem yg:(gc.all λx=>bZ false 3 (dW 3 x.1 x.2 true)&&bZ false 3 (dW 3 x.1 x.2 false))=true:=by decide+kernel
theorem yf:(gc.all λx=>bZ false 3 (dU 3 x.1 x.2 true)&&bZ true 3 (dU 3 x.1 x.2 false))=true:=by decide+kernel
theorem ye:(gc.all λx=>bZ false 3 (la 3 x.1 x.2))=true:=by decide+kernel
end
noncomputable def xj (T:St):Nat->Bool
 |0=>true
 |n+1=>(match T.hp.get n with
  |some (.lst (_+1) xs)=>nilE xs
  |some (.tab _ _ xs)=>nilE xs
  |some (.hd _ xs)=>nilE xs
  |_=>true)&&xj T n
theorem uG{T:St}:∀{N:Nat},xj T N=true->∀n,n<N->match T.hp.get n with
  |some (.lst (_+1) xs)=>xs=[]
  |some (.tab _ _ xs)=>xs=[]
  |some (.hd _ xs)=>xs=[]
  |_=>True
 |0=>by
  intro _ n hn
  exact absurd ‹_› (Nat.not_lt_zero _)
 |N+1=>by
  intro h n hn
  replace h:=Bool.and_eq_true_iff.mp h
  rcases Nat.lt_or_ge n N with l|l
  ·exact uG h.2 n l
  ·have:n=N:=by lia
   subst this
   have q:=h.1
   split at q
   ·exact bq q
   ·exact bq q
   ·exact bq q
   ·trivial
theorem wD(so ro ky:SV)(lc:List (Str×SV)):xj (iz so ro ky lc) 66=true:=by kernel_rfl!
theorem SR.lists(r:SR G J S s L)(hz:xj S S.next=true){n o:Nat}{ys:List SV}(hn:n<S.next)(e:S.hp.get n=some (.lst o ys)\/∃fs,S.hp.get n=some (.tab o fs ys))(h0:o≠0):bm s.heap (J n)=G.I.ol o:=by
 have q:=uG hz n hn;obtain⟨k,rfl⟩:∃k,o=k+1:=⟨o -1,by lia⟩
 have hy:ys=[]:=by rcases e with e|⟨fs,e⟩<;>(rw[e]at q;exact q)
 subst hy;refine an (dZ r.hp hn e) ?_;intro zs e1 e2;rw[e1,aK e2,List.append_nil]
theorem SR.dicts(r:SR G J S s L){n o:Nat}(hn:n<S.next)(e:S.hp.get n=some (.hd o [])):s.heap.DictOfH (ay G.prog G.w) (J n) (G.I.od o):=by refine an (r.hp.obj n _ hn e) ?_;intro xs q1' b;obtain⟨a,_⟩:=q1';rw[aK b]at a;exact a
theorem Fn(e a b:Int):((wy e a b).hpB (eK 2) (eK 2) 66&&(wy e a b).locB (eK 2) (eK 2)&&((wy e a b).hpB (eK 3) (eK 3) 66&&(wy e a b).locB (eK 3) (eK 3)))=true:=by kernel_rfl!
theorem Ab:∀x∈fq,x.1<4005:=by decide
theorem SR.setw{G:Gr}{J:Nat->Nat}{s:Shared}{L:Nat}{R:Int}{e a b:Int}(r:SR G J (eK R) s L)(hR:R=2\/R=3)(ok:G.I.Ok):SR (G.at (be G.I e a b) G.h1) J (eK R) s L:=by
 have c:=Fn e a b;simp only[Bool.and_eq_true]at c;have chk:(wy e a b).hpB (eK R) (eK R) 66=true/\(wy e a b).locB (eK R) (eK R)=true:=by
  rcases hR with rfl|rfl
  ·exact c.1
  ·exact c.2
 have l0:(be G.I e a b).ol 0=[]:=by rw[iH (by decide)];exact ok.l0
 refine Cv.conv (c:=wy e a b) (ux G.I e a b) chk.1 chk.2 (λm n _ _ h=>h) ok.l0 l0 ?_ ?_ r.hp.tk r
 ·intro n o ys hn h h0;have m:=aP (kc (iy _ _ _ _) n o ys hn h h0);have:=Ab _ m;rw[iH (.inl this)];exact(r.lists (wD _ _ _ _) hn h h0).symm
 ·intro n o hn h;exact r.dicts hn h
noncomputable def B1:pK->pK->Bool
 |.kl k o q,.kl k' o' q'=>ff k k'&&(Nat.beq o o'&&ff q q')
 |.lk k o q,.lk k' o' q'=>ff k k'&&(Nat.beq o o'&&ff q q')
 |.nv k,.nv k'=>ff k k'
 |_,_=>false
theorem wZ{a b:pK}(h:B1 a b=true):a=b:=by
 induction a using pK.casesOn<;>induction b using pK.casesOn<;>unfold B1 at h<;>dsimp only at h<;>first|((first|exact ai h|cases h);done)|skip
 ·rw[Bool.and_eq_true,Bool.and_eq_true]at h;rw[bN h.1,Nat.eq_of_beq_eq_true h.2.1,bN h.2.2]
 ·rw[Bool.and_eq_true,Bool.and_eq_true]at h;rw[bN h.1,Nat.eq_of_beq_eq_true h.2.1,bN h.2.2]
 ·rw[bN h]
noncomputable def j5 (r:pK):Bool:=kU.any (B1 r)
theorem cy{r:pK}(h:j5 r=true):r∈kU:=by refine an (List.any_eq_true.mp h) ?_;intro x m e;rw[wZ e];exact m
theorem vx:(fM.all λx=>j5 (.kl (cU x.1 x.2) 6 (dc x.1 x.2)))=true:=by decide+kernel
theorem wX:(ga.all λx=>j5 (.kl (jP (x.1+1) x.2.1) 7 (ez (x.1+1) x.2.1))&&(j5 (.kl (kS x.2.2 (gR x.1 x.2.1) 0) 5 (br x.2.2 (gR x.1 x.2.1) mL))&&j5 (.lk (kS x.2.2 (gR x.1 x.2.1) 0) 5 (br x.2.2 (gR x.1 x.2.1) mL))))=true:=by decide+kernel
theorem wY:(gc.all λx=>j5 (.nv (kN x.2))&&(j5 (.kl (kS x.2 x.1 0) 8 (bj x.2 x.1 0))&&(j5 (.kl (kV x.2 x.1) 5 (br x.2 x.1 cL))&&(j5 (.lk (kV x.2 x.1) 5 (br x.2 x.1 cL))&&
 (j5 (.kl (kS x.2 x.1 1) 8 (bj x.2 x.1 1))&&(j5 (.kl (kF x.2 x.1) 8 (bj x.2 x.1 2))&&j5 (.nv (kG x.2 x.1))))))))=true:=by decide+kernel
section
variable{R:Int}
theorem uL(I:IP){w:World}{h0 h1:Heap}(hR:G.I.nu 5003=R):KR G [.a (.int R),.a mB,.t []] (de G.I 0):=by
 refine .cons ⟨.i (G.I.nu 5003),rfl,?_⟩ (.cons ⟨.i (G.I.nu 5000),rfl,?_⟩ (.cons ⟨[],rfl,.nil⟩ .nil))
 ·show KA.i (G.I.nu 5003)=.i R;rw[hR]
 ·show KA.i (G.I.nu 5000)=.i (G.I.nu 5000+0);rw[Int.add_zero]
theorem jM{ds:List (SV×Int×SV)}{inq:List (Nat×SK×Bool)}{dq:List (Nat×SK×Option SV)}{din:List (Nat×SK×Bool)}(V:g' G J h L dn Bd)(hR:G.I.nu 5003=R)
  (q1:∀x∈inq,(x.1=5\/x.1=6\/x.1=7\/x.1=8)/\(eY G h x.1 x.2.1↔x.2.2=true)) (q2:∀x∈din,(vg G x.1 x.2.1↔x.2.2=true))
  (q3:∀x∈dq,(∃kd,KR G x.2.1 kd)/\∀kd,KR G x.2.1 kd->(match x.2.2 with
   |none=>atKey (G.I.od x.1) kd=none
   |some v=>∃p,atKey (G.I.od x.1) kd=some p/\∀J nx,VR G J nx v p.2)):cn G h (zU R ds inq dq din)where
 inq x m:=⟨V.tp _ (q1 x m).1,(q1 x m).2⟩
 dq x m:=by
  rcases List.mem_cons.mp m with rfl|m
  ·intro kd k
   have k2:KR G [.a (.int R),.a mB,.t []] kd:=k
   have:=KR.one k2 (uL (G:=G) G.I (w:=G.w) (h0:=h) (h1:=h) hR)
   subst this
   refine bb (V.ix 0 (by decide)) ?_;intro p t e1 e2
   refine⟨p,e1,λJ nx=>⟨t,?_⟩⟩
   rw[e2]
   show Value.int (G.I.nu 5001) t=.int (G.I.nu 5001+0) t
   rw[Int.add_zero]
  ·exact(q3 x m).2
 din x m:=by
  rcases List.mem_append.mp m with m|m
  ·rcases List.mem_cons.mp m with rfl|m
   ·refine⟨λ_=>rfl,λ_=>⟨de G.I 0,uL (G:=G) G.I (w:=G.w) (h0:=h) (h1:=h) hR,?_⟩⟩
    refine bb (V.ix 0 (by decide)) ?_;intro p t e1 e2
    show(atKey (G.I.od 1) (de G.I 0)).isSome=true
    rw[e1];rfl
   ·refine an (List.mem_map.mp m) ?_;intro y my q1';subst q1'
    refine xA (q3 y my) ?_;intro q1' f;obtain⟨kd,k⟩:=q1'
    have f1:=f kd k
    dsimp only
    induction e:y.2.2 using Option.casesOn with
    |none=>
     rw[e]at f1
     dsimp only at f1
     refine⟨?_,λh=>by exact ai h⟩
     rintro⟨kd',k',i⟩
     rw[KR.one k' k,f1]at i
     exact ai i
    |some v=>
     rw[e]at f1
     dsimp only at f1
     refine an f1 ?_;clear f1;intro p e1 _
     exact⟨λ_=>rfl,λ_=>⟨kd,k,by rw[e1];rfl⟩⟩
  ·exact q2 x m
end
theorem jF{k:SV}{n:Int}{v:SV}:∀{l:List (SV×Int×SV)},drawn k n l=some v->(k,n,v)∈l
 |[]=>by intro h;exact aa h
 |(k',n',v')::r=>by
  intro h;refine ah h ?_ ?_<;>clear h
  ·intro c h;rw[Bool.and_eq_true]at c;refine aB h ?_;clear h;intro h1;subst h1;rw[bM c.1,bl.mp c.2];exact List.mem_cons_self
  ·intro _ h;exact List.mem_cons_of_mem _ (jF h)
theorem fw(ls:List Int)(i:Nat){n:Int}(h:1<=n):0<=dr ls i n/\dr ls i n<n:=by unfold dr;exact⟨Int.fmod_nonneg_of_pos _ ‹_›,Int.fmod_lt_of_pos _ ‹_›⟩
theorem Ek{G:Gr}{q:io}{ls:List Int}(vals:ac cW ls (G.I.ol 1))(h0:0<=G.I.nu 1)(h1:G.I.nu 1<=900)(hd:∀x∈q.draws,∃k:Nat,x.1=.sym 1 k/\k<=20/\1<=x.2.1/\x.2.1<=1000/\∀J nx t,VR G J nx x.2.2 (.int (dr ls ((G.I.nu 1).toNat+k) x.2.1) t)):rS G q ls where
 vals:=vals
 dr k n v e:=by
  refine rZ (hd _ (jF e)) ?_;intro i e1 e2 e3 e4 e5
  dsimp only at e1 e3 e4 e5
  subst e1
  refine⟨(G.I.nu 1).toNat+i,?_,by lia,e3,e4,e5⟩
  show(((G.I.nu 1).toNat+i:Nat):Int)=G.I.nu 1+(i:Int)
  lia
structure EC (R:Int):Prop where
 plain:∀x∈fM,bZ false R (kZ R x.1 x.2)=true
 plainIn:∀x∈fM,bZ false R (gn R x.1 x.2)=true
 turnIn:∀x∈ga,bZ false R (iJ R x.1 x.2.1 x.2.2)=true
 turnT:∀x∈ga,bZ false R (gk R x.1 x.2.1 x.2.2 true)=true
 turnF:∀x∈ga,bZ false R (gk R x.1 x.2.1 x.2.2 false)=true
 methIn:∀x∈n9,bZ false R (iK R x.1 x.2.1 x.2.2)=true
 meth0:∀x∈gc,(bZ false R (dW R x.1 x.2 true)&&bZ false R (dW R x.1 x.2 false))=true
 meth1:∀x∈gc,(bZ false R (dU R x.1 x.2 true)&&bZ true R (dU R x.1 x.2 false))=true
 meth2:∀x∈gc,bZ false R (la R x.1 x.2)=true
theorem D'{R:Int}(h:R=2\/R=3):EC R:=by
 rcases h with rfl|rfl
 ·exact⟨List.all_eq_true.mp yj,List.all_eq_true.mp tG,List.all_eq_true.mp wb,List.all_eq_true.mp yh,List.all_eq_true.mp yi,List.all_eq_true.mp wc,List.all_eq_true.mp ym,List.all_eq_true.mp yl,List.all_eq_true.mp yk⟩
 ·exact⟨List.all_eq_true.mp yd,List.all_eq_true.mp tF,List.all_eq_true.mp vZ,List.all_eq_true.mp yb,List.all_eq_true.mp yc,List.all_eq_true.mp wa,List.all_eq_true.mp yg,List.all_eq_true.mp yf,List.all_eq_true.mp ye⟩
structure Ez (I I':IP):Prop where
 nu:∀x,x≠1/\x≠2/\(x<1000\/1024<x)/\(x<5005\/5007<x)->I'.nu x=I.nu x
 inl:I'.ol 1=I.ol 1
 ss:I'.ss=I.ss
 len:I'.nu 1024=I.nu 1024
 at1:I.nu 1<=I'.nu 1/\I'.nu 1<=I.nu 1+20
section
variable{Q:Flow->Shared->Prop} {R:Int}
theorem vA{G:Gr}{h:Heap}(V:g' G J h L dn Bd)(hR:G.I.nu 5003=R){x:Nat×Nat}(m:x∈fM):(eY G h 6 (dc x.1 x.2)->cn G h (gn R x.1 x.2))/\(¬eY G h 6 (dc x.1 x.2)->cn G h (kZ R x.1 x.2)):=by
 have r:=V.rel _ (cy (List.all_eq_true.mp vx x m));refine⟨λi=>jM V hR (λy hy=>?_) (λy hy=>by cases hy) (λy hy=>by cases hy),λi=>jM V hR (λy hy=>?_) (λy hy=>?_) (λy hy=>by cases hy)⟩
 ·rw[List.mem_singleton]at hy;subst hy;exact⟨.inr (.inl rfl),λ_=>rfl,λ_=>i⟩
 ·rw[List.mem_singleton]at hy;subst hy;exact⟨.inr (.inl rfl),λh=>(i h).elim,λh=>by exact ai h⟩
 ·rw[List.mem_singleton]at hy;subst hy;exact⟨λh=>(i (r h)).elim,λh=>by exact ai h⟩
theorem xd{G:Gr}{h:Heap}(V:g' G J h L dn Bd)(hR:G.I.nu 5003=R){x:Nat×Nat×Nat}(m:x∈ga):(eY G h 7 (ez (x.1+1) x.2.1)->cn G h (iJ R x.1 x.2.1 x.2.2))/\(¬eY G h 7 (ez (x.1+1) x.2.1)->eY G h 5 (br x.2.2 (gR x.1 x.2.1) mL)->cn G h (gk R x.1 x.2.1 x.2.2 true))/\(¬eY G h 7 (ez (x.1+1) x.2.1)->¬eY G h 5 (br x.2.2 (gR x.1 x.2.1) mL)->cn G h (gk R x.1 x.2.1 x.2.2 false)):=by
 have r:=List.all_eq_true.mp wX x m;simp only[Bool.and_eq_true]at r;refine l8 r ?_;clear r;intro r1 r2 r3;have r1:=V.rel _ (cy r1);have r2:=V.rel _ (cy r2);have r3:=V.rel _ (cy r3);have main:∀b:Bool,¬eY G h 7 (ez (x.1+1) x.2.1)->(eY G h 5 (br x.2.2 (gR x.1 x.2.1) mL)↔b=true)->cn G h (gk R x.1 x.2.1 x.2.2 b):=by
  intro b i j;refine jM V hR (λy hy=>?_) (λy hy=>?_) (λy hy=>by cases hy)
  ·rcases List.mem_cons.mp hy with rfl|hy
   ·exact⟨.inr (.inr (.inl rfl)),λh=>(i h).elim,λh=>by exact ai h⟩
   ·rw[List.mem_singleton]at hy;subst hy;exact⟨.inl rfl,j⟩
  ·rcases List.mem_cons.mp hy with rfl|hy
   ·exact⟨λh=>(i (r1 h)).elim,λh=>by exact ai h⟩
   ·rw[List.mem_singleton]at hy;subst hy;exact⟨λh=>j.mp (r2 h),λh=>r3 (j.mpr h)⟩
 refine⟨λi=>jM V hR (λy hy=>?_) (λy hy=>by cases hy) (λy hy=>by cases hy),λi j=>main true i ⟨λ_=>rfl,λ_=>j⟩,λi j=>main false i ⟨λh=>(j h).elim,λh=>by exact ai h⟩⟩;rw[List.mem_singleton]at hy;subst hy;exact⟨.inr (.inr (.inl rfl)),λ_=>rfl,λ_=>i⟩
theorem sK{G:Gr}{h:Heap}(V:g' G J h L dn Bd)(hR:G.I.nu 5003=R){j n y:Nat}(i:eY G h 8 (bj n j (wA y))):cn G h (iK R j n y):=by refine jM V hR (λy hy=>?_) (λy hy=>by cases hy) (λy hy=>by cases hy);rw[List.mem_singleton]at hy;subst hy;exact⟨.inr (.inr (.inr rfl)),λ_=>rfl,λ_=>i⟩
theorem Cs{G:Gr}:KR G [.a (.int 7),.a (.int 0)] k7:=.cons ⟨_,rfl,rfl⟩ (.cons ⟨_,rfl,rfl⟩ .nil)
theorem xe{G:Gr}{h:Heap}(V:g' G J h L dn Bd)(hR:G.I.nu 5003=R){x:Nat×Nat}(m:x∈gc):(¬eY G h 8 (bj x.2 x.1 0)->eY G h 5 (br x.2 x.1 cL)->cn G h (dW R x.1 x.2 true))/\(¬eY G h 8 (bj x.2 x.1 0)->¬eY G h 5 (br x.2 x.1 cL)->cn G h (dW R x.1 x.2 false))/\(¬eY G h 8 (bj x.2 x.1 1)->(atKey (G.I.od 1) k7≠none)->cn G h (dU R x.1 x.2 true))/\(¬eY G h 8 (bj x.2 x.1 1)->(atKey (G.I.od 1) k7=none)->cn G h (dU R x.1 x.2 false))/\(¬eY G h 8 (bj x.2 x.1 2)->cn G h (la R x.1 x.2)):=by
 have r:=List.all_eq_true.mp wY x m;simp only[Bool.and_eq_true]at r;refine iw r ?_;clear r;intro r1 r2 r3 r4 r5 r6 r7;have r1:=V.rel _ (cy r1);have r2:=V.rel _ (cy r2);have r3:=V.rel _ (cy r3);have r4:=V.rel _ (cy r4);have r5:=V.rel _ (cy r5);have r6:=V.rel _ (cy r6);have r7:=V.rel _ (cy r7);have f:∀{P:Prop} {b:Bool},¬P->b=false->(P↔b=true):=λ{P b} h e=>by subst e;exact⟨λx=>(h x).elim,λx=>by exact ai x⟩
 have main0:∀b:Bool,¬eY G h 8 (bj x.2 x.1 0)->(eY G h 5 (br x.2 x.1 cL)↔b=true)->cn G h (dW R x.1 x.2 b):=by
  intro b i j;refine jM V hR (λy hy=>?_) (λy hy=>?_) (λy hy=>by cases hy)
  ·rcases List.mem_cons.mp hy with rfl|hy
   ·exact⟨.inr (.inr (.inr rfl)),f i rfl⟩
   ·rw[List.mem_singleton]at hy;subst hy;exact⟨.inl rfl,j⟩
  ·rcases List.mem_cons.mp hy with rfl|hy
   ·exact f r1 rfl
   ·rcases List.mem_cons.mp hy with rfl|hy
    ·exact f (λh=>i (r2 h)) rfl
    ·rw[List.mem_singleton]at hy;subst hy;exact⟨λh=>j.mp (r3 h),λh=>r4 (j.mpr h)⟩
 have main1:∀b:Bool,¬eY G h 8 (bj x.2 x.1 1)->(match b with
   |true=>∃p t,atKey (G.I.od 1) k7=some p/\p.2=.int 20 t
   |false=>atKey (G.I.od 1) k7=none)->cn G h (dU R x.1 x.2 b):=by
  intro b i j
  refine jM V hR (λy hy=>?_) (λy hy=>?_) (λy hy=>?_)
  ·rw[List.mem_singleton]at hy
   subst hy
   exact⟨.inr (.inr (.inr rfl)),f i rfl⟩
  ·rcases List.mem_cons.mp hy with rfl|hy
   ·exact f r1 rfl
   ·rw[List.mem_singleton]at hy
    subst hy
    exact f (λh=>i (r5 h)) rfl
  ·rw[List.mem_singleton]at hy
   subst hy
   refine⟨⟨k7,Cs⟩,λkd k=>?_⟩
   have:=KR.one k (Cs (G:=G))
   subst this
   induction b using Bool.casesOn with
   |true=>
    refine bb j ?_;clear j;intro p t e1 e2
    exact⟨p,e1,λJ nx=>⟨t,e2⟩⟩
   |false=>exact j
 refine⟨λi j=>main0 true i ⟨λ_=>rfl,λ_=>j⟩,λi j=>main0 false i (f j rfl),λi j=>main1 true i ?_,λi j=>main1 false i j,λi=>?_⟩
 ·rcases V.ix7 with⟨e,_⟩|⟨p,t,e1,e2,_⟩
  ·exact(j e).elim
  ·exact⟨p,t,e1,e2⟩
 ·refine jM V hR (λy hy=>?_) (λy hy=>?_) (λy hy=>by cases hy)
  ·rw[List.mem_singleton]at hy;subst hy;exact⟨.inr (.inr (.inr rfl)),f i rfl⟩
  ·rcases List.mem_cons.mp hy with rfl|hy
   ·exact f r1 rfl
   ·rcases List.mem_cons.mp hy with rfl|hy
    ·exact f (λh=>i (r6 h)) rfl
    ·rw[List.mem_singleton]at hy;subst hy;exact f r7 rfl
end
theorem cg{G:Gr}{J:Nat->Nat}{nx:Nat}{i j:Int}{t:Nat}(h:j=i):VR G J nx (.int i) (.int j t):=⟨t,by rw[h]⟩
theorem pk{G:Gr}{ls:List Int}{i:Nat}(k:Nat)(hk:k<=20)(n:Int)(v:SV)(hn:1<=n/\n<=1000)(h:∀J nx t,VR G J nx v (.int (dr ls (i+k) n) t)):∃k':Nat,((SV.sym 1 (k:Int),n,v):SV×Int×SV).1=.sym 1 k'/\k'<=20/\1<=((SV.sym 1 (k:Int),n,v):SV×Int×SV).2.1/\((SV.sym 1 (k:Int),n,v):SV×Int×SV).2.1<=1000/\∀J nx t,VR G J nx ((SV.sym 1 (k:Int),n,v):SV×Int×SV).2.2 (.int (dr ls (i+k') ((SV.sym 1 (k:Int),n,v):SV×Int×SV).2.1) t):=
 ⟨k,rfl,hk,hn.1,hn.2,h⟩
section
variable{Q:Flow->Shared->Prop} {R:Int}
theorem wC(B:cQ w h0)(V:g' (GG I w h0 s0.heap) J s0.heap L dn Bd)(r0:SR (GG I w h0 s0.heap) J (eK R) s0 L)(hR:R=2\/R=3)(hR2:I.nu 5003=R)(vals:ac cW ls (I.ol 1))(h9:I.nu 1<=900)(tin:I.nu 5000∈dn)(hb:Bd+400<=100000)(hb2:1000<=Bd)(hA:Rm 9 A)(hE:ag ae cf J 66 L)(post:∀J1 I1 s1,SR (GG I1 w h0 s1.heap) J1 (eK R) s1 L->g' (GG I1 w h0 s1.heap) J1 s1.heap L dn (Bd+200)->Ez I I1->(∀n,n<66->J1 n=J n)->(∀a o,s0.heap.get? a=some o->¬Nm J L a->s1.heap.get? a=some o)->s1.gens=s0.gens->s1.os=s0.os->Q .next s1):wpAny (model pw w) A (execs tb ae) Q E s0:=by
 have Gs:=D' hR
 have run:∀(e a b:Int),(e=2\/e=3)->(a=0\/a=1)->(b=0\/b=3)->∀(fr:Bool) (q:io),bZ fr R q=true->(fr=true->atKey (I.od 1) k7=none)->
   cn (GG (be I e a b) w h0 s0.heap) s0.heap q->(∀x∈q.draws,∃k:Nat,x.1=.sym 1 k/\k<=20/\1<=x.2.1/\x.2.1<=1000/\∀J nx t,VR (GG (be I e a b) w h0 s0.heap) J nx x.2.2 (.int (dr ls ((I.nu 1).toNat+k) x.2.1) t))->
   wpAny (model pw w) A (execs tb ae) Q E s0:=by
  intro e a b he ha hb' fr q g hfr O D
  have V2:g' (GG (be I e a b) w h0 s0.heap) J s0.heap L dn Bd:=V.set (G:=GG I w h0 s0.heap) he ha hb' hb2
  have r2:SR (GG (be I e a b) w h0 s0.heap) J (eK R) s0 L:=SR.setw (G:=GG I w h0 s0.heap) r0 hR V.ok
  have n1:(be I e a b).nu 1=I.nu 1:=dz (by decide)
  have l1:(be I e a b).ol 1=I.ol 1:=iH (by decide)
  refine yI B V2 r2 O (Ek (G:=GG (be I e a b) w h0 s0.heap) (by rw[show(GG (be I e a b) w h0 s0.heap).I.ol 1=I.ol 1 from l1];exact vals) V2.at0 (by show(be I e a b).nu 1<=900;rw[n1];exact h9) (by
   show∀x∈q.draws,∃k:Nat,x.1=.sym 1 k/\k<=20/\1<=x.2.1/\x.2.1<=1000/\∀J nx t,VR (GG (be I e a b) w h0 s0.heap) J nx x.2.2 (.int (dr ls (((be I e a b).nu 1).toNat+k) x.2.1) t)
   rw[n1];exact D)) g hfr (by rw[dz (by decide)];exact tin) hb hb2 hA hE λJ1 I1 s1 x1 x2 x3 x4 x5 x6 x7=>?_
  refine post J1 I1 s1 x1 x2 ⟨λx h=>?_,by rw[x3.inl,l1],x3.ss,by rw[x3.len];exact dz (by decide),?_⟩ x4 x5 x6 x7
  ·rw[x3.nu x ⟨h.1,h.2.1,h.2.2.1⟩,dz h.2.2.2]
  ·have:=x3.at1
   rw[n1]at this
   exact this
 have V2:∀e a b:Int,(e=2\/e=3)->(a=0\/a=1)->(b=0\/b=3)->g' (GG (be I e a b) w h0 s0.heap) J s0.heap L dn Bd:=λe a b he ha hb'=>V.set (G:=GG I w h0 s0.heap) he ha hb' hb2;have hR3:∀e a b:Int,(GG (be I e a b) w h0 s0.heap).I.nu 5003=R:=λe a b=>by show(be I e a b).nu 5003=R;rw[dz (by decide)];exact hR2
 obtain⟨i,hi⟩:∃i,i=(I.nu 1).toNat:=⟨_,rfl⟩
 rw[<-hi]at run;have d0:=fw ls (i+0) (n:=4) (by decide);have d1:=fw ls (i+1) (n:=10) (by decide);have d1':=fw ls (i+1) (n:=4) (by decide);have d1'':=fw ls (i+1) (n:=3) (by decide);have d2:=fw ls (i+2) (n:=2) (by decide);have d3:=fw ls (i+3) (n:=4) (by decide);have d3':=fw ls (i+3) (n:=2) (by decide);have c0:dr ls (i+0) 4=0\/dr ls (i+0) 4=1\/(dr ls (i+0) 4=2\/dr ls (i+0) 4=3):=by lia
 rcases c0 with e0|e0|e0
 ·have pick:∃x∈fM,∀y∈Fh (pB x.1 x.2),∃k:Nat,y.1=.sym 1 k/\k<=20/\1<=y.2.1/\y.2.1<=1000/\∀J nx t,VR (GG (be I 2 0 0) w h0 s0.heap) J nx y.2.2 (.int (dr ls (i+k) y.2.1) t):=by
   have c1:dr ls (i+1) 10=0\/dr ls (i+1) 10=1\/dr ls (i+1) 10=2\/dr ls (i+1) 10=3\/dr ls (i+1) 10=4\/dr ls (i+1) 10=5\/dr ls (i+1) 10=6\/dr ls (i+1) 10=7\/dr ls (i+1) 10=8\/dr ls (i+1) 10=9:=by lia
   have c2:dr ls (i+2) 2=0\/dr ls (i+2) 2=1:=by lia
   have two:∀j:Nat,2<=j->dr ls (i+1) 10=j->∀y∈[((SV.sym 1 ((0:Nat):Int)),(4:Int),SV.int 0),(.sym 1 ((1:Nat):Int),10,.int j)],∃k:Nat,y.1=.sym 1 k/\k<=20/\1<=y.2.1/\y.2.1<=1000/\∀J nx t,VR (GG (be I 2 0 0) w h0 s0.heap) J nx y.2.2 (.int (dr ls (i+k) y.2.1) t):=by
    intro j hj e1 y hy
    simp only[List.mem_cons,List.not_mem_nil,or_false]at hy
    rcases hy with rfl|rfl
    ·exact pk 0 (by decide) 4 _ (by decide) (λJ nx t=>cg e0)
    ·exact pk 1 (by decide) 10 _ (by decide) (λJ nx t=>cg e1)
   have kI:∀j b:Nat,dr ls (i+1) 10=j->dr ls (i+2) 2=b->∀y∈[((SV.sym 1 ((0:Nat):Int)),(4:Int),SV.int 0),(.sym 1 ((1:Nat):Int),10,.int j),(.sym 1 ((2:Nat):Int),2,.int b)],∃k:Nat,y.1=.sym 1 k/\k<=20/\1<=y.2.1/\y.2.1<=1000/\∀J nx t,VR (GG (be I 2 0 0) w h0 s0.heap) J nx y.2.2 (.int (dr ls (i+k) y.2.1) t):=by
    intro j b e1 e2 y hy
    simp only[List.mem_cons,List.not_mem_nil,or_false]at hy
    rcases hy with rfl|rfl|rfl
    ·exact pk 0 (by decide) 4 _ (by decide) (λJ nx t=>cg e0)
    ·exact pk 1 (by decide) 10 _ (by decide) (λJ nx t=>cg e1)
    ·exact pk 2 (by decide) 2 _ (by decide) (λJ nx t=>cg e2)
   rcases c1 with e1|e1|e1|e1|e1|e1|e1|e1|e1|e1
   ·rcases c2 with e2|e2
    ·exact⟨(0,0),by decide,kI 0 0 e1 e2⟩
    ·exact⟨(0,1),by decide,kI 0 1 e1 e2⟩
   ·rcases c2 with e2|e2
    ·exact⟨(1,0),by decide,kI 1 0 e1 e2⟩
    ·exact⟨(1,1),by decide,kI 1 1 e1 e2⟩
   ·exact⟨(2,0),by decide,two 2 (by decide) e1⟩
   ·exact⟨(3,0),by decide,two 3 (by decide) e1⟩
   ·exact⟨(4,1),by decide,two 4 (by decide) e1⟩
   ·exact⟨(5,1),by decide,two 5 (by decide) e1⟩
   ·exact⟨(6,1),by decide,two 6 (by decide) e1⟩
   ·exact⟨(7,1),by decide,two 7 (by decide) e1⟩
   ·exact⟨(8,1),by decide,two 8 (by decide) e1⟩
   ·exact⟨(9,1),by decide,two 9 (by decide) e1⟩
  refine an pick ?_;clear pick;intro x m D
  refine xA (vA (V2 2 0 0 (.inl rfl) (.inl rfl) (.inl rfl)) (hR3 2 0 0) m) ?_;intro o1 o2
  by_cases c:eY (GG (be I 2 0 0) w h0 s0.heap) s0.heap 6 (dc x.1 x.2)
  ·exact run 2 0 0 (.inl rfl) (.inl rfl) (.inl rfl) false (gn R x.1 x.2) (Gs.plainIn x m) (λh=>by exact ai h) (o1 c) D
  ·exact run 2 0 0 (.inl rfl) (.inl rfl) (.inl rfl) false (kZ R x.1 x.2) (Gs.plain x m) (λh=>by exact ai h) (o2 c) D
 ·
  obtain⟨b,j,hb3,hj3,ej⟩:∃(b:Int) (j:Nat),(b=0\/b=3)/\j<3/\∀(e a:Int) J nx t,VR (GG (be I e a b) w h0 s0.heap) J nx (jD j) (.int (dr ls (i+1) 4) t):=by
   have c1:dr ls (i+1) 4=0\/dr ls (i+1) 4=1\/dr ls (i+1) 4=2\/dr ls (i+1) 4=3:=by lia
   rcases c1 with e1|e1|e1|e1
   ·refine⟨0,0,.inl rfl,by decide,λe a J nx t=>⟨t,?_⟩⟩;rw[e1];rfl
   ·exact⟨0,1,.inl rfl,by decide,λe a J nx t=>cg e1⟩
   ·exact⟨0,2,.inl rfl,by decide,λe a J nx t=>cg e1⟩
   ·refine⟨3,0,.inr rfl,by decide,λe a J nx t=>⟨t,?_⟩⟩;rw[e1];rfl
  obtain⟨n,hn2,en⟩:∃n:Nat,n<2/\dr ls (i+2) 2=n:=by
   have c2:dr ls (i+2) 2=0\/dr ls (i+2) 2=1:=by lia
   rcases c2 with e2|e2
   ·exact⟨0,by decide,e2⟩
   ·exact⟨1,by decide,e2⟩
  obtain⟨a,y,ha,hy,ey⟩:∃(a:Int) (y:Nat),(a=0\/a=1)/\(y=0\/y=2\/y=3)/\∀(e b:Int) J nx t,VR (GG (be I e a b) w h0 s0.heap) J nx (yD y) (.int (dr ls (i+3) 4) t):=by
   have c1:dr ls (i+3) 4=0\/dr ls (i+3) 4=1\/dr ls (i+3) 4=2\/dr ls (i+3) 4=3:=by lia
   rcases c1 with e1|e1|e1|e1
   ·refine⟨0,0,.inl rfl,.inl rfl,λe a J nx t=>⟨t,?_⟩⟩;rw[e1];rfl
   ·refine⟨1,0,.inr rfl,.inl rfl,λe a J nx t=>⟨t,?_⟩⟩;rw[e1];rfl
   ·exact⟨0,2,.inl rfl,.inr (.inl rfl),λe a J nx t=>cg e1⟩
   ·exact⟨0,3,.inl rfl,.inr (.inr rfl),λe a J nx t=>cg e1⟩
  have D:∀x∈ii j n y,∃k:Nat,x.1=.sym 1 k/\k<=20/\1<=x.2.1/\x.2.1<=1000/\∀J nx t,VR (GG (be I 2 a b) w h0 s0.heap) J nx x.2.2 (.int (dr ls (i+k) x.2.1) t):=by
   intro x hx;unfold ii at hx;simp only[List.mem_cons,List.not_mem_nil,or_false]at hx;rcases hx with rfl|rfl|rfl|rfl
   ·exact pk 0 (by decide) 4 _ (by decide) (λJ nx t=>cg e0)
   ·exact pk 1 (by decide) 4 _ (by decide) (λJ nx t=>ej 2 a J nx t)
   ·exact pk 2 (by decide) 2 _ (by decide) (λJ nx t=>cg en)
   ·exact pk 3 (by decide) 4 _ (by decide) (λJ nx t=>ey 2 b J nx t)
  have go:∀(fr:Bool) (q:io),q.draws=ii j n y->bZ fr R q=true->(fr=true->atKey (I.od 1) k7=none)->cn (GG (be I 2 a b) w h0 s0.heap) s0.heap q->wpAny (model pw w) A (execs tb ae) Q E s0:=
   λfr q ed g hfr O=>run 2 a b (.inl rfl) ha hb3 fr q g hfr O (by rw[ed];exact D)
  have Vm:=V2 2 a b (.inl rfl) ha hb3;have mI:(j,n,y)∈n9:=by
   have c1:j=0\/j=1\/j=2:=by lia
   have c2:n=0\/n=1:=by lia
   rcases c1 with rfl|rfl|rfl<;>rcases c2 with rfl|rfl<;>rcases hy with rfl|rfl|rfl<;>decide
  have m:(j,n)∈gc:=by
   have c1:j=0\/j=1\/j=2:=by lia
   have c2:n=0\/n=1:=by lia
   rcases c1 with rfl|rfl|rfl<;>rcases c2 with rfl|rfl<;>decide
  refine jJ (xe Vm (hR3 2 a b) m) ?_;intro o1 o2 o3 o4 o5;by_cases c:eY (GG (be I 2 a b) w h0 s0.heap) s0.heap 8 (bj n j (wA y))
  ·exact go false (iK R j n y) rfl (Gs.methIn (j,n,y) mI) (λh=>by exact ai h) (sK Vm (hR3 2 a b) c)
  ·rcases hy with rfl|rfl|rfl
   ·have gg:=Gs.meth0 (j,n) m;rw[Bool.and_eq_true]at gg;dsimp only at gg;by_cases c2:eY (GG (be I 2 a b) w h0 s0.heap) s0.heap 5 (br n j cL)
    ·exact go false (dW R j n true) rfl gg.1 (λh=>by exact ai h) (o1 c c2)
    ·exact go false (dW R j n false) rfl gg.2 (λh=>by exact ai h) (o2 c c2)
   ·have gg:=Gs.meth1 (j,n) m;rw[Bool.and_eq_true]at gg;dsimp only at gg;by_cases c2:atKey (I.od 1) k7=none
    ·exact go true (dU R j n false) rfl gg.2 (λ_=>c2) (o4 c c2)
    ·exact go false (dU R j n true) rfl gg.1 (λh=>by exact ai h) (o3 c c2)
   ·exact go false (la R j n) rfl (Gs.meth2 (j,n) m) (λh=>by exact ai h) (o5 c)
 ·
  obtain⟨o,ho3,eo⟩:∃o:Nat,o<3/\dr ls (i+1) 3=o:=by
   have c1:dr ls (i+1) 3=0\/dr ls (i+1) 3=1\/dr ls (i+1) 3=2:=by lia
   rcases c1 with e1|e1|e1
   ·exact⟨0,by decide,e1⟩
   ·exact⟨1,by decide,e1⟩
   ·exact⟨2,by decide,e1⟩
  obtain⟨d,hd2,ed⟩:∃n:Nat,n<2/\dr ls (i+2) 2=n:=by
   have c2:dr ls (i+2) 2=0\/dr ls (i+2) 2=1:=by lia
   rcases c2 with e2|e2
   ·exact⟨0,by decide,e2⟩
   ·exact⟨1,by decide,e2⟩
  obtain⟨so,hso2,es⟩:∃n:Nat,n<2/\dr ls (i+3) 2=n:=by
   have c2:dr ls (i+3) 2=0\/dr ls (i+3) 2=1:=by lia
   rcases c2 with e2|e2
   ·exact⟨0,by decide,e2⟩
   ·exact⟨1,by decide,e2⟩
  have D:∀x∈lK o d so,∃k:Nat,x.1=.sym 1 k/\k<=20/\1<=x.2.1/\x.2.1<=1000/\∀J nx t,VR (GG (be I (dr ls (i+0) 4) 0 0) w h0 s0.heap) J nx x.2.2 (.int (dr ls (i+k) x.2.1) t):=by
   intro x hx;unfold lK at hx;simp only[List.mem_cons,List.not_mem_nil,or_false]at hx;rcases hx with rfl|rfl|rfl|rfl
   ·refine pk 0 (by decide) 4 _ (by decide) λJ nx t=>⟨t,?_⟩
    show Value.int (dr ls (i+0) 4) t=.int (dr ls (i+0) 4+0) t;rw[Int.add_zero]
   ·exact pk 1 (by decide) 3 _ (by decide) (λJ nx t=>cg eo)
   ·exact pk 2 (by decide) 2 _ (by decide) (λJ nx t=>cg ed)
   ·exact pk 3 (by decide) 2 _ (by decide) (λJ nx t=>cg es)
  have go:∀(q:io),q.draws=lK o d so->bZ false R q=true->cn (GG (be I (dr ls (i+0) 4) 0 0) w h0 s0.heap) s0.heap q->wpAny (model pw w) A (execs tb ae) Q E s0:=
   λq ed g O=>run _ 0 0 e0 (.inl rfl) (.inl rfl) false q g (λh=>by exact ai h) O (by rw[ed];exact D)
  have Vm:=V2 _ 0 0 e0 (.inl rfl) (.inl rfl);have m:(o,d,so)∈ga:=by
   have c1:o=0\/o=1\/o=2:=by lia
   have c2:d=0\/d=1:=by lia
   have c3:so=0\/so=1:=by lia
   rcases c1 with rfl|rfl|rfl<;>rcases c2 with rfl|rfl<;>rcases c3 with rfl|rfl<;>decide
  refine l8 (xd Vm (hR3 _ 0 0) m) ?_;intro o1 o2 o3;by_cases c:eY (GG (be I (dr ls (i+0) 4) 0 0) w h0 s0.heap) s0.heap 7 (ez (o+1) d)
  ·exact go (iJ R o d so) rfl (Gs.turnIn (o,d,so) m) (o1 c)
  ·by_cases c2:eY (GG (be I (dr ls (i+0) 4) 0 0) w h0 s0.heap) s0.heap 5 (br so (gR o d) mL)
   ·exact go (gk R o d so true) rfl (Gs.turnT (o,d,so) m) (o2 c c2)
   ·exact go (gk R o d so false) rfl (Gs.turnF (o,d,so) m) (o3 c c2)
end
structure b0 (G:Gr) (J:Nat->Nat) (h:Heap) (L:Nat) (dn:List Int) (Bd:Nat):Prop where
 ok:G.I.Ok
 bL:∀o,(G.I.ol o).length<=Bd
 bD:∀o,(G.I.od o).length<=Bd
 ct:∃W T F O,Ct G J h L W T F O
 tp:∀o,o=5\/o=6\/o=7\/o=8->mw G h o
 lenM:G.I.nu 1014=G.I.nu 1002+1
 met:∀v∈G.I.ol 5,∀a kd,v=.ref a->cI (ak G.prog G.w) h kd a->∃t r,kd=.a (.i t)::r/\t∈dn
 ix:∀g,g<3->∃p t,atKey (G.I.od 1) (de G.I g)=some p/\p.2=.int (G.I.nu (5001+10*g)) t
 ix7:(atKey (G.I.od 1) k7=none/\G.I.nu 1020=20)\/(∃p t,atKey (G.I.od 1) k7=some p/\p.2=.int 20 t/\G.I.nu 1020=21)
 dist:G.I.nu 5000≠G.I.nu 5010/\G.I.nu 5000≠G.I.nu 5020/\G.I.nu 5010≠G.I.nu 5020
 srt:∀g,g<3->(G.I.nu (5002+10*g)=1\/G.I.nu (5002+10*g)=2)/\G.I.nu (5003+10*g)=G.I.nu (5002+10*g)+1
 at0:0<=G.I.nu 1
theorem g'.o{G:Gr}{J:Nat->Nat}{h:Heap}{L:Nat}{dn:List Int}{Bd:Nat}(V:g' G J h L dn Bd):b0 G J h L dn Bd:=
 ⟨V.ok,V.bL,V.bD,V.ct,V.tp,V.lenM,V.met,V.ix,V.ix7,V.dist,V.srt,V.at0⟩
theorem b0.inv{G:Gr}{J:Nat->Nat}{h:Heap}{L:Nat}{dn:List Int}{Bd:Nat}(V:b0 G J h L dn Bd)(r:∀r∈kU,pJ G h r):g' G J h L dn Bd:=
 ⟨V.ok,V.bL,V.bD,V.ct,V.tp,r,V.lenM,V.met,V.ix,V.ix7,V.dist,V.srt,V.at0⟩
noncomputable def Kd (o:Obj):Prop:=(∃C d,o=instObj C d)\/∃es ep,o.data=.dict es ep
section
variable{prog:Program} {N:Nat->Prop}
theorem dL.keep2(kt:aq h h')(kn:∀a o,h.get? a=some o->¬N a->Kd o->h'.get? a=some o){e:El}{v:Value}{k:KI}(x:dL prog w h N e v k):dL prog w h' N e v k:=by
 induction e using El.casesOn with
 |it=>exact KI.isR_keep kt x
 |fld C y=>refine hH x ?_;clear x;intro a d kvs u q q1';subst q1';intro n g q2' r;obtain⟨ob,en,ep,h1,h2⟩:=q2';exact⟨a,d,kvs,u,q,rfl,n,kn _ _ g n.1 (.inl ⟨_,_,rfl⟩),⟨ob,en,ep,kn _ _ h1 n.2 (.inr ⟨_,_,h2.2.1⟩),h2⟩,r⟩
theorem bC.keep2(kt:aq h h')(kn:∀a o,h.get? a=some o->¬N a->Kd o->h'.get? a=some o){e:List El}{v:List Value}{k:KD}(x:bC prog w h N e v k):bC prog w h' N e v k:=by
 induction x with
 |nil=>exact .nil
 |cons a _ ih=>exact .cons (a.keep2 kt kn) ih
theorem bg.keep2(kt:aq h h')(kn:∀a o,h.get? a=some o->¬N a->Kd o->h'.get? a=some o){e:Sh}{v:Value}{k:KD}(x:bg prog w h N e k v):bg prog w h' N e k v:=by
 induction e using Sh.casesOn with
 |one e=>obtain⟨k,a,b⟩:=x;exact⟨k,a,b.keep2 kt kn⟩
 |tup es=>refine dh x ?_;clear x;intro a o items n e1 e2 c d i;exact⟨a,o,items,n,e1,kt a o e2 c ⟨_,_,d⟩,c,d,i.keep2 kt kn⟩
end
theorem b0.heap(V:b0 (GG I w h0 h) J h L dn Bd)(ext:∀n,n<66->J' n=J n)(kt:aq h h')(kn:∀a o,h.get? a=some o->¬Nm J L a->Kd o->h'.get? a=some o):b0 (GG I w h0 h') J' h' L dn Bd where
 ok:=V.ok
 bL:=V.bL
 bD:=V.bD
 ct:=by
  refine jH V.ct ?_;intro W T F O C
  have old:∀{e:Sh} {K:List KD} {vs:List Value},ac (bg pw w h (Nm J L) e) K vs->ac (bg pw w h' (Nm J' L) e) K vs:=λa=>a.mono λ_ _ q=>(q.keep2 kt kn).names λa h=>(Nm.ext ext a).mp h
  refine bb C.m ?_;intro m0 ms e m
  exact⟨W,T,F,O,old C.w,old C.d,old C.t,old C.y,old C.f,old C.e,old C.o,⟨m0,ms,e,old m⟩,old C.p0,old C.p1,old C.p2⟩
 tp o ho v hv:=by
  refine bb (V.tp o ho v hv) ?_;intro a kd e t
  exact⟨a,kd,e,t.keeps_i _ _ kt⟩
 lenM:=V.lenM
 met v hv a kd e t:=by
  refine bb (V.tp 5 (.inl rfl) v hv) ?_;intro a' kd' e' t'
  rw[e']at e
  cases e
  have:=(t'.keeps_i _ _ kt).inj t
  subst this
  exact V.met v hv _ _ e' t'
 ix:=V.ix
 ix7:=V.ix7
 dist:=V.dist
 srt:=V.srt
 at0:=V.at0
theorem eY.heap{o:Nat}{q:SK}(a:mw (GG I w h0 h) h o)(kt:aq h h'):eY (GG I w h0 h') h' o q↔eY (GG I w h0 h) h o q:=by
 constructor
 ·rintro⟨v,m,b,kd,k,e,t⟩;refine bb (a v m) ?_;intro b' kd' e' t';rw[e']at e;cases e;have:=(t'.keeps_i _ _ kt).inj t;subst this;exact⟨v,m,_,_,k,e',t'⟩
 ·rintro⟨v,m,b,kd,k,e,t⟩;exact⟨v,m,b,kd,k,e,t.keeps_i _ _ kt⟩
theorem g'.heap(V:g' (GG I w h0 h) J h L dn Bd)(ext:∀n,n<66->J' n=J n)(kt:aq h h')(kn:∀a o,h.get? a=some o->¬Nm J L a->Kd o->h'.get? a=some o):g' (GG I w h0 h') J' h' L dn Bd:=by
 refine(V.o.heap ext kt kn).inv λr m=>?_;have q:=V.rel r m;have ro:=List.all_eq_true.mp sF r m;have tpo:∀{k o q},(r=.kl k o q\/r=.lk k o q)->mw (GG I w h0 h) h o:=by
  rintro k o q (rfl|rfl)
  all_goals
   unfold w0 at ro
   dsimp only at ro
   rw[Bool.and_eq_true]at ro
   have a:=Nat.le_of_ble_eq_true ro.1
   have b:=Nat.le_of_ble_eq_true ro.2
   exact V.tp o (by lia)
 induction r using pK.casesOn with
 |kl k o q'=>exact λz=>(eY.heap (tpo (.inl rfl)) kt).mpr (q z)
 |lk k o q'=>exact λz=>q ((eY.heap (tpo (.inr rfl)) kt).mp z)
 |nv k=>exact q
theorem SR.sub{G:Gr}{J:Nat->Nat}{S:St}{s:Shared}{L:Nat}{l:List (Str×SV)}(r:SR G J S s L)(h:∀x v,bE l x=some v->bE S.loc x=some v):SR G J ⟨S.next,S.hp,l⟩ s L where
 hp:=⟨r.hp.obj,r.hp.lv,r.hp.inj,r.hp.off,r.hp.base,r.hp.tk⟩
 lc:=by
  refine an r.lc.ns ?_;intro m a b
  exact⟨⟨m,a,λx v e=>b x v (h x v e)⟩,r.lc.off,r.lc.ne⟩
theorem SR.at1{I:IP}{w:World}{h0 h h':Heap}{J:Nat->Nat}{S:St}{s:Shared}{L:Nat}(r:SR (GG I w h0 h) J S s L)(k:aq h' s.heap):SR (GG I w h0 h') J S s L where
 hp:=⟨λn o hn e=>r.hp.obj n o hn e,r.hp.lv,r.hp.inj,r.hp.off,r.hp.base,k⟩
 lc:=⟨r.lc.ns,r.lc.off,r.lc.ne⟩
noncomputable def uT (s:Stmt):PExpr:=sX 0 s
noncomputable def m6 (s:Stmt):PExpr:=sX 1 s
noncomputable def Bm (s:Stmt):Pos:=(sv s).p
noncomputable def oS:Stmt:=cY (dB er) 11
noncomputable def fS:Stmt:=cY (gO oS) 3
noncomputable def ge:Str:=⟨⟨[116,117,114,110]⟩⟩
noncomputable def jN:Str:=⟨⟨[106]⟩⟩
theorem Eg:fS=.For (.Name ge (aC (uT fS))) (m6 fS) tb [] (Bm fS):=by kernel_rfl!
theorem DN:oS=.For (.Name jN (aC (uT oS))) (m6 oS) (gO oS) [] (Bm oS):=by kernel_rfl!
theorem jO:bE cf.names ge=some .local/\bE cf.names jN=some .local:=⟨by kernel_rfl!,by kernel_rfl!⟩
theorem SR.iter2{G:Gr}{J:Nat->Nat}{S:St}{s:Shared}{L:Nat}{it:Nat}{h':Heap}{tk:Nat}(r:SR G J S s L)(hn:∀n,n<S.next->J n≠it)(hL:it≠L)(hb:G.h0.get? it=none)(k:∀b o,b≠it->s.heap.get? b=some o->h'.get? b=some o)(hnt:∀ob,s.heap.get? it=some ob->ob.cls=.type "tuple"->(∃it n,ob.data=.seq it n)->False):SR G J S {s with heap:=h',toks:=tk} L/\aq s.heap h':=by
 obtain⟨⟨x1,x2,x3,x4,x5,x6⟩,l⟩:=r
 have kt:aq s.heap h':=λa ob e c d=>by
  by_cases ha:a=it
  ·subst ha;exact(hnt ob e c d).elim
  ·exact k a ob ha e
 exact⟨⟨⟨λn o hn' ho=>(x1 n o hn' ho).mono (λ_ _=>rfl) (Nat.le_refl _) (λob e=>k _ ob (hn n hn') e) kt,λn hn'=>by obtain⟨ob,e⟩:=x2 n hn';exact⟨ob,k _ _ (hn n hn') e⟩,x3,x4,λa o e=>k a o (af e hb) (x5 a o e),x6.trans kt⟩,
  l.after (Nat.le_refl _) (λ_ _=>rfl) (λn h1 h2=>by exact(aO ‹_› ‹_›).elim) (λo e=>k _ o (λq=>hL q.symm) e) rfl⟩,kt⟩
theorem gI{h:Heap}{it:Nat}{x left step:Int}(hit:PySem.IsRangeIter h it x left step){o:Obj}(e:h.get? it=some o)(k:Kd o):False:=by
 have hit:h.get? it=some _:=hit;rw[hit]at e;refine aB e ?_;clear e;intro h1;subst h1;rcases k with⟨C,d,k⟩|⟨es,ep,k⟩
 ·unfold instObj at k;injection k with _ k
  exact aa k
 ·cases k
theorem fP{h:Heap}{it:Nat}{x left step:Int}(hit:PySem.IsRangeIter h it x left step):∀ob,h.get? it=some ob->ob.cls=.type "tuple"->(∃it n,ob.data=.seq it n)->False:=bB ⟨_,hit,rfl,rfl⟩
structure gZ (I I':IP):Prop where
 nu:∀x,x≠1/\x≠2/\(x<1000\/1024<x)/\(x<5005\/5007<x)->I'.nu x=I.nu x
 inl:I'.ol 1=I.ol 1
 ss:I'.ss=I.ss
 len:I'.nu 1024=I.nu 1024
theorem gZ.refl(I:IP):gZ I I:=⟨λ_ _=>rfl,rfl,rfl,rfl⟩
theorem gZ.trans{I I' I'':IP}(a:gZ I I')(b:gZ I' I''):gZ I I'':=⟨λx h=>(b.nu x h).trans (a.nu x h),b.inl.trans a.inl,b.ss.trans a.ss,b.len.trans a.len⟩
theorem Af(x:Str)(v:SV)(hx:cq x ge=true):∀y u,bE pN y=some u->bE (cr pN x v) y=some u:=by
 have:=aI.mp hx;subst this;intro y u h;have e:cr pN ge v=pN++[(ge,v)]:=by kernel_rfl!
 have app:∀{l:List (Str×SV)},bE l y=some u->bE (l++[(ge,v)]) y=some u:=by
  intro l;induction l with
  |nil=>intro h;exact aa h
  |cons a l ih=>
   obtain⟨p,q⟩:=a;intro h;unfold bE at h;show bE ((p,q)::(l++_)) y=_;unfold bE;split at h
   ·exact h
   ·exact ih h
 rw[e];exact app h
section
variable{Rr:Result->Shared->Prop} {R:Int} {it:Nat}
theorem lm(B:cQ w h0)(hR:R=2\/R=3)(hA:Rm 9 A)(hL:it≠L)(hb:h0.get? it=none):∀(k:Nat) {J:Nat->Nat} {I:IP} {s:Shared} {Bd:Nat} {N:Int} (i:Int),SR (GG I w h0 s.heap) J (eK R) s L->g' (GG I w h0 s.heap) J s.heap L dn Bd->I.nu 5003=R->ac cW ls (I.ol 1)->I.nu 1<=N->N+20*k<=900->I.nu 5000∈dn->1000<=Bd->Bd+200*k+400<=100000->ag ae cf J 66 L->PySem.IsRangeIter s.heap it i k 1->(∀n,n<66->J n≠it)->(∀J1 I1 s1,SR (GG I1 w h0 s1.heap) J1 (eK R) s1 L->g' (GG I1 w h0 s1.heap) J1 s1.heap L dn (Bd+200*k)->gZ I I1->I1.nu 1<=N+20*k->(∀n,n<66->J1 n=J n)->(∀a o,s.heap.get? a=some o->¬Nm J L a->a≠it->s1.heap.get? a=some o)->s1.gens=s.gens->s1.os=s.os->Rr (.ok .next) s1)->codeAny (model pw w) A (.forLoop (.Name ge (aC (uT fS))) (.ref it) tb [] ae) Rr s
 |0=>by rename_i J I s Bd N;intro i r V hR2 vals h9 hN tin hb2 hB hE hit hn post;refine i8 ?_;refine wpAny_pyNext_range_end hA.handled hit (by exact Int.natCast_nonneg _) λh' hs=>?_;refine wpAny_execs_nil ?_;have kn:∀b o,b≠it->s.heap.get? b=some o->h'.get? b=some o:=λb o hb' e=>hs b o hb' e;obtain⟨r2,kt⟩:=r.iter2 (tk:=s.toks) hn hL hb kn (fP hit);refine post J I _ (r2.at1 (.refl _)) ?_ (.refl I) (by lia) (λ_ _=>rfl) (λa o e _ hne=>kn a o hne e) rfl rfl;exact V.heap (λ_ _=>rfl) kt λa o e hN' hk=>kn a o (λq=>gI hit (q▸e) hk) e
 |k+1=>by
  rename_i J I s Bd N;intro i r V hR2 vals h9 hN tin hb2 hB hE hit hn post;refine i8 ?_;refine wpAny_pyNext_range_item hit (by simp) λh' hi' hs=>?_;have kn:∀b o,b≠it->s.heap.get? b=some o->h'.get? b=some o:=λb o hb' e=>by rw[hs.2 b hb'];exact e
  obtain⟨r2,kt⟩:=r.iter2 (tk:=s.toks+1) hn hL hb kn (fP hit);have V2:g' (GG I w h0 h') J h' L dn Bd:=V.heap (λ_ _=>rfl) kt λa o e hN' hk=>kn a o (λq=>gI hit (q▸e) hk) e;have r3:SR (GG I w h0 h') J (eK R) {s with heap:=h',toks:=s.toks+1} L:=r2.at1 (.refl _);have hio:∃o,h'.get? it=some o/\o.cls=.type "range_iterator"/\o.data=.fields #[rawInt (i+1),rawInt (((k+1:Nat):Int) -1),rawInt 1]:=⟨_,hi',rfl,rfl⟩
  dsimp only;refine gG (G:=GG I w h0 h') (s:={s with heap:=h',toks:=s.toks+1}) (it:=it) (c:="range_iterator") hio (by decide) ?_;have D:Gd (GG I w h0 h') (Xc {}):=Gd.c (cH B V2.ok bx);have O:ba (GG I w h0 h') 0 Lv.no:=uF 0;refine ij D O (S:=eK R) (S':=⟨66,(eK R).hp,cr pN ge (.int i)⟩) (v:=.int i) (fc:=cf) ⟨hA.handled,by have:=hA.depth;exact aX ‹_› (by decide),by have:=hA.units;exact aX ‹_› (by decide)⟩ hE r3 ⟨_,rfl⟩ ?_ λJ4 s4 u4 r4=>?_
  ·show di cf (eK R) ge (.int i)=_;unfold di;rw[jO.1];rfl
  have e4:∀n,n<66->J4 n=J n:=λn hn=>u4.ext n hn;have k4:∀a o,h'.get? a=some o->¬Nm J L a->s4.heap.get? a=some o:=λa o e hN'=>u4.keep a o e (λh=>hN' (.inl h)) (λn hn' h=>hN' (.inr ⟨n,hn',h⟩));have itN:¬Nm J L it:=by
   rintro(h|⟨n,hn',h⟩)
   ·exact hL h
   ·exact hn n hn' h
  have r5:SR (GG I w h0 s4.heap) J4 (eK R) s4 L:=(SR.sub (S:=⟨66,(eK R).hp,cr pN ge (.int i)⟩) r4 (l:=pN) (Af ge _ (by decide+kernel))).at1 (.refl _);have V5:g' (GG I w h0 s4.heap) J4 s4.heap L dn Bd:=V2.heap e4 u4.tup λa o e hN' _=>k4 a o e hN';refine wC B V5 r5 hR hR2 vals (by lia) tin (by exact aW ‹_› (by decide)) hb2 hA (hE.after e4 (Nat.le_refl _)) λJ6 I6 s6 x1 x2 x3 x4 x5 x6 x7=>?_;have e6:∀n,n<66->J6 n=J n:=λn hn=>(x4 n hn).trans (e4 n hn);have qp:∀a,Nm J4 L a↔Nm J L a:=λa=>Nm.ext e4 a;have it6:PySem.IsRangeIter s6.heap it (i+1) k 1:=by have h1:PySem.IsRangeIter h' it (i+1) (((k+1:Nat):Int) -1) 1:=hi';rw[show(((k+1:Nat):Int) -1)=(k:Int)by simp]at h1;exact x5 it _ (k4 it _ h1 itN) (λh=>itN ((qp it).mp h))
  have n3:I6.nu 5003=I.nu 5003:=x3.nu 5003 (by decide);have n0:I6.nu 5000=I.nu 5000:=x3.nu 5000 (by decide);have a1:=x3.at1;refine lm B hR hA hL hb k (N:=N+20) (i+1) x1 x2 (by rw[n3];exact hR2) (by rw[x3.inl];exact vals) (by lia) (by lia) (by rw[n0];exact tin) (by exact Nat.le_trans ‹_› (Nat.le_add_right _ _)) (by lia) (hE.after e6 (Nat.le_refl _)) it6 (λn hn'=>by rw[e6 n hn'];exact hn n hn') λJ7 I7 s7 y1 y2 y3 y4 y5 y6 y7 y8=>?_;refine post J7 I7 s7 y1 (by rw[show Bd+200*(k+1)=Bd+200+200*k by lia];exact y2) (gZ.trans ⟨x3.nu,x3.inl,x3.ss,x3.len⟩ y3) (by lia) (λn hn'=>(y5 n hn').trans (e6 n hn')) (λa o e hN' hne=>?_) (y7.trans (x6.trans u4.gens)) (y8.trans (x7.trans u4.os));refine y6 a o (x5 a o (k4 a o (kn a o hne e) hN') (λh=>hN' ((qp a).mp h))) (λh=>hN' ((Nm.ext e6 a).mp h)) hne
end
noncomputable def uD (n d:Int):io:={inq:=[],dq:=[],din:=[],draws:=[(.sym 1 0,n,.int d)]}
noncomputable def zJ (R:Int) (d:Nat):Bool:=match(rW (Xc (uD 6 d)) 100 9).ex cf (m6 fS) (eK R)with
 |some (.ref n,S1)=>(match S1.hp.get n with
  |some (.rng hi)=>d7 hi ((d:Int)+1)
  |_=>false)&&AF false (eK R) S1
 |_=>false
theorem qG{P:Prop}{x1:Option (Mine.SV×Mine.St)}{f0:(Nat)->(Mine.St)->Bool}(h:(match x1 with|Option.some (Mine.SV.ref a1,a2)=>f0 a1 a2|a1=>false)=true)(k0:∀a1 a2,x1=Option.some (Mine.SV.ref a1,a2)->f0 a1 a2=true->P):P:=by
 obtain⟨z1,e1⟩:∃z,x1=z:=⟨_,rfl⟩
 rw[e1]at h;induction z1 using Option.casesOn with
 |some y1'0=>
  induction y1'0 using Prod.casesOn with
  |mk y2'0 y2'1=>
   induction y2'0 using SV.casesOn with
   |ref y3'0=>exact k0 _ _ e1 h
   |_=>exact ai h
 |_=>exact ai h
theorem qH{P:Prop}{x1:Option Mine.SO}{f0:(Int)->Bool}(h:(match x1 with|Option.some (Mine.SO.rng a1)=>f0 a1|a1=>false)=true)(k0:∀a1,x1=Option.some (Mine.SO.rng a1)->f0 a1=true->P):P:=by
 obtain⟨z1,e1⟩:∃z,x1=z:=⟨_,rfl⟩
 rw[e1]at h;induction z1 using Option.casesOn with
 |some y1'0=>
  induction y1'0 using SO.casesOn with
  |rng y2'0=>exact k0 _ e1 h
  |_=>exact ai h
 |_=>exact ai h
theorem rg2:([0,1,2,3,4,5].all λd=>zJ 2 d)=true:=by decide+kernel
theorem rg3:([0,1,2,3,4,5].all λd=>zJ 3 d)=true:=by decide+kernel
theorem BZ{R:Int}(hR:R=2\/R=3){d:Nat}(h:d<6):zJ R d=true:=by
 have m:d∈[0,1,2,3,4,5]:=by
  have:d=0\/d=1\/d=2\/d=3\/d=4\/d=5:=by lia
  rcases this with rfl|rfl|rfl|rfl|rfl|rfl<;>decide
 rcases hR with rfl|rfl
 ·exact List.all_eq_true.mp rg2 d m
 ·exact List.all_eq_true.mp rg3 d m
theorem tJ:bG (m6 fS)=true:=by kernel_rfl!
theorem iG{e:PExpr}{ae:Env}(h:bG e=true):∀x,foldedSetIterable e ae x=pure x:=λx=>by induction e using PySem.Expr.casesOn<;>first|rfl|(first|exact ai h|cases h)
theorem b0.mono{G:Gr}{J:Nat->Nat}{h:Heap}{L:Nat}{dn:List Int}{Bd Bd':Nat}(V:b0 G J h L dn Bd)(l:Bd<=Bd'):b0 G J h L dn Bd':=
 ⟨V.ok,λo=>Nat.le_trans (V.bL o) l,λo=>Nat.le_trans (V.bD o) l,V.ct,V.tp,V.lenM,V.met,V.ix,V.ix7,V.dist,V.srt,V.at0⟩
theorem g'.mono{G:Gr}{J:Nat->Nat}{h:Heap}{L:Nat}{dn:List Int}{Bd Bd':Nat}(V:g' G J h L dn Bd)(l:Bd<=Bd'):g' G J h L dn Bd':=(V.o.mono l).inv V.rel
section
variable{Q:Flow->Shared->Prop} {R:Int} {N:Int}
theorem AG{h1:Heap}{n:Int}(hn:1<=n/\n<=1000)(vals:ac cW ls (I.ol 1))(a0:0<=I.nu 1)(h9:I.nu 1<=900):rS (GG I w h0 h1) (uD n (dr ls (I.nu 1).toNat n)) ls:=by refine Ek (G:=GG I w h0 h1) vals a0 h9 λx hx=>?_;have hx:x∈[((SV.sym 1 0),n,SV.int (dr ls (I.nu 1).toNat n))]:=hx;rw[List.mem_singleton]at hx;subst hx;exact pk 0 (by decide) n _ hn λJ nx t=>cg rfl
theorem xf{G:Gr}{h:Heap}{n d:Int}:cn G h (uD n d):=⟨λx m=>(by cases m),λx m=>(by cases m),λx m=>(by cases m)⟩
theorem vJ(B:cQ w h0)(hR:R=2\/R=3)(hA:Rm 9 A)(r:SR (GG I w h0 s0.heap) J (eK R) s0 L)(V:g' (GG I w h0 s0.heap) J s0.heap L dn Bd)(hR2:I.nu 5003=R)(vals:ac cW ls (I.ol 1))(h9:I.nu 1<=N)(hN:N+140<=900)(tin:I.nu 5000∈dn)(hb2:1000<=Bd)(hB:Bd+1800<=100000)(hE:ag ae cf J 66 L)(post:∀J1 I1 s1,SR (GG I1 w h0 s1.heap) J1 (eK R) s1 L->g' (GG I1 w h0 s1.heap) J1 s1.heap L dn (Bd+1400)->gZ I I1->I1.nu 1<=N+140->(∀n,n<66->J1 n=J n)->(∀a o,s0.heap.get? a=some o->¬Nm J L a->s1.heap.get? a=some o)->s1.gens=s0.gens->s1.os=s0.os->Q .next s1):wpAny (model pw w) A (exec fS ae) Q E s0:=by
 have bd:=fw ls (I.nu 1).toNat (n:=6) (by decide);obtain⟨d,hd⟩:∃d:Nat,dr ls (I.nu 1).toNat 6=d:=⟨(dr ls (I.nu 1).toNat 6).toNat,by lia⟩
 have hd6:d<6:=by lia
 have g:=BZ hR hd6;have Dr:rS (GG I w h0 s0.heap) (uD 6 d) ls:=by have:=AG (w:=w) (h0:=h0) (h1:=s0.heap) (n:=6) ⟨by decide,by decide⟩ vals V.at0 (by lia);rw[hd]at this;exact this
 have O:=lf B V.ok xf Dr;unfold zJ at g;rw[Eg];refine wpAny_For ?_ (iG tJ);refine qG g ?_;clear g;intro n S1 e1 g;rw[Bool.and_eq_true]at g;refine xA g ?_;clear g;intro g1 g2;refine qH g1 ?_;clear g1;intro hi e2 g1;have hhi:=bl.mp g1;subst hhi;refine O.ex e1 hA hE r λJ1 val s1 t1 r1 v1=>?_;have e3:bI S1 (.ref n) 0=some (some (.int (.ofNat 0))):=by
  unfold bI;dsimp only;rw[e2];dsimp only;have:mS ((d:Int)+1) (.ofNat 0)=false:=by rw[ci,decide_eq_false_iff_not];show¬((d:Int)+1<=0);simp
  rw[this]
 refine gF r1 v1 e3 λob hf hI=>?_;have G1:=r1.grow (X:=XL L) (h':=s1.heap.push ob) (tk:=s1.toks) λa o e=>Heap.get?_push_of_some _ e;have fit:s1.heap.get? s1.heap.objs.size=none:=aQ;have fs:s0.heap.get? s1.heap.objs.size=none:=by
  induction c:s0.heap.get? s1.heap.objs.size using Option.casesOn with
  |none=>rfl
  |some o=>obtain⟨o',e'⟩:=t1.alive _ _ c;rw[fit]at e';exact aa e'
 have nL:s1.heap.objs.size≠L:=by obtain⟨⟨m,⟨o,_,_,e,_⟩,_⟩,_,_⟩:=r1.lc;exact(af e fit).symm
 have nb:h0.get? s1.heap.objs.size=none:=by
  induction c:h0.get? s1.heap.objs.size using Option.casesOn with
  |none=>rfl
  |some o=>have:=r1.hp.base _ _ c;rw[fit]at this;exact aa this
 have u:=t1.trans G1.2;refine pT (rG (iy _ _ _ _) V rfl r u G1.1 (uZ g2) (λh=>by exact ai h) tin (by exact aU ‹_› (by decide)) hb2) ?_;intro I1 x1 x2 x3 x4;refine xA hI ?_;clear hI;intro hn hI;rw[e2]at hI;refine an hI ?_;clear hI;intro left hit hl;have hl:left=((d+1:Nat):Int):=by lia
 subst hl;have n3:I1.nu 5003=I.nu 5003:=x3.nu 5003 (by decide);have n0:I1.nu 5000=I.nu 5000:=x3.nu 5000 (by decide);have a1:I.nu 1<=I1.nu 1/\I1.nu 1<=I.nu 1+20:=x3.at1;refine lm (s:={s1 with heap:=s1.heap.push ob}) (J:=J1) (I:=I1) (Bd:=Bd+200) (N:=N+20) B hR hA.mark nL nb (d+1) _ x1 x2 (by rw[n3];exact hR2) (by rw[x3.inl];exact vals) (by lia) (by lia) (by rw[n0];exact tin) (by exact Nat.le_trans ‹_› (Nat.le_add_right _ _)) (by lia) (hE.after x4 (Nat.le_refl _)) hit (λn hn'=>?_) λJ2 I2 s2 y1 y2 y3 y4 y5 y6 y7 y8=>?_
 ·rw[x4 n hn'];refine xE (r.hp.lv n hn') ?_;intro o e;exact af e fs
 ·refine post J2 I2 s2 y1 (y2.mono (by lia)) (gZ.trans ⟨λx h=>x3.nu x ⟨h.1,h.2.1,h.2.2.1⟩,x3.inl,x3.ss,x3.len⟩ y3) (by lia) (λn hn'=>(y5 n hn').trans (x4 n hn')) (λa o e hN'=>?_) (y7.trans u.gens) (y8.trans u.os);refine y6 a o (u.keep a o e (λh=>hN' (.inl h)) (λn hn' h=>hN' (.inr ⟨n,hn',h⟩))) (λh=>hN' ((Nm.ext x4 a).mp h)) ?_;exact af e fs
end
noncomputable def D4:Str:=⟨⟨[107,101,121,115]⟩⟩
noncomputable def CE:Str:=⟨⟨[102,105,114,115,116]⟩⟩
noncomputable def zY (S:St):St:=⟨S.next,S.hp.put 27 (match S.hp.get 27 with
 |some (.sd es)=>.sd (cr es nU .any)
 |_=>.sd []),S.loc⟩
theorem lp{P:Prop}{x1:Option Mine.SO}{f0:(List (PySem.Str×Mine.SV))->Bool}(h:(match x1 with|Option.some (Mine.SO.sd a1)=>f0 a1|a1=>false)=true)(k0:∀a1,x1=Option.some (Mine.SO.sd a1)->f0 a1=true->P):P:=by
 obtain⟨z1,e1⟩:∃z,x1=z:=⟨_,rfl⟩
 rw[e1]at h;induction z1 using Option.casesOn with
 |some y1'0=>
  induction y1'0 using SO.casesOn with
  |sd y2'0=>exact k0 _ e1 h
  |_=>exact ai h
 |_=>exact ai h
noncomputable def CZ (tid:Int) (S:St):St:=⟨S.next,S.hp.put 20 (match S.hp.get 20 with
 |some (.tab o es xs)=>.tab o ((.int tid,.ref 45)::es) xs
 |_=>.sd []),S.loc⟩
noncomputable def fG:St:=zY tmN
noncomputable def Dx (j:Int):St:=⟨66,fG.hp,cr C8 jN (.int j)⟩
noncomputable def db (f j:Int):Int:=64+(2*f+2*j).fmod 3
noncomputable def BI (f j:Int):St:=CZ (db f j) ⟨66,fG.hp,cr (cr C8 jN (.int j)) CE (.int f)⟩
noncomputable def jo (g n:Nat):Nat:=match Nat.ble 45 n&&Nat.blt n 52 with
 |true=>n+7*g
 |false=>match Nat.ble (45+7*g) n&&Nat.blt n (52+7*g)with
  |true=>n -7*g
  |false=>n
noncomputable def Bs (g:Nat):List (Nat×SV):=[(5000,.sym (5000+10*g) 0),(5001,.sym (5001+10*g) 0),(5002,.sym (5002+10*g) 0),(5003,.sym (5003+10*g) 0),(1011,.sym (1011+g) 0),(5000+10*g,.sym 5000 0),(5001+10*g,.sym 5001 0),(5002+10*g,.sym 5002 0),(5003+10*g,.sym 5003 0),(1011+g,.sym 1011 0)]
noncomputable def EQ (g:Nat) (f tid:Int):Cv:=⟨jo g,Bs g,[(0,g),(g,0)],[(5000+10*g,tid),(6,f)],[]⟩
noncomputable def A8 (g f j:Nat):Bool:=(EQ g f (db f j)).hpB (Dx j) (BI f j) 66&&(EQ g f (db f j)).locB (Dx j) (BI f j)
noncomputable def Fy (p:Nat->Nat->Nat->Bool):Bool:=[0,1,2].all λa=>[0,1,2].all λb=>[0,1,2].all λc=>p a b c
theorem w9:Fy A8=true:=by decide+kernel
noncomputable def oHd:List Stmt:=[cY (gO oS) 0,cY (gO oS) 1,cY (gO oS) 2]
theorem DP:gO oS=[cY (gO oS) 0,cY (gO oS) 1,cY (gO oS) 2,fS]:=by kernel_rfl!
noncomputable def oj (S:St):Nat:=match S.hp.get 31 with
 |some (.sd es)=>match bE es D4 with
  |some (.ref k)=>k
  |_=>0
 |_=>0
noncomputable def qr (k n:Nat):Nat:=match Nat.beq n 36 with
 |true=>k
 |false=>n
noncomputable def EP (k:Nat) (f tid R:Int):Cv:=⟨qr k,[],[],[(5000,tid),(5002,R -1),(5003,R),(6,f)],[]⟩
noncomputable def DU (S:St) (k:Nat):Bool:=Nat.ble 66 k&&(Nat.blt k S.next&&(match S.hp.get k with
 |some (.sd es)=>nilE es
 |_=>false))
noncomputable def rV (S:St) (n o:Nat):Bool:=match S.hp.get n with
 |some (.hd o' es)=>Nat.beq o' o&&nilE es
 |_=>false
theorem tx{P:Prop}{x1:Option Mine.SO}{f0:(Nat)->(List (Mine.SK×Mine.SV))->Bool}(h:(match x1 with|Option.some (Mine.SO.hd a1 a2)=>f0 a1 a2|a1=>false)=true)(k0:∀a1 a2,x1=Option.some (Mine.SO.hd a1 a2)->f0 a1 a2=true->P):P:=by
 obtain⟨z1,e1⟩:∃z,x1=z:=⟨_,rfl⟩
 rw[e1]at h;induction z1 using Option.casesOn with
 |some y1'0=>
  induction y1'0 using SO.casesOn with
  |hd y2'0 y2'1=>exact k0 _ _ e1 h
  |_=>exact ai h
 |_=>exact ai h
noncomputable def Bj (f tid R:Int) (S:St):Bool:=DU S (oj S)&&(Nat.ble 66 S.next&&((EP (oj S) f tid R).hpB S (eK R) 66&&((EP (oj S) f tid R).locB S (eK R)&&(lg S&&((fq.all λx=>nilE (bh S x.2))&&(rV S 16 1&&rV S 37 3))))))
noncomputable def po (R:Int) (f j:Nat):Bool:=match(rW (Xc {}) 100 9).sts cf oHd (BI f j)with
 |some (.next,S)=>Bj f (db f j) R S
 |_=>false
theorem mj{P:Prop}{x1:Option (Mine.Fl×Mine.St)}{f0:(Mine.St)->Bool}(h:(match x1 with|Option.some (Mine.Fl.next,a1)=>f0 a1|a1=>false)=true)(k0:∀a1,x1=Option.some (Mine.Fl.next,a1)->f0 a1=true->P):P:=by
 obtain⟨z1,e1⟩:∃z,x1=z:=⟨_,rfl⟩
 rw[e1]at h;induction z1 using Option.casesOn with
 |some y1'0=>
  induction y1'0 using Prod.casesOn with
  |mk y2'0 y2'1=>
   induction y2'0 using Fl.casesOn with
   |next=>exact k0 _ e1 h
   |_=>exact ai h
 |_=>exact ai h
noncomputable def Bw (p:Nat->Nat->Bool):Bool:=[0,1,2].all λa=>[0,1,2].all λb=>p a b
theorem D9:Bw (po 2)=true:=by decide+kernel
theorem D8:Bw (po 3)=true:=by decide+kernel
structure Ty (I:IP) (f:Int):Prop where
 tid:∀g,g<3->64<=I.nu (5000+10*g)/\I.nu (5000+10*g)<=66
 kd:∀g,g<3->17<=I.nu (5001+10*g)/\I.nu (5001+10*g)<=19
 fi:I.nu 6=f
 len:I.nu 1024=67
theorem Ty.same{I I':IP}{f:Int}(t:Ty I f)(s:∀x,x≠1/\x≠2/\(x<1000\/1024<x)/\(x<5005\/5007<x)->I'.nu x=I.nu x)(l:I'.nu 1024=I.nu 1024):Ty I' f:=by
 refine⟨λg hg=>?_,λg hg=>?_,?_,l.trans t.len⟩
 ·rw[s _ (by lia)];exact t.tid g hg
 ·rw[s _ (by lia)];exact t.kd g hg
 ·rw[s _ (by decide)];exact t.fi
theorem Aq{a:Int}(h:64<=a/\a<=66):∃x:Fin 3,a=64+(x.val:Int):=by
 have:a=64\/a=65\/a=66:=by lia
 rcases this with e|e|e
 ·exact⟨0,e⟩
 ·exact⟨1,e⟩
 ·exact⟨2,e⟩
theorem E8:∀x y z v:Fin 3,x≠y->x≠z->y≠z->x=v\/y=v\/z=v:=by decide+kernel
theorem pig{a b c v:Int}(ha:64<=a/\a<=66)(hb:64<=b/\b<=66)(hc:64<=c/\c<=66)(hv:64<=v/\v<=66)(d:a≠b/\a≠c/\b≠c):a=v\/b=v\/c=v:=by
 obtain⟨x,rfl⟩:=Aq ha;obtain⟨y,rfl⟩:=Aq hb;obtain⟨z,rfl⟩:=Aq hc;obtain⟨u,rfl⟩:=Aq hv;rcases E8 x y z u (λe=>d.1 (e▸rfl)) (λe=>d.2.1 (e▸rfl)) (λe=>d.2.2 (e▸rfl))with rfl|rfl|rfl
 ·exact .inl rfl
 ·exact .inr (.inl rfl)
 ·exact .inr (.inr rfl)
theorem Ty.grp{I:IP}{f v:Int}(ty:Ty I f)(d:I.nu 5000≠I.nu 5010/\I.nu 5000≠I.nu 5020/\I.nu 5010≠I.nu 5020)(hv:64<=v/\v<=66):∃g,g<3/\I.nu (5000+10*g)=v:=by
 rcases pig (ty.tid 0 (by decide)) (ty.tid 1 (by decide)) (ty.tid 2 (by decide)) hv d with e|e|e
 ·exact⟨0,by decide,e⟩
 ·exact⟨1,by decide,e⟩
 ·exact⟨2,by decide,e⟩
noncomputable def l5 (g x:Nat):Nat:=match bF (Bs g) x with
 |some (.sym y _)=>y
 |_=>x
noncomputable def bp (g:Nat) (I:IP):IP where
 nu x:=I.nu (l5 g x)
 ol o:=I.ol (l5 g (1000+o) -1000)
 od:=I.od
 ss x:=match bF [(0,g),(g,0)] x with
  |some y=>I.ss y
  |none=>I.ss x
theorem pD{g:Nat}{y:Nat×SV}(m:y∈Bs g):∃z,y.2=.sym z 0/\1001<=z/\1001<=y.1:=by
 unfold Bs at m;simp only[List.mem_cons,List.not_mem_nil,or_false]at m;rcases m with rfl|rfl|rfl|rfl|rfl|rfl|rfl|rfl|rfl|rfl
 all_goals exact⟨_,rfl,by lia,by first|lia|(dsimp only;lia)⟩
theorem xa{g:Nat}{I:IP}{f tid:Int}(h1:I.nu (5000+10*g)=tid)(h2:I.nu 6=f):dG (EQ g f tid) I (bp g I)where
 nu x:=by
  show match bF (Bs g) x with
  |some (.int i)=>I.nu (l5 g x)=i
  |some (.sym y l)=>I.nu (l5 g x)=I.nu y+l
  |some _=>True
  |none=>I.nu (l5 g x)=I.nu x
  unfold l5
  induction e:bF (Bs g) x using Option.casesOn with
  |none=>rfl
  |some v=>
   refine an (pD (aP e)) ?_;intro z e2 _
   dsimp only at e2
   subst e2
   exact(Int.add_zero _).symm
 sy x:=by
  show match bF [(0,g),(g,0)] x with
  |some y=>(match bF [(0,g),(g,0)] x with
   |some y=>I.ss y
   |none=>I.ss x)=I.ss y
  |none=>(match bF [(0,g),(g,0)] x with
   |some y=>I.ss y
   |none=>I.ss x)=I.ss x
  induction e:bF [(0,g),(g,0)] x using Option.casesOn<;>rfl
 fx x i h:=by
  have h:bF [(5000+10*g,tid),(6,f)] x=some i:=h
  have m:=aP h
  simp only[List.mem_cons,List.not_mem_nil,or_false,Prod.mk.injEq]at m
  rcases m with⟨rfl,rfl⟩|⟨rfl,rfl⟩
  ·exact h1
  ·exact h2
 sx x i h:=by exact aa h
theorem uw{g x:Nat}(h:1001<=x):1001<=l5 g x:=by
 unfold l5;induction e:bF (Bs g) x using Option.casesOn with
 |none=>exact h
 |some v=>refine dT (pD (aP e)) ?_;intro z e2 e3 _;dsimp only at e2;subst e2;exact e3
theorem zu{g x:Nat}(h:x<1001):l5 g x=x:=by
 unfold l5;induction e:bF (Bs g) x using Option.casesOn with
 |none=>rfl
 |some v=>refine dT (pD (aP e)) ?_;intro z _ _ e3;dsimp only at e3;lia
theorem qk{g:Nat}{I:IP}{f:Int}(hg:g<3)(ok:I.Ok)(t:Ty I f):(bp g I).Ok where
 l0:=by show I.ol (l5 g (1000+0) -1000)=[];rw[zu (by exact Nat.lt_succ_self _)];exact ok.l0
 d0:=ok.d0
 len o n0:=by
  show I.nu (l5 g (1000+o))=((I.ol (l5 g (1000+o) -1000)).length:Int)
  have:=uw (g:=g) (x:=1000+o) (by lia)
  have e:=ok.len (l5 g (1000+o) -1000) (by omega)
  rw[show 1000+(l5 g (1000+o) -1000)=l5 g (1000+o)by lia]at e
  exact e
 small o:=ok.small _
 smallD:=ok.smallD
 ss1 x:=by
  show∃c,(match bF [(0,g),(g,0)] x with
   |some y=>I.ss y
   |none=>I.ss x).cps.toList=[c]
  cases bF [(0,g),(g,0)] x<;>exact ok.ss1 _
 rg x lo hi e:=by
  show lo<=I.nu (l5 g x)/\I.nu (l5 g x)<=hi
  have hx:x=5000\/x=5001\/x=1020\/x=5005:=by
   unfold zj at e
   refine ah e ?_ ?_<;>clear e
   ·intro c e
    have:=Nat.eq_of_beq_eq_true c;lia
   ·intro _ e
    refine ah e ?_ ?_<;>clear e
    ·intro c e
     have:=Nat.eq_of_beq_eq_true c;lia
    ·intro _ e
     refine ah e ?_ ?_<;>clear e
     ·intro c e
      have:=Nat.eq_of_beq_eq_true c;lia
     ·intro _ e
      refine ab e ?_;clear e;intro c e
      have:=Nat.eq_of_beq_eq_true c;lia
  have hg:g=0\/g=1\/g=2:=by lia
  rcases hx with rfl|rfl|rfl|rfl
  ·refine gS e ?_;clear e;intro h1 h2;subst h1;subst h2
   rcases hg with rfl|rfl|rfl
   ·exact t.tid 0 (by decide)
   ·exact t.tid 1 (by decide)
   ·exact t.tid 2 (by decide)
  ·refine gS e ?_;clear e;intro h1 h2;subst h1;subst h2
   rcases hg with rfl|rfl|rfl
   ·exact t.kd 0 (by decide)
   ·exact t.kd 1 (by decide)
   ·exact t.kd 2 (by decide)
  ·rcases hg with rfl|rfl|rfl<;>exact ok.rg 1020 lo hi e
  ·rcases hg with rfl|rfl|rfl<;>exact ok.rg 5005 lo hi e
 ch x hx:=by
  show∃j∈yP x,I.nu (l5 g x)=((j:Nat):Int)
  have h2:x=5006\/x=5007:=by
   unfold yP at hx
   split at hx
   ·rename_i c;exact .inl (Nat.eq_of_beq_eq_true c)
   ·split at hx
    ·rename_i c;exact .inr (Nat.eq_of_beq_eq_true c)
    ·exact(hx rfl).elim
  have hg:g=0\/g=1\/g=2:=by lia
  rcases h2 with rfl|rfl<;>rcases hg with rfl|rfl|rfl<;>exact ok.ch _ hx
theorem xb{g:Nat}{I:IP}{f:Int}(hg:g<3)(t:Ty I f):Ty (bp g I) f:=by
 have hg:g=0\/g=1\/g=2:=by lia
 refine⟨λk hk=>?_,λk hk=>?_,?_,by rcases hg with rfl|rfl|rfl<;>exact t.len⟩
 ·have hk:k=0\/k=1\/k=2:=by lia
  rcases hg with rfl|rfl|rfl<;>rcases hk with rfl|rfl|rfl<;>first|exact t.tid 0 (by decide)|exact t.tid 1 (by decide)|exact t.tid 2 (by decide)
 ·have hk:k=0\/k=1\/k=2:=by lia
  rcases hg with rfl|rfl|rfl<;>rcases hk with rfl|rfl|rfl<;>first|exact t.kd 0 (by decide)|exact t.kd 1 (by decide)|exact t.kd 2 (by decide)
 ·rcases hg with rfl|rfl|rfl<;>exact t.fi
theorem sQ{g n:Nat}(hg:g<3)(h:n<66):jo g n<66:=by
 unfold jo;split
 ·rename_i c;rw[Bool.and_eq_true]at c;have a:=Nat.le_of_ble_eq_true c.2;lia
 ·split<;>lia
theorem z9:([0,1,2].all λg=>(List.range 66).all λn=>Nat.beq (jo g (jo g n)) n)=true:=by decide+kernel
theorem z'{g m n:Nat}(hg:g<3)(hm:m<66)(hn:n<66)(e:jo g m=jo g n):m=n:=by
 have mg:g∈[0,1,2]:=by
  have hg:g=0\/g=1\/g=2:=by lia
  rcases hg with rfl|rfl|rfl<;>decide
 have q:=List.all_eq_true.mp (List.all_eq_true.mp z9 g mg);have a:=Nat.eq_of_beq_eq_true (q m (List.mem_range.mpr hm));have b:=Nat.eq_of_beq_eq_true (q n (List.mem_range.mpr hn));rw[<-a,<-b,e]
section
variable{f:Int}
theorem Nm.perm{g:Nat}(hg:g<3){a:Nat}(x:Nm (J∘jo g) L a):Nm J L a:=by
 rcases x with x|⟨n,hn,x⟩
 ·exact .inl x
 ·exact .inr ⟨jo g n,sQ hg hn,x⟩
theorem b0.perm{g:Nat}(hg:g<3)(V:b0 (GG I w h0 h) J h L dn Bd)(t:Ty I f):b0 (GG (bp g I) w h0 h) (J∘jo g) h L dn Bd:=by
 have hg3:g=0\/g=1\/g=2:=by lia
 refine{
  ok:=qk hg V.ok t
  bL:=λo=>V.bL _
  bD:=V.bD
  ct:=?_
  tp:=?_
  lenM:=?_
  met:=?_
  ix:=?_
  ix7:=?_
  dist:=?_
  srt:=?_
  at0:=?_}
 ·refine jH V.ct ?_;intro W T F O C;have old:∀{e:Sh} {K:List KD} {vs:List Value},ac (bg pw w h (Nm J L) e) K vs->ac (bg pw w h (Nm (J∘jo g) L) e) K vs:=λa=>a.mono λ_ _ q=>q.names λa h=>Nm.perm hg h;refine bb C.m ?_;intro m0 ms e m;refine⟨W,T,F,O,?_⟩;rcases hg3 with rfl|rfl|rfl
  ·exact⟨old C.w,old C.d,old C.t,old C.y,old C.f,old C.e,old C.o,⟨m0,ms,e,old m⟩,old C.p0,old C.p1,old C.p2⟩
  ·exact⟨old C.w,old C.d,old C.t,old C.y,old C.f,old C.e,old C.o,⟨m0,ms,e,old m⟩,old C.p1,old C.p0,old C.p2⟩
  ·exact⟨old C.w,old C.d,old C.t,old C.y,old C.f,old C.e,old C.o,⟨m0,ms,e,old m⟩,old C.p2,old C.p1,old C.p0⟩
 ·rintro o (rfl|rfl|rfl|rfl)
  ·rcases hg3 with rfl|rfl|rfl<;>exact V.tp 5 (by decide)
  ·rcases hg3 with rfl|rfl|rfl<;>exact V.tp 6 (by decide)
  ·rcases hg3 with rfl|rfl|rfl<;>exact V.tp 7 (by decide)
  ·rcases hg3 with rfl|rfl|rfl<;>exact V.tp 8 (by decide)
 ·rcases hg3 with rfl|rfl|rfl<;>exact V.lenM
 ·rcases hg3 with rfl|rfl|rfl<;>exact V.met
 ·intro k hk;have hk:k=0\/k=1\/k=2:=by lia
  rcases hg3 with rfl|rfl|rfl<;>rcases hk with rfl|rfl|rfl<;>first|exact V.ix 0 (by decide)|exact V.ix 1 (by decide)|exact V.ix 2 (by decide)
 ·rcases hg3 with rfl|rfl|rfl<;>exact V.ix7
 ·have d:=V.dist;rcases hg3 with rfl|rfl|rfl
  ·exact d
  ·exact⟨d.1.symm,d.2.2,d.2.1⟩
  ·exact⟨d.2.2.symm,d.2.1.symm,d.1.symm⟩
 ·intro k hk;have hk:k=0\/k=1\/k=2:=by lia
  rcases hg3 with rfl|rfl|rfl<;>rcases hk with rfl|rfl|rfl<;>first|exact V.srt 0 (by decide)|exact V.srt 1 (by decide)|exact V.srt 2 (by decide)
 ·rcases hg3 with rfl|rfl|rfl<;>exact V.at0
end
section
variable{prog:Program} {N N':Nat->Prop}
theorem dL.names2(hN:∀a o,h.get? a=some o->N' a->N a){e:El}{v:Value}{k:KI}(x:dL prog w h N e v k):dL prog w h N' e v k:=by
 induction e using El.casesOn with
 |it=>exact x
 |fld C y=>refine hH x ?_;clear x;intro a d kvs u q q1';subst q1';intro n g q2' r;obtain⟨ob,en,ep,h1,h2⟩:=q2';exact⟨a,d,kvs,u,q,rfl,⟨λq=>n.1 (hN _ _ g q),λq=>n.2 (hN _ _ h1 q)⟩,g,⟨ob,en,ep,h1,h2⟩,r⟩
theorem bC.names2(hN:∀a o,h.get? a=some o->N' a->N a){e:List El}{v:List Value}{k:KD}(x:bC prog w h N e v k):bC prog w h N' e v k:=by
 induction x with
 |nil=>exact .nil
 |cons a _ ih=>exact .cons (a.names2 hN) ih
theorem bg.names2(hN:∀a o,h.get? a=some o->N' a->N a){e:Sh}{v:Value}{k:KD}(x:bg prog w h N e k v):bg prog w h N' e k v:=by
 induction e using Sh.casesOn with
 |one e=>obtain⟨k,a,b⟩:=x;exact⟨k,a,b.names2 hN⟩
 |tup es=>refine dh x ?_;clear x;intro a o items n e1 e2 c d i;exact⟨a,o,items,n,e1,e2,c,d,i.names2 hN⟩
end
noncomputable def newK (I:IP):IP:={I with od:=λo=>if o=2 then[]else I.od o}
theorem zZ{I:IP}(ok:I.Ok):(newK I).Ok:=
 ⟨ok.l0,ok.d0,ok.len,ok.small,λo=>by
  show(if o=2 then([]:List (KD×Addr×Value))else I.od o).length<=100000
  split
  ·exact Nat.zero_le _
  ·exact ok.smallD o,ok.ss1,ok.rg,ok.ch⟩
section
variable{f:Int}
theorem b0.names(V:b0 (GG I w h0 h) J h L dn Bd)(hN:∀a o,h.get? a=some o->Nm J' L a->Nm J L a):b0 (GG I w h0 h) J' h L dn Bd where
 ok:=V.ok
 bL:=V.bL
 bD:=V.bD
 ct:=by
  refine jH V.ct ?_;intro W T F O C
  have old:∀{e:Sh} {K:List KD} {vs:List Value},ac (bg pw w h (Nm J L) e) K vs->ac (bg pw w h (Nm J' L) e) K vs:=λa=>a.mono λ_ _ q=>q.names2 hN
  refine bb C.m ?_;intro m0 ms e m
  exact⟨W,T,F,O,old C.w,old C.d,old C.t,old C.y,old C.f,old C.e,old C.o,⟨m0,ms,e,old m⟩,old C.p0,old C.p1,old C.p2⟩
 tp:=V.tp
 lenM:=V.lenM
 met:=V.met
 ix:=V.ix
 ix7:=V.ix7
 dist:=V.dist
 srt:=V.srt
 at0:=V.at0
theorem b0.newK(V:b0 (GG I w h0 h) J h L dn Bd):b0 (GG (newK I) w h0 h) J h L dn Bd where
 ok:=zZ V.ok
 bL:=V.bL
 bD o:=by
  show(if o=2 then([]:List (KD×Addr×Value))else I.od o).length<=Bd
  split
  ·exact Nat.zero_le _
  ·exact V.bD o
 ct:=by
  refine jH V.ct ?_;intro W T F O C
  exact⟨W,T,F,O,C.w,C.d,C.t,C.y,C.f,C.e,C.o,C.m,C.p0,C.p1,C.p2⟩
 tp:=V.tp
 lenM:=V.lenM
 met:=V.met
 ix:=V.ix
 ix7:=V.ix7
 dist:=V.dist
 srt:=V.srt
 at0:=V.at0
theorem b0.done(V:b0 (GG I w h0 h) J h L dn Bd)(t:Int):b0 (GG I w h0 h) J h L (t::dn) Bd where
 ok:=V.ok
 bL:=V.bL
 bD:=V.bD
 ct:=V.ct
 tp:=V.tp
 lenM:=V.lenM
 met v hv a kd e t':=by
  refine bb (V.met v hv a kd e t') ?_;intro x r e1 e2
  exact⟨x,r,e1,List.mem_cons_of_mem _ e2⟩
 ix:=V.ix
 ix7:=V.ix7
 dist:=V.dist
 srt:=V.srt
 at0:=V.at0
noncomputable def Be:pK->Bool
 |.lk _ o q=>Nat.beq o 5&&(match q with
  |.a v::_=>cj v mB
  |_=>false)
 |_=>true
theorem oP{P:Prop}{x1:Mine.SK}{f0:(Mine.SV)->(List Mine.SK1)->Bool}(h:(match x1 with|Mine.SK1.a a1::a2=>f0 a1 a2|a1=>false)=true)(k0:∀a1 a2,x1=Mine.SK1.a a1::a2->f0 a1 a2=true->P):P:=by
 obtain⟨z1,e1⟩:∃z,x1=z:=⟨_,rfl⟩
 rw[e1]at h;induction z1 using List.casesOn with
 |cons y1'0 y1'1=>
  induction y1'0 using SK1.casesOn with
  |a y2'0=>exact k0 _ _ e1 h
  |_=>exact ai h
 |_=>exact ai h
theorem zM:kU.all Be=true:=by decide+kernel
theorem b0.fresh(V:b0 (GG I w h0 h) J h L dn Bd)(e2:I.od 2=[])(hd:I.nu 5000∉dn):∀r∈kU,pJ (GG I w h0 h) h r:=by
 intro r m;have noK:∀{q:SK},¬vg (GG I w h0 h) 2 q:=by rintro q ⟨kd,k,t⟩;have t:(atKey (I.od 2) kd).isSome=true:=t;rw[e2]at t;exact ai t
 have lk:=List.all_eq_true.mp zM r m;induction r using pK.casesOn with
 |kl k o q=>exact λz=>(noK z).elim
 |nv k=>exact noK
 |lk k o q=>
  unfold Be at lk;dsimp only at lk;rw[Bool.and_eq_true]at lk;have lk1:=Nat.eq_of_beq_eq_true lk.1;subst lk1;rintro⟨v,mv,a,kd,kr,e,t⟩;refine bb (V.met v mv a kd e t) ?_;intro t0 r0 e3 e4;have l2:=lk.2;refine oP l2 ?_;clear l2;intro v' q' e0' l2;subst e0';have:=bM l2;subst this;subst e3;cases kr with
  |cons h1 h2=>
   refine an h1 ?_;clear h1;intro p h3 h4;injection h3 with h3
   subst h3;have h4:KA.i t0=.i (I.nu 5000+0):=h4;injection h4 with h4
   rw[Int.add_zero]at h4;rw[h4]at e4;exact(hd e4).elim
end
theorem xY(R:Int):rr (eK R) 66=true:=AY _ _ _ _
theorem wF(R:Int):nH (eK R) 66=true:=iy _ _ _ _
theorem tX(f j:Int):(nH (BI f j) 66&&(rr (BI f j) 66&&(nH fG 66&&rr fG 66)))=true:=by kernel_rfl!
section
variable{h1':Heap} {c:Cv} {T:St}
theorem nq(k:dG c I I')(chk:c.hpB S T 66=true)(chl:c.locB S T=true)(tT:nH T 66=true)(hT:rr T 66=true)(Tn:T.next=66)(inj:∀m n,m<66->n<66->c.mu m=c.mu n->m=n)(l0:I.ol 0=[])(l0':I'.ol 0=[])(lists:∀o n,bF fq o=some n->I'.ol o=bm s.heap (J (c.mu n)))(d1:s.heap.DictOfH (ay pw w) (J (c.mu 16)) (I'.od 1))(d2:s.heap.DictOfH (ay pw w) (J (c.mu 36)) (I'.od 2))(d3:s.heap.DictOfH (ay pw w) (J (c.mu 37)) (I'.od 3))(tk:aq h1' s.heap)(r:SR (GG I w h0 h1) J S s L):SR (GG I' w h0 h1') (J∘c.mu) T s L:=by
 refine Cv.conv (c:=c) (G:=GG I w h0 h1) (I':=I') k (by rw[Tn];exact chk) chl (by rw[Tn];exact inj) l0 l0' ?_ ?_ tk r
 ·intro n o ys hn e n0;rw[Tn]at hn;exact lists o n (kc tT n o ys hn e n0)
 ·intro n o hn e;rw[Tn]at hn;rcases pp hT n o [] hn e with⟨rfl,rfl⟩|⟨rfl,rfl⟩|⟨rfl,rfl⟩
  ·exact d1
  ·exact d2
  ·exact d3
theorem iU(r:SR (GG I w h0 h1) J S s L)(hS:66<=S.next)(b:lg S=true)(z:(fq.all λx=>nilE (bh S x.2))=true){o n:Nat}(e:bF fq o=some n):bm s.heap (J n)=I.ol o:=by refine an (xu r.hp hS b e) ?_;intro ys e1 e2;have:=List.all_eq_true.mp z _ (aP e);rw[bq this]at e2;rw[e1,aK e2,List.append_nil];rfl
theorem ck(r:SR (GG I w h0 h1) J S s L){n o:Nat}(hn:n<S.next)(b:rV S n o=true):s.heap.DictOfH (ay pw w) (J n) (I.od o):=by unfold rV at b;refine tx b ?_;clear b;intro o' es e b;rw[Bool.and_eq_true]at b;have:=Nat.eq_of_beq_eq_true b.1;subst this;rw[bq b.2]at e;exact SR.dicts (G:=GG I w h0 h1) r hn e
end
theorem b0.move{I:IP}{w:World}{h0 h h':Heap}{J J':Nat->Nat}{L:Nat}{dn:List Int}{Bd:Nat}(V:b0 (GG I w h0 h) J h L dn Bd)(kt:aq h h')(kn:∀a o,h.get? a=some o->¬Nm J L a->Kd o->h'.get? a=some o)(hN:∀a o,h.get? a=some o->Nm J' L a->Nm J L a):b0 (GG I w h0 h') J' h' L dn Bd:=by
 have V2:=V.heap (J':=J) (λ_ _=>rfl) kt kn;refine{V2 with ct:=?_,tp:=V2.tp,met:=V2.met};refine jH V.ct ?_;intro W T F O C;have old:∀{e:Sh} {K:List KD} {vs:List Value},ac (bg pw w h (Nm J L) e) K vs->ac (bg pw w h' (Nm J' L) e) K vs:=λa=>a.mono λ_ _ q=>by have q1:bg pw w h (λa=>Nm J L a\/Nm J' L a) _ _ _:=q.names2 λa o e x=>x.elim id (hN a o e);have q2:bg pw w h' (λa=>Nm J L a\/Nm J' L a) _ _ _:=q1.keep2 kt λa o e n k=>kn a o e (λx=>n (.inl x)) k;exact q2.names λa x=>.inr x
 refine bb C.m ?_;intro m0 ms e m;exact⟨W,T,F,O,old C.w,old C.d,old C.t,old C.y,old C.f,old C.e,old C.o,⟨m0,ms,e,old m⟩,old C.p0,old C.p1,old C.p2⟩
noncomputable def DJ (g:Nat):Bool:=fq.all λx=>match fG.hp.get (jo g x.2)with
 |some (.lst o _)=>Nat.beq (1000+o) (l5 g (1000+x.1))
 |some (.tab o _ _)=>Nat.beq (1000+o) (l5 g (1000+x.1))
 |_=>false
theorem oJ{P:Prop}{x1:Option Mine.SO}{f0:(Nat)->(List Mine.SV)->Bool}{f1:(Nat)->(List (Mine.SV×Mine.SV))->(List Mine.SV)->Bool}(h:(match x1 with|Option.some (Mine.SO.lst a1 a2)=>f0 a1 a2|Option.some (Mine.SO.tab a1 a2 a3)=>f1 a1 a2 a3|a1=>false)=true)(k0:∀a1 a2,x1=Option.some (Mine.SO.lst a1 a2)->f0 a1 a2=true->P)(k1:∀a1 a2 a3,x1=Option.some (Mine.SO.tab a1 a2 a3)->f1 a1 a2 a3=true->P):P:=by
 obtain⟨z1,e1⟩:∃z,x1=z:=⟨_,rfl⟩
 rw[e1]at h;induction z1 using Option.casesOn with
 |some y1'0=>
  induction y1'0 using SO.casesOn with
  |lst y2'0 y2'1=>exact k0 _ _ e1 h
  |tab y2'0 y2'1 y2'2=>exact k1 _ _ _ e1 h
  |_=>exact ai h
 |_=>exact ai h
theorem vy:([0,1,2].all DJ)=true:=by decide+kernel
theorem DS:(xj fG 66&&(rV fG 16 1&&(rV fG 36 2&&rV fG 37 3)))=true:=by decide+kernel
theorem Cj:∀x∈fq,x.2≠36:=by decide
noncomputable def ER (R:Int):Cv:=⟨λn=>n,[],[],[(5002,R -1),(5003,R)],[]⟩
noncomputable def u9 (R:Int):Bool:=(ER R).hpB (eK R) fG 66&&((ER R).locB (eK R) fG&&(lg (eK R)&&((fq.all λx=>nilE (bh (eK R) x.2))&&(rV (eK R) 16 1&&(rV (eK R) 36 2&&rV (eK R) 37 3)))))
theorem Ev:u9 2=true:=by decide+kernel
theorem Eu:u9 3=true:=by decide+kernel
theorem E1{lv:Lv}{fc:FC}{a b c:Stmt}{S S3:St}(h:jg lv fc [a,b,c] S=some (.next,S3)):∃S1 S2,lv.st fc a S=some (.next,S1)/\lv.st fc b S1=some (.next,S2)/\lv.st fc c S2=some (.next,S3):=by
 unfold jg at h;split at h
 ·rename_i S1 e1;unfold jg at h;split at h
  ·rename_i S2 e2;unfold jg at h;split at h
   ·rename_i S3' e3;unfold jg at h;cases h;exact⟨S1,S2,e1,e2,e3⟩
   ·rename_i x hx;exact(hx _ h).elim
  ·rename_i x hx;exact(hx _ h).elim
 ·rename_i x hx;exact(hx _ h).elim
theorem gp{k n:Nat}(h:n≠36):qr k n=n:=by
 unfold qr;split
 ·rename_i c;exact(h (Nat.eq_of_beq_eq_true c)).elim
 ·rfl
theorem nc{x:Str}{n:Nat}(h:bE cf.cells x=some n):n=0:=by have h:bE [((⟨⟨[119]⟩⟩:Str),0)] x=some n:=h;have:=iT h;rw[List.mem_singleton]at this;injection this
theorem ag.ren{ae:Env}{J J':Nat->Nat}{L nx:Nat}(x:ag ae cf J 66 L)(e:J' 0=J 0)(l:66<=nx):ag ae cf J' nx L:=
 ⟨x.kind,x.names,x.loc,x.glob,x.bi,λy n h=>by have:=nc h;subst this;obtain⟨a,b⟩:=x.cells y 0 h;exact⟨by exact Nat.lt_of_lt_of_le ‹_› ‹_›,by rw[b,e]⟩⟩
section
variable{Q:Flow->Shared->Prop} {N:Int}
theorem pC{G:Gr}(vals:ac cW ls (G.I.ol 1)):rS G {} ls:=⟨vals,λk n v e=>by exact aa e⟩
theorem sJ(B:cQ w h0)(hA:Rm 9 A)(hE:ag ae cf J 66 L){f j:Nat}(hf:f<3)(hj:j<3)(r:SR (GG I w h0 s0.heap) J (Dx j) s0 L)(V:b0 (GG I w h0 s0.heap) J s0.heap L dn Bd)(ty:Ty I f)(vals:ac cW ls (I.ol 1))(h9:I.nu 1<=N)(hN:N+140<=900)(hb2:1000<=Bd)(hB:Bd+1800<=100000)(fresh:db f j∉dn)(post:∀J1 I1 s1,SR (GG I1 w h0 s1.heap) J1 fG s1 L->b0 (GG I1 w h0 s1.heap) J1 s1.heap L (db f j::dn) (Bd+1400)->Ty I1 f->I1.ol 1=I.ol 1->I1.nu 1<=N+140->J1 0=J 0->(∀a o,s0.heap.get? a=some o->¬Nm J L a->s1.heap.get? a=some o/\¬Nm J1 L a)->s1.gens=s0.gens->s1.os=s0.os->Q .next s1):wpAny (model pw w) A (execs (gO oS) ae) Q E s0:=by
 have tb:64<=db f j/\db f j<=66:=by unfold db;have a:=Int.fmod_nonneg_of_pos (2*(f:Int)+2*j) (b:=3) (by decide);have b:=Int.fmod_lt_of_pos (2*(f:Int)+2*j) (b:=3) (by decide);omega
 obtain⟨g,hg,eg⟩:=ty.grp V.dist tb;have hg3:g=0\/g=1\/g=2:=by lia
 have hf3:f=0\/f=1\/f=2:=by lia
 have hj3:j=0\/j=1\/j=2:=by lia
 have m3:∀{x:Nat},(x=0\/x=1\/x=2)->x∈[0,1,2]:=by rintro x (rfl|rfl|rfl)<;>decide
 have chk:=List.all_eq_true.mp (List.all_eq_true.mp (List.all_eq_true.mp w9 g (m3 hg3)) f (m3 hf3)) j (m3 hj3);unfold A8 at chk;rw[Bool.and_eq_true]at chk;have tbl:=tX f j;simp only[Bool.and_eq_true]at tbl;refine gM tbl ?_;clear tbl;intro tF1 tF2 tX1 tX2;have nl:=DS;simp only[Bool.and_eq_true]at nl;refine gM nl ?_;clear nl;intro nl1 nl2 nl3 nl4;have e16:jo g 16=16/\jo g 36=36/\jo g 37=37/\jo g 0=0:=by rcases hg3 with rfl|rfl|rfl<;>decide
 have okP:=qk hg V.ok ty;have tyP:=xb hg ty;have r1:SR (GG (bp g I) w h0 s0.heap) (J∘jo g) (BI f j) s0 L:=by
  refine nq (c:=EQ g f (db f j)) (xa eg ty.fi) chk.1 chk.2 tF1 tF2 rfl (λm n hm hn e=>z' hg hm hn e) V.ok.l0 okP.l0 ?_ ?_ ?_ ?_ r.hp.tk r
  ·intro o n e;have q:=List.all_eq_true.mp (List.all_eq_true.mp vy g (m3 hg3)) _ (aP e);have lt:n<66:=(fo _ (aP e)).2;show I.ol (l5 g (1000+o) -1000)=bm s0.heap (J (jo g n));have o1:o≠0:=by rintro rfl;exact aa e
   have big:=uw (g:=g) (x:=1000+o) (by lia);dsimp only at q;refine oJ q ?_ ?_<;>clear q
   ·intro o' ys e2 q;have q:=Nat.eq_of_beq_eq_true q;rw[<-q,show 1000+o' -1000=o' by simp];exact(SR.lists (G:=GG I w h0 s0.heap) r nl1 (sQ hg lt) (.inl e2) (by lia)).symm
   ·intro o' fs ys e2 q;have q:=Nat.eq_of_beq_eq_true q;rw[<-q,show 1000+o' -1000=o' by simp];exact(SR.lists (G:=GG I w h0 s0.heap) r nl1 (sQ hg lt) (.inr ⟨fs,e2⟩) (by lia)).symm
  ·show s0.heap.DictOfH (ay pw w) (J (jo g 16)) (I.od 1);rw[e16.1];exact ck r (by decide:16<66) nl2
  ·show s0.heap.DictOfH (ay pw w) (J (jo g 36)) (I.od 2);rw[e16.2.1];exact ck r (by decide:36<66) nl3
  ·show s0.heap.DictOfH (ay pw w) (J (jo g 37)) (I.od 3);rw[e16.2.2.1];exact ck r (by decide:37<66) nl4
 have V1:=V.perm hg ty;have hE1:ag ae cf (J∘jo g) 66 L:=hE.ren (by show J (jo g 0)=J 0;rw[e16.2.2.2]) (Nat.le_refl _);obtain⟨R,hR,eR1,eR2⟩:∃R:Int,(R=2\/R=3)/\(bp g I).nu 5002=R -1/\(bp g I).nu 5003=R:=by
  have s:=V1.srt 0 (by decide);have s1:(bp g I).nu 5002=1\/(bp g I).nu 5002=2:=s.1;have s2:(bp g I).nu 5003=(bp g I).nu 5002+1:=s.2;rcases s1 with s1|s1
  ·exact⟨2,.inl rfl,s1,by rw[s2,s1];rfl⟩
  ·exact⟨3,.inr rfl,s1,by rw[s2,s1];rfl⟩
 have vP:(bp g I).ol 1=I.ol 1:=by rcases hg3 with rfl|rfl|rfl<;>rfl
 have nP:(bp g I).nu 1=I.nu 1:=by rcases hg3 with rfl|rfl|rfl<;>rfl
 have tP:(bp g I).nu 5000=db f j:=by rw[<-eg];rcases hg3 with rfl|rfl|rfl<;>rfl
 have hk:po R f j=true:=by
  rcases hR with rfl|rfl
  ·exact List.all_eq_true.mp (List.all_eq_true.mp D9 f (m3 hf3)) j (m3 hj3)
  ·exact List.all_eq_true.mp (List.all_eq_true.mp D8 f (m3 hf3)) j (m3 hj3)
 unfold po at hk;refine mj hk ?_;clear hk;intro S1 e1 hk;have D:=Gd.c (cH (I:=bp g I) (h1:=s0.heap) (q:={}) B okP bx);have T:=Tk.c (nJ (ls:=ls) (cH (I:=bp g I) (h1:=s0.heap) (q:={}) B okP bx) (pC (G:=GG (bp g I) w h0 s0.heap) (by show ac cW ls ((bp g I).ol 1);rw[vP];exact vals)));have e1:jg (eO (Xc {}) (rW (Xc {}) 100 8) 99) cf [cY (gO oS) 0,cY (gO oS) 1,cY (gO oS) 2] (BI f j)=some (.next,S1):=e1;refine ap (E1 e1) ?_;intro Sa Sb a0 a1 a2;rw[DP];refine kI (sR D T (pE D T 100 8) 99) a0 a1 a2 hA hE1 r1 λJ2 s2 u hE2 r2=>?_;unfold Bj at hk;simp only[Bool.and_eq_true]at hk;refine pU hk ?_;clear hk;intro k1 k2 k3 k4 k5 k6 k7 k8;have k2:=Nat.le_of_ble_eq_true k2;obtain⟨k,hkk⟩:∃k,k=oj S1:=⟨_,rfl⟩
 rw[<-hkk]at k1 k3 k4;unfold DU at k1;rw[Bool.and_eq_true,Bool.and_eq_true]at k1;refine l8 k1 ?_;clear k1;intro kk1 kk2 kk3;have kk1:=Nat.le_of_ble_eq_true kk1;have kk2:k<S1.next:=by simpa using kk2
 have ext2:∀n,n<66->J2 n=J (jo g n):=λn hn=>u.ext n hn;have fk:s0.heap.get? (J2 k)=none:=u.fresh k kk1 kk2
 have cvk:dG (EP k f (db f j) R) (bp g I) (newK (bp g I)):={
  nu:=λx=>rfl
  sy:=λx=>rfl
  fx:=λx i h=>by
   have h:bF [(5000,db f j),(5002,R -1),(5003,R),(6,(f:Int))] x=some i:=h
   have m:=aP h
   simp only[List.mem_cons,List.not_mem_nil,or_false,Prod.mk.injEq]at m
   rcases m with⟨rfl,rfl⟩|⟨rfl,rfl⟩|⟨rfl,rfl⟩|⟨rfl,rfl⟩
   ·exact tP
   ·exact eR1
   ·exact eR2
   ·exact tyP.fi
  sx:=λx i h=>by exact aa h}
 have r3:SR (GG (newK (bp g I)) w h0 s2.heap) (J2∘qr k) (eK R) s2 L:=by
  refine nq (c:=EP k f (db f j) R) cvk k3 k4 (wF R) (xY R) rfl ?_ okP.l0 okP.l0 ?_ ?_ ?_ ?_ (.refl _) r2
  ·intro m n hm hn e;have e:qr k m=qr k n:=e;by_cases c1:m=36
   ·by_cases c2:n=36
    ·lia
    ·rw[gp c2,c1]at e;have:qr k 36=k:=rfl;lia
   ·by_cases c2:n=36
    ·rw[gp c1,c2]at e;have:qr k 36=k:=rfl;lia
    ·rwa [gp c1,gp c2]at e
  ·intro o n e;show(bp g I).ol o=bm s2.heap (J2 (qr k n));rw[gp (Cj _ (aP e))];exact(iU r2 k2 k5 k6 e).symm
  ·show s2.heap.DictOfH (ay pw w) (J2 (qr k 16)) ((bp g I).od 1);rw[gp (by decide)];exact ck r2 (by lia) k7
  ·show s2.heap.DictOfH (ay pw w) (J2 k) [];refine lp kk3 ?_;clear kk3;intro es e kk3;rw[bq kk3]at e;refine an (r2.hp.obj k _ kk2 e) ?_;intro kvs dk al;rw[aK al]at dk;exact gH (G:=GG (bp g I) w h0 s0.heap) (eh dk)
  ·show s2.heap.DictOfH (ay pw w) (J2 (qr k 37)) ((bp g I).od 3);rw[gp (by decide)];exact ck r2 (by lia) k8
 have nmK:∀a o,s0.heap.get? a=some o->Nm (J2∘qr k) L a->Nm (J∘jo g) L a:=by
  rintro a o e (x|⟨n,hn,x⟩)
  ·exact .inl x
  ·by_cases c:n=36
   ·subst c;have x:J2 k=a:=x;rw[x,e]at fk;exact rT fk
   ·have x:J2 (qr k n)=a:=x;rw[gp c,ext2 n hn]at x;exact .inr ⟨n,hn,x⟩
 have kn2:∀a o,s0.heap.get? a=some o->¬Nm (J∘jo g) L a->s2.heap.get? a=some o:=λa o e hN'=>u.keep a o e (λh=>hN' (.inl h)) (λn hn' h=>hN' (.inr ⟨n,hn',h⟩));have V2:b0 (GG (bp g I) w h0 s2.heap) (J2∘qr k) s2.heap L dn Bd:=V1.move u.tup (λa o e hN' _=>kn2 a o e hN') nmK;have V3:=V2.newK;have V4:g' (GG (newK (bp g I)) w h0 s2.heap) (J2∘qr k) s2.heap L (db f j::dn) Bd:=(V3.done _).inv (V3.fresh rfl (by show(bp g I).nu 5000∉dn;rw[tP];exact fresh));have zero:(J2∘qr k) 0=J 0:=by show J2 0=J 0;rw[ext2 0 (by decide),e16.2.2.2]
 refine wpAny_execs_cons (vJ B hR hA r3 V4 eR2 (by show ac cW ls ((bp g I).ol 1);rw[vP];exact vals) (by show(bp g I).nu 1<=N;rw[nP];exact h9) hN (by show(bp g I).nu 5000∈_;rw[tP];exact List.mem_cons_self) hb2 hB (hE.ren zero (Nat.le_refl _)) λJ5 I5 s5 x1 x2 x3 x4 x5 x6 x7 x8=>wpAny_execs_nil ?_);have bk:u9 R=true:=by
  rcases hR with rfl|rfl
  ·exact Ev
  ·exact Eu
 unfold u9 at bk;simp only[Bool.and_eq_true]at bk;refine iw bk ?_;clear bk;intro b1 b2 b3 b4 b5 b6 b7
 have cvb:dG (ER R) I5 I5:={
  nu:=λx=>rfl
  sy:=λx=>rfl
  fx:=λx i h=>by
   have h:bF [(5002,R -1),(5003,R)] x=some i:=h
   have m:=aP h
   simp only[List.mem_cons,List.not_mem_nil,or_false,Prod.mk.injEq]at m
   rcases m with⟨rfl,rfl⟩|⟨rfl,rfl⟩
   ·rw[x3.nu 5002 (by decide)];exact eR1
   ·rw[x3.nu 5003 (by decide)];exact eR2
  sx:=λx i h=>by exact aa h}
 have r5:SR (GG I5 w h0 s5.heap) J5 fG s5 L:=by
  refine nq (c:=ER R) cvb b1 b2 tX1 tX2 rfl (λm n _ _ e=>e) x2.ok.l0 x2.ok.l0 ?_ ?_ ?_ ?_ (.refl _) x1
  ·intro o n e;exact(iU x1 (Nat.le_refl 66) b3 b4 e).symm
  ·exact ck x1 (by decide:16<66) b5
  ·exact ck x1 (by decide:36<66) b6
  ·exact ck x1 (by decide:37<66) b7
 refine post J5 I5 s5 r5 x2.o (tyP.same x3.nu x3.len) (by rw[x3.inl];exact vP) x4 ((x5 0 (by decide)).trans zero) (λa o e hN'=>?_) (x7.trans u.gens) (x8.trans u.os);have n1:¬Nm (J∘jo g) L a:=λx=>hN' (Nm.perm hg x);have n2:¬Nm (J2∘qr k) L a:=λx=>n1 (nmK a o e x);exact⟨x6 a o (kn2 a o e n1) n2,λx=>n2 ((Nm.ext x5 a).mp x)⟩
end
noncomputable def AH (f:Int):Nat->List Int
 |0=>[]
 |j+1=>db f j::AH f j
theorem wl:([0,1,2].all λf:Nat=>[0,1,2].all λj:Nat=>!((AH f j).contains (db f j)))=true:=by decide+kernel
theorem yn{f j:Nat}(hf:f<3)(hj:j<3):db f j∉AH f j:=by
 have m3:∀{x:Nat},x<3->x∈[0,1,2]:=by
  intro x hx;have:x=0\/x=1\/x=2:=by lia
  rcases this with rfl|rfl|rfl<;>decide
 have:=List.all_eq_true.mp (List.all_eq_true.mp wl f (m3 hf)) j (m3 hj);rw[Bool.not_eq_true']at this;intro h;rw[List.contains_iff_mem.mpr h]at this;exact ul this
section
variable{Rr:Result->Shared->Prop} {it:Nat} {f:Nat}
theorem kY(B:cQ w h0)(hA:Rm 9 A)(hL:it≠L)(hb:h0.get? it=none)(hf:f<3):∀(k:Nat) {J:Nat->Nat} {I:IP} {s:Shared} {Bd:Nat} {N:Int} (i:Nat),i+k<=3->SR (GG I w h0 s.heap) J fG s L->b0 (GG I w h0 s.heap) J s.heap L (AH f i) Bd->Ty I f->ac cW ls (I.ol 1)->I.nu 1<=N->N+140*k<=900->1000<=Bd->Bd+1400*k+1800<=100000->ag ae cf J 66 L->PySem.IsRangeIter s.heap it i k 1->¬Nm J L it->(∀J1 I1 s1,SR (GG I1 w h0 s1.heap) J1 fG s1 L->b0 (GG I1 w h0 s1.heap) J1 s1.heap L (AH f (i+k)) (Bd+1400*k)->Ty I1 f->I1.ol 1=I.ol 1->J1 0=J 0->s1.gens=s.gens->s1.os=s.os->Rr (.ok .next) s1)->codeAny (model pw w) A (.forLoop (.Name jN (aC (uT oS))) (.ref it) (gO oS) [] ae) Rr s
 |0=>by rename_i J I s Bd N;intro i hi r V ty vals h9 hN hb2 hB hE hit hn post;refine i8 ?_;refine wpAny_pyNext_range_end hA.handled hit (by exact Int.natCast_nonneg _) λh' hs=>?_;refine wpAny_execs_nil ?_;have kn:∀b o,b≠it->s.heap.get? b=some o->h'.get? b=some o:=λb o hb' e=>hs b o hb' e;obtain⟨r2,kt⟩:=r.iter2 (tk:=s.toks) (λn hn' e=>hn (.inr ⟨n,hn',e⟩)) hL hb kn (fP hit);refine post J I _ (r2.at1 (.refl _)) ?_ ty rfl rfl rfl rfl;exact V.heap (λ_ _=>rfl) kt λa o e hN' hk=>kn a o (λq=>gI hit (q▸e) hk) e
 |k+1=>by
  rename_i J I s Bd N;intro i hi r V ty vals h9 hN hb2 hB hE hit hn post;refine i8 ?_;refine wpAny_pyNext_range_item hit (by simp) λh' hi' hs=>?_;have kn:∀b o,b≠it->s.heap.get? b=some o->h'.get? b=some o:=λb o hb' e=>by rw[hs.2 b hb'];exact e
  obtain⟨r2,kt⟩:=r.iter2 (tk:=s.toks+1) (λn hn' e=>hn (.inr ⟨n,hn',e⟩)) hL hb kn (fP hit);have V2:b0 (GG I w h0 h') J h' L (AH f i) Bd:=V.heap (λ_ _=>rfl) kt λa o e hN' hk=>kn a o (λq=>gI hit (q▸e) hk) e;have r3:SR (GG I w h0 h') J fG {s with heap:=h',toks:=s.toks+1} L:=r2.at1 (.refl _);have hio:∃o,h'.get? it=some o/\o.cls=.type "range_iterator"/\o.data=.fields #[rawInt ((i:Int)+1),rawInt (((k+1:Nat):Int) -1),rawInt 1]:=⟨_,hi',rfl,rfl⟩
  dsimp only;refine gG (G:=GG I w h0 h') (s:={s with heap:=h',toks:=s.toks+1}) (it:=it) (c:="range_iterator") hio (by decide) ?_;have D:Gd (GG I w h0 h') (Xc {}):=Gd.c (cH B V2.ok bx);have O:ba (GG I w h0 h') 0 Lv.no:=uF 0;refine ij D O (S:=fG) (S':=Dx i) (v:=.int i) (fc:=cf) ⟨hA.handled,by have:=hA.depth;exact aX ‹_› (by decide),by have:=hA.units;exact aX ‹_› (by decide)⟩ hE r3 ⟨_,rfl⟩ ?_ λJ4 s4 u4 r4=>?_
  ·show di cf fG jN (.int i)=_;unfold di;rw[jO.2];rfl
  have e4:∀n,n<66->J4 n=J n:=λn hn=>u4.ext n hn;have k4:∀a o,h'.get? a=some o->¬Nm J L a->s4.heap.get? a=some o:=λa o e hN'=>u4.keep a o e (λh=>hN' (.inl h)) (λn hn' h=>hN' (.inr ⟨n,hn',h⟩));have r5:SR (GG I w h0 s4.heap) J4 (Dx i) s4 L:=r4.at1 (.refl _);have V5:b0 (GG I w h0 s4.heap) J4 s4.heap L (AH f i) Bd:=V2.heap e4 u4.tup λa o e hN' _=>k4 a o e hN';have hj:i<3:=by exact Nat.lt_of_le_of_lt (Nat.le_add_right _ _) ‹_›
  refine sJ B hA (hE.after e4 (Nat.le_refl _)) hf hj r5 V5 ty vals h9 (by lia) hb2 (by exact aW ‹_› (by decide)) (yn hf hj) λJ6 I6 s6 x1 x2 x3 x4 x5 x6 x7 x8 x9=>?_;have qp:∀a,Nm J4 L a↔Nm J L a:=λa=>Nm.ext e4 a;have hi'':PySem.IsRangeIter h' it ((i:Int)+1) (((k+1:Nat):Int) -1) 1:=hi';refine xA (x7 it _ (k4 it _ hi'' hn) (λh=>hn ((qp it).mp h))) ?_;intro it6 nm6;have it6:PySem.IsRangeIter s6.heap it ((i+1:Nat):Int) k 1:=by have h1:PySem.IsRangeIter s6.heap it ((i:Int)+1) (((k+1:Nat):Int) -1) 1:=it6;rw[show(((k+1:Nat):Int) -1)=(k:Int)by simp,show((i:Int)+1)=((i+1:Nat):Int)by rfl]at h1;exact h1
  refine kY B hA hL hb hf k (N:=N+140) (i+1) (by lia) x1 x2 x3 (by rw[x4];exact vals) x5 (by lia) (by exact Nat.le_add_left _ _) (by lia) ?_ it6 nm6 λJ7 I7 s7 y1 y2 y3 y3' y4 y5 y6=>?_
  ·exact hE.ren (x6.trans (e4 0 (by decide))) (Nat.le_refl _)
  ·refine post J7 I7 s7 y1 ?_ y3 (y3'.trans x4) (y4.trans (x6.trans (e4 0 (by decide)))) (y5.trans (x8.trans u4.gens)) (y6.trans (x9.trans u4.os));rw[show i+(k+1)=i+1+k by lia,show Bd+1400*(k+1)=Bd+1400+1400*k by lia];exact y2
end
noncomputable def DW:Str:=⟨⟨[109,97,110,121]⟩⟩
noncomputable def BH (m:Int):St:=⟨66,fG.hp,C8++[(DW,.int m)]⟩
noncomputable def CQ:Cv:=⟨λn=>n,[],[],[],[]⟩
noncomputable def xq (m:Nat):Bool:=match(rW (Xc {}) 100 9).ex cf (m6 oS) (BH m)with
 |some (.ref n,S1)=>(match S1.hp.get n with
  |some (.rng hi)=>d7 hi m
  |_=>false)&&(Nat.ble 66 S1.next&&(CQ.hpB S1 fG 66&&(CQ.locB S1 fG&&(lg S1&&((fq.all λx=>nilE (bh S1 x.2))&&(rV S1 16 1&&(rV S1 36 2&&rV S1 37 3)))))))
 |_=>false
theorem oL{P:Prop}{x1:Option (Mine.SV×Mine.St)}{f0:(Nat)->(Mine.St)->Bool}(h:(match x1 with|Option.some (Mine.SV.ref a1,a2)=>f0 a1 a2|a1=>false)=true)(k0:∀a1 a2,x1=Option.some (Mine.SV.ref a1,a2)->f0 a1 a2=true->P):P:=by
 obtain⟨z1,e1⟩:∃z,x1=z:=⟨_,rfl⟩
 rw[e1]at h;induction z1 using Option.casesOn with
 |some y1'0=>
  induction y1'0 using Prod.casesOn with
  |mk y2'0 y2'1=>
   induction y2'0 using SV.casesOn with
   |ref y3'0=>exact k0 _ _ e1 h
   |_=>exact ai h
 |_=>exact ai h
theorem oN{P:Prop}{x1:Option Mine.SO}{f0:(Int)->Bool}(h:(match x1 with|Option.some (Mine.SO.rng a1)=>f0 a1|a1=>false)=true)(k0:∀a1,x1=Option.some (Mine.SO.rng a1)->f0 a1=true->P):P:=by
 obtain⟨z1,e1⟩:∃z,x1=z:=⟨_,rfl⟩
 rw[e1]at h;induction z1 using Option.casesOn with
 |some y1'0=>
  induction y1'0 using SO.casesOn with
  |rng y2'0=>exact k0 _ e1 h
  |_=>exact ai h
 |_=>exact ai h
theorem xp:([1,2,3].all xq)=true:=by decide+kernel
theorem sN:bG (m6 oS)=true:=by kernel_rfl!
section
variable{Q:Flow->Shared->Prop} {N:Int} {f m:Nat}
theorem yK(I:IP):dG CQ I I:=⟨λx=>rfl,λx=>rfl,λx i h=>(by exact aa h),λx i h=>(by exact aa h)⟩
theorem vz(B:cQ w h0)(hA:Rm 9 A)(hf:f<3)(hm:1<=m/\m<=3)(r:SR (GG I w h0 s0.heap) J (BH m) s0 L)(V:b0 (GG I w h0 s0.heap) J s0.heap L [] Bd)(ty:Ty I f)(vals:ac cW ls (I.ol 1))(h9:I.nu 1<=N)(hN:N+420<=900)(hb2:1000<=Bd)(hB:Bd+6000<=100000)(hE:ag ae cf J 66 L)(post:∀J1 I1 s1,SR (GG I1 w h0 s1.heap) J1 fG s1 L->b0 (GG I1 w h0 s1.heap) J1 s1.heap L (AH f m) (Bd+4200)->Ty I1 f->I1.ol 1=I.ol 1->J1 0=J 0->s1.gens=s0.gens->s1.os=s0.os->Q .next s1):wpAny (model pw w) A (exec oS ae) Q E s0:=by
 have g:xq m=true:=by
  refine List.all_eq_true.mp xp m ?_;have:m=1\/m=2\/m=3:=by lia
  rcases this with rfl|rfl|rfl<;>decide
 have O:=lf (q:={}) B V.ok bx (pC (G:=GG I w h0 s0.heap) vals);unfold xq at g;rw[DN];refine wpAny_For ?_ (iG sN);refine oL g ?_;clear g;intro n S1 e1 g;simp only[Bool.and_eq_true]at g;refine mA g ?_;clear g;intro g1 g2 g3 g4 g5 g6 g7 g8 g9;have g2:=Nat.le_of_ble_eq_true g2;refine oN g1 ?_;clear g1;intro hi e2 g1;have hhi:=bl.mp g1;subst hhi;refine O.ex e1 hA hE r λJ1 val s1 t1 r1 v1=>?_;have e3:bI S1 (.ref n) 0=some (some (.int (.ofNat 0))):=by
  unfold bI;dsimp only;rw[e2];dsimp only;have:mS (m:Int) (.ofNat 0)=false:=by rw[ci,decide_eq_false_iff_not];show¬((m:Int)<=0);lia
  rw[this]
 refine gF r1 v1 e3 λob hf' hI=>?_;have G1:=r1.grow (X:=XL L) (h':=s1.heap.push ob) (tk:=s1.toks) λa o e=>Heap.get?_push_of_some _ e;have fit:s1.heap.get? s1.heap.objs.size=none:=aQ;have fs:s0.heap.get? s1.heap.objs.size=none:=by
  induction c:s0.heap.get? s1.heap.objs.size using Option.casesOn with
  |none=>rfl
  |some o=>obtain⟨o',e'⟩:=t1.alive _ _ c;rw[fit]at e';exact aa e'
 have nL:s1.heap.objs.size≠L:=by obtain⟨⟨m,⟨o,_,_,e,_⟩,_⟩,_,_⟩:=r1.lc;exact(af e fit).symm
 have nb:h0.get? s1.heap.objs.size=none:=by
  induction c:h0.get? s1.heap.objs.size using Option.casesOn with
  |none=>rfl
  |some o=>have:=r1.hp.base _ _ c;rw[fit]at this;exact aa this
 have u:=t1.trans G1.2;have e4:∀n,n<66->J1 n=J n:=λn hn=>u.ext n hn;have tbl:=tX 0 0;simp only[Bool.and_eq_true]at tbl;refine gM tbl ?_;clear tbl;intro _ _ tX1 tX2;have r2:SR (GG I w h0 (s1.heap.push ob)) J1 fG {s1 with heap:=s1.heap.push ob} L:=by
  refine nq (c:=CQ) (yK I) g3 g4 tX1 tX2 rfl (λm n _ _ e=>e) V.ok.l0 V.ok.l0 ?_ ?_ ?_ ?_ (.refl _) G1.1
  ·intro o n e;exact(iU G1.1 g2 g5 g6 e).symm
  ·exact ck G1.1 (n:=16) (by lia) g7
  ·exact ck G1.1 (n:=36) (by lia) g8
  ·exact ck G1.1 (n:=37) (by lia) g9
 have V2:b0 (GG I w h0 (s1.heap.push ob)) J1 (s1.heap.push ob) L (AH f 0) Bd:=V.heap e4 u.tup λa o e hN' _=>u.keep a o e (λh=>hN' (.inl h)) (λn hn' h=>hN' (.inr ⟨n,hn',h⟩));refine xA hI ?_;clear hI;intro hn hI;rw[e2]at hI;refine an hI ?_;clear hI;intro left hit hl;have hl:left=((m:Nat):Int):=by lia
 subst hl;refine kY (s:={s1 with heap:=s1.heap.push ob}) (N:=N) B hA.mark nL nb hf m 0 (by lia) r2 V2 ty vals h9 (by lia) hb2 (by lia) (hE.after e4 (Nat.le_refl _)) hit ?_ λJ2 I2 s2 y1 y2 y3 y3' y4 y5 y6=>?_
 ·rintro(x|⟨n,hn',x⟩)
  ·exact nL x
  ·rw[e4 n hn']at x;refine xE (r.hp.lv n hn') ?_;intro o e;exact af e fs x
 ·rw[Nat.zero_add]at y2;exact post J2 I2 s2 y1 (y2.mono (by lia)) y3 y3' (y4.trans (e4 0 (by decide))) (y5.trans u.gens) (y6.trans u.os)
end
noncomputable def Zc (I acc C:Nat):Nat->Prop:=λa=>a=I\/a=acc\/a=C
noncomputable def zf (C:Nat) (s t:Shared):Prop:=(∀a o,a≠C->s.heap.get? a=some o->t.heap.get? a=some o)/\(∃m,t.heap.Ns C m)/\t.gens=s.gens/\t.os=s.os
noncomputable def j4 (h:Heap) (I:Nat):Prop:=∃c vs,(∃o,h.get? I=some o/\o.cls=.type c/\o.data=.fields vs)/\(["enumerate","zip","dict_itemiterator","dict_reverseitemiterator","odict_iterator","itertools.zip_longest","itertools.pairwise"].contains c)=false
structure pM (G:Gr) (A:Around) (ae:Env) (sc:Scope) (cl:List (Str×Addr)) (target:PExpr) (ifs:List PExpr) (elt:PExpr) (I n:Nat) (P:Nat->Value->Prop) (Acc:(Nat->Prop)->Nat->List Value->Heap->Prop) (s2:Shared) (Q:Value->Shared->Prop):Prop where
 start:∀Z h,(∀a o,s2.heap.get? a=some o->h.get? a=some o)->(∀a,Z a->a=I\/s2.heap.get? a=none)->Acc Z 0 [] h
 stable:∀Z i ys h h',Acc Z i ys h->(∀a o,h.get? a=some o->¬Z a->h'.get? a=some o)->aq h h'->Acc Z i ys h'
 turn:∀acc C i v s' ys m (E':Value->Shared->Prop),i<n->P i v->Acc (Zc I acc C) i ys s'.heap->(∀a o,a≠I->s2.heap.get? a=some o->s'.heap.get? a=some o)->s'.gens=s2.gens->s'.os=s2.os->s'.heap.Ns C m->s2.heap.get? C=none->C≠acc->(∃o,s'.heap.get? acc=some o)->(∃o,s'.heap.get? I=some o)->
  wpAny (model G.prog G.w) A (assign target (compEnvC sc cl C ae) v) (λ_ t2=>wpAny (model G.prog G.w) A (forIn ifs true λc r=>if r=true then do let ok<-isTrue c (compEnvC sc cl C ae) (eval c (compEnvC sc cl C ae));pure (ForInStep.yield ok)else pure (ForInStep.yield r)) (λok t3=>
   if ok=true then wpAny (model G.prog G.w) A (eval elt (compEnvC sc cl C ae)) (λy t4=>zf C s' t4/\Acc (Zc I acc C) (i+1) (ys++[y]) t4.heap) E' t3
   else zf C s' t3/\Acc (Zc I acc C) (i+1) ys t3.heap) E' t2) E' s'
 fin:∀acc C ys s',Acc (Zc I acc C) n ys s'.heap->s2.heap.get? acc=none->jG s'.heap acc ys.toArray->ys.length<=n->(∀a o,a≠I->s2.heap.get? a=some o->s'.heap.get? a=some o)->s'.gens=s2.gens->s'.os=s2.os->Q (.ref acc) s'
section
variable{sc:Scope} {cl:List (Str×Addr)} {target iter elt:PExpr} {ifs:List PExpr} {cpos:Pos} {I n acc C:Nat} {P:Nat->Value->Prop} {Acc:(Nat->Prop)->Nat->List Value->Heap->Prop} {s2:Shared} {Q:Value->Shared->Prop} {fp:List Addr} {St:Nat->Heap->Prop}
theorem nr(W:Walks G.prog G.w A I fp [I] n P St)(hn:n<=100000)(hit:∀i h,St i h->j4 h I)(K:pM G A ae sc cl target ifs elt I n P Acc s2 Q)(hC2:s2.heap.get? C=none)(ha2:s2.heap.get? acc=none)(hCa:C≠acc)(hIC:I≠C)(hIa:I≠acc)(hfC:C∉fp)(hfa:acc∉fp):∀(k i:Nat) (s':Shared) (ys:List Value) (m:Str->Option Value),i+k=n->ys.length<=i->St i s'.heap->s'.heap.get? acc=some (LCg.lst ys)->s'.heap.Ns C m->Acc (Zc I acc C) i ys s'.heap->(∀a o,a≠I->s2.heap.get? a=some o->s'.heap.get? a=some o)->s'.gens=s2.gens->s'.os=s2.os->codeAny (model G.prog G.w) A (.compLoop (.ListComp elt [⟨target,iter,ifs,0⟩] sc cpos) 0 (.ref I) (.ref acc) (compEnvC sc cl C ae)) (compPost (model G.prog G.w) A E none Q (.ref acc) C) s'
 |0=>by
  intro i s' ys m hik hy hst hac hns hA hk hg ho;have hi:i=n:=by assumption
  subst hi;refine gz ?_;refine W.done s' _ _ hst λh' tk kp=>?_;have kp:∀b o,b≠I->s'.heap.get? b=some o->h'.get? b=some o:=λb o hb e=>kp b o (by simpa using hb) e;refine bb (hit _ _ hst) ?_;intro c vs q1' _;obtain⟨oI,eI1,eI2,eI3⟩:=q1';have hnsC:h'.Ns C m:=hns.at' λo e=>kp C o hIC.symm e;refine⟨m,hnsC,λh'' hs''=>?_⟩;have kt1:aq s'.heap h':=λa ob e c d=>kp a ob (by rintro rfl;exact bB ⟨oI,eI1,eI2,eI3⟩ ob e c d) e
  have kt2:aq h' h'':=λa ob e c d=>by
   by_cases q:a=C
   ·subst q;exact(fg hnsC ob e c d).elim
   ·rw[hs''.2 a q];exact e
  have kk:∀a o,a≠I->a≠C->s'.heap.get? a=some o->h''.get? a=some o:=λa o h1 h2 e=>by rw[hs''.2 a h2];exact kp a o h1 e
  refine K.fin acc C ys _ (K.stable _ _ _ _ _ hA (λa o e hz=>kk a o (λq=>hz (.inl q)) (λq=>hz (.inr (.inr q))) e) (kt1.trans kt2)) ha2 ⟨_,kk acc _ hIa.symm hCa.symm hac,rfl,rfl,_,rfl⟩ hy (λa o hne e=>kk a o hne (af e hC2) (hk a o hne e)) hg ho
 |k+1=>by
  intro i s' ys m hik hy hst hac hns hA hk hg ho;refine gz ?_;refine W.item i s' _ _ (by lia) hst λv h' tk hP hst' kp=>?_;have kp:∀b o,b≠I->s'.heap.get? b=some o->h'.get? b=some o:=λb o hb e=>kp b o (by simpa using hb) e;refine bb (hit _ _ hst) ?_;intro c vs q1' _;obtain⟨oI,eI1,eI2,eI3⟩:=q1';refine bb (hit _ _ hst') ?_;intro c' vs' hob hc';have hnsC:h'.Ns C m:=hns.at' λo e=>kp C o hIC.symm e;have kt1:aq s'.heap h':=λa ob e c d=>kp a ob (by rintro rfl;exact bB ⟨oI,eI1,eI2,eI3⟩ ob e c d) e;dsimp only;refine gG (G:=G) (s:={s' with heap:=h',toks:=tk}) hob hc' ?_;have hA1:=K.stable _ _ _ _ h' hA (λa o e hz=>kp a o (λq=>hz (.inl q)) e) kt1;refine wpAny_mono (K.turn acc C i v {s' with heap:=h',toks:=tk} ys m _ (by lia) hP hA1 (λa o hne e=>kp a o hne (hk a o hne e)) hg ho hnsC hC2 hCa ⟨_,kp acc _ hIa.symm hac⟩ (by obtain⟨o,e,_⟩:=hob;exact⟨o,e⟩)) (λ_ t2 h2=>?_) λ_ _ z=>z;refine wpAny_mono h2 (λok t3 h3=>?_) λ_ _ z=>z
  have go:∀(t4:Shared) (ys':List Value),ys'.length<=i+1->(∀a o,a≠C->a≠acc->h'.get? a=some o->t4.heap.get? a=some o)/\(∃m,t4.heap.Ns C m)/\t4.gens=s'.gens/\t4.os=s'.os->t4.heap.get? acc=some (LCg.lst ys')->Acc (Zc I acc C) (i+1) ys' t4.heap->
    codeAny (model G.prog G.w) A (.compLoop (.ListComp elt [⟨target,iter,ifs,0⟩] sc cpos) 0 (.ref I) (.ref acc) (compEnvC sc cl C ae)) (compPost (model G.prog G.w) A E none Q (.ref acc) C) t4:=by
   intro t4 ys' hy' ce hac' hA'
   refine gM ce ?_;clear ce;intro c1 q1' c3 c4;obtain⟨m',c2⟩:=q1'
   refine nr W hn hit K hC2 ha2 hCa hIC hIa hfC hfa k (i+1) t4 ys' m' (by lia) hy' ?_ hac' c2 hA' (λa o hne e=>c1 a o (af e hC2) (af e ha2) (kp a o hne (hk a o hne e))) (c3.trans hg) (c4.trans ho)
   exact W.frame _ _ _ hst' λb hb o e=>c1 b o (λq=>hfC (q▸hb)) (λq=>hfa (q▸hb)) e
  induction ok using Bool.casesOn with
  |false=>rw[if_neg (by decide)]at h3|-;refine xA h3 ?_;clear h3;intro ce hA';exact go t3 ys (by exact Nat.le_succ_of_le ‹_›) ⟨λa o h1 _ e=>ce.1 a o h1 e,ce.2⟩ (ce.1 acc _ hCa.symm (kp acc _ hIa.symm hac)) hA'
  |true=>
   rw[if_pos rfl]at h3|-;refine wpAny_mono h3 (λy t4 h4=>?_) λ_ _ z=>z;refine xA h4 ?_;clear h4;intro ce hA';have hac4:t4.heap.get? acc=some (LCg.lst ys):=ce.1 acc _ hCa.symm (kp acc _ hIa.symm hac);refine append_at (hsz:=by show ys.toArray.size<=sizeLine;rw[List.size_toArray,sizeLine_eq];lia) hac4 λh5 hs5 hD5=>?_
   have kt5:aq t4.heap h5:=λa ob e c d=>by
    by_cases q:a=acc
    ·subst q;rw[hac4]at e;refine aB e ?_;clear e;intro h1;subst h1;injection c with c
     exact absurd c (by decide)
    ·rw[hs5.2 a q];exact e
   refine go {t4 with heap:=h5} (ys++[y]) (by rw[List.length_append,List.length_singleton];exact Nat.lt_succ_of_le ‹_›) ⟨λa o h1 h2 e=>by rw[hs5.2 a h2];exact ce.1 a o h1 e,?_,ce.2.2.1,ce.2.2.2⟩ (hD5.trans (congrArg some (LCg.lst_snoc ys y))) (K.stable _ _ _ _ _ hA' (λa o e hz=>by rw[hs5.2 a (λq=>hz (.inr (.inl q)))];exact e) kt5)
   ·refine xE ce.2.1 ?_;intro m' c2;exact⟨m',c2.at' λo e=>by rw[hs5.2 C hCa];exact e⟩
theorem dQ{s:Shared}(hk:sc.kind=.function)(hnc:aM sc.names sc.names=true)(k1:closureFor sc ae=pure cl)(hs:bG iter=true)(h:wpAny (model G.prog G.w) A (eval iter ae) (λxv s1=>wpAny (model G.prog G.w) A (pyIter xv) (λit s2=>∃I fp n P St Acc,it=.ref I/\Walks G.prog G.w A I fp [I] n P St/\n<=100000/\St 0 s2.heap/\(∀b∈fp,b<s2.heap.objs.size)/\(∀i h,St i h->j4 h I)/\pM G A ae sc cl target ifs elt I n P Acc s2 Q) E s1) E s):wpAny (model G.prog G.w) A (eval (.ListComp elt [⟨target,iter,ifs,0⟩] sc cpos) ae) Q E s:=by
 rw[eval_ListComp];refine wpAny_comprehension_free (g:=⟨target,iter,ifs,0⟩) (gs:=[]) (use:=none) rfl (iG hs) k1 hk (λx hx hl=>(dM hnc x hx).2 hl) (wpAny_mono h (λxv s1 h1=>wpAny_mono h1 (λit s2 h2=>?_) λ_ _ z=>z) λ_ _ z=>z);refine gQ h2 ?_;clear h2;intro I fp n P St Acc q1';subst q1';intro W hn hst hfp hit K;refine wpAny_newObj_type (hd:=by size_fits) ?_;refine wpAny_newFunctionEnv (λx hx=>(dM hnc x hx).1) (by intro y hy;simp at hy) (λh₁ hns₁ hsb₁=>?_) hk;dsimp only at hns₁ hsb₁|-;generalize hH2:s2.heap.push {cls:=.type "list",dict:=none,data:=.seq ([]:List Value).toArray}=H2 at hns₁ hsb₁|-;have hC:H2.objs.size=s2.heap.objs.size+1:=by rw[<-hH2,Heap.size_push]
 have hDC:s2.heap.objs.size≠H2.objs.size:=by rw[hC];exact Nat.ne_of_lt (Nat.lt_succ_self _)
 have fresh:∀a,s2.heap.objs.size<=a->s2.heap.get? a=none:=λa ha=>by
  induction e:s2.heap.get? a using Option.casesOn with
  |none=>rfl
  |some o'=>exact absurd (Heap.lt_size e) (Nat.not_lt.mpr ha)
 have hIf:I∈fp:=W.sub I (List.mem_singleton.mpr rfl);have hIlt:I<s2.heap.objs.size:=hfp I hIf;have old:∀b o,s2.heap.get? b=some o->h₁.get? b=some o:=λb o e=>by have hb:=Heap.lt_size e;rw[hsb₁.2 b (by rw[hC];exact Nat.ne_of_lt (Nat.lt_succ_of_lt hb))];exact Heap.get?_push_of_some _ (hH2▸Heap.get?_push_of_some _ e)
 have hacc:h₁.get? s2.heap.objs.size=some (LCg.lst []):=by rw[hsb₁.2 _ hDC];exact Heap.get?_push_of_some _ (hH2▸Heap.get?_push_size _ rfl)
 have hst₁:St 0 h₁:=W.frame _ _ _ hst λb _ o e=>old b o e
 have hA:Acc (Zc I s2.heap.objs.size H2.objs.size) 0 [] h₁:=K.start _ _ old λa hz=>by
  rcases hz with rfl|rfl|rfl
  ·exact .inl rfl
  ·exact .inr (fresh _ (Nat.le_refl _))
  ·exact .inr (fresh _ (by rw[hC];exact Nat.le_succ _))
 have hst0:∀b∈fp,b≠H2.objs.size/\b≠s2.heap.objs.size:=λb hb=>⟨by rw[hC];exact Nat.ne_of_lt (Nat.lt_succ_of_lt (hfp b hb)),Nat.ne_of_lt (hfp b hb)⟩
 have loop:=nr (E:=E) (iter:=iter) (cpos:=cpos) W hn hit K (C:=H2.objs.size) (acc:=s2.heap.objs.size) (fresh _ (by rw[hC];exact Nat.le_succ _)) (fresh _ (Nat.le_refl _)) hDC.symm (hst0 I hIf).1 (hst0 I hIf).2 (λq=>(hst0 _ q).1 rfl) (λq=>(hst0 _ q).2 rfl)
  n 0 {s2 with heap:=h₁,toks:=s2.toks+([]:List (Str×Value)).length} [] _ (by exact Nat.add_comm _ _) (Nat.le_refl _) hst₁ hacc hns₁ hA (λa o _ e=>old a o e) rfl rfl
 exact codeAny_compStart_list loop (W.self 0 _ _ _ hst₁ loop)
end
noncomputable def PE (G:Gr) (A:Around) (ae:Env) (h:Heap) (e:PExpr) (V:Value->Prop):Prop:=∀(s:Shared) (E:Value->Shared->Prop) (Q:Value->Shared->Prop),s.heap=h->(∀val tk,V val->Q val {s with toks:=tk})->wpAny (model G.prog G.w) A (eval e ae) Q E s
theorem bT{C:Nat}{x:Str}{p:Pos}{m:Str->Option Value}{v:Value}(hk:ae.scope.kind=.function)(hC:ae.locals=C)(hl:ae.kindOf x=some .local)(hn:h.Ns C m)(hm:m x=some v)(nd:(x==("__debug__":Str))=false):PE G A ae h (.Name x p) (·=v):=by intro s E Q e q;subst e;refine wpAny_Name (wpAny_loadName_local hk hl (hC▸hn) hm ?_) nd;exact q v s.toks rfl
theorem kh{Cxt:Cx}(D:Gd G Cxt)(base:∀a o,G.h0.get? a=some o->h.get? a=some o){o:PExpr}{x:Str}{p:Pos}{C d:Nat}{a:Nat}{kvs:List (Str×Value)}{u:Value}(ow:Cxt.own C x=true)(pc:cz o=false)(ho:PE G A ae h o (·=.ref a))(hi:h.get? a=some (instObj C d))(dk:h.DictOf (strKind G.prog G.w) d kvs)(hv:valueAt kvs x=some u)(hu:handedIn u=true):PE G A ae h (.Attribute o x p) (·=u):=by
 intro s E Q e q;subst e;rw[arm_eval_Attribute,lT pc];refine wpAny_bind (ho s _ _ rfl λval tk hval=>?_);subst hval;refine dT (mR dk x) ?_;intro od h1 h2 h3;rw[hv]at h2;have I:InstAt s.heap a (instObj C d) C (some od):=⟨hi,rfl,rfl,h1⟩
 refine gM (D.own C x ow) ?_;intro o1 o2 q1' _;obtain⟨at_,o3,o4⟩:=q1';have kin:G.K.In s.heap:=λb ob e=>base _ _ (D.kin b ob e);refine wpAny_bind (wpAny_standAt (wpAny_bind (wpAny_holding (get_value (s:={s with toks:=tk}) kin I (plainGet_of o1).1 (findObj_own o2 o3 o4 h2) hu ?_))));exact wpAny_bind (wpAny_letTemporaryGo (wpAny_pure (q _ _ rfl)))
theorem hK(pos:Pos):∀{es:List PExpr} {Vs:List (Value->Prop)} {s:Shared} {E:Value->Shared->Prop} {Q:List Value->Shared->Prop},ac (λe V=>eM e=true/\PE G A ae h e V) es Vs->s.heap=h->(∀vals tk,ac (λ(V:Value->Prop) v=>V v) Vs vals->Q vals {s with toks:=tk})->wpAny (model G.prog G.w) A (spliced (backTo pos (starEach es ae))) Q E s
 |[]=>by rename_i w1 s E Q;intro al5;refine ac.nilE al5 ?_;clear al5;intro q';subst q';intro e q;exact wpAny_pure (q [] s.toks .nil)
 |x::es=>by rename_i w1 s E Q;intro al5;refine ac.consE al5 ?_;clear al5;intro y5' ys5' q' ha5 h3;subst q';obtain⟨h1,h2⟩:=ha5;intro e q;rw[iD h1];show wpAny _ _ (spliced ((false,eval x ae)::backTo pos (starEach es ae))) Q E s;refine Calls.spliced_cons (h2 s _ _ e λval tk hv=>?_);refine wpAny_mono (hK pos (s:={s with toks:=tk}) (Q:=λvs s2=>Q (val::vs) s2) h3 e λvals tk' hvs=>?_) (λ_ _ z=>z) (λ_ _ z=>z);exact q (val::vals) tk' (.cons hv hvs)
theorem pV{es:List PExpr}{k:Nat}{pos:Pos}{Vs:List (Value->Prop)}{s:Shared}{E:Value->Shared->Prop}{Q:Value->Shared->Prop}(ev:ac (λe V=>eM e=true/\PE G A ae h e V) es Vs)(e:s.heap=h)(sm:es.length<=1000)(q:∀vals tk,ac (λ(V:Value->Prop) v=>V v) Vs vals->Q (.ref s.heap.objs.size) {s with heap:=s.heap.push {cls:=.type "tuple",data:=.seq vals.toArray},toks:=tk}):wpAny (model G.prog G.w) A (eval (.Tuple es k pos) ae) Q E s:=by refine wpAny_Tuple (hK pos ev e λvals tk hv=>⟨?_,q vals tk hv⟩);rw[<-hv.length,<-ev.length,sizeLine_eq];exact Nat.le_trans ‹_› (by decide)
noncomputable def nw:List Str->List Value->(Str->Option Value)->Str->Option Value
 |x::xs,v::vs,m=>nw xs vs (λy=>if y=x then some v else m y)
 |_,_,m=>m
theorem il{C:Nat}{x:Str}{p:Pos}{m:Str->Option Value}{v:Value}{s:Shared}{E:Value->Shared->Prop}{Q:Unit->Shared->Prop}(hk:ae.scope.kind=.function)(hC:ae.locals=C)(hl:ae.kindOf x=some .local)(hn:s.heap.Ns C m)(q:∀h' tk,h'.Ns C (λy=>if y=x then some v else m y)->(∀a o,a≠C->s.heap.get? a=some o->h'.get? a=some o)->Q () {s with heap:=h',toks:=tk}):wpAny (model G.prog G.w) A (assign (.Name x p) ae v) Q E s:=by subst hC;show wpAny _ _ (do standAt p;bindName ae x v) _ _ _;refine wpAny_bind (wpAny_standAt (wpAny_bindName (wpAny_storeName_local hl hn (λh' hns hsb=>?_) (by rw[hk];rfl))));exact q h' _ hns λa o ha e=>by rw[hsb.2 a ha];exact e
theorem lU{C:Nat}(hk:ae.scope.kind=.function)(hC:ae.locals=C):∀{ts:List PExpr} {xs:List Str} {vals:List Value} {m:Str->Option Value} {s:Shared} {E:Value->Shared->Prop} {Q:Unit->Shared->Prop},cJ ts=some xs->xs.length=vals.length->(∀x∈xs,ae.kindOf x=some .local)->s.heap.Ns C m->(∀h' tk,h'.Ns C (nw xs vals m)->(∀a o,a≠C->s.heap.get? a=some o->h'.get? a=some o)->Q () {s with heap:=h',toks:=tk})->wpAny (model G.prog G.w) A (assignInOrder ((assignEach ts ae).map (·.2)) vals) Q E s
 |[]=>by
  rename_i xs vals m s E Q;intro h1 h2 hl hn q;refine aB h1 ?_;clear h1;intro h1;subst h1;induction vals using List.casesOn with
  |nil=>exact wpAny_pure (q s.heap s.toks hn λ_ _ _ e=>e)
  |cons _ _=>cases h2
 |t::ts=>by
  rename_i xs vals m s E Q;intro h1 h2 hl hn q;refine kJ h1 ?_;intro x pos xs' e0' h3 q1';subst e0';subst q1';induction vals using List.casesOn with
  |nil=>cases h2
  |cons v vals=>show wpAny _ _ (do holding vals (assign (.Name x pos) ae v);assignInOrder ((assignEach ts ae).map (·.2)) vals) _ _ _;refine wpAny_bind (wpAny_holding (il hk hC (hl x List.mem_cons_self) hn λh' tk hn' kp=>?_));refine lU hk hC (s:={s with heap:=h',toks:=tk}) h3 (by simpa using h2) (λy hy=>hl y (List.mem_cons_of_mem _ hy)) hn' λh'' tk' hn'' kp'=>?_;exact q h'' tk' hn'' λa o ha e=>kp' a o ha (kp a o ha e)
theorem wt{C:Nat}{ts:List PExpr}{k:Nat}{p:Pos}{xs:List Str}{a:Addr}{items:Array Value}{m:Str->Option Value}{s:Shared}{E:Value->Shared->Prop}{Q:Unit->Shared->Prop}(hh:A.handled=none)(hk:ae.scope.kind=.function)(hC:ae.locals=C)(h1:cJ ts=some xs)(h2:xs.length=items.size)(hl:∀x∈xs,ae.kindOf x=some .local)(ht:s.heap.IsTuple a items)(hn:s.heap.Ns C m)(q:∀h' tk,h'.Ns C (nw xs items.toList m)->(∀b o,b≠C->s.heap.get? b=some o->h'.get? b=some o)->Q () {s with heap:=h',toks:=tk}):wpAny (model G.prog G.w) A (assign (.Tuple ts k p) ae (.ref a)) Q E s:=by obtain⟨g1,g2⟩:=nF (ae:=ae) h1;refine wpAny_assign_Tuple hh ht (by rw[g1];exact h2) g2 λh' hx=>?_;have up:∀b o,s.heap.get? b=some o->h'.get? b=some o:=λb o e=>hx b o (Nat.ne_of_lt (Heap.lt_size e)) e;refine lU hk hC (s:={s with heap:=h'}) h1 (by rw[h2];exact(Array.length_toList).symm) hl (hn.at' λo e=>up C o e) λh'' tk hn' kp=>?_;exact q h'' tk hn' λb o hb e=>kp b o hb (up b o e)
theorem PE.mono{e:PExpr}{V V':Value->Prop}(x:PE G A ae h e V)(f:∀v,V v->V' v):PE G A ae h e V':=λs E Q e q=>x s E Q e λval tk hv=>q val tk (f val hv)
noncomputable def pO (i:Int) (v:Value):Prop:=∃t,v=.int i t
theorem kX{i:Int}{k:Nat}{p:Pos}:PE G A ae h (.Constant (.int i) k p) (pO i):=by intro s E Q e q;exact wpAny_Constant_int (q _ _ ⟨_,rfl⟩)
theorem uA{x:Str}{p:Pos}{c:Nat}{v:Value}(hk:ae.scope.kind=.function)(ek:ae.kindOf x=some .cell)(hc:ae.cells.lookup x=some c)(hi:h.IsCell c (some v))(nd:(x==("__debug__":Str))=false):PE G A ae h (.Name x p) (·=v):=by intro s E Q e q;subst e;exact wpAny_Name (wpAny_loadName_cell hk ek hc hi (q v s.toks rfl)) nd
theorem mM{Cxt:Cx}(D:Gd G Cxt)(base:∀a o,G.h0.get? a=some o->h.get? a=some o){x:Str}{p:Pos}{v:SV}(hk:ae.scope.kind=.function)(ek:ae.kindOf x=some .globalImplicit)(eg:ae.globals=mainGlobals)(eb:ae.builtins=builtinsNs)(hx:Cxt.gl x=some v)(nd:(x==("__debug__":Str))=false):PE G A ae h (.Name x p) (λval=>∀J nx,VR G J nx v val):=by
 intro s E Q e q;subst e;refine wpAny_Name ?_ nd;refine an (D.gl x v hx) ?_;intro val h1 h2;rw[PyProof.Rows.loadName_read hk ek];have kg:∀a m,G.h0.Ns a m->s.heap.Ns a m:=λa m q=>q.keeps base;rcases h2 with h2|⟨h2,h3⟩
 ·exact Calls.loadGlobal_global (mg:=G.h0.nsMap mainGlobals) (by rw[eg];exact kg _ _ D.g) h2 (q val s.toks h1)
 ·exact Calls.loadGlobal_builtin (mg:=G.h0.nsMap mainGlobals) (mb:=G.h0.nsMap builtinsNs) (by rw[eg];exact kg _ _ D.g) h2 (by rw[eb];exact kg _ _ D.b) h3 (q val s.toks h1)
theorem sH{o:PExpr}{x:Str}{k:Nat}{p p':Pos}{d:Nat}{kvs:List (Str×Value)}{u:Value}(hu:A.units+10<cLine)(ho:PE G A ae h o (·=.ref d))(dk:h.DictOf (strKind G.prog G.w) d kvs)(sm:(d==sysModules)=false)(hv:valueAt kvs x=some u):PE G A ae h (.Subscript o (.Constant (.str x) k p) p') (·=u):=by
 intro s E Q e q;subst e;refine Subscript_ (ho s _ _ rfl λval tk hval=>wpAny_Constant_str ?_);subst hval;have g:bS G s.heap d (.str x tk) (some u):=by have:=bS.of_keyed (G:=G) (knd:=strKind G.prog G.w) (k:=x) (kv:=.str x tk) dk iC sm;rw[hv]at this;exact this
 refine tail_any g.typeIs slot_dict_getitem.lookup (bS.item (s:={s with toks:=tk+1}) g (by exact aU ‹_› (by decide)) λtk'=>?_) (bw rfl _ _);exact q u tk' rfl
theorem sG{o i:PExpr}{p:Pos}{l:Nat}{items:Array Value}{n:Nat}{u:Value}(ns:iL i=true)(ho:PE G A ae h o (·=.ref l))(hl:h.IsList l items)(hi:PE G A ae h i (pO n))(hx:items[n]?=some u)(sm:items.size<=1000000):PE G A ae h (.Subscript o i p) (·=u):=by intro s E Q e q;subst e;refine Subscript_ (ho s _ _ rfl λval tk hval=>?_);subst hval;refine hi {s with toks:=tk} _ _ rfl λval tk' hval=>?_;refine xE hval ?_;clear hval;intro t q1';subst q1';have hlt:n<items.size:=(Array.getElem?_eq_some_iff.mp hx).1;refine tail_any hl.typeIs slot_list_getitem.lookup (wpAny_getItem_list (s:={s with toks:=tk'}) hl (by exact Int.natCast_nonneg _) (by lia) (by rw[Int.toNat_natCast];exact hx) ?_) (bw ns _ _);exact q u tk' rfl
theorem Cc{a b:PExpr}{p:Pos}{i j:Int}(ha:PE G A ae h a (pO i))(hb:PE G A ae h b (pO j)):PE G A ae h (.BinOp a .Add b p) (pO (i+j)):=by intro s E Q e q;subst e;refine wpAny_BinOp (ha s _ _ rfl λv tk hv=>hb {s with toks:=tk} _ _ rfl λu tk' hu=>?_);refine xE hv ?_;clear hv;intro t q1';subst q1';obtain⟨t',rfl⟩:=hu;exact PyProof.Rows.add_int (q _ _ ⟨_,rfl⟩)
theorem B8{a b:PExpr}{p:Pos}{i j:Int}(hj:j≠0)(ha:PE G A ae h a (pO i))(hb:PE G A ae h b (pO j)):PE G A ae h (.BinOp a .Mod b p) (pO (i.fmod j)):=by intro s E Q e q;subst e;refine wpAny_BinOp (ha s _ _ rfl λv tk hv=>hb {s with toks:=tk} _ _ rfl λu tk' hu=>?_);refine xE hv ?_;clear hv;intro t q1';subst q1';obtain⟨t',rfl⟩:=hu;exact mod_int hj (q _ _ ⟨_,rfl⟩)
theorem kM{o:PExpr}{k:Nat}{p p' p'':Pos}{l n:Nat}{items:Array Value}{s:Shared}{E:Value->Shared->Prop}{Q:Value->Shared->Prop}(ho:PE G A ae h o (·=.ref l))(e:s.heap=h)(hl:h.IsList l items)(sm:items.size<=100000)(hn:n<=items.size)(q:∀a h' tk c,(∀b o,h.get? b=some o->h'.get? b=some o)->h.get? a=none->h'.get? a=some {cls:=.type "list",dict:=none,data:=.seq (items.toList.drop n).toArray c,slots:=#[]}->Q (.ref a) {s with heap:=h',toks:=tk}):wpAny (model G.prog G.w) A (eval (.Subscript o (.Slice (some (.Constant (.int (n:Int)) k p)) none none p') p'') ae) Q E s:=by
 subst e;refine Subscript_ (ho s _ _ rfl λval tk hval=>wpAny_Slice ?_);subst hval;refine wpAny_Constant_int (k:=k) (pos:=p) (wpAny_pure (wpAny_pure ?_));have up:∀b o,s.heap.get? b=some o->(s.heap.push {cls:=.type "slice",data:=.fields #[.int (n:Int) tk,.none,.none]}).get? b=some o:=λb o e=>Heap.get?_push_of_some _ e;refine tail_any (hl.push _).typeIs slot_list_getitem.lookup (wpAny_getItem_list_slice (s:={s with heap:=s.heap.push {cls:=.type "slice",data:=.fields #[.int (n:Int) tk,.none,.none]},toks:=tk+1}) (hl.push _) ⟨_,Heap.get?_push_size _ rfl,rfl,rfl⟩ (.int _ _) .none .none (by simp) ?_ (by rw[sizeLine_eq];exact Nat.le_trans ‹_› (by decide))) rfl;have:slicePick items (some (n:Int)) none none=(items.toList.drop n).toArray:=slicePick_from' items _;rw[this];refine q _ _ _ _ (λb o e=>Heap.get?_push_of_some _ (up b o e)) ?_ (Heap.get?_push_size _ rfl);induction c:s.heap.get? (s.heap.push {cls:=.type "slice",data:=.fields #[.int (n:Int) tk,.none,.none]}).objs.size using Option.casesOn with
 |none=>rfl
 |some o=>have:=Heap.lt_size c;rw[Heap.size_push]at this;exact absurd this (Nat.not_lt.mpr (Nat.le_succ _))
theorem sw{o:PExpr}{k:Nat}{p p' p'':Pos}{l n:Nat}{items:Array Value}{s:Shared}{E:Value->Shared->Prop}{Q:Value->Shared->Prop}(ho:PE G A ae h o (·=.ref l))(e:s.heap=h)(hl:h.IsList l items)(sm:items.size<=100000)(q:∀a h' tk c,(∀b o,h.get? b=some o->h'.get? b=some o)->h.get? a=none->h'.get? a=some {cls:=.type "list",dict:=none,data:=.seq (items.toList.take n).toArray c,slots:=#[]}->Q (.ref a) {s with heap:=h',toks:=tk}):wpAny (model G.prog G.w) A (eval (.Subscript o (.Slice none (some (.Constant (.int (n:Int)) k p)) none p') p'') ae) Q E s:=by
 subst e;refine Subscript_ (ho s _ _ rfl λval tk hval=>wpAny_Slice ?_);subst hval;refine wpAny_pure (wpAny_Constant_int (k:=k) (pos:=p) (wpAny_pure ?_));have up:∀b o,s.heap.get? b=some o->(s.heap.push {cls:=.type "slice",data:=.fields #[.none,.int (n:Int) tk,.none]}).get? b=some o:=λb o e=>Heap.get?_push_of_some _ e;refine tail_any (hl.push _).typeIs slot_list_getitem.lookup (wpAny_getItem_list_slice (s:={s with heap:=s.heap.push {cls:=.type "slice",data:=.fields #[.none,.int (n:Int) tk,.none]},toks:=tk+1}) (hl.push _) ⟨_,Heap.get?_push_size _ rfl,rfl,rfl⟩ .none (.int _ _) .none (by simp) ?_ (by rw[sizeLine_eq];exact Nat.le_trans ‹_› (by decide))) rfl;have:slicePick items none (some (n:Int)) none=(items.toList.take n).toArray:=slicePick_upto' items _;rw[this];refine q _ _ _ _ (λb o e=>Heap.get?_push_of_some _ (up b o e)) ?_ (Heap.get?_push_size _ rfl);induction c:s.heap.get? (s.heap.push {cls:=.type "slice",data:=.fields #[.none,.int (n:Int) tk,.none]}).objs.size using Option.casesOn with
 |none=>rfl
 |some o=>have:=Heap.lt_size c;rw[Heap.size_push]at this;exact absurd this (Nat.not_lt.mpr (Nat.le_succ _))
theorem qd{pos:Pos}:∀{es:List PExpr},(∀e∈es,eM e=true)->(backTo pos (starEach es ae)).any (·.1)=false
 |[]=>by intro _;exact rfl
 |e::es=>by intro hs;rw[iD (hs e List.mem_cons_self)];show(false||(backTo pos (starEach es ae)).any (·.1))=false;rw[Bool.false_or];exact qd λx m=>hs x (List.mem_cons_of_mem _ m)
theorem Bu{x:Str}{p cpos:Pos}{a:PExpr}{b:Bi}{V:Value->Prop}{s:Shared}{E:Value->Shared->Prop}{Q:Value->Shared->Prop}(hf:PE G A ae h (.Name x p) (λval=>∀J nx,VR G J nx (.bi b) val))(ns:eM a=true)(ha:PE G A ae h a V)(e:s.heap=h)(q:∀val tk,V val->wpAny (model G.prog G.w) A (call (nz b) [val]) Q E {s with toks:=tk}):wpAny (model G.prog G.w) A (eval (.Call (.Name x p) [a] [] cpos) ae) Q E s:=by
 subst e;have ec:eval (.Call (.Name x p) [a] [] cpos) ae=(do callWith cpos (<-eval (.Name x p) ae) [] (backTo cpos (starEach [a] ae)) (backToKw cpos (keywordEach [] ae))):=rfl;rw[ec];refine wpAny_bind (hf s _ _ rfl λfv tk hv=>?_);have hv:=hv (λ_=>0) 0;have hv:fv=nz b:=hv;subst hv;have a2:=qd (ae:=ae) (pos:=cpos) (es:=[a]) (by intro y hy;rw[List.mem_singleton]at hy;rw[hy];exact ns)
 have a1:=hK (pos:=cpos) (s:={s with toks:=tk}) (E:=E) (Q:=λvals s'=>True/\wpAny (model G.prog G.w) A (call (nz b) ([]++vals)) Q E s') (ac.cons (R:=λe V=>eM e=true/\PE G A ae s.heap e V) ⟨ns,ha⟩ .nil) rfl (λvals tk' hvs=>⟨trivial,by
  refine ap (au hvs) ?_;intro v vs q1';subst q1';intro h1 h2
  have q0':=aD h2;subst q0'
  exact q v tk' h1⟩)
 refine callWith_of (P:=λ_=>True) (by rw[a2];rfl) (λh' _=>?_) (i9 a2 a1);induction b using Bi.casesOn<;>first|exact dy h'|exact ll h'
theorem B'{x:Str}{p cpos:Pos}{a:PExpr}{l:Nat}{items:Array Value}(hf:PE G A ae h (.Name x p) (λval=>∀J nx,VR G J nx (.bi .len) val))(ns:eM a=true)(ha:PE G A ae h a (·=.ref l))(hl:h.IsList l items)(sm:items.size<=100000):PE G A ae h (.Call (.Name x p) [a] [] cpos) (pO items.size):=by intro s E Q e q;refine Bu hf ns ha e λval tk hval=>?_;subst hval e;exact PyProof.Rows.len_list (s:={s with toks:=tk}) hl (by lia) (q _ _ ⟨_,rfl⟩)
theorem w7{x:Str}{p cpos:Pos}{a:PExpr}{i:Int}{s:Shared}{E:Value->Shared->Prop}{Q:Value->Shared->Prop}(hf:PE G A ae h (.Name x p) (λval=>∀J nx,VR G J nx (.bi .range) val))(ns:eM a=true)(ha:PE G A ae h a (pO i))(e:s.heap=h)(q:∀a h' tk t u v,(∀b o,h.get? b=some o->h'.get? b=some o)->h.get? a=none->IsRange h' a 0 i 1 t u v->Q (.ref a) {s with heap:=h',toks:=tk}):wpAny (model G.prog G.w) A (eval (.Call (.Name x p) [a] [] cpos) ae) Q E s:=by refine Bu hf ns ha e λval tk hval=>?_;refine xE hval ?_;clear hval;intro t q1';subst q1';subst e;refine call_range_1 ?_;exact q _ _ _ _ _ _ (λb o e=>Heap.get?_push_of_some _ e) aQ (Heap.get?_push_size _ rfl)
theorem aG.any_a{prog prog':Program}{w w':World}{h:Heap}{ks:List KA}{vs:List Value}(x:aG (bJ (prog:=prog) (w:=w)) h ks vs):aG (bJ (prog:=prog') (w:=w')) h ks vs:=by
 induction x with
 |nil=>exact .nil
 |cons a _ ih=>exact .cons a ih
theorem cI.any_a{prog prog':Program}{w w':World}{h:Heap}{ks:List KA}{a:Addr}(x:cI (bJ (prog:=prog) (w:=w)) h ks a):cI (bJ (prog:=prog') (w:=w')) h ks a:=by refine fE x ?_;clear x;intro o items n a1 a2 a3 i;exact⟨o,items,n,a1,a2,a3,i.any_a⟩
theorem KI.isR_any{prog prog':Program}{w w':World}{h:Heap}{k:KI}{v:Value}(x:KI.isR prog w h k v):KI.isR prog' w' h k v:=by
 induction k using KI.casesOn with
 |a k=>exact x
 |t ks=>obtain⟨a,e,i⟩:=x;exact⟨a,e,i.any_a⟩
theorem aG.any_i{prog prog':Program}{w w':World}{h:Heap}{ks:KD}{vs:List Value}(x:aG (ak prog w) h ks vs):aG (ak prog' w') h ks vs:=by
 induction x with
 |nil=>exact .nil
 |cons a _ ih=>exact .cons (KI.isR_any a) ih
theorem cI.any_i{prog prog':Program}{w w':World}{h:Heap}{ks:KD}{a:Addr}(x:cI (ak prog w) h ks a):cI (ak prog' w') h ks a:=by refine fE x ?_;clear x;intro o items n a1 a2 a3 i;exact⟨o,items,n,a1,a2,a3,i.any_i⟩
open PySem.SeqAt in
theorem lJ{prog:Program}{w:World}{A:Around}{s:Shared}{kd:KD}{a b:Addr}(hu:A.units+10<cLine)(x:cI (ak prog w) s.heap kd a)(y:cI (ak prog w) s.heap kd b):EqAt A s (.ref a) (.ref b) true:=by intro prog' w' E Q q;refine jb (ik:=ak prog' w') (by show A.units+((ak prog' w').r+1)<cLine;have:(ak prog' w').r=1:=rfl;lia) x.any_i y.any_i ?_;rw[decide_eq_true rfl];exact q
open PySem.SeqAt in
theorem np{A:Around}{s:Shared}{k:KA}{u v:Value}(hu:A.units+10<cLine)(x:KA.isB k u=true)(y:KA.isB k v=true):EqAt A s u v true:=by intro prog' w' E Q q;refine(bJ (prog:=prog') (w:=w')).eqBool (x:=k) (y:=k) (by show A.units+0<cLine;exact Nat.lt_of_le_of_lt (Nat.le_add_right _ _) ‹_›) x y ?_;rw[decide_eq_true rfl];exact q
theorem ac.get{α β:Type}{R:α->β->Prop}{x:List α}{y:List β}(h:ac R x y){i:Nat}(hi:i<y.length):∃a,x[i]?=some a/\R a y[i]:=by
 rcases h.at (i:=i)with⟨a,b,e1,e2,r⟩|⟨_,e2⟩
 ·rw[List.getElem?_eq_getElem hi]at e2;refine aB e2 ?_;clear e2;intro h1;subst h1;exact⟨a,e1,r⟩
 ·rw[List.getElem?_eq_getElem hi]at e2;exact rT e2
theorem in1_units(A:Around):A.in1.units=A.units+1:=rfl
section
variable{l b:Addr} {items items2:Array Value} {Q:Value->Shared->Prop}
open PySem.SeqAt in
theorem ig{K:Type}{R1 R2:K->Value->Prop}{W:List K}(x:ac R1 W items.toList)(y:ac R2 W items2.toList)(r:∀k u v,R1 k u->R2 k v->EqAt A s u v true):items.size=items2.size/\∀j (h1:j<items.size) (h2:j<items2.size),EqAt A s items[j] items2[j] true:=by
 refine⟨?_,λj h1 h2=>?_⟩
 ·have e1:items.toList.length=items2.toList.length:=x.length.symm.trans y.length;rw[Array.length_toList,Array.length_toList]at e1;exact e1
 ·obtain⟨k,e1,r1⟩:=x.get (i:=j) (by rw[Array.length_toList];exact h1);obtain⟨k',e2,r2⟩:=y.get (i:=j) (by rw[Array.length_toList];exact h2);rw[e1]at e2;refine aB e2 ?_;clear e2;intro h1;subst h1;rw[Array.getElem_toList]at r1 r2;exact r k _ _ r1 r2
theorem lX(n:Nat):(List.range n).all (λ_=>true)=true:=by rw[List.all_eq_true];intro _ _;rfl
open PySem.SeqAt in
theorem iO{K:Type}{R1 R2:K->Value->Prop}{W:List K}(hu:A.units+30<cLine)(hl:s.heap.IsList l items)(hb:s.heap.IsList b items2)(x:ac R1 W items.toList)(y:ac R2 W items2.toList)(r:∀k u v,R1 k u->R2 k v->EqAt A.in1 s u v true)(q:Q (.bool false) s):wpAny (model G.prog G.w) A (compareOp .NotEq (.ref l) (.ref b)) Q E s:=by refine xA (ig x y r) ?_;intro h1 h2;refine RcNeAt.lists (e:=λ_=>true) hl hb h1 (by exact Nat.lt_of_le_of_lt (Nat.le_add_right _ _) ‹_›) h2 _ _ _ _ ?_;rw[lX];exact q
open PySem.SeqAt in
theorem rB{K:Type}{R1 R2:K->Value->Prop}{W:List K}(hu:A.units+30<cLine)(hl:s.heap.IsList l items)(hb:s.heap.IsList b items2)(x:ac R1 W items.toList)(y:ac R2 W items2.toList)(r:∀k u v,R1 k u->R2 k v->EqAt A.in1 s u v true)(q:Q (.bool true) s):wpAny (model G.prog G.w) A (compareOp .Eq (.ref l) (.ref b)) Q E s:=by obtain⟨h1,h2⟩:=ig x y r;refine RcAt.lists (e:=λ_=>true) hl hb h1 (by exact Nat.lt_of_le_of_lt (Nat.le_add_right _ _) ‹_›) h2 _ _ _ _ ?_;rw[lX];exact q
end
theorem uM{prog:Program}{w:World}{h:Heap}{N:Nat->Prop}:∀{es:List El} {vs:List Value} {kd:KD},(∀e∈es,e=.it)->bC prog w h N es vs kd->aG (ak prog w) h kd vs
 |_,_,_,_,.nil=>.nil
 |_,_,_,hh,.cons a b=>by have:=hh _ List.mem_cons_self;subst this;exact .cons a (uM (λe m=>hh e (List.mem_cons_of_mem _ m)) b)
theorem wL{prog:Program}{w:World}{h:Heap}{N:Nat->Prop}{es:List El}{kd:KD}{v:Value}(hh:∀e∈es,e=.it)(x:bg prog w h N (.tup es) kd v):∃a,v=.ref a/\cI (ak prog w) h kd a:=by refine dh x ?_;clear x;intro a o items n e e1 e2 e3 i;exact⟨a,e,o,items,n,e1,e2,e3,uM hh i⟩
theorem nK{prog:Program}{w:World}{h:Heap}{N:Nat->Prop}{kd:KD}{v:Value}(x:bg prog w h N BQ kd v):∃a,v=.ref a/\cI (ak prog w) h kd a:=wL (by intro e m;simp at m;exact m) x
theorem zt{prog:Program}{w:World}{h:Heap}{N:Nat->Prop}{kd:KD}{v:Value}(x:bg prog w h N E2 kd v):∃a,v=.ref a/\cI (ak prog w) h kd a:=wL (by intro e m;simp at m;exact m) x
noncomputable def Up (h h':Heap):Prop:=∀a o,h.get? a=some o->h'.get? a=some o
theorem Up.tup{h h':Heap}(u:Up h h'):aq h h':=λa o e _ _=>u a o e
theorem Up.trans{h h' h'':Heap}(u:Up h h')(v:Up h' h''):Up h h'':=λa o e=>v a o (u a o e)
theorem bC.up{prog:Program}{w:World}{h h':Heap}{N:Nat->Prop}{e:List El}{v:List Value}{k:KD}(u:Up h h')(x:bC prog w h N e v k):bC prog w h' N e v k:=x.keep2 u.tup λa o e _ _=>u a o e
theorem bg.up{prog:Program}{w:World}{h h':Heap}{N:Nat->Prop}{e:Sh}{v:Value}{k:KD}(u:Up h h')(x:bg prog w h N e k v):bg prog w h' N e k v:=x.keep2 u.tup λa o e _ _=>u a o e
theorem bC.len{prog:Program}{w:World}{h:Heap}{N:Nat->Prop}{e:List El}{v:List Value}{k:KD}(x:bC prog w h N e v k):e.length=v.length:=by
 induction x with
 |nil=>rfl
 |cons _ _ ih=>rw[List.length_cons,List.length_cons,ih]
theorem ac.snoc{α β:Type}{R:α->β->Prop}{x:List α}{y:List β}{i:Nat}{a:α}{b:β}(h:ac R (x.take i) y)(e:x[i]?=some a)(r:R a b):ac R (x.take (i+1)) (y++[b]):=by rw[List.take_add_one,e];exact h.app (.cons r .nil)
theorem aL{sc:Scope}{cl:List (Str×Addr)}{C:Nat}{ae:Env}{x:Str}(h:sc.names.lookup x=some .local):(compEnvC sc cl C ae).kindOf x=some .local:=lookup_relabel_local h
theorem li{h:Heap}{I ax i:Nat}(x:h.IsListIter I ax i):j4 h I:=by refine dT x ?_;clear x;intro o e1 e2 e3;exact⟨"list_iterator",_,⟨o,e1,e2,e3⟩,by decide⟩
section
variable{sc:Scope} {cl:List (Str×Addr)} {ts eltEs:List PExpr} {kt ke:Nat} {pt pe:Pos} {els:List El} {xs:List Str} {s1:Shared} {ax:Nat} {its:Array Value} {W:List KD} {Q:Value->Shared->Prop}
theorem mJ(hh:A.handled=none)(hk:sc.kind=.function)(ht:cJ ts=some xs)(hl:∀x∈xs,sc.names.lookup x=some .local)(hx:xs.length=els.length)(he:eltEs.length<=1000)(hL:s1.heap.IsList ax its)(sm:its.size<=100000)(hW:ac (bg G.prog G.w s1.heap (λ_=>False) (.tup els)) W its.toList)(hturn:∀C h m items kd,Up s1.heap h->bC G.prog G.w h (λ_=>False) els items kd->h.Ns C (nw xs items m)->∃Vs,ac (λe V=>eM e=true/\PE G A (compEnvC sc cl C ae) h e V) eltEs Vs/\∀vals h',aq h h'->ac (λ(V:Value->Prop) v=>V v) Vs vals->aG (ak G.prog G.w) h' kd vals)(q:∀acc s' ys,ac (λkd y=>∃a,y=.ref a/\cI (ak G.prog G.w) s'.heap kd a) W ys->jG s'.heap acc ys.toArray->s1.heap.get? acc=none->Up s1.heap s'.heap->s'.gens=s1.gens->s'.os=s1.os->Q (.ref acc) s'):wpAny (model G.prog G.w) A (pyIter (.ref ax)) (λit s2=>∃I fp n P St Acc,it=.ref I/\Walks G.prog G.w A I fp [I] n P St/\n<=100000/\St 0 s2.heap/\(∀b∈fp,b<s2.heap.objs.size)/\(∀i h,St i h->j4 h I)/\pM G A ae sc cl (.Tuple ts kt pt) [] (.Tuple eltEs ke pe) I n P Acc s2 Q) E s1:=by
 have hlt:ax<s1.heap.objs.size:=by obtain⟨_,e,_⟩:=hL;exact Heap.lt_size e
 refine wpAny_pyIter_list hL ?_;have up:Up s1.heap (s1.heap.push {cls:=.type "list_iterator",data:=.fields #[.ref ax,.int 0 0]}):=λb o e=>Heap.get?_push_of_some _ e;have fI:s1.heap.get? s1.heap.objs.size=none:=aQ;have nI:∀{a:Nat} {o:Obj},s1.heap.get? a=some o->a≠s1.heap.objs.size:=λe=>af e fI
 refine⟨s1.heap.objs.size,[s1.heap.objs.size,ax],its.size,λi v=>its[i]?=some v,λi h=>h.IsListIter s1.heap.objs.size ax i/\h.IsList ax its,λ_ i ys h=>ac (λkd y=>∃a,y=.ref a/\cI (ak G.prog G.w) h kd a) (W.take i) ys,rfl,
  Walks.list hh _ ax (Nat.ne_of_lt hlt) its,sm,⟨⟨_,Heap.get?_push_size _ rfl,rfl,rfl⟩,hL.push _⟩,?_,λi h x=>li x.1,?_⟩
 ·intro b hb;show b<(s1.heap.push _).objs.size;rw[Heap.size_push];rcases List.mem_cons.mp hb with rfl|hb
  ·exact Nat.lt_succ_self _
  ·rw[List.mem_singleton.mp hb];exact Nat.lt_succ_of_lt hlt
 ·exact{
   start:=λZ h _ _=>by show ac _ (W.take 0) [];rw[List.take_zero];exact .nil
   stable:=λZ i ys h h' x _ kt=>x.mono λkd y ⟨a,e,t⟩=>⟨a,e,t.keeps_i _ _ kt⟩
   turn:=by
    intro acc C i v s' ys m E' hi hP hA hk' hg ho hns hC2 hCa _ _
    have u1:Up s1.heap s'.heap:=λa o e=>hk' a o (nI e) (up a o e)
    have fC:s1.heap.get? C=none:=by
     induction c:s1.heap.get? C using Option.casesOn with
     |none=>rfl
     |some o=>have:=up _ _ c;rw[hC2]at this;exact aa this
    rcases hW.at (i:=i)with⟨kd,v',e1,e2,r⟩|⟨_,e2⟩
    rotate_left
    ·rw[Array.getElem?_toList,hP]at e2;exact rT e2
    rw[Array.getElem?_toList,hP]at e2
    refine aB e2 ?_;clear e2;intro h1;subst h1
    refine dh (r.up u1) ?_;intro a o items n q1';subst q1';intro g1 g2 g3 el
    refine wt (C:=C) (m:=m) hh hk rfl ht (by rw[hx,el.len,Array.length_toList]) (λx hx'=>aL (hl x hx')) ⟨o,g1,g2,n,g3⟩ hns λh' tk hn' kp=>?_
    rw[List.forIn_nil]
    refine wpAny_pure ?_
    rw[if_pos rfl]
    have u2:Up s1.heap h':=λa o e=>kp a o (af e fC) (u1 a o e)
    have kt2:aq s'.heap h':=λa ob e c d=>by
     by_cases q:a=C
     ·subst q;exact(fg hns ob e c d).elim
     ·exact kp a ob q e
    have kn2:∀a ob,s'.heap.get? a=some ob->¬(λb=>b=C) a->Kd ob->h'.get? a=some ob:=λa ob e hn _=>kp a ob hn e
    refine dh r ?_;clear r;intro a0 o0 items0 n0 e0 g10 g20 g30 el0
    cases e0
    have eo:o0=o:=by have:=u1 _ _ g10;rw[g1]at this;refine aB this ?_;clear this;intro h1;subst h1;rfl
    subst eo
    rw[g3]at g30
    cases g30
    refine an (hturn C h' m items.toList kd u2 (el0.up u2) hn') ?_;intro Vs ev fin
    refine pV (s:={s' with heap:=h',toks:=tk}) ev rfl he λvals tk' hv=>?_
    have up3:Up h' (h'.push {cls:=.type "tuple",data:=.seq vals.toArray}):=λb o e=>Heap.get?_push_of_some _ e
    refine⟨⟨λb o hb e=>up3 b o (kp b o hb e),⟨_,hn'.at' λo e=>up3 C o e⟩,rfl,rfl⟩,?_⟩
    have hA':ac (λkd y=>∃a,y=.ref a/\cI (ak G.prog G.w) (h'.push {cls:=.type "tuple",data:=.seq vals.toArray}) kd a) (W.take i) ys:=hA.mono λkd y ⟨a,e,t⟩=>⟨a,e,t.keeps_i _ _ (kt2.trans up3.tup)⟩
    refine hA'.snoc e1 ⟨_,rfl,_,vals.toArray,_,Heap.get?_push_size _ rfl,rfl,rfl,?_⟩
    exact fin vals _ up3.tup hv
   fin:=by
    intro acc C ys s' hA ha2 hac hy hk' hg ho
    have e:W.take its.size=W:=by
     apply List.take_of_length_le
     have:=hW.length
     rw[Array.length_toList]at this
     exact Nat.le_of_eq this
    rw[e]at hA
    have ha1:s1.heap.get? acc=none:=by
     induction c:s1.heap.get? acc using Option.casesOn with
     |none=>rfl
     |some o=>have:=up _ _ c;rw[ha2]at this;exact aa this
    exact q acc s' ys hA hac ha1 (λa o e=>hk' a o (nI e) (up a o e)) hg ho}
end
noncomputable def De (e:PExpr):List PExpr:=(ev e).es
noncomputable def l6 (e:PExpr):PExpr:=eX 0 e
noncomputable def rX (e:PExpr):PExpr:=eX 1 e
noncomputable def cN (e:PExpr):PExpr:=eX 0 e
noncomputable def gq (e:PExpr):PExpr:=eX 1 e
noncomputable def bH (e:PExpr):PExpr:=eX 2 e
noncomputable def iV (e:PExpr):List PExpr:=(ev e).es.drop 3
noncomputable def aJ (e:PExpr):Scope:=(ev e).sc
noncomputable def kb (e:PExpr):List PExpr:=(ev e).es
noncomputable def Dv (e:PExpr):Nat:=(ev e).k
noncomputable def Df (e:PExpr):PExpr:=eX 0 e
noncomputable def bn (e:PExpr):Pos:=(ev e).p
noncomputable def D7 (s:Stmt):List Stmt:=bX 0 s
noncomputable def ifEl (s:Stmt):List Stmt:=bX 1 s
noncomputable def D6 (s:Stmt):Pos:=(sv s).p
noncomputable def jq:Str:=⟨⟨[109,105,100]⟩⟩
noncomputable def fh:Str:=⟨⟨[110,111,100,101]⟩⟩
noncomputable def bu:Str:=⟨⟨[116,105,100]⟩⟩
noncomputable def lH:Str:=⟨⟨[102,97,99,101]⟩⟩
noncomputable def lb:Str:=⟨⟨[110,97,109,101]⟩⟩
noncomputable def A6:Stmt:=cY (dB er) 12
noncomputable def A5:Stmt:=cY (dB er) 13
noncomputable def BS:Stmt:=cY (dB er) 14
noncomputable def EX:PExpr:=Ff A6
noncomputable def EW:PExpr:=Ff A5
noncomputable def AS:PExpr:=nE (De EX) 0
noncomputable def Bv:PExpr:=nE (De EX) 1
noncomputable def AR:PExpr:=nE (De EW) 0
noncomputable def Ew:PExpr:=nE (De EW) 1
noncomputable def j7:PExpr:=l6 AS
noncomputable def iW:PExpr:=l6 AR
theorem BV:A6=.If (.BoolOp .Or [.Compare j7 [.NotEq] [rX AS] (bn AS),.Compare (l6 Bv) [.NotEq] [rX Bv] (bn Bv)] (bn EX)) (D7 A6) [] (D6 A6):=by kernel_rfl!
theorem BU:A5=.If (.BoolOp .Or [.Compare iW [.NotEq] [rX AR] (bn AR),.Compare (l6 Ew) [.NotEq] [.List [] (bn (rX Ew))] (bn Ew)] (bn EW)) (D7 A5) [] (D6 A5):=by kernel_rfl!
theorem Cr:j7=.ListComp (.Tuple [.Name jq (bn (nE (kb (cN j7)) 0)),.Attribute (.Name fh (bn (Df (nE (kb (cN j7)) 1)))) cu (bn (nE (kb (cN j7)) 1)),.Name bu (bn (nE (kb (cN j7)) 2))] (Dv (cN j7)) (bn (cN j7)))
 [⟨.Tuple [.Name jq (bn (nE (kb (gq j7)) 0)),.Name fh (bn (nE (kb (gq j7)) 1)),.Name bu (bn (nE (kb (gq j7)) 2))] (Dv (gq j7)) (bn (gq j7)),bH j7,[],0⟩] (aJ j7) (bn j7):=by kernel_rfl!
theorem Cq:iW=.ListComp (.Tuple [.Name bu (bn (nE (kb (cN iW)) 0)),.Name jq (bn (nE (kb (cN iW)) 1)),.Name lH (bn (nE (kb (cN iW)) 2)),.Name lb (bn (nE (kb (cN iW)) 3)),.Attribute (.Name fh (bn (Df (nE (kb (cN iW)) 4)))) cu (bn (nE (kb (cN iW)) 4))] (Dv (cN iW)) (bn (cN iW)))
 [⟨.Tuple [.Name bu (bn (nE (kb (gq iW)) 0)),.Name jq (bn (nE (kb (gq iW)) 1)),.Name lH (bn (nE (kb (gq iW)) 2)),.Name lb (bn (nE (kb (gq iW)) 3)),.Name fh (bn (nE (kb (gq iW)) 4))] (Dv (gq iW)) (bn (gq iW)),bH iW,[],0⟩] (aJ iW) (bn iW):=by kernel_rfl!
noncomputable def Ak (s:Scope):Bool:=match s.kind with
 |.function=>true
 |_=>false
theorem tr{P:Prop}{x1:PySem.ScopeKind}{f0:Bool}(h:(match x1 with|PySem.ScopeKind.function=>f0|a1=>false)=true)(k0:x1=PySem.ScopeKind.function->f0=true->P):P:=by
 obtain⟨z1,e1⟩:∃z,x1=z:=⟨_,rfl⟩
 rw[e1]at h;induction z1 using PySem.ScopeKind.casesOn with
 |function=>exact k0 e1 h
 |_=>exact ai h
noncomputable def iI (s:Scope) (x:Str):Bool:=match s.names.lookup x with
 |some .local=>true
 |_=>false
theorem oz{P:Prop}{x1:Option PySem.NameKind}{f0:Bool}(h:(match x1 with|Option.some PySem.NameKind.local=>f0|a1=>false)=true)(k0:x1=Option.some PySem.NameKind.local->f0=true->P):P:=by
 obtain⟨z1,e1⟩:∃z,x1=z:=⟨_,rfl⟩
 rw[e1]at h;induction z1 using Option.casesOn with
 |some y1'0=>
  induction y1'0 using PySem.NameKind.casesOn with
  |«local»=>exact k0 e1 h
  |_=>exact ai h
 |_=>exact ai h
noncomputable def fN (s:Scope):Bool:=match bW s.names [((⟨⟨[119]⟩⟩:Str),0)] []with
 |some []=>true
 |_=>false
theorem lq{P:Prop}{x1:Option (List (PySem.Str×Nat))}{f0:Bool}(h:(match x1 with|Option.some []=>f0|a1=>false)=true)(k0:x1=Option.some []->f0=true->P):P:=by
 obtain⟨z1,e1⟩:∃z,x1=z:=⟨_,rfl⟩
 rw[e1]at h;induction z1 using Option.casesOn with
 |some y1'0=>
  induction y1'0 using List.casesOn with
  |nil=>exact k0 e1 h
  |_=>exact ai h
 |_=>exact ai h
theorem wR:(Ak (aJ j7)&&(aM (aJ j7).names (aJ j7).names&&(fN (aJ j7)&&([jq,fh,bu].all (iI (aJ j7))&&(Ak (aJ iW)&&(aM (aJ iW).names (aJ iW).names&&(fN (aJ iW)&&[bu,jq,lH,lb,fh].all (iI (aJ iW)))))))))=true:=by kernel_rfl!
theorem eP{s:Scope}(h:Ak s=true):s.kind=.function:=by unfold Ak at h;refine tr h ?_;clear h;intro _ h;assumption
theorem az{s:Scope}{x:Str}(h:iI s x=true):s.names.lookup x=some .local:=by unfold iI at h;refine oz h ?_;clear h;intro _ h;assumption
theorem fy{ae:Env}{J:Nat->Nat}{nx L:Nat}(hE:ag ae cf J nx L){sc:Scope}(h:fN sc=true):∃cl,closureFor sc ae=pure cl/\cl=[]:=by unfold fN at h;refine lq h ?_;clear h;intro e h;obtain⟨cl,a,b⟩:=fX (S:=⟨nx,.nil,[]⟩) hE (sc:=sc) (cs:=[]) e;exact⟨cl,a,aK b⟩
noncomputable def Bp (e:PExpr):Option (SV×St):=(rW (Xc {}) 100 9).ex cf e fG
noncomputable def fQ (r:Option (SV×St)) (n:Nat):Bool:=match r with
 |some (.ref m,S)=>Nat.beq m n&&(Nat.ble 66 S.next&&((CQ.hpB S fG 66)&&(CQ.locB S fG&&(lg S&&((fq.all λx=>nilE (bh S x.2))&&(rV S 16 1&&(rV S 36 2&&rV S 37 3)))))))
 |_=>false
theorem mi{P:Prop}{x1:Option (Mine.SV×Mine.St)}{f0:(Nat)->(Mine.St)->Bool}(h:(match x1 with|Option.some (Mine.SV.ref a1,a2)=>f0 a1 a2|a1=>false)=true)(k0:∀a1 a2,x1=Option.some (Mine.SV.ref a1,a2)->f0 a1 a2=true->P):P:=by
 obtain⟨z1,e1⟩:∃z,x1=z:=⟨_,rfl⟩
 rw[e1]at h;induction z1 using Option.casesOn with
 |some y1'0=>
  induction y1'0 using Prod.casesOn with
  |mk y2'0 y2'1=>
   induction y2'0 using SV.casesOn with
   |ref y3'0=>exact k0 _ _ e1 h
   |_=>exact ai h
 |_=>exact ai h
theorem zN:(fQ (Bp (bH j7)) 32&&(fQ (Bp (rX AS)) 4&&(fQ (Bp (l6 Bv)) 29&&(fQ (Bp (rX Bv)) 5&&(fQ (Bp (bH iW)) 34&&(fQ (Bp (rX AR)) 10&&fQ (Bp (l6 Ew)) 33))))))=true:=by decide+kernel
noncomputable def Bc (n o:Nat):Bool:=match fG.hp.get n with
 |some (.lst o' [])=>Nat.beq o' o
 |some (.tab o' _ [])=>Nat.beq o' o
 |_=>false
theorem oO{P:Prop}{x1:Option Mine.SO}{f0:(Nat)->Bool}{f1:(Nat)->(List (Mine.SV×Mine.SV))->Bool}(h:(match x1 with|Option.some (Mine.SO.lst a1 [])=>f0 a1|Option.some (Mine.SO.tab a1 a2 [])=>f1 a1 a2|a1=>false)=true)(k0:∀a1,x1=Option.some (Mine.SO.lst a1 [])->f0 a1=true->P)(k1:∀a1 a2,x1=Option.some (Mine.SO.tab a1 a2 [])->f1 a1 a2=true->P):P:=by
 obtain⟨z1,e1⟩:∃z,x1=z:=⟨_,rfl⟩
 rw[e1]at h;induction z1 using Option.casesOn with
 |some y1'0=>
  induction y1'0 using SO.casesOn with
  |lst y2'0 y2'1=>
   induction y2'1 using List.casesOn with
   |nil=>exact k0 _ e1 h
   |_=>exact ai h
  |tab y2'0 y2'1 y2'2=>
   induction y2'2 using List.casesOn with
   |nil=>exact k1 _ _ e1 h
   |_=>exact ai h
  |_=>exact ai h
 |_=>exact ai h
theorem xw:(fq.all λx=>Bc x.2 x.1)=true:=by decide+kernel
structure En (w:World) (h0:Heap) (L:Nat) (I:IP) (W T F O:List KD) (J:Nat->Nat) (s:Shared):Prop where
 sr:SR (GG I w h0 s.heap) J fG s L
 ct:Ct (GG I w h0 s.heap) J s.heap L W T F O
 ok:I.Ok
section
variable{W T F O:List KD} {Q:Value->Shared->Prop}
theorem Ct.heap{h h':Heap}(C:Ct (GG I w h0 h) J h L W T F O)(ext:∀n,n<66->J' n=J n)(kt:aq h h')(kn:∀a o,h.get? a=some o->¬Nm J L a->Kd o->h'.get? a=some o):Ct (GG I w h0 h') J' h' L W T F O:=by have old:∀{e:Sh} {K:List KD} {vs:List Value},ac (bg pw w h (Nm J L) e) K vs->ac (bg pw w h' (Nm J' L) e) K vs:=λa=>a.mono λ_ _ q=>(q.keep2 kt kn).names λa h=>(Nm.ext ext a).mp h;refine bb C.m ?_;intro m0 ms e m;exact⟨old C.w,old C.d,old C.t,old C.y,old C.f,old C.e,old C.o,⟨m0,ms,e,old m⟩,old C.p0,old C.p1,old C.p2⟩
theorem En.up(x:En w h0 L I W T F O J s)(u:Up s.heap s'.heap):En w h0 L I W T F O J s' where
 sr:=by
  have g:=(x.sr.grow (X:=XL L) (h':=s'.heap) (tk:=s'.toks) u).1
  exact SR.at1 (s:=s') ⟨⟨g.hp.obj,g.hp.lv,g.hp.inj,g.hp.off,g.hp.base,g.hp.tk⟩,⟨g.lc.ns,g.lc.off,g.lc.ne⟩⟩ (.refl _)
 ct:=x.ct.heap (λ_ _=>rfl) u.tup λa o e _ _=>u a o e
 ok:=x.ok
theorem En.fresh(x:En w h0 L I W T F O J s){a:Nat}(h:s.heap.get? a=none):¬Nm J L a:=by
 rintro(e|⟨n,hn,e⟩)
 ·obtain⟨⟨m,⟨o,_,_,e2,_⟩,_⟩,_,_⟩:=x.sr.lc;exact af e2 h e.symm
 ·refine xE (x.sr.hp.lv n hn) ?_;intro o e2;exact af e2 h e
theorem En.list(x:En w h0 L I W T F O J s){n o:Nat}(e:bF fq o=some n):∃items,jG s.heap (J n) items/\items.size<=200000/\items.toList=I.ol o:=by
 have lt:=(fo _ (aP e)).2;have h:=List.all_eq_true.mp xw _ (aP e);unfold Bc at h;refine oO h ?_ ?_<;>clear h
 ·intro o' e2 h;have:=Nat.eq_of_beq_eq_true h;subst this;refine ap (x.sr.hp.obj n _ lt e2) ?_;intro items ys q1' c al;obtain⟨z1,z2⟩:=q1';rw[aK al,List.append_nil]at c;exact⟨items,z1,z2,c⟩
 ·intro o' fs e2 h;have:=Nat.eq_of_beq_eq_true h;subst this;refine gd (x.sr.hp.obj n _ lt e2) ?_;intro items ys q1' c al _;obtain⟨z1,z2⟩:=q1';rw[aK al,List.append_nil]at c;exact⟨items,z1,z2,c.1⟩
theorem fK(B:cQ w h0)(hA:Rm 9 A)(hE:ag ae cf J 66 L)(x:En w h0 L I W T F O J s){vals:List Int}(hv:ac cW vals (I.ol 1)){e:PExpr}{n:Nat}(b:fQ (Bp e) n=true)(q:∀J' s',En w h0 L I W T F O J' s'->(∀m,m<66->J' m=J m)->aq s.heap s'.heap->(∀a o,s.heap.get? a=some o->¬Nm J L a->s'.heap.get? a=some o)->s'.gens=s.gens->s'.os=s.os->Q (.ref (J' n)) s'):wpAny (model pw w) A (eval e ae) Q E s:=by
 have Ol:=lf (q:={}) (h1:=s.heap) B x.ok bx (pC (G:=GG I w h0 s.heap) hv);unfold fQ at b;refine mi b ?_;clear b;intro m S e1 b;simp only[Bool.and_eq_true]at b;refine mA b ?_;clear b;intro b1 b2 b3 b4 b5 b6 b7 b8 b9;have b1:=Nat.eq_of_beq_eq_true b1;subst b1;have b2:=Nat.le_of_ble_eq_true b2;refine Ol.ex (show(rW (Xc {}) 100 9).ex cf e fG=some (.ref m,S)from e1) hA hE x.sr λJ' val s' t r v=>?_;refine xA v ?_;clear v;intro hm q1';subst q1';have ext:∀n,n<66->J' n=J n:=λn hn=>t.ext n hn;have tbl:=tX 0 0;simp only[Bool.and_eq_true]at tbl;refine gM tbl ?_;clear tbl;intro _ _ tX1 tX2;have r2:SR (GG I w h0 s'.heap) J' fG s' L:=by
  refine nq (c:=CQ) (yK I) b3 b4 tX1 tX2 rfl (λm n _ _ e=>e) x.ok.l0 x.ok.l0 ?_ ?_ ?_ ?_ (.refl _) r
  ·intro o n e;exact(iU r b2 b5 b6 e).symm
  ·exact ck r (n:=16) (by lia) b7
  ·exact ck r (n:=36) (by lia) b8
  ·exact ck r (n:=37) (by lia) b9
 have kn:∀a o,s.heap.get? a=some o->¬Nm J L a->s'.heap.get? a=some o:=λa o e hN'=>t.keep a o e (λh=>hN' (.inl h)) (λn hn' h=>hN' (.inr ⟨n,hn',h⟩));exact q J' s' ⟨r2,x.ct.heap ext t.tup (λa o e hn _=>kn a o e hn),x.ok⟩ ext t.tup kn t.gens t.os
end
theorem Bb:((jq==("__debug__":Str))||(fh==("__debug__":Str))||(bu==("__debug__":Str))||(lH==("__debug__":Str))||(lb==("__debug__":Str)))=false:=by decide+kernel
theorem xc:(Xc {}).own 406 cu=true:=by decide+kernel
theorem kR{sc:Scope}{cl:List (Str×Addr)}{C:Nat}{ae:Env}(h:sc.kind=.function):(compEnvC sc cl C ae).scope.kind=.function:=h
section
variable{W T F O:List KD} {vals:List Int}
theorem hZ{k:KA}{v:Value}(h:KA.isB k v=true):handedIn v=true:=by
 induction k using KA.casesOn with
 |i n=>obtain⟨t,rfl⟩:=KA.of_i h;rfl
 |s x=>obtain⟨t,rfl⟩:=KA.of_s h;rfl
theorem rE{prog:Program}{w:World}{h:Heap}{N:Nat->Prop}{e:El}{es:List El}{vs:List Value}{kd:KD}(x:bC prog w h N (e::es) vs kd):∃v vs' k kd',vs=v::vs'/\kd=k::kd'/\dL prog w h N e v k/\bC prog w h N es vs' kd':=by
 cases x with
 |cons a x=>exact⟨_,_,_,_,rfl,rfl,a,x⟩
theorem Ei{prog:Program}{w:World}{h:Heap}{N:Nat->Prop}{vs:List Value}{kd:KD}(x:bC prog w h N [] vs kd):vs=[]/\kd=[]:=by cases x;exact⟨rfl,rfl⟩
theorem D2{prog:Program}{h:Heap}{N:Nat->Prop}{e1 e2 e3:El}{vs:List Value}{kd:KD}(x:bC prog w h N [e1,e2,e3] vs kd):∃v1 v2 v3 k1 k2 k3,vs=[v1,v2,v3]/\kd=[k1,k2,k3]/\dL prog w h N e1 v1 k1/\dL prog w h N e2 v2 k2/\dL prog w h N e3 v3 k3:=by obtain⟨v1,vs1,k1,kd1,p1,q1,a1,x⟩:=rE x;obtain⟨v2,vs2,k2,kd2,p2,q2,a2,x⟩:=rE x;obtain⟨v3,vs3,k3,kd3,p3,q3,a3,x⟩:=rE x;obtain⟨p0,q0⟩:=Ei x;exact⟨v1,v2,v3,k1,k2,k3,by rw[p1,p2,p3,p0],by rw[q1,q2,q3,q0],a1,a2,a3⟩
theorem D1{prog:Program}{h:Heap}{N:Nat->Prop}{e1 e2 e3 e4 e5:El}{vs:List Value}{kd:KD}(x:bC prog w h N [e1,e2,e3,e4,e5] vs kd):∃v1 v2 v3 v4 v5 k1 k2 k3 k4 k5,vs=[v1,v2,v3,v4,v5]/\kd=[k1,k2,k3,k4,k5]/\dL prog w h N e1 v1 k1/\dL prog w h N e2 v2 k2/\dL prog w h N e3 v3 k3/\dL prog w h N e4 v4 k4/\dL prog w h N e5 v5 k5:=by obtain⟨v1,vs1,k1,kd1,p1,q1,a1,x⟩:=rE x;obtain⟨v2,vs2,k2,kd2,p2,q2,a2,x⟩:=rE x;obtain⟨v3,vs3,k3,kd3,p3,q3,a3,x⟩:=rE x;obtain⟨v4,vs4,k4,kd4,p4,q4,a4,x⟩:=rE x;obtain⟨v5,vs5,k5,kd5,p5,q5,a5,x⟩:=rE x;obtain⟨p0,q0⟩:=Ei x;exact⟨v1,v2,v3,v4,v5,k1,k2,k3,k4,k5,by rw[p1,p2,p3,p4,p5,p0],by rw[q1,q2,q3,q4,q5,q0],a1,a2,a3,a4,a5⟩
theorem sz{prog:Program}{h:Heap}{N:Nat->Prop}{e:Sh}{kd:KD}{v:Value}(x:bg prog w h N e kd v):bg prog w h (λ_=>False) e kd v:=x.names λ_ f=>f.elim
theorem zH(B:cQ w h0)(hA:Rm 9 A)(hE:ag ae cf J 66 L)(x:En w h0 L I W T F O J s)(hv:ac cW vals (I.ol 1)){Q:Value->Shared->Prop}(q:∀J' s',En w h0 L I W T F O J' s'->(∀m,m<66->J' m=J m)->s'.gens=s.gens->s'.os=s.os->Q (.bool false) s'):wpAny (model pw w) A (eval j7 ae) (λa s₁=>wpAny (model pw w) A (eval (rX AS) ae) (λb s₂=>wpAny (model pw w) A (compareOp .NotEq a b) Q E s₂) E s₁) E s:=by
 have sc:=wR;simp only[Bool.and_eq_true,List.all_cons,List.all_nil]at sc;refine jJ sc ?_;clear sc;intro c1 c2 c3 q1' _;obtain⟨n1,n2,n3,_⟩:=q1';have rf:=zN;simp only[Bool.and_eq_true]at rf;refine l8 rf ?_;clear rf;intro f1 f2 _;have nd:=Bb;simp only[Bool.or_eq_false_iff]at nd;refine xA nd ?_;clear nd;intro q1' d5;obtain⟨⟨⟨d1,d2⟩,d3⟩,d4⟩:=q1';refine an (fy hE c3) ?_;intro cl k1 q1';subst q1';have hk:=eP c1;have D:=Gd.c (cH (I:=I) (h1:=s.heap) (q:={}) B x.ok bx);rw[Cr]
 refine dQ (G:=GG I w h0 s.heap) hk c2 k1 (by
  have:bG (bH j7)=true:=by kernel_rfl!
  exact this) ?_
 refine fK B hA hE x hv f1 λJ1 s1 x1 e1 kt1 kp1 g1 o1=>?_;obtain⟨items,hL,hz,hi⟩:=x1.list (o:=15) (n:=32) rfl;refine mJ (G:=GG I w h0 s.heap) (W:=W) (els:=[.it,.fld 406 cu,.it]) (xs:=[jq,fh,bu]) hA.handled hk rfl ?_ rfl (by decide) hL.isList ?_ ?_ ?_ ?_
 ·intro y hy;simp only[List.mem_cons,List.not_mem_nil,or_false]at hy;rcases hy with rfl|rfl|rfl
  ·exact az n1
  ·exact az n2
  ·exact az n3
 ·rw[<-Array.length_toList,hi];exact x.ok.small 15
 ·rw[hi];exact x1.ct.d.mono λ_ _ z=>sz z
 ·intro C h m its kd u el hn;refine pP (D2 el) ?_;intro v1 v2 v3 q1 q2 q3 q1';subst q1';intro q2';subst q2';intro i1 i2 i3;refine iu i2 ?_;clear i2;intro a d kvs uu qq q1';subst q1';intro _ hi' dk hvv q2';subst q2';intro hb;have base:∀a o,h0.get? a=some o->h.get? a=some o:=λa o e=>u a o (x1.sr.hp.base a o e);have hkk:(compEnvC (aJ j7) [] C ae).scope.kind=.function:=kR hk;have mm:nw [jq,fh,bu] [v1,.ref a,v3] m=λy=>if y=bu then some v3 else if y=fh then some (.ref a)else if y=jq then some v1 else m y:=rfl
  rw[mm]at hn;refine⟨[(·=v1),(·=uu),(·=v3)],.cons ⟨rfl,?_⟩ (.cons ⟨rfl,?_⟩ (.cons ⟨rfl,?_⟩ .nil)),λvals' h' kt hvs=>?_⟩
  ·refine bT hkk rfl (aL (az n1)) hn ?_ d1;rw[if_neg (by decide+kernel),if_neg (by decide+kernel),if_pos rfl]
  ·refine kh (Cxt:=Xc {}) D base xc rfl (bT hkk rfl (aL (az n2)) hn ?_ d2) hi' dk hvv (hZ hb);rw[if_neg (by decide+kernel),if_pos rfl]
  ·refine bT hkk rfl (aL (az n3)) hn ?_ d3;rw[if_pos rfl]
  ·refine ap (au hvs) ?_;intro y1 r1 q1';subst q1';intro z1 hvs;refine ap (au hvs) ?_;intro y2 r2 q1';subst q1';intro z2 hvs;refine ap (au hvs) ?_;intro y3 r3 q1';subst q1';intro z3 hvs;have q0':=aD hvs;subst q0';have z1:y1=v1:=z1;have z2:y2=uu:=z2;have z3:y3=v3:=z3;subst z1 z2 z3;exact .cons (KI.isR_keep kt i1) (.cons hb (.cons (KI.isR_keep kt i3) .nil))
 ·intro acc s2 ys hR hac fa u2 g2 o2;have x2:=x1.up u2;have hE2:ag ae cf J1 66 L:=hE.after e1 (Nat.le_refl _);refine fK B hA hE2 x2 hv f2 λJ3 s3 x3 e3 kt3 kp3 g3 o3=>?_;obtain⟨items2,hL2,hz2,hi2⟩:=x3.list (o:=3) (n:=4) rfl;refine eJ hac ?_;clear hac;intro oa oe oc od m om;have hu:=hA.units;refine iO (G:=GG I w h0 s.heap) (W:=W) (R1:=λkd y=>∃a,y=.ref a/\cI (ak pw w) s3.heap kd a) (R2:=λkd y=>∃a,y=.ref a/\cI (ak pw w) s3.heap kd a) (items:=ys.toArray) (by exact aU ‹_› (by decide)) ⟨oa,kp3 acc oa oe (x1.fresh fa),oc,m,om⟩ hL2.isList ?_ ?_ ?_ ?_
  ·exact hR.mono λkd y ⟨a,e,t⟩=>⟨a,e,t.keeps_i _ _ kt3⟩
  ·rw[hi2];exact x3.ct.w.mono λkd y z=>nK z
  ·rintro k u v ⟨a,rfl,ta⟩ ⟨b,rfl,tb⟩;exact lJ (A:=A.in1) (by rw[in1_units];exact aY ‹_› (by decide)) ta tb
  ·exact q J3 s3 x3 (λm hm=>(e3 m hm).trans (e1 m hm)) (g3.trans (g2.trans g1)) (o3.trans (o2.trans o1))
end
section
variable{W T F O:List KD} {vals:List Int}
theorem zG(B:cQ w h0)(hA:Rm 9 A)(hE:ag ae cf J 66 L)(x:En w h0 L I W T F O J s)(hv:ac cW vals (I.ol 1)){Q:Value->Shared->Prop}(q:∀J' s',En w h0 L I W T F O J' s'->(∀m,m<66->J' m=J m)->s'.gens=s.gens->s'.os=s.os->Q (.bool false) s'):wpAny (model pw w) A (eval iW ae) (λa s₁=>wpAny (model pw w) A (eval (rX AR) ae) (λb s₂=>wpAny (model pw w) A (compareOp .NotEq a b) Q E s₂) E s₁) E s:=by
 have sc:=wR;simp only[Bool.and_eq_true,List.all_cons,List.all_nil]at sc;refine l7 sc ?_;clear sc;intro _ _ _ _ c1 c2 c3 n1 n2 n3 n4 n5 _;have rf:=zN;simp only[Bool.and_eq_true]at rf;refine iw rf ?_;clear rf;intro _ _ _ _ f1 f2 _;have nd:=Bb;simp only[Bool.or_eq_false_iff]at nd;refine xA nd ?_;clear nd;intro q1' d5;obtain⟨⟨⟨d1,d2⟩,d3⟩,d4⟩:=q1';refine an (fy hE c3) ?_;intro cl k1 q1';subst q1';have hk:=eP c1;have D:=Gd.c (cH (I:=I) (h1:=s.heap) (q:={}) B x.ok bx);rw[Cq]
 refine dQ (G:=GG I w h0 s.heap) hk c2 k1 (by
  have:bG (bH iW)=true:=by kernel_rfl!
  exact this) ?_
 refine fK B hA hE x hv f1 λJ1 s1 x1 e1 kt1 kp1 g1 o1=>?_;obtain⟨items,hL,hz,hi⟩:=x1.list (o:=16) (n:=34) rfl;refine mJ (G:=GG I w h0 s.heap) (W:=F) (els:=[.it,.it,.it,.it,.fld 406 cu]) (xs:=[bu,jq,lH,lb,fh]) hA.handled hk rfl ?_ rfl (by decide) hL.isList ?_ ?_ ?_ ?_
 ·intro y hy;simp only[List.mem_cons,List.not_mem_nil,or_false]at hy;rcases hy with rfl|rfl|rfl|rfl|rfl
  ·exact az n1
  ·exact az n2
  ·exact az n3
  ·exact az n4
  ·exact az n5
 ·rw[<-Array.length_toList,hi];exact x.ok.small 16
 ·rw[hi];exact x1.ct.e.mono λ_ _ z=>sz z
 ·intro C h m its kd u el hn;refine iq (D1 el) ?_;intro v1 v2 v3 v4 v5 q1 q2 q3 q4 q5 q1';subst q1';intro q2';subst q2';intro i1 i2 i3 i4 i5;refine iu i5 ?_;clear i5;intro a d kvs uu qq q1';subst q1';intro _ hi' dk hvv q2';subst q2';intro hb;have base:∀a o,h0.get? a=some o->h.get? a=some o:=λa o e=>u a o (x1.sr.hp.base a o e);have hkk:(compEnvC (aJ iW) [] C ae).scope.kind=.function:=kR hk;have mm:nw [bu,jq,lH,lb,fh] [v1,v2,v3,v4,.ref a] m=λy=>if y=fh then some (.ref a)else if y=lb then some v4 else if y=lH then some v3 else if y=jq then some v2 else if y=bu then some v1 else m y:=rfl
  rw[mm]at hn;refine⟨[(·=v1),(·=v2),(·=v3),(·=v4),(·=uu)],.cons ⟨rfl,?_⟩ (.cons ⟨rfl,?_⟩ (.cons ⟨rfl,?_⟩ (.cons ⟨rfl,?_⟩ (.cons ⟨rfl,?_⟩ .nil)))),λvals' h' kt hvs=>?_⟩
  ·refine bT hkk rfl (aL (az n1)) hn ?_ d3;rw[if_neg (by decide+kernel),if_neg (by decide+kernel),if_neg (by decide+kernel),if_neg (by decide+kernel),if_pos rfl]
  ·refine bT hkk rfl (aL (az n2)) hn ?_ d1;rw[if_neg (by decide+kernel),if_neg (by decide+kernel),if_neg (by decide+kernel),if_pos rfl]
  ·refine bT hkk rfl (aL (az n3)) hn ?_ d4;rw[if_neg (by decide+kernel),if_neg (by decide+kernel),if_pos rfl]
  ·refine bT hkk rfl (aL (az n4)) hn ?_ d5;rw[if_neg (by decide+kernel),if_pos rfl]
  ·refine kh (Cxt:=Xc {}) D base xc rfl (bT hkk rfl (aL (az n5)) hn ?_ d2) hi' dk hvv (hZ hb);rw[if_pos rfl]
  ·refine ap (au hvs) ?_;intro y1 r1 q1';subst q1';intro z1 hvs;refine ap (au hvs) ?_;intro y2 r2 q1';subst q1';intro z2 hvs;refine ap (au hvs) ?_;intro y3 r3 q1';subst q1';intro z3 hvs;refine ap (au hvs) ?_;intro y4 r4 q1';subst q1';intro z4 hvs;refine ap (au hvs) ?_;intro y5 r5 q1';subst q1';intro z5 hvs;have q0':=aD hvs;subst q0';have z1:y1=v1:=z1;have z2:y2=v2:=z2;have z3:y3=v3:=z3;have z4:y4=v4:=z4;have z5:y5=uu:=z5;subst z1 z2 z3 z4 z5;exact .cons (KI.isR_keep kt i1) (.cons (KI.isR_keep kt i2) (.cons (KI.isR_keep kt i3) (.cons (KI.isR_keep kt i4) (.cons hb .nil))))
 ·intro acc s2 ys hR hac fa u2 g2 o2;have x2:=x1.up u2;have hE2:ag ae cf J1 66 L:=hE.after e1 (Nat.le_refl _);refine fK B hA hE2 x2 hv f2 λJ3 s3 x3 e3 kt3 kp3 g3 o3=>?_;obtain⟨items2,hL2,hz2,hi2⟩:=x3.list (o:=9) (n:=10) rfl;refine eJ hac ?_;clear hac;intro oa oe oc od m om;have hu:=hA.units;refine iO (G:=GG I w h0 s.heap) (W:=F) (R1:=λkd y=>∃a,y=.ref a/\cI (ak pw w) s3.heap kd a) (R2:=λkd y=>∃a,y=.ref a/\cI (ak pw w) s3.heap kd a) (items:=ys.toArray) (by exact aU ‹_› (by decide)) ⟨oa,kp3 acc oa oe (x1.fresh fa),oc,m,om⟩ hL2.isList ?_ ?_ ?_ ?_
  ·exact hR.mono λkd y ⟨a,e,t⟩=>⟨a,e,t.keeps_i _ _ kt3⟩
  ·rw[hi2];exact x3.ct.f.mono λkd y z=>zt z
  ·rintro k u v ⟨a,rfl,ta⟩ ⟨b,rfl,tb⟩;exact lJ (A:=A.in1) (by rw[in1_units];exact aY ‹_› (by decide)) ta tb
  ·exact q J3 s3 x3 (λm hm=>(e3 m hm).trans (e1 m hm)) (g3.trans (g2.trans g1)) (o3.trans (o2.trans o1))
theorem zE(B:cQ w h0)(hA:Rm 9 A)(hE:ag ae cf J 66 L)(x:En w h0 L I W T F O J s)(hv:ac cW vals (I.ol 1)){Q:Value->Shared->Prop}(q:∀J' s',En w h0 L I W T F O J' s'->(∀m,m<66->J' m=J m)->s'.gens=s.gens->s'.os=s.os->Q (.bool false) s'):wpAny (model pw w) A (eval (l6 Bv) ae) (λa s₁=>wpAny (model pw w) A (eval (rX Bv) ae) (λb s₂=>wpAny (model pw w) A (compareOp .NotEq a b) Q E s₂) E s₁) E s:=by
 have rf:=zN;simp only[Bool.and_eq_true]at rf;refine jJ rf ?_;clear rf;intro _ _ f1 f2 _;refine fK B hA hE x hv f1 λJ1 s1 x1 e1 kt1 kp1 g1 o1=>?_;have hE1:ag ae cf J1 66 L:=hE.after e1 (Nat.le_refl _);refine fK B hA hE1 x1 hv f2 λJ2 s2 x2 e2 kt2 kp2 g2 o2=>?_;obtain⟨i1,l1,z1,h1⟩:=x2.list (o:=10) (n:=29) rfl;obtain⟨i2,l2,z2,h2⟩:=x2.list (o:=4) (n:=5) rfl;have hu:=hA.units;rw[<-e2 29 (by decide)];refine iO (G:=GG I w h0 s.heap) (W:=T) (R1:=λkd y=>∃a,y=.ref a/\cI (ak pw w) s2.heap kd a) (R2:=λkd y=>∃a,y=.ref a/\cI (ak pw w) s2.heap kd a) (by exact aU ‹_› (by decide)) l1.isList l2.isList ?_ ?_ ?_ ?_
 ·rw[h1];exact x2.ct.y.mono λkd y z=>nK z
 ·rw[h2];exact x2.ct.t.mono λkd y z=>nK z
 ·rintro k u v ⟨a,rfl,ta⟩ ⟨b,rfl,tb⟩;exact lJ (A:=A.in1) (by rw[in1_units];exact aY ‹_› (by decide)) ta tb
 ·exact q J2 s2 x2 (λm hm=>(e2 m hm).trans (e1 m hm)) (g2.trans g1) (o2.trans o1)
theorem zX:(match fG.hp.get 33 with
 |some (.lst 0 [])=>true
 |_=>false)=true:=by decide+kernel
theorem zD(B:cQ w h0)(hA:Rm 9 A)(hE:ag ae cf J 66 L)(x:En w h0 L I W T F O J s)(hv:ac cW vals (I.ol 1)){Q:Value->Shared->Prop}{p:Pos}(q:∀J' s',En w h0 L I W T F O J' s'->(∀m,m<66->J' m=J m)->s'.gens=s.gens->s'.os=s.os->Q (.bool false) s'):wpAny (model pw w) A (eval (l6 Ew) ae) (λa s₁=>wpAny (model pw w) A (eval (.List [] p) ae) (λb s₂=>wpAny (model pw w) A (compareOp .NotEq a b) Q E s₂) E s₁) E s:=by
 have rf:=zN;simp only[Bool.and_eq_true]at rf;refine iw rf ?_;clear rf;intro _ _ _ _ _ _ f1;refine fK B hA hE x hv f1 λJ1 s1 x1 e1 kt1 kp1 g1 o1=>?_;have no:=zX;split at no
 ·rename_i e;refine ap (x1.sr.hp.obj 33 _ (by decide) e) ?_;intro items ys q1' c al;obtain⟨z1,z2⟩:=q1';have c:items.toList=I.ol 0++ys:=c;rw[x1.ok.l0,List.nil_append,aK al]at c;refine wpAny_List (wpAny_pure ⟨by rw[sizeLine_eq];exact Nat.zero_le _,?_⟩);have u:Up s1.heap (s1.heap.push {cls:=.type "list",data:=.seq ([]:List Value).toArray}):=λb o e=>Heap.get?_push_of_some _ e;have hu:=hA.units;have x2:En w h0 L I W T F O J1 {s1 with heap:=s1.heap.push {cls:=.type "list",data:=.seq ([]:List Value).toArray}}:=x1.up u;refine eJ z1 ?_;clear z1;intro o h1 h2 _ n h3;refine iO (G:=GG I w h0 s.heap) (K:=Unit) (W:=[]) (R1:=λ_ _=>False) (R2:=λ_ _=>False) (s:={s1 with heap:=s1.heap.push {cls:=.type "list",data:=.seq ([]:List Value).toArray}}) (items:=items) (items2:=#[]) (by exact aU ‹_› (by decide)) ⟨o,u _ _ h1,h2,n,h3⟩ ⟨_,Heap.get?_push_size _ rfl,rfl,_,rfl⟩ (by rw[c];exact .nil) .nil ?_ ?_
  ·intro _ _ _ f _;exact f.elim
  ·exact q J1 _ x2 e1 g1 o1
 ·exact ai no
end
noncomputable def C0 (I acc C:Nat):Nat->Prop:=λa=>a=I\/a=acc\/a=C\/a=C+1
noncomputable def BA (C:Nat) (s t:Shared):Prop:=(∀a o,a≠C->a≠C+1->s.heap.get? a=some o->t.heap.get? a=some o)/\(∃m,t.heap.Ns C m)/\(∃ov,t.heap.IsCell (C+1) ov)/\t.gens=s.gens/\t.os=s.os
structure vj (G:Gr) (A:Around) (ae:Env) (sc:Scope) (clf:Addr->List (Str×Addr)) (target:PExpr) (ifs:List PExpr) (elt:PExpr) (I n:Nat) (P:Nat->Value->Prop) (Acc:(Nat->Prop)->Nat->List Value->Heap->Prop) (s2:Shared) (Q:Value->Shared->Prop):Prop where
 start:∀Z h,(∀a o,s2.heap.get? a=some o->h.get? a=some o)->(∀a,Z a->a=I\/s2.heap.get? a=none)->Acc Z 0 [] h
 stable:∀Z i ys h h',Acc Z i ys h->(∀a o,h.get? a=some o->¬Z a->h'.get? a=some o)->aq h h'->Acc Z i ys h'
 turn:∀acc C i v s' ys m (E':Value->Shared->Prop),i<n->P i v->Acc (C0 I acc C) i ys s'.heap->(∀a o,a≠I->s2.heap.get? a=some o->s'.heap.get? a=some o)->s'.gens=s2.gens->s'.os=s2.os->s'.heap.Ns C m->(∃ov,s'.heap.IsCell (C+1) ov)->s2.heap.get? C=none->s2.heap.get? (C+1)=none->C≠acc->C+1≠acc->(∃o,s'.heap.get? acc=some o)->(∃o,s'.heap.get? I=some o)->
  wpAny (model G.prog G.w) A (assign target (compEnvC sc (clf C) C ae) v) (λ_ t2=>wpAny (model G.prog G.w) A (forIn ifs true λc r=>if r=true then do let ok<-isTrue c (compEnvC sc (clf C) C ae) (eval c (compEnvC sc (clf C) C ae));pure (ForInStep.yield ok)else pure (ForInStep.yield r)) (λok t3=>
   if ok=true then wpAny (model G.prog G.w) A (eval elt (compEnvC sc (clf C) C ae)) (λy t4=>BA C s' t4/\Acc (C0 I acc C) (i+1) (ys++[y]) t4.heap) E' t3
   else BA C s' t3/\Acc (C0 I acc C) (i+1) ys t3.heap) E' t2) E' s'
 fin:∀acc C ys s',Acc (C0 I acc C) n ys s'.heap->s2.heap.get? acc=none->jG s'.heap acc ys.toArray->ys.length<=n->(∀a o,a≠I->s2.heap.get? a=some o->s'.heap.get? a=some o)->s'.gens=s2.gens->s'.os=s2.os->Q (.ref acc) s'
section
variable{sc:Scope} {clf:Addr->List (Str×Addr)} {target iter elt:PExpr} {ifs:List PExpr} {cpos:Pos} {I n acc C:Nat} {P:Nat->Value->Prop} {Acc:(Nat->Prop)->Nat->List Value->Heap->Prop} {s2:Shared} {Q:Value->Shared->Prop} {fp:List Addr} {St:Nat->Heap->Prop}
theorem lO(W:Walks G.prog G.w A I fp [I] n P St)(hn:n<=100000)(hit:∀i h,St i h->j4 h I)(K:vj G A ae sc clf target ifs elt I n P Acc s2 Q)(hC2:s2.heap.get? C=none)(hD2:s2.heap.get? (C+1)=none)(ha2:s2.heap.get? acc=none)(hCa:C≠acc)(hDa:C+1≠acc)(hIC:I≠C)(hID:I≠C+1)(hIa:I≠acc)(hfC:C∉fp)(hfD:(C+1)∉fp)(hfa:acc∉fp):∀(k i:Nat) (s':Shared) (ys:List Value) (m:Str->Option Value),i+k=n->ys.length<=i->St i s'.heap->s'.heap.get? acc=some (LCg.lst ys)->s'.heap.Ns C m->(∃ov,s'.heap.IsCell (C+1) ov)->Acc (C0 I acc C) i ys s'.heap->(∀a o,a≠I->s2.heap.get? a=some o->s'.heap.get? a=some o)->s'.gens=s2.gens->s'.os=s2.os->codeAny (model G.prog G.w) A (.compLoop (.ListComp elt [⟨target,iter,ifs,0⟩] sc cpos) 0 (.ref I) (.ref acc) (compEnvC sc (clf C) C ae)) (compPost (model G.prog G.w) A E none Q (.ref acc) C) s'
 |0=>by
  intro i s' ys m hik hy hst hac hns hce hA hk hg ho;have hi:i=n:=by assumption
  subst hi;refine gz ?_;refine W.done s' _ _ hst λh' tk kp=>?_;have kp:∀b o,b≠I->s'.heap.get? b=some o->h'.get? b=some o:=λb o hb e=>kp b o (by simpa using hb) e;refine bb (hit _ _ hst) ?_;intro c vs q1' _;obtain⟨oI,eI1,eI2,eI3⟩:=q1';have hnsC:h'.Ns C m:=hns.at' λo e=>kp C o hIC.symm e;refine⟨m,hnsC,λh'' hs''=>?_⟩;have kt1:aq s'.heap h':=λa ob e c d=>kp a ob (by rintro rfl;exact bB ⟨oI,eI1,eI2,eI3⟩ ob e c d) e
  have kt2:aq h' h'':=λa ob e c d=>by
   by_cases q:a=C
   ·subst q;exact(fg hnsC ob e c d).elim
   ·rw[hs''.2 a q];exact e
  have kk:∀a o,a≠I->a≠C->s'.heap.get? a=some o->h''.get? a=some o:=λa o h1 h2 e=>by rw[hs''.2 a h2];exact kp a o h1 e
  refine K.fin acc C ys _ (K.stable _ _ _ _ _ hA (λa o e hz=>kk a o (λq=>hz (.inl q)) (λq=>hz (.inr (.inr (.inl q)))) e) (kt1.trans kt2)) ha2 ⟨_,kk acc _ hIa.symm hCa.symm hac,rfl,rfl,_,rfl⟩ hy (λa o hne e=>kk a o hne (af e hC2) (hk a o hne e)) hg ho
 |k+1=>by
  intro i s' ys m hik hy hst hac hns hce hA hk hg ho;refine gz ?_;refine W.item i s' _ _ (by lia) hst λv h' tk hP hst' kp=>?_;have kp:∀b o,b≠I->s'.heap.get? b=some o->h'.get? b=some o:=λb o hb e=>kp b o (by simpa using hb) e;refine bb (hit _ _ hst) ?_;intro c vs q1' _;obtain⟨oI,eI1,eI2,eI3⟩:=q1';refine bb (hit _ _ hst') ?_;intro c' vs' hob hc';have hnsC:h'.Ns C m:=hns.at' λo e=>kp C o hIC.symm e;have kt1:aq s'.heap h':=λa ob e c d=>kp a ob (by rintro rfl;exact bB ⟨oI,eI1,eI2,eI3⟩ ob e c d) e;dsimp only;refine gG (G:=G) (s:={s' with heap:=h',toks:=tk}) hob hc' ?_;have hA1:=K.stable _ _ _ _ h' hA (λa o e hz=>kp a o (λq=>hz (.inl q)) e) kt1;refine wpAny_mono (K.turn acc C i v {s' with heap:=h',toks:=tk} ys m _ (by lia) hP hA1 (λa o hne e=>kp a o hne (hk a o hne e)) hg ho hnsC (by obtain⟨ov,o,a,b⟩:=hce;exact⟨ov,o,kp _ _ hID.symm a,b⟩) hC2 hD2 hCa hDa ⟨_,kp acc _ hIa.symm hac⟩ (by obtain⟨o,e,_⟩:=hob;exact⟨o,e⟩)) (λ_ t2 h2=>?_) λ_ _ z=>z;refine wpAny_mono h2 (λok t3 h3=>?_) λ_ _ z=>z
  have go:∀(t4:Shared) (ys':List Value),ys'.length<=i+1->(∀a o,a≠C->a≠C+1->a≠acc->h'.get? a=some o->t4.heap.get? a=some o)/\(∃m,t4.heap.Ns C m)/\(∃ov,t4.heap.IsCell (C+1) ov)/\t4.gens=s'.gens/\t4.os=s'.os->t4.heap.get? acc=some (LCg.lst ys')->Acc (C0 I acc C) (i+1) ys' t4.heap->
    codeAny (model G.prog G.w) A (.compLoop (.ListComp elt [⟨target,iter,ifs,0⟩] sc cpos) 0 (.ref I) (.ref acc) (compEnvC sc (clf C) C ae)) (compPost (model G.prog G.w) A E none Q (.ref acc) C) t4:=by
   intro t4 ys' hy' ce hac' hA'
   refine jJ ce ?_;clear ce;intro c1 q1' cd c3 c4;obtain⟨m',c2⟩:=q1'
   refine lO W hn hit K hC2 hD2 ha2 hCa hDa hIC hID hIa hfC hfD hfa k (i+1) t4 ys' m' (by lia) hy' ?_ hac' c2 cd hA' (λa o hne e=>c1 a o (af e hC2) (af e hD2) (af e ha2) (kp a o hne (hk a o hne e))) (c3.trans hg) (c4.trans ho)
   exact W.frame _ _ _ hst' λb hb o e=>c1 b o (λq=>hfC (q▸hb)) (λq=>hfD (q▸hb)) (λq=>hfa (q▸hb)) e
  induction ok using Bool.casesOn with
  |false=>rw[if_neg (by decide)]at h3|-;refine xA h3 ?_;clear h3;intro ce hA';exact go t3 ys (by exact Nat.le_succ_of_le ‹_›) ⟨λa o h1 h2 _ e=>ce.1 a o h1 h2 e,ce.2⟩ (ce.1 acc _ hCa.symm hDa.symm (kp acc _ hIa.symm hac)) hA'
  |true=>
   rw[if_pos rfl]at h3|-;refine wpAny_mono h3 (λy t4 h4=>?_) λ_ _ z=>z;refine xA h4 ?_;clear h4;intro ce hA';have hac4:t4.heap.get? acc=some (LCg.lst ys):=ce.1 acc _ hCa.symm hDa.symm (kp acc _ hIa.symm hac);refine append_at (hsz:=by show ys.toArray.size<=sizeLine;rw[List.size_toArray,sizeLine_eq];lia) hac4 λh5 hs5 hD5=>?_
   have kt5:aq t4.heap h5:=λa ob e c d=>by
    by_cases q:a=acc
    ·subst q;rw[hac4]at e;refine aB e ?_;clear e;intro h1;subst h1;injection c with c
     exact absurd c (by decide)
    ·rw[hs5.2 a q];exact e
   refine go {t4 with heap:=h5} (ys++[y]) (by rw[List.length_append,List.length_singleton];exact Nat.lt_succ_of_le ‹_›) ⟨λa o h1 h2 h3 e=>by rw[hs5.2 a h3];exact ce.1 a o h1 h2 e,?_,?_,ce.2.2.2.1,ce.2.2.2.2⟩ (hD5.trans (congrArg some (LCg.lst_snoc ys y))) (K.stable _ _ _ _ _ hA' (λa o e hz=>by rw[hs5.2 a (λq=>hz (.inr (.inl q)))];exact e) kt5)
   ·refine xE ce.2.1 ?_;intro m' c2;exact⟨m',c2.at' λo e=>by rw[hs5.2 C hCa];exact e⟩
   ·refine bb ce.2.2.1 ?_;intro ov o a b;exact⟨ov,o,by rw[hs5.2 _ hDa];exact a,b⟩
theorem sL{M:Model}(f:Str×NameKind->List (Str×Addr)->Sem (ForInStep (List (Str×Addr))))(hf:∀name kind cells,f (name,kind) cells=if kind==.cell then(do let a<-alloc {cls:=.type "cell",data:=.cell none};pure (.yield ((name,a)::cells)))else pure (.yield cells)){x:Str}{Q:List (Str×Addr)->Shared->Prop}:∀{names:List (Str×NameKind)} {cv:List (Str×Addr)} {s:Shared},(names.filter λy=>y.2==.cell)=[(x,.cell)]->Q ((x,s.heap.objs.size)::cv) {s with heap:=s.heap.push {cls:=.type "cell",data:=.cell none}}->wpAny M A (forIn names cv f) Q E s:=by
 have none_ok:∀{names:List (Str×NameKind)} {cv:List (Str×Addr)} {s:Shared},(names.filter λy=>y.2==.cell)=[]->Q cv s->wpAny M A (forIn names cv f) Q E s:=by
  intro names;induction names with
  |nil=>intro cv s _ q;rw[List.forIn_nil];exact wpAny_pure q
  |cons y names ih=>
   obtain⟨y,k⟩:=y;intro cv s h q;rw[List.filter_cons]at h;split at h
   ·cases h
   ·rename_i c;rw[List.forIn_cons,hf,if_neg c];exact wpAny_bind (wpAny_pure (ih h q))
 intro names;induction names with
 |nil=>intro cv s h;cases h
 |cons y names ih=>
  obtain⟨y,k⟩:=y;intro cv s h q;rw[List.filter_cons]at h;split at h
  ·rename_i c;injection h with h1 h2
   injection h1 with h1 h3
   subst h1;rw[List.forIn_cons,hf,if_pos c];exact wpAny_bind (wpAny_bind (wpAny_alloc (wpAny_pure (none_ok h2 q))))
  ·rename_i c;rw[List.forIn_cons,hf,if_neg c];exact wpAny_bind (wpAny_pure (ih h q))
theorem tV{s:Shared}{cl:List (Str×Addr)}{x:Str}(hk:sc.kind=.function)(hnm:∀y∈sc.names,y.2=.local->sc.names.lookup y.1=some .local)(hone:(sc.names.filter λy=>y.2==.cell)=[(x,.cell)])(hcl:∀C,clf C=(x,C+1)::cl)(k1:closureFor sc ae=pure cl)(hs:bG iter=true)(h:wpAny (model G.prog G.w) A (eval iter ae) (λxv s1=>wpAny (model G.prog G.w) A (pyIter xv) (λit s2=>∃I fp n P St Acc,it=.ref I/\Walks G.prog G.w A I fp [I] n P St/\n<=100000/\St 0 s2.heap/\(∀b∈fp,b<s2.heap.objs.size)/\(∀i h,St i h->j4 h I)/\vj G A ae sc clf target ifs elt I n P Acc s2 Q) E s1) E s):wpAny (model G.prog G.w) A (eval (.ListComp elt [⟨target,iter,ifs,0⟩] sc cpos) ae) Q E s:=by
 rw[eval_ListComp];refine wpAny_comprehension_free (g:=⟨target,iter,ifs,0⟩) (gs:=[]) (use:=none) rfl (iG hs) k1 hk hnm (wpAny_mono h (λxv s1 h1=>wpAny_mono h1 (λit s2 h2=>?_) λ_ _ z=>z) λ_ _ z=>z);refine gQ h2 ?_;clear h2;intro I fp n P St Acc q1';subst q1';intro W hn hst hfp hit K;refine wpAny_newObj_type (hd:=by size_fits) ?_;simp only[newFunctionEnv,Option.isSome_some,if_true];refine wpAny_bind (wpAny_alloc ?_);refine wpAny_bind (sL _ (λname kind cells=>by induction hkc:kind==NameKind.cell using Bool.casesOn<;>simp[hkc]) hone ?_);generalize hH2:s2.heap.push {cls:=.type "list",dict:=none,data:=.seq ([]:List Value).toArray}=H2;have hC:H2.objs.size=s2.heap.objs.size+1:=by rw[<-hH2,Heap.size_push]
 generalize hH3:H2.push {cls:=.type "dict",data:=.dict #[]}=H3;have hD:H3.objs.size=H2.objs.size+1:=by rw[<-hH3,Heap.size_push]
 refine wpAny_pure ?_;dsimp only;rw[hD]
 have fresh:∀a,s2.heap.objs.size<=a->s2.heap.get? a=none:=λa ha=>by
  induction e:s2.heap.get? a using Option.casesOn with
  |none=>rfl
  |some o'=>exact absurd (Heap.lt_size e) (Nat.not_lt.mpr ha)
 have hIf:I∈fp:=W.sub I (List.mem_singleton.mpr rfl);have old:∀b o,s2.heap.get? b=some o->(H3.push {cls:=.type "cell",data:=.cell none}).get? b=some o:=λb o e=>Heap.get?_push_of_some _ (hH3▸Heap.get?_push_of_some _ (hH2▸Heap.get?_push_of_some _ e));have hacc:(H3.push {cls:=.type "cell",data:=.cell none}).get? s2.heap.objs.size=some (LCg.lst []):=Heap.get?_push_of_some _ (hH3▸Heap.get?_push_of_some _ (hH2▸Heap.get?_push_size _ rfl));have hns:(H3.push {cls:=.type "cell",data:=.cell none}).Ns H2.objs.size (λ_=>none):=by rw[<-hH3];exact(Heap.Ns.new H2 (.type "dict")).at' λo e=>Heap.get?_push_of_some _ e
 have hce:(H3.push {cls:=.type "cell",data:=.cell none}).IsCell (H2.objs.size+1) none:=by rw[<-hD];exact⟨_,Heap.get?_push_size _ rfl,rfl⟩
 have hst₁:St 0 (H3.push {cls:=.type "cell",data:=.cell none}):=W.frame _ _ _ hst λb _ o e=>old b o e
 have hA:Acc (C0 I s2.heap.objs.size H2.objs.size) 0 [] (H3.push {cls:=.type "cell",data:=.cell none}):=K.start _ _ old λa hz=>by
  rcases hz with rfl|rfl|rfl|rfl
  ·exact .inl rfl
  ·exact .inr (fresh _ (Nat.le_refl _))
  ·exact .inr (fresh _ (by rw[hC];exact Nat.le_succ _))
  ·exact .inr (fresh _ (by rw[hC];lia))
 have hst0:∀b∈fp,b≠H2.objs.size/\b≠H2.objs.size+1/\b≠s2.heap.objs.size:=λb hb=>⟨by rw[hC];exact Nat.ne_of_lt (Nat.lt_succ_of_lt (hfp b hb)),by rw[hC];exact Nat.ne_of_lt (Nat.lt_succ_of_lt (Nat.lt_succ_of_lt (hfp b hb))),Nat.ne_of_lt (hfp b hb)⟩
 have loop:=lO (E:=E) (iter:=iter) (cpos:=cpos) W hn hit K (C:=H2.objs.size) (acc:=s2.heap.objs.size) (fresh _ (by rw[hC];exact Nat.le_succ _)) (fresh _ (by rw[hC];lia)) (fresh _ (Nat.le_refl _)) (by rw[hC];simp) (by rw[hC];lia) (hst0 I hIf).1 (hst0 I hIf).2.1 (hst0 I hIf).2.2
  (λq=>(hst0 _ q).1 rfl) (λq=>(hst0 _ q).2.1 rfl) (λq=>(hst0 _ q).2.2 rfl)
  n 0 {s2 with heap:=H3.push {cls:=.type "cell",data:=.cell none}} [] _ (by exact Nat.add_comm _ _) (Nat.le_refl _) hst₁ hacc hns ⟨none,hce⟩ hA (λa o _ e=>old a o e) rfl rfl
 rw[hcl]at loop;exact codeAny_compStart_list loop (W.self 0 _ _ _ hst₁ loop)
end
noncomputable def ew:Str:=⟨⟨[119]⟩⟩
noncomputable def jh:Str:=⟨⟨[115,116,111,114,101]⟩⟩
noncomputable def dA:Str:=⟨⟨[109,101,116,104,111,100,115]⟩⟩
noncomputable def sf:Str:=⟨⟨[116,121,112,101,115]⟩⟩
noncomputable def eA:Str:=⟨⟨[111,119,110,101,114,115]⟩⟩
noncomputable def mN:Str:=⟨⟨[109]⟩⟩
noncomputable def EG:Str:=⟨⟨[116]⟩⟩
noncomputable def iN:Str:=⟨⟨[105]⟩⟩
theorem nX:((ew==("__debug__":Str))||(jh==("__debug__":Str))||(mN==("__debug__":Str))||(EG==("__debug__":Str))||(iN==("__debug__":Str)))=false:=by decide+kernel
section
variable{W T F O:List KD}
theorem B9(x:En w h0 L I W T F O J s){G:Gr}(hG:G.prog=pw/\G.w=w){y:Str}{v:SV}{p:Pos}(hk:ae.scope.kind=.function)(hl:ae.locals=L)(ek:ae.kindOf y=some .local)(hy:bE C8 y=some v)(nd:(y==("__debug__":Str))=false):∃val,VR (GG I w h0 s.heap) J 66 v val/\PE G A ae s.heap (.Name y p) (·=val):=by refine an x.sr.lc.ns ?_;intro m hm f;refine an (f y v hy) ?_;intro val h1 h2;exact⟨val,h2,bT hk hl ek hm h1 nd⟩
theorem Ca(B:cQ w h0)(x:En w h0 L I W T F O J s){h1:Heap}{o:PExpr}{p:Pos}{n C d:Nat}{es:List (Str×SV)}{fld:Str}{v:SV}(hn:n<66)(pc:cz o=false)(ho:PE (GG I w h0 h1) A ae s.heap o (·=.ref (J n)))(e1:fG.hp.get n=some (.inst C d))(e2:fG.hp.get d=some (.sd es))(ow:(Xc {}).own C fld=true)(hv:bE es fld=some v):∃val,VR (GG I w h0 s.heap) J 66 v val/\PE (GG I w h0 h1) A ae s.heap (.Attribute o fld p) (·=val):=by
 refine xA (x.sr.hp.obj n _ hn e1) ?_;intro hd hi;refine an (x.sr.hp.obj d _ hd e2) ?_;intro kvs dk al;have o2:=fO fld al;rw[hv]at o2;induction e:valueAt kvs fld using Option.casesOn with
 |none=>rw[e]at o2;exact o2.elim
 |some val=>rw[e]at o2;refine⟨val,o2,kh (Cxt:=Xc {}) (Gd.c (cH (I:=I) (h1:=h1) (q:={}) B x.ok bx)) x.sr.hp.base ow pc ho hi dk e (jA o2)⟩
theorem Dw:(match fG.hp.get 0,fG.hp.get 1 with
 |some (.cell (some (.ref 1))),some (.sd es)=>(match bE es eA with
  |some (.ref 3)=>true
  |_=>false)
 |_,_=>false)=true:=by decide+kernel
theorem jl(B:cQ w h0)(x:En w h0 L I W T F O J s){h1:Heap}{k:Nat}{p p' p'':Pos}(hu:A.units+10<cLine)(hk:ae.scope.kind=.function)(ek:ae.kindOf ew=some .cell)(hc:ae.cells.lookup ew=some (J 0)):PE (GG I w h0 h1) A ae s.heap (.Subscript (.Name ew p) (.Constant (.str eA) k p') p'') (·=.ref (J 3)):=by
 have t:=Dw;have nd:=nX;simp only[Bool.or_eq_false_iff]at nd;split at t
 ·rename_i es e1 e2;split at t
  ·rename_i e3;refine an (x.sr.hp.obj 0 _ (by decide) e1) ?_;intro ov c1 c2;induction ov using Option.casesOn with
   |none=>exact c2.elim
   |some val=>
    refine xA c2 ?_;clear c2;intro _ q1';subst q1';refine an (x.sr.hp.obj 1 _ (by decide) e2) ?_;intro kvs dk al;have o2:=fO eA al;rw[e3]at o2;induction e:valueAt kvs eA using Option.casesOn with
    |none=>rw[e]at o2;exact o2.elim
    |some val=>
     rw[e]at o2;refine xA o2 ?_;clear o2;intro _ q1';subst q1';refine sH (G:=GG I w h0 h1) hu (uA hk ek hc c1 nd.1.1.1.1) dk ?_ e;obtain⟨o,ho⟩:=(cH (I:=I) (h1:=h1) (q:={}) B x.ok bx).big;have off:=x.sr.hp.off 1 (by decide);induction c:J 1==sysModules using Bool.casesOn with
     |false=>rfl
     |true=>have:=beq_iff_eq.mp c;rw[this]at off;have ho:h0.get? sysModules=some o:=ho;have off:h0.get? sysModules=none:=off;rw[ho]at off;exact rT off
  ·exact ai t
 ·exact ai t
end
section
variable{sc:Scope} {cl:List (Str×Addr)} {elt:PExpr} {x:Str} {px:Pos} {s1:Shared} {ax:Nat} {its:Array Value} {Q:Value->Shared->Prop} {R:Nat->Value->Prop}
theorem jn(hh:A.handled=none)(hk:sc.kind=.function)(hx:sc.names.lookup x=some .local)(hL:s1.heap.IsList ax its)(sm:its.size<=100000)(hturn:∀C h m i v,Up s1.heap h->its[i]?=some v->h.Ns C m->m x=some v->∃V,PE G A (compEnvC sc cl C ae) h elt V/\∀y,V y->R i y)(q:∀(acc:Nat) (s':Shared) (ys:List Value),ys.length=its.size->(∀(i:Nat) y,ys[i]?=some y->R i y)->jG s'.heap acc ys.toArray->s1.heap.get? acc=none->Up s1.heap s'.heap->s'.gens=s1.gens->s'.os=s1.os->Q (.ref acc) s'):wpAny (model G.prog G.w) A (pyIter (.ref ax)) (λit s2=>∃I fp n P St Acc,it=.ref I/\Walks G.prog G.w A I fp [I] n P St/\n<=100000/\St 0 s2.heap/\(∀b∈fp,b<s2.heap.objs.size)/\(∀i h,St i h->j4 h I)/\pM G A ae sc cl (.Name x px) [] elt I n P Acc s2 Q) E s1:=by
 have hlt:ax<s1.heap.objs.size:=by obtain⟨_,e,_⟩:=hL;exact Heap.lt_size e
 refine wpAny_pyIter_list hL ?_;have up:Up s1.heap (s1.heap.push {cls:=.type "list_iterator",data:=.fields #[.ref ax,.int 0 0]}):=λb o e=>Heap.get?_push_of_some _ e;have fI:s1.heap.get? s1.heap.objs.size=none:=aQ;have nI:∀{a:Nat} {o:Obj},s1.heap.get? a=some o->a≠s1.heap.objs.size:=λe=>af e fI
 refine⟨s1.heap.objs.size,[s1.heap.objs.size,ax],its.size,λi v=>its[i]?=some v,λi h=>h.IsListIter s1.heap.objs.size ax i/\h.IsList ax its,λ_ i ys h=>ys.length=i/\∀(j:Nat) y,ys[j]?=some y->R j y,rfl,
  Walks.list hh _ ax (Nat.ne_of_lt hlt) its,sm,⟨⟨_,Heap.get?_push_size _ rfl,rfl,rfl⟩,hL.push _⟩,?_,λi h x=>li x.1,?_⟩
 ·intro b hb;show b<(s1.heap.push _).objs.size;rw[Heap.size_push];rcases List.mem_cons.mp hb with rfl|hb
  ·exact Nat.lt_succ_self _
  ·rw[List.mem_singleton.mp hb];exact Nat.lt_succ_of_lt hlt
 ·exact{
   start:=λZ h _ _=>⟨rfl,λj y e=>by exact aa e⟩
   stable:=λZ i ys h h' x _ kt=>x
   turn:=by
    intro acc C i v s' ys m E' hi hP hA hk' hg ho hns hC2 hCa _ _
    have u1:Up s1.heap s'.heap:=λa o e=>hk' a o (nI e) (up a o e)
    have fC:s1.heap.get? C=none:=by
     induction c:s1.heap.get? C using Option.casesOn with
     |none=>rfl
     |some o=>have:=up _ _ c;rw[hC2]at this;exact aa this
    refine il (C:=C) (m:=m) hk rfl (aL hx) hns λh' tk hn' kp=>?_
    rw[List.forIn_nil]
    refine wpAny_pure ?_
    rw[if_pos rfl]
    have u2:Up s1.heap h':=λa o e=>kp a o (af e fC) (u1 a o e)
    refine an (hturn C h' _ i v u2 hP hn' (if_pos rfl)) ?_;intro V ev fin
    refine ev {s' with heap:=h',toks:=tk} _ _ rfl λy tk' hy=>⟨⟨kp,⟨_,hn'⟩,rfl,rfl⟩,?_⟩
    refine xA hA ?_;clear hA;intro a1 a2
    refine⟨by rw[List.length_append,a1];rfl,λj z e=>?_⟩
    by_cases c:j<ys.length
    ·rw[List.getElem?_append_left c]at e
     exact a2 j z e
    ·rw[List.getElem?_append_right (by exact Nat.not_lt.mp ‹_›)]at e
     have hj:j -ys.length=0:=by
      induction d:j -ys.length using Nat.casesOn with
      |zero=>rfl
      |succ n=>rw[d]at e;exact aa e
     rw[hj]at e
     refine aB e ?_;clear e;intro h1;subst h1
     have:j=i:=by lia
     subst this
     exact fin _ hy
   fin:=by
    intro acc C ys s' hA ha2 hac hy hk' hg ho
    have ha1:s1.heap.get? acc=none:=by
     induction c:s1.heap.get? acc using Option.casesOn with
     |none=>rfl
     |some o=>have:=up _ _ c;rw[ha2]at this;exact aa this
    exact q acc s' ys hA.1 hA.2 hac ha1 (λa o e=>hk' a o (nI e) (up a o e)) hg ho}
end
theorem gL{α β:Type}{R:α->β->Prop}:∀{x:List α} {y:List β},x.length=y.length->(∀(i:Nat) b,y[i]?=some b->∃a,x[i]?=some a/\R a b)->ac R x y
 |[],[]=>by intro _ _;exact .nil
 |[],_::_=>by intro h _;cases h
 |_::_,[]=>by intro h _;cases h
 |a::x,b::y=>by intro h f;refine an (f 0 b rfl) ?_;intro a' e r;refine aB e ?_;clear e;intro h1;subst h1;exact .cons r (gL (by simpa using h) λi c e=>f (i+1) c e)
noncomputable def wo (e:PExpr):Nat:=(ev e).k
noncomputable def EI (e:PExpr):PExpr:=nO (ev e).os 0
noncomputable def rtP (s:Stmt):Pos:=(sv s).p
noncomputable def zl (n:Nat) (e:PExpr):PExpr:=eX (n+1) e
noncomputable def FW (e:PExpr):PExpr:=eX 0 e
noncomputable def nR:Str:=⟨⟨[114,97,110,103,101]⟩⟩
noncomputable def EV:PExpr:=E7 BS
noncomputable def Di:PExpr:=nE (De EV) 0
noncomputable def ES:PExpr:=nE (De EV) 1
noncomputable def kx:PExpr:=l6 Di
noncomputable def zO:PExpr:=rX Di
noncomputable def mc:PExpr:=l6 ES
noncomputable def gr:PExpr:=rX ES
noncomputable def dx:PExpr:=cN gr
theorem BR:BS=.Return (some (.BoolOp .And [.Compare kx [.Eq] [zO] (bn Di),.Compare mc [.Eq] [gr] (bn ES)] (bn EV))) (rtP BS):=by kernel_rfl!
theorem B4:zO=.Subscript (.Name ew (bn (bL zO))) (.Constant (.str eA) (wo (bR zO)) (bn (bR zO))) (bn zO):=by kernel_rfl!
theorem xJ:kx=.ListComp (.Attribute (.Name mN (bn (Df (cN kx)))) nU (bn (cN kx))) [⟨.Name mN (bn (gq kx)),.Subscript (.Attribute (.Name jh (bn (Df (bL (bH kx))))) dA (bn (bL (bH kx)))) (.Slice (some (.Constant (.int ((1:Nat):Int)) (wo (EI (bR (bH kx)))) (bn (EI (bR (bH kx)))))) none none (bn (bR (bH kx)))) (bn (bH kx)),[],0⟩] (aJ kx) (bn kx):=by kernel_rfl!
theorem xI:mc=.ListComp (.Attribute (.Name EG (bn (Df (cN mc)))) dA (bn (cN mc))) [⟨.Name EG (bn (gq mc)),.Subscript (.Attribute (.Name jh (bn (Df (bL (bH mc))))) sf (bn (bL (bH mc)))) (.Slice (some (.Constant (.int ((64:Nat):Int)) (wo (EI (bR (bH mc)))) (bn (EI (bR (bH mc)))))) none none (bn (bR (bH mc)))) (bn (bH mc)),[],0⟩] (aJ mc) (bn mc):=by kernel_rfl!
theorem Cp:gr=.ListComp dx [⟨.Name bu (bn (gq gr)),.Tuple [.Constant (.int 64) (wo (nE (kb (bH gr)) 0)) (bn (nE (kb (bH gr)) 0)),.Constant (.int 65) (wo (nE (kb (bH gr)) 1)) (bn (nE (kb (bH gr)) 1)),.Constant (.int 66) (wo (nE (kb (bH gr)) 2)) (bn (nE (kb (bH gr)) 2))] (Dv (bH gr)) (bn (bH gr)),[],0⟩] (aJ gr) (bn gr):=by kernel_rfl!
theorem xH:dx=.ListComp (.BinOp (.Constant (.int 1) (wo (bL (cN dx))) (bn (bL (cN dx)))) .Add (.Name iN (bn (bR (cN dx)))) (bn (cN dx))) [⟨.Name iN (bn (gq dx)),
 .Call (.Name nR (bn (FW (bH dx)))) [.Call (.Name jt (bn (FW (zl 0 (bH dx))))) [.Subscript (.Name ew (bn (bL (zl 0 (zl 0 (bH dx)))))) (.Constant (.str eA) (wo (bR (zl 0 (zl 0 (bH dx))))) (bn (bR (zl 0 (zl 0 (bH dx)))))) (bn (zl 0 (zl 0 (bH dx))))] [] (bn (zl 0 (bH dx)))] [] (bn (bH dx)),
 [.Compare (.Subscript (.Subscript (.Name ew (bn (bL (bL (l6 (nE (iV dx) 0)))))) (.Constant (.str eA) (wo (bR (bL (l6 (nE (iV dx) 0))))) (bn (bR (bL (l6 (nE (iV dx) 0)))))) (bn (bL (l6 (nE (iV dx) 0))))) (.Name iN (bn (bR (l6 (nE (iV dx) 0))))) (bn (l6 (nE (iV dx) 0)))) [.Eq] [.Name bu (bn (rX (nE (iV dx) 0)))] (bn (nE (iV dx) 0))],0⟩] (aJ dx) (bn dx):=by kernel_rfl!
noncomputable def tH (n C d:Nat) (fld:Str) (m:Nat):Bool:=match fG.hp.get n with
 |some (.inst C' d')=>Nat.beq C' C&&(Nat.beq d' d&&(match fG.hp.get d with
  |some (.sd es)=>(match bE es fld with
   |some (.ref m')=>Nat.beq m' m
   |_=>false)
  |_=>false))
 |_=>false
theorem qV{P:Prop}{x1:Option Mine.SO}{f0:(Nat)->(Nat)->Bool}(h:(match x1 with|Option.some (Mine.SO.inst a1 a2)=>f0 a1 a2|a1=>false)=true)(k0:∀a1 a2,x1=Option.some (Mine.SO.inst a1 a2)->f0 a1 a2=true->P):P:=by
 obtain⟨z1,e1⟩:∃z,x1=z:=⟨_,rfl⟩
 rw[e1]at h;induction z1 using Option.casesOn with
 |some y1'0=>
  induction y1'0 using SO.casesOn with
  |inst y2'0 y2'1=>exact k0 _ _ e1 h
  |_=>exact ai h
 |_=>exact ai h
theorem qW{P:Prop}{x1:Option Mine.SO}{f0:(List (PySem.Str×Mine.SV))->Bool}(h:(match x1 with|Option.some (Mine.SO.sd a1)=>f0 a1|a1=>false)=true)(k0:∀a1,x1=Option.some (Mine.SO.sd a1)->f0 a1=true->P):P:=by
 obtain⟨z1,e1⟩:∃z,x1=z:=⟨_,rfl⟩
 rw[e1]at h;induction z1 using Option.casesOn with
 |some y1'0=>
  induction y1'0 using SO.casesOn with
  |sd y2'0=>exact k0 _ e1 h
  |_=>exact ai h
 |_=>exact ai h
theorem qX{P:Prop}{x1:Option Mine.SV}{f0:(Nat)->Bool}(h:(match x1 with|Option.some (Mine.SV.ref a1)=>f0 a1|a1=>false)=true)(k0:∀a1,x1=Option.some (Mine.SV.ref a1)->f0 a1=true->P):P:=by
 obtain⟨z1,e1⟩:∃z,x1=z:=⟨_,rfl⟩
 rw[e1]at h;induction z1 using Option.casesOn with
 |some y1'0=>
  induction y1'0 using SV.casesOn with
  |ref y2'0=>exact k0 _ e1 h
  |_=>exact ai h
 |_=>exact ai h
theorem Ef:(tH 11 294 12 dA 21&&(tH 11 294 12 sf 20&&(tH 45 252 46 dA 49&&(tH 52 252 53 dA 56&&tH 59 252 60 dA 63))))=true:=by decide+kernel
theorem DL:((Xc {}).own 294 dA&&((Xc {}).own 294 sf&&((Xc {}).own 252 dA&&(Xc {}).own 273 nU)))=true:=by decide+kernel
theorem ju:bE cf.names ew=some .cell/\bE cf.names jh=some .local/\bE C8 jh=some (.ref 11):=⟨by kernel_rfl!,by kernel_rfl!,by kernel_rfl!⟩
theorem qg:(Ak (aJ kx)&&(aM (aJ kx).names (aJ kx).names&&(fN (aJ kx)&&(iI (aJ kx) mN&&(Ak (aJ mc)&&(aM (aJ mc).names (aJ mc).names&&(fN (aJ mc)&&iI (aJ mc) EG)))))))=true:=by kernel_rfl!
section
variable{W T F O:List KD}
theorem sI(B:cQ w h0)(x:En w h0 L I W T F O J s){h1:Heap}{o:PExpr}{p:Pos}{n C d m:Nat}{fld:Str}(hn:n<66)(pc:cz o=false)(ho:PE (GG I w h0 h1) A ae s.heap o (·=.ref (J n)))(b:tH n C d fld m=true)(ow:(Xc {}).own C fld=true):PE (GG I w h0 h1) A ae s.heap (.Attribute o fld p) (·=.ref (J m)):=by unfold tH at b;refine qV b ?_;clear b;intro C' d' e1 b;rw[Bool.and_eq_true,Bool.and_eq_true]at b;refine l8 b ?_;clear b;intro b1 b2 b3;have b1:=Nat.eq_of_beq_eq_true b1;have b2:=Nat.eq_of_beq_eq_true b2;subst b1 b2;refine qW b3 ?_;clear b3;intro es e2 b3;refine qX b3 ?_;clear b3;intro m' e3 b3;have b3:=Nat.eq_of_beq_eq_true b3;subst b3;obtain⟨val,⟨_,rfl⟩,pe⟩:=Ca B x (A:=A) (ae:=ae) (p:=p) (h1:=h1) hn pc ho e1 e2 ow e3;exact pe
theorem ql(x:En w h0 L I W T F O J s){h1:Heap}{p:Pos}(hE:ag ae cf J 66 L):PE (GG I w h0 h1) A ae s.heap (.Name jh p) (·=.ref (J 11)):=by have nd:=nX;simp only[Bool.or_eq_false_iff]at nd;obtain⟨val,⟨_,rfl⟩,pe⟩:=B9 (A:=A) (p:=p) x (G:=GG I w h0 h1) ⟨rfl,rfl⟩ hE.kind hE.loc (hE.kindOf ju.2.1) ju.2.2 nd.1.1.1.2;exact pe
theorem zF(B:cQ w h0)(hA:Rm 9 A)(hE:ag ae cf J 66 L)(x:En w h0 L I W T F O J s){Q:Value->Shared->Prop}(q:∀s',En w h0 L I W T F O J s'->s'.gens=s.gens->s'.os=s.os->Q (.bool true) s'):wpAny (model pw w) A (eval kx ae) (λa s₁=>wpAny (model pw w) A (eval zO ae) (λb s₂=>wpAny (model pw w) A (compareOp .Eq a b) Q E s₂) E s₁) E s:=by
 have sc:=qg;simp only[Bool.and_eq_true]at sc;refine jJ sc ?_;clear sc;intro c1 c2 c3 c4 _;have fl:=Ef;simp only[Bool.and_eq_true]at fl;have ow:=DL;simp only[Bool.and_eq_true]at ow;have nd:=nX;simp only[Bool.or_eq_false_iff]at nd;refine an (fy hE c3) ?_;intro cl k1 q1';subst q1';have hk:=eP c1;have D:=Gd.c (cH (I:=I) (h1:=s.heap) (q:={}) B x.ok bx);refine bb x.ct.m ?_;intro m0 ms em cm;have em:I.ol 14=m0::ms:=em;obtain⟨items,hL,hz,hi⟩:=x.list (o:=14) (n:=21) rfl;have hsz:items.size=ms.length+1:=by rw[<-Array.length_toList,hi,em];rfl
 have hsm:items.size<=100000:=by rw[<-Array.length_toList,hi];exact x.ok.small 14
 rw[xJ]
 refine dQ (G:=GG I w h0 s.heap) hk c2 k1 (by
  have:bG (bH kx)=true:=by kernel_rfl!
  rw[xJ]at this
  exact this) ?_
 refine kM (G:=GG I w h0 s.heap) (h:=s.heap) (l:=J 21) (sI B x (by decide) rfl (ql x hE) fl.1 ow.1) rfl hL.isList hsm (by lia) λa h' tk c up fa ha=>?_;have ed:(items.toList.drop 1).toArray=ms.toArray:=by rw[hi,em];rfl
 rw[ed]at ha;refine jn (G:=GG I w h0 s.heap) (s1:={s with heap:=h',toks:=tk}) (its:=ms.toArray) (R:=λi y=>∃qq,O[i]?=some [.a qq]/\KA.isB qq y=true) hA.handled hk (az c4) ⟨_,ha,rfl,_,rfl⟩ (by rw[List.size_toArray];lia) ?_ ?_
 ·intro C h m i v u ei hn hm;rw[List.getElem?_toArray]at ei;rcases cm.at (i:=i)with⟨kd,v',e1,e2,r⟩|⟨_,e2⟩
  rotate_left
  ·rw[ei]at e2;exact rT e2
  rw[ei]at e2;refine aB e2 ?_;clear e2;intro h1;subst h1;refine kE ((sz r).up (Up.trans up u)) ?_;intro k q1';subst q1';intro a' d kvs uu qq q2';subst q2';intro _ hi' dk hvv q3';subst q3';intro hb;have base:∀a o,h0.get? a=some o->h.get? a=some o:=λa o e=>u a o (up a o (x.sr.hp.base a o e));refine⟨(·=uu),kh (Cxt:=Xc {}) D base ow.2.2.2 rfl (bT (kR hk) rfl (aL (az c4)) hn hm nd.1.1.2) hi' dk hvv (hZ hb),?_⟩;rintro y rfl;exact⟨qq,e1,hb⟩
 ·intro acc s2 ys len hR hac fa2 u2 g2 o2;have u:Up s.heap s2.heap:=Up.trans up u2;have x2:=x.up u;have hu:=hA.units;rw[B4];refine jl B x2 (h1:=s.heap) (by exact aU ‹_› (by decide)) hE.kind (hE.kindOf ju.1) (hE.cells ew 0 rfl).2 s2 _ _ rfl λval tk' hv=>?_;subst hv;obtain⟨items2,hL2,hz2,hi2⟩:=x2.list (o:=2) (n:=3) rfl;refine eJ hac ?_;clear hac;intro oa oe oc od mm om;have lenO:O.length=ms.length:=cm.length;refine rB (G:=GG I w h0 s.heap) (W:=O) (R1:=λkd y=>∃qq,kd=[.a qq]/\KA.isB qq y=true) (R2:=λkd y=>∃k,kd=[k]/\KI.isR pw w s2.heap k y) (s:={s2 with toks:=tk'}) (items:=ys.toArray) (by exact aU ‹_› (by decide)) ⟨oa,oe,oc,mm,om⟩ hL2.isList ?_ ?_ ?_ ?_
  ·refine gL ?_ λi y e=>?_
   ·rw[len,List.size_toArray];exact lenO
   ·refine an (hR i y e) ?_;intro qq e1 e2;exact⟨_,e1,qq,rfl,e2⟩
  ·rw[hi2];exact x2.ct.o.mono λkd y z=>z
  ·rintro k u v ⟨qq,rfl,hb⟩ ⟨k',e,hb'⟩;cases e;exact np (A:=A.in1) (by rw[in1_units];exact aY ‹_› (by decide)) hb hb'
  ·exact q _ (x2.up (λ_ _ e=>e)) (g2) (o2)
end
noncomputable def Rq (kd:KD) (y:Value):Prop:=∃qq,kd=[.a qq]/\KA.isB qq y=true
theorem gT(t:Int)(k:KD):∀(i:Nat) (O:List KD),aw t i (O++[k])=aw t i O++(if k=[.a (.i t)]then[[.a (.i (i+O.length:Nat))]]else[])
 |i,[]=>by
  show(if k=[KI.a (.i t)]then[.a (.i i)]::aw t (i+1) []else aw t (i+1) [])=[]++_;by_cases h:k=[.a (.i t)]
  ·rw[if_pos h,if_pos h];rfl
  ·rw[if_neg h,if_neg h];rfl
 |i,k'::r=>by
  have ih:=gT t k (i+1) r;have e:i+1+r.length=i+(k'::r).length:=by rw[List.length_cons];exact Nat.add_right_comm _ _ _
  rw[e]at ih;show(if k'=[KI.a (.i t)]then[.a (.i i)]::aw t (i+1) (r++[k])else aw t (i+1) (r++[k]))=(if k'=[KI.a (.i t)]then[.a (.i i)]::aw t (i+1) r else aw t (i+1) r)++_;rw[ih];split<;>rfl
theorem qh{h:Heap}{I:Nat}{x l st:Int}(y:PySem.IsRangeIter h I x l st):j4 h I:=⟨"range_iterator",_,⟨_,y,rfl,rfl⟩,by decide⟩
noncomputable def Ar:FC:=⟨bQ cf.names (aJ gr).names,[(bu,66),(ew,0)]⟩
theorem kQ:(Ak (aJ gr)&&(Ak (aJ dx)&&(aM (aJ dx).names (aJ dx).names&&iI (aJ dx) iN)))=true:=by kernel_rfl!
theorem AM:bW (aJ dx).names Ar.cells []=some [(ew,0),(bu,66)]:=by kernel_rfl!
theorem nZ:bE Ar.names nR=some .globalImplicit/\bE Ar.names jt=some .globalImplicit/\bE Ar.names ew=some .cell/\bE Ar.names bu=some .cell:=⟨by kernel_rfl!,by kernel_rfl!,by kernel_rfl!,by kernel_rfl!⟩
theorem names2:bE (bQ Ar.names (aJ dx).names) ew=some .cell/\bE (bQ Ar.names (aJ dx).names) bu=some .cell:=⟨by kernel_rfl!,by kernel_rfl!⟩
theorem FX:((Xc {}).gl nR=some (.bi .range))/\((Xc {}).gl jt=some (.bi .len)):=⟨by kernel_rfl!,by kernel_rfl!⟩
theorem Cf:((nR==("__debug__":Str))||(jt==("__debug__":Str))||(bu==("__debug__":Str))||(iN==("__debug__":Str)))=false:=by decide+kernel
section
variable{W T F O:List KD}
theorem uW(hE:ag ae cf J 66 L)(C:Nat):ag (compEnvC (aJ gr) [(bu,C+1),(ew,J 0)] C ae) Ar (dH J 66 (C+1)) 67 C where
 kind:=by
  have:=kQ
  simp only[Bool.and_eq_true]at this
  exact eP this.1
 names:=eL (S:=⟨66,.nil,[]⟩) hE _
 loc:=rfl
 glob:=hE.glob
 bi:=hE.bi
 cells x n h:=by
  have h:bE [(bu,66),(ew,0)] x=some n:=h
  have m:=iT h
  simp only[List.mem_cons,List.not_mem_nil,or_false,Prod.mk.injEq]at m
  rcases m with⟨rfl,rfl⟩|⟨rfl,rfl⟩
  ·refine⟨by decide,?_⟩
   rw[aV]
   show List.lookup bu [(bu,C+1),(ew,J 0)]=_
   rw[List.lookup_cons,beq_self_eq_true]
  ·refine⟨by decide,?_⟩
   rw[aA (by decide)]
   show List.lookup ew [(bu,C+1),(ew,J 0)]=_
   rw[List.lookup_cons,show(ew==bu)=false by decide+kernel,List.lookup_cons,beq_self_eq_true]
theorem vw(B:cQ w h0)(hA:Rm 9 A)(hE:ag ae cf J 66 L)(x:En w h0 L I W T F O J s){C:Nat}{t:Int}{tok:Tok}(hc:s.heap.IsCell (C+1) (some (.int t tok))){Q:Value->Shared->Prop}(q:∀(acc:Nat) (s':Shared) (ys:List Value),ac Rq (aw t 1 O) ys->jG s'.heap acc ys.toArray->s.heap.get? acc=none->Up s.heap s'.heap->s'.gens=s.gens->s'.os=s.os->Q (.ref acc) s'):wpAny (model pw w) A (eval dx (compEnvC (aJ gr) [(bu,C+1),(ew,J 0)] C ae)) Q E s:=by
 have sc:=kQ;simp only[Bool.and_eq_true]at sc;refine gM sc ?_;clear sc;intro c0 c1 c2 c3;have nd:=Cf;simp only[Bool.or_eq_false_iff]at nd;refine xA nd ?_;clear nd;intro q1' d4;obtain⟨⟨d1,d2⟩,d3⟩:=q1';have hE1:=uW hE C;have hu:=hA.units;have D:=Gd.c (cH (I:=I) (h1:=s.heap) (q:={}) B x.ok bx);obtain⟨cl,k1,k2⟩:=fX (S:=⟨67,.nil,[]⟩) hE1 (sc:=aJ dx) AM;have hk1:(compEnvC (aJ gr) [(bu,C+1),(ew,J 0)] C ae).scope.kind=.function:=eP c0;have hk2:∀C2,(compEnvC (aJ dx) cl C2 (compEnvC (aJ gr) [(bu,C+1),(ew,J 0)] C ae)).scope.kind=.function:=λC2=>eP c1;have kn2:∀C2 y k,bE (bQ Ar.names (aJ dx).names) y=some k->(compEnvC (aJ dx) cl C2 (compEnvC (aJ gr) [(bu,C+1),(ew,J 0)] C ae)).kindOf y=some k:=λC2 y k h=>by unfold Env.kindOf;show List.lookup y (relabel (aJ dx) _).names=some k;rw[eL (S:=⟨67,.nil,[]⟩) hE1,<-dY];exact h
 have cw:cl.lookup ew=some (J 0):=by have:=(wu.look k2 (x:=ew) (n:=0) rfl).2;rw[this,aA (by decide)]
 have ct:cl.lookup bu=some (C+1):=by have:=(wu.look k2 (x:=bu) (n:=66) (by decide+kernel)).2;rw[this,aV]
 obtain⟨items,hL,hz,hi⟩:=x.list (o:=2) (n:=3) rfl;have hsm:items.size<=100000:=by rw[<-Array.length_toList,hi];exact x.ok.small 2
 refine bb x.ct.m ?_;intro m0 ms em cm;have hO:ac (λkd v=>∃qq,kd=[.a qq]/\KA.isB qq v=true) O items.toList:=by
  rw[hi];refine gL x.ct.o.length λi b e=>?_;rcases x.ct.o.at (i:=i)with⟨kd,v',e1,e2,k,rfl,r⟩|⟨_,e2⟩
  rotate_left
  ·have e:(I.ol 2)[i]?=some b:=e;have e2:(I.ol 2)[i]?=none:=e2;rw[e]at e2;exact rT e2
  have e:(I.ol 2)[i]?=some b:=e;have e2:(I.ol 2)[i]?=some v':=e2;rw[e]at e2;refine aB e2 ?_;clear e2;intro h1;subst h1;rcases cm.at (i:=i)with⟨kd2,v2,e3,e4,k2,ek,a',d,kvs,uu,qq,_,_,_,_,_,rfl,_⟩|⟨e3,_⟩
  ·rw[e1]at e3;refine aB e3 ?_;clear e3;intro h1;subst h1;cases ek;exact⟨_,e1,qq,rfl,r⟩
  ·rw[e1]at e3;exact rT e3
 have lenO:O.length=items.size:=by rw[<-Array.length_toList];exact hO.length
 rw[xH]
 refine dQ (G:=GG I w h0 s.heap) (eP c1) c2 k1 (by
  have:bG (bH dx)=true:=by kernel_rfl!
  rw[xH]at this
  exact this) ?_
 refine w7 (G:=GG I w h0 s.heap) (h:=s.heap) (i:=(items.size:Nat)) (mM (Cxt:=Xc {}) D x.sr.hp.base hk1 (hE1.kindOf nZ.1) hE.glob hE.bi FX.1 d1) rfl
  (B' (mM (Cxt:=Xc {}) D x.sr.hp.base hk1 (hE1.kindOf nZ.2.1) hE.glob hE.bi FX.2 d2) rfl (jl B x (by exact aU ‹_› (by decide)) hk1 (hE1.kindOf nZ.2.2.1) (by have:=(hE1.cells ew 0 (by decide+kernel)).2;rw[this,aA (by decide)])) hL.isList hsm) rfl λa h' tk t1 t2 t3 up fa ir=>?_
 refine wpAny_pyIter_range (s:={s with heap:=h',toks:=tk}) ir (small_one (by decide) (by decide) (by exact Int.natCast_nonneg _) (by lia)) ?_;have rs:Builtin.Range.rangeSize 0 ((items.size:Nat):Int) 1=((items.size:Nat):Int):=by rw[rangeSize_one];split<;>lia
 rw[rs];dsimp only;have fI:h'.get? h'.objs.size=none:=aQ;have upI:Up h' (h'.push {cls:=.type "range_iterator",data:=.fields #[rawInt 0,rawInt ((items.size:Nat):Int),rawInt 1]}):=λb o e=>Heap.get?_push_of_some _ e;have nI:∀{a:Nat} {o:Obj},s.heap.get? a=some o->a≠h'.objs.size:=λe=>af (up _ _ e) fI;refine⟨h'.objs.size,[h'.objs.size],items.size,_,_,λ_ i ys h=>ac Rq (aw t 1 (O.take i)) ys,rfl,LCg.range_walks hA.handled 0 items.size,hsm,?_,?_,λi h y=>qh y,?_⟩
 ·show PySem.IsRangeIter _ _ _ _ _;have e:((items.size:Nat):Int) -((0:Nat):Int)=((items.size:Nat):Int):=by rfl
  rw[e];exact Heap.get?_push_size _ rfl
 ·intro b hb;rw[List.mem_singleton.mp hb];show h'.objs.size<(h'.push _).objs.size;rw[Heap.size_push];exact Nat.lt_succ_self _
 ·exact{
   start:=λZ h _ _=>by show ac _ (aw t 1 (O.take 0)) [];rw[List.take_zero];exact .nil
   stable:=λZ i ys h h' y _ _=>y
   turn:=by
    intro acc C2 i v s' ys m E' hi' hP hAcc hk' hg ho hns hC2 hCa _ _
    refine xE hP ?_;clear hP;intro tv q1';subst q1'
    have u1:Up s.heap s'.heap:=λa o e=>hk' a o (nI e) (upI a o (up a o e))
    have fC:s.heap.get? C2=none:=by
     induction c:s.heap.get? C2 using Option.casesOn with
     |none=>rfl
     |some o=>have:=upI _ _ (up _ _ c);rw[hC2]at this;exact aa this
    refine il (G:=GG I w h0 s.heap) (C:=C2) (m:=m) (hk2 C2) rfl (aL (az c3)) hns λh'' tk' hn' kp=>?_
    have u2:Up s.heap h'':=λa o e=>kp a o (af e fC) (u1 a o e)
    have x2:En w h0 L I W T F O J {s' with heap:=h'',toks:=tk'}:=x.up u2
    have hx:∃vi,items[i]?=some vi:=⟨items[i],Array.getElem?_eq_getElem hi'⟩
    refine xE hx ?_;clear hx;intro vi hvi
    have pi:PE (GG I w h0 s.heap) A (compEnvC (aJ dx) cl C2 (compEnvC (aJ gr) [(bu,C+1),(ew,J 0)] C ae)) h'' (.Name iN (bn (bR (l6 (nE (iV dx) 0))))) (pO ((i:Nat):Int)):=
     (bT (hk2 C2) rfl (aL (az c3)) hn' (if_pos rfl) d4).mono λv hv=>⟨tv,by rw[hv,Int.zero_add]⟩
    have ps:=sG (G:=GG I w h0 s.heap) (A:=A) (ae:=compEnvC (aJ dx) cl C2 (compEnvC (aJ gr) [(bu,C+1),(ew,J 0)] C ae)) (h:=h'') (p:=bn (l6 (nE (iV dx) 0))) (n:=i) (u:=vi) rfl (jl (k:=wo (bR (bL (l6 (nE (iV dx) 0))))) (p:=bn (bL (bL (l6 (nE (iV dx) 0))))) (p':=bn (bR (bL (l6 (nE (iV dx) 0))))) (p'':=bn (bL (l6 (nE (iV dx) 0)))) B x2 (by exact aU ‹_› (by decide)) (hk2 C2) (kn2 C2 _ _ names2.1) cw) (by obtain⟨o,g1,g2,_,n,g3⟩:=hL;exact⟨o,u2 _ _ g1,g2,n,g3⟩) pi hvi (by exact Nat.le_trans ‹_› (by decide))
    have hcell:h''.IsCell (C+1) (some (.int t tok)):=by obtain⟨o,g1,g2⟩:=hc;exact⟨o,u2 _ _ g1,g2⟩
    obtain⟨kd,e1,qq,rfl,hb⟩:∃kd,O[i]?=some kd/\∃qq,kd=[.a qq]/\KA.isB qq vi=true:=by
     rcases hO.at (i:=i)with⟨kd,v',e1,e2,r⟩|⟨_,e2⟩
     ·rw[Array.getElem?_toList,hvi]at e2
      refine aB e2 ?_;clear e2;intro h1;subst h1
      exact⟨kd,e1,r⟩
     ·rw[Array.getElem?_toList,hvi]at e2;exact rT e2
    have take1:O.take (i+1)=O.take i++[[.a qq]]:=by rw[List.take_add_one,e1];rfl
    have lt:(O.take i).length=i:=by rw[List.length_take];lia
    rw[List.forIn_cons,if_pos rfl]
    refine wpAny_bind (wpAny_bind (wpAny_isTrue_Compare1 ?_ (aZ rfl)))
    refine ps {s' with heap:=h'',toks:=tk'} _ _ rfl λval tk2 hval=>?_
    subst hval
    refine uA (G:=GG I w h0 s.heap) (h:=h'') (hk2 C2) (kn2 C2 _ _ names2.2) ct hcell d3 {s' with heap:=h'',toks:=tk2} _ _ rfl λval tk3 hval=>?_
    subst hval
    have fin:∀(b:Bool),(b=true↔qq=.i t)->wpAny (model pw w) A (pure (ForInStep.yield b)) (λst s3=>wpAny (model pw w) A (match st with
      |.done b=>pure b
      |.yield b=>forIn ([]:List PExpr) b λc r=>if r=true then do let ok<-isTrue c (compEnvC (aJ dx) cl C2 (compEnvC (aJ gr) [(bu,C+1),(ew,J 0)] C ae)) (eval c (compEnvC (aJ dx) cl C2 (compEnvC (aJ gr) [(bu,C+1),(ew,J 0)] C ae)));pure (ForInStep.yield ok)else pure (ForInStep.yield r)) (λok t3=>
       if ok=true then wpAny (model pw w) A (eval (.BinOp (.Constant (.int 1) (wo (bL (cN dx))) (bn (bL (cN dx)))) .Add (.Name iN (bn (bR (cN dx)))) (bn (cN dx))) (compEnvC (aJ dx) cl C2 (compEnvC (aJ gr) [(bu,C+1),(ew,J 0)] C ae))) (λy t4=>zf C2 s' t4/\ac Rq (aw t 1 (O.take (i+1))) (ys++[y])) E' t3
       else zf C2 s' t3/\ac Rq (aw t 1 (O.take (i+1))) ys) E' s3) E' {s' with heap:=h'',toks:=tk3}:=by
     intro b hbq
     refine wpAny_pure ?_
     dsimp only
     rw[List.forIn_nil]
     refine wpAny_pure ?_
     have ce:∀tk4,zf C2 s' {s' with heap:=h'',toks:=tk4}:=λtk4=>⟨kp,⟨_,hn'⟩,rfl,rfl⟩
     rw[take1,gT]
     induction b using Bool.casesOn with
     |true=>
      rw[if_pos rfl]
      have hq:=hbq.mp rfl
      subst hq
      rw[if_pos rfl,lt]
      refine Cc (G:=GG I w h0 s.heap) (h:=h'') kX ((bT (hk2 C2) rfl (aL (az c3)) hn' (if_pos rfl) d4).mono λv hv=>(⟨tv,by rw[hv,Int.zero_add]⟩:pO ((i:Nat):Int) v)) {s' with heap:=h'',toks:=tk3} _ _ rfl λy tk4 hy=>⟨ce tk4,?_⟩
      refine xE hy ?_;clear hy;intro ty q1';subst q1'
      refine ac.app hAcc (.cons ⟨_,rfl,?_⟩ .nil)
      show decide (((1+i:Nat):Int)=1+(i:Int))=true
      exact decide_eq_true (by rfl)
     |false=>
      rw[if_neg (by decide)]
      have hne:¬([KI.a qq]=[.a (.i t)]):=λe=>by
       injection e with e
       injection e with e
       have:=hbq.mpr e
       exact ai this
      rw[if_neg hne,List.append_nil]
      exact⟨ce tk3,hAcc⟩
    induction qq using KA.casesOn with
    |i u=>
     refine xE (KA.of_i hb) ?_;intro tu q1';subst q1'
     refine PyProof.Rows.eq_int (wpAny_truthy_bool (fin _ ?_))
     rw[beq_iff_eq]
     exact⟨λe=>by rw[e],λe=>by injection e⟩
    |s u=>
     refine xE (KA.of_s hb) ?_;intro tu q1';subst q1'
     refine EqMixed.eq_str_int (wpAny_truthy_bool (fin false ?_))
     exact⟨λe=>(by exact ai e),λe=>(by cases e)⟩
   fin:=by
    intro acc C2 ys s' hAcc ha2 hac hy hk' hg ho
    have e:O.take items.size=O:=List.take_of_length_le (Nat.le_of_eq lenO)
    have hAcc:ac Rq (aw t 1 (O.take items.size)) ys:=hAcc
    rw[e]at hAcc
    have ha1:s.heap.get? acc=none:=by
     induction c:s.heap.get? acc using Option.casesOn with
     |none=>rfl
     |some o=>have:=upI _ _ (up _ _ c);rw[ha2]at this;exact aa this
    exact q acc s' ys hAcc hac ha1 (λa o e=>hk' a o (nI e) (upI a o (up a o e))) hg ho}
end
theorem AN:bW (aJ gr).names cf.cells []=some [(ew,0)]:=by kernel_rfl!
theorem CU:((aJ gr).names.filter λy=>y.2==.cell)=[(bu,.cell)]:=by kernel_rfl!
theorem DZ:((aJ gr).names.all λy=>match y.2 with
 |.local=>iI (aJ gr) y.1
 |_=>true)=true:=by kernel_rfl!
noncomputable def vo (n o:Nat):Bool:=match fG.hp.get 20 with
 |some (.tab o' es [])=>Nat.beq o' 24&&es.any λy=>match y with
  |(.sym x 0,.ref m)=>Nat.beq x o&&Nat.beq m n
  |_=>false
 |_=>false
theorem qC{P:Prop}{x1:Mine.SV×Mine.SV}{f0:(Nat)->(Nat)->Bool}(h:(match x1 with|(Mine.SV.sym a1 0,Mine.SV.ref a2)=>f0 a1 a2|a1=>false)=true)(k0:∀a1 a2,x1=(Mine.SV.sym a1 0,Mine.SV.ref a2)->f0 a1 a2=true->P):P:=by
 obtain⟨z1,e1⟩:∃z,x1=z:=⟨_,rfl⟩
 rw[e1]at h;induction z1 using Prod.casesOn with
 |mk y1'0 y1'1=>
  induction y1'0 using SV.casesOn with
  |sym y2'0 y2'1=>
   induction y2'1 using Int.casesOn with
   |ofNat y3'0=>
    induction y3'0 using Nat.casesOn with
    |zero=>
     induction y1'1 using SV.casesOn with
     |ref y5'0=>exact k0 _ _ e1 h
     |_=>exact ai h
    |_=>exact ai h
   |_=>exact ai h
  |_=>exact ai h
theorem EZ:(vo 45 5000&&(vo 52 5010&&vo 59 5020))=true:=by decide+kernel
section
variable{W T F O:List KD} {f:Int}
theorem BL(x:En w h0 L I W T F O J s){n o:Nat}(b:vo n o=true):∃i:Nat,(i:Int)=I.nu o/\(I.ol 24)[i]?=some (.ref (J n)):=by
 unfold vo at b;split at b
 ·rename_i o' es e;rw[Bool.and_eq_true]at b;have b1:=Nat.eq_of_beq_eq_true b.1;subst b1;refine an (List.any_eq_true.mp b.2) ?_;intro y my hy;refine gd (x.sr.hp.obj 20 _ (by decide) e) ?_;intro items ys z c al g;refine qC hy ?_;clear hy;intro xx mm e0' hy;subst e0';rw[Bool.and_eq_true]at hy;have h1:=Nat.eq_of_beq_eq_true hy.1;have h2:=Nat.eq_of_beq_eq_true hy.2;subst h1 h2;refine ap (g _ my) ?_;intro i val a1 a2 a3;refine xA a3 ?_;clear a3;intro _ q1';subst q1';have a1:((i:Nat):Int)=I.nu xx+0:=a1;exact⟨i,by lia,a2⟩
 ·exact ai b
theorem Cz(ty:Ty I f)(dist:I.nu 5000≠I.nu 5010/\I.nu 5000≠I.nu 5020/\I.nu 5010≠I.nu 5020):∃g:Nat->Nat,∀i,i<3->g i<3/\I.nu (5000+10*g i)=64+(i:Int):=by
 have h:∀i:Nat,∃g,i<3->g<3/\I.nu (5000+10*g)=64+(i:Int):=λi=>by
  by_cases hi:i<3
  ·obtain⟨g,a⟩:=ty.grp dist (v:=64+(i:Int)) (by lia);exact⟨g,λ_=>a⟩
  ·exact⟨0,λc=>absurd c hi⟩
 exact⟨λi=>(h i).choose,λi hi=>(h i).choose_spec hi⟩
noncomputable def RM (J:Nat->Nat) (g:Nat->Nat) (i:Nat) (y:Value):Prop:=y=.ref (J (49+7*g i))
theorem zC(B:cQ w h0)(hA:Rm 9 A)(hE:ag ae cf J 66 L)(x:En w h0 L I W T F O J s)(ty:Ty I f)(dist:I.nu 5000≠I.nu 5010/\I.nu 5000≠I.nu 5020/\I.nu 5010≠I.nu 5020){Q:Value->Shared->Prop}(q:∀s',En w h0 L I W T F O J s'->s'.gens=s.gens->s'.os=s.os->Q (.bool true) s'):wpAny (model pw w) A (eval mc ae) (λa s₁=>wpAny (model pw w) A (eval gr ae) (λb s₂=>wpAny (model pw w) A (compareOp .Eq a b) Q E s₂) E s₁) E s:=by
 have sc:=qg;simp only[Bool.and_eq_true]at sc;refine pU sc ?_;clear sc;intro _ _ _ _ c1 c2 c3 c4;have sc6:=kQ;simp only[Bool.and_eq_true]at sc6;have fl:=Ef;simp only[Bool.and_eq_true]at fl;have ow:=DL;simp only[Bool.and_eq_true]at ow;have nd:=nX;simp only[Bool.or_eq_false_iff]at nd;have tb:=EZ;simp only[Bool.and_eq_true]at tb;have hu:=hA.units;refine an (fy hE c3) ?_;intro cl k1 q1';subst q1';have hk:=eP c1;refine xE (Cz ty dist) ?_;intro g hg;obtain⟨items,hL,hz,hi⟩:=x.list (o:=24) (n:=20) rfl;have hsz:items.size=67:=by have:=x.ok.len 24 (by decide);have l67:I.nu 1024=67:=ty.len;rw[<-Array.length_toList,hi];have e:I.nu (1000+24)=67:=l67;rw[e]at this;lia
 have at_:∀i,i<3->items[64+i]?=some (.ref (J (45+7*g i))):=by
  intro i hi3;refine xA (hg i hi3) ?_;intro g1 g2;have tt:vo (45+7*g i) (5000+10*g i)=true:=by
   have:g i=0\/g i=1\/g i=2:=by lia
   rcases this with e|e|e<;>rw[e]
   ·exact tb.1
   ·exact tb.2.1
   ·exact tb.2.2
  refine an (BL x tt) ?_;intro j e1 e2;rw[g2]at e1;have:j=64+i:=by lia
  subst this;rw[<-Array.getElem?_toList,hi];exact e2
 rw[xI]
 refine dQ (G:=GG I w h0 s.heap) hk c2 k1 (by
  have:bG (bH mc)=true:=by kernel_rfl!
  rw[xI]at this
  exact this) ?_
 refine kM (G:=GG I w h0 s.heap) (h:=s.heap) (l:=J 20) (sI B x (by decide) rfl (ql x hE) fl.2.1 ow.2.1) rfl hL.isList (by lia) (by lia) λa h' tk c up fa ha=>?_;refine jn (G:=GG I w h0 s.heap) (s1:={s with heap:=h',toks:=tk}) (its:=(items.toList.drop 64).toArray) (R:=RM J g) hA.handled hk (az c4) ⟨_,ha,rfl,_,rfl⟩ (by rw[List.size_toArray,List.length_drop,Array.length_toList];lia) ?_ ?_
 ·intro C h m i v u ei hn hm;rw[List.getElem?_toArray,List.getElem?_drop,Array.getElem?_toList]at ei;have hi3:i<3:=by have:=(Array.getElem?_eq_some_iff.mp ei).1;lia
  rw[at_ i hi3]at ei;refine aB ei ?_;clear ei;intro h1;subst h1;have x2:En w h0 L I W T F O J {s with heap:=h}:=x.up (Up.trans up u);refine xA (hg i hi3) ?_;intro g1 g2;refine⟨(·=.ref (J (49+7*g i))),?_,λy hy=>hy⟩;refine sI B x2 (h1:=s.heap) (n:=45+7*g i) (C:=252) (d:=46+7*g i) (by lia) rfl (bT (kR hk) rfl (aL (az c4)) hn hm nd.1.2) ?_ ow.2.2.1;have:g i=0\/g i=1\/g i=2:=by lia
  rcases this with e|e|e<;>rw[e]
  ·exact fl.2.2.1
  ·exact fl.2.2.2.1
  ·exact fl.2.2.2.2
 ·intro acc s2 ys len hR hac fa2 u2 gg2 o2;have u:Up s.heap s2.heap:=Up.trans up u2;have x2:=x.up u;have len3:ys.length=3:=by rw[len,List.size_toArray,List.length_drop,Array.length_toList];lia
  obtain⟨cl6,k6,k7⟩:=fX (S:=⟨66,.nil,[]⟩) hE (sc:=aJ gr) AN;refine ap (au k7) ?_;intro q1' cl0 q2';subst q2';intro q3' cq3;obtain⟨cx,ca⟩:=q1';obtain⟨cq1,_,cq2⟩:=q3';have q0':=aD cq3;subst q0';dsimp only at cq1 cq2;subst cq1 cq2;rw[Cp];refine tV (G:=GG I w h0 s.heap) (clf:=λC=>[(bu,C+1),(ew,J 0)]) (cl:=[(ew,J 0)]) (x:=bu) (eP sc6.1) (λy my hl=>?_) CU (λC=>rfl) k6 rfl ?_
  ·have:=List.all_eq_true.mp DZ y my;rw[hl]at this;exact az this
  refine pV (G:=GG I w h0 s.heap) (h:=s2.heap) (Vs:=[pO 64,pO 65,pO 66]) (.cons ⟨rfl,kX⟩ (.cons ⟨rfl,kX⟩ (.cons ⟨rfl,kX⟩ .nil))) rfl (by decide) λvals tk3 hv=>?_;refine ap (au hv) ?_;intro v1 r1 q1';subst q1';intro z1 hv;refine ap (au hv) ?_;intro v2 r2 q1';subst q1';intro z2 hv;refine ap (au hv) ?_;intro v3 r3 q1';subst q1';intro z3 hv;have q0':=aD hv;subst q0';have up3:Up s2.heap (s2.heap.push {cls:=.type "tuple",data:=.seq [v1,v2,v3].toArray}):=λb o e=>Heap.get?_push_of_some _ e;have ht:(s2.heap.push {cls:=.type "tuple",data:=.seq [v1,v2,v3].toArray}).IsTuple s2.heap.objs.size [v1,v2,v3].toArray:=⟨_,Heap.get?_push_size _ rfl,rfl,_,rfl⟩
  refine wpAny_pyIter_tuple (s:={s2 with heap:=s2.heap.push {cls:=.type "tuple",data:=.seq [v1,v2,v3].toArray},toks:=tk3}) ht ?_;dsimp only;generalize hH3:s2.heap.push {cls:=.type "tuple",data:=.seq [v1,v2,v3].toArray}=H3 at up3 ht|-;have hsH:H3.objs.size=s2.heap.objs.size+1:=by rw[<-hH3,Heap.size_push]
  have hne3:s2.heap.objs.size≠H3.objs.size:=by rw[hsH];exact Nat.ne_of_lt (Nat.lt_succ_self _)
  have fI:H3.get? H3.objs.size=none:=aQ;have upI:Up H3 (H3.push {cls:=.type "tuple_iterator",data:=.fields #[.ref s2.heap.objs.size,.int 0 0]}):=λb o e=>Heap.get?_push_of_some _ e;have nI:∀{a:Nat} {o:Obj},s2.heap.get? a=some o->a≠H3.objs.size:=λe=>af (up3 _ _ e) fI;have ut:Up s2.heap (H3.push {cls:=.type "tuple_iterator",data:=.fields #[.ref s2.heap.objs.size,.int 0 0]}):=Up.trans up3 upI
  refine⟨H3.objs.size,[H3.objs.size,s2.heap.objs.size],3,λi v=>[v1,v2,v3].toArray[i]?=some v,λi h=>h.IsTupleIter H3.objs.size s2.heap.objs.size i/\h.IsTuple s2.heap.objs.size [v1,v2,v3].toArray,
   λZ i zs h=>zs.length=i/\∀(j:Nat) y,zs[j]?=some y->∃b ks,y=.ref b/\¬Z b/\jG h b (List.toArray ks)/\s2.heap.get? b=none/\ac Rq (aw (64+(j:Int)) 1 O) ks,rfl,Walks.tuple hA.handled H3.objs.size s2.heap.objs.size hne3 [v1,v2,v3].toArray,by decide,⟨⟨_,Heap.get?_push_size _ rfl,rfl,rfl⟩,by obtain⟨o,e,r⟩:=ht;exact⟨o,upI _ _ e,r⟩⟩,?_,?_,?_⟩
  ·intro b hb;show b<(H3.push _).objs.size;rw[Heap.size_push];rcases List.mem_cons.mp hb with rfl|hb
   ·exact Nat.lt_succ_self _
   ·rw[List.mem_singleton.mp hb,hsH];exact Nat.lt_succ_of_lt (Nat.lt_succ_self _)
  ·rintro i h ⟨⟨o,e1,e2,e3⟩,_⟩;exact⟨"tuple_iterator",_,⟨o,e1,e2,e3⟩,by decide⟩
  ·exact{
    start:=λZ h _ _=>⟨rfl,λj y e=>by exact aa e⟩
    stable:=λZ i zs h h'' hA' kz kt=>⟨hA'.1,λj y e=>by
     refine cM (hA'.2 j y e) ?_;intro b ks e1 e2 q1' e4 e5;obtain⟨o,p1,p2⟩:=q1'
     exact⟨b,ks,e1,e2,⟨o,kz b o p1 e2,p2⟩,e4,e5⟩⟩
    turn:=by
     intro acc2 C i v s' zs m E' hi' hP hAcc hk' hg' ho' hns hcell hC2 hD2 hCa hDa hac2 hI2
     have tv:∃tok,v=.int (64+(i:Int)) tok:=by
      have:i=0\/i=1\/i=2:=by lia
      rcases this with rfl|rfl|rfl
      ·refine aB hP ?_;clear hP;intro h1;subst h1;obtain⟨t,e⟩:=z1;exact⟨t,e⟩
      ·refine aB hP ?_;clear hP;intro h1;subst h1;obtain⟨t,e⟩:=z2;exact⟨t,e⟩
      ·refine aB hP ?_;clear hP;intro h1;subst h1;obtain⟨t,e⟩:=z3;exact⟨t,e⟩
     refine xE tv ?_;clear tv;intro tok q1';subst q1'
     have u1:Up s2.heap s'.heap:=λa o e=>hk' a o (nI e) (ut a o e)
     have fD:s2.heap.get? (C+1)=none:=by
      induction c:s2.heap.get? (C+1)using Option.casesOn with
      |none=>rfl
      |some o=>have:=ut _ _ c;rw[hD2]at this;exact aa this
     refine xE hcell ?_;clear hcell;intro ov hcl
     have hE1:=uW hE C
     have ec:(compEnvC (aJ gr) [(bu,C+1),(ew,J 0)] C ae).cells.lookup bu=some (C+1):=by
      have:=(hE1.cells bu 66 (by decide+kernel)).2
      rw[this,aV]
     show wpAny _ _ (do standAt _;bindName _ bu _) _ _ _
     refine wpAny_bind (wpAny_standAt (wpAny_bindName (wpAny_storeName_cell hE1.kind (hE1.kindOf nZ.2.2.2) ec hcl λh'' hc'' hs''=>?_)))
     rw[List.forIn_nil]
     refine wpAny_pure ?_
     rw[if_pos rfl]
     have u3:Up s2.heap h'':=λa o e=>by rw[hs''.2 a (af e fD)];exact u1 a o e
     have x3:En w h0 L I W T F O J {s' with heap:=h''}:=x2.up u3
     refine vw (s:={s' with heap:=h''}) B hA hE x3 hc'' λb t4 ks hks hpl fb ub gb ob=>?_
     have kk:∀a o,a≠C->a≠C+1->s'.heap.get? a=some o->t4.heap.get? a=some o:=λa o _ h2 e=>ub a o (by rw[hs''.2 a h2];exact e)
     have nsC:h''.Ns C m:=hns.at' λo e=>by rw[hs''.2 C (Nat.ne_of_lt (Nat.lt_succ_self _))];exact e
     have alive:∀a,(∃o,s'.heap.get? a=some o)->∃o,h''.get? a=some o:=by
      rintro a ⟨o,e⟩
      by_cases c:a=C+1
      ·subst c
       refine an hc'' ?_;clear hc'';intro o' e' _
       exact⟨o',e'⟩
      ·exact⟨o,by rw[hs''.2 a c];exact e⟩
     have nb:∀a,(∃o,h''.get? a=some o)->b≠a:=by
      rintro a ⟨o,e⟩ rfl
      have fb:h''.get? b=none:=fb
      rw[e]at fb
      exact rT fb
     refine⟨⟨kk,⟨m,nsC.at' λo e=>ub C o e⟩,?_,gb,ob⟩,?_⟩
     ·refine an hc'' ?_;clear hc'';intro o e1 e2
      exact⟨_,o,ub _ _ e1,e2⟩
     ·refine xA hAcc ?_;clear hAcc;intro a1 a2
      refine⟨by rw[List.length_append,a1];rfl,λj z e=>?_⟩
      by_cases c:j<zs.length
      ·rw[List.getElem?_append_left c]at e
       refine cM (a2 j z e) ?_;intro b' ks' e1 e2 q1' e4 e5;obtain⟨o,p1,p2⟩:=q1'
       exact⟨b',ks',e1,e2,⟨o,kk b' o (λq=>e2 (.inr (.inr (.inl q)))) (λq=>e2 (.inr (.inr (.inr q)))) p1,p2⟩,e4,e5⟩
      ·rw[List.getElem?_append_right (by exact Nat.not_lt.mp ‹_›)]at e
       have hj:j -zs.length=0:=by
        induction d:j -zs.length using Nat.casesOn with
        |zero=>rfl
        |succ n=>rw[d]at e;exact aa e
       rw[hj]at e
       refine aB e ?_;clear e;intro h1;subst h1
       have:j=i:=by lia
       subst this
       refine⟨b,ks,rfl,?_,hpl,?_,hks⟩
       ·rintro(e|e|e|e)
        ·exact nb _ (alive _ hI2) e
        ·exact nb _ (alive _ hac2) e
        ·refine pS nsC ?_;clear nsC;intro o _ _ e2 _
         exact nb _ ⟨o,e2⟩ e
        ·refine an hc'' ?_;clear hc'';intro o e2 _
         exact nb _ ⟨o,e2⟩ e
       ·induction c:s2.heap.get? b using Option.casesOn with
        |none=>rfl
        |some o=>
         have:=u3 _ _ c
         have fb:h''.get? b=none:=fb
         rw[fb]at this
         exact aa this
    fin:=by
     intro acc2 C zs s' hAcc ha2 hac2 hy hk' hg' ho'
     have u1:Up s2.heap s'.heap:=λa o e=>hk' a o (nI e) (ut a o e)
     have x4:En w h0 L I W T F O J s':=x2.up u1
     refine eJ hac ?_;clear hac;intro oa oe oc od mm om
     refine eJ hac2 ?_;clear hac2;intro ob' oe' oc' od' mm' om'
     refine rB (G:=GG I w h0 s.heap) (K:=Nat) (W:=[0,1,2]) (R1:=λj y=>j<3/\RM J g j y) (R2:=λj y=>∃b ks,y=.ref b/\jG s'.heap b (List.toArray ks)/\s2.heap.get? b=none/\ac Rq (aw (64+(j:Int)) 1 O) ks) (items:=ys.toArray) (items2:=zs.toArray) (by exact aU ‹_› (by decide)) ⟨oa,u1 _ _ oe,oc,mm,om⟩ ⟨ob',oe',oc',mm',om'⟩ ?_ ?_ ?_ ?_
     ·refine gL (by rw[len3];rfl) λi y e=>?_
      have hi3:i<3:=by
       have:=(List.getElem?_eq_some_iff.mp e).1
       have:i<ys.length:=this
       exact aE ‹_› ‹_›
      refine⟨i,?_,hi3,hR i y e⟩
      have:i=0\/i=1\/i=2:=by lia
      rcases this with rfl|rfl|rfl<;>rfl
     ·refine gL (by rw[hAcc.1];rfl) λi y e=>?_
      have hi3:i<3:=by
       have:=(List.getElem?_eq_some_iff.mp e).1
       have:i<zs.length:=this
       have h3:=hAcc.1
       exact Nat.lt_of_lt_of_le ‹_› ‹_›
      refine cM (hAcc.2 i y e) ?_;intro b ks e1 _ e3 e4 e5
      refine⟨i,?_,b,ks,e1,e3,e4,e5⟩
      have:i=0\/i=1\/i=2:=by lia
      rcases this with rfl|rfl|rfl<;>rfl
     ·rintro j u v ⟨hj3,rfl⟩ ⟨b,ks,rfl,⟨o,p1,p2,_,n,p3⟩,fb,hks⟩
      refine xA (hg j hj3) ?_;intro g1 g2
      have hg3:g j=0\/g j=1\/g j=2:=by lia
      have ne:J (49+7*g j)≠b:=by
       refine xE (x2.sr.hp.lv (49+7*g j) (by show 49+7*g j<66;lia)) ?_;intro o' e'
       exact af e' fb
      have main:∃itm,jG s'.heap (J (49+7*g j)) itm/\ac (bg pw w s'.heap (Nm J L) A3) (aw (64+(j:Int)) 1 O) itm.toList:=by
       rw[<-g2]
       rcases hg3 with e|e|e<;>rw[e]
       ·obtain⟨itm,l1,_,l2⟩:=x4.list (o:=11) (n:=49) rfl
        exact⟨itm,l1,by rw[l2];exact x4.ct.p0⟩
       ·obtain⟨itm,l1,_,l2⟩:=x4.list (o:=12) (n:=56) rfl
        exact⟨itm,l1,by rw[l2];exact x4.ct.p1⟩
       ·obtain⟨itm,l1,_,l2⟩:=x4.list (o:=13) (n:=63) rfl
        exact⟨itm,l1,by rw[l2];exact x4.ct.p2⟩
      refine an main ?_;clear main;intro itm l1 l2
      have items:=PySem.SeqAt.EqAt.of_refs (A:=A.in1) (s:=s') (k:=(List.range itm.size).all λ_=>true) ne ?_
      ·rw[lX]at items
       exact items
      ·obtain⟨h1,h2⟩:=ig (A:=A.in1.in1) (s:=s') (R1:=bg pw w s'.heap (Nm J L) A3) (R2:=Rq) (items:=itm) (items2:=ks.toArray) l2 hks (by
        rintro k u v ⟨k',rfl,r⟩ ⟨qq,e,hb⟩
        cases e
        exact np (by rw[in1_units,in1_units];lia) r hb)
       exact PySem.SeqAt.RcAt.lists l1.isList ⟨o,p1,p2,n,p3⟩ h1 (by rw[in1_units];exact aU ‹_› (by decide)) h2
     ·exact q s' x4 (hg'.trans gg2) (ho'.trans o2)}
end
theorem og:(bG (rX AS)&&(bG (rX Bv)&&(bG (rX AR)&&bG zO)))=true:=by kernel_rfl!
section
variable{W T F O:List KD} {vals:List Int} {f:Int} {Q:Flow->Shared->Prop}
theorem zy(B:cQ w h0)(hA:Rm 9 A)(hE:ag ae cf J 66 L)(x:En w h0 L I W T F O J s)(hv:ac cW vals (I.ol 1))(q:∀J' s',En w h0 L I W T F O J' s'->(∀m,m<66->J' m=J m)->s'.gens=s.gens->s'.os=s.os->Q .next s'):wpAny (model pw w) A (exec A6 ae) Q E s:=by have mk:=og;simp only[Bool.and_eq_true]at mk;rw[BV];refine wpAny_If (isTrue_or (wpAny_isTrue_Compare1 (zH B hA hE x hv λJ1 s1 x1 e1 g1 o1=>wpAny_truthy_bool ?_) (aZ mk.1)));rw[if_neg (by decide)];refine isTrue_or (wpAny_isTrue_Compare1 (zE B hA (hE.after e1 (Nat.le_refl _)) x1 hv λJ2 s2 x2 e2 g2 o2=>wpAny_truthy_bool ?_) (aZ mk.2.1));rw[if_neg (by decide)];refine isTrue_or_nil ?_;rw[if_neg (by decide)];exact wpAny_execs_nil (q J2 s2 x2 (λm hm=>(e2 m hm).trans (e1 m hm)) (g2.trans g1) (o2.trans o1))
theorem zx(B:cQ w h0)(hA:Rm 9 A)(hE:ag ae cf J 66 L)(x:En w h0 L I W T F O J s)(hv:ac cW vals (I.ol 1))(q:∀J' s',En w h0 L I W T F O J' s'->(∀m,m<66->J' m=J m)->s'.gens=s.gens->s'.os=s.os->Q .next s'):wpAny (model pw w) A (exec A5 ae) Q E s:=by have mk:=og;simp only[Bool.and_eq_true]at mk;rw[BU];refine wpAny_If (isTrue_or (wpAny_isTrue_Compare1 (zG B hA hE x hv λJ1 s1 x1 e1 g1 o1=>wpAny_truthy_bool ?_) (aZ mk.2.2.1)));rw[if_neg (by decide)];refine isTrue_or (wpAny_isTrue_Compare1 (zD B hA (hE.after e1 (Nat.le_refl _)) x1 hv λJ2 s2 x2 e2 g2 o2=>wpAny_truthy_bool ?_) (aZ rfl));rw[if_neg (by decide)];refine isTrue_or_nil ?_;rw[if_neg (by decide)];exact wpAny_execs_nil (q J2 s2 x2 (λm hm=>(e2 m hm).trans (e1 m hm)) (g2.trans g1) (o2.trans o1))
theorem zw(B:cQ w h0)(hA:Rm 9 A)(hE:ag ae cf J 66 L)(x:En w h0 L I W T F O J s)(ty:Ty I f)(dist:I.nu 5000≠I.nu 5010/\I.nu 5000≠I.nu 5020/\I.nu 5010≠I.nu 5020)(q:∀s',En w h0 L I W T F O J s'->s'.gens=s.gens->s'.os=s.os->Q (.ret (.bool true)) s'):wpAny (model pw w) A (exec BS ae) Q E s:=by
 have mk:=og;simp only[Bool.and_eq_true]at mk;rw[BR];refine wpAny_Return_some ?_;show wpAny _ _ (boolOp _ .And (evalEach [_,_] ae)) _ _ _;show wpAny _ _ (eval (.Compare kx [.Eq] [zO] (bn Di)) ae>>=_) _ _ _;refine wpAny_bind (wpAny_Compare1 (zF B hA hE x λs1 x1 g1 o1=>?_) (aZ mk.2.2.2));refine wpAny_bind (wpAny_standAt (wpAny_bind (wpAny_holding (wpAny_truthy_bool ?_))));show wpAny _ _ (eval (.Compare mc [.Eq] [gr] (bn ES)) ae) _ _ _
 refine wpAny_Compare1 (zC B hA hE x1 ty dist λs2 x2 g2 o2=>q s2 x2 (g2.trans g1) (o2.trans o1)) (aZ (by
  have:bG gr=true:=by kernel_rfl!
  exact this))
theorem AE(B:cQ w h0)(hA:Rm 9 A)(hE:ag ae cf J 66 L)(r:SR (GG I w h0 s.heap) J fG s L){dn:List Int}{Bd:Nat}(V:b0 (GG I w h0 s.heap) J s.heap L dn Bd)(ty:Ty I f)(hv:ac cW vals (I.ol 1))(q:∀s',(∀a o,h0.get? a=some o->s'.heap.get? a=some o)->s'.gens=s.gens->s'.os=s.os->Q (.ret (.bool true)) s'):wpAny (model pw w) A (execs [A6,A5,BS] ae) Q E s:=by refine jH V.ct ?_;intro W T F O C;refine wpAny_execs_cons (zy B hA hE ⟨r,C,V.ok⟩ hv λJ1 s1 x1 e1 g1 o1=>?_);have hE1:ag ae cf J1 66 L:=hE.after e1 (Nat.le_refl _);refine wpAny_execs_cons (zx B hA hE1 x1 hv λJ2 s2 x2 e2 g2 o2=>?_);have hE2:ag ae cf J2 66 L:=hE1.after e2 (Nat.le_refl _);refine wpAny_execs_cons (zw B hA hE2 x2 ty V.dist λs3 x3 g3 o3=>?_);exact q s3 x3.sr.hp.base (g3.trans (g2.trans g1)) (o3.trans (o2.trans o1))
end
noncomputable def bK:Str:=⟨⟨[115,99,114,105,112,116]⟩⟩
noncomputable def Fa:Str:=⟨⟨[110]⟩⟩
noncomputable def FJ (e:PExpr):PExpr:=nO (ev e).os 1
noncomputable def fL (P:Params):FuncData:=match(XX P {}).fn 853 with
 |some f=>f
 |none=>default
theorem Eh(P:Params)(q:io):(XX P q).fn 853=some (fL P):=by kernel_rfl!
theorem Av(P:Params):(fL P).body=.stmts (dB er):=by kernel_rfl!
theorem yv(P:Params):(fL P).scope.names=cf.names:=by kernel_rfl!
theorem yu(P:Params):(cR (fL P).params&&!(fL P).scope.isGenerator)=true:=by kernel_rfl!
theorem Ax(P:Params)(u:SV):eu (fL P).params.args [u]=some [(bK,u)]:=by kernel_rfl!
noncomputable def uS:Tr:=.node (.cell none) .nil .nil
theorem yw:cK cf.names ⟨0,.nil,[]⟩ []=(⟨1,uS,[]⟩,[(ew,0)]):=by kernel_rfl!
theorem Aw(u:SV):eG cf [(bK,u)] ⟨1,uS,[]⟩=some ⟨1,uS,[(bK,u)]⟩:=by kernel_rfl!
noncomputable def zR:List Stmt:=[cY (dB er) 1,cY (dB er) 2,cY (dB er) 3,cY (dB er) 4,cY (dB er) 5,cY (dB er) 6,cY (dB er) 7,cY (dB er) 8,cY (dB er) 9,cY (dB er) 10]
@[irreducible]noncomputable def zv:Stmt:=cY (dB er) 0
theorem Ag:dB er=zv::(zR++[oS,A6,A5,BS]):=by kernel_rfl!
noncomputable def tU:PExpr:=Fw zv
noncomputable def yH (e:PExpr):List (Option PExpr):=(ev e).os
noncomputable def FV (e:PExpr):List PExpr:=(ev e).es
noncomputable def FU (e:PExpr):Pos:=(ev e).p
noncomputable def C9:List (Option PExpr):=(yH tU).drop 1
noncomputable def EO:List PExpr:=(FV tU).drop 1
noncomputable def kB:PExpr:=nE (FV tU) 0
noncomputable def zk:List (Option PExpr)->Nat×Pos
 |some e::_=>((ev e).k,(ev e).p)
 |_=>(0,default)
theorem BW:zv=.Assign [.Name ew (aC (Dg zv))] (.Dict (some (.Constant (.str gU) (zk (yH tU)).1 (zk (yH tU)).2)::C9) (kB::EO) (FU tU)) (sE zv):=by kernel_rfl!
theorem xK:kB=.ListComp (.BinOp (.Name Fa (bn (bL (cN kB)))) .Mod (.Constant (.int 1000003) (wo (bR (cN kB))) (bn (bR (cN kB)))) (bn (cN kB))) [⟨.Name Fa (bn (gq kB)),.Subscript (.Name bK (bn (bL (bH kB)))) (.Slice none (some (.Constant (.int ((63:Nat):Int)) (wo (FJ (bR (bH kB)))) (bn (FJ (bR (bH kB)))))) none (bn (bR (bH kB)))) (bn (bH kB)),[],0⟩] (aJ kB) (bn kB):=by kernel_rfl!
theorem wQ:(Ak (aJ kB)&&(aM (aJ kB).names (aJ kB).names&&(fN (aJ kB)&&iI (aJ kB) Fa)))=true:=by kernel_rfl!
theorem wn:((some (PySem.Expr.Constant (.str gU) (zk (yH tU)).1 (zk (yH tU)).2)::C9).all (·.isSome)&&((some (PySem.Expr.Constant (.str gU) (zk (yH tU)).1 (zk (yH tU)).2)::C9).length==(kB::EO).length&&decide ((some (PySem.Expr.Constant (.str gU) (zk (yH tU)).1 (zk (yH tU)).2)::C9).length<=15)))=true:=by kernel_rfl!
noncomputable def S4:St:=⟨3,.node (.cell none) (.node (.sd []) .nil .nil) (.node (.lst 1 []) .nil .nil),[]⟩
noncomputable def AV:St:=⟨11,((((((((((uS.put 0 (.cell (some (.ref 1)))).put 1 (.sd [(gU,.ref 2),(cu,.int 0),(yL,.int 0),(eA,.ref 3),(⟨⟨[119,111,114,107]⟩⟩,.ref 4),(⟨⟨[116,111,108,100]⟩⟩,.ref 5),(⟨⟨[109,101,116]⟩⟩,.ref 6),(⟨⟨[115,105,103,110,115]⟩⟩,.ref 7),(⟨⟨[112,97,105,114,115]⟩⟩,.ref 8),(⟨⟨[104,101,97,100,115]⟩⟩,.ref 9),(⟨⟨[102,97,99,101,115]⟩⟩,.ref 10)])).put 2 (.lst 1 [])).put 3 (.lst 0 [])).put 4 (.lst 0 [])).put 5 (.lst 0 [])).put 6 (.lst 0 [])).put 7 (.lst 0 [])).put 8 (.lst 0 [])).put 9 (.lst 0 [])).put 10 (.lst 0 []),[]⟩
noncomputable def Eo:Option (List (SV×SV)×St):=dicts (rW (Xc {}) 100 9) cf C9 EO S4
theorem st0:(match Eo with
 |some (kvs,S5)=>(match jk (Xc {}) S5 (.ref 1) ((.str gU,.ref 2)::kvs)with
  |some S6=>di cf S6 ew (.ref 1)
  |none=>none)
 |none=>none)=some AV:=by kernel_rfl!
noncomputable def Ba (ys:List Value) (f m:Int) (x:Nat):Int:=if x=6 then f else if x=7 then m else if x=1001 then(ys.length:Int)else if x=1020 then 20 else if x=5000 then 64 else if x=5001 then 17 else if x=5005 then 2 else 0
noncomputable def iP (ys:List Value) (f m:Int):IP where
 nu:=Ba ys f m
 ol o:=if o=0 then[]else if o=1 then ys else List.replicate (Ba ys f m (1000+o)).toNat .none
 od _:=[]
 ss x:=if x=1 then⟨⟨[81]⟩⟩else if x=2 then⟨⟨[82]⟩⟩else⟨⟨[80]⟩⟩
theorem qn{ys:List Value}{f m:Int}{o:Nat}(h:o≠0)(h1:o≠1)(hy:ys.length<=63):0<=Ba ys f m (1000+o)/\Ba ys f m (1000+o)<=64:=by
 unfold Ba;rw[if_neg (by lia),if_neg (by lia),if_neg (by lia)];split
 ·decide
 ·split
  ·decide
  ·split
   ·decide
   ·split<;>decide
theorem xT{ys:List Value}{f m:Int}(hy:ys.length<=63)(o:Nat):((iP ys f m).ol o).length<=64:=by
 show(if o=0 then([]:List Value)else if o=1 then ys else List.replicate (Ba ys f m (1000+o)).toNat .none).length<=64;split
 ·exact Nat.zero_le _
 ·split
  ·exact Nat.le_succ_of_le ‹_›
  ·rename_i h h1;have:=qn (f:=f) (m:=m) h h1 hy;rw[List.length_replicate];lia
theorem uQ{ys:List Value}{f m:Int}(hy:ys.length<=63):(iP ys f m).Ok where
 l0:=rfl
 d0:=rfl
 len o h:=by
  show Ba ys f m (1000+o)=((if o=0 then([]:List Value)else if o=1 then ys else List.replicate (Ba ys f m (1000+o)).toNat .none).length:Int)
  rw[if_neg h]
  split
  ·rename_i h1
   subst h1
   rfl
  ·rename_i h1
   have:=qn (f:=f) (m:=m) h h1 hy
   rw[List.length_replicate]
   lia
 small o:=by have:=xT (f:=f) (m:=m) hy o;exact Nat.le_trans ‹_› (by decide)
 smallD o:=Nat.zero_le _
 ss1 x:=by
  show∃c,(if x=1 then(⟨⟨[81]⟩⟩:Str)else if x=2 then⟨⟨[82]⟩⟩else⟨⟨[80]⟩⟩).cps.toList=[c]
  split
  ·exact⟨_,rfl⟩
  ·split<;>exact⟨_,rfl⟩
 rg x lo hi e:=by
  unfold zj at e
  refine ah e ?_ ?_<;>clear e
  ·intro c e
   have:=Nat.eq_of_beq_eq_true c
   subst this
   refine gS e ?_;clear e;intro h1 h2;subst h1;subst h2
   exact(show(64:Int)<=64/\(64:Int)<=66 by decide)
  ·intro _ e
   refine ah e ?_ ?_<;>clear e
   ·intro c e
    have:=Nat.eq_of_beq_eq_true c
    subst this
    refine gS e ?_;clear e;intro h1 h2;subst h1;subst h2
    exact(show(17:Int)<=17/\(17:Int)<=19 by decide)
   ·intro _ e
    refine ah e ?_ ?_<;>clear e
    ·intro c e
     have:=Nat.eq_of_beq_eq_true c
     subst this
     refine gS e ?_;clear e;intro h1 h2;subst h1;subst h2
     exact(show(20:Int)<=20/\(20:Int)<=21 by decide)
    ·intro _ e
     refine ab e ?_;clear e;intro c e
     have:=Nat.eq_of_beq_eq_true c
     subst this
     refine gS e ?_;clear e;intro h1 h2;subst h1;subst h2
     exact(show(2:Int)<=2/\(2:Int)<=3 by decide)
 ch x hx:=by
  have h2:x=5006\/x=5007:=by
   unfold yP at hx
   split at hx
   ·rename_i c;exact .inl (Nat.eq_of_beq_eq_true c)
   ·split at hx
    ·rename_i c;exact .inr (Nat.eq_of_beq_eq_true c)
    ·exact(hx rfl).elim
  rcases h2 with rfl|rfl
  ·exact⟨0,by decide,rfl⟩
  ·exact⟨0,by decide,rfl⟩
theorem vI{vs:List Value}{ns:List Int}(h:IntsAre vs ns):ac (λ(n:Int) v=>∃t,v=.int n t) ns vs:=by
 induction h with
 |nil=>exact .nil
 |cons n t _ ih=>exact .cons ⟨t,rfl⟩ ih
section
variable{Q:Flow->Shared->Prop} {a:Nat} {vs:List Value} {ns:List Int} {f m:Int}
noncomputable def S3 (a:Nat):St:=⟨2,uS.put 1 (.sd []),[(bK,.top a)]⟩
theorem zB(B:cQ w h0)(hA:Rm 9 A)(hE:ag ae cf J 2 L)(r:SR (GG I w h0 h0) J (S3 a) s L)(hl:h0.IsList a vs.toArray)(hi:IntsAre vs ns)(hn:ns.length<=63){Q:Value->Shared->Prop}(q:∀(acc:Nat) (s':Shared) (ys:List Value),ac cW (ns.map λn=>n.fmod 1000003) ys->jG s'.heap acc ys.toArray->s.heap.get? acc=none->Up s.heap s'.heap->s'.gens=s.gens->s'.os=s.os->Q (.ref acc) s'):wpAny (model pw w) A (eval kB ae) Q E s:=by
 have sc:=wQ;simp only[Bool.and_eq_true]at sc;refine gM sc ?_;clear sc;intro c1 c2 c3 c4;have hE':ag ae cf J 2 L:=hE;refine an (fy hE' c3) ?_;intro cl k1 q1';subst q1';have hk:=eP c1;have al:=vI hi;have hlen:vs.length<=63:=by rw[<-al.length];exact hn
 have hl2:s.heap.IsList a vs.toArray:=by obtain⟨o,e,r'⟩:=hl;exact⟨o,r.hp.base _ _ e,r'⟩
 refine an r.lc.ns ?_;intro m' hm fm
 obtain⟨val,hm1,hm2⟩:=fm bK (.top a) (by
  have:bE [(bK,SV.top a)] bK=some (.top a):=by
   unfold bE
   rw[show cq bK bK=true by decide+kernel]
  exact this)
 have hm2:val=.ref a:=hm2;subst hm2;have ek:ae.kindOf bK=some .local:=hE.kindOf (by kernel_rfl!);rw[xK]
 refine dQ (G:=GG I w h0 h0) hk c2 k1 (by
  have:bG (bH kB)=true:=by kernel_rfl!
  rw[xK]at this
  exact this) ?_
 refine sw (G:=GG I w h0 h0) (h:=s.heap) (l:=a) (n:=63) (bT hE.kind hE.loc ek hm hm1 (by decide+kernel)) rfl hl2 (by rw[List.size_toArray];exact Nat.le_trans ‹_› (by decide)) λb h' tk c up fb hb=>?_;have et:(vs.toArray.toList.take 63).toArray=vs.toArray:=by have:vs.toArray.toList.take 63=vs:=List.take_of_length_le hlen;rw[this]
 rw[et]at hb;refine jn (G:=GG I w h0 h0) (s1:={s with heap:=h',toks:=tk}) (its:=vs.toArray) (R:=λi y=>∃z,ns[i]?=some z/\pO (z.fmod 1000003) y) hA.handled hk (az c4) ⟨_,hb,rfl,_,rfl⟩ (by rw[List.size_toArray];exact Nat.le_trans ‹_› (by decide)) ?_ ?_
 ·intro C h m i v u ei hn' hmv;rw[List.getElem?_toArray]at ei;rcases al.at (i:=i)with⟨z,v',e1,e2,t,rfl⟩|⟨_,e2⟩
  rotate_left
  ·rw[ei]at e2;exact rT e2
  rw[ei]at e2;refine aB e2 ?_;clear e2;intro h1;subst h1;refine⟨pO (z.fmod 1000003),B8 (G:=GG I w h0 h0) (by decide) ((bT (kR hk) rfl (aL (az c4)) hn' hmv (by decide+kernel)).mono λv hv=>(⟨t,hv⟩:pO z v)) kX,λy hy=>⟨z,e1,hy⟩⟩
 ·intro acc s2 ys len hR hac fa u2 g2 o2;refine q acc s2 ys ?_ hac ?_ (Up.trans up u2) g2 o2
  ·refine gL ?_ λi y e=>?_
   ·rw[List.length_map,len,List.size_toArray];exact al.length
   ·refine an (hR i y e) ?_;intro z e1 e2;exact⟨z.fmod 1000003,by rw[List.getElem?_map,e1];rfl,e2⟩
  ·induction c:s.heap.get? acc using Option.casesOn with
   |none=>rfl
   |some o=>have:=up _ _ c;have fa:h'.get? acc=none:=fa;rw[fa]at this;exact aa this
theorem wV(B:cQ w h0)(hA:Rm 9 A)(hE:ag ae cf J 1 L)(r:SR (GG I w h0 h0) J ⟨1,uS,[(bK,.top a)]⟩ s L)(hn:ns.length<=63){ks:List (Option PExpr)}{es:List PExpr}{e0:PExpr}{k0:Nat}{p0 dp tp sp:Pos}{kvs:List (SV×SV)}{S5 S6:St}(f1:(some (PySem.Expr.Constant (.str gU) k0 p0)::ks).all (·.isSome)=true)(f2:(some (PySem.Expr.Constant (.str gU) k0 p0)::ks).length=(e0::es).length)(f3:(some (PySem.Expr.Constant (.str gU) k0 p0)::ks).length<=15)(e3:dicts (rW (Xc {}) 100 9) cf ks es S4=some (kvs,S5))(e4:jk (Xc {}) S5 (.ref 1) ((.str gU,.ref 2)::kvs)=some S6)(e5:di cf S6 ew (.ref 1)=some AV)(he0:∀{J:Nat->Nat} {s:Shared} {E:Value->Shared->Prop} {Q:Value->Shared->Prop},ag ae cf J 2 L->SR (GG I w h0 h0) J (S3 a) s L->(∀(acc:Nat) (s':Shared) (ys:List Value),ac cW (ns.map λn=>n.fmod 1000003) ys->jG s'.heap acc ys.toArray->s.heap.get? acc=none->Up s.heap s'.heap->s'.gens=s.gens->s'.os=s.os->Q (.ref acc) s')->wpAny (model pw w) A (eval e0 ae) Q E s)(q:∀J' s' ys,ac cW (ns.map λn=>n.fmod 1000003) ys->SR (GG (iP ys f m) w h0 h0) J' AV s' L->ag ae cf J' 11 L->s'.gens=s.gens->s'.os=s.os->Q .next s'):wpAny (model pw w) A (exec (.Assign [.Name ew tp] (.Dict (some (.Constant (.str gU) k0 p0)::ks) (e0::es) dp) sp) ae) Q E s:=by
 have hu:=hA.units;have hs:∀(ks:List (Option PExpr)) (es:List PExpr) (p:Pos) (t:PExpr) (n:Nat),swapsWithSole [t] (.Dict ks es p) n ae=pure false:=λks es p t n=>gh (ae:=ae) (e:=.Dict ks es p) (t:=some t) (n:=n) rfl;refine wpAny_Assign_stores ?_ (hs _ _ _ _ _) (iA rfl (λ_ _ h=>by cases h));refine wpAny_Dict_any f1 f2 (by simp) f3 ?_
 have new:OR (GG I w h0 h0) (dH J 1 s.heap.objs.size) (1+1) (s.heap.push {cls:=.type "dict",data:=.dict #[]}) s.heap.objs.size (.sd []):=
  ⟨[],fj (G:=GG I w h0 h0) ⟨_,_,Heap.get?_push_size _ rfl,⟨rfl,rfl,rfl⟩,rfl⟩,.nil⟩
 obtain⟨r0,t0,v0⟩:=r.push (X:=XL L) (tk:=s.toks+1) new;show wpAny _ _ (eval (.Constant (.str gU) k0 p0) ae>>=_) _ _ _;refine wpAny_bind (wpAny_Constant_str ?_);have hE0:ag ae cf (dH J 1 s.heap.objs.size) 2 L:=hE.after (λn hn'=>aA hn') (by decide);refine wpAny_bind (wpAny_holding (wpAny_bind (he0 (s:={s with heap:=s.heap.push {cls:=.type "dict",data:=.dict #[]},toks:=s.toks+1}) hE0 r0 λacc s5 ys hys hac fa up g5 o5=>wpAny_bind (wpAny_standAt (wpAny_pure ?_)))));have ylen:ys.length<=63:=by rw[<-hys.length,List.length_map];exact hn
 have ok:=uQ (f:=f) (m:=m) ylen;have r1:SR (GG (iP ys f m) w h0 h0) (dH J 1 s.heap.objs.size) ⟨2,uS.put 1 (.sd []),[]⟩ {s with heap:=s.heap.push {cls:=.type "dict",data:=.dict #[]},toks:=s.toks+1} L:=by
  refine⟨⟨?_,r0.hp.lv,r0.hp.inj,r0.hp.off,r0.hp.base,r0.hp.tk⟩,⟨?_,r0.lc.off,r0.lc.ne⟩⟩
  ·intro n o hn' e;have hn':n<2:=hn';have old:=r0.hp.obj n o hn' e;have:n=0\/n=1:=by lia
   rcases this with rfl|rfl
   ·refine aB e ?_;clear e;intro h1;subst h1;exact old
   ·refine aB e ?_;clear e;intro h1;subst h1;refine an old ?_;clear old;intro kvs dk al;exact⟨kvs,dk,by rw[aK al];exact .nil⟩
  ·refine an r0.lc.ns ?_;intro m' hm _;exact⟨m',hm,λx v h=>by exact aa h⟩
 refine eJ hac ?_;clear hac;intro oa oe oc od nn om
 have newL:OR (GG (iP ys f m) w h0 h0) (dH (dH J 1 s.heap.objs.size) 2 acc) (2+1) s5.heap acc (.lst 1 []):=
  ⟨ys.toArray,[],⟨⟨oa,oe,oc,od,nn,om⟩,by rw[List.size_toArray];exact Nat.le_trans ‹_› (by decide)⟩,by
   show ys.toArray.toList=ys++[]
   rw[List.append_nil],.nil⟩
 obtain⟨r2,t2,v2⟩:=r1.alloc (X:=XL L) (h':=s5.heap) (tk:=s5.toks) (a:=acc) up fa newL;have r3:SR (GG (iP ys f m) w h0 h0) (dH (dH J 1 s.heap.objs.size) 2 acc) S4 s5 L:=⟨⟨r2.hp.obj,r2.hp.lv,r2.hp.inj,r2.hp.off,r2.hp.base,r2.hp.tk⟩,⟨r2.lc.ns,r2.lc.off,r2.lc.ne⟩⟩
 have hE2:ag ae cf (dH (dH J 1 s.heap.objs.size) 2 acc) 3 L:=hE0.after (λn hn'=>aA hn') (by decide);have vals:ac cW (ns.map λn=>n.fmod 1000003) ((iP ys f m).ol 1):=hys;have D:=Gd.c (cH (I:=iP ys f m) (h1:=h0) (q:={}) B ok bx);have O:=lf (q:={}) (h1:=h0) B ok bx (pC (G:=GG (iP ys f m) w h0 h0) vals);refine wpAny_bind (wpAny_holding (lL O e3 hA hE2 r3 λJ6 vals6 s6 t6 r6 v6=>wpAny_pure ?_));have ext6:∀n,n<3->J6 n=dH (dH J 1 s.heap.objs.size) 2 acc n:=λn hn'=>t6.ext n hn';have le6:3<=S5.next:=t6.le;have h61:J6 1=s.heap.objs.size:=by rw[ext6 1 (by decide),aA (by decide),aV]
 have h62:J6 2=acc:=by rw[ext6 2 (by decide),aV]
 refine mK D (by exact aU ‹_› (by decide)) e4 (n:=1) (by exact Nat.lt_of_succ_lt ‹_›) h61 r6 (.cons ⟨⟨_,rfl⟩,⟨by assumption,by rw[h62]⟩⟩ v6) λJ7 s7 t7 r7=>?_;have ext7:∀n,n<S5.next->J7 n=J6 n:=λn hn'=>t7.ext n hn';have le7:=t7.le;have hE7:ag ae cf J7 S6.next L:=(hE2.stp (S:=S4) t6).stp t7;rw[eW (λ_ _ h=>by cases h)];refine ij D O hA hE7 r7 (v:=.ref 1) ⟨by lia,by rw[ext7 1 (by exact Nat.lt_of_succ_lt ‹_›),h61]⟩ (show y0 (Xc {}) (rW (Xc {}) 100 9) cf (.Name ew tp) (.ref 1) S6=some AV from e5) λJ8 s8 t8 r8=>?_;have T:=(t6.trans t7).trans t8;refine q J8 s8 ys hys r8 (hE7.stp t8) (T.gens.trans g5) (T.os.trans o5)
end
structure Bx (ks:List (Option PExpr)) (es:List PExpr) (e0:PExpr) (k0:Nat) (p0 dp tp sp:Pos):Prop where
 eq:zv=.Assign [.Name ew tp] (.Dict (some (.Constant (.str gU) k0 p0)::ks) (e0::es) dp) sp
 form:((some (PySem.Expr.Constant (.str gU) k0 p0)::ks).all (·.isSome)&&((some (PySem.Expr.Constant (.str gU) k0 p0)::ks).length==(e0::es).length&&decide ((some (PySem.Expr.Constant (.str gU) k0 p0)::ks).length<=15)))=true
 run:(match dicts (rW (Xc {}) 100 9) cf ks es S4 with
  |some (kvs,S5)=>(match jk (Xc {}) S5 (.ref 1) ((.str gU,.ref 2)::kvs)with
   |some S6=>di cf S6 ew (.ref 1)
   |none=>none)
  |none=>none)=some AV
theorem Ed:Bx C9 EO kB (zk (yH tU)).1 (zk (yH tU)).2 (FU tU) (aC (Dg zv)) (sE zv)where
 eq:=BW
 form:=wn
 run:=st0
theorem CB:∃ks es k0 p0 dp tp sp,Bx ks es kB k0 p0 dp tp sp:=⟨_,_,_,_,_,_,_,Ed⟩
section
variable{Q:Flow->Shared->Prop} {a:Nat} {vs:List Value} {ns:List Int} {f m:Int}
theorem zz(B:cQ w h0)(hA:Rm 9 A)(hE:ag ae cf J 1 L)(r:SR (GG I w h0 h0) J ⟨1,uS,[(bK,.top a)]⟩ s L)(hl:h0.IsList a vs.toArray)(hi:IntsAre vs ns)(hn:ns.length<=63)(q:∀J' s' ys,ac cW (ns.map λn=>n.fmod 1000003) ys->SR (GG (iP ys f m) w h0 h0) J' AV s' L->ag ae cf J' 11 L->s'.gens=s.gens->s'.os=s.os->Q .next s'):wpAny (model pw w) A (exec zv ae) Q E s:=by
 obtain⟨ks,es,k0,p0,dp,tp,sp,F⟩:=CB;have df:=F.form;rw[Bool.and_eq_true,Bool.and_eq_true]at df;have st:=F.run;rw[F.eq];split at st
 ·rename_i kvs S5 e3;split at st
  ·rename_i S6 e4;exact wV B hA hE r hn df.1 (of_decide_eq_true df.2.1) (of_decide_eq_true df.2.2) e3 e4 st (λhE r q=>zB B hA hE r hl hi hn q) q
  ·exact aa st
 ·exact aa st
end
noncomputable def FO:List Nat:=[0,1,2,3,4,5,6,7,8,9,10,12,11,14,13,15,16,17,18,19,43,39,45,44,46,54,67,66,72,70,124,123,126,128,129,130,131,132,22,28,34,74,73,41,62,80,79,82,84,86,91,90,95,94,97,99,101,106,105,110,109,112,114,116,121,120]
noncomputable def n8 (n:Nat):Nat:=(nth FO n).getD 0
theorem vC:(decide (FO.length=66)&&((List.range 66).all λm=>(List.range 66).all λn=>Nat.beq m n||!(Nat.beq (n8 m) (n8 n))))=true:=by decide+kernel
noncomputable def Fj (s:Nat->Nat):List (Nat×SV):=[(1,.int 5),(2,.int 0),(1002,.int 0),(1003,.int 0),(1004,.int 0),(1005,.int 0),(1006,.int 0),(1007,.int 0),(1008,.int 0),(1009,.int 0),(1010,.int 0),(1011,.int 0),(1012,.int 0),(1013,.int 0),(1014,.int 1),(1015,.int 0),(1016,.int 0),(1017,.int 0),(1020,.int 20),(1021,.int 20),(1022,.int 20),(1023,.int 20),(1024,.int 67),(5000,.int 64),(5001,.int 17),(5002,.int ((s 0:Nat)+1)),(5003,.int ((s 0:Nat)+2)),(5010,.int 65),(5011,.int 18),(5012,.int ((s 1:Nat)+1)),(5013,.int ((s 1:Nat)+2)),(5020,.int 66),(5021,.int 19),(5022,.int ((s 2:Nat)+1)),(5023,.int ((s 2:Nat)+2))]
noncomputable def E0:List (Nat×Str):=[(0,⟨⟨[80]⟩⟩),(1,⟨⟨[81]⟩⟩),(2,⟨⟨[82]⟩⟩)]
noncomputable def eF (s:Nat->Nat) (m:Nat):Cv:=⟨n8,Fj s,[],[(7,m)],E0⟩
noncomputable def sM (s:Nat->Nat):io:={draws:=[(.int 0,3,.sym 7 0),(.int 1,2,.int (s 0)),(.int 2,2,.int (s 1)),(.int 3,2,.int (s 2)),(.int 4,3,.sym 6 0)]}
noncomputable def DH (s:Nat->Nat):Option (Fl×St):=(rW (Xc (sM s)) 100 9).sts cf zR AV
noncomputable def tS (S:St) (n:Nat):Bool:=match S.hp.get n with
 |some (.lst 0 [])=>true
 |_=>false
theorem mn{P:Prop}{x1:Option Mine.SO}{f0:Bool}(h:(match x1 with|Option.some (Mine.SO.lst 0 [])=>f0|a1=>false)=true)(k0:x1=Option.some (Mine.SO.lst 0 [])->f0=true->P):P:=by
 obtain⟨z1,e1⟩:∃z,x1=z:=⟨_,rfl⟩
 rw[e1]at h;induction z1 using Option.casesOn with
 |some y1'0=>
  induction y1'0 using SO.casesOn with
  |lst y2'0 y2'1=>
   induction y2'0 using Nat.casesOn with
   |zero=>
    induction y2'1 using List.casesOn with
    |nil=>exact k0 e1 h
    |_=>exact ai h
   |_=>exact ai h
  |_=>exact ai h
 |_=>exact ai h
noncomputable def FR (s:Nat->Nat) (S:St):Bool:=match S.hp.get 16 with
 |some (.hd 0 es)=>Nat.ble es.length 100&&((match i7 [.a (.int 7),.a (.int 0)] es with
  |some none=>true
  |_=>false)&&([0,1,2].all λg=>match i7 [.a (.int ((s g:Nat)+2)),.a (.int (64+(g:Nat))),.t []] es with
  |some (some (.int i))=>d7 i (17+(g:Nat))
  |_=>false))
 |_=>false
theorem tg{P:Prop}{x1:Option (Option Mine.SV)}{f0:(Int)->Bool}(h:(match x1 with|Option.some (Option.some (Mine.SV.int a1))=>f0 a1|a1=>false)=true)(k0:∀a1,x1=Option.some (Option.some (Mine.SV.int a1))->f0 a1=true->P):P:=by
 obtain⟨z1,e1⟩:∃z,x1=z:=⟨_,rfl⟩
 rw[e1]at h;induction z1 using Option.casesOn with
 |some y1'0=>
  induction y1'0 using Option.casesOn with
  |some y2'0=>
   induction y2'0 using SV.casesOn with
   |int y3'0=>exact k0 _ e1 h
   |_=>exact ai h
  |_=>exact ai h
 |_=>exact ai h
theorem th{P:Prop}{x1:Option (Option Mine.SV)}{f0:Bool}(h:(match x1 with|Option.some Option.none=>f0|a1=>false)=true)(k0:x1=Option.some Option.none->f0=true->P):P:=by
 obtain⟨z1,e1⟩:∃z,x1=z:=⟨_,rfl⟩
 rw[e1]at h;induction z1 using Option.casesOn with
 |some y1'0=>
  induction y1'0 using Option.casesOn with
  |none=>exact k0 e1 h
  |_=>exact ai h
 |_=>exact ai h
noncomputable def EJ (S:St) (n:Nat):Bool:=match S.hp.get n with
 |some (.sd [])=>true
 |_=>false
theorem sY{P:Prop}{x1:Option Mine.SO}{f0:Bool}(h:(match x1 with|Option.some (Mine.SO.sd [])=>f0|a1=>false)=true)(k0:x1=Option.some (Mine.SO.sd [])->f0=true->P):P:=by
 obtain⟨z1,e1⟩:∃z,x1=z:=⟨_,rfl⟩
 rw[e1]at h;induction z1 using Option.casesOn with
 |some y1'0=>
  induction y1'0 using SO.casesOn with
  |sd y2'0=>
   induction y2'0 using List.casesOn with
   |nil=>exact k0 e1 h
   |_=>exact ai h
  |_=>exact ai h
 |_=>exact ai h
noncomputable def xB (S:St):Bool:=([2,3,4,5,6,7,8,9,10,11,12,13,15,16,17].all λo=>match bF fq o with
 |some n=>tS S (n8 n)
 |none=>false)&&((match S.hp.get 39 with
 |some (.lst 0 [.none])=>true
 |_=>false)&&(match S.hp.get 2 with
 |some (.lst 1 [])=>true
 |_=>false))
theorem me{P:Prop}{x1:Option Mine.SO}{f0:Bool}(h:(match x1 with|Option.some (Mine.SO.lst 1 [])=>f0|a1=>false)=true)(k0:x1=Option.some (Mine.SO.lst 1 [])->f0=true->P):P:=by
 obtain⟨z1,e1⟩:∃z,x1=z:=⟨_,rfl⟩
 rw[e1]at h;induction z1 using Option.casesOn with
 |some y1'0=>
  induction y1'0 using SO.casesOn with
  |lst y2'0 y2'1=>
   induction y2'0 using Nat.casesOn with
   |succ y3'0=>
    induction y3'0 using Nat.casesOn with
    |zero=>
     induction y2'1 using List.casesOn with
     |nil=>exact k0 e1 h
     |_=>exact ai h
    |_=>exact ai h
   |_=>exact ai h
  |_=>exact ai h
 |_=>exact ai h
theorem mf{P:Prop}{x1:Option Mine.SO}{f0:Bool}(h:(match x1 with|Option.some (Mine.SO.lst 0 [Mine.SV.none])=>f0|a1=>false)=true)(k0:x1=Option.some (Mine.SO.lst 0 [Mine.SV.none])->f0=true->P):P:=by
 obtain⟨z1,e1⟩:∃z,x1=z:=⟨_,rfl⟩
 rw[e1]at h;induction z1 using Option.casesOn with
 |some y1'0=>
  induction y1'0 using SO.casesOn with
  |lst y2'0 y2'1=>
   induction y2'0 using Nat.casesOn with
   |zero=>
    induction y2'1 using List.casesOn with
    |cons y4'0 y4'1=>
     induction y4'0 using SV.casesOn with
     |none=>
      induction y4'1 using List.casesOn with
      |nil=>exact k0 e1 h
      |_=>exact ai h
     |_=>exact ai h
    |_=>exact ai h
   |_=>exact ai h
  |_=>exact ai h
 |_=>exact ai h
theorem mh{P:Prop}{x1:Option Nat}{f0:(Nat)->Bool}(h:(match x1 with|Option.some a1=>f0 a1|Option.none=>false)=true)(k0:∀a1,x1=Option.some a1->f0 a1=true->P):P:=by
 obtain⟨z1,e1⟩:∃z,x1=z:=⟨_,rfl⟩
 rw[e1]at h;induction z1 using Option.casesOn with
 |some y1'0=>exact k0 _ e1 h
 |_=>exact ai h
noncomputable def B6 (s:Nat->Nat) (S:St):Bool:=([0,1,2].all λm=>(eF s m).hpB S (BH ((m:Nat)+1)) 66&&(eF s m).locB S (BH ((m:Nat)+1)))&&((eF s 0).lenB S&&(FR s S&&(EJ S 131&&(EJ S 132&&(xB S&&Nat.ble 133 S.next)))))
noncomputable def w8 (a b c:Nat):Bool:=match DH (λg=>match g with|0=>a|1=>b|_=>c)with
 |some (.next,S)=>B6 (λg=>match g with|0=>a|1=>b|_=>c) S
 |_=>false
theorem oH{P:Prop}{x1:Option (Mine.Fl×Mine.St)}{f0:(Mine.St)->Bool}(h:(match x1 with|Option.some (Mine.Fl.next,a1)=>f0 a1|a1=>false)=true)(k0:∀a1,x1=Option.some (Mine.Fl.next,a1)->f0 a1=true->P):P:=by
 obtain⟨z1,e1⟩:∃z,x1=z:=⟨_,rfl⟩
 rw[e1]at h;induction z1 using Option.casesOn with
 |some y1'0=>
  induction y1'0 using Prod.casesOn with
  |mk y2'0 y2'1=>
   induction y2'0 using Fl.casesOn with
   |next=>exact k0 _ e1 h
   |_=>exact ai h
 |_=>exact ai h
theorem zQ:([0,1].all λa=>[0,1].all λb=>[0,1].all λc=>w8 a b c)=true:=by decide+kernel
theorem Er(m:Int):(nH (BH m) 66&&rr (BH m) 66)=true:=by kernel_rfl!
theorem z8{m n:Nat}(hm:m<66)(hn:n<66)(e:n8 m=n8 n):m=n:=by
 have h:=vC;rw[Bool.and_eq_true]at h;have q:=List.all_eq_true.mp (List.all_eq_true.mp h.2 m (List.mem_range.mpr hm)) n (List.mem_range.mpr hn);rw[Bool.or_eq_true]at q;rcases q with q|q
 ·exact Nat.eq_of_beq_eq_true q
 ·have t:Nat.beq (n8 m) (n8 n)=true:=by rw[e];exact Nat.beq_refl _
  rw[t]at q;exact ai q
noncomputable def cX (a b c:Nat):Nat->Nat:=λg=>match g with|0=>a|1=>b|_=>c
section
variable{s1:Shared} {S1:St} {ys:List Value} {f m:Nat} {a b c:Nat}
theorem yE{I:IP}{h1:Heap}(ok:I.Ok)(r:SR (GG I w h0 h1) J S1 s1 L){n:Nat}(hn:n<S1.next)(e:tS S1 n=true):bm s1.heap (J n)=[]:=by unfold tS at e;refine mn e ?_;clear e;intro e' e;refine an (dZ r.hp hn (.inl e')) ?_;intro zs e1 e2;have e1:bm s1.heap (J n)=I.ol 0++zs:=e1;rw[e1,ok.l0,aK e2];rfl
theorem zP(hy:ys.length<=63)(ha:a<2)(hb:b<2)(hc:c<2)(hm:m<3)(r:SR (GG (iP ys f m) w h0 h0) J S1 s1 L)(pb:B6 (cX a b c) S1=true):∃I',SR (GG I' w h0 s1.heap) (J∘n8) (BH ((m:Nat)+1)) s1 L/\b0 (GG I' w h0 s1.heap) (J∘n8) s1.heap L [] 1200/\Ty I' f/\I'.ol 1=ys/\I'.nu 1=5:=by
 unfold B6 at pb;simp only[Bool.and_eq_true]at pb;refine iw pb ?_;clear pb;intro p1 p2 p3 p4 p5 p6 p7;have p7:=Nat.le_of_ble_eq_true p7
 have p1:=List.all_eq_true.mp p1 m (by
  have:m=0\/m=1\/m=2:=by lia
  rcases this with rfl|rfl|rfl<;>decide)
 rw[Bool.and_eq_true]at p1;have ok:=uQ (f:=f) (m:=m) hy;obtain⟨I,hI⟩:∃I,I=iP ys f m:=⟨_,rfl⟩
 rw[<-hI]at r ok;have n6:I.nu 6=f:=by rw[hI];rfl
 have n7:I.nu 7=m:=by rw[hI];rfl
 have l1:I.ol 1=ys:=by rw[hI];rfl
 unfold FR at p3;split at p3;rotate_left
 ·exact ai p3
 rename_i es e16;simp only[Bool.and_eq_true]at p3;refine l8 p3 ?_;clear p3;intro q1 q2 q3;have q1:=Nat.le_of_ble_eq_true q1;refine an (r.hp.obj 16 _ (by lia) e16) ?_;intro xs q1' al;obtain⟨dk,nd⟩:=q1';have dk:s1.heap.DictOfH (ay pw w) (J 16) (bO (I.od 0) xs):=dk;rw[ok.d0]at dk;obtain⟨od',hod⟩:∃od':Nat->List (KD×Addr×Value),od'=λo=>if o=1 then bO [] xs else[]:=⟨_,rfl⟩
 have od1:od' 1=bO [] xs:=by rw[hod];rfl
 have od2:od' 2=[]:=by rw[hod];rfl
 have od3:od' 3=[]:=by rw[hod];rfl
 have odL:∀o,(od' o).length<=100:=by
  intro o;rw[hod];dsimp only;split
  ·have:=dm xs [];have e:=al.length;rw[e]at q1;simp only[List.length_nil]at this;lia
  ·exact Nat.zero_le _
 have nuI:∀x i,bF (Fj (cX a b c)) x=some (.int i)->((eF (cX a b c) m).toI I s1.heap J od').nu x=i:=by intro x i e;show(eF (cX a b c) m).nu I x=i;unfold Cv.nu;rw[show bF (eF (cX a b c) m).dl x=some (.int i)from e]
 have nuN:∀x,bF (Fj (cX a b c)) x=none->((eF (cX a b c) m).toI I s1.heap J od').nu x=I.nu x:=by intro x e;show(eF (cX a b c) m).nu I x=_;unfold Cv.nu;rw[show bF (eF (cX a b c) m).dl x=none from e]
 have k:dG (eF (cX a b c) m) I ((eF (cX a b c) m).toI I s1.heap J od'):=Cv.toI_ok _ _ _ _ (λx i h=>by
  have h:bF [(7,((m:Nat):Int))] x=some i:=h
  have mm:=aP h
  rw[List.mem_singleton]at mm
  refine EK mm ?_;clear mm;intro h1 h2;subst h1;subst h2
  exact n7) (λx st h=>by
  have mm:=aP (l:=E0) h
  unfold E0 at mm
  simp only[List.mem_cons,List.not_mem_nil,or_false,Prod.mk.injEq]at mm
  rcases mm with⟨rfl,rfl⟩|⟨rfl,rfl⟩|⟨rfl,rfl⟩<;>(rw[hI];rfl))
 have muLt:∀x∈fq,n8 x.2<S1.next:=by
  intro x mx;have:∀x∈fq,n8 x.2<133:=by decide
  have:=this x mx;exact Nat.lt_of_lt_of_le ‹_› ‹_›
 obtain⟨okN,jt⟩:=Cv.toI_Ok (c:=eF (cX a b c) m) (od:=od') ok r.hp muLt p2 (B:=1000) (λo=>by
   show(I.ol o).length<=1000
   rw[hI]
   have:=xT (f:=f) (m:=m) hy o
   exact Nat.le_trans ‹_› (by decide)) (Nat.le_refl _) (by decide) (by rw[hod];rfl) (λo=>by have:=odL o;exact Nat.le_trans ‹_› (by decide)) (by
  intro x lo hi e
  unfold zj at e
  refine ah e ?_ ?_<;>clear e
  ·intro cc e
   have:=Nat.eq_of_beq_eq_true cc
   subst this
   refine gS e ?_;clear e;intro h1 h2;subst h1;subst h2
   exact(show(64:Int)<=64/\(64:Int)<=66 by decide)
  ·intro _ e
   refine ah e ?_ ?_<;>clear e
   ·intro cc e
    have:=Nat.eq_of_beq_eq_true cc
    subst this
    refine gS e ?_;clear e;intro h1 h2;subst h1;subst h2
    exact(show(17:Int)<=17/\(17:Int)<=19 by decide)
   ·intro _ e
    refine ah e ?_ ?_<;>clear e
    ·intro cc e
     have:=Nat.eq_of_beq_eq_true cc
     subst this
     refine gS e ?_;clear e;intro h1 h2;subst h1;subst h2
     exact(show(20:Int)<=20/\(20:Int)<=21 by decide)
    ·intro _ e
     split at e
     ·rename_i cc
      have:=Nat.eq_of_beq_eq_true cc
      subst this
      refine gS e ?_;clear e;intro h1 h2;subst h1;subst h2
      have:(eF (cX a b c) m).nu I 5005=2:=by
       show I.nu 5005=2
       rw[hI];rfl
      show(2:Int)<=(eF (cX a b c) m).nu I 5005/\(eF (cX a b c) m).nu I 5005<=3
      rw[this]
      decide
     ·exact aa e) (by
  intro x hx
  have h2:x=5006\/x=5007:=by
   unfold yP at hx
   split at hx
   ·rename_i cc;exact .inl (Nat.eq_of_beq_eq_true cc)
   ·split at hx
    ·rename_i cc;exact .inr (Nat.eq_of_beq_eq_true cc)
    ·exact(hx rfl).elim
  rcases h2 with rfl|rfl
  ·exact⟨0,by decide,by show I.nu 5006=_;rw[hI];rfl⟩
  ·exact⟨0,by decide,by show I.nu 5007=_;rw[hI];rfl⟩)
 unfold xB at p6;simp only[Bool.and_eq_true]at p6;refine l8 p6 ?_;clear p6;intro u1 u2 u3;have olE:∀o n,bF fq o=some n->((eF (cX a b c) m).toI I s1.heap J od').ol o=bm s1.heap (J (n8 n)):=λo n e=>si e;have nil_:∀o,o∈[2,3,4,5,6,7,8,9,10,11,12,13,15,16,17]->((eF (cX a b c) m).toI I s1.heap J od').ol o=[]:=by intro o mo;have:=List.all_eq_true.mp u1 o mo;refine mh this ?_;clear this;intro n e this;rw[olE o n e];exact yE ok r (muLt _ (aP e)) this
 have kx:∃v,((eF (cX a b c) m).toI I s1.heap J od').ol 14=[v]:=by rw[olE 14 21 rfl];refine mf u2 ?_;clear u2;intro e u2;refine an (dZ r.hp (muLt (14,21) (by decide)) (.inl (show S1.hp.get (n8 21)=some (.lst 0 [.none])from e))) ?_;intro zs e1 e2;have e1:bm s1.heap (J (n8 21))=I.ol 0++zs:=e1;rw[e1,ok.l0];refine ap (au e2) ?_;intro v r1 q1';subst q1';intro _ h2;rw[aK h2];exact⟨v,rfl⟩
 have lI1:((eF (cX a b c) m).toI I s1.heap J od').ol 1=ys:=by rw[olE 1 2 rfl];refine me u3 ?_;clear u3;intro e u3;refine an (dZ r.hp (muLt (1,2) (by decide)) (.inl (show S1.hp.get (n8 2)=some (.lst 1 [])from e))) ?_;intro zs e1 e2;have e1:bm s1.heap (J (n8 2))=I.ol 1++zs:=e1;rw[e1,l1,aK e2,List.append_nil]
 have sdN:∀n,n<S1.next->EJ S1 n=true->s1.heap.DictOfH (ay pw w) (J n) []:=by intro n hn e;unfold EJ at e;refine sY e ?_;clear e;intro e' e;refine an (r.hp.obj n _ hn e') ?_;intro kvs dk al;rw[aK al]at dk;exact gH (G:=GG I w h0 h0) (eh dk)
 have tM:=Er ((m:Nat)+1);rw[Bool.and_eq_true]at tM;have look:∀(g:Nat),g<3->∃p t,atKey (bO [] xs) [.a (.i ((cX a b c g:Nat)+2)),.a (.i (64+(g:Nat))),.t []]=some p/\p.2=.int (17+(g:Nat)) t:=by
  intro g hg
  have q:=List.all_eq_true.mp q3 g (by
   have:g=0\/g=1\/g=2:=by lia
   rcases this with rfl|rfl|rfl<;>decide)
  refine tg q ?_;clear q;intro i e q;have hi:=bl.mp q;subst hi;have kr:KR (GG I w h0 h0) [.a (.int ((cX a b c g:Nat)+2)),.a (.int (64+(g:Nat))),.t []] [.a (.i ((cX a b c g:Nat)+2)),.a (.i (64+(g:Nat))),.t []]:=.cons ⟨_,rfl,rfl⟩ (.cons ⟨_,rfl,rfl⟩ (.cons ⟨[],rfl,.nil⟩ .nil));refine EU (d9 ok kr al e) ?_;intro val h1 t h2;have z:=cD xs [] [.a (.i ((cX a b c g:Nat)+2)),.a (.i (64+(g:Nat))),.t []] nd;rw[h1]at z;dsimp only at z;induction e8:atKey (bO [] xs) [.a (.i ((cX a b c g:Nat)+2)),.a (.i (64+(g:Nat))),.t []]using Option.casesOn with
  |none=>rw[e8]at z;exact aa z
  |some p=>
   rw[e8]at z;injection z with z
   exact⟨p,t,rfl,by have z:p.2=val:=z;rw[z,h2]⟩
 refine⟨(eF (cX a b c) m).toI I s1.heap J od',?_,?_,?_,lI1,nuI 1 5 rfl⟩
 ·refine nq (c:=eF (cX a b c) m) k p1.1 p1.2 tM.1 tM.2 rfl (λm n hm hn e=>z8 hm hn e) ok.l0 okN.l0 (λo n e=>olE o n e) ?_ ?_ ?_ (.refl _) r
  ·show s1.heap.DictOfH (ay pw w) (J 16) (od' 1);rw[od1];exact dk
  ·show s1.heap.DictOfH (ay pw w) (J 131) (od' 2);rw[od2];exact sdN 131 (by exact Nat.lt_of_succ_lt ‹_›) p4
  ·show s1.heap.DictOfH (ay pw w) (J 132) (od' 3);rw[od3];exact sdN 132 ‹_› p5
 ·have s2:∀g,g<3->cX a b c g<2:=by
   intro g hg
   have:g=0\/g=1\/g=2:=by lia
   rcases this with rfl|rfl|rfl
   ·exact ha
   ·exact hb
   ·exact hc
  have nus:∀g,g<3->((eF (cX a b c) m).toI I s1.heap J od').nu (5000+10*g)=64+(g:Nat)/\((eF (cX a b c) m).toI I s1.heap J od').nu (5001+10*g)=17+(g:Nat)/\((eF (cX a b c) m).toI I s1.heap J od').nu (5002+10*g)=(cX a b c g:Nat)+1/\((eF (cX a b c) m).toI I s1.heap J od').nu (5003+10*g)=(cX a b c g:Nat)+2:=by
   intro g hg
   have:g=0\/g=1\/g=2:=by lia
   rcases this with rfl|rfl|rfl
   ·exact⟨nuI _ _ rfl,nuI _ _ rfl,nuI _ _ rfl,nuI _ _ rfl⟩
   ·exact⟨nuI _ _ rfl,nuI _ _ rfl,nuI _ _ rfl,nuI _ _ rfl⟩
   ·exact⟨nuI _ _ rfl,nuI _ _ rfl,nuI _ _ rfl,nuI _ _ rfl⟩
  exact{
   ok:=okN
   bL:=λo=>jt o
   bD:=λo=>by show(od' o).length<=1200;have:=odL o;exact Nat.le_trans ‹_› (by decide)
   ct:=by
    refine xE kx ?_;clear kx;intro v e14
    have sh:∀o,o∈[2,3,4,5,6,7,8,9,10,11,12,13,15,16,17]->∀e,ac (bg pw w s1.heap (Nm (J∘n8) L) e) [] (((eF (cX a b c) m).toI I s1.heap J od').ol o):=λo mo e=>by rw[nil_ o mo];exact .nil
    exact⟨[],[],[],[],sh 3 (by decide) _,sh 15 (by decide) _,sh 4 (by decide) _,sh 10 (by decide) _,sh 9 (by decide) _,sh 16 (by decide) _,sh 2 (by decide) _,⟨v,[],e14,.nil⟩,sh 11 (by decide) _,sh 12 (by decide) _,sh 13 (by decide) _⟩
   tp:=λo ho v hv=>by
    have:((eF (cX a b c) m).toI I s1.heap J od').ol o=[]:=nil_ o (by rcases ho with rfl|rfl|rfl|rfl<;>decide)
    have hv:v∈((eF (cX a b c) m).toI I s1.heap J od').ol o:=hv
    rw[this]at hv
    cases hv
   lenM:=by
    show((eF (cX a b c) m).toI I s1.heap J od').nu 1014=((eF (cX a b c) m).toI I s1.heap J od').nu 1002+1
    rw[nuI 1014 1 rfl,nuI 1002 0 rfl]
    rfl
   met:=λv hv=>by
    have hv:v∈((eF (cX a b c) m).toI I s1.heap J od').ol 5:=hv
    rw[nil_ 5 (by decide)]at hv
    cases hv
   ix:=λg hg=>by
    refine gM (nus g hg) ?_;intro z0 z1 z2 z3
    refine bb (look g hg) ?_;intro p t h1 h2
    refine⟨p,t,?_,?_⟩
    ·show atKey (od' 1) (de ((eF (cX a b c) m).toI I s1.heap J od') g)=some p
     unfold de
     rw[z0,z3,od1]
     exact h1
    ·show p.2=.int (((eF (cX a b c) m).toI I s1.heap J od').nu (5001+10*g)) t
     rw[z1]
     exact h2
   ix7:=by
    refine .inl ⟨?_,nuI 1020 20 rfl⟩
    show atKey (od' 1) k7=none
    rw[od1]
    refine th q2 ?_;clear q2;intro e q2
    have kr:KR (GG I w h0 h0) [.a (.int 7),.a (.int 0)] k7:=Cs
    refine xA (d9 ok kr al e) ?_;intro h1 _
    have z:=cD xs [] k7 nd
    rw[h1]at z
    induction e8:atKey (bO [] xs) k7 using Option.casesOn with
    |none=>rfl
    |some p=>rw[e8]at z;exact rT z
   dist:=by
    show((eF (cX a b c) m).toI I s1.heap J od').nu 5000≠((eF (cX a b c) m).toI I s1.heap J od').nu 5010/\((eF (cX a b c) m).toI I s1.heap J od').nu 5000≠((eF (cX a b c) m).toI I s1.heap J od').nu 5020/\((eF (cX a b c) m).toI I s1.heap J od').nu 5010≠((eF (cX a b c) m).toI I s1.heap J od').nu 5020
    rw[nuI 5000 64 rfl,nuI 5010 65 rfl,nuI 5020 66 rfl]
    decide
   srt:=λg hg=>by
    refine gM (nus g hg) ?_;intro z0 z1 z2 z3
    show(((eF (cX a b c) m).toI I s1.heap J od').nu (5002+10*g)=1\/((eF (cX a b c) m).toI I s1.heap J od').nu (5002+10*g)=2)/\((eF (cX a b c) m).toI I s1.heap J od').nu (5003+10*g)=((eF (cX a b c) m).toI I s1.heap J od').nu (5002+10*g)+1
    rw[z2,z3]
    have:=s2 g hg
    lia
   at0:=by
    show 0<=((eF (cX a b c) m).toI I s1.heap J od').nu 1
    rw[nuI 1 5 rfl]
    decide}
 ·refine⟨λg hg=>?_,λg hg=>?_,?_,nuI 1024 67 rfl⟩
  ·have:g=0\/g=1\/g=2:=by lia
   rcases this with rfl|rfl|rfl
   ·rw[nuI (5000+10*0) 64 rfl];decide
   ·rw[nuI (5000+10*1) 65 rfl];decide
   ·rw[nuI (5000+10*2) 66 rfl];decide
  ·have:g=0\/g=1\/g=2:=by lia
   rcases this with rfl|rfl|rfl
   ·rw[nuI (5001+10*0) 17 rfl];decide
   ·rw[nuI (5001+10*1) 18 rfl];decide
   ·rw[nuI (5001+10*2) 19 rfl];decide
  ·rw[nuN 6 rfl];exact n6
end
theorem un{G:Gr}{lv:Lv}{d:Nat}{fc:FC}{A:Around}{E:Value->Shared->Prop}{ae:Env}{L:Nat}{Q:Flow->Shared->Prop}{rest:List Stmt}(O:ba G d lv)(hR:Rm d A):∀{l:List Stmt} {S S':St} {J:Nat->Nat} {s:Shared},jg lv fc l S=some (.next,S')->ag ae fc J S.next L->SR G J S s L->(∀J' s',cT (XL L) J S s J' S' s'->ag ae fc J' S'.next L->SR G J' S' s' L->wpAny (model G.prog G.w) A (execs rest ae) Q E s')->wpAny (model G.prog G.w) A (execs (l++rest) ae) Q E s
 |[]=>by rename_i S S' J s;intro h hE r q;cases h;exact q J s .refl hE r
 |x::l=>by
  rename_i S S' J s;intro h hE r q;unfold jg at h;split at h
  ·rename_i S1 e1;refine wpAny_execs_cons (O.st e1 hR hE r λJ1 f1 s1 t1 r1 w1=>?_);subst w1;exact un O hR h (hE.stp t1) r1 λJ2 s2 t2 hE2 r2=>q J2 s2 (t1.trans t2) hE2 r2
  ·rename_i y hy;exact(hy _ h).elim
section
variable{Q:Flow->Shared->Prop} {ys:List Value}
theorem wT(B:cQ w h0)(hA:Rm 9 A)(hE:ag ae cf J 11 L)(hy:ys.length<=63)(hv:ac cW ls ys)(r:SR (GG (iP ys (dr ls 4 3) (dr ls 0 3)) w h0 h0) J AV s L)(q:∀s',(∀a o,h0.get? a=some o->s'.heap.get? a=some o)->s'.gens=s.gens->s'.os=s.os->Q (.ret (.bool true)) s'):wpAny (model pw w) A (execs (zR++[oS,A6,A5,BS]) ae) Q E s:=by
 have bd0:=fw ls 0 (n:=3) (by decide);have bd1:=fw ls 1 (n:=2) (by decide);have bd2:=fw ls 2 (n:=2) (by decide);have bd3:=fw ls 3 (n:=2) (by decide);have bd4:=fw ls 4 (n:=3) (by decide);obtain⟨m,hm⟩:∃m:Nat,dr ls 0 3=m:=⟨(dr ls 0 3).toNat,by lia⟩
 obtain⟨f,hf⟩:∃m:Nat,dr ls 4 3=m:=⟨(dr ls 4 3).toNat,by lia⟩
 obtain⟨a,ha⟩:∃m:Nat,dr ls 1 2=m:=⟨(dr ls 1 2).toNat,by lia⟩
 obtain⟨b,hb⟩:∃m:Nat,dr ls 2 2=m:=⟨(dr ls 2 2).toNat,by lia⟩
 obtain⟨c,hc⟩:∃m:Nat,dr ls 3 2=m:=⟨(dr ls 3 2).toNat,by lia⟩
 rw[hf,hm]at r;have ok:=uQ (f:=f) (m:=m) hy;have pk:w8 a b c=true:=by
  have two:∀{x:Nat},x<2->x∈[0,1]:=by
   intro x hx;have:x=0\/x=1:=by lia
   rcases this with rfl|rfl<;>decide
  exact List.all_eq_true.mp (List.all_eq_true.mp (List.all_eq_true.mp zQ a (two (by lia))) b (two (by lia))) c (two (by lia))
 have Dr:rS (GG (iP ys f m) w h0 h0) (sM (cX a b c)) ls:=by
  refine⟨hv,λk n v e=>?_⟩;have mm:=jF e;have mm:(k,n,v)∈[((SV.int 0),(3:Int),(SV.sym 7 0)),(.int 1,2,.int a),(.int 2,2,.int b),(.int 3,2,.int c),(.int 4,3,.sym 6 0)]:=mm;simp only[List.mem_cons,List.not_mem_nil,or_false,Prod.mk.injEq]at mm;rcases mm with⟨rfl,rfl,rfl⟩|⟨rfl,rfl,rfl⟩|⟨rfl,rfl,rfl⟩|⟨rfl,rfl,rfl⟩|⟨rfl,rfl,rfl⟩
  ·exact⟨0,rfl,by decide,by decide,by decide,λJ nx t=>⟨t,by rw[hm];show Value.int (m:Int) t=.int ((m:Int)+0) t;rw[Int.add_zero]⟩⟩
  ·exact⟨1,rfl,by decide,by decide,by decide,λJ nx t=>cg ha⟩
  ·exact⟨2,rfl,by decide,by decide,by decide,λJ nx t=>cg hb⟩
  ·exact⟨3,rfl,by decide,by decide,by decide,λJ nx t=>cg hc⟩
  ·exact⟨4,rfl,by decide,by decide,by decide,λJ nx t=>⟨t,by rw[hf];show Value.int (f:Int) t=.int ((f:Int)+0) t;rw[Int.add_zero]⟩⟩
 have OO:cn (GG (iP ys f m) w h0 h0) h0 (sM (cX a b c)):=⟨λx m=>(by cases m),λx m=>(by cases m),λx m=>(by cases m)⟩
 have D:=Gd.c (cH (h1:=h0) (I:=iP ys f m) (q:=sM (cX a b c)) B ok OO);have T:=Tk.c (nJ (ls:=ls) (q:=sM (cX a b c)) (cH (h1:=h0) (I:=iP ys f m) (q:={}) B ok bx) Dr);unfold w8 DH at pk;refine oH pk ?_;clear pk;intro S1 e1 pk;have e1:jg (eO (Xc (sM (cX a b c))) (rW (Xc (sM (cX a b c))) 100 8) 99) cf zR AV=some (.next,S1):=e1;refine un (sR D T (pE D T 100 8) 99) hA e1 hE r λJ1 s1 t1 hE1 r1=>?_;refine rZ (zP hy (by lia) (by lia) (by lia) (by lia) r1 pk) ?_;intro I r2 V ty l1 n1
 have hE2:ag ae cf (J1∘n8) 66 L:=
  ⟨hE1.kind,hE1.names,hE1.loc,hE1.glob,hE1.bi,λy n h=>by have:=nc h;subst this;obtain⟨x1,x2⟩:=hE1.cells y 0 h;exact⟨by decide,x2⟩⟩
 refine wpAny_execs_cons (vz (f:=f) (m:=m+1) (N:=5) (ls:=ls) B hA (by lia) ⟨by exact Nat.succ_pos _,by lia⟩ r2 V ty (by rw[l1];exact hv) (by lia) (by decide) (by decide) (by decide) hE2 λJ3 I3 s3 x1 x2 x3 x3' x4 x5 x6=>?_);have hE3:ag ae cf J3 66 L:=hE2.ren x4 (Nat.le_refl _);exact AE B hA hE3 x1 x2 x3 (vals:=ls) (by rw[x3',l1];exact hv) λs' b g o=>q s' b (g.trans (x5.trans t1.gens)) (o.trans (x6.trans t1.os))
end
section
open PySem PySem.W PyProof.Rows
noncomputable def vf:Prop:=∀(w:World) (s:Shared) (a:Addr) (vs:List Value) (ns:List Int),cQ w s.heap->s.gens=#[]->s.heap.IsList a vs.toArray->IntsAre vs ns->ns.length<=63->
 codeAny (model pw w) callerA (.call (.ref 853) ⟨[.ref a],[]⟩) (λr s'=>r=.ok (.ret (.bool true))/\(∀b o,s.heap.get? b=some o->s'.heap.get? b=some o)/\s'.os=s.os/\s'.gens=#[]) s
theorem vH:(((⟨⟨[108,97,119]⟩⟩:Str),SV.top 853)∈Ea.list):=NT.get_mem (t:=Ea) (k:=nk ⟨⟨[108,97,119]⟩⟩) (by kernel_rfl!)
theorem Co{w:World}{h:Heap}{mg:Str->Option Value}{fa:Addr}(E:∀b o,(H1 w.params).get? b=some o->h.get? b=some o)(g:h.Ns mainGlobals mg)(e:mg ("law":Str)=some (.ref fa)):fa=853:=by
 have hk:=List.all_eq_true.mp (xZ w.params) _ vH;have mo:=jr w.params;rw[Bool.and_eq_true,Bool.and_eq_true]at mo;have e1:h.nsMap mainGlobals (⟨⟨[108,97,119]⟩⟩:Str)=some (.ref fa):=by
  rw[(sP g).2];have:("law":Str)=(⟨⟨[108,97,119]⟩⟩:Str):=by decide+kernel
  rw[<-this];exact e
 rw[xh (a:=mainGlobals) E (by decide) mo.1.1]at e1;unfold ya at hk;dsimp only at hk;rw[e1]at hk;dsimp only at hk;exact(Nat.eq_of_beq_eq_true hk).symm
theorem holds_of(said:PySem.Challenge.rw_hb0003_01.wellSaid=true)(spec:vf):PySem.Challenge.rw_hb0003_01.Holds:=by
 w_on;refine holds_law said λsaid=>?_
 refine holds_open (q:=q1) (loose:=oh) (Xt:=λ_=>true) (XP:=λ_ _=>True) (Yf:=Shared.heap) (Ya:=λw=>H1 w.params) (YP:=λw h=>∀b o,(H1 w.params).get? b=some o->h.get? b=some o) (N:=20000) left
  (λw s e=>?hY) (λw h h' x k b o e=>k b o (x b o e)) (λ_ _=>trivial) (λ_ _ _ _ _=>trivial) (by rfl) (by rfl) (by rfl) ?hRf (by rfl) said ?ok ⟨rfl,rfl,rfl,rfl,rfl,?hb⟩ ?hw ?call
 case hY=>rw[<-e];exact λb o e=>e
 case hRf=>exact λs e=>recFacts_of (by rfl)
 case ok=>decide+kernel
 case hb=>decide+kernel
 case hw=>w_witness2
 case call=>
  intro w s₀ s₁ mg mb G Y fa o pm cd doc dV kV ho hd hcd hD hmg hg args vals as hpre hlay hrd hwl hlo;have B:cQ w s₁.heap:=⟨Y,G.T.nolimit,G.T.nodigits,⟨_,G.T.g⟩,⟨_,G.T.b⟩⟩
  have hfa:fa=853:=Co Y G.T.g hmg;subst hfa;clear ho hd hcd hD hmg;wrow_args hpre hlay hrd hwl hlo;rename_i ns _ _ _ _ _ _ _ a vs _ hL _ _ _ hI _ hlen _;refine enter_call (codeAny_mono (spec w s₁ a vs ns B hg hL hI (by omega)) ?_);rintro r s' ⟨rfl,k,os,g⟩;refine GoodW.toG ⟨.inl ⟨.bool true,.bool true,[],rfl,raisesW_false (by wrow_none_raised),.bool true,?_,λ_=>⟨List.nodup_nil,λ_ h=>(by cases h)⟩⟩,k,os,g⟩;wrow_post
end
section
open PySem PySem.W PyProof.Rows
theorem wW:callerA.depth+1+3*9+10<recursionLimit/\callerA.units+3+12*9+60<cLine/\callerA.depth<recursionLimit:=by decide+kernel
theorem Cm(w:World):∃fd:FuncData,(XX w.params {}).fn 853=some fd/\cR fd.params=true/\fd.scope.isGenerator=false/\fd.body=.stmts (dB er)/\fd.scope.names=cf.names/\∀u,eu fd.params.args [u]=some [(bK,u)]:=by have pl:=yu w.params;rw[Bool.and_eq_true,Bool.not_eq_true']at pl;exact⟨fL w.params,Eh w.params {},pl.1,pl.2,Av w.params,yv w.params,Ax w.params⟩
theorem law_spec:vf:=by
 intro w s a vs ns B hg hL hI hlen;have ok:(iP [] 0 0).Ok:=uQ (by decide);have D:=cH (w:=w) (h0:=s.heap) (h1:=s.heap) (I:=iP [] 0 0) (q:={}) B ok bx;obtain⟨fd,e1,pl1,pl2,e2,e3,e4⟩:∃fd:FuncData,(XX w.params {}).fn 853=some fd/\cR fd.params=true/\fd.scope.isGenerator=false/\fd.body=.stmts (dB er)/\fd.scope.names=cf.names/\∀u,eu fd.params.args [u]=some [(bK,u)]:=Cm w;have F:=D.fn 853 fd e1
 have hp:Hp (GG (iP [] 0 0) w s.heap s.heap) (λ_=>0) ⟨0,.nil,[]⟩ s.heap:=
  ⟨λn o hn=>absurd hn (Nat.not_lt_zero _),λn hn=>absurd hn (Nat.not_lt_zero _),λm n hm=>absurd hm (Nat.not_lt_zero _),λn hn=>absurd hn (Nat.not_lt_zero _),λa o e=>e,.refl _⟩
 refine rD (G:=GG (iP [] 0 0) w s.heap s.heap) D F (b:=dB er) (S:=⟨0,.nil,[]⟩) (S1:=⟨1,uS,[]⟩) (S2:=⟨1,uS,[(bK,.top a)]⟩) (cs:=[(ew,0)]) (vs:=[.top a]) pl1 pl2 e2 (e4 _) ?_ ?_ wW.2.2 hp (.cons rfl .nil) λae L J2 s2 E' hE r t fL=>?_
 ·rw[e3];exact yw
 ·rw[e3];exact Aw (.top a)
 ·rw[e3]at hE;have hE:ag ae cf J2 1 L:=hE;have hA:Rm 9 (callerA.deeper ae):=by
   refine⟨rfl,?_,?_⟩
   ·show callerA.depth+1+3*9+10<recursionLimit;exact wW.1
   ·show callerA.units+3+12*9+60<cLine;exact wW.2.1
  rw[Ag];refine wpAny_execs_cons (zz (f:=dr (ns.map λn=>n.fmod 1000003) 4 3) (m:=dr (ns.map λn=>n.fmod 1000003) 0 3) B hA hE r hL hI hlen λJ3 s3 ys hys r3 hE3 g3 o3=>?_);refine wT B hA hE3 (by rw[<-hys.length,List.length_map];exact hlen) hys r3 λs4 b4 g4 o4=>?_;exact⟨rfl,b4,o4.trans (o3.trans t.os),(g4.trans (g3.trans t.gens)).trans hg⟩
end
section
open PySem PySem.W PyProof.Rows
theorem Ck:looksOpen PySem.Challenge.rw_hb0003_01.row.prog=true:=by unfold looksOpen;refine(look_both (look_both (look_both (look_both (look_both ?_ ?_) ?_) ?_) ?_) ?_)<;>decide+kernel
theorem partSaid:PySem.Challenge.rw_hb0003_01.row.partSaid=true:=by
 unfold OpenRow.partSaid;refine(look_both (look_both (look_both (look_both (look_both (look_both (look_both (look_both (look_both (look_both (look_both (look_both (look_both ?_ ?_) ?_) ?_) ?_) ?_) ?_) ?_) ?_) ?_) ?_) ?_) ?_) ?_)
 ·exact Ck
 all_goals decide+kernel
theorem said:PySem.Challenge.rw_hb0003_01.wellSaid=true:=by
 unfold OpenLaw.wellSaid;refine(look_both (look_both (look_both (look_both (look_both (look_both (look_both (look_both (look_both (look_both (look_both (look_both (look_both (look_both (look_both (look_both (look_both (look_both ?_ ?_) ?_) ?_) ?_) ?_) ?_) ?_) ?_) ?_) ?_) ?_) ?_) ?_) ?_) ?_) ?_) ?_) ?_)
 ·exact look_both (look_both partSaid (by decide+kernel)) (by decide+kernel)
 all_goals decide+kernel
end
end Mine
end
theorem PySem.Challenge.cw_hb0003_01_holds : PySem.Challenge.rw_hb0003_01.Holds :=
 Mine.holds_of Mine.said Mine.law_spec