import PyProof.Rows.All
import PyProof.TableCode
import PyProof.CompUse
import PyProof.CompFree
import PyProof.DictDisplay
import PyProof.DictFindH
import PyProof.TupleKey
import PyProof.LetGo
import PyProof.ListNew
import PyProof.ListCopy
import PyProof.ListRange
import PyProof.WalkInts
import PyProof.Rows.Range3
import Wide.BytesFacts
import KE.KxBytes
import KE.BytesMake
import KE.KBytesWalk
import Wide.FinOn
import OpenK.AllK
import Wide.All
import Lean
import PySem.Challenge.RW_pf0357_01
set_option Elab.async false
set_option linter.all false
set_option maxRecDepth 100000
set_option tactic.hygienic false
section
set_option genSizeOf false
open PySem
namespace Mine
inductive V where
 |none
 |bool (b:Bool)
 |int (i:Int)
 |str (s:Str)
 |bytes (l:List Int)
 |tup (l:List V)
 |lst (l:List V)
 |dct (l:List (V×V))
 |bar (l:List Int)
 |obj (c:Str) (fs:List (Str×V))
 |rng (a b c:Int)
 |ref (n:Nat)
 |glob (x:Str)
 deriving Inhabited
noncomputable abbrev Hp:=List V
noncomputable abbrev aR:=List (Str×V)
noncomputable def content (H:Hp):V->Option V
 | .ref n=>H[n]?
 |d=>some d
mutual
noncomputable def b5:Nat->V->V->Bool
 |_,.none,.none=>true
 |_,.bool _,.bool _=>true
 |_,.int _,.int _=>true
 |_,.str _,.str _=>true
 |_,.bytes _,.bytes _=>true
 |n+1,.tup a,.tup b=>dH n a b
 |n+1,.lst a,.lst b=>dH n a b
 |_,_,_=>false
noncomputable def dH:Nat->List V->List V->Bool
 |n,x::xs,y::ys=>b5 n x y&&dH n xs ys
 |_,_,_=>true
end
noncomputable def j3:List Int->List Int->Bool
 | [],[]=>true
 |x::xs,y::ys=>decide (x=y)&&j3 xs ys
 |_,_=>false
mutual
noncomputable def bQ:V->V->Bool
 | .none,.none=>true
 | .bool a,.bool b=>a==b
 | .int a,.int b=>decide (a=b)
 | .str a,.str b=>a==b
 | .bytes a,.bytes b=>j3 a b
 | .tup a,.tup b=>fR a b
 | .lst a,.lst b=>fR a b
 |_,_=>false
noncomputable def fR:List V->List V->Bool
 | [],[]=>true
 |x::xs,y::ys=>bQ x y&&fR xs ys
 |_,_=>false
end
noncomputable def qM (x:V):List V->Bool
 | []=>false
 |y::ys=>bQ y x||qM x ys
noncomputable def dI (x:V) (l:List V):Bool:=l.all λy=>b5 8 y x
noncomputable def truth:V->Option Bool
 | .bool b=>some b
 | .int i=>some (decide (i≠0))
 | .none=>some false
 |_=>none
noncomputable def small (x:Int):Bool:=decide (x.natAbs<2 ^ 70)
noncomputable def kB (x:Int):Bool:=decide (x.natAbs<2 ^ 60)
noncomputable def fits {β:Type} (l:List β):Bool:=decide (l.length<1000)
noncomputable def eX:List V->Bool
 | []=>true
 | .int _::r=>eX r
 |_::_=>false
noncomputable def aL:V->Nat
 | .int _=>1
 | .str _=>2
 | .tup [.int _,.tup l]=>match eX l with
   |true=>3
   |false=>0
 |_=>0
noncomputable def b7 (x:V):List (V×V)->Option V
 | []=>none
 |(y,d)::r=>match bQ y x with
   |true=>some d
   |false=>b7 x r
noncomputable def dD (x d:V):List (V×V)->List (V×V)
 | []=>[(x,d)]
 |(y,e)::r=>match bQ y x with
   |true=>(y,d)::r
   |false=>(y,e)::dD x d r
noncomputable def eS (n:Nat):List (V×V)->Bool
 | []=>true
 |(y,_)::r=>aL y==n&&eS n r
noncomputable def bW (x:V) (l:List (V×V)):Bool:=aL x != 0&&eS (aL x) l&&fits l
noncomputable def item {β:Type} (l:List β) (i:Int):Option β:=if 0<=i then l[i.toNat]? else none
noncomputable def cut {β:Type} (l:List β) (a b:Int):List β:=(l.take b.toNat).drop a.toNat
noncomputable def IV (dflt:Int):V->Option Int
 | .none=>some dflt
 | .int i=>if 0<=i then some i else none
 |_=>none
noncomputable def putL (x:Str) (d:V):aR->aR
 | []=>[(x,d)]
 |(y,e)::r=>match y==x with
   |true=>(y,d)::r
   |false=>(y,e)::putL x d r
noncomputable def RC:V->Option Int
 | .int i=>some i
 |_=>none
noncomputable def «ints»:List V->Option (List Int)
 | []=>some []
 |d::r=>match RC d,«ints» r with
   |some i,some l=>some (i::l)
   |_,_=>none
noncomputable def gS (l:List Int):Bool:=l.all λi=>decide (0<=i)&&decide (i<256)
noncomputable def cF (a b c:Int):List Int:=(List.range ((b-a+(c-1))/c).toNat).map λ(i:Nat)=>a+c*(i:Int)
noncomputable def items (H:Hp) (d:V):Option (List V):=match content H d with
 |some (.tup l)=>some l
 |some (.lst l)=>some l
 |some (.bytes l)=>some (l.map .int)
 |some (.bar l)=>some (l.map .int)
 |some (.rng a b c)=>if 0<c then some ((cF a b c).map .int)else none
 |_=>none
structure MU where
 list:Pos->Bool
 dict:Pos->Bool
 bar:Pos->Bool
 drop:Str->Bool
 keepAt:Pos->Option (List Str)
 isFn:Str->Bool
 isGl:Str->Bool
noncomputable def i8:List Str:=(["data","doers","expects","fields","flows","homes","hook","is_loose","is_reply","kind","l4","last","link","log","mark","master","meta","most","now","number","objects","off","ops","order","original","packet","place","readers","replies","reply","seed","sets","sides","since","state","status","steps","table","talk","talks","tools","trackers","tries","until","zone"]:List String).map Str.ofString
noncomputable def tV (sc:Scope):Bool:=sc.kind== .function&& !sc.isGenerator&& !sc.isCoroutine&&sc.names.all λp=>p.1 != "__debug__"&&p.1 != "__classdict__"&&sc.names.lookup p.1==some p.2&&(p.2== .local||p.2== .cell||p.2== .free||p.2== .globalImplicit)
noncomputable def tN (sc outer:Scope):Bool:=tV sc&&sc.names.all λp=>p.2 != .cell&&(p.2 != .free||outer.names.lookup p.1==some .cell)
noncomputable def jG (e:Expr):Bool:=e.ctorIdx==16
noncomputable def iA (e:Expr):Bool:=Nat.ble 8 e.ctorIdx&&Nat.ble e.ctorIdx 11
noncomputable def jA (e:Expr):Bool:=e.ctorIdx==22
noncomputable def eU (e:Expr):Bool:=e.ctorIdx==7
noncomputable def eK (e:Expr):Bool:=e.ctorIdx==20
noncomputable def noStar:List Expr->Bool
 | []=>true
 |e::r=> !jA e&&noStar r
noncomputable def wJ:List Expr->Bool
 | []=>true
 |e::r=> !eU e&&wJ r
noncomputable def HF:Option Expr->Bool
 |some (.Constant (.int _) _ _)=>true
 |some (.Constant (.str _) _ _)=>true
 |_=>false
noncomputable def EJ (ks:List (Option Expr)) (vs:List Expr):Bool:=ks.length==vs.length&&decide (ks.length<=15)&&ks.all HF
noncomputable def iM (sc:Scope) (x:Str):Bool:=sc.names.lookup x==some .local||sc.names.lookup x==some .cell
noncomputable def kP:Expr->Expr->Bool
 | .Tuple _ _ _,.Tuple vs _ _=>vs.all (foldedForSure 8)|| !vs.all (constantsAlone 8)
 |_,_=>true
structure Cx where
 sc:Scope
 rho:aR
 out:aR
noncomputable def name (P:MU) (c:Cx) (x:Str):Option V:=match c.sc.names.lookup x with
 |some .local=>c.rho.lookup x
 |some .cell=>c.rho.lookup x
 |some .free=>c.out.lookup x
 |some .globalImplicit=>match P.isGl x with
   |true=>some (.glob x)
   |false=>none
 |_=>none
noncomputable def nQ (H:Hp) (v:V) (n:Nat):Option (List V):=match content H v with
 |some (.tup l)=>if l.length=n then some l else none
 |some (.lst l)=>if l.length=n then some l else none
 |_=>none
noncomputable def bX (sc:Scope) (rho:aR):List Expr->List V->Option aR
 | [],[]=>some rho
 | .Name x _::ts,v::vs=>match iM sc x with
   |true=>bX sc (putL x v rho) ts vs
   |false=>none
 |_,_=>none
noncomputable def bL (sc:Scope) (H:Hp) (rho:aR) (t:Expr) (v:V):Option aR:=match t with
 | .Name x _=>match iM sc x with
   |true=>some (putL x v rho)
   |false=>none
 | .Tuple ts _ _=>(nQ H v ts.length).bind (bX sc rho ts)
 |_=>none
section
variable {α:Type}(bad:α)(chk:Prop->α->α)
noncomputable def br (a b:α):Nat->Bool->α
 |0,true=>a
 |0,false=>b
 |n+1,true=>br a b n true
 |n+1,false=>br a b n false
noncomputable def guard (b:Bool) (k:α):α:=br k bad 0 b
noncomputable def xQ (op:Operator) (x y:Int) (k:V->α):α:=match op with
 | .Add=>k (.int (x+y))
 | .Sub=>k (.int (x-y))
 | .Mult=>guard bad (small x&&small y) (k (.int (x*y)))
 | .FloorDiv=>guard bad (decide (y≠0)&&decide (y.natAbs<1073741824)) (k (.int (Int.fdiv x y)))
 | .Mod=>guard bad (decide (y≠0)) (k (.int (Int.fmod x y)))
 | .Pow=>guard bad (decide (0<=y)&&decide (y<64)&&small x) (k (.int (x ^ y.toNat)))
 | .LShift=>guard bad (decide (0<=y)&&decide (y<64)&&small x) (k (.int (x*2 ^ y.toNat)))
 | .RShift=>guard bad (decide (0<=y)) (k (.int (Int.fdiv x (2 ^ y.toNat))))
 | .BitAnd=>k (.int (Builtin.bitAnd x y))
 | .BitOr=>k (.int (Builtin.bitOr x y))
 | .BitXor=>k (.int (Builtin.bitXor x y))
 |_=>bad
noncomputable def GW (op:Operator) (t:α):α:=match op with
 | .Add=>t
 |_=>bad
noncomputable def binop (op:Operator) (a b:V) (k:V->α):α:=match a,b with
 | .int x,.int y=>xQ bad op x y k
 | .lst x,.lst y=>GW bad op (guard bad (fits x&&fits y) (k (.lst (x++y))))
 | .bytes x,.bytes y=>GW bad op (guard bad (fits x&&fits y) (k (.bytes (x++y))))
 |_,_=>bad
noncomputable def mW (H:Hp) (op:CmpOp) (a b:V) (k:Bool->α):α:=match op with
 | .Lt=>match a,b with
   | .int x,.int y=>k (decide (x<y))
   |_,_=>bad
 | .LtE=>match a,b with
   | .int x,.int y=>k (decide (x<=y))
   |_,_=>bad
 | .Gt=>match a,b with
   | .int x,.int y=>k (decide (y<x))
   |_,_=>bad
 | .GtE=>match a,b with
   | .int x,.int y=>k (decide (y<=x))
   |_,_=>bad
 | .Eq=>guard bad (b5 8 a b) (k (bQ a b))
 | .NotEq=>guard bad (b5 8 a b) (k (!bQ a b))
 | .In=>match content H b with
   |some (.tup l)=>guard bad (dI a l) (k (qM a l))
   |some (.lst l)=>guard bad (dI a l) (k (qM a l))
   |_=>bad
 | .NotIn=>match content H b with
   |some (.tup l)=>guard bad (dI a l) (k (!qM a l))
   |some (.lst l)=>guard bad (dI a l) (k (!qM a l))
   |_=>bad
 | .Is=>match b with
   | .none=>match a with| .none=>k true| .glob _=>bad|_=>k false
   |_=>bad
 | .IsNot=>match b with
   | .none=>match a with| .none=>k false| .glob _=>bad|_=>k true
   |_=>bad
noncomputable def optN {β:Type} (k:β->α):Nat->Option β->α
 |0,none=>bad
 |0,some x=>k x
 |n+1,none=>optN k n none
 |n+1,some x=>optN k n (some x)
noncomputable def opt {β:Type} (o:Option β) (k:β->α):α:=optN bad k 0 o
noncomputable def oS (H:Hp) (o i:V) (k:V->α):α:=match content H o with
 |some (.bytes l)=>match i with
   | .int j=>guard bad (fits l) (opt bad (item l j) λx=>k (.int x))
   |_=>bad
 |some (.bar l)=>match i with
   | .int j=>guard bad (fits l) (opt bad (item l j) λx=>k (.int x))
   |_=>bad
 |some (.tup l)=>match i with
   | .int j=>guard bad (fits l) (opt bad (item l j) k)
   |_=>bad
 |some (.lst l)=>match i with
   | .int j=>guard bad (fits l) (opt bad (item l j) k)
   |_=>bad
 |some (.dct l)=>guard bad (bW i l) (opt bad (b7 i l) k)
 |_=>bad
noncomputable def slice (H:Hp) (o lo hi:V) (k:V->α):α:=opt bad (IV 0 lo) λa=>match content H o with
 |some (.bytes l)=>opt bad (IV l.length hi) λb=>guard bad (fits l) (k (.bytes (cut l a b)))
 |some (.bar l)=>opt bad (IV l.length hi) λb=>guard bad (fits l) (k (.bar (cut l a b)))
 |some (.lst l)=>opt bad (IV l.length hi) λb=>guard bad (fits l) (k (.lst (cut l a b)))
 |_=>bad
noncomputable def getattr (H:Hp) (o:V) (x:Str) (k:V->α):α:=match content H o with
 |some (.obj _ fs)=>guard bad (i8.contains x) (opt bad (fs.lookup x) k)
 |_=>bad
noncomputable def builtin (x:Str) (as:List V) (H:Hp) (keep:Bool) (k:V->Hp->α):α:=
 match x=="len"with
 |true=>(match as with
   | [d]=>match content H d with
     |some (.bytes l)=>guard bad (fits l) (k (.int l.length) H)
     |some (.bar l)=>guard bad (fits l) (k (.int l.length) H)
     |some (.tup l)=>guard bad (fits l) (k (.int l.length) H)
     |some (.lst l)=>guard bad (fits l) (k (.int l.length) H)
     |_=>bad
   |_=>bad)
 |false=>match x=="range"with
 |true=>(match as with
   | [.int b]=>guard bad (kB b) (k (.rng 0 b 1) H)
   | [.int a,.int b]=>guard bad (kB a&&kB b) (k (.rng a b 1) H)
   | [.int a,.int b,.int c]=>guard bad (decide (0<c)&&decide (c<1000)&&kB a&&kB b) (k (.rng a b c) H)
   |_=>bad)
 |false=>match x=="min"with
 |true=>(match as with
   | [.int a,.int b]=>match decide (b<a)with
     |true=>k (.int b) H
     |false=>k (.int a) H
   |_=>bad)
 |false=>match x=="max"with
 |true=>(match as with
   | [.int a,.int b]=>match decide (a<b)with
     |true=>k (.int b) H
     |false=>k (.int a) H
   |_=>bad)
 |false=>match x=="sum"with
 |true=>(match as with
   | [d]=>match content H d with
     |some (.lst l)=>opt bad («ints» l) λl=>guard bad (fits l&&l.all (λi=>decide (0<=i)&&decide (i<2 ^ 40))) (k (.int (l.foldl (· + ·) 0)) H)
     |_=>bad
   |_=>bad)
 |false=>match x=="bytes"with
 |true=>(match as with
   | [d]=>match content H d with
     |some (.lst l)=>opt bad («ints» l) λl=>guard bad (gS l&&fits l) (k (.bytes l) H)
     |some (.bar l)=>guard bad (fits l) (k (.bytes l) H)
     |some (.bytes l)=>guard bad (fits l) (k (.bytes l) H)
     |_=>bad
   |_=>bad)
 |false=>match x=="bytearray"with
 |true=>(match as with
   | [d]=>match content H d with
     |some (.bytes l)=>guard bad (fits l) (match keep with
       |true=>k (.ref H.length) (H++[.bar l])
       |false=>k (.bar l) H)
     |_=>bad
   |_=>bad)
 |false=>match x=="list"with
 |true=>(match as with
   | [d]=>match content H d with
     |some (.bar l)=>guard bad (fits l) (k (.lst (l.map .int)) H)
     |_=>bad
   |_=>bad)
 |false=>bad
noncomputable def pA (H:Hp) (o:V) (x:Str):Bool:=match content H o with
 |some (.lst _)=>x=="append"||x=="index"
 |some (.dct _)=>x=="get"
 |_=>false
noncomputable def method (o:V) (x:Str) (as:List V) (H:Hp) (k:V->Hp->α):α:=
 match x=="append"with
 |true=>(match o,as with
   | .ref n,[d]=>match H[n]? with
     |some (.lst l)=>guard bad (fits l) (k .none (H.set n (.lst (l++[d]))))
     |_=>bad
   |_,_=>bad)
 |false=>match x=="index"with
 |true=>(match content H o,as with
   |some (.lst l),[d]=>guard bad (fits l&&dI d l) (opt bad (l.findIdx? λy=>bQ y d) λi=>k (.int i) H)
   |_,_=>bad)
 |false=>match x=="get"with
 |true=>(match content H o,as with
   |some (.dct l),[d]=>guard bad (bW d l) (k ((b7 d l).getD .none) H)
   |some (.dct l),[d,e]=>guard bad (bW d l) (k ((b7 d l).getD e) H)
   |_,_=>bad)
 |false=>bad
noncomputable def oU (k:List (V×V)->α):List (V×V)->List (V×V)->α
 | [],acc=>k acc
 |(x,d)::r,acc=>guard bad (bW x acc) (oU k r (dD x d acc))
noncomputable def U5 (d:V) (k:List V->Hp->α) (ds:List V) (H:Hp):α:=k (d::ds) H
noncomputable def U8 (same:Hp->α->α) (f:Hp->(List V->Hp->α)->α) (k:List V->Hp->α) (d:V) (H:Hp):α:=same H (f H (U5 d k))
noncomputable def VB (same:Hp->α->α) (f:Hp->(List V->Hp->α)->α) (el:Hp->(V->Hp->α)->α) (k:List V->Hp->α) (b:Bool) (H:Hp):α:=br (el H (U8 same f k)) (same H (f H k)) 0 b
noncomputable def n5 (same:Hp->α->α) (test:aR->Hp->(Bool->Hp->α)->α) (elt:aR->Hp->(V->Hp->α)->α) (x:Str):List V->Hp->(List V->Hp->α)->α
 | [],H,k=>k [] H
 |v::vs,H,k=>test [(x,v)] H (VB same (n5 same test elt x vs) (elt [(x,v)]) k)
noncomputable def sameAs (H:Hp):V->Hp->α->α
 | .ref n,H',a=>chk (H'[n]? =H[n]?) a
 |_,_,a=>a
noncomputable def tL:V->Option (List V)
 | .ref _=>none
 |s=>items [] s
noncomputable def atK {β:Type} (k:β->Hp->α) (H:Hp) (d:β):α:=k d H
noncomputable abbrev Ev (α β:Type):=Hp->(β->Hp->α)->α
noncomputable def RA (op:Operator) (a:V) (k:V->Hp->α) (b:V) (H:Hp):α:=binop bad op a b (atK k H)
noncomputable def Q1 (er:Ev α V) (op:Operator) (k:V->Hp->α) (a:V) (H:Hp):α:=er H (RA bad op a k)
noncomputable def R5 (k:V->Hp->α) (H:Hp) (b:Bool):α:=k (.bool (!b)) H
noncomputable def UY (op:UnaryOp) (k:V->Hp->α) (a:V) (H:Hp):α:=match op with
 | .Not=>opt bad (truth a) (R5 k H)
 | .USub=>match a with
   | .int i=>k (.int (-i)) H
   |_=>bad
 |_=>bad
noncomputable def UH {β:Type} (eb eo:Ev α β) (k:β->Hp->α) (v:Bool) (H:Hp):α:=br (eb H k) (eo H k) 0 v
noncomputable def QD (P:MU) (pos:Pos) (k:V->Hp->α) (H:Hp) (ps:List (V×V)):α:=match P.dict pos with
 |true=>k (.ref H.length) (H++[.dct ps])
 |false=>k (.dct ps) H
noncomputable def Q3 (P:MU) (pos:Pos) (k:V->Hp->α) (ps:List (V×V)) (H:Hp):α:=guard bad (fits ps) (oU bad (QD P pos k H) ps [])
noncomputable def RZ (P:MU) (pos:Pos) (k:V->Hp->α) (ds:List V) (H:Hp):α:=guard bad (fits ds) (match P.list pos with
 |true=>k (.ref H.length) (H++[.lst ds])
 |false=>k (.lst ds) H)
noncomputable def TP (k:V->Hp->α) (ds:List V) (H:Hp):α:=guard bad (fits ds) (k (.tup ds) H)
noncomputable def SX (k:V->Hp->α) (ds:List V) (H:Hp):α:=k (.lst ds) H
noncomputable def RW (k:V->Hp->α) (b:Bool) (H:Hp):α:=k (.bool b) H
noncomputable def x6 {β:Type} (f:Cx->Ev α β) (sc:Scope) (o:aR) (rho:aR):Ev α β:=f ⟨sc,rho,o⟩
noncomputable def SQ {β:Type} (f:V->Ev α β) (k:β->Hp->α) (a:V) (H:Hp):α:=f a H k
noncomputable def VX (a:V) (x:Str) (k:V->Hp->α) (ds:List V) (H:Hp):α:=method bad a x ds H k
noncomputable def VA (es:Ev α (List V)) (x:Str) (k:V->Hp->α) (a:V) (H:Hp):α:=guard bad (pA H a x) (es H (VX bad a x k))
noncomputable def RN (x:Str) (k:V->Hp->α) (a:V) (H:Hp):α:=getattr bad H a x (atK k H)
noncomputable def VW (a l:V) (k:V->Hp->α) (h:V) (H:Hp):α:=slice bad H a l h (atK k H)
noncomputable def V0 (eh:Ev α V) (a:V) (k:V->Hp->α) (l:V) (H:Hp):α:=eh H (VW bad a l k)
noncomputable def VL (el eh:Ev α V) (k:V->Hp->α) (a:V) (H:Hp):α:=el H (V0 bad eh a k)
noncomputable def VS (a:V) (k:V->Hp->α) (j:V) (H:Hp):α:=oS bad H a j (atK k H)
noncomputable def UL (ei:Ev α V) (k:V->Hp->α) (a:V) (H:Hp):α:=ei H (VS bad a k)
noncomputable def UD (d:V) (k:List V->Hp->α) (ds:List V) (H:Hp):α:=k (d::ds) H
noncomputable def TB (es:Ev α (List V)) (k:List V->Hp->α) (d:V) (H:Hp):α:=es H (UD d k)
noncomputable def UU (a b:V) (k:List (V×V)->Hp->α) (ps:List (V×V)) (H:Hp):α:=k ((a,b)::ps) H
noncomputable def UZ (es:Ev α (List (V×V))) (a:V) (k:List (V×V)->Hp->α) (b:V) (H:Hp):α:=es H (UU a b k)
noncomputable def U1 (ev:Ev α V) (es:Ev α (List (V×V))) (k:List (V×V)->Hp->α) (H:Hp) (a:V):α:=ev H (UZ es a k)
noncomputable def VU (op:BoolOp) (f:Ev α V) (d:V) (H:Hp) (k:V->Hp->α) (b:Bool):α:=match op with
 | .And=>br (f H k) (k d H) 0 b
 | .Or=>br (k d H) (f H k) 0 b
noncomputable def UJ (op:BoolOp) (f:Ev α V) (k:V->Hp->α) (d:V) (H:Hp):α:=opt bad (truth d) (VU op f d H k)
noncomputable def VK (ops:List CmpOp) (es:List Expr) (f:V->Ev α Bool) (b:V) (H:Hp) (k:Bool->Hp->α) (v:Bool):α:=match ops with
 | []=>match es with
   | []=>k v H
   |_=>bad
 |_::_=>br (f b H k) (k false H) 0 v
noncomputable def UO (op:CmpOp) (ops:List CmpOp) (es:List Expr) (f:V->Ev α Bool) (a:V) (k:Bool->Hp->α) (b:V) (H:Hp):α:=mW bad H op a b (VK bad ops es f b H k)
noncomputable def SI (k:Bool->Hp->α) (b:Bool) (H:Hp):α:=k (!b) H
noncomputable def VG (k:Bool->Hp->α) (d:V) (H:Hp):α:=opt bad (truth d) (atK k H)
noncomputable def US (op:BoolOp) (f:Ev α Bool) (k:Bool->Hp->α) (b:Bool) (H:Hp):α:=match op with
 | .And=>br (f H k) (k false H) 0 b
 | .Or=>br (k true H) (f H k) 0 b
noncomputable def UT (f:Ev α Bool) (k:Bool->Hp->α) (b:Bool) (H:Hp):α:=br (f H k) (k false H) 0 b
noncomputable def VI (same:Hp->α->α) (test:aR->Ev α Bool) (elt:aR->Ev α V) (x:Str) (H:Hp) (k:V->Hp->α) (vs:List V):α:=guard bad (fits vs) (n5 same test elt x vs H (SX k))
noncomputable def kG (test:aR->Ev α Bool) (elt:aR->Ev α V) (x:Str) (k:V->Hp->α) (s:V) (H:Hp):α:=opt bad (items H s) (VI bad (sameAs chk H s) test elt x H k)
variable (P:MU)(cf:Str->List V->Hp->(V->Hp->α)->α)
noncomputable def TM (pos:Pos) (a:V) (k:V->Hp->α) (ds:List V) (H:Hp):α:=match a with
 | .glob x=>match P.isFn x with
   |true=>cf x ds H k
   |false=>builtin bad x ds H (P.bar pos) k
 |_=>bad
noncomputable def RQ (es:Ev α (List V)) (pos:Pos) (k:V->Hp->α) (a:V) (H:Hp):α:=es H (TM bad P cf pos a k)
mutual
noncomputable def aH:Expr->Cx->Hp->(V->Hp->α)->α
 | .Constant x _ _,_,H,k=>match x with
   | .none=>k .none H
   | .bool b=>k (.bool b) H
   | .int i=>k (.int i) H
   | .str s=>k (.str s) H
   | .bytes b=>guard bad (fits b) (k (.bytes (b.map λu=>(u.toNat:Int))) H)
   |_=>bad
 | .Name x _,c,H,k=>opt bad (name P c x) (atK k H)
 | .BoolOp op vs _,c,H,k=>zZ op vs c H k
 | .BinOp l op r _,c,H,k=>aH l c H (Q1 bad (aH r c) op k)
 | .UnaryOp op x _,c,H,k=>aH x c H (UY bad op k)
 | .IfExp t b o _,c,H,k=>fV t (aH t c) c H (UH (aH b c) (aH o c) k)
 | .Dict ks vs pos,c,H,k=>guard bad (EJ ks vs) (sH ks vs c H (Q3 bad P pos k))
 | .List es pos,c,H,k=>guard bad (noStar es) (iU es c H (RZ bad P pos k))
 | .Tuple es _ _,c,H,k=>guard bad (noStar es) (iU es c H (TP bad k))
 | .ListComp elt gs sc _,⟨sc',rho,out⟩,H,k=>guard bad (tN sc sc') (E4 gs (x6 (aH elt) sc rho) sc ⟨sc',rho,out⟩ H k)
 | .Compare l ops cs _,c,H,k=>guard bad (wJ cs&&ops.length==cs.length) (aH l c H (SQ (vP ops cs c) (RW k)))
 | .Call (.Attribute o x apos) as [] pos,c,H,k=>guard bad (!jG o&&noStar as&&apos.endLine==pos.line&&decide (as.length<29)) (aH o c H (VA bad (iU as c) x k))
 | .Call f as [] pos,c,H,k=>guard bad (!eK f&&noStar as) (aH f c H (RQ bad P cf (iU as c) pos k))
 | .Attribute o x _,c,H,k=>guard bad (!jG o) (aH o c H (RN bad x k))
 | .Subscript o (.Slice lo hi none _) _,c,H,k=>aH o c H (VL bad (ED lo c) (ED hi c) k)
 | .Subscript o i _,c,H,k=>aH o c H (UL bad (aH i c) k)
 |_,_,_,_=>bad
noncomputable def ED:Option Expr->Cx->Hp->(V->Hp->α)->α
 |none,_,H,k=>k .none H
 |some e,c,H,k=>aH e c H k
noncomputable def E4:List Comprehension->(aR->Hp->(V->Hp->α)->α)->Scope->Cx->Hp->(V->Hp->α)->α
 |⟨t,iter,ifs,a⟩::gs,elt,sc,c,H,k=>match gs,t,a with
   | [],.Name x _,0=>guard bad (!eU iter&&sc.names.lookup x==some .local) (aH iter c H (kG bad chk (x6 (iR ifs) sc c.rho) elt x k))
   |_,_,_=>bad
 |_,_,_,_,_,_=>bad
noncomputable def iU:List Expr->Cx->Hp->(List V->Hp->α)->α
 | [],_,H,k=>k [] H
 |e::es,c,H,k=>aH e c H (TB (iU es c) k)
noncomputable def sH:List (Option Expr)->List Expr->Cx->Hp->(List (V×V)->Hp->α)->α
 |ks,[],_,H,k=>match ks with
   | []=>k [] H
   |_=>bad
 |ks,v::vs,c,H,k=>match ks with
   |some (.Constant x _ _)::ks=>opt bad (match x with| .int i=>some (V.int i)| .str s=>some (V.str s)|_=>none) (U1 (aH v c) (sH ks vs c) k H)
   |_=>bad
noncomputable def zZ:BoolOp->List Expr->Cx->Hp->(V->Hp->α)->α
 |_,[],_,_,_=>bad
 |op,e::es,c,H,k=>match es with
   | []=>aH e c H k
   |_::_=>aH e c H (UJ bad op (zZ op es c) k)
noncomputable def vP:List CmpOp->List Expr->Cx->V->Hp->(Bool->Hp->α)->α
 |_,[],_,_,_,_=>bad
 |ops,e::es,c,a,H,k=>match ops with
   | []=>bad
   |op::ops=>aH e c H (UO bad op ops es (vP ops es c) a k)
noncomputable def fV:Expr->(Hp->(V->Hp->α)->α)->Cx->Hp->(Bool->Hp->α)->α
 | .UnaryOp .Not x _,_,c,H,k=>fV x (aH x c) c H (SI k)
 | .BoolOp op vs _,_,c,H,k=>zF op vs c H k
 | .IfExp t b o _,_,c,H,k=>fV t (aH t c) c H (UH (fV b (aH b c) c) (fV o (aH o c) c) k)
 | .Compare l ops cs _,_,c,H,k=>guard bad (wJ cs&&ops.length==cs.length) (aH l c H (SQ (vP ops cs c) k))
 |_,whole,_,H,k=>whole H (VG bad k)
noncomputable def zF:BoolOp->List Expr->Cx->Hp->(Bool->Hp->α)->α
 |op,[],_,H,k=>k (match op with| .And=>true| .Or=>false) H
 |op,e::es,c,H,k=>fV e (aH e c) c H (US op (zF op es c) k)
noncomputable def iR:List Expr->Cx->Hp->(Bool->Hp->α)->α
 | [],_,H,k=>k true H
 |e::es,c,H,k=>fV e (aH e c) c H (UT (iR es c) k)
end
end
theorem aT{G:Prop}{α0:Type}{P0:α0->Prop}{P1:α0->Prop}(h:∃a,P0 a/\P1 a)(K:∀a,P0 a->P1 a->G):G:=by obtain⟨a,p,q⟩:=h;exact K a p q
theorem aE{G:Prop}{α0 α1:Type}{P0:α0->α1->Prop}{P1:α0->α1->Prop}{P2:α0->α1->Prop}(h:∃a,∃b,P0 a b/\P1 a b/\P2 a b)(K:∀a,∀b,P0 a b->P1 a b->P2 a b->G):G:=by obtain⟨a,b,p,q,r⟩:=h;exact K a b p q r
theorem cU{G:Prop}{α0:Type}{P0:Prop}{P1:α0->Prop}{P2:α0->Prop}(h:P0/\(∃a,P1 a/\P2 a))(K:P0->∀a,P1 a->P2 a->G):G:=by obtain⟨p,a,q,r⟩:=h;exact K p a q r
theorem cB{G:Prop}{α0:Type}{P0:α0->Prop}{P1:α0->Prop}{P2:α0->Prop}(h:∃a,P0 a/\P1 a/\P2 a)(K:∀a,P0 a->P1 a->P2 a->G):G:=by obtain⟨a,p,q,r⟩:=h;exact K a p q r
theorem c8{G:Prop}{α0 α1:Type}{P0:α0->α1->Prop}{P1:α0->α1->Prop}(h:∃a,∃b,P0 a b/\P1 a b)(K:∀a,∀b,P0 a b->P1 a b->G):G:=by obtain⟨a,b,p,q⟩:=h;exact K a b p q
theorem qC{G:Prop}{P0:Prop}{P1:Prop}{P2:Prop}(h:P0/\P1/\P2)(K:P0->P1->P2->G):G:=by obtain⟨p,q,r⟩:=h;exact K p q r
theorem y0{G:Prop}{α0 α1:Type}{P0:α0->Prop}{P1:α0->α1->Prop}{P2:α0->α1->Prop}{P3:α0->α1->Prop}(h:∃a,P0 a/\(∃b,P1 a b/\P2 a b/\P3 a b))(K:∀a,P0 a->∀b,P1 a b->P2 a b->P3 a b->G):G:=by obtain⟨a,p,b,q,r,s⟩:=h;exact K a p b q r s
theorem fU{G:Prop}{α0 α1 α2:Type}{P0:α0->α1->α2->Prop}{P1:α0->α1->α2->Prop}{P2:α0->α1->α2->Prop}{P3:α0->α1->α2->Prop}(h:∃a,∃b,∃c,P0 a b c/\P1 a b c/\P2 a b c/\P3 a b c)(K:∀a,∀b,∀c,P0 a b c->P1 a b c->P2 a b c->P3 a b c->G):G:=by obtain⟨a,b,c,p,q,r,s⟩:=h;exact K a b c p q r s
theorem iY{G:Prop}{α0:Type}{P0:α0->Prop}{P1:α0->Prop}{P2:α0->Prop}{P3:α0->Prop}(h:∃a,P0 a/\P1 a/\P2 a/\P3 a)(K:∀a,P0 a->P1 a->P2 a->P3 a->G):G:=by obtain⟨a,p,q,r,s⟩:=h;exact K a p q r s
theorem fS{G:Prop}{α0 α1:Type}{P0:α0->α1->Prop}{P1:α0->α1->Prop}{P2:α0->α1->Prop}{P3:α0->α1->Prop}{P4:α0->α1->Prop}(h:∃a,∃b,P0 a b/\P1 a b/\P2 a b/\P3 a b/\P4 a b)(K:∀a,∀b,P0 a b->P1 a b->P2 a b->P3 a b->P4 a b->G):G:=by obtain⟨a,b,p,q,r,s,t⟩:=h;exact K a b p q r s t
theorem j5{G:Prop}{α0 α1:Type}{P0:α0->α1->Prop}{P1:α0->α1->Prop}{P2:α0->α1->Prop}{P3:α0->α1->Prop}(h:∃a,∃b,P0 a b/\P1 a b/\P2 a b/\P3 a b)(K:∀a,∀b,P0 a b->P1 a b->P2 a b->P3 a b->G):G:=by obtain⟨a,b,p,q,r,s⟩:=h;exact K a b p q r s
theorem kC{G:Prop}{P0:Prop}{P1:Prop}{P2:Prop}{P3:Prop}{P4:Prop}{P5:Prop}(h:P0/\P1/\P2/\P3/\P4/\P5)(K:P0->P1->P2->P3->P4->P5->G):G:=by obtain⟨p,q,r,s,t,u⟩:=h;exact K p q r s t u
theorem I1{G:Prop}{α0 α1 α2:Type}{P0:α0->α1->Prop}{P1:α0->α1->α2->Prop}{P2:α0->α1->α2->Prop}{P3:α0->α1->α2->Prop}(h:∃a,∃b,P0 a b/\(∃c,P1 a b c/\P2 a b c/\P3 a b c))(K:∀a,∀b,P0 a b->∀c,P1 a b c->P2 a b c->P3 a b c->G):G:=by obtain⟨a,b,p,c,q,r,s⟩:=h;exact K a b p c q r s
theorem kH{G:Prop}{α0 α1 α2:Type}{P0:α0->α1->Prop}{P1:α0->α1->α2->Prop}{P2:α0->α1->α2->Prop}(h:∃a,∃b,P0 a b/\(∃c,P1 a b c/\P2 a b c))(K:∀a,∀b,P0 a b->∀c,P1 a b c->P2 a b c->G):G:=by obtain⟨a,b,p,c,q,r⟩:=h;exact K a b p c q r
theorem uP{G:Prop}{α0 α1:Type}{P0:Prop}{P1:α0->α1->Prop}{P2:α0->α1->Prop}(h:P0/\(∃a,∃b,P1 a b/\P2 a b))(K:P0->∀a,∀b,P1 a b->P2 a b->G):G:=by obtain⟨p,a,b,q,r⟩:=h;exact K p a b q r
theorem iV{G:Prop}{α0 α1 α2:Type}{P0:Prop}{P1:α0->Prop}{P2:α0->Prop}{P3:α0->α1->α2->Prop}{P4:α0->α1->α2->Prop}(h:P0/\(∃a,P1 a/\P2 a/\(∃b,∃c,P3 a b c/\P4 a b c)))(K:P0->∀a,P1 a->P2 a->∀b,∀c,P3 a b c->P4 a b c->G):G:=by obtain⟨p,a,q,r,b,c,s,t⟩:=h;exact K p a q r b c s t
theorem kK{G:Prop}{α0 α1 α2:Type}{P0:α0->α1->α2->Prop}{P1:α0->α1->α2->Prop}{P2:α0->α1->α2->Prop}{P3:α0->α1->α2->Prop}{P4:α0->α1->α2->Prop}(h:∃a,∃b,∃c,P0 a b c/\P1 a b c/\P2 a b c/\P3 a b c/\P4 a b c)(K:∀a,∀b,∀c,P0 a b c->P1 a b c->P2 a b c->P3 a b c->P4 a b c->G):G:=by obtain⟨a,b,c,p,q,r,s,t⟩:=h;exact K a b c p q r s t
theorem FX{G:Prop}{α0 α1 α2:Type}{P0:α0->α1->α2->Prop}{P1:α0->α1->α2->Prop}{P2:α0->α1->α2->Prop}(h:∃a,∃b,∃c,P0 a b c/\P1 a b c/\P2 a b c)(K:∀a,∀b,∀c,P0 a b c->P1 a b c->P2 a b c->G):G:=by obtain⟨a,b,c,p,q,r⟩:=h;exact K a b c p q r
theorem OA{G:Prop}{P0:Prop}{P1:Prop}{P2:Prop}{P3:Prop}(h:P0/\P1/\P2/\P3)(K:P0->P1->P2->P3->G):G:=by obtain⟨p,q,r,s⟩:=h;exact K p q r s
theorem NW{G:Prop}{α0 α1:Type}{P0:α0->α1->Prop}(h:∃a,∃b,P0 a b)(K:∀a,∀b,P0 a b->G):G:=by obtain⟨a,b,p⟩:=h;exact K a b p
theorem xX{G:Prop}{α0 α1 α2:Type}{P0:α0->α1->α2->Prop}(h:∃a,∃b,∃c,P0 a b c)(K:∀a,∀b,∀c,P0 a b c->G):G:=by obtain⟨a,b,c,p⟩:=h;exact K a b c p
theorem iK{α:Type}{a:α}{P:Prop}(h:none=some a):P:=by injection h
theorem NL{α:Type}{a:α}{P:Prop}(h:some a=none):P:=by injection h
theorem nE{P:Prop}(h:false=true):P:=by injection h
theorem mN{P:Prop}(h:true=false):P:=by injection h
theorem aS{c:Bool}{P:Prop}(h:P=bif c then P else False)(e:P):c=true:=by
 rcases c
 ·exact False.elim (h.mp e)
 ·rfl
theorem gM{α:Type}{c:Bool}{o:Option α}{x:α}(h:o=bif c then o else none)(e:o=some x):c=true:=by
 rcases c
 ·exact NL (e.symm.trans h)
 ·rfl
theorem iL{c b:Bool}(h:b=bif c then b else false)(e:b=true):c=true:=by
 rcases c
 ·exact mN (e.symm.trans h)
 ·rfl
theorem cond_f.{u}{α:Sort u}{c:Bool}{a b x:α}(h:x=bif c then a else b)(e:c=false):x=b:=by subst e;exact h
theorem i7{t:Expr}(h:(t.ctorIdx==23)=true):∃x p,t= .Name x p:=Expr.Name.elim t (eq_of_beq h) λx p=>⟨x,p,rfl⟩
theorem xH{t:Expr}(h:(t.ctorIdx==25)=true):∃l k p,t= .Tuple l k p:=Expr.Tuple.elim t (eq_of_beq h) λx k p=>⟨x,k,p,rfl⟩
theorem AE{t:Expr}(h:(t.ctorIdx==20)=true):∃o x p,t= .Attribute o x p:=Expr.Attribute.elim t (eq_of_beq h) λo x p=>⟨o,x,p,rfl⟩
theorem M5{t:Expr}(h:(t.ctorIdx==21)=true):∃o i p,t= .Subscript o i p:=Expr.Subscript.elim t (eq_of_beq h) λo x p=>⟨o,x,p,rfl⟩
theorem kL{t:Expr}(h:(t.ctorIdx==26)=true):∃l u st p,t= .Slice l u st p:=Expr.Slice.elim t (eq_of_beq h) λl u st p=>⟨l,u,st,p,rfl⟩
theorem HU{t:Expr}(h:(t.ctorIdx==19)=true):∃x k p,t= .Constant x k p:=Expr.Constant.elim t (eq_of_beq h) λl u st=>⟨l,u,st,rfl⟩
theorem hJ{β:Type}(l:List β)(a b:Int):(cut l a b).length<=l.length:=by unfold cut;rw[List.length_drop];exact Nat.le_trans (Nat.sub_le _ _) (List.length_take_le' _ _)
end Mine
end
section
set_option genSizeOf false
open PySem
namespace Mine
noncomputable def cG {α β:Type} (f:α->Option β):List α->Option (List β)
 | []=>some []
 |x::xs=>match f x with
   |none=>none
   |some y=>match cG f xs with
     |none=>none
     |some ys=>some (y::ys)
noncomputable def fz:Nat->Nat->Hp->V->Option V
 |0,_,_,_=>none
 |k+1,n0,H,d=>match d with
   | .ref m=>match decide (m<n0)with
     |true=>some (.ref m)
     |false=>match H[m]? with
       |some c=>fz k n0 H c
       |none=>none
   | .tup l=>(cG (fz k n0 H) l).map .tup
   | .lst l=>(cG (fz k n0 H) l).map .lst
   | .dct l=>(cG (λp=>match aL p.1 != 0 with|true=>(fz k n0 H p.2).map (p.1, ·)|false=>none) l).map .dct
   | .obj c fs=>(cG (λp=>(fz k n0 H p.2).map (p.1, ·)) fs).map (.obj c)
   |d=>some d
noncomputable def Q6 (n0:Nat) (H:Hp) (rho:aR):Option aR:=cG (λp=>(fz 8 n0 H p.2).map (p.1, ·)) rho
noncomputable def QS (n0:Nat) (H:Hp):Option Hp:=cG (fz 8 n0 H) (H.take n0)
section
variable {α:Type}(bad:α)(chk:Prop->α->α)
noncomputable def U4 (n:Nat) (H:Hp) (k:aR->Hp->α) (rho:aR):α:=opt bad (QS n H) (k rho)
noncomputable def jT (keep:Option (List Str)) (n:Nat) (rho:aR) (H:Hp) (k:aR->Hp->α):α:=match keep with
 |none=>k rho H
 |some ks=>opt bad (Q6 n H (rho.filter λp=>ks.contains p.1)) (U4 bad n H k)
noncomputable def UG (next:aR->Hp->(aR->Hp->α)->(V->Hp->α)->α) (k:aR->Hp->α) (r:V->Hp->α) (rho:aR) (H:Hp):α:=next rho H k r
noncomputable def UM (gc:aR->Hp->(aR->Hp->α)->α) (next:aR->Hp->(aR->Hp->α)->(V->Hp->α)->α) (k:aR->Hp->α) (r:V->Hp->α) (rho:aR) (H:Hp):α:=gc rho H (UG next k r)
noncomputable def VZ (body:aR->Hp->(aR->Hp->α)->(V->Hp->α)->α) (gc:aR->Hp->(aR->Hp->α)->α) (next:aR->Hp->(aR->Hp->α)->(V->Hp->α)->α) (k:aR->Hp->α) (r:V->Hp->α) (H:Hp) (rho:aR):α:=body rho H (UM gc next k r) r
noncomputable def kW (body:aR->Hp->(aR->Hp->α)->(V->Hp->α)->α) (next:aR->Hp->(aR->Hp->α)->(V->Hp->α)->α) (rho:aR) (k:aR->Hp->α) (r:V->Hp->α) (b:Bool) (H:Hp):α:=br (body rho H (UG next k r) r) (k rho H) 0 b
noncomputable def forL (sc:Scope) (body:aR->Hp->(aR->Hp->α)->(V->Hp->α)->α) (t:Expr) (gc:aR->Hp->(aR->Hp->α)->α):List V->aR->Hp->(aR->Hp->α)->(V->Hp->α)->α
 | [],rho,H,k,_=>k rho H
 |v::vs,rho,H,k,r=>opt bad (bL sc H rho t v) (VZ body gc (forL sc body t gc vs) k r H)
noncomputable def yM (test:aR->Hp->(Bool->Hp->α)->α) (body:aR->Hp->(aR->Hp->α)->(V->Hp->α)->α):Nat->aR->Hp->(aR->Hp->α)->(V->Hp->α)->α
 |0,_,_,_,_=>bad
 |n+1,rho,H,k,r=>test rho H (kW body (yM test body n) rho k r)
noncomputable def TA (op:Operator) (a b:V) (k:V->α):α:=match op,a,b with
 | .Add,.int x,.int y=>k (.int (x+y))
 | .Add,.bytes x,.bytes y=>guard bad (fits x&&fits y) (k (.bytes (x++y)))
 |_,_,_=>bad
noncomputable def pE (H:Hp) (o:V) (x:Str) (d:V) (k:Hp->α):α:=match o with
 | .ref n=>match H[n]? with
   |some (.obj c fs)=>guard bad (fits fs&&i8.contains x) (k (H.set n (.obj c (putL x d fs))))
   |_=>bad
 |_=>bad
noncomputable def o8 (H:Hp) (o i d:V) (k:Hp->α):α:=match o with
 | .ref n=>match H[n]? with
   |some (.dct l)=>guard bad (bW i l) (k (H.set n (.dct (dD i d l))))
   |_=>bad
 |_=>bad
noncomputable def lW (H:Hp) (o lo hi d:V) (k:Hp->α):α:=match o,lo,hi,d with
 | .ref n,.int a,.int b,.bytes l=>match H[n]? with
   |some (.bar m)=>guard bad (fits m&&decide (0<=a)&&decide (a<=b)&&decide (b<=m.length)&&decide (b-a=l.length)) (k (H.set n (.bar (m.take a.toNat++l++m.drop b.toNat))))
   |_=>bad
 |_,_,_,_=>bad
variable (P:MU)(cf:Str->List V->Hp->(V->Hp->α)->α)
noncomputable def UW (x:Str) (v:V) (k:Hp->α) (a:V) (H:Hp):α:=pE bad H a x v k
noncomputable def U2 (a l v:V) (k:Hp->α) (h:V) (H:Hp):α:=lW bad H a l h v k
noncomputable def VD (eh:Ev α V) (a v:V) (k:Hp->α) (l:V) (H:Hp):α:=eh H (U2 bad a l v k)
noncomputable def UK (el eh:Ev α V) (v:V) (k:Hp->α) (a:V) (H:Hp):α:=el H (VD bad eh a v k)
noncomputable def VO (a v:V) (k:Hp->α) (j:V) (H:Hp):α:=o8 bad H a j v k
noncomputable def TL (ei:Ev α V) (v:V) (k:Hp->α) (a:V) (H:Hp):α:=ei H (VO bad a v k)
noncomputable def UQ (k:aR->Hp->α) (H:Hp) (rho:aR):α:=k rho H
noncomputable def lJ:Expr->V->Cx->Hp->(aR->Hp->α)->α
 | .Attribute o x _,v,⟨sc,rho,out⟩,H,k=>aH bad chk P cf o ⟨sc,rho,out⟩ H (UW bad x v (k rho))
 | .Subscript o (.Slice (some lo) (some hi) none _) _,v,⟨sc,rho,out⟩,H,k=>aH bad chk P cf o ⟨sc,rho,out⟩ H (UK bad (aH bad chk P cf lo ⟨sc,rho,out⟩) (aH bad chk P cf hi ⟨sc,rho,out⟩) v (k rho))
 | .Subscript o i _,v,⟨sc,rho,out⟩,H,k=>aH bad chk P cf o ⟨sc,rho,out⟩ H (TL bad (aH bad chk P cf i ⟨sc,rho,out⟩) v (k rho))
 |t,v,⟨sc,rho,_⟩,H,k=>opt bad (bL sc H rho t v) (UQ k H)
noncomputable def kX (k:aR->Hp->α) (rho:aR) (d:V) (H:Hp):α:=match d with
 | .none=>k rho H
 |_=>bad
noncomputable def U0 (t:Expr) (c:Cx) (k:aR->Hp->α) (d:V) (H:Hp):α:=lJ bad chk P cf t d c H k
noncomputable def TQ (x:Str) (rho:aR) (H:Hp) (k:aR->Hp->α) (d:V):α:=k (putL x d rho) H
noncomputable def TY (x:Str) (op:Operator) (old:V) (rho:aR) (k:aR->Hp->α) (d:V) (H:Hp):α:=TA bad op old d (TQ x rho H k)
noncomputable def TK (ev:Ev α V) (x:Str) (op:Operator) (rho:aR) (H:Hp) (k:aR->Hp->α) (old:V):α:=ev H (TY bad x op old rho k)
noncomputable def TV (eb eo:Hp->(aR->Hp->α)->(V->Hp->α)->α) (k:aR->Hp->α) (r:V->Hp->α) (v:Bool) (H:Hp):α:=br (eb H k r) (eo H k r) 0 v
noncomputable def UE (ft:(Hp->(V->Hp->α)->α)->Cx->Ev α Bool) (fe:Cx->Ev α V) (sc:Scope) (out:aR) (rho:aR):Ev α Bool:=ft (fe ⟨sc,rho,out⟩) ⟨sc,rho,out⟩
noncomputable def rR (f:Cx->Hp->(aR->Hp->α)->(V->Hp->α)->α) (sc:Scope) (out:aR) (rho:aR):Hp->(aR->Hp->α)->(V->Hp->α)->α:=f ⟨sc,rho,out⟩
noncomputable def QV (body:aR->Hp->(aR->Hp->α)->(V->Hp->α)->α) (sc:Scope) (t:Expr) (keep:Option (List Str)) (rho:aR) (H:Hp) (k:aR->Hp->α) (r:V->Hp->α) (vs:List V):α:=forL bad sc body t (jT bad keep H.length) vs rho H k r
noncomputable def kFor (body:aR->Hp->(aR->Hp->α)->(V->Hp->α)->α) (sc:Scope) (t:Expr) (keep:Option (List Str)) (rho:aR) (k:aR->Hp->α) (r:V->Hp->α) (s:V) (H:Hp):α:=opt bad (tL s) (QV bad body sc t keep rho H k r)
noncomputable def UX (f:Cx->Hp->(aR->Hp->α)->(V->Hp->α)->α) (sc:Scope) (out:aR) (k:aR->Hp->α) (r:V->Hp->α) (rho:aR) (H:Hp):α:=f ⟨sc,rho,out⟩ H k r
mutual
noncomputable def TG:Stmt->Cx->Hp->(aR->Hp->α)->(V->Hp->α)->α
 | .Expr e _,⟨sc,rho,out⟩,H,k,_=>guard bad (!iA e) (aH bad chk P cf e ⟨sc,rho,out⟩ H (kX bad k rho))
 | .Pass _,⟨_,rho,_⟩,H,k,_=>k rho H
 | .Return none _,_,H,_,r=>r .none H
 | .Return (some e) _,c,H,_,r=>aH bad chk P cf e c H r
 | .Assign [t] e _,c,H,k,_=>guard bad (kP t e) (aH bad chk P cf e c H (U0 bad chk P cf t c k))
 | .AugAssign (.Name x _) op e _,⟨sc,rho,out⟩,H,k,_=>guard bad (iM sc x) (opt bad (name P ⟨sc,rho,out⟩ x) (TK bad (aH bad chk P cf e ⟨sc,rho,out⟩) x op rho H k))
 | .If t b o _,c,H,k,r=>fV bad chk P cf t (aH bad chk P cf t c) c H (TV (eO b c) (eO o c) k r)
 | .While t b [] _,⟨sc,rho,out⟩,H,k,r=>yM bad (UE (fV bad chk P cf t) (aH bad chk P cf t) sc out) (rR (eO b) sc out) 8 rho H k r
 | .For t iter b [] pos,⟨sc,rho,out⟩,H,k,r=>guard bad (!eU iter) (aH bad chk P cf iter ⟨sc,rho,out⟩ H (kFor bad (rR (eO b) sc out) sc t (P.keepAt pos) rho k r))
 |_,_,_,_,_=>bad
noncomputable def eO:List Stmt->Cx->Hp->(aR->Hp->α)->(V->Hp->α)->α
 | [],⟨_,rho,_⟩,H,k,_=>k rho H
 |s::ss,⟨sc,rho,out⟩,H,k,r=>TG s ⟨sc,rho,out⟩ H (UX (eO ss) sc out k r) r
end
end
structure Fn where
 params:List Str
 dflts:List V
 body:List Stmt
 sc:Scope
noncomputable def jN (a:Arguments):Bool:=a.posonlyargs.isEmpty&&a.vararg.isNone&&a.kwonlyargs.isEmpty&&a.kw_defaults.isEmpty&&a.kwarg.isNone
noncomputable def tJ:Expr->Option V
 | .Constant (.int i) _ _=>some (.int i)
 | .Constant (.str s) _ _=>some (.str s)
 | .Constant (.bytes b) _ _=>some (.bytes (b.map λu=>(u.toNat:Int)))
 |_=>none
noncomputable def fnOf (name:Str):List Stmt->Option Fn
 | []=>none
 |st::r=>match st with
   | .FunctionDef n a b _ _ _ sc _ _ _=>match n==name with
     |true=>match jN a with
       |true=>(cG tJ a.defaults).map λds=>⟨a.args.map (·.arg),ds,b,sc⟩
       |false=>none
     |false=>fnOf name r
   |_=>fnOf name r
noncomputable def fC (name:Str):List Stmt->Option (List Stmt)
 | []=>none
 |st::r=>match st with
   | .ClassDef n _ _ b _ _ _ _ _ _ _=>match n==name with
     |true=>some b
     |false=>fC name r
   |_=>fC name r
noncomputable def AD (f:Fn) (as:List V):Option aR:=
 let miss:=f.params.length-as.length
 match decide (as.length<=f.params.length)&&decide (miss<=f.dflts.length)with
 |true=>some (f.params.zip (as++f.dflts.drop (f.dflts.length-miss)))
 |false=>none
section
variable {α:Type}(bad:α)(chk:Prop->α->α)(P:MU)
noncomputable def TS (f:Fn):Bool:=tV f.sc&&f.sc.names.all (λp=>p.2 != .free)&&f.params.all λx=>f.sc.names.lookup x==some .local||f.sc.names.lookup x==some .cell
noncomputable def RY (k:V->Hp->α) (_:aR) (H:Hp):α:=k .none H
noncomputable def UB (cf:Str->List V->Hp->(V->Hp->α)->α) (b:List Stmt) (sc:Scope) (H:Hp) (k:V->Hp->α) (rho:aR):α:=eO bad chk P cf b ⟨sc,rho,[]⟩ H (RY k) k
noncomputable def cD (cf:Str->List V->Hp->(V->Hp->α)->α) (f:Fn) (as:List V) (H:Hp) (k:V->Hp->α):α:=guard bad (TS f) (opt bad (AD f as) (UB bad chk P cf f.body f.sc H k))
noncomputable def TH (n:Nat) (H:Hp) (k:V->Hp->α) (d:V):α:=opt bad (QS n H) (k d)
noncomputable def g8 (n:Nat) (d:V) (H:Hp) (k:V->Hp->α):α:=opt bad (fz 8 n H d) (TH bad n H k)
noncomputable def A3 (n:Nat) (k:V->Hp->α) (d:V) (H:Hp):α:=g8 bad n d H k
noncomputable def SM (n:Nat) (k:V->Hp->α) (d:V) (H:Hp):α:=match d with
 | .none=>k (.ref n) H
 |_=>bad
noncomputable def LO (cf:Str->List V->Hp->(V->Hp->α)->α) (x:Str) (as:List V) (H:Hp) (k:V->Hp->α) (f:Fn):α:=cD bad chk P cf f (.ref H.length::as) (H++[.obj x []]) (SM bad H.length k)
noncomputable def run (top:List Stmt):Nat->Str->List V->Hp->(V->Hp->α)->α
 |0,_,_,_,_=>bad
 |n+1,x,as,H,k=>match fnOf x top with
   |some f=>match P.drop x with
     |true=>cD bad chk P (run top n) f as H (A3 bad H.length k)
     |false=>cD bad chk P (run top n) f as H k
   |none=>match fC x top with
     |none=>bad
     |some b=>opt bad (fnOf "__init__" b) (LO bad chk P (run top n) x as H k)
end
noncomputable def top:List Stmt:=PySem.Challenge.pw_pf0357_01.main.body
noncomputable def IU (x:Str):List Stmt->Bool
 | []=>false
 |st::r=>match st with
   | .FunctionDef n .. =>n==x||IU x r
   | .ClassDef n .. =>n==x||IU x r
   |_=>IU x r
noncomputable def dE:List Str:=(["number_of","octets_of","turned","folded","mend","rolled","mixed","ended","little_word","jhash","scaled","look4","head_size","size_at","place_at","look6","new_meta","look","packet_of","family_of","base_of","part","put_part","sum_place","common","sums_met","pairs_of","mend_at","set_octets","error_kinds","is_icmp","is_error","answer_kind","ports_at","tuple_at","tuple_of","invert","side_of","drop_talk","look_up","is_error_packet","put_there","port_place","rewrite","bit_for","inner_rewritten","rewrite_inner","translate","address_of","port_of","with_address","with_port","has_port","done_bit","span_of_request","port_fits","in_range","port_span","is_used","pick_address","keeps_port","first_place","free_port","pick","setup","null_bind","home_of","own_address","nat_request","_law_digit","_law_octets","_law_number","_law_total","_law_check","_law_place","_law_built","_law_side","_law_turned","_law_is","_law_rules","_law_bounds","_law_class","_law_fits","_law_is_full","_law_scene","_law_new","_law_known","_law_strange","law","Packet","Talk","TalkBook","Scene"]:List String).map Str.ofString
noncomputable def d5:List Str:=["len","range","min","max","sum","bytes","bytearray","list"]
noncomputable def aN:MU where
 list p:=p.line==214||p.line==219||(p.line==756)
 dict p:=p.line==130||p.line==278||p.line==279
 bar p:=p.line==139
 drop x:=["sums_met","_law_new","_law_known","_law_strange"].any λy=>x==(y:Str)
 keepAt p:=match p.line==757 with
  |true=>some ["script","world","firsts"]
  |false=>none
 isFn x:=dE.contains x
 isGl x:=dE.contains x||d5.contains x
noncomputable abbrev Run (x:Str) (as:List V) (H:Hp) (K:V->Hp->Prop):Prop:=run False And aN top 20 x as H K
end Mine
end
section
open PySem PySem.W PyProof.Rows
namespace Mine
theorem RB{p:Prop}(h:(p->False)->False):p:=Classical.byContradiction h
structure Ent where
 name:Str
 idx:Nat
 addr:Nat
 code:Nat
 pm:Value
 dflt:Value
structure FD where
 name:Str
 idx:Nat
 addr:Nat
 ns:Nat
 init:Nat
 icode:Nat
 iqual:Str
 pm:Value
 dflt:Value
noncomputable def tab:List Ent:=[
 ⟨"number_of",4,53,52,.str "siftwall.octets" 235,.none⟩,
 ⟨"octets_of",5,58,57,.str "siftwall.octets" 235,.none⟩,
 ⟨"turned",6,63,62,.str "siftwall.octets" 235,.none⟩,
 ⟨"folded",7,70,69,.str "siftwall.octets" 235,.none⟩,
 ⟨"mend",8,77,76,.str "siftwall.octets" 235,.none⟩,
 ⟨"rolled",9,84,83,.str "siftwall.octets" 235,.none⟩,
 ⟨"mixed",10,91,90,.str "siftwall.octets" 235,.none⟩,
 ⟨"ended",11,98,97,.str "siftwall.octets" 235,.none⟩,
 ⟨"little_word",12,105,104,.str "siftwall.octets" 235,.none⟩,
 ⟨"jhash",13,112,111,.str "siftwall.octets" 235,.none⟩,
 ⟨"scaled",14,119,118,.str "siftwall.octets" 235,.none⟩,
 ⟨"look4",16,126,125,.str "siftwall.ipv4" 330,.none⟩,
 ⟨"head_size",18,133,132,.str "siftwall.ipv6" 341,.none⟩,
 ⟨"size_at",19,140,139,.str "siftwall.ipv6" 341,.none⟩,
 ⟨"place_at",20,147,146,.str "siftwall.ipv6" 341,.none⟩,
 ⟨"look6",21,154,153,.str "siftwall.ipv6" 341,.none⟩,
 ⟨"new_meta",23,161,160,.str "siftwall.packets" 382,.none⟩,
 ⟨"look",25,189,188,.str "siftwall.packets" 382,.none⟩,
 ⟨"packet_of",26,197,196,.str "siftwall.packets" 382,.ref 190⟩,
 ⟨"family_of",27,204,203,.str "siftwall.packets" 382,.none⟩,
 ⟨"base_of",28,211,210,.str "siftwall.packets" 382,.none⟩,
 ⟨"part",29,218,217,.str "siftwall.packets" 382,.none⟩,
 ⟨"put_part",30,225,224,.str "siftwall.packets" 382,.none⟩,
 ⟨"sum_place",31,232,231,.str "siftwall.packets" 382,.none⟩,
 ⟨"common",32,239,238,.str "siftwall.packets" 382,.none⟩,
 ⟨"sums_met",33,244,243,.str "siftwall.packets" 382,.none⟩,
 ⟨"pairs_of",34,251,250,.str "siftwall.packets" 382,.none⟩,
 ⟨"mend_at",35,258,257,.str "siftwall.packets" 382,.none⟩,
 ⟨"set_octets",36,265,264,.str "siftwall.packets" 382,.none⟩,
 ⟨"error_kinds",38,272,271,.str "siftwall.transport" 552,.none⟩,
 ⟨"is_icmp",43,322,321,.str "siftwall.tuples" 561,.none⟩,
 ⟨"is_error",44,329,328,.str "siftwall.tuples" 561,.none⟩,
 ⟨"answer_kind",45,336,335,.str "siftwall.tuples" 561,.none⟩,
 ⟨"ports_at",46,343,342,.str "siftwall.tuples" 561,.none⟩,
 ⟨"tuple_at",47,350,349,.str "siftwall.tuples" 561,.none⟩,
 ⟨"tuple_of",48,357,356,.str "siftwall.tuples" 561,.none⟩,
 ⟨"invert",49,364,363,.str "siftwall.tuples" 561,.none⟩,
 ⟨"side_of",50,371,370,.str "siftwall.tuples" 561,.none⟩,
 ⟨"drop_talk",51,376,375,.str "siftwall.tuples" 561,.none⟩,
 ⟨"look_up",52,383,382,.str "siftwall.tuples" 561,.none⟩,
 ⟨"is_error_packet",54,390,389,.str "siftwall.relate" 752,.none⟩,
 ⟨"put_there",56,397,396,.str "siftwall.natwrite" 762,.none⟩,
 ⟨"port_place",57,404,403,.str "siftwall.natwrite" 762,.none⟩,
 ⟨"rewrite",58,411,410,.str "siftwall.natwrite" 762,.none⟩,
 ⟨"bit_for",59,418,417,.str "siftwall.natwrite" 762,.none⟩,
 ⟨"inner_rewritten",60,425,424,.str "siftwall.natwrite" 762,.none⟩,
 ⟨"rewrite_inner",61,432,431,.str "siftwall.natwrite" 762,.none⟩,
 ⟨"translate",62,439,438,.str "siftwall.natwrite" 762,.none⟩,
 ⟨"address_of",64,446,445,.str "siftwall.nat" 845,.none⟩,
 ⟨"port_of",65,453,452,.str "siftwall.nat" 845,.none⟩,
 ⟨"with_address",66,460,459,.str "siftwall.nat" 845,.none⟩,
 ⟨"with_port",67,467,466,.str "siftwall.nat" 845,.none⟩,
 ⟨"has_port",68,474,473,.str "siftwall.nat" 845,.none⟩,
 ⟨"done_bit",69,481,480,.str "siftwall.nat" 845,.none⟩,
 ⟨"span_of_request",70,488,487,.str "siftwall.nat" 845,.none⟩,
 ⟨"port_fits",71,495,494,.str "siftwall.nat" 845,.none⟩,
 ⟨"in_range",72,502,501,.str "siftwall.nat" 845,.none⟩,
 ⟨"port_span",73,509,508,.str "siftwall.nat" 845,.none⟩,
 ⟨"is_used",74,516,515,.str "siftwall.nat" 845,.none⟩,
 ⟨"pick_address",75,523,522,.str "siftwall.nat" 845,.none⟩,
 ⟨"keeps_port",76,530,529,.str "siftwall.nat" 845,.none⟩,
 ⟨"first_place",77,537,536,.str "siftwall.nat" 845,.none⟩,
 ⟨"free_port",78,544,543,.str "siftwall.nat" 845,.none⟩,
 ⟨"pick",79,551,550,.str "siftwall.nat" 845,.none⟩,
 ⟨"setup",80,558,557,.str "siftwall.nat" 845,.none⟩,
 ⟨"null_bind",81,565,564,.str "siftwall.nat" 845,.none⟩,
 ⟨"home_of",82,572,571,.str "siftwall.nat" 845,.none⟩,
 ⟨"own_address",83,579,578,.str "siftwall.nat" 845,.none⟩,
 ⟨"nat_request",84,586,585,.str "siftwall.nat" 845,.none⟩,
 ⟨"_law_digit",88,615,614,.str "law_pf0357_01" 1130,.none⟩,
 ⟨"_law_octets",89,620,619,.str "law_pf0357_01" 1130,.none⟩,
 ⟨"_law_number",90,627,626,.str "law_pf0357_01" 1130,.none⟩,
 ⟨"_law_total",91,632,631,.str "law_pf0357_01" 1130,.none⟩,
 ⟨"_law_check",92,639,638,.str "law_pf0357_01" 1130,.none⟩,
 ⟨"_law_place",93,646,645,.str "law_pf0357_01" 1130,.none⟩,
 ⟨"_law_built",94,653,652,.str "law_pf0357_01" 1130,.none⟩,
 ⟨"_law_side",95,660,659,.str "law_pf0357_01" 1130,.none⟩,
 ⟨"_law_turned",96,667,666,.str "law_pf0357_01" 1130,.none⟩,
 ⟨"_law_is",97,674,673,.str "law_pf0357_01" 1130,.none⟩,
 ⟨"_law_rules",98,681,680,.str "law_pf0357_01" 1130,.none⟩,
 ⟨"_law_bounds",99,688,687,.str "law_pf0357_01" 1130,.none⟩,
 ⟨"_law_class",100,695,694,.str "law_pf0357_01" 1130,.none⟩,
 ⟨"_law_fits",101,702,701,.str "law_pf0357_01" 1130,.none⟩,
 ⟨"_law_is_full",102,707,706,.str "law_pf0357_01" 1130,.none⟩,
 ⟨"_law_scene",103,714,713,.str "law_pf0357_01" 1130,.none⟩,
 ⟨"_law_new",104,721,720,.str "law_pf0357_01" 1130,.none⟩,
 ⟨"_law_known",105,728,727,.str "law_pf0357_01" 1130,.none⟩,
 ⟨"_law_strange",106,735,734,.str "law_pf0357_01" 1130,.none⟩,
 ⟨"law",107,740,739,.str "law_pf0357_01" 1130,.none⟩
]
noncomputable def gV:List FD:=[
 ⟨"Packet",24,178,177,175,174,"Packet.__init__",.str "siftwall.packets" 382,.none⟩,
 ⟨"Talk",41,289,288,286,285,"Talk.__init__",.str "siftwall.tuples" 561,.none⟩,
 ⟨"TalkBook",42,311,310,308,307,"TalkBook.__init__",.str "siftwall.tuples" 561,.ref 301⟩,
 ⟨"Scene",86,604,603,601,600,"Scene.__init__",.str "siftwall.walk" 1076,.ref 594⟩]
noncomputable def eW:List Str:=(["WallFault","Misused","number_of","octets_of","turned","folded","mend","rolled","mixed","ended","little_word","jhash","scaled","look4","head_size","size_at","place_at","look6","new_meta","Packet","look","packet_of","family_of","base_of","part","put_part","sum_place","common","sums_met","pairs_of","mend_at","set_octets","error_kinds","DYING","Talk","TalkBook","is_icmp","is_error","answer_kind","ports_at","tuple_at","tuple_of","invert","side_of","drop_talk","look_up","is_error_packet","put_there","port_place","rewrite","bit_for","inner_rewritten","rewrite_inner","translate","address_of","port_of","with_address","with_port","has_port","done_bit","span_of_request","port_fits","in_range","port_span","is_used","pick_address","keeps_port","first_place","free_port","pick","setup","null_bind","home_of","own_address","nat_request","Scene","_law_digit","_law_octets","_law_number","_law_total","_law_check","_law_place","_law_built","_law_side","_law_turned","_law_is","_law_rules","_law_bounds","_law_class","_law_fits","_law_is_full","_law_scene","_law_new","_law_known","_law_strange"]:List String).map Str.ofString
noncomputable def hs (P:Params) (x:String):Int:=reduceHash (P.strHash (Str.ofString x).cps)
noncomputable def t9 (n:Str) (a ns:Nat) (t1 t2:Nat):Obj:=
 { cls:=.type "type",data:=.cls { name:=n,bases:=[.type "object"],mro:=[.ref a,.type "object"],ns:=ns,qualname:=n },
   slots:= #[none,none,some (.str n t1),some (.str n t2),some (.builtin "object.__new__"),some (.bool true)] }
noncomputable def oC (l:List Value):Obj:={ cls:=.type "tuple",data:=.seq l.toArray }
noncomputable def frag (P:Params):Frag:=[
 (178,t9 "Packet" 178 177 392 400),
 (177,{ cls:=.type "dict",data:=.dict #[⟨hs P "__module__",.str "__module__" 399,.str (Str.ofString "siftwall.packets") 382⟩,⟨hs P "__firstlineno__",.str "__firstlineno__" 403,.int (136) 402⟩,⟨hs P "__init__",.str "__init__" 413,.ref 175⟩,⟨hs P "__static_attributes__",.str "__static_attributes__" 421,.ref 176⟩,⟨hs P "__dict__",.str "__dict__" 423,.ref 179⟩,⟨hs P "__weakref__",.str "__weakref__" 425,.ref 180⟩,⟨hs P "__doc__",.str "__doc__" 426,.none⟩] 4 }),
 (289,t9 "Talk" 289 288 565 573),
 (288,{ cls:=.type "dict",data:=.dict #[⟨hs P "__module__",.str "__module__" 572,.str (Str.ofString "siftwall.tuples") 561⟩,⟨hs P "__firstlineno__",.str "__firstlineno__" 576,.int (258) 575⟩,⟨hs P "__init__",.str "__init__" 587,.ref 286⟩,⟨hs P "__static_attributes__",.str "__static_attributes__" 599,.ref 287⟩,⟨hs P "__dict__",.str "__dict__" 601,.ref 290⟩,⟨hs P "__weakref__",.str "__weakref__" 603,.ref 291⟩,⟨hs P "__doc__",.str "__doc__" 604,.none⟩] 4 }),
 (311,t9 "TalkBook" 311 310 607 615),
 (310,{ cls:=.type "dict",data:=.dict #[⟨hs P "__module__",.str "__module__" 614,.str (Str.ofString "siftwall.tuples") 561⟩,⟨hs P "__firstlineno__",.str "__firstlineno__" 618,.int (272) 617⟩,⟨hs P "__init__",.str "__init__" 631,.ref 308⟩,⟨hs P "__static_attributes__",.str "__static_attributes__" 642,.ref 309⟩,⟨hs P "__dict__",.str "__dict__" 644,.ref 312⟩,⟨hs P "__weakref__",.str "__weakref__" 646,.ref 313⟩,⟨hs P "__doc__",.str "__doc__" 647,.none⟩] 4 }),
 (604,t9 "Scene" 604 603 1078 1086),
 (603,{ cls:=.type "dict",data:=.dict #[⟨hs P "__module__",.str "__module__" 1085,.str (Str.ofString "siftwall.walk") 1076⟩,⟨hs P "__firstlineno__",.str "__firstlineno__" 1089,.int (553) 1088⟩,⟨hs P "__init__",.str "__init__" 1102,.ref 601⟩,⟨hs P "__static_attributes__",.str "__static_attributes__" 1122,.ref 602⟩,⟨hs P "__dict__",.str "__dict__" 1124,.ref 605⟩,⟨hs P "__weakref__",.str "__weakref__" 1126,.ref 606⟩,⟨hs P "__doc__",.str "__doc__" 1127,.none⟩] 4 }),
 (190,oC [.int 2048 437,.bytes #[] 438]),
 (301,oC [.int 64 619,.int 0 620,.int 128 621]),
 (594,oC [.int 0 1090,.str "input" 1091])]
noncomputable def k8 (qual:Option Str) (code:Nat) (pm dflt:Value) (st:Stmt):Option Obj:=match st with
 | .FunctionDef n a b _ _ _ sc _ _ _=>some { cls:=.type "function",data:=.func { name:=n,qualname:=qual.getD n,params:=a,body:=.stmts b,scope:=sc,globals:=3,closure:=[],defaults:=dflt,kwdefaults:=.none,pyModule:=pm,code:=.ref code } }
 |_=>none
noncomputable def Ent.obj (e:Ent):Option Obj:=(top[e.idx]?).bind (k8 none e.code e.pm e.dflt)
noncomputable def f6 (x:Str):List Stmt->Option Stmt
 | []=>none
 |st::r=>match st with
   | .FunctionDef n .. =>if n==x then some st else f6 x r
   |_=>f6 x r
noncomputable def FD.obj (c:FD):Option Obj:=match top[c.idx]? with
 |some (.ClassDef _ _ _ b _ _ _ _ _ _ _)=>(f6 "__init__" b).bind (k8 (some c.iqual) c.icode c.pm c.dflt)
 |_=>none
noncomputable def codeOk (h:Heap) (c:Nat) (q:Str):Bool:=match h.get? c with
 |some ⟨_,_,.fields vs,_⟩=>(match vs.toList with
   |_:: .str n _::_=>n==q
   |_=>false)
 |_=>false
noncomputable abbrev Al:=List (Option Value×Option Obj×Bool)×List (Option Value×Option Obj×Bool)×List (Option Obj)
noncomputable def Yf (s:Shared):Al:=
 (tab.map λe=>(s.heap.nsMap mainGlobals e.name,s.heap.get? e.addr,codeOk s.heap e.code e.name),
  gV.map λc=>(s.heap.nsMap mainGlobals c.name,s.heap.get? c.init,codeOk s.heap c.icode c.iqual),
  [178,177,289,288,311,310,604,603,190,301,594].map s.heap.get?)
noncomputable def Ya (w:World):Al:=
 (tab.map λe=>(some (.ref e.addr),e.obj,true),gV.map λc=>(some (.ref c.addr),c.obj,true),(frag w.params).map λp=>some p.2)
noncomputable abbrev R:=PySem.Challenge.rw_pf0357_01.row
noncomputable def q:Program:=view PySem.Challenge.pw_pf0357_01 [107]
end Mine
end
section
open PySem PySem.W PyProof.Rows
namespace Mine
structure LJ (w:World) (h:Heap):Prop where
 tab:∀e∈tab,h.nsMap mainGlobals e.name=some (.ref e.addr)/\h.get? e.addr=e.obj/\codeOk h e.code e.name=true
 kls:∀c∈gV,h.nsMap mainGlobals c.name=some (.ref c.addr)/\h.get? c.init=c.obj/\codeOk h c.icode c.iqual=true
 frag:(frag w.params).In h
theorem O8(w:World)(s:Shared)(e:Yf s=Ya w):LJ w s.heap:=by
 obtain⟨e1,e2⟩:=Prod.mk.inj e
 obtain⟨e2,e3⟩:=Prod.mk.inj e2
 refine⟨λx hx=>?_,λc hc=>?_,?_⟩
 ·have:=List.map_inj_left.mp e1 x hx
  obtain⟨a,b⟩:=Prod.mk.inj this
  obtain⟨b,c⟩:=Prod.mk.inj b
  exact⟨a,b,c⟩
 ·have:=List.map_inj_left.mp e2 c hc
  obtain⟨a,b⟩:=Prod.mk.inj this
  obtain⟨b,c⟩:=Prod.mk.inj b
  exact⟨a,b,c⟩
 ·exact Frag.in_of (as:=[178,177,289,288,311,310,604,603,190,301,594]) rfl e3
set_option tactic.hygienic true in
theorem mU{h h':Heap}{a:Addr}{x:Str}{v:Value}(e:h.nsMap a x=some v)(k:∀b o,h.get? b=some o->h'.get? b=some o):h'.nsMap a x=some v:=by
 unfold Heap.nsMap at e ⊢
 split at e
 ·rename_i o ho
  rw[k _ _ ho]
  exact e
 ·injection e
set_option tactic.hygienic true in
theorem lR{c:Nat}(e:codeOk h c x=true)(k:∀b o,h.get? b=some o->h'.get? b=some o):codeOk h' c x=true:=by
 unfold codeOk at e ⊢
 split at e
 ·rename_i d vs sl ho
  rw[k _ _ ho]
  exact e
 ·injection e
theorem t6:(tab.all λe=>e.obj.isSome)=true:=by kernel_rfl
theorem AP:(gV.all λe=>e.obj.isSome)=true:=by kernel_rfl
theorem LJ.keeps(w:World)(h h':Heap)(O:LJ w h)(k:∀b o,h.get? b=some o->h'.get? b=some o):LJ w h':=by
 refine⟨λe he=>?_,λc hc=>?_,O.frag.keeps k⟩
 ·refine qC (O.tab e he) λa b c=>?_
  refine⟨mU a k,?_,lR c k⟩
  obtain⟨o,q⟩:=Option.isSome_iff_exists.mp (List.all_eq_true.mp t6 e he)
  rw[q]at b ⊢
  exact k _ _ b
 ·refine qC (O.kls c hc) λa b d=>?_
  refine⟨mU a k,?_,lR d k⟩
  obtain⟨o,q⟩:=Option.isSome_iff_exists.mp (List.all_eq_true.mp AP c hc)
  rw[q]at b ⊢
  exact k _ _ b
end Mine
end
section
open PySem PySem.W PyProof.Rows
namespace Mine
noncomputable abbrev pw:=PySem.Challenge.pw_pf0357_01
noncomputable def kZ (p:Program) (w:World) (nO:Nat) (ann:Option Value):Nat->SharedT->Thread->Option SharedT
 |0,_,_=>none
 |n+1,s,t=>match through t with
   |true=>some s
   |false=>match Fast.tw6613529449190102663 nO ann t with
     |false=>none
     |true=>match Fast.tw10156331382660048174 (Fast.tw11892475500146522536 Fast.tw14364793385576792824) p w s t with
       |some (s',t')=>kZ p w nO ann n s' t'
       |none=>none
theorem lG{nO:Nat}:∀(n:Nat) (s:SharedT) (t:Thread) (r:SharedT),kZ p w nO ann n s t=some r->topRun treeTable p w nO ann n s.abs t=some r.abs
 |0,_,_,_,h=>by injection h
 |n+1,s,t,r,h=>by
   unfold kZ at h
   rw[<-Fast.te6613529449190102663, <-Fast.te10156331382660048174, <-Fast.te11892475500146522536, <-Fast.te14364793385576792824]at h
   unfold topRun
   induction ht:through t using Bool.casesOn with
   |true=>rw[ht]at h;obtain rfl:=Option.some.inj h;rfl
   |false=>
     rw[ht]at h
     induction hk:stepOk nO ann t using Bool.casesOn with
     |false=>rw[hk]at h;injection h
     |true=>
       rw[hk]at h
       induction hs:stepT (denote treeTable) p w s t using Option.casesOn with
       |none=>rw[hs]at h;injection h
       |some x=>
         obtain⟨s',t'⟩:=x
         rw[hs]at h
         rw[stepT_spec hs]
         exact lG n s' t' r h
noncomputable def sQ:Nat->BT->List Obj->BT
 |_,t,[]=>t
 |n,t,o::r=>sQ (n+1) (t.ins n o) r
noncomputable def NO:Nat->BT->List Obj->Bool
 |_,_,[]=>true
 |n,t,o::r=>((t.ins n o).get n).isSome&&NO (n+1) (t.ins n o) r
theorem oZ(life:Life):∀(l:List Obj) (n:Nat) (t:BT),NO n t l=true->absHeap (sQ n t l) (n+l.length) life=⟨(absHeap t n life).objs++l.toArray,life⟩
 | [],n,t,_=>by show absHeap t n life=_;rw[show([]:List Obj).toArray= #[]from rfl,Array.append_empty];rfl
 |o::r,n,t,h=>by
   obtain⟨a,b⟩:=Bool.and_eq_true_iff.mp h
   have e:=absHeap_ins (life:=life) a
   show absHeap (sQ (n+1) (t.ins n o) r) (n+(r.length+1)) life=_
   rw[show n+(r.length+1)=n+1+r.length by lia,oZ life r (n+1) _ b,e]
   show Heap.mk _ _=Heap.mk _ _
   congr 1
   show(((absHeap t n life).objs.push o)++r.toArray)=_
   apply Array.ext'
   simp
noncomputable def S0 (w:World) (os:OsState):SharedT:=⟨sQ 0 .nil (boot_heap w.params).objs.toList,11,(boot_heap w.params).life, #[],boot_drawn,boot_toks,os⟩
theorem PC(w:World)(os:OsState):(S0 w os).abs=⟨boot_heap w.params, #[],boot_drawn,boot_toks,os⟩:=by
 have h:=oZ (boot_heap w.params).life (boot_heap w.params).objs.toList 0 .nil (by kernel_rfl)
 have hl:(boot_heap w.params).objs.toList.length=11:=by kernel_rfl
 rw[hl,Nat.zero_add]at h
 delta S0 SharedT.abs
 dsimp only
 rw[h]
 have e:(absHeap BT.nil 0 (boot_heap w.params).life).objs= #[]:=rfl
 rw[e]
 simp
theorem MH(w:World):((boot_heap w.params).isNs mainGlobals&&(#[]:Array GenState).size==0)=true:=by kernel_rfl
theorem I7(w:World):(boot_heap w.params).objs.size=11:=by kernel_rfl
theorem J8(w:World):(boot_heap w.params).nsMap mainGlobals "__annotations__"=some (.ref 6):=by kernel_rfl
theorem sW{p q:Program}{loose:List Str}{Xt:Shared->Bool}{α:Type}{Yf:Shared->α}{Ya:World->α}{N:Nat}(e:opening p=plainProg p.main.scope.names)(hN:Nat.ble 600 N=true)(f:∀s,fenceModules? p s=some s)
  (h:∀w os,(kZ p w 11 (some (.ref 6)) N (S0 w os) (topStub p)).map (λr=>
   ((staticsOk (importedModules p.main.body) (boot_heap w.params) r.abs.heap&&namesBound p r.abs.heap&&gensDone r.abs&&laidKept (boot_heap w.params) r.abs.heap),
     openSeen q loose (importedModules p.main.body) Xt true r.abs, Yf r.abs)) = some (true, openGood q loose, Ya w)) : LeftO p q loose Xt Yf Ya N := fun w => by
 refine aT (Option.map_eq_some_iff.mp (boot_open e hN f w)) λo91 e e'=>?_
 obtain⟨hh,gs,d,k,os⟩:=o91
 refine OA (show hh=boot_heap w.params/\gs= #[]/\d=boot_drawn/\k=boot_toks from by simpa using e') λe92 e93 e94 e95=>?_
 subst e92
 subst e93
 subst e94
 subst e95
 refine aT (Option.map_eq_some_iff.mp (h w os)) λr hr hv=>?_
 refine qC (show _/\_/\_ from by simpa only[Prod.mk.injEq]using hv) λl1 l2 l3=>?_
 have hr':=lG _ _ _ _ hr
 rw[PC]at hr'
 have t:topFrom treeTable p w N ⟨boot_heap w.params, #[],boot_drawn,boot_toks,os⟩=some r.abs:=by
  unfold topFrom
  dsimp only
  rw[MH w,I7 w,J8 w]
  dsimp only
  rw[hr']
  simp only[Option.bind_some,l1]
 delta openEnds
 rw[e,Option.bind_some,t,Option.map_some]
 exact congrArg some (Prod.ext l2 l3)
noncomputable abbrev SW (s:Shared):Bool:=xlAt q [] s&&recOk R.toRowW.records s
noncomputable def UN (o:Option Obj) (x:Str):Option Value:=match o with
 |some o=>(match o.data with| .dict es _=>nsFind es x|_=>none)
 |none=>none
noncomputable def NJ (o:Option Obj) (q:Str):Bool:=match o with
 |some ⟨_,_,.fields vs,_⟩=>(match vs.toList with
   |_:: .str n _::_=>n==q
   |_=>false)
 |_=>false
noncomputable def SU (g:Addr->Option Obj):Al:=
 (tab.map λe=>(UN (g mainGlobals) e.name,g e.addr,NJ (g e.code) e.name),
  gV.map λc=>(UN (g mainGlobals) c.name,g c.init,NJ (g c.icode) c.iqual),
  [178,177,289,288,311,310,604,603,190,301,594].map g)
noncomputable def LZ (r:SharedT) (a:Addr):Option Obj:=cond (Nat.ble (a+1) r.n) (alive ((r.tree.get a).getD default)) none
theorem LF(r:SharedT):r.abs.heap.get? =LZ r:=by
 funext a
 unfold Heap.get? LZ SharedT.abs
 dsimp only
 rw[absHeap_at]
 by_cases h:a<r.n
 ·rw[if_pos h,show Nat.ble (a+1) r.n=true from Nat.ble_eq.mpr h]
  obtain⟨c,d,dt,sl⟩:=(r.tree.get a).getD default
  cases dt<;>rfl
 ·rw[if_neg h,show Nat.ble (a+1) r.n=false from Bool.eq_false_iff.mpr λq=>h (Nat.ble_eq.mp q)]
  rfl
theorem QH(r:SharedT):Yf r.abs=SU (LZ r):=(rfl:Yf r.abs=SU r.abs.heap.get?).trans (congrArg SU (LF r))
end Mine
end
section
open PySem PySem.W PyProof.Rows
namespace Mine
set_option maxHeartbeats 0 in
theorem B3:∀w os,(kZ pw w 11 (some (.ref 6)) 8890 (S0 w os) (topStub pw)).map (λr=>
  ((staticsOk (importedModules pw.main.body) (boot_heap w.params) r.abs.heap&&namesBound pw r.abs.heap&&gensDone r.abs&&laidKept (boot_heap w.params) r.abs.heap),
    Fast.tw4187177175401517315 q eW (importedModules pw.main.body) SW true r.abs,SU (LZ r)))=some (true,openGood q eW,Ya w):=by
 intro w os
 kernel_rfl
theorem left:LeftO pw q eW SW Yf Ya 8890:=sW (by kernel_rfl) rfl (λs=>by kernel_rfl) (λw os=>(congrArg (Option.map · _) (funext λr=>by rw[QH,Fast.te4187177175401517315])).trans (B3 w os))
end Mine
end
section
open PySem PySem.W PyProof.Rows
namespace Mine
noncomputable abbrev LW:=PySem.Challenge.rw_pf0357_01
theorem VE:namesResolve LW.row.prog=true:=by kernel_rfl
theorem UR:noRoadLSs { strict:= !(importedModules LW.row.prog.main.body).all cThrough.contains,foot:=none,bare:=(["vars","dir","locals"]:List Str).filter (readsOut LW.row.prog LW.row.prog.main.body) } LW.row.prog.main.body=true:=by
 rw[Fast.te8326940854005059898];kernel_rfl
theorem VP:(namesMeet LW.row.prog LW.row.prog.main.body λ_ n=>attrL n)=true:=by kernel_rfl
theorem TU:noRoadLSs { strict:=true,foot:=some LW.bound',writes:=LW.writes,may:=LW.may } LW.footing=true:=by
 rw[Fast.te8326940854005059898];kernel_rfl
theorem TX:(LW.bound'.all λn=> !builtinNamed n||LW.about==[n]|| !LW.reads n)=true:=by kernel_rfl
theorem T5:(namesMeet LW.prog LW.above (λ_ n=> !LW.own.contains n))=true:=by kernel_rfl
set_option maxHeartbeats 0 in
theorem E5:LW.wellSaid=true:=by
 unfold OpenLaw.wellSaid OpenRow.wellSaid OpenRow.partSaid looksOpen
 repeat' (with_reducible refine look_both ?_ ?_)
 all_goals (with_reducible first|exact VE|exact UR|exact VP|exact TU|exact TX|exact T5|kernel_rfl)
end Mine
end
section
open PySem PySem.W PyProof.Rows
namespace Mine
end Mine
end
section
open PySem PySem.W PyProof.Rows
namespace Mine
noncomputable abbrev P2:=Addr×Addr
noncomputable def own (μ:List P2) (a:Addr):Prop:=∃p∈μ,a=p.1\/a=p.2
noncomputable def bO:List (Str×Value):=[("len",.builtin "len"),("range",.type "range"),("min",.builtin "min"),("max",.builtin "max"),("sum",.builtin "sum"),("bytes",.type "bytes"),("bytearray",.type "bytearray"),("list",.type "list")]
noncomputable def qN (c:Str):Option Addr:=(gV.find? (·.name==c)).map (·.addr)
noncomputable def jO (x:Str):Option Value:=match tab.find? (·.name==x)with
 |some e=>some (.ref e.addr)
 |none=>match qN x with
   |some a=>some (.ref a)
   |none=>bO.lookup x
noncomputable def off (N:Addr->Prop) (μ:List P2) (p:P2):Prop:=¬N p.1/\¬N p.2/\¬own μ p.1/\¬own μ p.2
noncomputable def bR (h:Heap) (a:Addr) (ty:String) (vs:List Value):Prop:=∃n,h.get? a=some { cls:=.type ty,data:=.seq vs.toArray n }
noncomputable def bC (b:Array UInt8):List Int:=b.toList.map λu=>(u.toNat:Int)
noncomputable def fJ (w:World):V->Int
 | .int i=>hashInt i
 | .str x=>hashStr w x
 | .tup [.int z,.tup l]=>reduceHash (Builtin.Tuple.tupleHashOf [hashInt z,reduceHash (Builtin.Tuple.tupleHashOf (l.map λd=>match d with| .int i=>hashInt i|_=>0))])
 |_=>0
noncomputable def PR (μ:List P2):V->Value->Prop
 | .none,v=>v= .none
 | .bool b,v=>v= .bool b
 | .int i,v=>∃t,v= .int i t
 | .str s,v=>∃t,v= .str s t
 | .bytes l,v=>∃b t,v= .bytes b t/\bC b=l
 | .ref n,v=>∃p,μ[n]? =some p/\v= .ref p.1
 | .glob x,v=>jO x=some v
 |_,_=>False
noncomputable def d9 (l:List (V×V)):Prop:=(l.map (·.1)).Pairwise λa b=>bQ a b=false
section
variable (w:World)(N:Addr->Prop)(μ:List P2)(h:Heap)
mutual
noncomputable def CR:V->P2->Prop
 | .tup l,p=>p.2=p.1/\∃vs,bR h p.1 "tuple" vs/\bJ l vs
 | .lst l,p=>p.2=p.1/\∃vs,bR h p.1 "list" vs/\bJ l vs
 | .dct l,p=>(p.2=p.1/\d9 l/\(p.1==sysModules)=false)/\∃es n,h.get? p.1=some (dictOf es n)/\gT l es
 | .bar l,p=>p.2=p.1/\∃b,h.get? p.1=some { cls:=.type "bytearray",data:=.bytearray b 0 }/\bC b=l
 | .obj c fs,p=>p.1≠p.2/\∃C,qN c=some C/\h.get? p.1=some (instObj C p.2)/\∃es n,h.get? p.2=some (dictOf es n)/\uH fs es
 | .rng a b c,p=>(p.2=p.1/\Builtin.Range.small a b c=true/\0<c)/\∃t u v,IsRange h p.1 a b c t u v
 |_,_=>False
noncomputable def bJ:List V->List Value->Prop
 | [],vs=>vs=[]
 |d::r,vs=>∃v us,vs=v::us/\(PR μ d v\/∃p,v= .ref p.1/\off N μ p/\CR d p)/\bJ r us
noncomputable def gT:List (V×V)->List DictEntry->Prop
 | [],es=>es=[]
 |(k,d)::r,es=>∃e us,es=e::us/\(PR μ k e.key\/∃p,e.key= .ref p.1/\off N μ p/\CR k p)/\(PR μ d e.val\/∃p,e.val= .ref p.1/\off N μ p/\CR d p)/\e.hash=fJ w k/\gT r us
noncomputable def uH:List (Str×V)->List DictEntry->Prop
 | [],es=>es=[]
 |(x,d)::r,es=>∃e us,es=e::us/\(∃t,e.key= .str x t)/\(PR μ d e.val\/∃p,e.val= .ref p.1/\off N μ p/\CR d p)/\uH r us
end
noncomputable def VR (d:V) (v:Value):Prop:=PR μ d v\/∃p,v= .ref p.1/\off N μ p/\CR w N μ h d p
end
end Mine
end
section
open PySem PySem.W PyProof.Rows
namespace Mine
theorem bR.lt{ty vs}(x:bR h a ty vs):a<h.objs.size:=let⟨_,e⟩:=x;Heap.lt_size e
theorem bR.keeps{ty vs}(x:bR h a ty vs)(k:∀o,h.get? a=some o->h'.get? a=some o):bR h' a ty vs:=
 let⟨n,e⟩:=x;⟨n,k _ e⟩
theorem bR.ex{ty vs}(x:bR h a ty vs):h.get? a≠none:=let⟨_,e⟩:=x;by rw[e];simp
theorem CR.lt{w N μ h}(x:CR w N μ h d p):h.get? p.1≠none/\h.get? p.2≠none:=by
 induction d using V.casesOn with
 |tup l=>refine cU x λe vs s _=>?_;clear x;exact⟨s.ex,e▸s.ex⟩
 |lst l=>refine cU x λe vs s _=>?_;clear x;exact⟨s.ex,e▸s.ex⟩
 |dct l=>refine uP x λo91 es n s _=>?_;clear x;obtain⟨e,-⟩:=o91;rw[e,s];simp
 |bar l=>refine cU x λe b s _=>?_;clear x;rw[e,s];simp
 |obj c fs=>refine iV x λ_ C _ s es n s2 _=>?_;clear x;rw[s,s2];simp
 |rng a b c=>obtain⟨e,t,u,v,s⟩:=x;unfold IsRange at s;rw[e.1,s];simp
 |_=>exact False.elim x
structure Up (N:Addr->Prop) (μ:List P2) (h:Heap) (N':Addr->Prop) (μ':List P2) (h':Heap):Prop where
 pre:∀(n:Nat) (p:P2),μ[n]? =some p->μ'[n]? =some p
 ow:∀a,own μ' a->own μ a\/N a\/h.get? a=none
 nn:∀a,N' a->N a\/h.get? a=none
 keep:∀a o,¬N a->¬own μ a->h.get? a=some o->h'.get? a=some o
theorem PR.up(pre:∀(n:Nat) (p:P2),μ[n]? =some p->μ'[n]? =some p)(x:PR μ d v):PR μ' d v:=by
 induction d using V.casesOn with
 |ref n=>refine aT x λp e r=>?_;clear x;exact⟨p,pre _ _ e,r⟩
 |_=>exact x
section
variable {w:World}{N:Addr->Prop}{μ:List P2}{h:Heap}{N':Addr->Prop}{μ':List P2}{h':Heap}
theorem oK(U:Up N μ h N' μ' h')(o:off N μ p)(l1:h.get? p.1≠none)(l2:h.get? p.2≠none):off N' μ' p:=by
 refine⟨λz=>?_,λz=>?_,λz=>?_,λz=>?_⟩
 ·rcases U.nn _ z with z|z
  ·exact o.1 z
  ·exact l1 z
 ·rcases U.nn _ z with z|z
  ·exact o.2.1 z
  ·exact l2 z
 ·rcases U.ow _ z with z|z|z
  ·exact o.2.2.1 z
  ·exact o.1 z
  ·exact l1 z
 ·rcases U.ow _ z with z|z|z
  ·exact o.2.2.2 z
  ·exact o.2.1 z
  ·exact l2 z
mutual
theorem fT(U:Up N μ h N' μ' h'):∀(d:V) (p:P2),(∀o,h.get? p.1=some o->h'.get? p.1=some o)->(∀o,h.get? p.2=some o->h'.get? p.2=some o)->CR w N μ h d p->CR w N' μ' h' d p
 | .tup l,p,k1,_,x=>by
   refine cU x λe vs s r=>?_
   clear x
   exact⟨e,vs,s.keeps k1,cX U l vs r⟩
 | .lst l,p,k1,_,x=>by
   refine cU x λe vs s r=>?_
   clear x
   exact⟨e,vs,s.keeps k1,cX U l vs r⟩
 | .dct l,p,k1,_,x=>by
   refine uP x λe es n s r=>?_
   clear x
   exact⟨e,es,n,k1 _ s,mK U l es r⟩
 | .bar l,p,k1,_,x=>by
   refine cU x λe b s r=>?_
   clear x
   exact⟨e,b,k1 _ s,r⟩
 | .obj c fs,p,k1,k2,x=>by
   refine iV x λe C e2 s es n s2 r=>?_
   clear x
   exact⟨e,C,e2,k1 _ s,es,n,k2 _ s2,xV U fs es r⟩
 | .rng a b c,p,k1,_,x=>by
   obtain⟨e,t,u,v,s⟩:=x
   exact⟨e,t,u,v,k1 _ s⟩
 | .none,_,_,_,x| .bool _,_,_,_,x| .int _,_,_,_,x| .str _,_,_,_,x| .bytes _,_,_,_,x| .ref _,_,_,_,x| .glob _,_,_,_,x=>by exact False.elim x
theorem cX(U:Up N μ h N' μ' h'):∀(l:List V) (vs:List Value),bJ w N μ h l vs->bJ w N' μ' h' l vs
 | [],vs,x=>by exact x
 |d::r,vs,x=>by
   refine aE x λv us e c rest=>?_
   clear x
   refine⟨v,us,e,?_,cX U r us rest⟩
   rcases c with c|⟨p,e,o,c⟩
   ·exact .inl (c.up U.pre)
   ·exact .inr ⟨p,e,oK U o c.lt.1 c.lt.2,fT U d p (λq=>U.keep _ q o.1 o.2.2.1) (λq=>U.keep _ q o.2.1 o.2.2.2) c⟩
theorem mK(U:Up N μ h N' μ' h'):∀(l:List (V×V)) (es:List DictEntry),gT w N μ h l es->gT w N' μ' h' l es
 | [],vs,x=>by exact x
 |(k,d)::r,es,x=>by
   refine fS x λv us e c c' hh rest=>?_
   clear x
   refine⟨v,us,e,?_,?_,hh,mK U r us rest⟩
   ·rcases c with c|⟨p,e,o,c⟩
    ·exact .inl (c.up U.pre)
    ·exact .inr ⟨p,e,oK U o c.lt.1 c.lt.2,fT U k p (λq=>U.keep _ q o.1 o.2.2.1) (λq=>U.keep _ q o.2.1 o.2.2.2) c⟩
   ·rcases c' with c|⟨p,e,o,c⟩
    ·exact .inl (c.up U.pre)
    ·exact .inr ⟨p,e,oK U o c.lt.1 c.lt.2,fT U d p (λq=>U.keep _ q o.1 o.2.2.1) (λq=>U.keep _ q o.2.1 o.2.2.2) c⟩
theorem xV(U:Up N μ h N' μ' h'):∀(l:List (Str×V)) (es:List DictEntry),uH w N μ h l es->uH w N' μ' h' l es
 | [],vs,x=>by exact x
 |(k,d)::r,es,x=>by
   refine j5 x λv us e c c' rest=>?_
   clear x
   refine⟨v,us,e,c,?_,xV U r us rest⟩
   rcases c' with c|⟨p,e,o,c⟩
   ·exact .inl (c.up U.pre)
   ·exact .inr ⟨p,e,oK U o c.lt.1 c.lt.2,fT U d p (λq=>U.keep _ q o.1 o.2.2.1) (λq=>U.keep _ q o.2.1 o.2.2.2) c⟩
end
theorem aW(U:Up N μ h N' μ' h')(x:VR w N μ h d v):VR w N' μ' h' d v:=by
 rcases x with c|⟨p,e,o,c⟩
 ·exact .inl (c.up U.pre)
 ·exact .inr ⟨p,e,oK U o c.lt.1 c.lt.2,fT U d p (λq=>U.keep _ q o.1 o.2.2.1) (λq=>U.keep _ q o.2.1 o.2.2.2) c⟩
end
theorem a8{w N μ h vs}:bJ w N μ h [] vs↔vs=[]:=Iff.rfl
theorem aJ{w N μ h d r vs}:bJ w N μ h (d::r) vs↔∃v us,vs=v::us/\VR w N μ h d v/\bJ w N μ h r us:=Iff.rfl
theorem hW{w N μ h vs}:gT w N μ h [] vs↔vs=[]:=Iff.rfl
theorem fL{w N μ h k d r es}:gT w N μ h ((k,d)::r) es↔∃e us,es=e::us/\VR w N μ h k e.key/\VR w N μ h d e.val/\e.hash=fJ w k/\gT w N μ h r us:=Iff.rfl
theorem kO{w N μ h vs}:uH w N μ h [] vs↔vs=[]:=Iff.rfl
theorem eQ{w N μ h x d r es}:uH w N μ h ((x,d)::r) es↔∃e us,es=e::us/\(∃t,e.key= .str x t)/\VR w N μ h d e.val/\uH w N μ h r us:=Iff.rfl
theorem bJ.cons{w N μ h d v r us}(a:VR w N μ h d v)(b:bJ w N μ h r us):bJ w N μ h (d::r) (v::us):=⟨v,us,rfl,a,b⟩
theorem gT.cons{w N μ h k d e r us}(a:VR w N μ h k e.key)(b:VR w N μ h d e.val)(c:e.hash=fJ w k)(z:gT w N μ h r us):gT w N μ h ((k,d)::r) (e::us):=⟨e,us,rfl,a,b,c,z⟩
theorem uH.cons{w N μ h x d e r us}(a:∃t,e.key= .str x t)(b:VR w N μ h d e.val)(z:uH w N μ h r us):uH w N μ h ((x,d)::r) (e::us):=⟨e,us,rfl,a,b,z⟩
structure HR (w:World) (N:Addr->Prop) (μ:List P2) (H:Hp) (h:Heap):Prop where
 len:μ.length=H.length
 rel:∀(n:Nat) (p:P2) (d:V),μ[n]? =some p->H[n]? =some d->CR w N μ h d p
 nn:∀p∈μ,¬N p.1/\¬N p.2
 sep:μ.Pairwise λp q=>p.1≠q.1/\p.1≠q.2/\p.2≠q.1/\p.2≠q.2
end Mine
end
section
open PySem PySem.W PyProof.Rows
namespace Mine
theorem aC{α β:Type}{f:α->Option β}{x:α}{xs:List α}{l:List β}(e:cG f (x::xs)=some l):∃y ys,f x=some y/\cG f xs=some ys/\l=y::ys:=by
 revert e
 show(match f x with|none=>none|some y=>match cG f xs with|none=>none|some ys=>some (y::ys))=some l->_
 rcases f x with _|y
 ·exact λe=>iK e
 ·rcases cG f xs with _|ys
  ·exact λe=>iK e
  ·exact λe=>⟨y,ys,rfl,rfl,(Option.some.inj e).symm⟩
theorem gH{α β:Type}{f:α->Option β}{l:List β}(e:cG f []=some l):l=[]:=(Option.some.inj e).symm
theorem lL{n:Nat}(x:own (μ.take n) a):own μ a:=let⟨p,hp,r⟩:=x;⟨p,List.mem_of_mem_take hp,r⟩
theorem oD{n:Nat}(x:off N μ p):off N (μ.take n) p:=⟨x.1,x.2.1,λz=>x.2.2.1 (lL z),λz=>x.2.2.2 (lL z)⟩
section
variable {w:World}{N:Addr->Prop}{μ:List P2}{H:Hp}{h:Heap}{n0:Nat}
theorem HR.sep2(R:HR w N μ H h){i j:Nat}{p q:P2}(hi:μ[i]? =some p)(hj:μ[j]? =some q)(hij:i≠j):p.1≠q.1/\p.1≠q.2/\p.2≠q.1/\p.2≠q.2:=by
 obtain⟨li,ei⟩:=List.getElem?_eq_some_iff.mp hi
 obtain⟨lj,ej⟩:=List.getElem?_eq_some_iff.mp hj
 have P:=List.pairwise_iff_getElem.mp R.sep
 rcases Nat.lt_or_gt_of_ne hij with hlt|hgt
 ·have:=P i j li lj hlt
  rw[ei,ej]at this
  exact this
 ·have:=P j i lj li hgt
  rw[ei,ej]at this
  exact⟨this.1.symm,this.2.2.1.symm,this.2.1.symm,this.2.2.2.symm⟩
theorem HR.off_of(R:HR w N μ H h){m:Nat}{p:P2}(e:μ[m]? =some p)(hm:n0<=m):off N (μ.take n0) p:=by
 have key:∀a,(a=p.1\/a=p.2)->¬own (μ.take n0) a:=by
  rintro a ha ⟨q,hq,hr⟩
  obtain⟨j,hj⟩:=List.getElem?_of_mem hq
  have hjn:j<n0:=by
   have:=(List.getElem?_eq_some_iff.mp hj).1
   simp at this;lia
  have hj':μ[j]? =some q:=by
   rw[List.getElem?_take,if_pos hjn]at hj
   exact hj
  have S:=R.sep2 hj' e (by lia)
  rcases ha with rfl|rfl<;>rcases hr with hr|hr
  ·exact S.1 hr.symm
  ·exact S.2.2.1 hr.symm
  ·exact S.2.1 hr.symm
  ·exact S.2.2.2 hr.symm
 have hn:=R.nn p (List.mem_of_getElem? e)
 exact⟨hn.1,hn.2,key _ (.inl rfl),key _ (.inr rfl)⟩
theorem nA(o:eX (d::r)=true):∃i,d= .int i/\eX r=true:=by
 rcases d<;>first|exact⟨_,rfl,o⟩|exact nE o
theorem VR.intU{i:Int}(x:VR w N μ h (.int i) v):VR w N' μ' h (.int i) v:=.inl (x.resolve_right λz=>z.elim λ_ z=>z.2.2)
theorem VR.strU(x:VR w N μ h (.str i) v):VR w N' μ' h (.str i) v:=.inl (x.resolve_right λz=>z.elim λ_ z=>z.2.2)
theorem VR.tupU(x:VR w N μ h (.tup l) v)(ko:∀p,off N μ p->off N' μ' p)(k:∀vs,bJ w N μ h l vs->bJ w N' μ' h l vs):VR w N' μ' h (.tup l) v:=
 cB (x.resolve_left (λq=>q)) λp e o c=>cU c λc1 vs s r=>.inr ⟨p,e,ko p o,c1,vs,s,k vs r⟩
theorem H6(l:List V):∀(vs:List Value),eX l=true->bJ w N μ h l vs->bJ w N' μ' h l vs:=by
 induction l with
 |nil=>exact λvs _ x=>x
 |cons d r ih=>
   intro vs o x
   refine aT (nA o) λi e o=>?_
   subst e
   exact aE (aJ.mp x) λv us e a b=>e▸bJ.cons a.intU (ih us o b)
theorem U7(a b:V):aL (.tup [a,b])=0\/∃z l,[a,b]=[.int z,.tup l]/\eX l=true:=by
 rcases a with _|_|z|_|_|_|_|_|_|_|_|_|_<;>try exact .inl rfl
 rcases b with _|_|_|_|_|l|_|_|_|_|_|_|_<;>try exact .inl rfl
 rcases h:eX l
 ·exact .inl (show(match eX l with|true=>3|false=>0)=0 by rw[h])
 ·exact .inr ⟨z,l,rfl,h⟩
theorem U6(l:List V):aL (.tup l)=0\/∃a b,l=[a,b]:=by
 rcases l with _|⟨a,_|⟨b,_|⟨c,r⟩⟩⟩
 ·exact .inl rfl
 ·rcases a<;>exact .inl rfl
 ·exact .inr ⟨a,b,rfl⟩
 ·rcases a<;>first|exact .inl rfl|(rcases b<;>exact .inl rfl)
theorem dM(o:aL d≠0):(∃i,d= .int i)\/(∃x,d= .str x)\/∃z l,d= .tup [.int z,.tup l]/\eX l=true:=by
 induction d using V.casesOn with
 |int i=>exact .inl ⟨i,rfl⟩
 |str x=>exact .inr (.inl ⟨x,rfl⟩)
 |tup l=>
   obtain⟨a,b,rfl⟩:=(U6 l).resolve_left o
   exact c8 ((U7 a b).resolve_left o) λz l e h=>.inr (.inr ⟨z,l,congrArg V.tup e,h⟩)
 |_=>exact absurd rfl o
theorem O6{w:World}{N:Addr->Prop}{μ:List P2}{h:Heap}{n:Nat}{d:V}{v:Value}(o:aL d≠0)(x:VR w N μ h d v):VR w N (μ.take n) h d v:=by
 rcases dM o with⟨i,rfl⟩|⟨y,rfl⟩|⟨z,l,rfl,hl⟩
 ·exact x.intU
 ·exact x.strU
 ·exact x.tupU (λ_=>oD) λvs r=>aE (aJ.mp r) λv us e a b=>aE (aJ.mp b) λv' us' e' a' b'=>by
   subst e e'
   exact .cons a.intU (.cons (a'.tupU (λ_=>oD) λvs r=>H6 _ _ hl r) b')
structure Fz (w:World) (N:Addr->Prop) (μ:List P2) (H:Hp) (h:Heap) (n0 k:Nat):Prop where
 cr:∀d d' p,fz k n0 H d=some d'->CR w N μ h d p->CR w N (μ.take n0) h d' p
 vr:∀d d' v,fz k n0 H d=some d'->VR w N μ h d v->VR w N (μ.take n0) h d' v
theorem AY{k:Nat}(F:Fz w N μ H h n0 k)(l:List V):∀(l':List V) (vs:List Value),cG (fz k n0 H) l=some l'->bJ w N μ h l vs->bJ w N (μ.take n0) h l' vs:=by
 induction l with
 |nil=>exact λl' vs e x=>gH e▸x
 |cons d r ih=>
   exact λl' vs e x=>aE (aC e) λy ys e1 e2 e3=>aE (aJ.mp x) λv us e4 a b=>e3▸e4▸ .cons (F.vr _ _ _ e1 a) (ih ys us e2 b)
theorem z9{k n0:Nat}{H:Hp}{p q:V×V}(e:(match aL p.1 != 0 with|true=>(fz k n0 H p.2).map (p.1, ·)|false=>none)=some q):aL p.1≠0/\∃d',fz k n0 H p.2=some d'/\q=(p.1,d'):=by
 revert e
 rcases h:aL p.1 != 0
 ·exact λe=>iK e
 ·exact λe=>⟨bne_iff_ne.mp h,aT (Option.map_eq_some_iff.mp e) λd' a b=>⟨d',a,b.symm⟩⟩
theorem J0{k:Nat}(F:Fz w N μ H h n0 k)(l:List (V×V)):∀(l':List (V×V)) (vs:List DictEntry),cG (λp=>match aL p.1 != 0 with|true=>(fz k n0 H p.2).map (p.1, ·)|false=>none) l=some l'->gT w N μ h l vs->gT w N (μ.take n0) h l' vs:=by
 induction l with
 |nil=>exact λl' vs e x=>gH e▸x
 |cons p r ih=>
   intro l' vs e x
   exact aE (aC e) λy ys e1 e2 e3=>cU (z9 e1) λhk d' hd e4=>fS (fL.mp x) λv us e5 a b hh c=>e3▸e4▸e5▸ .cons (O6 hk a) (F.vr _ _ _ hd b) hh (ih ys us e2 c)
theorem LY{k n0:Nat}{H:Hp}{l:List (V×V)}:∀{l':List (V×V)},cG (λp=>match aL p.1 != 0 with|true=>(fz k n0 H p.2).map (p.1, ·)|false=>none) l=some l'->l'.map (·.1)=l.map (·.1):=by
 induction l with
 |nil=>exact λe=>gH e▸rfl
 |cons p r ih=>
   exact λe=>aE (aC e) λy ys e1 e2 e3=>cU (z9 e1) λhk d' hd e4=>e3▸e4▸congrArg (p.1:: ·) (ih e2)
theorem BP{k:Nat}(F:Fz w N μ H h n0 k)(l:List (Str×V)):∀(l':List (Str×V)) (vs:List DictEntry),cG (λp=>(fz k n0 H p.2).map (p.1, ·)) l=some l'->uH w N μ h l vs->uH w N (μ.take n0) h l' vs:=by
 induction l with
 |nil=>exact λl' vs e x=>gH e▸x
 |cons p r ih=>
   intro l' vs e x
   exact aE (aC e) λy ys e1 e2 e3=>aT (Option.map_eq_some_iff.mp e1) λd' hd e4=>j5 (eQ.mp x) λv us e5 a b c=>e3▸e4▸e5▸ .cons a (F.vr _ _ _ hd b) (ih ys us e2 c)
theorem K1(x:PR μ d v):(∃m,d= .ref m)\/((∀k n0 H,fz (k+1) n0 H d=some d)/\∀μ',PR μ' d v):=by
 rcases d<;>first|exact .inl ⟨_,rfl⟩|exact .inr ⟨λ_ _ _=>rfl,λ_=>x⟩|exact False.elim x
theorem P8{k n0:Nat}{m:Nat}(e:fz (k+1) n0 H (.ref m)=some d'):(m<n0/\d'= .ref m)\/¬m<n0/\∃c,H[m]? =some c/\fz k n0 H c=some d':=by
 revert e
 show(match decide (m<n0)with|true=>some (V.ref m)|false=>match H[m]? with|some c=>fz k n0 H c|none=>none)=some d'->_
 rcases hm:decide (m<n0)
 ·rcases H[m]? with _|c
  ·exact λe=>iK e
  ·exact λe=>.inr ⟨of_decide_eq_false hm,c,rfl,e⟩
 ·exact λe=>.inl ⟨of_decide_eq_true hm,(Option.some.inj e).symm⟩
theorem NQ{k:Nat}(F:Fz w N μ H h n0 k)(d d':V)(p:P2)(e:fz (k+1) n0 H d=some d')(x:CR w N μ h d p):CR w N (μ.take n0) h d' p:=by
 induction d using V.casesOn with
 |tup l=>exact aT (Option.map_eq_some_iff.mp e) λl' hl e=>cU x λa vs b c=>e▸⟨a,vs,b,AY F _ _ _ hl c⟩
 |lst l=>exact aT (Option.map_eq_some_iff.mp e) λl' hl e=>cU x λa vs b c=>e▸⟨a,vs,b,AY F _ _ _ hl c⟩
 |dct l=>exact aT (Option.map_eq_some_iff.mp e) λl' hl e=>uP x λa es n b c=>e▸⟨⟨a.1,(show(l'.map (·.1)).Pairwise _ from LY hl▸a.2.1),a.2.2⟩,es,n,b,J0 F _ _ _ hl c⟩
 |obj cc fs=>exact aT (Option.map_eq_some_iff.mp e) λl' hl e=>iV x λa C e1 b es n c f=>e▸⟨a,C,e1,b,es,n,c,BP F _ _ _ hl f⟩
 |bar l=>exact Option.some.inj e▸x
 |rng a b c=>exact Option.some.inj e▸x
 |_=>exact False.elim x
theorem NF(R:HR w N μ H h)(k:Nat):Fz w N μ H h n0 k:=by
 induction k with
 |zero=>exact⟨λd d' p e=>iK e,λd d' v e=>iK e⟩
 |succ k F=>
   refine⟨NQ F,λd d' v e x=>?_⟩
   rcases x with x|⟨p,rfl,o,x⟩
   ·rcases K1 x with⟨m,rfl⟩|⟨q,x⟩
    ·refine aT x λp hp e9=>?_
     subst e9
     rcases P8 e with⟨hm,rfl⟩|⟨hm,c,hc,e⟩
     ·exact .inl ⟨p,by rw[List.getElem?_take,if_pos hm];exact hp,rfl⟩
     ·exact .inr ⟨p,rfl,R.off_of hp (Nat.not_lt.mp hm),F.cr _ _ _ e (R.rel _ _ _ hp hc)⟩
    ·obtain rfl:=Option.some.inj ((q k n0 H).symm.trans e)
     exact .inl (x _)
   ·exact .inr ⟨p,rfl,oD o,NQ F _ _ _ e x⟩
theorem uU{α β:Type}{f:α->Option β}{l:List α}:∀{l':List β},cG f l=some l'->l'.length=l.length/\∀(i:Nat) (y:β),l'[i]? =some y->∃x,l[i]? =some x/\f x=some y:=by
 induction l with
 |nil=>exact λe=>gH e▸⟨rfl,λi y h=>iK h⟩
 |cons x xs ih=>
   refine λe=>aE (aC e) λy ys e1 e2 e3=>e3▸⟨congrArg (· +1) (ih e2).1,λi z hz=>?_⟩
   induction i using Nat.casesOn with
   |zero=>exact⟨x,rfl,e1.trans hz⟩
   |succ i=>exact(ih e2).2 i z hz
theorem HR.freeze(R:HR w N μ H h){H':Hp}(e:QS n0 H=some H'):HR w N (μ.take n0) H' h:=by
 obtain⟨a,b⟩:=uU e
 refine⟨by simp[a,R.len],λi p d hp hd=>?_,λp hp=>R.nn p (List.mem_of_mem_take hp),R.sep.sublist (List.take_sublist _ _)⟩
 obtain⟨x,hx,e1⟩:=b i d hd
 rw[List.getElem?_take]at hp hx
 split at hp
 ·rename_i hlt
  rw[if_pos hlt]at hx
  exact(NF R 8).cr _ _ _ e1 (R.rel _ _ _ hp hx)
 ·injection hp
theorem VR.freeze(R:HR w N μ H h)(e:fz 8 n0 H d=some d')(x:VR w N μ h d v):VR w N (μ.take n0) h d' v:=(NF R 8).vr _ _ _ e x
end
structure Std (w:World) (hO:Heap) (N:Addr->Prop) (μ:List P2) (H:Hp) (s:Shared):Prop where
 hr:HR w N μ H s.heap
 base:∀a o,hO.get? a=some o->s.heap.get? a=some o
 low:∀a,own μ a->hO.get? a=none
 nlow:∀a,N a->hO.get? a=none/\s.heap.get? a≠none
structure Ext (F:Addr->Prop) (μ:List P2) (s:Shared) (μ':List P2) (s':Shared):Prop where
 sh:∃h t,s'={ s with heap:=h,toks:=t }
 pre:∃ν,μ'=μ++ν
 ow:∀a,own μ' a->own μ a\/s.heap.get? a=none
 keep:∀a o,¬F a->¬own μ a->s.heap.get? a=some o->s'.heap.get? a=some o
 size:∀a,s.heap.get? a≠none->s'.heap.get? a≠none
theorem Ext.refl(F μ s):Ext F μ s μ s:=⟨⟨s.heap,s.toks,rfl⟩,⟨[],by simp⟩,λ_ h=>.inl h,λ_ _ _ _ e=>e,λ_ e=>e⟩
theorem Ext.trans{F μ s μ' s' μ'' s''}(x:Ext F μ s μ' s')(y:Ext F μ' s' μ'' s''):Ext F μ s μ'' s'':=by
 obtain⟨⟨h1,t1,rfl⟩,⟨ν1,rfl⟩,o1,k1,z1⟩:=x
 obtain⟨⟨h2,t2,rfl⟩,⟨ν2,rfl⟩,o2,k2,z2⟩:=y
 refine⟨⟨h2,t2,rfl⟩,⟨ν1++ν2,by simp⟩,λa ha=>?_,λa o hf hn e=>?_,λa e=>z2 a (z1 a e)⟩
 ·rcases o2 a ha with q|q
  ·exact o1 a q
  ·refine .inr (Classical.byContradiction λc=>z1 a c q)
 ·refine k2 a o hf (λq=>?_) (k1 a o hf hn e)
  rcases o1 a q with q|q
  ·exact hn q
  ·rw[q]at e;injection e
theorem Ext.more{μ s μ' s'}(x:Ext F μ s μ' s')(k:∀a,F a->F' a):Ext F' μ s μ' s':=⟨x.sh,x.pre,x.ow,λa o hf=>x.keep a o λz=>hf (k a z),x.size⟩
theorem Ext.up{μ s μ' s'}(x:Ext F μ s μ' s')(k:∀a,F a->N a):Up N μ s.heap N μ' s'.heap:=by
 obtain⟨ν,rfl⟩:=x.pre
 refine⟨λn p e=>?_,λa h=>(x.ow a h).imp id .inr,λa h=>.inl h,λa o hn=>x.keep a o λz=>hn (k a z)⟩
 rw[List.getElem?_append_left (List.getElem?_eq_some_iff.mp e).1]
 exact e
noncomputable def no (_:Addr):Prop:=False
inductive Got (w:World) (hO:Heap) (N:Addr->Prop) (μ:List P2) (s:Shared) (K:V->Hp->Prop) (v:Value) (s':Shared):Prop
 |mk (d:V) (H':Hp) (μ':List P2) (hk:K d H') (S:Std w hO N μ' H' s') (X:Ext no μ s μ' s') (r:VR w N μ' s'.heap d v)
end Mine
end
section
open PySem PySem.W PyProof.Rows
namespace Mine
theorem aA{b:Bool}{k:Prop}:guard False b k↔b=true/\k:=by
 rcases b
 ·exact⟨λh=>(show False from h).elim,λh=>nomatch h.1⟩
 ·exact⟨λh=>⟨rfl,h⟩,λh=>h.2⟩
theorem bA{β:Type}{o:Option β}{k:β->Prop}:opt False o k↔∃x,o=some x/\k x:=by
 rcases o
 ·exact⟨λh=>(show False from h).elim,λ⟨_,h,_⟩=>nomatch h⟩
 ·exact⟨λh=>⟨_,rfl,h⟩,λ⟨_,h,a⟩=>by obtain rfl:=Option.some.inj h;exact a⟩
inductive Gv (w:World) (hO:Heap) (N:Addr->Prop) (μ:List P2) (H:Hp) (s:Shared) (k:V->Prop) (v:Value) (s':Shared):Prop
 |mk (d:V) (hk:k d) (S:Std w hO N μ H s') (X:Ext no μ s μ s') (r:VR w N μ s'.heap d v)
section
variable {hO:Heap}{w:World}{N:Addr->Prop}{μ:List P2}{H:Hp}{s:Shared}
theorem z4(k:∀a o,h.get? a=some o->h'.get? a=some o):Up N μ h N μ h':=⟨λ_ _ e=>e,λ_ e=>.inl e,λ_ e=>.inl e,λa o _ _ e=>k a o e⟩
theorem HR.grow(R:HR w N μ H h)(k:∀a o,h.get? a=some o->h'.get? a=some o):HR w N μ H h':=
 ⟨R.len,λn p d hp hd=>fT (z4 k) d p (λo=>k _ o) (λo=>k _ o) (R.rel n p d hp hd),R.nn,R.sep⟩
theorem iX{h h':Heap}(k:∀a o,h.get? a=some o->h'.get? a=some o)(a:Addr)(e:h.get? a≠none):h'.get? a≠none:=by
 induction q:h.get? a using Option.casesOn with
 |none=>exact absurd q e
 |some o=>rw[k a o q];simp
theorem Std.grow(S:Std w hO N μ H s){h':Heap}{t:Nat}(k:∀a o,s.heap.get? a=some o->h'.get? a=some o)(z:True:=trivial):Std w hO N μ H { s with heap:=h',toks:=t }:=
 ⟨S.hr.grow k,λa o e=>k _ _ (S.base a o e),S.low,λa q=>⟨(S.nlow a q).1,iX k a (S.nlow a q).2⟩⟩
theorem Ext.grow{h':Heap}{t:Nat}(k:∀a o,s.heap.get? a=some o->h'.get? a=some o)(z:True:=trivial):Ext no μ s μ { s with heap:=h',toks:=t }:=
 ⟨⟨_,_,rfl⟩,⟨[],by simp⟩,λ_ q=>.inl q,λa o _ _ e=>k a o e,iX k⟩
theorem Std.toks(S:Std w hO N μ H s)(t:Nat):Std w hO N μ H { s with toks:=t }:=S.grow (h':=s.heap) (λ_ _ e=>e)
theorem Ext.toks(t:Nat):Ext no μ s μ { s with toks:=t }:=Ext.grow (h':=s.heap) (λ_ _ e=>e)
theorem Std.own_lt(S:Std w hO N μ H s)(q:own μ a):s.heap.get? a≠none:=by
 refine aT q λp hp r=>?_
 clear q
 obtain⟨n,hn⟩:=List.getElem?_of_mem hp
 obtain⟨ln,en⟩:=List.getElem?_eq_some_iff.mp hn
 obtain⟨d,hd⟩:∃d,H[n]? =some d:=⟨H[n]'(S.hr.len▸ln),List.getElem?_eq_getElem _⟩
 have:=(S.hr.rel n p d hn hd).lt
 rcases r with rfl|rfl
 ·exact this.1
 ·exact this.2
theorem bY{h:Heap}{a:Addr}(z:h.objs.size<=a):h.get? a=none:=by
 induction q:h.get? a using Option.casesOn with
 |none=>rfl
 |some o=>exact absurd (Heap.lt_size q) (Nat.not_lt.mpr z)
theorem Std.fresh(S:Std w hO N μ H s)(z:s.heap.get? a=none)(z':s.heap.get? b=none):off N μ (a,b):=
 ⟨λq=>(S.nlow _ q).2 z,λq=>(S.nlow _ q).2 z',λq=>S.own_lt q z,λq=>S.own_lt q z'⟩
theorem Gv.now(S:Std w hO N μ H s)(h:k d)(x:VR w N μ s.heap d v):Gv w hO N μ H s k v s:=⟨d,h,S,Ext.refl _ _ _,x⟩
theorem Gv.tok{t:Nat}(S:Std w hO N μ H s)(h:k d)(x:PR μ d v):Gv w hO N μ H s k v { s with toks:=t }:=⟨d,h,S.toks t,Ext.toks t,.inl x⟩
theorem bS(h:Heap)(o:Obj):∀a o',h.get? a=some o'->(h.push o).get? a=some o':=λ_ _ e=>Heap.get?_push_of_some o e
theorem Gv.new{k:V->Prop}{d:V}{o:Obj}{t:Nat}(S:Std w hO N μ H s)(h:k d)(x:CR w N μ (s.heap.push o) d (s.heap.objs.size,s.heap.objs.size)):Gv w hO N μ H s k (.ref s.heap.objs.size) { s with heap:=s.heap.push o,toks:=t }:=
 ⟨d,h,S.grow (bS _ o),Ext.grow (bS _ o),.inr ⟨(s.heap.objs.size,s.heap.objs.size),rfl,S.fresh (bY (Nat.le_refl _)) (bY (Nat.le_refl _)),x⟩⟩
theorem VR.int{i:Int}(x:VR w N μ h (.int i) v):∃t,v= .int i t:=by
 rcases x with x|⟨p,_,_,c⟩
 ·exact x
 ·exact False.elim c
theorem VR.bool{b:Bool}(x:VR w N μ h (.bool b) v):v= .bool b:=by
 rcases x with x|⟨p,_,_,c⟩
 ·exact x
 ·exact False.elim c
theorem VR.none(x:VR w N μ h .none v):v= .none:=by
 rcases x with x|⟨p,_,_,c⟩
 ·exact x
 ·exact False.elim c
theorem VR.str(x:VR w N μ h (.str b) v):∃t,v= .str b t:=by
 rcases x with x|⟨p,_,_,c⟩
 ·exact x
 ·exact False.elim c
theorem VR.bytes(x:VR w N μ h (.bytes l) v):∃b t,v= .bytes b t/\bC b=l:=by
 rcases x with x|⟨p,_,_,c⟩
 ·exact x
 ·exact False.elim c
theorem VR.glob(x:VR w N μ h (.glob g) v):jO g=some v:=by
 rcases x with x|⟨p,_,_,c⟩
 ·exact x
 ·exact False.elim c
theorem VR.ref{n:Nat}(x:VR w N μ h (.ref n) v):∃p,μ[n]? =some p/\v= .ref p.1:=by
 rcases x with x|⟨p,_,_,c⟩
 ·exact x
 ·exact False.elim c
theorem VR.tup(x:VR w N μ h (.tup l) v):∃p,v= .ref p.1/\off N μ p/\CR w N μ h (.tup l) p:=by
 rcases x with x|x
 ·exact x.elim
 ·exact x
theorem VR.lst(x:VR w N μ h (.lst l) v):∃p,v= .ref p.1/\off N μ p/\CR w N μ h (.lst l) p:=by
 rcases x with x|x
 ·exact x.elim
 ·exact x
theorem sL(d:V):content H d=bif d.ctorIdx==11 then content H d else some d:=by rcases d<;>exact Eq.refl _
theorem jZ(e:content H d=some c):(∃n,d= .ref n/\H[n]? =some c)\/d=c:=by
 have h:=sL (H:=H) d
 rcases hc:d.ctorIdx==11<;>rw[hc]at h
 ·exact .inr (Option.some.inj (h.symm.trans e))
 ·clear h;exact V.ref.elim (motive_1:=λd=>content H d=some c->(∃n,d= .ref n/\H[n]? =some c)\/d=c) d (eq_of_beq hc) (λn e=>.inl ⟨n,rfl,e⟩) e
noncomputable def R4 (d:V):Prop:=bif Nat.ble 5 d.ctorIdx&&Nat.ble d.ctorIdx 10 then True else False
theorem MT(hc:R4 d)(x:PR μ d v):False:=by
 rcases d<;>first|exact hc|exact x
theorem aX(S:Std w hO N μ H s)(x:VR w N μ s.heap d v)(e:content H d=some c)(hc:R4 c):
  ∃p,v= .ref p.1/\CR w N μ s.heap c p/\(d=c\/∃n,d= .ref n/\μ[n]? =some p):=by
 rcases jZ e with⟨n,rfl,e⟩|rfl
 ·refine aT x.ref λp hp e91=>?_
  subst e91
  exact⟨p,rfl,S.hr.rel _ _ _ hp e,.inr ⟨n,rfl,hp⟩⟩
 ·refine cB (x.resolve_left (MT hc)) λp a _ b=>?_
  exact⟨p,a,b,.inl rfl⟩
theorem oP(S:Std w hO N μ H s)(x:VR w N μ s.heap d v)(e:content H d=some (.lst l)):∃a us,v= .ref a/\bR s.heap a "list" us/\bJ w N μ s.heap l us:=by
 refine cB (aX S x e trivial) λp e92 cr _=>?_
 subst e92
 refine cU cr λ_ us c1 c2=>?_
 clear cr
 exact⟨_,us,rfl,c1,c2⟩
theorem IP(S:Std w hO N μ H s)(x:VR w N μ s.heap d v)(e:content H d=some (.tup l)):∃a us,v= .ref a/\bR s.heap a "tuple" us/\bJ w N μ s.heap l us:=by
 refine cB (aX S x e trivial) λp e93 cr _=>?_
 subst e93
 refine cU cr λ_ us c1 c2=>?_
 clear cr
 exact⟨_,us,rfl,c1,c2⟩
theorem xA(S:Std w hO N μ H s)(x:VR w N μ s.heap d v)(e:content H d=some (.bar l)):∃a b,v= .ref a/\s.heap.get? a=some { cls:=.type "bytearray",data:=.bytearray b 0 }/\bC b=l:=by
 refine cB (aX S x e trivial) λp e94 cr _=>?_
 subst e94
 refine cU cr λ_ b c1 c2=>?_
 clear cr
 exact⟨_,b,rfl,c1,c2⟩
theorem u1(S:Std w hO N μ H s)(x:VR w N μ s.heap d v)(e:content H d=some (.bytes l)):∃b t,v= .bytes b t/\bC b=l:=by
 rcases jZ e with⟨n,rfl,e⟩|rfl
 ·refine aT x.ref λp hp e95=>?_
  subst e95
  exact(S.hr.rel _ _ _ hp e:CR w N μ s.heap (.bytes l) p).elim
 ·exact x.bytes
end
theorem gW{x:Int}(h:small x=true):Builtin.Int.intBits x<=70:=intBits_le_iff.mpr (of_decide_eq_true h)
section
variable {w:World}{A:Around}{E:Value->Shared->Prop}{hO:Heap}{N:Addr->Prop}{μ:List P2}{H:Hp}{s:Shared}
noncomputable abbrev pm (w:World):Model:=model PySem.Challenge.pw_pf0357_01 w
theorem DK{x y:Int}(S:Std w hO N μ H s)(e:xQ False op x y k):
  wpAny (pm w) A (binaryOp op (.int x t) (.int y u)) (Gv w hO N μ H s k) E s:=by
 induction op using PySem.Operator.casesOn with
 |Add=>exact PyProof.Rows.add_int (Gv.tok S e ⟨_,rfl⟩)
 |Sub=>exact PyProof.Rows.sub_int (Gv.tok S e ⟨_,rfl⟩)
 |Mult=>
   obtain⟨e1,e2⟩:=aA.mp e
   obtain⟨a,b⟩:=Bool.and_eq_true_iff.mp e1
   exact PyProof.Rows.mul_int (Gv.tok S e2 ⟨_,rfl⟩) (IntMulOk.of_le (gW a) (gW b) (by decide))
 |FloorDiv=>
   obtain⟨e1,e2⟩:=aA.mp e
   obtain⟨a,b⟩:=Bool.and_eq_true_iff.mp e1
   exact PyProof.Rows.floordiv_int (of_decide_eq_true a) (Gv.tok S e2 ⟨_,rfl⟩) (.inl (PyProof.noPylong_small (of_decide_eq_true b)))
 |Mod=>
   obtain⟨e1,e2⟩:=aA.mp e
   exact PyProof.Rows.mod_int' (of_decide_eq_true e1) (Gv.tok S e2 ⟨_,rfl⟩)
 |Pow=>
   obtain⟨e1,e2⟩:=aA.mp e
   obtain⟨e1,a⟩:=Bool.and_eq_true_iff.mp e1
   obtain⟨b,c⟩:=Bool.and_eq_true_iff.mp e1
   have b:=of_decide_eq_true b
   have c:=of_decide_eq_true c
   refine PyProof.Rows.pow_int b ?_ (Gv.tok S e2 ⟨_,rfl⟩)
   have q:=gW a
   have:(Builtin.Int.intBits x:Int)*y<=70*64:=Int.mul_le_mul (by lia) (by lia) b (by decide)
   lia
 |LShift=>
   obtain⟨e1,e2⟩:=aA.mp e
   obtain⟨e1,a⟩:=Bool.and_eq_true_iff.mp e1
   obtain⟨b,c⟩:=Bool.and_eq_true_iff.mp e1
   have b:=of_decide_eq_true b
   have c:=of_decide_eq_true c
   have q:=gW a
   exact PyProof.Rows.lshift_int b (by lia) (Gv.tok S e2 ⟨_,rfl⟩)
 |RShift=>
   obtain⟨e1,e2⟩:=aA.mp e
   exact PyProof.Rows.rshift_int (of_decide_eq_true e1) (Gv.tok S e2 ⟨_,rfl⟩)
 |BitAnd=>exact PyProof.Rows.and_int (Gv.tok S e ⟨_,rfl⟩)
 |BitOr=>exact PyProof.Rows.or_int (Gv.tok S e ⟨_,rfl⟩)
 |BitXor=>exact PyProof.Rows.xor_int (Gv.tok S e ⟨_,rfl⟩)
 |_=>exact e.elim
end
end Mine
end
section
open PySem PySem.W PyProof.Rows PySem.SeqAt
namespace Mine
section
variable {w:World}{N:Addr->Prop}{μ:List P2}{s:Shared}
theorem bR.isList{vs}(x:bR h a "list" vs):h.IsList a vs.toArray:=let⟨n,e⟩:=x;⟨_,e,rfl,n,rfl⟩
theorem bR.isTuple{vs}(x:bR h a "tuple" vs):h.IsTuple a vs.toArray:=let⟨n,e⟩:=x;⟨_,e,rfl,n,rfl⟩
theorem bR.same{ty ty' vs vs'}(x:bR h a ty vs)(y:bR h a ty' vs'):vs=vs':=by
 obtain⟨n,e⟩:=x
 obtain⟨n',e'⟩:=y
 rw[e]at e'
 injection e' with e'
 injection e' with _ _ e' _
 injection e' with e' _
 simpa using e'
theorem aV:∀{vs:List Value},bJ w N μ h l vs->vs.length=l.length:=by
 induction l with
 |nil=>exact λx=>congrArg List.length (a8.mp x)
 |cons d r ih=>exact λx=>aE (aJ.mp x) λv us e _ b=>e▸congrArg (· +1) (ih b)
theorem i4:∀{vs:List Value},bJ w N μ h l vs->∀(j:Nat) (d:V),l[j]? =some d->∃v,vs[j]? =some v/\VR w N μ h d v:=by
 induction l with
 |nil=>exact λ_ j d e=>iK e
 |cons d r ih=>
   refine λx j d' e=>aE (aJ.mp x) λv us e9 a b=>e9▸ ?_
   rcases j with _|j
   ·exact⟨v,rfl,Option.some.inj e▸a⟩
   ·exact ih b j d' e
theorem EI(x:bJ w N μ h l vs)(j:Nat)(v:Value)(e:vs[j]? =some v):∃d,l[j]? =some d/\VR w N μ h d v:=by
 have:=aV x
 obtain⟨lj,ej⟩:=List.getElem?_eq_some_iff.mp e
 obtain⟨d,hd⟩:∃d,l[j]? =some d:=⟨l[j]'(by lia),List.getElem?_eq_getElem _⟩
 refine aT (i4 x j d hd) λv' hv r=>?_
 rw[e]at hv
 obtain rfl:=Option.some.inj hv
 exact⟨d,hd,r⟩
noncomputable def y5 (a b:List V) (j:Nat):Bool:=match a[j]?,b[j]? with
 |some x,some y=>bQ x y
 |_,_=>true
theorem jD:∀(a b:List V),((List.range (min a.length b.length)).all (y5 a b)&&a.length==b.length)=fR a b
 | [],[]=>rfl
 | [],_::_=>rfl
 |_::_,[]=>rfl
 |x::xs,y::ys=>by
   have ih:=jD xs ys
   have e1:min (x::xs).length (y::ys).length=(min xs.length ys.length)+1:=by simp
   rw[e1,List.range_succ_eq_map,List.all_cons,List.all_map]
   have e2:(y5 (x::xs) (y::ys)∘Nat.succ)=y5 xs ys:=by funext j;rfl
   rw[e2,show fR (x::xs) (y::ys)=(bQ x y&&fR xs ys)from rfl, <-ih]
   simp[y5,Bool.and_assoc]
theorem E6(a:List Int):∀b,j3 a b=decide (a=b):=by
 induction a with
 |nil=>intro b;rcases b<;>rfl
 |cons x xs ih=>
   intro b
   rcases b with _|⟨y,ys⟩
   ·rfl
   ·exact(congrArg (decide (x=y)&& ·) (ih ys)).trans ((Bool.decide_and ..).symm.trans (decide_eq_decide.mpr List.cons_eq_cons.symm))
theorem IS(h:bC b=bC c):b.toList=c.toList:=by
 unfold bC at h
 refine List.map_inj_right (f:=λu:UInt8=>(u.toNat:Int)) (λx y e=>?_) |>.mp h
 have:x.toNat=y.toNat:=by exact_mod_cast e
 exact UInt8.toNat_inj.mp this
theorem oW(b c:Array UInt8):j3 (bC b) (bC c)=decide (b.toList=c.toList):=by
 rw[E6]
 by_cases h:b.toList=c.toList
 ·have:bC b=bC c:=by unfold bC;rw[h]
  simp[h,this]
 ·have:bC b≠bC c:=λe=>h (IS e)
  simp[h,this]
theorem Q4{b:Bool}(h:(!b)=true):b=false:=by
 rcases b
 ·rfl
 ·exact nE h
noncomputable abbrev bD (d:V):Nat:=d.ctorIdx
theorem D0(n:Nat)(a b:V):(!(bD a==bD b&&decide (bD a<7))&&b5 n a b)=false:=by
 rcases a<;>rcases b<;>first|exact Eq.refl false|(rcases n<;>exact Eq.refl false)
theorem pM{n:Nat}(o:b5 n a b=true):(bD a==bD b&&decide (bD a<7))=true:=by
 have h:=D0 n a b
 rw[o,Bool.and_true]at h
 rw[Bool.not_eq_false']at h;exact h
theorem kd{n:Nat}(o:b5 n a b=true):(bD a==bD b)=true:=(Bool.and_eq_true_iff.mp (pM o)).1
theorem T4{n:Nat}(o:b5 n a b=true):(bD b==bD a)=true:=beq_iff_eq.mpr (beq_iff_eq.mp (kd o)).symm
theorem zK{n:Nat}(o:b5 n a b=true):decide (bD a<7)=true:=(Bool.and_eq_true_iff.mp (pM o)).2
theorem d8(h:(bD d==0)=true):d= .none:=V.none.elim d (eq_of_beq h) rfl
theorem jJ(h:(bD d==1)=true):∃x,d= .bool x:=V.bool.elim d (eq_of_beq h) λx=>⟨x,rfl⟩
theorem bK(h:(bD d==2)=true):∃x,d= .int x:=V.int.elim d (eq_of_beq h) λx=>⟨x,rfl⟩
theorem iT(h:(bD d==3)=true):∃x,d= .str x:=V.str.elim d (eq_of_beq h) λx=>⟨x,rfl⟩
theorem bM(h:(bD d==4)=true):∃x,d= .bytes x:=V.bytes.elim d (eq_of_beq h) λx=>⟨x,rfl⟩
theorem lQ(h:(bD d==5)=true):∃x,d= .tup x:=V.tup.elim d (eq_of_beq h) λx=>⟨x,rfl⟩
theorem dJ(h:(bD d==6)=true):∃x,d= .lst x:=V.lst.elim d (eq_of_beq h) λx=>⟨x,rfl⟩
theorem u3(h:(bD d==7)=true):∃x,d= .dct x:=V.dct.elim d (eq_of_beq h) λx=>⟨x,rfl⟩
theorem kM(h:(bD d==8)=true):∃x,d= .bar x:=V.bar.elim d (eq_of_beq h) λx=>⟨x,rfl⟩
theorem FW(h:(bD d==9)=true):∃c x,d= .obj c x:=V.obj.elim d (eq_of_beq h) λc x=>⟨c,x,rfl⟩
theorem pP(h:(bD d==11)=true):∃x,d= .ref x:=V.ref.elim d (eq_of_beq h) λx=>⟨x,rfl⟩
theorem J5{n:Nat}(o:b5 n (.tup b) d=true):∃m x,n=m+1/\d= .tup x/\dH m b x=true:=by
 obtain⟨x,rfl⟩:=lQ (T4 o)
 rcases n
 ·exact nE o
 ·exact⟨_,_,rfl,rfl,o⟩
theorem MA{n:Nat}(o:b5 n (.lst b) d=true):∃m x,n=m+1/\d= .lst x/\dH m b x=true:=by
 obtain⟨x,rfl⟩:=dJ (T4 o)
 rcases n
 ·exact nE o
 ·exact⟨_,_,rfl,rfl,o⟩
theorem lD:bQ (.tup a) (.tup b)=fR a b:=rfl
theorem mF:bQ (.bytes a) (.bytes b)=j3 a b:=rfl
theorem lY:fR (x::a) (y::b)=(bQ x y&&fR a b):=rfl
theorem uO{n:Nat}:dH n (x::a) (y::b)=(b5 n x y&&dH n a b):=rfl
noncomputable def sq:Bool->List V->V
 |true=>.tup
 |false=>.lst
noncomputable def TC (ty:Bool):String:=match ty with|true=>"tuple"|false=>"list"
theorem l6{ty:Bool}:bQ (sq ty a) (sq ty b)=fR a b:=by rcases ty<;>rfl
inductive VF (n:Nat) (a b:V):Prop
 |flat (i:decide (bD a<5)=true) (e:(bD b==bD a)=true)
 |seq (ty:Bool) (m:Nat) (x y:List V) (hn:n=m+1) (ha:a=sq ty x) (hb:b=sq ty y) (o:dH m x y=true)
theorem LC{n:Nat}(o:b5 n a b=true):VF n a b:=by
 induction a using V.casesOn with
 |tup x=>exact aE (J5 o) λm y e1 e2 o=>.seq true m x y e1 rfl e2 o
 |lst x=>exact aE (MA o) λm y e1 e2 o=>.seq false m x y e1 rfl e2 o
 |_=>first|exact .flat rfl (T4 o)|exact nE (zK o)
theorem VR.sq{ty:Bool}(x:VR w N μ h (sq ty l) v):∃p vs,v= .ref p/\bR h p (TC ty) vs/\bJ w N μ h l vs:=by
 rcases ty
 ·exact cB x.lst λp e _ c=>cU c λ_ vs c1 c2=>⟨p.1,vs,e,c1,c2⟩
 ·exact cB x.tup λp e _ c=>cU c λ_ vs c1 c2=>⟨p.1,vs,e,c1,c2⟩
theorem nR(i:decide (bD d<5)=true)(e:(bD d'==bD d)=true)(a:VR w N μ h d y)(b:VR w N μ h d' y):d=d':=by
 induction d using V.casesOn with
 |none=>exact(d8 e).symm
 |bool x=>obtain⟨z,rfl⟩:=jJ e;exact congrArg V.bool (Value.bool.inj (a.bool.symm.trans b.bool))
 |int x=>obtain⟨z,rfl⟩:=bK e;obtain⟨t,e1⟩:=a.int;obtain⟨u,e2⟩:=b.int;exact congrArg V.int (Value.int.inj (e1.symm.trans e2)).1
 |str x=>obtain⟨z,rfl⟩:=iT e;obtain⟨t,e1⟩:=a.str;obtain⟨u,e2⟩:=b.str;exact congrArg V.str (Value.str.inj (e1.symm.trans e2)).1
 |bytes x=>obtain⟨z,rfl⟩:=bM e;exact c8 a.bytes λbb t e1 f1=>c8 b.bytes λcc u e2 f2=>f1▸f2▸congrArg (λb=>V.bytes (bC b)) (Value.bytes.inj (e1.symm.trans e2)).1
 |_=>exact nE i
theorem uZ(i:decide (bD d<5)=true):bQ d d=true:=by
 induction d using V.casesOn with
 |none=>exact rfl
 |bool x=>exact beq_self_eq_true x
 |int x=>exact decide_eq_true rfl
 |str x=>exact beq_self_eq_true x
 |bytes x=>exact(E6 x x).trans (decide_eq_true rfl)
 |_=>exact nE i
theorem mC{P:Prop}(x:bJ w N μ h [] vs)(y:bJ w N μ h (d::r) vs):P:=aE (aJ.mp y) λ_ _ e _ _=>List.noConfusion rfl (heq_of_eq ((a8.mp x).symm.trans e))
theorem F5{P:Prop}(x:bJ w N μ h (d::r) vs)(y:bJ w N μ h (d'::r') vs)(k:∀v us,VR w N μ h d v->VR w N μ h d' v->bJ w N μ h r us->bJ w N μ h r' us->P):P:=
 aE (aJ.mp x) λv us e x1 x2=>aE (aJ.mp y) λv' us' e' y1 y2=>by
  obtain⟨rfl,rfl⟩:=List.cons.inj (e.symm.trans e')
  exact k v us x1 y1 x2 y2
theorem cS{a b:Bool}(h:(a&&b)=true):a=true/\b=true:=Bool.and_eq_true_iff.mp h
theorem C5{a b:Bool}(ha:a=true)(hb:b=true):(a&&b)=true:=Bool.and_eq_true_iff.mpr ⟨ha,hb⟩
theorem J6{n:Nat}(IH:∀(a b:V) (v:Value),b5 n a b=true->VR w N μ h a v->VR w N μ h b v->bQ a b=true)(a:List V):∀(b:List V) (vs:List Value),dH n a b=true->bJ w N μ h a vs->bJ w N μ h b vs->fR a b=true:=by
 induction a with
 |nil=>
   intro b vs o x y
   rcases b with _|⟨d,r⟩
   ·rfl
   ·exact mC x y
 |cons d r ih=>
   intro b vs o x y
   rcases b with _|⟨d',r'⟩
   ·exact mC y x
   ·have o:=cS o
    exact F5 x y λv us a b c d=>C5 (IH _ _ v o.1 a b) (ih _ us o.2 c d)
theorem QA(n:Nat):∀(a b:V) (v:Value),b5 n a b=true->VR w N μ h a v->VR w N μ h b v->bQ a b=true:=by
 induction n with
 |zero=>
   intro a b v o x y
   rcases LC o with⟨i,e⟩|⟨ty,m,_,_,hn,_,_,_⟩
   ·exact nR i e x y▸uZ i
   ·exact Nat.noConfusion hn
 |succ n IH=>
   intro a b v o x y
   rcases LC o with⟨i,e⟩|⟨ty,m,a,b,hn,rfl,rfl,o⟩
   ·exact nR i e x y▸uZ i
   ·refine aE x.sq λp vs e1 c1 c2=>aE y.sq λq vs' e2 c1' c2'=>?_
    rw[l6]
    obtain rfl:=Value.ref.inj (e1.symm.trans e2)
    obtain rfl:=Nat.succ.inj hn
    exact J6 IH a b vs o c2 (c1.same c1'▸c2')
theorem yV:EqAt A s (.bytes b t) (.bytes c u) (decide (b.toList=c.toList)):=λ_ _ _ _ hq=>eqBool_bytes hq
theorem D6{a b:Int}:EqAt A s (.int a t) (.int b u) (a==b):=(MeetsSeq.EqGives.int a b t u).at A s
theorem GO(a b:List V)(n:Nat)(A:Around)(p q:Addr)(vs us:List Value)(hu:A.units+n+1<cLine)(x:bR s.heap p "tuple" vs)(y:bR s.heap q "tuple" us)(xs:bJ w N μ s.heap a vs)(ys:bJ w N μ s.heap b us)
  (at':∀(j:Nat) (h1:j<vs.length) (h2:j<us.length),EqAt A.in1 s vs[j] us[j] (y5 a b j)):RcAt A s (.ref p) (.ref q) (fR a b):=by
 have:=RcAt.tuples (A:=A) (e:=y5 a b) x.isTuple y.isTuple (by lia) (λj h1 h2=>at' j (by simpa using h1) (by simpa using h2))
 simp only[List.size_toArray]at this
 rw[aV xs,aV ys,jD]at this
 exact this
theorem EL(a b:List V)(n:Nat)(A:Around)(p q:Addr)(vs us:List Value)(hu:A.units+n+1<cLine)(x:bR s.heap p "list" vs)(y:bR s.heap q "list" us)(xs:bJ w N μ s.heap a vs)(ys:bJ w N μ s.heap b us)
  (at':∀(j:Nat) (h1:j<vs.length) (h2:j<us.length),EqAt A.in1 s vs[j] us[j] (y5 a b j)):RcAt A s (.ref p) (.ref q) (fR a b):=by
 have lx:=aV xs
 have ly:=aV ys
 by_cases hl:a.length=b.length
 ·have:=RcAt.lists (A:=A) (e:=y5 a b) x.isList y.isList (by simp;lia) (by lia) (λj h1 h2=>at' j (by simpa using h1) (by simpa using h2))
  simp only[List.size_toArray]at this
  have e:=jD a b
  rw[hl]at e
  simp only[Nat.min_self,beq_self_eq_true,Bool.and_true]at e
  rw[lx,hl,e]at this
  exact this
 ·have:=RcAt.lists_lengths (A:=A) x.isList y.isList (by simp;lia) (by lia)
  have e:=jD a b
  have:(a.length==b.length)=false:=by simp[hl]
  rw[this,Bool.and_false]at e
  rw[<-e]
  assumption
theorem vH{n:Nat}(IH:∀(a b:V) (A:Around) (v u:Value),b5 n a b=true->A.units+n<cLine->VR w N μ s.heap a v->VR w N μ s.heap b u->EqAt A s v u (bQ a b))(A:Around)(hu:A.units+n<cLine)(a:List V):∀(b:List V) (vs us:List Value),dH n a b=true->bJ w N μ s.heap a vs->bJ w N μ s.heap b us->
  ∀(j:Nat) (h1:j<vs.length) (h2:j<us.length),EqAt A s vs[j] us[j] (y5 a b j):=by
 induction a with
 |nil=>exact λb vs us o xs ys j h1 h2=>absurd (Nat.lt_of_lt_of_eq h1 (aV xs)) (Nat.not_lt_zero j)
 |cons d r ih=>
   intro b vs us o xs ys j h1 h2
   rcases b with _|⟨d',r'⟩
   ·exact absurd (Nat.lt_of_lt_of_eq h2 (aV ys)) (Nat.not_lt_zero j)
   ·refine aE (aJ.mp xs) λv vs' e1 x1 x2=>aE (aJ.mp ys) λu us' e2 y1 y2=>?_
    subst e1 e2
    have o:=cS o
    rcases j with _|j
    ·exact IH d d' A v u o.1 hu x1 y1
    ·exact ih r' vs' us' o.2 x2 y2 j (Nat.lt_of_succ_lt_succ h1) (Nat.lt_of_succ_lt_succ h2)
theorem qW(i:decide (bD a<5)=true)(e:(bD b==bD a)=true)(x:VR w N μ s.heap a v)(y:VR w N μ s.heap b u):EqAt A s v u (bQ a b):=by
 induction a using V.casesOn with
 |none=>obtain rfl:=d8 e;exact x.none▸y.none▸EqAt.same _
 |bool a=>obtain⟨b,rfl⟩:=jJ e;exact x.bool▸y.bool▸EqAt.bool_bool _ _
 |int a=>obtain⟨b,rfl⟩:=bK e;obtain⟨t,rfl⟩:=x.int;obtain⟨t',rfl⟩:=y.int;exact D6
 |str a=>obtain⟨b,rfl⟩:=iT e;obtain⟨t,rfl⟩:=x.str;obtain⟨t',rfl⟩:=y.str;exact EqAt.str_str _ _ _ _
 |bytes a=>
   obtain⟨b,rfl⟩:=bM e
   refine c8 x.bytes λbb t e1 e2=>c8 y.bytes λcc t' e3 e4=>?_
   subst e1 e2 e3 e4
   rw[mF,oW]
   exact yV
 |_=>exact nE i
theorem AS{ty:Bool}{a b:List V}{n:Nat}{A:Around}{p q:Addr}{vs us:List Value}(hu:A.units+n+1<cLine)(x:bR s.heap p (TC ty) vs)(y:bR s.heap q (TC ty) us)(xs:bJ w N μ s.heap a vs)(ys:bJ w N μ s.heap b us)
  (at':∀(j:Nat) (h1:j<vs.length) (h2:j<us.length),EqAt A.in1 s vs[j] us[j] (y5 a b j)):RcAt A s (.ref p) (.ref q) (fR a b):=by
 rcases ty
 ·exact EL a b n A p q vs us hu x y xs ys at'
 ·exact GO a b n A p q vs us hu x y xs ys at'
theorem OQ{A:Around}{n:Nat}(hu:A.units+(n+1)<cLine):A.in1.units+n<cLine:=by rw[Around.in1_units];lia
theorem BC(n:Nat):∀(a b:V) (A:Around) (v u:Value),b5 n a b=true->A.units+n<cLine->VR w N μ s.heap a v->VR w N μ s.heap b u->EqAt A s v u (bQ a b):=by
 induction n with
 |zero=>
   intro a b A v u o hu x y
   rcases LC o with⟨i,e⟩|⟨ty,m,_,_,hn,_,_,_⟩
   ·exact qW i e x y
   ·exact Nat.noConfusion hn
 |succ n IH=>
   intro a b A v u o hu x y
   by_cases hvu:v=u
   ·subst hvu
    rw[QA _ _ _ _ o x y]
    exact EqAt.same _
   rcases LC o with⟨i,e⟩|⟨ty,m,a,b,hn,rfl,rfl,o⟩
   ·exact qW i e x y
   ·refine aE x.sq λp vs e1 c1 c2=>aE y.sq λq vs' e2 c1' c2'=>?_
    subst e1 e2
    obtain rfl:=Nat.succ.inj hn
    rw[l6]
    exact EqAt.of_refs (λe=>hvu (congrArg Value.ref e)) (AS hu c1 c1' c2 c2' (vH IH A.in1 (OQ hu) a b _ _ o c2 c2'))
theorem NH(a b:List V)(n:Nat)(A:Around)(vs us:List Value)(o:dH n a b=true)(hu:A.units+n<cLine)(x:bJ w N μ s.heap a vs)(y:bJ w N μ s.heap b us):
 ∀(j:Nat) (h1:j<vs.length) (h2:j<us.length),EqAt A s vs[j] us[j] (y5 a b j):=vH (BC n) A hu a b vs us o x y
theorem D5(a b:V)(n:Nat)(A:Around)(v u:Value)(o:b5 n a b=true)(hu:A.units+n<cLine)(x:VR w N μ s.heap a v)(y:VR w N μ s.heap b u):EqAt A s v u (bQ a b):=BC n a b A v u o hu x y
end
end Mine
end
section
open PySem PySem.W PyProof.Rows PySem.SeqAt
namespace Mine
section
variable {w:World}{N:Addr->Prop}{μ:List P2}
theorem OP{n:Nat}(IH:∀(x d d':V) (y:Value),b5 n d x=true->b5 n d' x=true->VR w N μ h d y->VR w N μ h d' y->bQ d x=bQ d' x)(x:List V):∀(d d':List V) (vs:List Value),dH n d x=true->dH n d' x=true->bJ w N μ h d vs->bJ w N μ h d' vs->fR d x=fR d' x:=by
 induction x with
 |nil=>
   intro d d' vs o o' a b
   rcases d with _|⟨e,es⟩<;>rcases d' with _|⟨e',es'⟩
   ·rfl
   ·exact mC a b
   ·exact mC b a
   ·rfl
 |cons z zs ih=>
   intro d d' vs o o' a b
   rcases d with _|⟨e,es⟩<;>rcases d' with _|⟨e',es'⟩
   ·rfl
   ·exact mC a b
   ·exact mC b a
   ·have o:=cS o;have o':=cS o'
    refine F5 a b λv us a1 b1 a2 b2=>?_
    rw[lY,lY,IH z e e' v o.1 o'.1 a1 b1,ih es es' us o.2 o'.2 a2 b2]
theorem P6{ty ty':Bool}(e:sq ty x=sq ty' y):ty=ty'/\x=y:=by
 rcases ty<;>rcases ty'<;>first|exact⟨rfl,V.lst.inj e⟩|exact⟨rfl,V.tup.inj e⟩|exact V.noConfusion e
theorem SO(n:Nat):∀(x d d':V) (y:Value),b5 n d x=true->b5 n d' x=true->VR w N μ h d y->VR w N μ h d' y->bQ d x=bQ d' x:=by
 induction n with
 |zero=>
   intro x d d' y o o' a b
   rcases LC o with⟨i,e⟩|⟨_,_,_,_,hn,_,_,_⟩
   ·exact congrArg (bQ · x) (nR i (beq_iff_eq.mpr ((eq_of_beq (kd o')).trans (eq_of_beq e))) a b)
   ·exact Nat.noConfusion hn
 |succ n IH=>
   intro x d d' y o o' a b
   rcases LC o with⟨i,e⟩|⟨ty,m,d,x,hn,rfl,rfl,o⟩
   ·exact congrArg (bQ · x) (nR i (beq_iff_eq.mpr ((eq_of_beq (kd o')).trans (eq_of_beq e))) a b)
   ·obtain rfl:=Nat.succ.inj hn
    rcases LC o' with⟨i,e⟩|⟨ty',m',d',x',hn',rfl,e,o'⟩
    ·have e:=eq_of_beq e
     rcases ty<;>rw[<-e]at i<;>exact nE i
    ·obtain⟨rfl,rfl⟩:=P6 e
     obtain rfl:=Nat.succ.inj hn'
     refine aE a.sq λp vs e1 c1 c2=>aE b.sq λq vs' e2 c1' c2'=>?_
     rw[l6,l6]
     obtain rfl:=Value.ref.inj (e1.symm.trans e2)
     exact OP IH x d d' vs o o' c2 (c1.same c1'▸c2')
noncomputable def qR (w:World) (N:Addr->Prop) (μ:List P2) (h:Heap) (n:Nat) (x:V) (y:Value):Bool:=
 open Classical in if ∃ d, VR w N μ h d y /\ b5 n d x = true /\ bQ d x = true then true else false
theorem sG{n:Nat}(r:VR w N μ h d y)(o:b5 n d x=true):qR w N μ h n x y=bQ d x:=by
 unfold qR
 by_cases c:∃d,VR w N μ h d y/\b5 n d x=true/\bQ d x=true
 ·rw[if_pos c]
  refine cB c λd' r' o' q=>?_
  clear c
  rw[<-q]
  exact SO n x d' d y o' o r' r
 ·rw[if_neg c]
  induction hq:bQ d x using Bool.casesOn with
  |false=>rfl
  |true=>exact absurd ⟨d,r,o,hq⟩ c
theorem kJ{n:Nat}:∀{vs:List Value},bJ w N μ h l vs->(l.all λy=>b5 n y x)=true->vs.any (qR w N μ h n x)=qM x l:=by
 induction l with
 |nil=>exact λr o=>(a8.mp r)▸rfl
 |cons d l ih=>
   refine λr o=>aE (aJ.mp r) λv us e a b=>e▸ ?_
   have o:=cS o
   rw[List.any_cons,sG a o.1,ih b o.2]
   rfl
theorem gN{n:Nat}(r:bJ w N μ s.heap l vs)(o:(l.all λy=>b5 n y x)=true)(hu:A.units+n<cLine)(rx:VR w N μ s.heap x xv):
  ∀y∈vs.toArray,EqAt A s y xv (qR w N μ s.heap n x y):=by
 intro y hy
 obtain⟨j,hj⟩:=List.getElem?_of_mem (by simpa using hy:y∈vs)
 refine aT (EI r j y hj) λd hd rd=>?_
 have o1:=List.all_eq_true.mp o d (List.mem_of_getElem? hd)
 rw[sG rd o1]
 exact D5 d x n A y xv o1 hu rd rx
end
end Mine
end
section
open PySem PySem.W PyProof.Rows PySem.SeqAt PySem.EqBoolInt
namespace Mine
section
variable {w:World}{A:Around}{E:Value->Shared->Prop}{hO:Heap}{N:Addr->Prop}{μ:List P2}{H:Hp}{s:Shared}
inductive VH (s:Shared) (k:Bool->Prop) (v:Value) (s':Shared):Prop
 |mk (r:Bool) (e:v= .bool r) (hk:k r) (hs:s'=s)
theorem AL(l m:List UInt8):(l==m)=decide (l=m):=by
 by_cases h:l=m
 ·rw[h];simp
 ·rw[decide_eq_false h];exact beq_eq_false_iff_ne.mpr h
theorem L9(l m:List UInt8):(l != m)= !decide (l=m):=by rw[bne,AL]
theorem M0(i:decide (bD a<5)=true)(e:(bD b==bD a)=true)(x:VR w N μ s.heap a va)(y:VR w N μ s.heap b vb):
  wpAny (pm w) A (compareOp .Eq va vb) (λv s'=>v= .bool (bQ a b)/\s'=s) E s:=by
 induction a using V.casesOn with
 |none=>obtain rfl:=d8 e;rw[x.none,y.none];exact of_rc RcAt.none_none ⟨rfl,rfl⟩
 |bool a=>obtain⟨b,rfl⟩:=jJ e;rw[x.bool,y.bool];exact of_rc (RcAt.bool_bool a b) ⟨rfl,rfl⟩
 |int a=>obtain⟨b,rfl⟩:=bK e;obtain⟨t,rfl⟩:=x.int;obtain⟨u,rfl⟩:=y.int;exact PyProof.Rows.eq_int ⟨rfl,rfl⟩
 |str a=>obtain⟨b,rfl⟩:=iT e;obtain⟨t,rfl⟩:=x.str;obtain⟨u,rfl⟩:=y.str;exact of_rc (RcAt.str_str a t b u) ⟨rfl,rfl⟩
 |bytes a=>
   obtain⟨b,rfl⟩:=bM e
   refine c8 x.bytes λbb t e1 e2=>c8 y.bytes λcc t' e3 e4=>?_
   subst e1 e2 e3 e4
   exact W.eq_bytes ⟨by rw[mF,oW,AL],rfl⟩
 |_=>exact nE i
theorem JE(i:decide (bD a<5)=true)(e:(bD b==bD a)=true)(x:VR w N μ s.heap a va)(y:VR w N μ s.heap b vb):
  wpAny (pm w) A (compareOp .NotEq va vb) (λv s'=>v= .bool (!bQ a b)/\s'=s) E s:=by
 induction a using V.casesOn with
 |none=>obtain rfl:=d8 e;rw[x.none,y.none];exact of_rcne RcNeAt.none_none ⟨rfl,rfl⟩
 |bool a=>obtain⟨b,rfl⟩:=jJ e;rw[x.bool,y.bool];exact of_rcne (RcNeAt.bool_bool a b) ⟨rfl,rfl⟩
 |int a=>obtain⟨b,rfl⟩:=bK e;obtain⟨t,rfl⟩:=x.int;obtain⟨u,rfl⟩:=y.int;exact of_rcne (RcNeAt.int_int a t b u) ⟨rfl,rfl⟩
 |str a=>obtain⟨b,rfl⟩:=iT e;obtain⟨t,rfl⟩:=x.str;obtain⟨u,rfl⟩:=y.str;exact of_rcne (RcNeAt.str_str a t b u) ⟨rfl,rfl⟩
 |bytes a=>
   obtain⟨b,rfl⟩:=bM e
   refine c8 x.bytes λbb t e1 e2=>c8 y.bytes λcc t' e3 e4=>?_
   subst e1 e2 e3 e4
   exact W.ne_bytes ⟨by rw[mF,oW,L9],rfl⟩
 |_=>exact nE i
theorem FZ{a b:List V}{p q:Addr}{vs us:List Value}(hu:A.units<cLine)(x:bR s.heap p "list" vs)(y:bR s.heap q "list" us)(xs:bJ w N μ s.heap a vs)(ys:bJ w N μ s.heap b us)
  (at':∀(j:Nat) (h1:j<vs.length) (h2:j<us.length),EqAt A.in1 s vs[j] us[j] (y5 a b j)):RcNeAt A s (.ref p) (.ref q) (!fR a b):=by
 have e:=jD a b
 by_cases hl:a.length=b.length
 ·have:=RcNeAt.lists (A:=A) (e:=y5 a b) x.isList y.isList (by rw[List.size_toArray,List.size_toArray,aV xs,aV ys,hl]) hu (λj h1 h2=>at' j h1 h2)
  rw[List.size_toArray,aV xs,hl]at this
  rw[hl,Nat.min_self,beq_self_eq_true,Bool.and_true]at e
  rw[<-e];exact this
 ·have q:=RcNeAt.lists_lengths (A:=A) x.isList y.isList (by rw[List.size_toArray,List.size_toArray,aV xs,aV ys];exact bne_iff_ne.mpr hl) hu
  rw[beq_eq_false_iff_ne.mpr hl,Bool.and_false]at e
  rw[<-e];exact q
theorem GN{a b:List V}{p q:Addr}{vs us:List Value}(hu:A.units<cLine)(x:bR s.heap p "tuple" vs)(y:bR s.heap q "tuple" us)(xs:bJ w N μ s.heap a vs)(ys:bJ w N μ s.heap b us)
  (at':∀(j:Nat) (h1:j<vs.length) (h2:j<us.length),EqAt A.in1 s vs[j] us[j] (y5 a b j)):RcNeAt A s (.ref p) (.ref q) (!fR a b):=by
 have:=RcNeAt.tuples (A:=A) (e:=y5 a b) x.isTuple y.isTuple hu (λj h1 h2=>at' j h1 h2)
 rw[List.size_toArray,List.size_toArray,aV xs,aV ys,jD]at this
 exact this
theorem hY(hu:A.units+20<cLine):A.units+7+1<cLine/\A.in1.units+7<cLine/\A.units<cLine/\A.in1.units+8<cLine/\A.units+8<cLine:=by rw[Around.in1_units];lia
theorem SH(o:b5 8 a b=true)(hu:A.units+20<cLine)(x:VR w N μ s.heap a va)(y:VR w N μ s.heap b vb):
  wpAny (pm w) A (compareOp .Eq va vb) (λv s'=>v= .bool (bQ a b)/\s'=s) E s:=by
 rcases LC o with⟨i,e⟩|⟨ty,m,a,b,hn,rfl,rfl,o⟩
 ·exact M0 i e x y
 ·refine aE x.sq λp vs e1 c1 c2=>aE y.sq λq vs' e2 c1' c2'=>?_
  subst e1 e2
  obtain rfl:=Nat.succ.inj hn
  exact of_rc (AS (hY hu).1 c1 c1' c2 c2' (NH a b 7 A.in1 _ _ o (hY hu).2.1 c2 c2')) ⟨by rw[l6],rfl⟩
theorem R6(o:b5 8 a b=true)(hu:A.units+20<cLine)(x:VR w N μ s.heap a va)(y:VR w N μ s.heap b vb):
  wpAny (pm w) A (compareOp .NotEq va vb) (λv s'=>v= .bool (!bQ a b)/\s'=s) E s:=by
 rcases LC o with⟨i,e⟩|⟨ty,m,a,b,hn,rfl,rfl,o⟩
 ·exact JE i e x y
 ·refine aE x.sq λp vs e1 c1 c2=>aE y.sq λq vs' e2 c1' c2'=>?_
  subst e1 e2
  obtain rfl:=Nat.succ.inj hn
  have at':=NH a b 7 A.in1 _ _ o (hY hu).2.1 c2 c2'
  rw[l6]
  rcases ty
  ·exact of_rcne (FZ (hY hu).2.2.1 c1 c1' c2 c2' at') ⟨rfl,rfl⟩
  ·exact of_rcne (GN (hY hu).2.2.1 c1 c1' c2 c2' at') ⟨rfl,rfl⟩
noncomputable def isNone (d:V):Bool:=d.ctorIdx==0
theorem n8(x:VR w N μ s.heap a va)(h:(a.ctorIdx==12)=false):plainIs va .none=true/\(va==Value.none)=isNone a:=by
 rcases x with x|⟨p,rfl,_,c⟩
 ·induction a using V.casesOn with
  |none=>rw[x];exact⟨rfl,rfl⟩
  |bool b=>rw[x];exact⟨rfl,rfl⟩
  |int b=>obtain⟨t,rfl⟩:=x;exact⟨rfl,rfl⟩
  |str b=>obtain⟨t,rfl⟩:=x;exact⟨rfl,rfl⟩
  |bytes b=>exact c8 x λb t e _=>e▸⟨rfl,rfl⟩
  |ref n=>exact aT x λp _ e=>e▸⟨rfl,rfl⟩
  |glob g=>exact mN h
  |_=>exact False.elim x
 ·refine⟨rfl,?_⟩
  rcases h:isNone a
  ·exact Eq.refl false
  ·obtain rfl:=d8 h
   exact False.elim c
theorem BA{P:Int->Int->Prop}{a b:V}(e:match a,b with| .int x,.int y=>P x y|_,_=>False):∃i j,a= .int i/\b= .int j/\P i j:=by
 obtain⟨i,rfl⟩:=bK (d:=a) (aS (by clear e;rcases a<;>first|exact Eq.refl False|exact Eq.refl _) e)
 obtain⟨j,rfl⟩:=bK (d:=b) (aS (by clear e;rcases b<;>first|exact Eq.refl False|exact Eq.refl _) e)
 exact⟨_,_,rfl,rfl,e⟩
theorem SA(e:mW False H .Is a b k):b= .none/\(a.ctorIdx==12)=false/\k (isNone a):=by
 obtain rfl:=d8 (d:=b) (aS (by clear e;rcases b<;>first|exact Eq.refl False|exact Eq.refl _) e)
 have h:mW False H .Is a .none k=bif a.ctorIdx==12 then False else k (isNone a):=by rcases a<;>first|exact Eq.refl False|exact Eq.refl (k false)|exact Eq.refl (k true)
 rw[h]at e
 rcases hb:a.ctorIdx==12<;>rw[hb]at e
 ·exact⟨rfl,rfl,e⟩
 ·exact False.elim e
theorem O4(e:mW False H .IsNot a b k):b= .none/\(a.ctorIdx==12)=false/\k (!(isNone a)):=by
 obtain rfl:=d8 (d:=b) (aS (by clear e;rcases b<;>first|exact Eq.refl False|exact Eq.refl _) e)
 have h:mW False H .IsNot a .none k=bif a.ctorIdx==12 then False else k (!isNone a):=by rcases a<;>first|exact Eq.refl False|exact Eq.refl (k false)|exact Eq.refl (k true)
 rw[h]at e
 rcases hb:a.ctorIdx==12<;>rw[hb]at e
 ·exact⟨rfl,rfl,e⟩
 ·exact False.elim e
theorem in_of(e:mW False H .In a b k):∃l,(content H b=some (.tup l)\/content H b=some (.lst l))/\dI a l=true/\k (qM a l):=by
 have e:(match content H b with|some (.tup l)=>guard False (dI a l) (k (qM a l))|some (.lst l)=>guard False (dI a l) (k (qM a l))|_=>False):=e
 rcases hc:content H b with _|d<;>rw[hc]at e
 ·exact False.elim e
 ·have h:=aS (c:=d.ctorIdx==5||d.ctorIdx==6) (by clear e;rcases d<;>first|exact Eq.refl False|exact Eq.refl _) e
  rcases Bool.or_eq_true_iff.mp h with h|h
  ·obtain⟨l,rfl⟩:=lQ h
   exact⟨l,.inl rfl,aA.mp e⟩
  ·obtain⟨l,rfl⟩:=dJ h
   exact⟨l,.inr rfl,aA.mp e⟩
theorem EA(S:Std w hO N μ H s)(y:VR w N μ s.heap b vb)(hc:content H b=some (.tup l)\/content H b=some (.lst l)):
  ∃vs p,vb= .ref p/\bJ w N μ s.heap l vs/\(s.heap.IsTuple p vs.toArray\/s.heap.IsList p vs.toArray):=by
 rcases hc with hc|hc
 ·refine cB (aX S y hc trivial) λp e923 c _=>?_
  subst e923
  refine cU c λ_ vs c1 c2=>?_
  clear c
  exact⟨vs,_,rfl,c2,.inl c1.isTuple⟩
 ·refine cB (aX S y hc trivial) λp e924 c _=>?_
  subst e924
  refine cU c λ_ vs c1 c2=>?_
  clear c
  exact⟨vs,_,rfl,c2,.inr c1.isList⟩
theorem kR{op:CmpOp}{a b:V}{va vb:Value}{k:Bool->Prop}(S:Std w hO N μ H s)(x:VR w N μ s.heap a va)(y:VR w N μ s.heap b vb)(hu:A.units+20<cLine)(e:mW False H op a b k):
  wpAny (pm w) A (compareOp op va vb) (VH s k) E s:=by
 induction op using PySem.CmpOp.casesOn with
 |Lt=>refine aE (BA (P:=λx y=>k (decide (x<y))) e) λi j e925 e926 h=>?_;subst e925;subst e926;obtain⟨t,rfl⟩:=x.int;obtain⟨u,rfl⟩:=y.int;exact PyProof.Rows.lt_int ⟨_,rfl,h,rfl⟩
 |LtE=>refine aE (BA (P:=λx y=>k (decide (x<=y))) e) λi j e927 e928 h=>?_;subst e927;subst e928;obtain⟨t,rfl⟩:=x.int;obtain⟨u,rfl⟩:=y.int;exact PyProof.Rows.le_int ⟨_,rfl,h,rfl⟩
 |Gt=>refine aE (BA (P:=λx y=>k (decide (y<x))) e) λi j e929 e930 h=>?_;subst e929;subst e930;obtain⟨t,rfl⟩:=x.int;obtain⟨u,rfl⟩:=y.int;exact PyProof.Rows.gt_int ⟨_,rfl,h,rfl⟩
 |GtE=>refine aE (BA (P:=λx y=>k (decide (y<=x))) e) λi j e931 e932 h=>?_;subst e931;subst e932;obtain⟨t,rfl⟩:=x.int;obtain⟨u,rfl⟩:=y.int;exact PyProof.Rows.ge_int ⟨_,rfl,h,rfl⟩
 |Eq=>obtain⟨o,h⟩:=aA.mp e;exact wpAny_mono (SH o hu x y) (λv s' z=>⟨_,z.1,h,z.2⟩) λ_ _ z=>z
 |NotEq=>obtain⟨o,h⟩:=aA.mp e;exact wpAny_mono (R6 o hu x y) (λv s' z=>⟨_,z.1,h,z.2⟩) λ_ _ z=>z
 |Is=>
   refine qC (SA e) λe933 h1 h2=>?_
   subst e933
   obtain⟨p1,p2⟩:=n8 x h1
   rw[y.none]
   exact wpAny_is_plain p1 ⟨_,rfl,p2▸h2,rfl⟩
 |IsNot=>
   refine qC (O4 e) λe934 h1 h2=>?_
   subst e934
   obtain⟨p1,p2⟩:=n8 x h1
   rw[y.none]
   exact wpAny_isNot_plain p1 ⟨_,rfl,p2▸h2,rfl⟩
 |In=>
   refine cB (in_of e) λl hc o h=>?_
   refine aE (EA S y hc) λvs p e935 c2 hs=>?_
   subst e935
   rcases hs with c1|c1
   ·exact in_tupleAt (qR w N μ s.heap 8 a) c1 (gN c2 o (hY hu).2.2.2.1 x) ⟨_,rfl,by rw[List.any_toArray,kJ c2 o];exact h,rfl⟩
   ·exact in_listAt (qR w N μ s.heap 8 a) c1 (gN c2 o (hY hu).2.2.2.1 x) ⟨_,rfl,by rw[List.any_toArray,kJ c2 o];exact h,rfl⟩
 |NotIn=>
   refine cB (in_of (k:=λb=>k (!b)) e) λl hc o h=>?_
   refine aE (EA S y hc) λvs p e936 c2 hs=>?_
   subst e936
   rcases hs with c1|c1
   ·exact notIn_tupleAt (qR w N μ s.heap 8 a) c1 (gN c2 o (hY hu).2.2.2.1 x) ⟨_,rfl,by rw[List.any_toArray,kJ c2 o];exact h,rfl⟩
   ·exact notIn_listAt (qR w N μ s.heap 8 a) c1 (gN c2 o (hY hu).2.2.2.1 x) ⟨_,rfl,by rw[List.any_toArray,kJ c2 o];exact h,rfl⟩
end
end Mine
end
section
open PySem PySem.W PyProof.Rows PySem.SeqAt PySem.EqBoolInt
namespace Mine
section
variable {w:World}{A:Around}{E:Value->Shared->Prop}{hO:Heap}{N:Addr->Prop}{μ:List P2}{H:Hp}{s:Shared}
theorem KN(sl:Expr):∃f:Value->Value->List Value,subscripted sl false=λo i=>operate (f o i) (getItem o i):=by
 have h:subscripted sl false=bif sl.ctorIdx==26 then subscripted sl false else λo i=>operate [o,i] (getItem o i):=by rcases sl<;>first|exact Eq.refl (λo i=>operate [o,i] (getItem o i))|exact Eq.refl _
 rcases hc:sl.ctorIdx==26<;>rw[hc]at h
 ·exact⟨_,h⟩
 ·clear h
  refine Expr.Slice.elim sl (eq_of_beq hc) λlo hi st pos=>?_
  rcases st with _|st
  ·exact⟨λo i=>[i,o],rfl⟩
  ·exact⟨λo i=>[o,i],rfl⟩
theorem jC{β:Type}{l:List β}{j:Int}{x:β}(h:item l j=some x):0<=j/\l[j.toNat]? =some x:=by
 unfold item at h
 split at h
 ·rename_i c;exact⟨c,h⟩
 ·injection h
theorem GH{l:List V}{vs:List Value}{a:Addr}{j:Int}{t:Tok}{d:V}{k:V->Prop}(S:Std w hO N μ H s)(c1:bR s.heap a "list" vs)(c2:bJ w N μ s.heap l vs)(hf:fits l=true)(e:item l j=some d)(hk:k d):
  wpAny (pm w) A (getItem (.ref a) (.int j t)) (Gv w hO N μ H s k) E s:=by
 obtain⟨h0,h1⟩:=jC e
 refine aT (i4 c2 _ _ h1) λv hv r=>?_
 have hl:=(List.getElem?_eq_some_iff.mp h1).1
 have hf:=of_decide_eq_true hf
 exact wpAny_getItem_list c1.isList h0 (by lia) (by simpa using hv) (Gv.now S hk r)
theorem item_tup{l:List V}{vs:List Value}{a:Addr}{j:Int}{t:Tok}{d:V}{k:V->Prop}(S:Std w hO N μ H s)(c1:bR s.heap a "tuple" vs)(c2:bJ w N μ s.heap l vs)(hf:fits l=true)(e:item l j=some d)(hk:k d):
  wpAny (pm w) A (getItem (.ref a) (.int j t)) (Gv w hO N μ H s k) E s:=by
 obtain⟨h0,h1⟩:=jC e
 refine aT (i4 c2 _ _ h1) λv hv r=>?_
 have hl:=(List.getElem?_eq_some_iff.mp h1).1
 have hf:=of_decide_eq_true hf
 have hlen:=aV c2
 obtain⟨n,c1⟩:=c1
 refine PySem.P.getItem_tuple (k:=j.toNat) c1 (by lia) (by lia) ?_ (by simpa using hv) (Gv.now S hk r)
 have e1:¬j<0:=by lia
 have e2:j<(vs.length:Int):=by lia
 simp[seqIndex?,e1,e2,h0]
theorem cE(b:Array UInt8):(bC b).length=b.toList.length:=by simp[bC]
theorem yL{b:Array UInt8}{t u:Tok}{j:Int}{x:Int}{k:V->Prop}(S:Std w hO N μ H s)(hf:fits (bC b)=true)(e:item (bC b) j=some x)(hk:k (.int x)):
  wpAny (pm w) A (getItem (.bytes b t) (.int j u)) (Gv w hO N μ H s k) E s:=by
 obtain⟨h0,h1⟩:=jC e
 have hl:=(List.getElem?_eq_some_iff.mp h1).1
 have hf:=of_decide_eq_true hf
 rw[cE]at hl hf
 obtain⟨b⟩:=b
 refine W.getItem_bytes (l:=b) (by simp at hf;lia) h0 (by simp at hl;lia) (Gv.tok (d:=.int x) S hk ⟨s.toks,?_⟩)
 unfold bC at h1
 rw[List.getElem?_map]at h1
 refine aT (Option.map_eq_some_iff.mp h1) λy hy e2=>?_
 rw[List.getD_eq_getElem?_getD,hy]
 rw[<-e2]
 rfl
end
end Mine
end
section
open PySem PySem.W PyProof.Rows
open PySem.Sem (wp)
namespace Mine
noncomputable def lX:List String:=["bytearray.__contains__","bytearray.__mod__","bytearray.__rmod__","_struct.pack_into.held","bytearray.find.held"]++Builtin.Bytes.decodersThatHold
noncomputable def IW:Code->Bool
 | .builtin id _=> !lX.contains id
 |_=>true
noncomputable def tU (Γ:Ctx):Prop:=∀x∈Γ.below,IW x.1=true
noncomputable def JQ (Γ:Ctx):Prop:=IW Γ.code=true/\tU Γ
noncomputable def aD {α:Type} (M:Model) (A:Around) (t:Sem α) (Q:α->Shared->Prop) (s:Shared):Prop:=
 ∀Γ p,Γ.In A->JQ Γ->wp M Γ t (λa _ s'=>Q a s') (λ_ _ _=>False) p s
noncomputable def M7 (R:Flow->Shared->Prop):Result->Shared->Prop:=λr s'=>match r with
 | .ok f=>R f s'
 | .error _=>False
noncomputable def bE (M:Model) (A:Around) (c:Code) (R:Flow->Shared->Prop) (s:Shared):Prop:=
 ∀Γ p,Γ.code=c->Γ.Below A->tU Γ->wpCode M Γ (M7 R) p s
namespace G
section
variable {α β:Type}{M:Model}{A:Around}{s:Shared}
theorem leaf(h:wpAny M A t Q (λ_ _=>False) s):aD M A t Q s:=λΓ p hΓ _=>h Γ p hΓ
theorem codeLeaf{c:Code}{R:Flow->Shared->Prop}(h:codeAny M A c (M7 R) s):bE M A c R s:=λΓ p hc hΓ _=>h Γ p hc hΓ
theorem pure(h:Q a s):aD M A (pure a) Q s:=λ_ _ _ _=>h
theorem mono(h:aD M A t Q s)(hQ:∀a s,Q a s->Q' a s):aD M A t Q' s:=
 λΓ p hΓ o=>Sem.wp_mono M Γ t (λa _ s=>hQ a s) (λ_ _ _ z=>z) p s (h Γ p hΓ o)
theorem bind(h:aD M A m (λa s'=>aD M A (f a) Q s') s):aD M A (m >>= f) Q s:=λΓ p hΓ o=>by
 rw[Sem.wp_bind']
 exact Sem.wp_mono M Γ m (λa p' s' h'=>h' Γ p' hΓ o) (λ_ _ _ h'=>h') p s (h Γ p hΓ o)
theorem holding(h:aD M A m Q s):aD M A (holding vs m) Q s:=λΓ p hΓ o=>by
 rw[Sem.wp_holding]
 exact h Γ p hΓ o
theorem operating(h:aD M A m Q s):aD M A (operate vs m) Q s:=λΓ p hΓ o=>by
 rw[Sem.wp_operate]
 exact h Γ p hΓ o
theorem standAt(h:Q () s):aD M A (standAt pos) Q s:=λ_ _ _ _=>h
theorem point(h:Q () s):aD M A point Q s:=λ_ _ _ _=>h
theorem rule(h:Q () s):aD M A (rule tag) Q s:=λ_ _ _ _=>h
theorem onRaise(h:aD M A m Q s):aD M A (m.onRaise k) Q s:=λΓ p hΓ o=>by
 rw[Sem.wp_onRaise]
 exact Sem.wp_mono M Γ m (λ_ _ _ z=>z) (λ_ _ _ z=>z.elim) p s (h Γ p hΓ o)
theorem tryCatch(h:aD M A m Q s):aD M A (MonadExcept.tryCatch m k) Q s:=λΓ p hΓ o=>by
 rw[Sem.wp_tryCatch']
 exact Sem.wp_mono M Γ m (λ_ _ _ z=>z) (λ_ _ _ z=>z.elim) p s (h Γ p hΓ o)
theorem of_eq(e:t=t')(h:aD M A t' Q s):aD M A t Q s:=e▸h
theorem codeMono{c:Code}{R R':Flow->Shared->Prop}(h:bE M A c R s)(hR:∀r s,R r s->R' r s):bE M A c R' s:=
 λΓ p hc hΓ o=>wpCode_mono (λr s z=>by induction r using Except.casesOn with|ok f=>exact hR _ _ z|error e=>exact z) (h Γ p hc hΓ o)
theorem vU(o:JQ Γ)(c:Code)(h:Option Value)(p:Pos):tU (Γ.enter c h p):=λx hx=>by
 rcases List.mem_cons.mp hx with rfl|hx
 ·exact o.1
 ·exact o.2 x hx
theorem run(hc:bE M A c Q s):aD M A (PySem.run c none) Q s:=λΓ p hΓ o=>by
 rw[Sem.wp_run]
 refine wpCode_mono (λr s z=>?_) (hc _ p rfl (hΓ.enter c none p (by intro x;injection x)) (vU o c none p))
 rcases r<;>exact z
theorem runValue(hc:bE M A c (λf s'=>match f with| .ret v=>Q v s'|_=>False) s):aD M A (runValue c) Q s:=λΓ p hΓ o=>by
 rw[Sem.wp_runValue]
 refine wpCode_mono (λr s z=>?_) (hc _ p rfl (hΓ.enter c none p (by intro x;injection x)) (vU o c none p))
 rcases r with e|(v|_|_|_)<;>exact z
theorem call
 (hc:bE M A (.call f ⟨pos,kw⟩) (λf s'=>match f with| .ret v=>Q v s'|_=>False) s):aD M A (call f pos kw) Q s:=runValue hc
theorem codeTree{c:Code}{R:Flow->Shared->Prop}(ok:IW c=true)
  (h:aD M (A.under c) (M.den c) (λfin s'=>match fin with| .done f=>R f s'| .again c'=>c'.quiet=true/\bE M A c' R s') s):bE M A c R s:=λΓ p hc hΓ o=>by
 rw[wpCode_iff_wp,hc]
 refine Sem.wp_mono M Γ _ (λfin p' s' h'=>?_) (λ_ _ _ h'=>h') p s (h Γ p (hc▸hΓ.in) ⟨by rw[hc];exact ok,o⟩)
 induction fin using PySem.Fin.casesOn with
 |done f=>exact h'
 |again c'=>exact⟨h'.1,h'.2 (Γ.goto c') p' rfl (hΓ.goto c') o⟩
theorem vK{c:Code}{R:Flow->Shared->Prop}(ok:IW c=true)(hq:c.quiet=true)(I:Nat->Shared->Prop)
  (turn:∀n s,I n s->aD M (A.under c) (M.den c) (λfin s'=>match fin with| .done f=>R f s'| .again c'=>c'=c/\∃m,m<n/\I m s') s)
  (n:Nat) (h:I n s):bE M A c R s:=by
 induction n using Nat.strongRecOn generalizing s with
 |ind n ih=>
   refine codeTree ok (mono (turn n s h) (λfin s' hf=>?_))
   induction fin using PySem.Fin.casesOn with
   |done f=>exact hf
   |again c'=>refine cU hf λe91 m hm hI=>?_;clear hf;subst e91;exact⟨hq,ih m hm hI⟩
end
end G
end Mine
end
section
open PySem PySem.W PyProof.Rows
open PySem.Sem (wp)
namespace Mine
theorem jY(h:jA e=false):starEach (e::rest) env=(false,eval e env)::starEach rest env:=by
 have h1:(λr=>starEach (e::r))=bif jA e then(λr=>starEach (e::r))else λr env=>(false,eval e env)::starEach r env:=by
  clear h
  rcases e<;>exact Eq.refl _
 exact congrFun (congrFun (cond_f h1 h) rest) env
theorem eV(h:jA e=false):assignEach (e::rest) env=(false,assign e env)::assignEach rest env:=by
 have h1:(λr=>assignEach (e::r))=bif jA e then(λr=>assignEach (e::r))else λr env=>(false,assign e env)::assignEach r env:=by
  clear h
  rcases e<;>exact Eq.refl _
 exact congrFun (congrFun (cond_f h1 h) rest) env
namespace G
section
variable {M:Model}{A:Around}{s:Shared}{env:Env}
theorem release(h:Q () s):aD M A (PySem.release vs keep) Q s:=λΓ p _ _=>by
 rw[Sem.wp_release];exact h
theorem keep{α:Type}{vs:List Value}{m:Sem α}{Q:α->Shared->Prop}(h:aD M A m Q s):aD M A (m.keep vs) Q s:=λΓ p hΓ o=>by
 have e:wp M Γ (m.keep vs) (λa _ s'=>Q a s') (λ_ _ _=>False) p s=wp M Γ m (λa _ s'=>Q a s') (λ_ _ _=>False) p s:=by first|exact Sem.wp_keep .. |simp
 rw[e];exact h Γ p hΓ o
theorem bindName(h:aD M A (storeName env x v) Q s):aD M A (PySem.bindName env x v) Q s:=
 λΓ p hΓ o=>by rw[Sem.wp_bindName];exact h Γ p hΓ o
theorem ite{c:Prop}[Decidable c]{α:Type}{a b:Sem α}{Q:α->Shared->Prop}(h:if c then aD M A a Q s else aD M A b Q s):aD M A (if c then a else b) Q s:=by
 split<;>simp_all
theorem BinOpE{l op r pos}(h:aD M A (eval l env) (λa sA=>aD M A (eval r env) (λb sB=>aD M A (binaryOp op a b) Q sB) sA) s):aD M A (eval (.BinOp l op r pos) env) Q s:=by
 rw[eval_BinOp];exact bind (mono h λa sA h₁=>bind (holding (mono h₁ λb sB h₂=>bind (standAt (operating h₂)))))
theorem UnaryOpE{op x pos}(h:aD M A (eval x env) (λa sA=>aD M A (unaryOp op a) Q sA) s):aD M A (eval (.UnaryOp op x pos) env) Q s:=by
 rw[arm_eval_UnaryOp];exact bind (mono h λa sA h₁=>bind (standAt (holding h₁)))
theorem IfExpE{t b o pos}(h:aD M A (isTrue t env (eval t env)) (λv sA=>aD M A (match v with|true=>eval b env|false=>eval o env) Q sA) s):aD M A (eval (.IfExp t b o pos) env) Q s:=by
 rw[arm_eval_IfExp]
 refine bind (mono h λv sA h₁=>?_)
 rcases v<;>exact h₁
theorem boolOp_one{pos op x}:boolOp pos op [x]=x:=rfl
theorem boolOp_cons{pos op}
  (h:aD M A x (λv sA=>aD M A (truthy v) (λt sB=>match op,t with
   | .And,false| .Or,true=>Q v sB
   |_,_=>aD M A (boolOp pos op (y::rest)) Q sB) sA) s):aD M A (boolOp pos op (x::y::rest)) Q s:=by
 refine bind (mono h λv sA h₁=>bind (standAt (bind (holding (mono h₁ λt sB h₂=>?_)))))
 rcases op<;>rcases t<;>first|exact pure h₂|exact h₂
theorem chain_one{pos left op r}(h:aD M A r (λrv sA=>aD M A (compareOp op left rv) Q sA) s):aD M A (compareChain pos left [op] [r]) Q s:=by
 exact bind (holding (mono h λrv sA h₁=>bind (standAt (operating h₁))))
theorem chain_cons{pos left op op' ops}
  (h:aD M A r (λrv sA=>aD M A (compareOp op left rv) (λc sB=>aD M A (truthy c) (λt sC=>match t with
   |true=>aD M A (compareChain pos rv (op'::ops) (r'::rs)) Q sC
   |false=>Q c sC) sB) sA) s):aD M A (compareChain pos left (op::op'::ops) (r::r'::rs)) Q s:=by
 refine bind (holding (mono h λrv sA h₁=>bind (standAt (bind (holding (mono h₁ λc sB h₂=>bind (release (bind (holding (mono h₂ λt sC h₃=>?_))))))))))
 rcases t
 ·exact pure h₃
 ·exact h₃
theorem test_one{pos left op r}(h:aD M A r (λrv sA=>aD M A (compareOp op left rv) (λc sB=>aD M A (truthy c) Q sB) sA) s):aD M A (testChain pos left [op] [r]) Q s:=by
 exact bind (holding (mono h λrv sA h₁=>bind (standAt (bind (operating (mono h₁ λc sB h₂=>holding h₂))))))
theorem test_cons{pos left op op' ops}
  (h:aD M A r (λrv sA=>aD M A (compareOp op left rv) (λc sB=>aD M A (truthy c) (λt sC=>match t with
   |true=>aD M A (testChain pos rv (op'::ops) (r'::rs)) Q sC
   |false=>Q false sC) sB) sA) s):aD M A (testChain pos left (op::op'::ops) (r::r'::rs)) Q s:=by
 refine bind (holding (mono h λrv sA h₁=>bind (standAt (bind (holding (mono h₁ λc sB h₂=>bind (release (bind (holding (mono h₂ λt sC h₃=>?_))))))))))
 rcases t
 ·exact pure h₃
 ·exact h₃
theorem CompareE{l ops cs pos}(h:aD M A (eval l env) (λa sA=>aD M A (compareChain pos a ops (markedEach ops cs (evalEach cs env))) Q sA) s):aD M A (eval (.Compare l ops cs pos) env) Q s:=by
 rw[arm_eval_Compare];exact bind h
theorem isTrue_Compare{l ops cs pos whole}(h:aD M A (eval l env) (λa sA=>aD M A (testChain pos a ops (markedEach ops cs (evalEach cs env))) Q sA) s):aD M A (isTrue (.Compare l ops cs pos) env whole) Q s:=by
 rw[arm_isTrue_Compare];exact bind h
theorem isTrue_Not{x pos whole}(h:aD M A (isTrue x env (eval x env)) (λb sA=>Q (!b) sA) s):aD M A (isTrue (.UnaryOp .Not x pos) env whole) Q s:=by
 rw[arm_isTrue_UnaryOp];exact bind (mono h λb sA h₁=>pure h₁)
theorem isTrue_IfExp{t b o pos whole}(h:aD M A (isTrue t env (eval t env)) (λv sA=>aD M A (match v with|true=>isTrue b env (eval b env)|false=>isTrue o env (eval o env)) Q sA) s):
  aD M A (isTrue (.IfExp t b o pos) env whole) Q s:=by
 rw[arm_isTrue_IfExp]
 refine bind (mono h λv sA h₁=>?_)
 rcases v<;>exact h₁
theorem allTrue_cons{op}
  (h:aD M A (isTrue x env (eval x env)) (λb sA=>match op,b with
   | .And,false=>Q false sA
   | .Or,true=>Q true sA
   |_,_=>aD M A (allTrue op rest env) Q sA) s):aD M A (allTrue op (x::rest) env) Q s:=by
 rw[arm_allTrue_cons]
 refine bind (mono h λb sA h₁=>?_)
 rcases op<;>rcases b<;>first|exact pure h₁|exact h₁
theorem spliced_cons(h:aD M A x (λv sA=>aD M A (spliced rest) (λvs sB=>Q (v::vs) sB) sA) s):
  aD M A (spliced ((false,x)::rest)) Q s:=by
 refine bind (mono h λv sA h₁=>?_)
 show aD M A (Bind.bind (Pure.pure [v]:Sem (List Value)) _) Q sA
 exact bind (pure (bind (holding (mono h₁ λvs sB h₂=>pure h₂))))
theorem ListD{es pos}(h:aD M A (spliced (backTo pos (starEach es env))) (λvs sA=>aD M A (newList vs) Q sA) s):aD M A (eval (.List es pos) env) Q s:=by
 rw[arm_eval_List];exact bind (standAt (bind h))
theorem TupleD{es k pos}(h:aD M A (spliced (backTo pos (starEach es env))) (λvs sA=>aD M A (newTuple vs) Q sA) s):aD M A (eval (.Tuple es k pos) env) Q s:=by
 rw[arm_eval_Tuple];exact bind (standAt (bind h))
end
end G
end Mine
end
section
open PySem PySem.W PyProof.Rows
open PySem.Sem (wp)
namespace Mine
theorem UA{b c:Bool}(h:c=false)(e:b=bif c then b else false):b=false:=by subst h;exact e
theorem o7(h:jG o=false):attributeBase o x env t=t:=by
 have h1:attributeBase o=bif jG o then attributeBase o else λ_ _ t=>t:=by clear h;rcases o<;>first|exact Eq.refl (λ_ _ t=>t)|exact Eq.refl _
 rw[cond_f h1 h]
theorem kU(h:eU e=false):foldedSetIterable e env x=pure x:=by
 have h1:foldedSetIterable e=bif eU e then foldedSetIterable e else λ_ x=>pure x:=by clear h;rcases e<;>first|exact Eq.refl (λ_ x=>pure x)|exact Eq.refl _
 rw[cond_f h1 h]
theorem sJ(h:eU e=false):markedBehindIn op e t=t:=by
 apply markedBehindIn_of_false
 exact UA h (by clear h;rcases e<;>first|exact Eq.refl false|exact Eq.refl _)
namespace G
section
variable {M:Model}{A:Around}{s:Shared}{env:Env}
theorem marked_one{op e t}(h:eU e=false):markedEach [op] [e] [t]=[t]:=by
 show[markedBehindIn op e t]=[t]
 rw[sJ h]
theorem marked_cons{op op' ops e e' es t t' ts}:markedEach (op::op'::ops) (e::e'::es) (t::t'::ts)=t::markedEach (op'::ops) (e'::es) (t'::ts):=rfl
theorem AttributeE{prog w}{o x pos}(hb:jG o=false)(h:aD (model prog w) A (eval o env) (λa sA=>aD (model prog w) A (getAttr a x true) Q sA) s):aD (model prog w) A (eval (.Attribute o x pos) env) Q s:=by
 rw[arm_eval_Attribute,o7 hb]
 exact bind (mono h λa sA h₁=>bind (standAt (bind (holding (mono h₁ λr sB h₂=>bind (leaf (wpAny_letTemporaryGo (λ_ _ _ _=>h₂))))))))
theorem SubscriptE{o i pos}(h:aD M A (eval o env) (λa sA=>aD M A (eval i env) (λj sB=>aD M A (subscriptTail o i a j) Q sB) sA) s):aD M A (eval (.Subscript o i pos) env) Q s:=by
 rw[eval_Subscript]
 exact bind (mono h λa sA h₁=>bind (holding (mono h₁ λj sB h₂=>bind (standAt h₂))))
theorem SliceE{lo hi pos}(h:aD M A (valueOrNone (evalOpt lo env)) (λl sA=>aD M A (valueOrNone (evalOpt hi env)) (λu sB=>aD M A (newFields "slice" [l,u,.none]) Q sB) sA) s):
  aD M A (eval (.Slice lo hi none pos) env) Q s:=by
 rw[arm_eval_Slice]
 refine bind (mono h λl sA h₁=>bind (holding (mono h₁ λu sB h₂=>?_)))
 exact bind (holding (pure h₂))
theorem p8(h:aD M A r Q s):aD M A (r >>= λv=>PySem.holding [v] PySem.point >>= λ_=>Pure.pure v) Q s:=
 bind (mono h λv sA h₁=>bind (holding (point (pure h₁))))
theorem yA(hs:ts.all (λt=> !t.1)=true)(h:aD M A (spliced ts) (λvs sA=>Q ⟨vs,[]⟩ sA) s):aD M A (evalArgs f true ts []) Q s:=by
 match ts,hs with
 | [],_=>
   show aD M A (spliced [] >>= _) Q s
   refine bind (mono h λvs sA h₁=>bind (pure ?_))
   refine holding ?_
   exact bind (pure (bind (pure (pure h₁))))
 |(false,x)::rest,_=>
   show aD M A (spliced ((false,x)::rest) >>= _) Q s
   refine bind (mono h λvs sA h₁=>bind (pure ?_))
   refine holding ?_
   exact bind (pure (bind (pure (pure h₁))))
end
end G
end Mine
end
section
open PySem PySem.W PyProof.Rows
open PySem.Sem (wp)
namespace Mine
namespace G
section
variable {M:Model}{A:Around}{s:Shared}{env:Env}
theorem n9{α:Type}:∀{ts:List (Bool×α)},ts.all (λt=> !t.1)=true->ts.any (·.1)=false
 | [],_=>rfl
 |(b,_)::r,h=>by
   rw[List.all_cons,Bool.and_eq_true_iff]at h
   have h1:b=false:=by simpa using h.1
   rw[List.any_cons,n9 h.2,h1];rfl
theorem callWithE{pos f first ts}(hs:ts.all (λt=> !t.1)=true)
  (h:aD M A (spliced ts) (λvs sA=>aD M A (keeperOf f) (λk sB=>(k= .frame\/k= .machine)/\aD M A (PySem.call f (first++vs) []) Q sB) sA) s):aD M A (callWith pos f first ts []) Q s:=by
 refine bind (holding (yA hs (mono h λvs sA h₁=>bind (standAt ?_))))
 rw[n9 hs]
 refine bind (mono h₁ λk sB h₂=>?_)
 obtain⟨hk,h₂⟩:=h₂
 rcases hk with rfl|rfl
 ·simp only[List.any_nil,Bool.or_false]
  split
  ·exact p8 h₂
  ·exact p8 (by exact keep h₂)
 ·simp only[List.any_nil,Bool.or_false]
  exact p8 h₂
noncomputable def NU (f:Expr) (as:List Expr) (pos:Pos) (env:Env):Sem Value:=do callWith pos (<-eval f env) [] (backTo pos (starEach as env)) (backToKw pos (keywordEach [] env))
theorem DH(f:Expr)(as:List Expr)(pos:Pos)(env:Env):eval (.Call f as [] pos) env=bif eK f then eval (.Call f as [] pos) env else NU f as pos env:=by
 rcases f<;>first|exact Eq.refl (NU _ as pos env)|exact Eq.refl _
theorem CallE{f as pos}(hf:eK f=false)
  (h:aD M A (eval f env) (λa sA=>aD M A (callWith pos a [] (backTo pos (starEach as env)) []) Q sA) s):aD M A (eval (.Call f as [] pos) env) Q s:=by
 rw[cond_f (DH f as pos env) hf]
 exact bind h
theorem MethodE{prog w}{o x apos as pos}(hb:jG o=false)(hs:(starEach as env).all (λt=> !t.1)=true)(hl:(apos.endLine==pos.line)=true)(hn:as.length<29)
  (h:aD (model prog w) A (eval o env) (λa sA=>∃f,aD (model prog w) A (callWith pos f [a] (backTo pos (starEach as env)) []) Q sA/\
   ∀(pl:Sem Bool) (Q':Value×List Value->Shared->Prop),Q' (f,[a]) sA->aD (model prog w) A (getMethod a x pl) Q' sA) s):aD (model prog w) A (eval (.Call (.Attribute o x apos) as [] pos) env) Q s:=by
 rw[arm_eval_Call,o7 hb]
 refine bind (mono h λa sA h₁=>bind (standAt ?_))
 refine aT h₁ λf hc hm=>?_
 clear h₁
 have hform:methodCallForm (as.length+([]:List Keyword).length) (backTo pos (starEach as env)) (backToKw pos (keywordEach [] env))=true:=by
  delta methodCallForm
  have e1:(backTo pos (starEach as env)).all (λt=> !t.1)=true:=by
   unfold backTo
   rw[List.all_map]
   exact hs
  have e2:as.length+([]:List Keyword).length+(if(backToKw pos (keywordEach [] env)).isEmpty=true then 0 else 1)<30:=by
   show as.length+0+0<30
   lia
  rw[e1]
  simp only[Bool.true_and,Bool.and_eq_true,decide_eq_true_eq]
  exact⟨rfl,e2⟩
 have hpos:methodCallPos true o env apos pos=Pure.pure pos:=by unfold methodCallPos;simp[hl]
 delta methodCall
 rw[hform]
 refine bind (holding (hm _ _ ?_))
 exact bind (of_eq hpos (pure hc))
theorem IfS{t b o pos}(h:aD M A (isTrue t env (eval t env)) (λv sA=>aD M A (match v with|true=>execs b env|false=>execs o env) Q sA) s):aD M A (exec (.If t b o pos) env) Q s:=by
 rw[arm_exec_If]
 refine bind (standAt (bind (mono h λv sA h₁=>?_)))
 rcases v<;>exact h₁
theorem ReturnS{e pos}(h:aD M A (eval e env) (λv sA=>Q (.ret v) sA) s):aD M A (exec (.Return (some e) pos) env) Q s:=by
 rw[exec_Return_some]
 exact bind (standAt (bind (mono h λv sA h₁=>pure h₁)))
theorem Return0S{pos}(h:Q (.ret .none) s):aD M A (exec (.Return none pos) env) Q s:=by
 rw[exec_Return_none]
 exact bind (standAt (pure h))
theorem PassS{pos}(h:Q .next s):aD M A (exec (.Pass pos) env) Q s:=by
 rw[exec_Pass]
 exact bind (standAt (pure h))
theorem m4{n:Nat}(h:iA e=false):swapsWith e t n env=Pure.pure false:=by
 have h1:swapsWith e=bif iA e then swapsWith e else λ_ _ _=>Pure.pure false:=by clear h;rcases e<;>first|exact Eq.refl (λ_ _ _=>Pure.pure false)|exact Eq.refl _
 rw[cond_f h1 h]
theorem ExprS{e pos}(hc:iA e=false)(hk:env.scope.kind= .function)(h:aD M A (eval e env) (λv sA=>v= .none/\Q .next sA) s):aD M A (exec (.Expr e pos) env) Q s:=by
 rw[exec_Expr _ _ _ (by unfold interactive;rw[hk];rfl) (m4 hc)]
 refine bind (standAt (bind (mono h λv sA h₁=>?_)))
 obtain⟨rfl,h₁⟩:=h₁
 rw[dropValue_plain (λa z=>by injection z)]
 exact pure h₁
theorem execsCons{st rest}(h:aD M A (exec st env) (λf s'=>match f with| .next=>aD M A (execs rest env) Q s'|f=>Q f s') s):aD M A (execs (st::rest) env) Q s:=by
 rw[execs_cons]
 refine bind (mono h λf sA h₁=>?_)
 rcases f<;>first|exact h₁|exact pure h₁
theorem runOwn(h:bE M A c Q s):aD M A (PySem.runOwn c env) Q s:=by
 exact onRaise (run h)
theorem WhileS{t b o pos}(h:bE M A (.whileLoop t b o env) Q s):aD M A (exec (.While t b o pos) env) Q s:=by
 rw[exec_While]
 exact bind (standAt (runOwn h))
theorem ForS{t i b o pos}(hf:eU i=false)(h:aD M A (eval i env) (λx sA=>aD M A (pyIter x) (λit sB=>bE M A (.forLoop t it b o env) Q sB) sA) s):aD M A (exec (.For t i b o pos) env) Q s:=by
 rw[exec_For]
 refine bind (standAt (bind (mono h λx sA h₁=>bind (of_eq (kU hf) (pure (bind (standAt ?_)))))))
 exact bind (holding (mono h₁ λit sB h₂=>runOwn h₂))
theorem AugS{x npos op e pos}(h:aD M A (loadName env x) (λold sA=>aD M A (eval e env) (λv sB=>aD M A (inplaceOp op old v) (λnew sC=>aD M A (storeName env x new) (λ_ s4=>Q .next s4) sC) sB) sA) s):
  aD M A (exec (.AugAssign (.Name x npos) op e pos) env) Q s:=by
 rw[exec_AugAssign_Name]
 exact bind (standAt (bind (mono h λold sA h₁=>bind (holding (mono h₁ λv sB h₂=>bind (standAt (bind (operating (mono h₂ λnew sC h₃=>bind (standAt (bind (bindName (mono h₃ λ_ s4 h₄=>pure h₄)))))))))))))
theorem AssignS{t e pos}(hc:iA e=false)
  (h:aD M A (eval e env) (λv sA=>aD M A (swappedStores [t] e env) (λsw sB=>aD M A (assignStores env v sw ((assignEach [t] env).map (·.2))) Q sB) sA) s):aD M A (exec (.Assign [t] e pos) env) Q s:=by
 rw[arm_exec_Assign]
 refine bind (standAt (bind (of_eq (m4 hc) (pure ?_))))
 exact bind (mono h λv sA h₁=>bind h₁)
theorem assignName{x pos v}(h:aD M A (storeName env x v) Q s):aD M A (assign (.Name x pos) env v) Q s:=by
 rw[arm_assign_Name]
 exact bind (standAt (bindName h))
theorem assignAttr{o x pos v}(h:aD M A (eval o env) (λa sA=>aD M A (setAttr a x v) Q sA) s):aD M A (assign (.Attribute o x pos) env v) Q s:=by
 rw[arm_assign_Attribute]
 exact bind (holding (mono h λa sA h₁=>bind (standAt (bind (holding (mono h₁ λ_ sB h₂=>release h₂))))))
theorem assignSub{o i pos v}(h:aD M A (eval o env) (λa sA=>aD M A (eval i env) (λj sB=>aD M A (setItem a j v) Q sB) sA) s):aD M A (assign (.Subscript o i pos) env v) Q s:=by
 rw[arm_assign_Subscript]
 exact bind (holding (mono h λa sA h₁=>bind (holding (mono h₁ λj sB h₂=>bind (standAt (bind (holding (mono h₂ λ_ sC h₃=>release h₃))))))))
theorem stores_none{v t}(hs:jA t=false)(h:aD M A (assign t env v) (λ_ sA=>Q .next sA) s):aD M A (assignStores env v none ((assignEach [t] env).map (·.2))) Q s:=by
 rw[eV hs]
 exact bind (mono (show aD M A (assign t env v) _ s from h) λ_ sA h₁=>pure h₁)
end
end G
end Mine
end
section
open PySem PySem.W PyProof.Rows
open PySem.Sem (wp)
namespace Mine
namespace G
section
variable {prog:Program}{w:World}{A:Around}{R:Flow->Shared->Prop}{s:Shared}
theorem codeFunc{body env}(h:aD (model prog w) (A.deeper env) (execs body env) (λf s'=>R (.ret (match f with| .ret v=>v|_=>.none)) s') s):bE (model prog w) A (.func body env) R s:=by
 refine codeTree rfl ?_
 show aD _ (A.deeper env) (do PySem.point;match<-(execs body env).onRaise (leaving env)with| .ret v=>ret v|_=>ret .none) _ s
 refine bind (point (bind (onRaise (mono h (λf s' h'=>?_)))))
 rcases f<;>exact pure h'
theorem codeBlock(h:aD (model prog w) A (execs stmts env) R s):bE (model prog w) A (.block stmts env) R s:=by
 refine codeTree rfl ?_
 show aD _ _ (do return Fin.done (<-(execs stmts env).onRaise (λx=>do noteFrame x env;theTreesLotGoes x))) _ s
 exact bind (onRaise (mono h λf s' h'=>pure h'))
theorem BJ(ok:IW c=true)(hq:c.quiet=true)(I:Nat->Shared->Prop)
  (turn:∀n s,I n s->aD (model prog w) (A.under c) ((model prog w).den c) (λfin s'=>match fin with| .done f=>R f s'| .again c'=>(c'=c/\∃m,m<n/\I m s')\/(c'.quiet=true/\bE (model prog w) A c' R s')) s)
  (n:Nat) (h:I n s):bE (model prog w) A c R s:=by
 induction n using Nat.strongRecOn generalizing s with
 |ind n ih=>
   refine codeTree ok (mono (turn n s h) (λfin s' hf=>?_))
   induction fin using PySem.Fin.casesOn with
   |done f=>exact hf
   |again c'=>
     rcases hf with⟨rfl,m,hm,hI⟩|hf
     ·exact⟨hq,ih m hm hI⟩
     ·exact hf
theorem codeWhile{test body env}(I:Nat->Shared->Prop)
  (turn:∀n s,I n s->aD (model prog w) A (isTrue test env (eval test env)) (λb sB=>match b with
        |true=>aD (model prog w) A (execs body env) (λf sC=>match f with
          | .next| .cont=>∃m,m<n/\I m sC
          | .brk=>R .next sC
          | .ret v=>R (.ret v) sC) sB
        |false=>R .next sB) s)
  (n:Nat) (h:I n s):bE (model prog w) A (.whileLoop test body [] env) R s:=by
 refine vK rfl rfl I (λn s hI=>?_) n h
 show aD _ A ((whileTurn test body [] env).onRaise (λx=>do noteFrame x env;theTreesLotGoes x)) _ s
 refine onRaise ?_
 refine bind (mono (turn n s hI) (λb sB h₂=>?_))
 induction b using Bool.casesOn with
 |false=>
   exact bind (pure (pure h₂))
 |true=>
   refine bind (mono h₂ (λf sC h₃=>?_))
   induction f using PySem.Flow.casesOn with
   |next=>exact pure ⟨rfl,h₃⟩
   |cont=>exact pure ⟨rfl,h₃⟩
   |brk=>exact pure h₃
   |ret v=>exact pure h₃
theorem codeFor{target it body env}(I:Nat->Shared->Prop)
  (turn:∀n s,I n s->aD (model prog w) A (pyNext it) (λr sA=>match r with
   |none=>R .next sA
   |some v=>aD (model prog w) A (letOwnedTupleGo target it v) (λ_ sA=>aD (model prog w) A (assign target env v) (λ_ sB=>aD (model prog w) A (execs body env) (λf sC=>match f with
    | .next| .cont=>∃m,m<n/\I m sC
    | .brk=>R .next sC
    | .ret v=>R (.ret v) sC) sB) sA) sA) s)
  (n:Nat) (h:I n s):bE (model prog w) A (.forLoop target it body [] env) R s:=by
 refine BJ rfl rfl I (λn s hI=>?_) n h
 show aD _ _ ((forTurn target it body [] env).onRaise (λx=>do noteFrame x env;theTreesLotGoes x)) _ s
 refine onRaise ?_
 refine bind (standAt (bind (onRaise (mono (turn n s hI) (λr sA h₁=>?_)))))
 induction r using Option.casesOn with
 |none=>exact pure (.inr ⟨rfl,codeBlock (pure h₁)⟩)
 |some v=>
   refine bind (mono h₁ λ_ sA h₁=>?_)
   refine bind (mono h₁ (λ_ sB h₂=>bind (mono h₂ (λf sC h₃=>?_))))
   induction f using PySem.Flow.casesOn with
   |next=>exact pure (.inl ⟨rfl,h₃⟩)
   |cont=>exact pure (.inl ⟨rfl,h₃⟩)
   |brk=>exact pure h₃
   |ret v=>exact pure h₃
theorem codeCompStart{elt target iter ifs scope pos it acc env}
  (h0:bE (model prog w) A (.compLoop (.ListComp elt [⟨target,iter,ifs,0⟩] scope pos) 0 it acc env) R s)
  (h:aD (model prog w) A (pyIter it) (λit' s'=>it'=it/\bE (model prog w) A (.compLoop (.ListComp elt [⟨target,iter,ifs,0⟩] scope pos) 0 it acc env) R s') s):
  bE (model prog w) A (.compStart (.ListComp elt [⟨target,iter,ifs,0⟩] scope pos) 0 it acc env) R s:=by
 refine codeTree rfl ?_
 show aD _ _ ((compStart (.ListComp elt [⟨target,iter,ifs,0⟩] scope pos) 0 it acc env).onRaise (λx=>do noteFrame x env;PySem.standAt theWindowsPlace)) _ s
 refine onRaise ?_
 show aD _ _ (ask >>= _) _ s
 refine bind (leaf (wpAny_askSetting ?_))
 refine ite ?_
 split
 ·exact pure ⟨rfl,h0⟩
 ·refine bind (rule ?_)
  show aD _ _ (PySem.standAt iter.pos >>= _) _ s
  refine bind (standAt (bind (mono h λit' s' h'=>?_)))
  obtain⟨rfl,h'⟩:=h'
  exact pure ⟨rfl,h'⟩
noncomputable abbrev testsT (ifs:List Expr) (ok:Bool) (env:Env):Sem Bool:=forIn ifs ok λc r=>if r=true then do let ok <-isTrue c env (eval c env);Pure.pure (ForInStep.yield ok)else Pure.pure (ForInStep.yield r)
theorem mQ(h:Q false s):∀(l:List Expr),aD (model prog w) A (testsT l false env) Q s
 | []=>by unfold testsT;rw[List.forIn_nil];exact pure h
 |c::l=>by
   delta testsT
   rw[List.forIn_cons]
   exact bind (pure (mQ h l))
theorem tests_cons(h:aD (model prog w) A (isTrue c env (eval c env)) (λb sA=>match b with|true=>aD (model prog w) A (testsT l true env) Q sA|false=>Q false sA) s):
  aD (model prog w) A (testsT (c::l) true env) Q s:=by
 delta testsT
 rw[List.forIn_cons]
 refine bind (bind (mono h λb sA h₁=>pure ?_))
 induction b using Bool.casesOn with
 |true=>exact h₁
 |false=>exact mQ h₁ l
theorem codeCompLoop{x px}(I:Nat->Shared->Prop)
  (turn:∀n s,I n s->aD (model prog w) A (pyNext it) (λr sA=>match r with
   |none=>R .next sA
   |some v=>aD (model prog w) A (assign (.Name x px) env v) (λ_ sB=>
    aD (model prog w) A (testsT ifs true env) (λok sC=>match ok with
     |true=>aD (model prog w) A (eval elt env) (λx s4=>aD (model prog w) A (PySem.call (.builtin "list.append") [acc,x]) (λ_ sE=>∃m,m<n/\I m sE) s4) sC
     |false=>∃m,m<n/\I m sC) sB) sA) s)
  (n:Nat) (h:I n s):bE (model prog w) A (.compLoop (.ListComp elt [⟨.Name x px,iter,ifs,0⟩] scope pos) 0 it acc env) R s:=by
 refine vK rfl rfl I (λn s hI=>?_) n h
 show aD _ A ((compTurn (.ListComp elt [⟨.Name x px,iter,ifs,0⟩] scope pos) 0 it acc env).onRaise (λx=>do noteFrame x env;theTreesLotGoes x)) _ s
 refine onRaise ?_
 rw[compTurn_list]
 refine bind (standAt (bind (mono (turn n s hI) (λr sA h₁=>?_))))
 induction r using Option.casesOn with
 |none=>exact pure h₁
 |some v=>
   refine bind (of_eq (t':=Pure.pure ()) rfl (pure ?_))
   refine bind (mono h₁ (λ_ sB h₂=>bind (mono h₂ (λok sC h₃=>?_))))
   induction ok using Bool.casesOn with
   |false=>exact pure ⟨rfl,h₃⟩
   |true=>
     exact bind (bind (mono h₃ (λx s4 h₄=>bind (mono h₄ (λ_ sE hE=>pure (pure ⟨rfl,hE⟩))))))
end
end G
end Mine
end
section
open PySem PySem.W PyProof.Rows
open PySem.Sem (wp)
namespace Mine
theorem cP:(putL x d rho).lookup y=if y=x then some d else rho.lookup y:=by
 induction rho with
 |nil=>
   show(match y==x with|true=>some d|false=>none)=if y=x then some d else none
   by_cases h:y=x
   ·rw[if_pos h,beq_iff_eq.mpr h]
   ·rw[if_neg h,beq_false_of_ne h]
 |cons p r ih=>
   show List.lookup y (match p.1==x with|true=>(p.1,d)::r|false=>(p.1,p.2)::putL x d r)=if y=x then some d else List.lookup y ((p.1,p.2)::r)
   rcases hz:p.1==x
   ·show(match y==p.1 with|true=>some p.2|false=>List.lookup y (putL x d r))=if y=x then some d else(match y==p.1 with|true=>some p.2|false=>List.lookup y r)
    rw[ih]
    rcases hy:y==p.1
    ·rfl
    ·exact(if_neg λe=>mN ((beq_iff_eq.mpr ((eq_of_beq hy).symm.trans e)).symm.trans hz)).symm
   ·have hz:=eq_of_beq hz
    show(match y==p.1 with|true=>some d|false=>List.lookup y r)=if y=x then some d else(match y==p.1 with|true=>some p.2|false=>List.lookup y r)
    rcases hy:y==p.1
    ·exact(if_neg λe=>mN ((beq_iff_eq.mpr (e.trans hz.symm)).symm.trans hy)).symm
    ·exact(if_pos ((eq_of_beq hy).trans hz)).symm
structure Base (w:World) (hO:Heap):Prop where
 own:LJ w hO
 top:∃mg mb,TopRead q (looseW q eW) mg mb hO
 lt:mainGlobals<hO.objs.size
structure cJ (w:World) (N:Addr->Prop) (μ:List P2) (h:Heap) (env:Env) (c:Cx):Prop where
 kind:env.scope.kind= .function
 g:env.globals=mainGlobals
 bi:env.builtins=builtinsNs
 ok:tV c.sc=true
 kof:∀x k,c.sc.names.lookup x=some k->env.kindOf x=some (if k= .free then .cell else k)
 nl:N env.locals
 loc:∃m,h.Ns env.locals m/\∀x d,c.sc.names.lookup x=some .local->c.rho.lookup x=some d->∃v,m x=some v/\VR w N μ h d v
 cell:∀x,c.sc.names.lookup x=some .cell->∃a o,env.cells.lookup x=some a/\h.IsCell a o/\∀d,c.rho.lookup x=some d->∃v,o=some v/\VR w N μ h d v
 free:∀x d,c.sc.names.lookup x=some .free->c.out.lookup x=some d->∃a v,env.cells.lookup x=some a/\h.IsCell a (some v)/\VR w N μ h d v
 nc:∀p∈env.cells,N p.2/\p.2≠env.locals
 apart:∀x y a,c.sc.names.lookup x=some .cell->env.cells.lookup x=some a->env.cells.lookup y=some a->y=x
section
variable {w:World}{hO:Heap}{N:Addr->Prop}{μ:List P2}{H:Hp}{s:Shared}{env:Env}{c:Cx}
theorem yF{sc:Scope}(h:tV sc=true){x:Str}{k:NameKind}(e:sc.names.lookup x=some k):x≠"__debug__"/\x≠"__classdict__"/\(k= .local\/k= .cell\/k= .free\/k= .globalImplicit):=by
 have a:=cS (List.all_eq_true.mp (cS h).2 _ (mem_of_lookup e))
 have b:=cS (cS a.1).1
 refine⟨bne_iff_ne.mp b.1,bne_iff_ne.mp b.2,?_⟩
 rcases Bool.or_eq_true_iff.mp a.2 with d|d
 ·rcases Bool.or_eq_true_iff.mp d with d|d
  ·rcases Bool.or_eq_true_iff.mp d with d|d
   ·exact .inl (eq_of_beq d)
   ·exact .inr (.inl (eq_of_beq d))
  ·exact .inr (.inr (.inl (eq_of_beq d)))
 ·exact .inr (.inr (.inr (eq_of_beq d)))
theorem i9(h:tV sc=true):sc.kind= .function/\sc.isGenerator=false/\sc.isCoroutine=false:=by
 delta tV at h
 simp only[Bool.and_eq_true,beq_iff_eq,Bool.not_eq_true']at h
 exact⟨h.1.1.1,h.1.1.2,h.1.2⟩
theorem IB(h:tV sc=true)(e:p∈sc.names):sc.names.lookup p.1=some p.2:=by
 obtain⟨_,h⟩:=Bool.and_eq_true_iff.mp h
 have:=List.all_eq_true.mp h _ e
 simp only[Bool.and_eq_true,Bool.or_eq_true,bne_iff_ne,beq_iff_eq]at this
 exact this.1.2
theorem cJ.keep(F:cJ w N μ h env c)(U:Up N μ h N' μ' h')(hN:∀a,N a->N' a)(hk:∀a o,N a->h.get? a=some o->h'.get? a=some o):cJ w N' μ' h' env c:=by
 refine⟨F.kind,F.g,F.bi,F.ok,F.kof,hN _ F.nl,?_,λx hx=>?_,λx d hx hd=>?_,λp hp=>⟨hN _ (F.nc p hp).1,(F.nc p hp).2⟩,F.apart⟩
 ·refine aT F.loc λm hm hv=>?_
  refine⟨m,?_,λx d hx hd=>?_⟩
  ·obtain⟨o,es,ep,ho,r⟩:=hm
   exact⟨o,es,ep,hk _ _ F.nl ho,r⟩
  ·refine aT (hv x d hx hd) λv e r=>?_
   exact⟨v,e,aW U r⟩
 ·refine aE (F.cell x hx) λa o e o91 hv=>?_
  obtain⟨ob,ho,hd⟩:=o91
  refine⟨a,o,e,⟨ob,hk _ _ (F.nc _ (mem_of_lookup e)).1 ho,hd⟩,λd hd=>?_⟩
  refine aT (hv d hd) λv e r=>?_
  exact⟨v,e,aW U r⟩
 ·refine aE (F.free x d hx hd) λa v e o92 r=>?_
  obtain⟨ob,ho,hd'⟩:=o92
  exact⟨a,v,e,⟨ob,hk _ _ (F.nc _ (mem_of_lookup e)).1 ho,hd'⟩,aW U r⟩
theorem Std.not_own(S:Std w hO N μ H s)(h:N a):¬own μ a:=by
 rintro⟨p,hp,r⟩
 have:=S.hr.nn p hp
 rcases r with rfl|rfl
 ·exact this.1 h
 ·exact this.2 h
theorem cJ.ext(F:cJ w N μ s.heap env c)(S:Std w hO N μ H s)(X:Ext no μ s μ' s'):cJ w N μ' s'.heap env c:=
 F.keep (X.up (λ_ z=>z.elim)) (λ_ z=>z) λa o hn e=>X.keep a o (λz=>z) (S.not_own hn) e
theorem Std.frame(S:Std w hO N μ H s){t:Nat}(k:∀a o,¬N a->s.heap.get? a=some o->h'.get? a=some o)(z:∀a,s.heap.get? a≠none->h'.get? a≠none):Std w hO N μ H { s with heap:=h',toks:=t }:=by
 have U:Up N μ s.heap N μ h':=⟨λ_ _ e=>e,λ_ e=>.inl e,λ_ e=>.inl e,λa o n _ e=>k a o n e⟩
 refine⟨⟨S.hr.len,λn p d hp hd=>?_,S.hr.nn,S.hr.sep⟩,λa o e=>?_,S.low,λa q=>⟨(S.nlow a q).1,z a (S.nlow a q).2⟩⟩
 ·have hnn:=S.hr.nn p (List.mem_of_getElem? hp)
  exact fT U d p (λo=>k _ o hnn.1) (λo=>k _ o hnn.2) (S.hr.rel n p d hp hd)
 ·exact k _ _ (λq=>by rw[(S.nlow a q).1]at e;injection e) (S.base a o e)
noncomputable def gI (env:Env) (a:Addr):Prop:=a=env.locals\/∃p∈env.cells,a=p.2
theorem cJ.frN(F:cJ w N μ h env c)(x:gI env a):N a:=by
 rcases x with rfl|⟨p,hp,rfl⟩
 ·exact F.nl
 ·exact(F.nc p hp).1
theorem I2:((dE++d5).all λx=>(jO x).isSome)=true:=by kernel_rfl
theorem L8{P:MU}(hP:∀x,P.isGl x=true->x∈dE++d5){x:Str}(h:P.isGl x=true):∃v,jO x=some v:=
 Option.isSome_iff_exists.mp (List.all_eq_true.mp I2 x (hP x h))
theorem FK(x:Str)(h:aN.isGl x=true):x∈dE++d5:=by
 rw[List.mem_append]
 have:(dE.contains x||d5.contains x)=true:=h
 simpa using this
theorem G2{h:Heap}{a:Addr}{m:Str->Option Value}(n:h.Ns a m)(x:Str):h.nsMap a x=m x:=by
 refine fU n λoo es ep e1 e2 e3 e4=>?_
 clear n
 delta Heap.nsMap
 rw[e1]
 show(match oo.data with| .dict es _=>nsFind es x|_=>none)=_
 rw[e2]
 exact e4 _
noncomputable def RL (p:Str×Value):Bool:= !startupNames.contains p.1&& !(looseW q eW).contains p.1&& !((recsOf q).map (·.name)).contains p.1&& !((litsOf q).map (·.1)).contains p.1&& !((clssOf q (looseW q eW)).map (·.name)).contains p.1&&p.1 != "__name__"&&decide (bootBuiltins p.1=some p.2)
theorem RM:bO.all RL=true:=by kernel_rfl
theorem JA{x:Str}{v:Value}(h:RL (x,v)=true):x∉startupNames/\x∉looseW q eW/\x∉(recsOf q).map (·.name)/\x∉(litsOf q).map (·.1)/\x∉(clssOf q (looseW q eW)).map (·.name)/\x≠"__name__"/\bootBuiltins x=some v:=by
 have nm:∀{l:List Str},(!l.contains x)=true->x∉l:=λh m=>nE ((congrArg (!·) (List.contains_iff_mem.mpr m)).symm.trans h)
 obtain⟨h,a7⟩:=cS h
 obtain⟨h,a6⟩:=cS h
 obtain⟨h,a5⟩:=cS h
 obtain⟨h,a4⟩:=cS h
 obtain⟨h,a3⟩:=cS h
 obtain⟨a1,a2⟩:=cS h
 exact⟨nm a1,nm a2,nm a3,nm a4,nm a5,bne_iff_ne.mp a6,of_decide_eq_true a7⟩
theorem zP(e:jO x=some v):(∃en,tab.find? (·.name==x)=some en/\v= .ref en.addr)\/(∃k,gV.find? (·.name==x)=some k/\v= .ref k.addr)\/bO.lookup x=some v:=by
 delta jO at e
 rcases he:tab.find? (·.name==x)with _|en<;>rw[he]at e
 ·rcases ha:qN x with _|a<;>rw[ha]at e
  ·exact .inr (.inr e)
  ·exact aT (Option.map_eq_some_iff.mp ha) λk hk e9=>.inr (.inl ⟨k,hk,by rw[e9];exact(Option.some.inj e).symm⟩)
 ·exact .inl ⟨en,he,(Option.some.inj e).symm⟩
theorem Base.glob(B:Base w hO){x:Str}{v:Value}(e:jO x=some v):∃mg mb,hO.Ns mainGlobals mg/\hO.Ns builtinsNs mb/\(mg x=some v\/(mg x=none/\mb x=some v)):=by
 refine NW B.top λmg mb T=>⟨mg,mb,T.g,T.b,?_⟩
 rcases zP e with⟨en,he,rfl⟩|⟨k,hk,rfl⟩|e
 ·have:=(B.own.tab en (List.mem_of_find?_eq_some he)).1
  rw[G2 T.g,eq_of_beq (show(en.name==x)=true from List.find?_some (p:=λe:Ent=>e.name==x) he)]at this
  exact .inl this
 ·have:=(B.own.kls k (List.mem_of_find?_eq_some hk)).1
  rw[G2 T.g,eq_of_beq (show(k.name==x)=true from List.find?_some (p:=λe:FD=>e.name==x) hk)]at this
  exact .inl this
 ·obtain⟨a1,a2,a3,a4,a5,a6,a7⟩:=JA (List.all_eq_true.mp RM _ (mem_of_lookup e))
  exact .inr ⟨T.free x a1 a2 a3 a4 a5,(T.builtins x a6).trans a7⟩
variable {A:Around}{E:Value->Shared->Prop}{M:Model}
theorem pV(e:name aN c x=some d):(c.sc.names.lookup x=some .local/\c.rho.lookup x=some d)\/(c.sc.names.lookup x=some .cell/\c.rho.lookup x=some d)\/(c.sc.names.lookup x=some .free/\c.out.lookup x=some d)\/(c.sc.names.lookup x=some .globalImplicit/\aN.isGl x=true/\d= .glob x):=by
 delta name at e
 rcases hl:c.sc.names.lookup x with _|k<;>rw[hl]at e
 ·exact iK e
 ·induction k using NameKind.casesOn with
  |«local»=>exact .inl ⟨rfl,e⟩
  |cell=>exact .inr (.inl ⟨rfl,e⟩)
  |free=>exact .inr (.inr (.inl ⟨rfl,e⟩))
  |globalImplicit=>
    rcases hg:aN.isGl x<;>rw[hg]at e
    ·exact iK e
    ·exact .inr (.inr (.inr ⟨rfl,rfl,(Option.some.inj e).symm⟩))
  |_=>exact iK e
theorem AK(B:Base w hO)(S:Std w hO N μ H s)(F:cJ w N μ s.heap env c)(e:name aN c x=some d)(h:∀v,VR w N μ s.heap d v->Q v s):
  wpAny M A (loadName env x) Q E s:=by
 rcases pV e with⟨hl,e⟩|⟨hl,e⟩|⟨hl,e⟩|⟨hl,hg,rfl⟩
 ·exact aT F.loc λm hm hv=>aT (hv x d hl e) λv e1 r=>wpAny_loadName_local F.kind (F.kof _ _ hl) hm e1 (h v r)
 ·exact aE (F.cell x hl) λa o e1 e2 hv=>aT (hv d e) λv e9 r=>wpAny_loadName_cell F.kind (F.kof _ _ hl) e1 (e9▸e2) (h v r)
 ·exact aE (F.free x d hl e) λa v e1 e2 r=>wpAny_loadName_cell F.kind (F.kof _ _ hl) e1 e2 (h v r)
 ·obtain⟨v,hv⟩:=L8 FK hg
  refine aE (B.glob hv) λmg mb n1 n2 r=>?_
  rw[loadName_read F.kind (F.kof _ _ hl)]
  have n1:s.heap.Ns env.globals mg:=by rw[F.g];exact n1.keeps S.base
  have n2:s.heap.Ns env.builtins mb:=by rw[F.bi];exact n2.keeps S.base
  rcases r with r|⟨r1,r2⟩
  ·exact Calls.loadGlobal_global n1 r (h v (.inl hv))
  ·exact Calls.loadGlobal_builtin n1 r1 n2 r2 (h v (.inl hv))
theorem FJ(F:cJ w N μ s.heap env c){x:Str}{d:V}(e:name aN c x=some d):(x==("__debug__":Str))=false:=by
 have k:∀{k},c.sc.names.lookup x=some k->(x==("__debug__":Str))=false:=λhk=>beq_false_of_ne (yF F.ok hk).1
 rcases pV e with⟨hl,e⟩|⟨hl,e⟩|⟨hl,e⟩|⟨hl,hg,rfl⟩<;>exact k hl
theorem pW{h:Heap}{a:Addr}{m:Str->Option Value}(n:h.Ns a m):h.get? a≠none:=by
 obtain⟨o,_,_,e,_⟩:=n;rw[e];simp
theorem pU{h:Heap}{a:Addr}{m:Option Value}(n:h.IsCell a m):h.get? a≠none:=by
 refine aT n λo e _=>?_;clear n;rw[e];simp
structure Slots (w:World) (N:Addr->Prop) (μ:List P2) (h h':Heap) (env:Env) (sc:Scope) (rho out:aR):Prop where
 loc:∃m,h'.Ns env.locals m/\∀y d',sc.names.lookup y=some .local->rho.lookup y=some d'->∃v,m y=some v/\VR w N μ h d' v
 cell:∀y,sc.names.lookup y=some .cell->∃a o,env.cells.lookup y=some a/\h'.IsCell a o/\∀d',rho.lookup y=some d'->∃v,o=some v/\VR w N μ h d' v
 free:∀y d',sc.names.lookup y=some .free->out.lookup y=some d'->∃a v,env.cells.lookup y=some a/\h'.IsCell a (some v)/\VR w N μ h d' v
inductive R7 (w:World) (hO:Heap) (N:Addr->Prop) (μ:List P2) (H:Hp) (s:Shared) (env:Env) (c:Cx) (x:Str) (d:V) (s':Shared):Prop
 |mk (b:Addr) (hb:gI env b) (hloc:c.sc.names.lookup x=some .local->b=env.locals) (S:Std w hO N μ H s') (X:Ext (· =b) μ s μ s') (F:cJ w N μ s'.heap env ⟨c.sc,putL x d c.rho,c.out⟩)
theorem AG(S:Std w hO N μ H s)(F:cJ w N μ s.heap env c){t:Nat}(hb:gI env b)(hloc:c.sc.names.lookup x=some .local->b=env.locals)(sb:Heap.SameBut b s.heap h')(al:h'.get? b≠none)
  (f:Slots w N μ s.heap h' env c.sc (putL x d c.rho) c.out):R7 w hO N μ H s env c x d { s with heap:=h',toks:=t }:=by
 obtain⟨f1,f2,f3⟩:=f
 have k:∀a o,¬N a->s.heap.get? a=some o->h'.get? a=some o:=λa o hn e=>(sb.2 a (λz=>hn (z▸F.frN hb))).trans e
 have U:Up N μ s.heap N μ h':=⟨λ_ _ e=>e,λ_ e=>.inl e,λ_ e=>.inl e,λa o n _ e=>k a o n e⟩
 have alv:∀a,s.heap.get? a≠none->h'.get? a≠none:=λa q=>by
  by_cases hab:a=b
  ·rw[hab];exact al
  ·rw[sb.2 a hab];exact q
 refine⟨b,hb,hloc,S.frame k alv,⟨⟨h',t,rfl⟩,⟨[],by simp⟩,λ_ q=>.inl q,λa o hf _ e=>(sb.2 a hf).trans e,alv⟩,⟨F.kind,F.g,F.bi,F.ok,F.kof,F.nl,?_,λy hy=>?_,λy d' hy hd=>?_,F.nc,F.apart⟩⟩
 ·refine aT f1 λm hm hv=>?_
  clear f1
  refine⟨m,hm,λy d' hy hd=>?_⟩
  refine aT (hv y d' hy hd) λv e r=>?_
  exact⟨v,e,aW U r⟩
 ·refine aE (f2 y hy) λa o e hc hv=>?_
  refine⟨a,o,e,hc,λd' hd=>?_⟩
  refine aT (hv d' hd) λv e r=>?_
  exact⟨v,e,aW U r⟩
 ·refine aE (f3 y d' hy hd) λa v e hc r=>?_
  exact⟨a,v,e,hc,aW U r⟩
theorem wG(F:cJ w N μ s.heap env c){x:Str}{d:V}{v:Value}{h':Heap}(hx:c.sc.names.lookup x=some .local)(r:VR w N μ s.heap d v){m:Str->Option Value}(hn:h'.Ns env.locals λn=>if n=x then some v else m n)(sb:Heap.SameBut env.locals s.heap h')
  (hv:∀y d',c.sc.names.lookup y=some .local->c.rho.lookup y=some d'->∃v,m y=some v/\VR w N μ s.heap d' v):Slots w N μ s.heap h' env c.sc (putL x d c.rho) c.out:=by
 refine⟨⟨_,hn,λy d' hy hd=>?_⟩,λy hy=>?_,λy d' hy hd=>?_⟩
 ·rw[cP]at hd
  by_cases hyx:y=x
  ·rw[if_pos hyx]at hd ⊢
   cases hd
   exact⟨v,rfl,r⟩
  ·rw[if_neg hyx]at hd ⊢
   exact hv y d' hy hd
 ·refine aE (F.cell y hy) λa o e hc hv=>?_
  refine⟨a,o,e,hc.sameBut sb (F.nc _ (mem_of_lookup e)).2,λd' hd=>?_⟩
  rw[cP,if_neg (by rintro rfl;rw[hx]at hy;exact(nomatch hy))]at hd
  exact hv d' hd
 ·refine aE (F.free y d' hy hd) λa v e hc r=>?_
  exact⟨a,v,e,hc.sameBut sb (F.nc _ (mem_of_lookup e)).2,r⟩
theorem xO(F:cJ w N μ s.heap env c)(hx:c.sc.names.lookup x=some .cell)(r:VR w N μ s.heap d v)(e:env.cells.lookup x=some a)(hc':h'.IsCell a (some v))(sb:Heap.SameBut a s.heap h'):Slots w N μ s.heap h' env c.sc (putL x d c.rho) c.out:=by
 have ha:=F.nc _ (mem_of_lookup e)
 refine⟨?_,λy hy=>?_,λy d' hy hd=>?_⟩
 ·refine aT F.loc λm hm hv=>?_
  refine⟨m,hm.sameBut sb (Ne.symm ha.2),λy d' hy hd=>?_⟩
  rw[cP,if_neg (by rintro rfl;rw[hx]at hy;cases hy)]at hd
  exact hv y d' hy hd
 ·by_cases hyx:y=x
  ·subst hyx
   refine⟨a,some v,e,hc',λd' hd=>?_⟩
   rw[cP,if_pos rfl]at hd
   cases hd
   exact⟨v,rfl,r⟩
  ·refine aE (F.cell y hy) λb o e2 hc2 hv=>?_
   refine⟨b,o,e2,hc2.sameBut sb (λz=>hyx (F.apart x y a hx e (z▸e2))),λd' hd=>?_⟩
   rw[cP,if_neg hyx]at hd
   exact hv d' hd
 ·refine aE (F.free y d' hy hd) λb v e2 hc2 r=>?_
  exact⟨b,v,e2,hc2.sameBut sb (λz=>by have:=F.apart x y a hx e (z▸e2);subst this;rw[hx]at hy;exact(nomatch hy)),r⟩
theorem oF(S:Std w hO N μ H s)(F:cJ w N μ s.heap env c){x:Str}{d:V}{v:Value}(hx:c.sc.names.lookup x=some .local\/c.sc.names.lookup x=some .cell)(r:VR w N μ s.heap d v){Q:Unit->Shared->Prop}
  (h:∀b s',gI env b->(c.sc.names.lookup x=some .local->b=env.locals)->Std w hO N μ H s'->Ext (· =b) μ s μ s'->cJ w N μ s'.heap env ⟨c.sc,putL x d c.rho,c.out⟩->Q () s'):wpAny M A (storeName env x v) Q E s:=by
 have fin:∀s',R7 w hO N μ H s env c x d s'->Q () s':=λs' ⟨b,hb,hloc,S,X,F⟩=>h b s' hb hloc S X F
 clear h
 rcases hx with hx|hx
 ·refine aT F.loc λm hm hv=>?_
  exact wpAny_storeName_local (F.kof _ _ hx) hm (λh' hn sb=>fin _ (AG S F (.inl rfl) (λ_=>rfl) sb (pW hn) (wG F hx r hn sb hv))) (by rw[F.kind];rfl)
 ·refine aE (F.cell x hx) λa o e hc hv=>?_
  exact wpAny_storeName_cell F.kind (F.kof _ _ hx) e hc λh' hc' sb=>fin _ (AG S F (.inr ⟨_,mem_of_lookup e,rfl⟩) (λz=>by rw[hx]at z;exact(nomatch z)) sb (pU hc') (xO F hx r e hc' sb))
theorem kY(S:Std w hO N μ H s)(F:cJ w N μ s.heap env c)(hx:c.sc.names.lookup x=some .local\/c.sc.names.lookup x=some .cell)(r:VR w N μ s.heap d v)
  (h:∀s',Std w hO N μ H s'->Ext (gI env) μ s μ s'->cJ w N μ s'.heap env ⟨c.sc,putL x d c.rho,c.out⟩->Q () s'):wpAny M A (storeName env x v) Q E s:=
 oF S F hx r λb s' hb _ S' X F'=>h s' S' (X.more λa q=>q▸hb) F'
theorem cJ.sub(F:cJ w N μ h env c)(k:∀y d,rho.lookup y=some d->c.rho.lookup y=some d):cJ w N μ h env ⟨c.sc,rho,c.out⟩:=by
 refine⟨F.kind,F.g,F.bi,F.ok,F.kof,F.nl,?_,λx hx=>?_,F.free,F.nc,F.apart⟩
 ·refine aT F.loc λm hm hv=>?_
  exact⟨m,hm,λx d hx hd=>hv x d hx (k x d hd)⟩
 ·refine aE (F.cell x hx) λa o e hc hv=>?_
  exact⟨a,o,e,hc,λd hd=>hv d (k x d hd)⟩
end
end Mine
end
section
namespace Mine.BF
open PySem
theorem owner:Manifest.owners.lookup (String.ofList ['y','a','r','r','a','e','t','y','b'].reverse)=some Manifest.sig_bytearray:=by kernel_rfl
theorem slot_len:Slot "bytearray" "__len__" "bytearray.__len__":=
 .of (owner:="bytearray") (n:="__len__") (by rw[typeLookup_type,builtinLookup_eq_fast];kernel_rfl) (by decide+kernel) (by decide+kernel) (by decide+kernel)
  (by first|exact .inl (by decide+kernel)|exact .inr (by decide+kernel)) (by rw[isSubtype_type];kernel_rfl)
theorem entry_len:entryFor table "bytearray.__len__"=some Builtin.«bytearray.__len__»:=entryFor_of_tree (by kernel_rfl)
theorem args_len(a:Value):argsOk "bytearray.__len__" ⟨[a],[]⟩:=by
 unfold argsOk;rw[signature?_of (id:="bytearray.__len__") (n:=['_','_','n','e','l','_','_']) (o:=['y','a','r','r','a','e','t','y','b']) (by kernel_rfl) owner];kernel_rfl
theorem slot_getitem:Slot "bytearray" "__getitem__" "bytearray.__getitem__":=
 .of (owner:="bytearray") (n:="__getitem__") (by rw[typeLookup_type,builtinLookup_eq_fast];kernel_rfl) (by decide+kernel) (by decide+kernel) (by decide+kernel)
  (by first|exact .inl (by decide+kernel)|exact .inr (by decide+kernel)) (by rw[isSubtype_type];kernel_rfl)
theorem entry_getitem:entryFor table "bytearray.__getitem__"=some Builtin.«bytearray.__getitem__»:=entryFor_of_tree (by kernel_rfl)
theorem args_getitem(a b:Value):argsOk "bytearray.__getitem__" ⟨[a,b],[]⟩:=by
 unfold argsOk;rw[signature?_of (id:="bytearray.__getitem__") (n:=['_','_','m','e','t','i','t','e','g','_','_']) (o:=['y','a','r','r','a','e','t','y','b']) (by kernel_rfl) owner];kernel_rfl
theorem slot_setitem:Slot "bytearray" "__setitem__" "bytearray.__setitem__":=
 .of (owner:="bytearray") (n:="__setitem__") (by rw[typeLookup_type,builtinLookup_eq_fast];kernel_rfl) (by decide+kernel) (by decide+kernel) (by decide+kernel)
  (by first|exact .inl (by decide+kernel)|exact .inr (by decide+kernel)) (by rw[isSubtype_type];kernel_rfl)
theorem entry_setitem:entryFor table "bytearray.__setitem__"=some Builtin.«bytearray.__setitem__»:=entryFor_of_tree (by kernel_rfl)
theorem args_setitem(a b c:Value):argsOk "bytearray.__setitem__" ⟨[a,b,c],[]⟩:=by
 unfold argsOk;rw[signature?_of (id:="bytearray.__setitem__") (n:=['_','_','m','e','t','i','t','e','s','_','_']) (o:=['y','a','r','r','a','e','t','y','b']) (by kernel_rfl) owner];kernel_rfl
theorem rL:Slot "bytearray" "__iter__" "bytearray.__iter__":=
 .of (owner:="bytearray") (n:="__iter__") (by rw[typeLookup_type,builtinLookup_eq_fast];kernel_rfl) (by decide+kernel) (by decide+kernel) (by decide+kernel)
  (by first|exact .inl (by decide+kernel)|exact .inr (by decide+kernel)) (by rw[isSubtype_type];kernel_rfl)
theorem w7:entryFor table "bytearray.__iter__"=some Builtin.«bytearray.__iter__»:=entryFor_of_tree (by kernel_rfl)
theorem BH(a:Value):argsOk "bytearray.__iter__" ⟨[a],[]⟩:=by
 unfold argsOk;rw[signature?_of (id:="bytearray.__iter__") (n:=['_','_','r','e','t','i','_','_']) (o:=['y','a','r','r','a','e','t','y','b']) (by kernel_rfl) owner];kernel_rfl
theorem rV:Slot "bytearray" "__init__" "bytearray.__init__":=
 .of (owner:="bytearray") (n:="__init__") (by rw[typeLookup_type,builtinLookup_eq_fast];kernel_rfl) (by decide+kernel) (by decide+kernel) (by decide+kernel)
  (by first|exact .inl (by decide+kernel)|exact .inr (by decide+kernel)) (by rw[isSubtype_type];kernel_rfl)
theorem zA:entryFor table "bytearray.__init__"=some Builtin.«bytearray.__init__»:=entryFor_of_tree (by kernel_rfl)
end Mine.BF
end
section
namespace Mine.BF
open PySem
open PySem.Sem (wp)
theorem mro:mroOf (.type "bytearray")=pure [.type "bytearray",.type "object"]:=by rw[mroOf_type];kernel_rfl
theorem xK:typeLookup (.type "bytearray") "__new__"=pure (some (.builtin "bytearray.__new__")):=by rw[typeLookup_type,builtinLookup_eq_fast];kernel_rfl
theorem called:TypeCalled "bytearray" "bytearray.__new__" "bytearray.__init__":=
 ⟨by decide+kernel,by decide+kernel,⟨_,_,mro⟩,madeBy_type mro xK (by decide+kernel),by decide+kernel,by rw[isSubtype_type];kernel_rfl,rV⟩
theorem yP(a:Value):checkTypeCall "bytearray" ⟨[a],[]⟩=pure ():=by kernel_rfl
theorem BM(a:Value):checkBuiltinCall "bytearray.__new__" ⟨[.type "bytearray",a],[]⟩=pure ():=by kernel_rfl
theorem BW:entryFor table "bytearray.__new__"=some Builtin.«list.__new__»:=entryFor_alias (id':="list.__new__") (by decide+kernel) (by decide+kernel) (by decide+kernel) (by kernel_rfl)
theorem q7:plainId "bytearray.__new__"=true:=by decide+kernel
theorem sub_self:isSubtype (.type "bytearray") (.type "bytearray")=pure true:=by rw[isSubtype_type];kernel_rfl
theorem vA(a b:Value):argsOk "bytearray.__init__" ⟨[a,b],[]⟩:=by
 unfold argsOk;rw[signature?_of (id:="bytearray.__init__") (n:=['_','_','t','i','n','i','_','_']) (o:=['y','a','r','r','a','e','t','y','b']) (by kernel_rfl) owner];kernel_rfl
set_option maxRecDepth 1000000 in
set_option maxHeartbeats 4000000 in
theorem CT:("bytearray.__new__".splitOn ".__new__").headD ""="bytearray":=by simp+decide [String.splitOn,String.splitOnAux]
section
variable {prog:Program}{w:World}{A:Around}{E:Value->Shared->Prop}{s:Shared}
theorem EE(a:Value)
  (h:Q₁ (.ref s.heap.objs.size) { s with heap:=s.heap.push { cls:=.type "bytearray",data:=.bytearray #[] } }):
  codeAny (model prog w) A (.call (.builtin "bytearray.__new__") ⟨[.type "bytearray",a],[]⟩) (wants Q₁ E) s:=by
 refine codeAny_of_tree ?_
 show wpAny _ A.in1 (do checkBuiltinCall "bytearray.__new__" ⟨[.type "bytearray",a],[]⟩;again (.builtin "bytearray.__new__" ⟨[.type "bytearray",a],[]⟩)) _ _ s
 refine wpAny_bind (wpAny_of_eq (BM a) (wpAny_pure ⟨plainId_quiet q7 _,codeAny_builtin_stack BW rfl λp st=>?_⟩))
 rw[Around.under_plainId q7 _]
 have hsub:=sub_self
 have hown:=CT
 obtain⟨hp,g,d,tk,os⟩:=s
 simp only[hown]
 wp_walk
 exact h
end
end Mine.BF
end
section
namespace Mine
open PySem
open PySem.Sem (wp)
namespace BF
theorem typeIs{s:Shared}{a:Addr}{b:Array UInt8}(h:s.heap.get? a=some { cls:=.type "bytearray",data:=.bytearray b 0 }):s.TypeIs (.ref a) "bytearray":=⟨_,h,rfl⟩
section
variable {M:Model}{A:Around}{s:Shared}
theorem OX{id:String}{args:Args}(h:lX.contains id=true):¬IW (.builtin id args)=true:=by
 show ¬(!lX.contains id)=true
 rw[h];decide
theorem RD(o:JQ Γ)(f:Code×Pos->Bool)(k:∀c:Code×Pos,IW c.1=true->f c=false):((Γ.code,p)::Γ.below).any f=false:=by
 rw[List.any_eq_false]
 intro x hx
 rw[Bool.not_eq_true]
 refine k x ?_
 rcases List.mem_cons.mp hx with rfl|hx
 ·exact o.1
 ·exact o.2 x hx
set_option tactic.hygienic true in
theorem wA(h:Q false s):aD M A (Builtin.Bytes.exported (.ref a)) Q s:=λΓ p hΓ o=>by
 delta Builtin.Bytes.exported
 rw[Sem.wp_bind']
 delta stack
 rw[Sem.wp_stack]
 refine(congrArg (λb=>Q b s) (RD o _ ?_)).mpr h
 rintro⟨c,p⟩ hc
 rcases c
 case builtin id args=>
  have n:∀x,lX.contains x=true->id≠x:=λx h e=>OX h (e▸hc)
  delta Builtin.Bytes.exported.match_1
  show(if h:id=_ then _ else _)=false
  rw[dif_neg (n _ (by decide+kernel)),dif_neg (n _ (by decide+kernel)),dif_neg (n _ (by decide+kernel)),dif_neg (n _ (by decide+kernel)),dif_neg (n _ (by decide+kernel))]
  obtain⟨pos,kw⟩:=args
  induction pos using List.casesOn with
  |nil=>rfl
  |cons v _=>
    show(Builtin.Bytes.sameRef v (.ref a)&&Builtin.Bytes.decodersThatHold.contains id)=false
    rw[Bool.and_eq_false_imp]
    intro _
    rw[Bool.eq_false_iff]
    intro q
    refine n id ?_ rfl
    rw[List.contains_iff_mem]at q ⊢
    exact List.mem_append_right _ q
 all_goals rfl
end
end BF
end Mine
end
section
open PySem PySem.W PyProof.Rows PySem.SeqAt
namespace Mine
section
variable {w:World}{A:Around}{E:Value->Shared->Prop}{hO:Heap}{N:Addr->Prop}{μ:List P2}{H:Hp}{s:Shared}
theorem qA{b:Bool}(e:truth d=some b)(x:VR w N μ s.heap d v)(h:Q b s):wpAny (pm w) A (truthy v) Q E s:=by
 refine RB λhG=>?_
 induction d using V.casesOn with
 |bool c=>exact hG (x.bool▸wpAny_truthy_bool (Option.some.inj e▸h))
 |int i=>
   obtain rfl:=Option.some.inj e
   obtain⟨t,rfl⟩:=x.int
   exact hG (P.truthy_int (by have:(i != 0)=decide (i≠0):=by rw[bne,Bool.eq_iff_iff];simp
                              rw[this];exact h))
 |none=>exact hG (x.none▸truthy_none (Option.some.inj e▸h))
 |_=>exact iK e
theorem PI{i:Int}(S:Std w hO N μ H s)(x:VR w N μ s.heap (.int i) v)(hk:k (.int (-i))):wpAny (pm w) A (unaryOp .USub v) (Gv w hO N μ H s k) E s:=by
 obtain⟨t,rfl⟩:=x.int
 exact P.neg_int (Gv.tok S hk ⟨_,rfl⟩)
theorem hV(x:bJ w N μ h l vs)(y:bJ w N μ h m us):bJ w N μ h (l++m) (vs++us):=by
 induction l generalizing vs with
 |nil=>exact(a8.mp x)▸y
 |cons d r ih=>exact aE (aJ.mp x) λv us' e a b=>e▸bJ.cons a (ih b)
theorem IT:∀{vs:List Value} (n:Nat),bJ w N μ h l vs->bJ w N μ h (l.take n) (vs.take n):=by
 induction l with
 |nil=>exact λn x=>(a8.mp x)▸(by rw[List.take_nil,List.take_nil];exact a8.mpr rfl)
 |cons d r ih=>
   intro vs n x
   rcases n with _|n
   ·exact a8.mpr rfl
   ·exact aE (aJ.mp x) λv us' e a b=>e▸bJ.cons a (ih n b)
theorem vY:∀{vs:List Value} (n:Nat),bJ w N μ h l vs->bJ w N μ h (l.drop n) (vs.drop n):=by
 induction l with
 |nil=>exact λn x=>(a8.mp x)▸(by rw[List.drop_nil,List.drop_nil];exact a8.mpr rfl)
 |cons d r ih=>
   intro vs n x
   rcases n with _|n
   ·exact x
   ·exact aE (aJ.mp x) λv us' e a b=>e▸ih n b
theorem wH(k:∀a o,h.get? a=some o->h'.get? a=some o)(x:bJ w N μ h l vs):bJ w N μ h' l vs:=cX (z4 k) l vs x
theorem Gv.newSeq{t:Nat}(S:Std w hO N μ H s)(h:k (.lst l))(x:bJ w N μ s.heap l vs):
  Gv w hO N μ H s k (.ref s.heap.objs.size) { s with heap:=s.heap.push { cls:=.type "list",data:=.seq vs.toArray },toks:=t }:=by
 refine Gv.new S h ?_
 exact⟨rfl,vs,⟨0,Heap.get?_push_size _ rfl⟩,wH (bS _ _) x⟩
theorem Gv.newTup{t:Nat}(S:Std w hO N μ H s)(h:k (.tup l))(x:bJ w N μ s.heap l vs):
  Gv w hO N μ H s k (.ref s.heap.objs.size) { s with heap:=s.heap.push { cls:=.type "tuple",data:=.seq vs.toArray },toks:=t }:=by
 refine Gv.new S h ?_
 exact⟨rfl,vs,⟨0,Heap.get?_push_size _ rfl⟩,wH (bS _ _) x⟩
theorem ME(S:Std w hO N μ H s)(x:VR w N μ s.heap (.lst l) a)(y:VR w N μ s.heap (.lst m) b)(hl:fits l=true)(hm:fits m=true)(hk:k (.lst (l++m))):
  wpAny (pm w) A (binaryOp .Add a b) (Gv w hO N μ H s k) E s:=by
 refine cB x.lst λp e94 _ c=>?_
 subst e94
 refine cB y.lst λq e95 _ c'=>?_
 subst e95
 refine cU c λ_ vs o96 c2=>?_
 clear c
 obtain⟨n,c1⟩:=o96
 refine cU c' λ_ us o97 c2'=>?_
 clear c'
 obtain⟨n',c1'⟩:=o97
 have e:vs.toArray++us.toArray=(vs++us).toArray:=by simp
 have hl:=of_decide_eq_true hl
 have hm:=of_decide_eq_true hm
 have l1:=aV c2
 have l2:=aV c2'
 refine concat_meets ⟨_,c1,rfl⟩ ⟨_,c1',rfl⟩ noFill_list_add seq_list_add PySem.F.slot_list_add PySem.F.entry_list_add (PySem.F.args_list_add_2 _ _) (list_addW p.1 q.1 vs.toArray us.toArray n n' none none #[] #[] (by rw[sizeLine_eq];simp;lia)) ⟨c1,c1',?_⟩
 rw[e]
 exact Gv.newSeq S hk (hV c2 c2')
theorem mS(b c:Array UInt8):bC (b++c)=bC b++bC c:=by simp[bC]
theorem KC(S:Std w hO N μ H s)(x:VR w N μ s.heap (.bytes l) a)(y:VR w N μ s.heap (.bytes m) b)(hl:fits l=true)(hm:fits m=true)(hk:k (.bytes (l++m))):
  wpAny (pm w) A (binaryOp .Add a b) (Gv w hO N μ H s k) E s:=by
 refine c8 x.bytes λb t e98 e99=>?_
 subst e98
 subst e99
 refine c8 y.bytes λc u e910 e911=>?_
 subst e910
 subst e911
 have hl:=of_decide_eq_true hl
 have hm:=of_decide_eq_true hm
 rw[cE]at hl hm
 exact KBy.add_bytes (by simp at hl hm;lia) λt' k'=>Gv.tok S hk ⟨_,_,rfl,mS _ _⟩
theorem rJ{t:Prop}(h:GW False op t):op= .Add/\t:=by
 obtain rfl:op= .Add:=Operator.Add.elim op (eq_of_beq (aS (by clear h;rcases op<;>first|exact Eq.refl False|exact Eq.refl _) h)) rfl
 exact⟨rfl,h⟩
theorem B9(e:binop False op a b k):
  (∃i j,a= .int i/\b= .int j/\xQ False op i j k)\/(∃l m,a= .lst l/\b= .lst m/\op= .Add/\(fits l&&fits m)=true/\k (.lst (l++m)))\/∃l m,a= .bytes l/\b= .bytes m/\op= .Add/\(fits l&&fits m)=true/\k (.bytes (l++m)):=by
 rcases Bool.or_eq_true_iff.mp (aS (c:=a.ctorIdx==2||(a.ctorIdx==6||a.ctorIdx==4)) (by clear e;rcases a<;>first|exact Eq.refl False|exact Eq.refl _) e)with h|h
 ·obtain⟨i,rfl⟩:=bK h
  obtain⟨j,rfl⟩:=bK (d:=b) (aS (by clear e;rcases b<;>first|exact Eq.refl False|exact Eq.refl _) e)
  exact .inl ⟨_,_,rfl,rfl,e⟩
 rcases Bool.or_eq_true_iff.mp h with h|h
 ·obtain⟨i,rfl⟩:=dJ h
  obtain⟨j,rfl⟩:=dJ (d:=b) (aS (by clear e;rcases b<;>first|exact Eq.refl False|exact Eq.refl _) e)
  obtain⟨e0,e⟩:=rJ e
  exact .inr (.inl ⟨_,_,rfl,rfl,e0,aA.mp e⟩)
 ·obtain⟨i,rfl⟩:=bM h
  obtain⟨j,rfl⟩:=bM (d:=b) (aS (by clear e;rcases b<;>first|exact Eq.refl False|exact Eq.refl _) e)
  obtain⟨e0,e⟩:=rJ e
  exact .inr (.inr ⟨_,_,rfl,rfl,e0,aA.mp e⟩)
theorem IA(S:Std w hO N μ H s)(x:VR w N μ s.heap a va)(y:VR w N μ s.heap b vb)(e:binop False op a b k):
  wpAny (pm w) A (binaryOp op va vb) (Gv w hO N μ H s k) E s:=by
 rcases B9 e with⟨i,j,rfl,rfl,e⟩|⟨l,m,rfl,rfl,rfl,e1,e⟩|⟨l,m,rfl,rfl,rfl,e1,e⟩
 ·obtain⟨t,rfl⟩:=x.int
  obtain⟨u,rfl⟩:=y.int
  exact DK S e
 ·exact ME S x y (Bool.and_eq_true_iff.mp e1).1 (Bool.and_eq_true_iff.mp e1).2 e
 ·exact KC S x y (Bool.and_eq_true_iff.mp e1).1 (Bool.and_eq_true_iff.mp e1).2 e
theorem fZ{value slice:Expr}{o i:Value}{Q:Value->Shared->Prop}(h:ItemOn (pm w) A E o i Q s):wpAny (pm w) A (subscriptTail value slice o i) Q E s:=by
 refine aE h λT id hl hT hg=>?_
 clear h
 obtain⟨f,hf⟩:=KN slice
 have hs:subscripted slice false o i=operate (f o i) (getItem o i):=congrFun (congrFun hf o) i
 clear hf
 generalize f o i=vs at hs
 refine wpAny_bind ?_
 rw[getitemInPython_of_ne hT.not_modules]
 refine wpAny_bind (wpAny_specialOf hT hl ?_)
 have fin:wpAny (pm w) A (operate vs (getItem o i)) (λr sC=>wpAny (pm w) A (letTemporaryGo value o r >>= λ_=>pure r) Q E sC) E s:=
  wpAny_operating (wpAny_mono hg (λr sC h₃=>wpAny_bind (wpAny_letTemporaryGo (wpAny_pure h₃))) λ_ _ x=>x)
 rw[<-hs]at fin
 first
  |exact wpAny_pure (wpAny_bind fin)
  |exact wpAny_bind (wpAny_pure (wpAny_bind fin))
  |exact wpAny_bind fin
end
end Mine
end
section
open PySem PySem.W PyProof.Rows PySem.SeqAt PySem.Builtin
namespace Mine
theorem mO{β:Type}(l:List β):∀(c s:Nat),(List.range' s c).filterMap (l[·]?)=(l.drop s).take c
 |0,s=>by simp
 |c+1,s=>by
   rw[List.range'_succ,List.filterMap_cons]
   have ih:=mO l c (s+1)
   by_cases h:s<l.length
   ·rw[List.getElem?_eq_getElem h,List.drop_eq_getElem_cons h,List.take_succ_cons]
    dsimp only
    rw[ih]
   ·rw[List.getElem?_eq_none (by lia)]
    dsimp only
    rw[ih,List.drop_eq_nil_of_le (by lia),List.drop_eq_nil_of_le (by lia)]
    simp
theorem sliceRange_one(a b:Nat):sliceRange (a:Int) (b:Int) 1=List.range' a (b-a):=by
 unfold sliceRange
 simp only[show(1:Int) > 0 by decide,if_true]
 have e:(if(a:Int)<b then((b:Int)-a+1-1)/1 else 0).toNat=b-a:=by
  split<;>simp<;>lia
 rw[e,List.range'_eq_map_range]
 refine List.map_congr_left λk hk=>?_
 lia
theorem uR(a n:Nat):min (a:Int) (n:Int)=((min a n:Nat):Int):=by omega
theorem pS{β:Type}(l:List β)(a b:Int)(ha:0<=a)(hb:0<=b):(sliceRange (min a l.length) (min b l.length) 1).filterMap (l[·]?)=cut l a b:=by
 obtain⟨a,rfl⟩:=Int.eq_ofNat_of_zero_le ha
 obtain⟨b,rfl⟩:=Int.eq_ofNat_of_zero_le hb
 rw[uR,uR,sliceRange_one,mO]
 show _=(l.take b).drop a
 rw[List.drop_take]
 clear ha hb
 rcases Nat.le_total a l.length with h|h
 ·rw[Nat.min_eq_left h,List.take_eq_take_iff,List.length_drop,Nat.sub_min_sub_right,Nat.sub_min_sub_right,Nat.min_assoc,Nat.min_self]
 ·rw[Nat.min_eq_right h,List.drop_of_length_le (Nat.le_refl _),List.drop_of_length_le h,List.take_nil,List.take_nil]
theorem lC{dflt a:Int}(e:IV dflt d=some a)(x:VR w N μ h d v)(hd:0<=dflt):
  ∃o,IsPart v o/\0<=a/\(o=none->a=dflt)/\(∀i,o=some i->a=i):=by
 induction d using V.casesOn with
 |none=>obtain rfl:=Option.some.inj e;rw[x.none];exact⟨none,.none,hd,λ_=>rfl,λ_ q=>by injection q⟩
 |int i=>
   obtain⟨t,rfl⟩:=x.int
   have e:(if 0<=i then some i else none)=some a:=e
   by_cases hi:0<=i
   ·rw[if_pos hi]at e
    cases e
    exact⟨some a,.int a t,hi,(λq=>nomatch q),λ_ q=>Option.some.inj q⟩
   ·rw[if_neg hi]at e;injection e
 |_=>injection e
theorem i5{lo hi:Option Int}{a b:Int}{n:Nat}(ha:0<=a)(hb:0<=b)(l0:lo=none->a=0)(l1:∀i,lo=some i->a=i)(h0:hi=none->b=n)(h1:∀i,hi=some i->b=i):
  sliceBounds lo hi none n=(min a n,min b n,1):=by
 unfold sliceBounds
 simp only[Option.getD_none,show(1:Int) > 0 by decide,if_true]
 congr 1
 ·induction lo using Option.casesOn with
  |none=>have:=l0 rfl;subst this;show(0:Int)=_;lia
  |some i=>have:=l1 i rfl;subst this;simp only[if_neg (show ¬a<0 by lia)];lia
 ·congr 1
  induction hi using Option.casesOn with
  |none=>have:=h0 rfl;subst this;simp
  |some i=>have:=h1 i rfl;subst this;simp only[if_neg (show ¬b<0 by lia)];lia
section
variable {w:World}{A:Around}{E:Value->Shared->Prop}{hO:Heap}{N:Addr->Prop}{μ:List P2}{H:Hp}{s:Shared}
noncomputable abbrev A6 (l u:Value):Obj:={ cls:=.type "slice",data:=.fields #[l,u,.none] }
theorem Std.push(S:Std w hO N μ H s)(o:Obj):Std w hO N μ H { s with heap:=s.heap.push o }:=S.grow (t:=s.toks) (bS _ o)
theorem Ext.push(o:Obj):Ext no μ s μ { s with heap:=s.heap.push o }:=Ext.grow (t:=s.toks) (bS _ o)
theorem Gv.after(X:Ext no μ s μ sA)(g:Gv w hO N μ H sA k v s'):Gv w hO N μ H s k v s':=by
 obtain⟨d,a,b,c,e⟩:=g
 exact⟨d,a,b,X.trans c,e⟩
theorem xM{l:List V}{vs:List Value}{p sl:Addr}{vl vu:Value}{lo hi:Option Int}{a b:Int}{k:V->Prop}(S:Std w hO N μ H s)(c1:bR s.heap p "list" vs)(c2:bJ w N μ s.heap l vs)
  (hs:s.heap.IsSliceOf sl vl vu .none) (pl:IsPart vl lo) (pu:IsPart vu hi) (hb:sliceBounds lo hi none l.length=(min a l.length,min b l.length,1)) (ha:0<=a) (hb0:0<=b) (hf:fits l=true) (hk:k (.lst (cut l a b))):
  wpAny (pm w) A (getItem (.ref p) (.ref sl)) (Gv w hO N μ H s k) E s:=by
 have hl:=aV c2
 have hf:=of_decide_eq_true hf
 refine wpAny_getItem_list_slice c1.isList hs pl pu .none (by simp) ?_ (by rw[sizeLine_eq];simp;lia)
 have e:slicePick vs.toArray lo hi none=(cut vs a b).toArray:=by
  unfold slicePick
  rw[List.size_toArray,hl,hb, <-hl]
  simp only[List.getElem?_toArray]
  rw[pS vs a b ha hb0]
 rw[e]
 exact Gv.newSeq S hk (vY _ (IT _ c2))
theorem vD(b:Array UInt8)(x y:Int):bC (cut b.toList x y).toArray=cut (bC b) x y:=by
 unfold bC cut
 simp[List.map_drop,List.map_take]
end
end Mine
end
section
open PySem PySem.W PyProof.Rows PySem.SeqAt PySem.Builtin
namespace Mine
noncomputable abbrev aZ (b:Array UInt8):Obj:={ cls:=.type "bytearray",data:=.bytearray b 0 }
namespace BF
section
variable {M:Model}{A:Around}{E:Value->Shared->Prop}{s:Shared}{a:Addr}{b:Array UInt8}
theorem dO(h:s.heap.get? a=some (aZ b))(q:Q b s):wpAny M A (Bytes.payload (.ref a)) Q E s:=by
 exact wpAny_bind (wpAny_bind (wpAny_load h (wpAny_pure (wpAny_pure q))))
theorem qL{k:Int}(hf:Bytes.fitsIndex k=true)(q:Q (some k) s):wpAny M A (Bytes.subscript? (.int k t)) Q E s:=by
 refine wpAny_bind (wpAny_specialOf (T:="int") (typeIs_int _ _ _) F.slot_int_index.lookup ?_)
 rw[if_neg (show ¬(Option.isNone (some _)=true)from Bool.false_ne_true)]
 refine wpAny_bind (wpAny_of_eq (a:=k) rfl ?_)
 rw[hf]
 exact wpAny_pure q
end
theorem meets_item(a:Addr)(b:Array UInt8)(k:Int)(t:Tok)(x:UInt8):
  Meets («bytearray.__getitem__» ⟨[.ref a,.int k t],[]⟩) (λ_ R s=>s.heap.get? a=some (aZ b)/\Bytes.fitsIndex k=true/\(seqIndex? k b.size).bind (b[·]?)=some x/\R (.ok (.ret (.int x.toNat s.toks))) { s with toks:=s.toks+1 }):=by
 refine .of_wp λprog w A R s hS=>?_
 refine OA hS λho hf hx h=>?_
 clear hS
 show wpAny _ _ (Bytes.subscript? (.int k t) >>= λr=>_) _ _ s
 refine wpAny_bind (qL hf ?_)
 show wpAny _ _ (Bytes.payload (.ref a) >>= λr=>_) _ _ s
 refine wpAny_bind (dO ho ?_)
 rw[hx]
 exact wpAny_ret_mkInt h
theorem eN{prog:Program}{w:World}{A:Around}{E:Value->Shared->Prop}{s:Shared}{a:Addr}{l u:Value}{lo hi:Option Int}{Q:Value×Value×Value->Shared->Prop}(hS:s.heap.IsSliceOf a l u .none)(hl:IsPart l lo)(hu:IsPart u hi)
  (q:Q (rawPart lo,rawPart hi,rawPart none) s):wpAny (model prog w) A (Bytes.sliceParts (.ref a)) Q E s:=by
 refine cB hS λo ho hc hd=>?_
 clear hS
 refine wpAny_bind (wpAny_field (x:=.none) ho hd rfl ?_)
 kby_none
 refine wpAny_ite (KBy.ite_no (show ¬((Value.none==rawInt 0)=true)from Bool.false_ne_true) ?_)
 refine wpAny_bind (wpAny_field (x:=l) ho hd rfl ?_)
 rcases hl<;>rcases hu<;>(first
  |(kby_none;(refine wpAny_bind (wpAny_field (x:=.none) ho hd rfl ?_));kby_none)
  |(kby_none;(refine wpAny_bind (wpAny_field (x:=.int _ _) ho hd rfl ?_));kby_int)
  |(kby_int;(refine wpAny_bind (wpAny_field (x:=.none) ho hd rfl ?_));kby_none)
  |(kby_int;(refine wpAny_bind (wpAny_field (x:=.int _ _) ho hd rfl ?_));kby_int))<;>exact wpAny_pure q
theorem hZ(hS:s.heap.IsSliceOf a l u .none)(q:Q none s):wpAny M A (Bytes.subscript? (.ref a)) Q E s:=by
 refine cB hS λo ho hc hd=>?_
 clear hS
 have hT:s.TypeIs (.ref a) "slice":=⟨o,ho,hc⟩
 exact wpAny_bind (wpAny_specialOf hT slice_no_index (wpAny_pure q))
theorem meets_slice(a sl:Addr)(b:Array UInt8){l u:Value}{lo hi:Option Int}(hl:IsPart l lo)(hu:IsPart u hi):
  Meets («bytearray.__getitem__» ⟨[.ref a,.ref sl],[]⟩) (λ_ R s=>s.heap.get? a=some (aZ b)/\s.heap.IsSliceOf sl l u .none/\(KBy.picked b lo hi).size<=sizeLine/\
   R (.ok (.ret (.ref s.heap.objs.size))) { s with heap:=s.heap.push (aZ (KBy.picked b lo hi)) }):=by
 refine .of_wp λprog w A R s hS=>?_
 refine OA hS λho hsl hz h=>?_
 clear hS
 have hT:s.TypeIs (.ref sl) "slice":=let⟨o,ho,hc,_⟩:=hsl;⟨o,ho,hc⟩
 show wpAny _ _ (Bytes.subscript? (.ref sl) >>= λr=>_) _ _ s
 refine wpAny_bind (hZ hsl ?_)
 refine wpAny_bind (wpAny_typeOf hT ?_)
 show wpAny _ _ (Bytes.sliceParts (.ref sl) >>= λr=>_) _ _ s
 refine wpAny_bind (eN hsl hl hu ?_)
 show wpAny _ _ (Bytes.payload (.ref a) >>= λr=>_) _ _ s
 refine wpAny_bind (dO ho ?_)
 refine wpAny_bind (wpAny_of_eq (sliceIndices_raw lo hi none b.size (λe=>nomatch e)) ?_)
 refine wpAny_bind ?_
 refine wpAny_newObj_type ?_ hz
 first
  |exact wpAny_pure h
  |exact wpAny_pure ⟨_,rfl,h⟩
theorem meets_sliceB(b:Array UInt8)(t:Tok)(sl:Addr){l u:Value}{lo hi:Option Int}(hl:IsPart l lo)(hu:IsPart u hi):
  Meets («bytes.__getitem__» ⟨[.bytes b t,.ref sl],[]⟩) (λ_ R s=>s.heap.IsSliceOf sl l u .none/\(KBy.picked b lo hi).size<=sizeLine/\
   ∀t' k,R (.ok (.ret (.bytes (if KBy.whole b lo hi then b else KBy.picked b lo hi) t'))) { s with toks:=k }):=by
 refine .of_wp λprog w A R s hS=>?_
 refine qC hS λhsl hz h=>?_
 clear hS
 have hT:s.TypeIs (.ref sl) "slice":=let⟨o,ho,hc,_⟩:=hsl;⟨o,ho,hc⟩
 show wpAny _ _ (Bytes.payload (.bytes b t) >>= λr=>_) _ _ s
 refine wpAny_bind (wpAny_of_eq (a:=b) rfl ?_)
 show wpAny _ _ (Bytes.subscript? (.ref sl) >>= λr=>_) _ _ s
 refine wpAny_bind (hZ hsl ?_)
 refine wpAny_bind (wpAny_typeOf hT ?_)
 show wpAny _ _ (Bytes.sliceParts (.ref sl) >>= λr=>_) _ _ s
 refine wpAny_bind (eN hsl hl hu ?_)
 refine wpAny_bind (wpAny_of_eq (sliceIndices_raw lo hi none b.size (λe=>nomatch e)) ?_)
 show wpAny _ _ (if KBy.whole b lo hi=true then _ else _) _ _ s
 induction hw:KBy.whole b lo hi using Bool.casesOn with
 |true=>
   rw[hw]at h
   refine wpAny_bind (wpAny_typeOf (typeIs_bytes s b t) ?_)
   exact wpAny_bind (wpAny_rule (wpAny_pure ⟨_,rfl,h _ _⟩))
 |false=>
   rw[hw]at h
   exact wpAny_bind (wpAny_mkBytes (wpAny_pure ⟨_,rfl,h _ _⟩) hz)
theorem meets_len(a:Addr)(b:Array UInt8):
  Meets («bytearray.__len__» ⟨[.ref a],[]⟩) (λ_ R s=>s.heap.get? a=some (aZ b)/\R (.ok (.ret (.int b.size s.toks))) { s with toks:=s.toks+1 }):=by
 refine .of_wp λprog w A R s hS=>?_
 obtain⟨ho,h⟩:=hS
 show wpAny _ _ (Bytes.payload (.ref a) >>= λr=>_) _ _ s
 refine wpAny_bind (dO ho ?_)
 exact wpAny_ret_mkInt h
end BF
section
variable {w:World}{A:Around}{E:Value->Shared->Prop}{hO:Heap}{N:Addr->Prop}{μ:List P2}{H:Hp}{s:Shared}
theorem dZ(hf:fits (bC b)=true):b.size<1000:=by
 have:=of_decide_eq_true hf
 rw[cE]at this
 simpa using this
theorem E8{j x:Int}(S:Std w hO N μ H s)(ho:s.heap.get? a=some (aZ b))(hf:fits (bC b)=true)(e:item (bC b) j=some x)(hk:k (.int x)):
  wpAny (pm w) A (getItem (.ref a) (.int j t)) (Gv w hO N μ H s k) E s:=by
 obtain⟨h0,h1⟩:=jC e
 have hl:=(List.getElem?_eq_some_iff.mp h1).1
 have hz:=dZ hf
 rw[cE]at hl
 have hl':j.toNat<b.size:=by simpa using hl
 have hx:x=(b[j.toNat].toNat:Int):=by
  delta bC at h1
  rw[List.getElem?_map,List.getElem?_eq_getElem hl]at h1
  simpa using h1.symm
 refine getItem_meets ⟨_,ho,rfl⟩ (by decide) BF.slot_getitem BF.entry_getitem (BF.args_getitem _ _) (BF.meets_item a b j t b[j.toNat]) ⟨ho,?_,?_,?_⟩
 ·unfold Bytes.fitsIndex
  simp only[Bool.and_eq_true,decide_eq_true_eq]
  lia
 ·have e1:¬j<0:=by lia
  have e2:j<(b.size:Int):=by lia
  simp[seqIndex?,e1,e2,h0]
 ·rw[<-hx]
  exact Gv.tok S hk ⟨_,rfl⟩
theorem yY{b:Array UInt8}{a sl:Addr}{vl vu:Value}{lo hi:Option Int}{x y:Int}{k:V->Prop}(S:Std w hO N μ H s)(ho:s.heap.get? a=some (aZ b))
  (hs:s.heap.IsSliceOf sl vl vu .none) (pl:IsPart vl lo) (pu:IsPart vu hi) (hb:sliceBounds lo hi none b.size=(min x b.size,min y b.size,1)) (hx:0<=x) (hy:0<=y)
  (hf:fits (bC b)=true) (hk:k (.bar (cut (bC b) x y))):wpAny (pm w) A (getItem (.ref a) (.ref sl)) (Gv w hO N μ H s k) E s:=by
 have hz:=dZ hf
 have hsz:b.size=b.toList.length:=by simp
 have e:KBy.picked b lo hi=(cut b.toList x y).toArray:=by
  delta KBy.picked Bytes.sliced
  rw[hb,hsz]
  congr 1
  rw[<-pS b.toList x y hx hy]
  simp
 refine getItem_meets ⟨_,ho,rfl⟩ (by decide) BF.slot_getitem BF.entry_getitem (BF.args_getitem _ _) (BF.meets_slice a sl b pl pu) ⟨ho,hs,?_,?_⟩
 ·rw[e,sizeLine_eq,List.size_toArray]
  exact Nat.le_trans (hJ _ _ _) (by rw[<-hsz];lia)
 ·rw[e]
  refine Gv.new (t:=s.toks) S hk ?_
  exact⟨rfl,_,Heap.get?_push_size _ rfl,vD _ _ _⟩
theorem tK{b:Array UInt8}{t:Tok}{sl:Addr}{vl vu:Value}{lo hi:Option Int}{x y:Int}{k:V->Prop}(S:Std w hO N μ H s)
  (hs:s.heap.IsSliceOf sl vl vu .none) (pl:IsPart vl lo) (pu:IsPart vu hi) (hb:sliceBounds lo hi none b.size=(min x b.size,min y b.size,1)) (hx:0<=x) (hy:0<=y)
  (hf:fits (bC b)=true) (hk:k (.bytes (cut (bC b) x y))):
  wpAny (pm w) A (getItem (.bytes b t) (.ref sl)) (Gv w hO N μ H s k) E s:=by
 have hz:=dZ hf
 have hsz:b.size=b.toList.length:=by simp
 have e:KBy.picked b lo hi=(cut b.toList x y).toArray:=by
  delta KBy.picked Bytes.sliced
  rw[hb,hsz]
  congr 1
  rw[<-pS b.toList x y hx hy]
  simp
 refine getItem_meets (typeIs_bytes _ _ _) (by decide) FB.slot_bytes_getitem FB.entry_bytes_getitem (FB.args_bytes_getitem_2 _ _) (BF.meets_sliceB b t sl pl pu) ⟨hs,?_,λt' k'=>Gv.tok S hk ⟨_,_,rfl,?_⟩⟩
 ·rw[e,sizeLine_eq,List.size_toArray]
  exact Nat.le_trans (hJ _ _ _) (by rw[<-hsz];lia)
 ·induction hw:KBy.whole b lo hi using Bool.casesOn with
  |false=>simp only[Bool.false_eq_true,if_false];rw[e,vD]
  |true=>
    delta KBy.whole at hw
    rw[hb]at hw
    simp only[Bool.and_eq_true,beq_iff_eq,Bool.not_eq_true']at hw
    obtain⟨⟨⟨q1,-⟩,q2⟩,q3⟩:=hw
    have:b.size≠0:=λz=>by rw[Array.isEmpty,z]at q3;injection q3
    have h0:x=0:=by lia
    have h1:(b.size:Int)<=y:=by lia
    delta cut
    rw[h0,List.take_of_length_le (by rw[cE];simp;lia)]
    simp
end
end Mine
end
section
open PySem PySem.W PyProof.Rows PySem.SeqAt PySem.Builtin
namespace Mine
section
variable {w:World}{A:Around}{E:Value->Shared->Prop}{hO:Heap}{N:Addr->Prop}{μ:List P2}{H:Hp}{s:Shared}
theorem K0(h:x∈d5):jO x=bO.lookup x:=by
 have:(d5.all λx=>jO x==bO.lookup x)=true:=by kernel_rfl
 simpa using List.all_eq_true.mp this x h
theorem Gv.up{t:Nat}(S:Std w hO N μ H s)(g:∀a o,s.heap.get? a=some o->h'.get? a=some o)(hk:k d)(x:VR w N μ h' d v):Gv w hO N μ H s k v { s with heap:=h',toks:=t }:=
 ⟨d,hk,S.grow g,Ext.grow g,x⟩
theorem PS{n:Nat}(S:Std w hO N μ H s)(x:VR w N μ s.heap d v)(e:content H d=some c)
  (hc:(∃l,c= .bytes l/\fits l=true/\n=l.length)\/(∃l,c= .bar l/\fits l=true/\n=l.length)\/(∃l,c= .tup l/\fits l=true/\n=l.length)\/(∃l,c= .lst l/\fits l=true/\n=l.length)) (hk:k (.int n)):
  wpAny (pm w) A (call (.builtin "len") [v]) (Gv w hO N μ H s k) E s:=by
 have fin:∀t t',Gv w hO N μ H s k (.int n t) { s with toks:=t' }:=λt t'=>Gv.tok S hk ⟨t,rfl⟩
 rcases hc with⟨l,rfl,hf,rfl⟩|⟨l,rfl,hf,rfl⟩|⟨l,rfl,hf,rfl⟩|⟨l,rfl,hf,rfl⟩
 ·have hb:∃b t,v= .bytes b t/\bC b=l:=by
   induction d using V.casesOn with
   |ref m=>
     refine aT x.ref λp hp e91=>?_
     subst e91
     have:=S.hr.rel _ _ _ hp e
     exact False.elim this
   |bytes l'=>cases e;exact x.bytes
   |_=>exact(nomatch e)
  refine c8 hb λb t e92 e93=>?_
  clear hb
  subst e92
  subst e93
  have hz:=dZ hf
  refine len_bytes (by lia) ?_
  have e:(bC b).length=b.size:=by rw[cE];simp
  rw[<-e]
  exact fin _ _
 ·refine cB (aX S x e trivial) λp e94 c _=>?_
  subst e94
  refine cU c λ_ b ho e95=>?_
  clear c
  subst e95
  have hz:=dZ hf
  have e:(bC b).length=b.size:=by rw[cE];simp
  refine call_len_slot (T:="bytearray") (n:=b.size) ⟨_,ho,rfl⟩ BF.slot_len (λQ' q=>call_meets BF.slot_len ⟨_,ho,rfl⟩ BF.entry_len (BF.args_len _) (BF.meets_len p.1 b) ⟨ho,q⟩) (by lia) (by lia) ?_
  rw[<-e]
  exact fin _ _
 ·refine cB (aX S x e trivial) λp e96 c _=>?_
  subst e96
  refine cU c λ_ vs o97 r=>?_
  clear c
  obtain⟨n,ho⟩:=o97
  have hl:=aV r
  have hf:=of_decide_eq_true hf
  refine len_tuple ⟨_,ho,rfl,n,rfl⟩ (by simp;lia) ?_
  rw[show vs.toArray.size=l.length from by simpa using hl]
  exact fin _ _
 ·refine cB (aX S x e trivial) λp e98 c _=>?_
  subst e98
  refine cU c λ_ vs c1 r=>?_
  clear c
  have hl:=aV r
  have hf:=of_decide_eq_true hf
  refine len_list c1.isList (by simp;lia) ?_
  rw[show vs.toArray.size=l.length from by simpa using hl]
  exact fin _ _
theorem GQ{x:Int}(h: -4611686018427387904<=x)(h2:x<=4611686018427387904):Builtin.Range.rangeFitsLong x=true:=
 C5 (decide_eq_true (Int.le_trans (by decide) h)) (decide_eq_true (Int.lt_of_le_of_lt h2 (by decide)))
theorem xU{x:Int}(h:kB x=true): -1152921504606846976<x/\x<1152921504606846976:=by have h:=of_decide_eq_true h;lia
theorem VQ{a b c:Int}(h0:0<c)(ha: -1152921504606846976<a)(hb:b<1152921504606846976):0<=Builtin.Range.rangeSize a b c/\Builtin.Range.rangeSize a b c<=4611686018427387904:=by
 unfold Builtin.Range.rangeSize
 rw[if_pos h0]
 by_cases h:a<b
 ·rw[if_pos h]
  have q0:=Int.ediv_nonneg (show 0<=b-a-1 by lia) (Int.le_of_lt h0)
  have q1:=Int.ediv_le_self c (show 0<=b-a-1 by lia)
  generalize (b-a-1)/c=q at*
  lia
 ·rw[if_neg h];decide
theorem pB{a b c:Int}(ha:kB a=true)(hb:kB b=true)(hc:kB c=true)(h0:0<c):Builtin.Range.small a b c=true:=by
 have ha:=xU ha
 have hb:=xU hb
 have hc:=xU hc
 have z:=VQ h0 ha.1 hb.2
 have w:∀{x:Int},-1152921504606846976<x/\x<1152921504606846976->Builtin.Range.rangeFitsLong x=true:=λh=>GQ (Int.le_trans (by decide) (Int.le_of_lt h.1)) (Int.le_trans (Int.le_of_lt h.2) (by decide))
 refine C5 (C5 (C5 (C5 (w ha) (w hb)) (w hc)) (GQ (Int.le_trans (by decide) z.1) z.2)) (Bool.or_eq_true_iff.mpr (.inr ?_))
 rw[if_pos h0]
 exact GQ (by lia) (by lia)
theorem Gv.rng{a b c:Int}{tk:Nat}(S:Std w hO N μ H s)(hsm:Builtin.Range.small a b c=true)(h0:0<c)(hk:k (.rng a b c)):
  Gv w hO N μ H s k (.ref s.heap.objs.size) { s with heap:=s.heap.push { cls:=.type "range",data:=.fields #[.int a t,.int b u,.int c v] },toks:=tk }:=by
 refine Gv.new S hk ?_
 exact⟨⟨rfl,hsm,h0⟩,t,u,v,IsRange.new ..⟩
theorem D2(hh:A.handled=none){a b:Int}(S:Std w hO N μ H s)(hk:k (.int (if b<a then b else a))):
  wpAny (pm w) A (call (.builtin "min") [.int a t,.int b u]) (Gv w hO N μ H s k) E s:=by
 refine min_two_ints hh λh' tk g=>Gv.up S g hk (.inl ?_)
 split<;>exact⟨_,rfl⟩
theorem CN(hh:A.handled=none){a b:Int}(S:Std w hO N μ H s)(hk:k (.int (if b > a then b else a))):
  wpAny (pm w) A (call (.builtin "max") [.int a t,.int b u]) (Gv w hO N μ H s k) E s:=by
 refine max_two_ints hh λh' tk g=>Gv.up S g hk (.inl ?_)
 split<;>exact⟨_,rfl⟩
theorem pX:∀{l:List V} {ns:List Int} {vs:List Value},Mine.ints l=some ns->bJ w N μ h l vs->IntsAre vs ns
 | [],ns,vs,e,x=>by obtain rfl:=Option.some.inj e;rw[a8]at x;subst x;exact .nil
 |d::r,ns,vs,e,x=>by
   induction d using V.casesOn with
   |int i=>
     have e:(match some i,Mine.ints r with|some i,some l=>some (i::l)|_,_=>none)=some ns:=e
     induction hr:Mine.ints r using Option.casesOn with
     |none=>rw[hr]at e;injection e
     |some l=>
       rw[hr]at e
       obtain rfl:=Option.some.inj e
       refine aE (aJ.mp x) λv us e99 a b=>?_
       subst e99
       obtain⟨t,rfl⟩:=a.int
       exact .cons _ _ (pX hr b)
   |_=>injection e
end
end Mine
end
section
open PySem PySem.W PyProof.Rows PySem.SeqAt PySem.Builtin
open PySem.Sem (wp)
namespace Mine
namespace BF
theorem slot_next:Slot "bytearray_iterator" "__next__" "bytearray_iterator.__next__":=
 .of (owner:="bytearray_iterator") (n:="__next__") (by rw[typeLookup_type,builtinLookup_eq_fast];kernel_rfl) (by decide+kernel) (by decide+kernel) (by decide+kernel)
  (by first|exact .inl (by decide+kernel)|exact .inr (by decide+kernel)) (by rw[isSubtype_type];kernel_rfl)
theorem slot_self:Slot "bytearray_iterator" "__iter__" "bytearray_iterator.__iter__":=
 .of (owner:="bytearray_iterator") (n:="__iter__") (by rw[typeLookup_type,builtinLookup_eq_fast];kernel_rfl) (by decide+kernel) (by decide+kernel) (by decide+kernel)
  (by first|exact .inl (by decide+kernel)|exact .inr (by decide+kernel)) (by rw[isSubtype_type];kernel_rfl)
theorem entry_next:entryFor table "bytearray_iterator.__next__"=some Builtin.«bytearray_iterator.__next__»:=entryFor_of_tree (by kernel_rfl)
theorem entry_self:entryFor table "bytearray_iterator.__iter__"=some Builtin.«dict_keyiterator.__iter__»:=entryFor_alias (id':="dict_keyiterator.__iter__") (by kernel_rfl) rfl (by decide+kernel) (by kernel_rfl)
theorem args_next(a:Value):argsOk "bytearray_iterator.__next__" ⟨[a],[]⟩:=by kernel_rfl
theorem args_self(a:Value):argsOk "bytearray_iterator.__iter__" ⟨[a],[]⟩:=by kernel_rfl
noncomputable def IsBarIter (h:Heap) (it a:Addr) (i:Nat):Prop:=∃o,h.get? it=some o/\o.cls= .type "bytearray_iterator"/\o.data= .fields #[.ref a,.int i 0]
theorem iter_typeIs{s:Shared}{it a:Addr}{i:Nat}(y:IsBarIter s.heap it a i):s.TypeIs (.ref it) "bytearray_iterator":=let⟨o,ho,hc,_⟩:=y;⟨o,ho,hc⟩
section
variable {prog:Program}{w:World}{A:Around}{E:Value->Shared->Prop}{s:Shared}{b:Array UInt8}{a it:Addr}
theorem pyIter_bar(ho:s.heap.get? a=some (aZ b))(hQ:Q (.ref s.heap.objs.size) { s with heap:=s.heap.push { cls:=.type "bytearray_iterator",data:=.fields #[.ref a,.int 0 0] } }):wpAny (model prog w) A (pyIter (.ref a)) Q E s:=by
 refine wpAny_pyIter_slot ⟨_,ho,rfl⟩ rL (wpAny_call_entry rL ⟨_,ho,rfl⟩ w7 ?_ (BH _))
 show wpAny _ _ (do ret (<-newFields "bytearray_iterator" [.ref a,rawInt 0])) _ _ s
 exact wpAny_bind (wpAny_newObj_type (wpAny_pure ⟨_,rfl,"bytearray_iterator",_,⟨_,Heap.get?_push_size _ rfl,rfl⟩,slot_next.lookup,hQ⟩))
theorem pyIter_self{i:Nat}(hit:IsBarIter s.heap it a i)(h:Q (.ref it) s):wpAny (model prog w) A (pyIter (.ref it)) Q E s:=by
 refine wpAny_pyIter_slot (iter_typeIs hit) slot_self (wpAny_call_entry slot_self (iter_typeIs hit) entry_self ?_ (args_self _))
 show wpAny _ _ (ret (.ref it)) _ _ s
 exact wpAny_pure ⟨_,rfl,"bytearray_iterator",_,iter_typeIs hit,slot_next.lookup,h⟩
theorem next_item{i:Nat}(hit:IsBarIter s.heap it a i)(ho:s.heap.get? a=some (aZ b))(hx:b[i]? =some c)
  (hQ:∀h',IsBarIter h' it a (i+1)->Heap.SameBut it s.heap h'->Q (some (.int (c.toNat:Int) s.toks)) { s with heap:=h',toks:=s.toks+1 }):wpAny (model prog w) A (pyNext (.ref it)) Q E s:=by
 refine cB (id hit) λo hi hc hd=>?_
 refine wpAny_bind (wpAny_attempt (wpAny_callSpecial?_slot (name:=PySem.Str.ofString "__next__") (iter_typeIs hit) slot_next
  (wpAny_call_entry slot_next (iter_typeIs hit) entry_next ?_ (args_next _))))
 show wpAny _ _ (field (.ref it) 0 >>= _) _ _ s
 refine wpAny_bind (wpAny_field hi hd (x:=.ref a) rfl ?_)
 show wpAny _ _ (load a >>= _) _ _ s
 refine wpAny_bind (wpAny_load ho ?_)
 show wpAny _ _ (field (.ref it) 1 >>= _) _ _ s
 refine wpAny_bind (wpAny_field hi hd (x:=.int i 0) rfl ?_)
 simp only[Int.toNat_natCast,hx]
 refine wpAny_bind (wpAny_setField hi hd (by simp) (wpAny_bind (wpAny_mkInt (wpAny_pure ⟨_,rfl,wpAny_pure (hQ _ ?_ (Heap.SameBut.update ..))⟩))))
 exact⟨_,Heap.get?_update_self _ hi (Obj.isFreed_of_fields (Obj.data_mapFields hd _)),(Obj.cls_mapFields ..).trans hc,by
  rw[Obj.data_mapFields hd];simp[rawInt]⟩
theorem next_end{i:Nat}(hh:A.handled=none)(hit:IsBarIter s.heap it a i)(ho:s.heap.get? a=some (aZ b))(hx:b[i]? =none)
  (hQ:∀h' t,Heap.ExtBut it s.heap h'->Q none { s with heap:=h',toks:=t }):wpAny (model prog w) A (pyNext (.ref it)) Q E s:=by
 refine cB (id hit) λo hi hc hd=>?_
 refine wpAny_bind (wpAny_attempt (wpAny_callSpecial?_slot (name:=PySem.Str.ofString "__next__") (iter_typeIs hit) slot_next
  (wpAny_call_entry slot_next (iter_typeIs hit) entry_next ?_ (args_next _))))
 show wpAny _ _ (field (.ref it) 0 >>= _) _ _ s
 refine wpAny_bind (wpAny_field hi hd (x:=.ref a) rfl ?_)
 show wpAny _ _ (load a >>= _) _ _ s
 refine wpAny_bind (wpAny_load ho ?_)
 show wpAny _ _ (field (.ref it) 1 >>= _) _ _ s
 refine wpAny_bind (wpAny_field hi hd (x:=.int i 0) rfl ?_)
 simp only[Int.toNat_natCast,hx]
 refine wpAny_bind (wpAny_rule (wpAny_bind (wpAny_setField hi hd (by simp) ?_)))
 refine wpAny_bind (wpAny_letGo ?_)
 show wpAny _ _ (newExc (.type "StopIteration") [] >>= _) _ _ _
 refine wpAny_bind ?_
 refine wpAny_bind (wpAny_newObj_type ?_ (by size_fits))
 refine wpAny_bind (m:=firstArgMember _ _) (wpAny_of_eq (a:=Value.none) (by first|rfl|(simp only[firstArgMember];rfl)) ?_)
 refine wpAny_newObj_type ?_ (by size_fits)
 refine wpAny_bind (wpAny_handled ?_)
 rw[show A.in1.handled=none from hh]
 refine wpAny_bind (wpAny_pure (wpAny_throw ?_))
 refine wpAny_bind (wpAny_isInstance (T:="StopIteration") (b:=true) ⟨_,Heap.get?_push_size _ rfl,rfl⟩ isSubtype_stop ?_)
 exact wpAny_pure (hQ _ _ (((Heap.SameBut.update ..).extBut.push _).push _))
end
theorem walks(hh:A.handled=none)(I a:Addr)(b:Array UInt8)(hne:a≠I):
  Walks prog w A I [I,a] [I] b.size (λi v=>∃c u,b[i]? =some c/\v= .int (c.toNat:Int) u) (λi h=>IsBarIter h I a i/\h.get? a=some (aZ b)) where
 sub:=λ_ hb=>by simp at hb;simp[hb]
 frame:=λ_ _ _ st hk=>⟨let⟨o,ho,r⟩:=st.1;⟨o,hk I (by simp) o ho,r⟩,hk a (by simp) _ st.2⟩
 item:=λi s Q E hi st hQ=>by
  refine next_item st.1 st.2 (c:=b[i]) (by simp[hi]) λh' hit' hs'=>?_
  exact hQ _ h' (s.toks+1) ⟨_,_,by simp[hi],rfl⟩ ⟨hit',(hs'.2 a hne).trans st.2⟩ λb o hb e=>hs'.extBut b o (λh=>hb (by simp[h])) e
 done:=λs Q E st hQ=>next_end hh st.1 st.2 (by simp) λh' t he'=>hQ h' t λb o hb e=>he' b o (λh=>hb (by simp[h])) e
 self:=λ_ _ _ _ st hQ=>pyIter_self st.1 hQ
end BF
end Mine
end
section
open PySem PySem.W PyProof.Rows PySem.SeqAt PySem.Builtin
namespace Mine
noncomputable def wV (h:Heap) (I:Addr) (i:Nat):V->Value->Prop
 | .lst _,v=>∃l,v= .ref l/\h.IsListIter I l i
 | .tup _,v=>∃l,v= .ref l/\h.IsTupleIter I l i
 | .bytes _,v=>∃b t,v= .bytes b t/\KBw.IsBytesIter h I b t i
 | .bar _,v=>∃a,v= .ref a/\BF.IsBarIter h I a i
 | .rng a b c,_=>IsRangeIter h I (a+i*c) (Builtin.Range.rangeSize a b c-i) c
 |_,_=>False
inductive tS (w:World) (N:Addr->Prop) (μ:List P2) (h:Heap) (d c:V) (I:Addr) (i:Nat):Prop
 |mk (hN:N I) (v:Value) (r:VR w N μ h d v) (q:wV h I i c v)
theorem wV.at{i:Nat}(x:wV h I i c v)(k:∀o,h.get? I=some o->h'.get? I=some o):wV h' I i c v:=by
 induction c using V.casesOn with
 |lst l=>obtain⟨l,e,o,ho,r⟩:=x;exact⟨l,e,o,k _ ho,r⟩
 |tup l=>obtain⟨l,e,o,ho,r⟩:=x;exact⟨l,e,o,k _ ho,r⟩
 |bytes l=>refine kH x λb t e o ho r=>?_;clear x;exact⟨b,t,e,o,k _ ho,r⟩
 |bar l=>obtain⟨l,e,o,ho,r⟩:=x;exact⟨l,e,o,k _ ho,r⟩
 |rng a b c=>exact k _ x
 |_=>exact x
theorem pN{a b c:Int}(h:0<c):((b-a+(c-1))/c).toNat=(Builtin.Range.rangeSize a b c).toNat:=by
 unfold Builtin.Range.rangeSize
 simp only[gt_iff_lt,h,if_true]
 split
 ·rename_i hab
  have:b-a+(c-1)=(b-a-1)+c:=by lia
  rw[this,Int.add_ediv_of_dvd_right (Int.dvd_refl c),Int.ediv_self (by lia)]
 ·have:(b-a+(c-1))/c<=0:=by
   have h1:(b-a+(c-1))/c<1:=Int.ediv_lt_of_lt_mul h (by lia)
   lia
  lia
theorem mB{a b c:Int}(h:0<c):0<=Builtin.Range.rangeSize a b c:=by
 unfold Builtin.Range.rangeSize
 simp only[gt_iff_lt,h,if_true]
 split
 ·have:=Int.ediv_nonneg (a:=b-a-1) (b:=c) (by lia) (by lia)
  lia
 ·lia
section
variable {w:World}{A:Around}{E:Value->Shared->Prop}{hO:Heap}{N:Addr->Prop}{μ:List P2}{H:Hp}{s:Shared}
theorem tS.ext{i:Nat}(x:tS w N μ s.heap d c I i)(S:Std w hO N μ H s)(X:Ext F μ s μ' s')(hF:∀a,F a->N a)(hI:¬F I):tS w N μ' s'.heap d c I i:=by
 obtain⟨n,v,r,q⟩:=x
 exact⟨n,v,aW (X.up hF) r,q.at λo e=>X.keep I o hI (S.not_own n) e⟩
theorem VR.less(k:∀a,N a->N' a)(x:VR w N' μ h d v):VR w N μ h d v:=
 aW ⟨λ_ _ e=>e,λ_ e=>.inl e,λ_ e=>.inl (k _ e),λ_ _ _ _ e=>e⟩ x
theorem Std.less(k:∀a,N a->N' a)(S:Std w hO N' μ H s):Std w hO N μ H s:=
 ⟨⟨S.hr.len,λn p d hp hd=>fT ⟨λ_ _ e=>e,λ_ e=>.inl e,λ_ e=>.inl (k _ e),λ_ _ _ _ e=>e⟩ d p (λ_ e=>e) (λ_ e=>e) (S.hr.rel n p d hp hd),λp hp=>⟨λz=>(S.hr.nn p hp).1 (k _ z),λz=>(S.hr.nn p hp).2 (k _ z)⟩,S.hr.sep⟩,
   S.base,S.low,λa q=>S.nlow a (k _ q)⟩
theorem Std.moreN{t:Nat}(S:Std w hO N μ H s)(g:∀a o,s.heap.get? a=some o->h'.get? a=some o)(k:∀a,N' a->N a\/(s.heap.get? a=none/\h'.get? a≠none)):Std w hO N' μ H { s with heap:=h',toks:=t }:=by
 have U:Up N μ s.heap N' μ h':=⟨λ_ _ e=>e,λ_ e=>.inl e,λa e=>(k a e).imp id (·.1),λa o _ _ e=>g a o e⟩
 have alive:∀p∈μ,s.heap.get? p.1≠none/\s.heap.get? p.2≠none:=λp hp=>⟨S.own_lt ⟨p,hp,.inl rfl⟩,S.own_lt ⟨p,hp,.inr rfl⟩⟩
 refine⟨⟨S.hr.len,λn p d hp hd=>fT U d p (λo=>g _ o) (λo=>g _ o) (S.hr.rel n p d hp hd),λp hp=>⟨λz=>?_,λz=>?_⟩,S.hr.sep⟩,λa o e=>g _ _ (S.base a o e),S.low,λa q=>?_⟩
 ·rcases k _ z with z|⟨z,_⟩
  ·exact(S.hr.nn p hp).1 z
  ·exact(alive p hp).1 z
 ·rcases k _ z with z|⟨z,_⟩
  ·exact(S.hr.nn p hp).2 z
  ·exact(alive p hp).2 z
 ·rcases k _ q with z|⟨z,z'⟩
  ·exact⟨(S.nlow a z).1,iX g a (S.nlow a z).2⟩
  ·refine⟨?_,z'⟩
   induction e:hO.get? a using Option.casesOn with
   |none=>rfl
   |some o=>rw[S.base a o e]at z;injection z
theorem vS(x:VR w N μ s.heap d v)(g:∀a o,s.heap.get? a=some o->h'.get? a=some o)(k:∀a,N' a->N a\/s.heap.get? a=none):VR w N' μ h' d v:=
 aW ⟨λ_ _ e=>e,λ_ e=>.inl e,k,λa o _ _ e=>g a o e⟩ x
noncomputable def fW (N:Addr->Prop) (I:Addr) (a:Addr):Prop:=N a\/a=I
theorem wV.alive{i:Nat}(x:wV h I i c v):h.get? I≠none:=by
 induction c using V.casesOn with
 |lst l=>obtain⟨l,e,o,ho,r⟩:=x;rw[ho];simp
 |tup l=>obtain⟨l,e,o,ho,r⟩:=x;rw[ho];simp
 |bytes l=>refine kH x λb t e o ho r=>?_;clear x;rw[ho];simp
 |bar l=>obtain⟨l,e,o,ho,r⟩:=x;rw[ho];simp
 |rng a b c=>have x:h.get? I=_:=x;rw[x];simp
 |_=>exact x.elim
inductive Src (w:World) (N:Addr->Prop) (μ:List P2) (h:Heap):V->List V->Value->Prop
 |lst (l:List V) (a:Addr) (us:List Value) (c1:bR h a "list" us) (c2:bJ w N μ h l us):Src w N μ h (.lst l) l (.ref a)
 |tup (l:List V) (a:Addr) (us:List Value) (c1:bR h a "tuple" us) (c2:bJ w N μ h l us):Src w N μ h (.tup l) l (.ref a)
 |bar (b:Array UInt8) (a:Addr) (c1:h.get? a=some { cls:=.type "bytearray",data:=.bytearray b 0 }):Src w N μ h (.bar (bC b)) ((bC b).map .int) (.ref a)
 |bytes (b:Array UInt8) (t:Tok):Src w N μ h (.bytes (bC b)) ((bC b).map .int) (.bytes b t)
 |rng (a b c:Int) (p:Addr) (h0:0<c) (sm:Builtin.Range.small a b c=true) (c1:∃t u v,IsRange h p a b c t u v):Src w N μ h (.rng a b c) ((cF a b c).map .int) (.ref p)
noncomputable def O7:V->Option (List V)
 | .tup l=>some l
 | .lst l=>some l
 | .bytes l=>some (l.map .int)
 | .bar l=>some (l.map .int)
 | .rng a b c=>if 0<c then some ((cF a b c).map .int)else none
 |_=>none
theorem MX(hc:content H d=some c)(e:items H d=some vs):O7 c=some vs:=by
 unfold items at e
 rw[hc]at e
 rcases c<;>exact e
theorem xR(S:Std w hO N μ H s)(x:VR w N μ s.heap d v)(hc:content H d=some c)(e:items H d=some vs):Src w N μ s.heap c vs v:=by
 have e:=MX hc e
 induction c using V.casesOn with
 |bytes l=>obtain rfl:=Option.some.inj e;obtain⟨b,t,rfl,rfl⟩:=u1 S x hc;exact .bytes b t
 |tup l=>obtain rfl:=Option.some.inj e;refine aE (IP S x hc) λa us e91 c1 c2=>?_;subst e91;exact .tup _ a us c1 c2
 |lst l=>obtain rfl:=Option.some.inj e;refine aE (oP S x hc) λa us e92 c1 c2=>?_;subst e92;exact .lst _ a us c1 c2
 |bar l=>obtain rfl:=Option.some.inj e;refine aE (xA S x hc) λa b e93 c1 e94=>?_;subst e93;subst e94;exact .bar b a c1
 |rng a b c=>
   refine cB (aX S x hc trivial) λp e95 cr _=>?_
   subst e95
   obtain⟨⟨_,sm,h0⟩,c1⟩:=cr
   have e:(if 0<c then some ((cF a b c).map V.int)else none)=some vs:=e
   rw[if_pos h0]at e
   obtain rfl:=Option.some.inj e
   exact .rng a b c p.1 h0 sm c1
 |_=>injection e
theorem mD(S:Std w hO N μ H s)(x:VR w N μ s.heap d v)(hc:content H d=some c)(e:items H d=some vs)
  (hQ:∀I s',s.heap.get? I=none->Std w hO (fW N I) μ H s'->Ext no μ s μ s'->tS w (fW N I) μ s'.heap d c I 0->Q (.ref I) s'):wpAny (pm w) A (pyIter v) Q E s:=by
 have fin:∀o,wV (s.heap.push o) s.heap.objs.size 0 c v->Q (.ref s.heap.objs.size) { s with heap:=s.heap.push o }:=λo hi=>by
  have z:=bY (h:=s.heap) (Nat.le_refl _)
  refine hQ _ _ z (S.moreN (t:=s.toks) (bS _ o) λa ha=>?_) (Ext.push o) ⟨.inr rfl,v,vS x (bS _ o) λa ha=>?_,hi⟩
  ·exact ha.imp id λq=>(show a=s.heap.objs.size from q)▸⟨z,hi.alive⟩
  ·exact ha.imp id λq=>(show a=s.heap.objs.size from q)▸z
 clear hQ
 induction xR S x hc e using Src.casesOn with
 |lst l a us c1 c2=>exact wpAny_pyIter_list c1.isList (fin _ ⟨_,rfl,_,Heap.get?_push_size _ rfl,rfl,rfl⟩)
 |tup l a us c1 c2=>exact wpAny_pyIter_tuple c1.isTuple (fin _ ⟨_,rfl,_,Heap.get?_push_size _ rfl,rfl,rfl⟩)
 |bar b a c1=>exact BF.pyIter_bar c1 (fin _ ⟨_,rfl,_,Heap.get?_push_size _ rfl,rfl,rfl⟩)
 |bytes b t=>exact KBw.pyIter_bytes (fin _ ⟨_,_,rfl,_,Heap.get?_push_size _ rfl,rfl,rfl⟩)
 |rng a b c p h0 sm c1=>
   refine xX c1 λt u v c1=>?_
   refine wpAny_pyIter_range c1 sm (fin _ ?_)
   show IsRangeIter _ _ _ _ _
   have e1:a+((0:Nat):Int)*c=a:=by simp
   have e2:Builtin.Range.rangeSize a b c-((0:Nat):Int)=Builtin.Range.rangeSize a b c:=by simp
   rw[e1,e2]
   exact Heap.get?_push_size _ rfl
theorem Std.atI(S:Std w hO N μ H s)(hI:N I){t:Nat}(k:Heap.ExtBut I s.heap h')(al:h'.get? I≠none):Std w hO N μ H { s with heap:=h',toks:=t }/\Ext (· =I) μ s μ { s with heap:=h',toks:=t }:=by
 have alv:∀a,s.heap.get? a≠none->h'.get? a≠none:=λa q=>by
  by_cases e:a=I
  ·rw[e];exact al
  ·induction z:s.heap.get? a using Option.casesOn with
   |none=>exact absurd z q
   |some o=>rw[k a o e z];simp
 exact⟨S.frame (λa o hn e=>k a o (λz=>hn (z▸hI)) e) alv,⟨_,_,rfl⟩,⟨[],by simp⟩,λ_ q=>.inl q,λa o hf _ e=>k a o hf e,alv⟩
theorem vQ{i:Nat}(hi:((bC b).map V.int)[i]? =some dv):∃u:UInt8,b[i]? =some u/\dv= .int u.toNat:=by
 unfold bC at hi
 rw[List.getElem?_map,List.getElem?_map]at hi
 refine aT (Option.map_eq_some_iff.mp hi) λj hj e96=>?_
 subst e96
 refine aT (Option.map_eq_some_iff.mp hj) λu hu e97=>?_
 subst e97
 exact⟨u,by simpa using hu,rfl⟩
theorem D3{a b c:Int}{i:Nat}(h0:0<c)(hi:((cF a b c).map V.int)[i]? =some dv):(i:Int)<Builtin.Range.rangeSize a b c/\dv= .int (a+c*i):=by
 unfold cF at hi
 rw[List.getElem?_map,List.getElem?_map]at hi
 refine aT (Option.map_eq_some_iff.mp hi) λj hj e98=>?_
 subst e98
 refine aT (Option.map_eq_some_iff.mp hj) λu hu e99=>?_
 subst e99
 obtain⟨lt,e1⟩:=List.getElem?_eq_some_iff.mp hu
 rw[List.getElem_range]at e1
 subst e1
 rw[List.length_range,pN h0]at lt
 exact⟨by omega,rfl⟩
theorem E7{a b c:Int}{i:Nat}(hit:IsRangeIter h' I (a+i*c+c) (Builtin.Range.rangeSize a b c-i-1) c):wV h' I (i+1) (.rng a b c) v:=by
 show IsRangeIter _ _ _ _ _
 have e1:a+((i+1:Nat):Int)*c=a+i*c+c:=by rw[Int.natCast_succ,Int.add_mul];omega
 have e2:Builtin.Range.rangeSize a b c-((i+1:Nat):Int)=Builtin.Range.rangeSize a b c-i-1:=by omega
 rw[e1,e2]
 exact hit
theorem AU{i:Nat}(S:Std w hO N μ H s)(hN:N I)(r:VR w N μ s.heap d v)(q:wV s.heap I i c v)(hc:content H d=some c)(e:items H d=some vs)(hi:vs[i]? =some dv)
  (hQ:∀y s',VR w N μ s'.heap dv y->Std w hO N μ H s'->Ext (· =I) μ s μ s'->wV s'.heap I (i+1) c v->Q (some y) s'):wpAny (pm w) A (pyNext (.ref I)) Q E s:=by
 have fin:∀(y:Value) (h':Heap) (t:Nat),Heap.SameBut I s.heap h'->wV h' I (i+1) c v->(VR w N μ s.heap dv y\/PR μ dv y)->Q (some y) { s with heap:=h',toks:=t }:=λy h' t sb it' hy=>by
  obtain⟨S',X⟩:=S.atI hN (t:=t) sb.extBut it'.alive
  have U:Up N μ s.heap N μ h':=X.up λa ha=>ha▸hN
  exact hQ y _ (hy.elim (aW U) .inl) S' X it'
 clear hQ
 induction xR S r hc e using Src.casesOn with
 |lst l a us c1 c2=>
   refine aT q λl' e' hit=>?_
   clear q
   (injection e' with e;subst e)
   refine aT (i4 c2 _ _ hi) λy hy ry=>?_
   exact wpAny_pyNext_list_item hit c1.isList (by simpa using hy) λh' hit' sb=>fin y h' _ sb ⟨_,rfl,hit'⟩ (.inl ry)
 |tup l a us c1 c2=>
   refine aT q λl' e' hit=>?_
   clear q
   (injection e' with e;subst e)
   refine aT (i4 c2 _ _ hi) λy hy ry=>?_
   exact wpAny_pyNext_tuple_item hit c1.isTuple (by simpa using hy) λh' hit' sb=>fin y h' _ sb ⟨_,rfl,hit'⟩ (.inl ry)
 |bar b a c1=>
   refine aT q λl' e' hit=>?_
   clear q
   (injection e' with e;subst e)
   refine aT (vQ hi) λu hu e910=>?_
   subst e910
   exact BF.next_item hit c1 (c:=u) hu λh' hit' sb=>fin _ h' _ sb ⟨_,rfl,hit'⟩ (.inr ⟨_,rfl⟩)
 |bytes b t=>
   refine c8 q λb' t' e' hit=>?_
   clear q
   (injection e' with e e9;subst e e9)
   refine aT (vQ hi) λu hu e911=>?_
   subst e911
   exact KBw.next_item hit (c:=u) hu λh' hit' sb=>fin _ h' _ sb ⟨_,_,rfl,hit'⟩ (.inr ⟨_,rfl⟩)
 |rng a b c p h0 sm c1=>
   obtain⟨lt,rfl⟩:=D3 h0 hi
   refine wpAny_pyNext_range_item (show IsRangeIter s.heap I (a+i*c) (Builtin.Range.rangeSize a b c-i) c from q) (by omega) λh' hit' sb=>fin _ h' _ sb (E7 hit') (.inr ⟨s.toks,?_⟩)
   rw[Int.mul_comm]
theorem w3{i:Nat}(S:Std w hO N μ H s)(x:tS w N μ s.heap d c I i)(hc:content H d=some c)(e:items H d=some vs)(hi:vs[i]? =some dv)
  (hQ:∀v s',VR w N μ s'.heap dv v->Std w hO N μ H s'->Ext (· =I) μ s μ s'->tS w N μ s'.heap d c I (i+1)->Q (some v) s'):wpAny (pm w) A (pyNext (.ref I)) Q E s:=by
 obtain⟨hN,v,r,q⟩:=x
 exact AU S hN r q hc e hi λy s' ry S' X it'=>hQ y s' ry S' X ⟨hN,v,aW (X.up λa ha=>ha▸hN) r,it'⟩
theorem o6{i:Nat}(hh:A.handled=none)(S:Std w hO N μ H s)(x:tS w N μ s.heap d c I i)(hc:content H d=some c)(e:items H d=some vs)(hi:vs.length=i)
  (hQ:∀h' t,Heap.ExtBut I s.heap h'->Q none { s with heap:=h',toks:=t }):wpAny (pm w) A (pyNext (.ref I)) Q E s:=by
 obtain⟨hN,v,r,q⟩:=x
 induction xR S r hc e using Src.casesOn with
 |lst l a us c1 c2=>
   refine aT q λl' e' hit=>?_
   clear q
   (injection e' with e;subst e)
   have:=aV c2
   exact wpAny_pyNext_list_end hh hit c1.isList (by simp;omega) λh' k=>hQ h' _ k
 |tup l a us c1 c2=>
   refine aT q λl' e' hit=>?_
   clear q
   (injection e' with e;subst e)
   have:=aV c2
   exact wpAny_pyNext_tuple_end hh hit c1.isTuple (by simp;omega) λh' k=>hQ h' _ k
 |bar b a c1=>
   refine aT q λl' e' hit=>?_
   clear q
   (injection e' with e;subst e)
   rw[List.length_map,cE]at hi
   exact BF.next_end hh hit c1 (by simp at hi;simp;omega) λh' t k=>hQ h' t k
 |bytes b t=>
   refine c8 q λb' t' e' hit=>?_
   clear q
   (injection e' with e;subst e)
   rw[List.length_map,cE]at hi
   exact KBw.next_end hh hit (by simp at hi;simp;omega) λh' k=>hQ h' _ k
 |rng a b c p h0 sm c1=>
   unfold cF at hi
   rw[List.length_map,List.length_map,List.length_range,pN h0]at hi
   have:=mB (a:=a) (b:=b) h0
   exact wpAny_pyNext_range_end hh (show IsRangeIter s.heap I (a+i*c) (Builtin.Range.rangeSize a b c-i) c from q) (by omega) λh' k=>hQ h' _ k
theorem JZ{i:Nat}(S:Std w hO N μ H s)(x:tS w N μ s.heap d c I i)(hc:content H d=some c)(e:items H d=some vs)(hf:fits vs=true)(hi:vs[i]? =some dv)
 (hQ:∀v s',VR w N μ s'.heap dv v->Std w hO N μ H s'->Ext (· =I) μ s μ s'->tS w N μ s'.heap d c I (i+1)->Q (some v) s'):wpAny (pm w) A (pyNext (.ref I)) Q E s:=w3 S x hc e hi hQ
theorem KG{i:Nat}(hh:A.handled=none)(S:Std w hO N μ H s)(x:tS w N μ s.heap d c I i)(hc:content H d=some c)(e:items H d=some vs)(hf:fits vs=true)(hi:vs.length=i)
 (hQ:∀h' t,Heap.ExtBut I s.heap h'->Q none { s with heap:=h',toks:=t }):wpAny (pm w) A (pyNext (.ref I)) Q E s:=o6 hh S x hc e hi hQ
theorem Std.dropI{t:Nat}(S:Std w hO (fW N I) μ H s)(hI:¬N I)(k:Heap.ExtBut I s.heap h'):Std w hO N μ H { s with heap:=h',toks:=t }:=by
 have no:∀p∈μ,p.1≠I/\p.2≠I:=λp hp=>⟨λz=>(S.hr.nn p hp).1 (.inr z),λz=>(S.hr.nn p hp).2 (.inr z)⟩
 have U:Up (fW N I) μ s.heap N μ h':=⟨λ_ _ e=>e,λ_ e=>.inl e,λ_ e=>.inl (.inl e),λa o hn _ e=>k a o (λz=>hn (.inr z)) e⟩
 refine⟨⟨S.hr.len,λn p d hp hd=>?_,λp hp=>⟨λz=>(S.hr.nn p hp).1 (.inl z),λz=>(S.hr.nn p hp).2 (.inl z)⟩,S.hr.sep⟩,λa o e=>?_,S.low,λa q=>⟨(S.nlow a (.inl q)).1,?_⟩⟩
 ·have hm:=List.mem_of_getElem? hp
  exact fT U d p (λo=>k _ o (no p hm).1) (λo=>k _ o (no p hm).2) (S.hr.rel n p d hp hd)
 ·refine k a o (λz=>?_) (S.base a o e)
  have:=(S.nlow a (.inr z)).1
  rw[this]at e;injection e
 ·have hne:a≠I:=λz=>hI (z▸q)
  induction z:s.heap.get? a using Option.casesOn with
  |none=>exact absurd z (S.nlow a (.inl q)).2
  |some o=>rw[k a o hne z];simp
theorem Ext.dropI{t:Nat}(X:Ext (λa=>F a\/a=I) μ s μ' s')(hI:s.heap.get? I=none)(hn:¬own μ' I)(k:Heap.ExtBut I s'.heap h'):Ext F μ s μ' { s' with heap:=h',toks:=t }:=by
 obtain⟨⟨h1,t1,rfl⟩,p,o,kp,z⟩:=X
 refine⟨⟨h',t,rfl⟩,p,o,λa ob hf ho e=>?_,λa e=>?_⟩
 ·have hne:a≠I:=λq=>by rw[q,hI]at e;injection e
  exact k a ob hne (kp a ob (λq=>q.elim hf hne) ho e)
 ·have hne:a≠I:=λq=>e (q▸hI)
  have:=z a e
  induction q:h1.get? a using Option.casesOn with
  |none=>exact absurd q this
  |some ob=>show h'.get? a≠none;rw[k a ob hne q];simp
end
end Mine
end
section
open PySem PySem.W PyProof.Rows PySem.SeqAt PySem.Builtin
namespace Mine
namespace BF
theorem GS:typeLookup (.type "bytearray") "__bytes__"=pure none:=by rw[typeLookup_type,builtinLookup_eq_fast];kernel_rfl
theorem KV:typeLookup (.type "bytearray") "__index__"=pure none:=by rw[typeLookup_type,builtinLookup_eq_fast];kernel_rfl
theorem look_buffer:typeLookup (.type "bytearray") "__buffer__"=pure (some (.builtin "bytearray.__buffer__")):=by rw[typeLookup_type,builtinLookup_eq_fast];kernel_rfl
theorem look_release:typeLookup (.type "bytearray") "__release_buffer__"=pure (some (.builtin "bytearray.__release_buffer__")):=by rw[typeLookup_type,builtinLookup_eq_fast];kernel_rfl
theorem GX:typeLookup (.type "bytes") "__bytes__"=pure (some (.builtin "bytes.__bytes__")):=by rw[typeLookup_type,builtinLookup_eq_fast];kernel_rfl
section
variable {prog:Program}{w:World}{A:Around}{E:Value->Shared->Prop}{s:Shared}{a:Addr}{b:Array UInt8}
theorem own_buffer(hT:s.TypeIs (.ref a) "bytearray")(h:Q true s):wpAny (model prog w) A (Bytes.slotIsOwn (.ref a) "__buffer__") Q E s:=by
 have key:∀x:String,x="bytearray"->wpAny (model prog w) A (isInstance (.ref a) (.type x)) Q E s:=λx hx=>by rw[hx];exact wpAny_isInstance hT sub_self h
 delta Bytes.slotIsOwn
 refine wpAny_bind (wpAny_specialOf hT look_buffer ?_)
 dsimp only
 split
 ·rename_i hx
  exact absurd hx (by decide+kernel)
 ·exact key _ (by decide+kernel)
theorem own_release(hT:s.TypeIs (.ref a) "bytearray")(h:Q false s):wpAny (model prog w) A (Bytes.ownRelease (.ref a)) Q E s:=by
 have key:∀(x:String) (Q:Bool->Shared->Prop),x="bytearray"->Q true s->wpAny (model prog w) A (isInstance (.ref a) (.type x)) Q E s:=λx Q hx h=>by rw[hx];exact wpAny_isInstance hT sub_self h
 delta Bytes.ownRelease Bytes.slotIsOwn
 refine wpAny_bind (wpAny_bind (wpAny_specialOf hT look_release ?_))
 dsimp only
 split
 ·rename_i hx
  exact absurd hx (by decide+kernel)
 ·exact key _ _ (by decide+kernel) (wpAny_pure h)
theorem CO{id:String}{full:Bool}{Q:Option (Array UInt8)->Shared->Prop}(ho:s.heap.get? a=some (aZ b))(h:Q (some b) s):wpAny (model prog w) A (Bytes.buffer? id (.ref a) full) Q E s:=by
 have hT:s.TypeIs (.ref a) "bytearray":=⟨_,ho,rfl⟩
 refine wpAny_bind (wpAny_specialOf hT look_buffer ?_)
 refine wpAny_bind (own_buffer hT ?_)
 refine wpAny_bind (wpAny_specialOf hT look_buffer ?_)
 refine wpAny_bind (own_release hT ?_)
 exact wpAny_bind (dO ho (wpAny_pure h))
theorem D4(ho:s.heap.get? a=some (aZ b))(h:Q none s):wpAny (model prog w) A (asStr? (.ref a)) Q E s:=by
 exact wpAny_bind (wpAny_load ho (wpAny_pure h))
theorem qU{Q:Value->Shared->Prop}(ho:s.heap.get? a=some (aZ b))(hz:b.size<=sizeLine)
  (hQ:∀t k,Q (.bytes b t) { s with toks:=k }):codeAny (model prog w) A (.call (.builtin "bytes.__new__") ⟨[.type "bytes",.ref a],[]⟩) (wants Q E) s:=by
 refine codeAny_of_tree ?_
 show wpAny _ A.in1 (do checkBuiltinCall "bytes.__new__" ⟨[.type "bytes",.ref a],[]⟩;again (.builtin "bytes.__new__" ⟨[.type "bytes",.ref a],[]⟩)) _ _ s
 refine wpAny_bind (wpAny_of_eq (F.bm_newCall _) (wpAny_pure ⟨plainId_quiet F.bm_plain _,codeAny_builtin F.bm_entry ?_⟩))
 rw[Around.under_plainId F.bm_plain _]
 have hT:s.TypeIs (.ref a) "bytearray":=⟨_,ho,rfl⟩
 refine wpAny_bind (wpAny_of_eq (a:=true) rfl ?_)
 refine bm_if_false rfl ?_
 refine wpAny_bind (wpAny_of_eq F.bm_sub ?_)
 refine bm_if_false rfl ?_
 refine wpAny_bind (wpAny_of_eq (F.bm_bind _) ?_)
 refine wpAny_bind (wpAny_of_eq (a:=()) rfl ?_)
 refine wpAny_bind (wpAny_of_eq (a:=()) rfl ?_)
 refine bm_if_false rfl ?_
 refine wpAny_bind (wpAny_specialOf hT GS ?_)
 refine wpAny_bind (wpAny_bind (D4 ho (wpAny_pure ?_)))
 refine bm_if_false rfl ?_
 refine wpAny_bind (wpAny_specialOf hT KV ?_)
 refine bm_if_true rfl ?_
 first
  |show wpAny _ _ (Builtin.Bytes.buffer? "bytes.__new__" (.ref a) true >>= _) _ _ _
  |(refine wpAny_bind ?_;show wpAny _ _ (Builtin.Bytes.buffer? "bytes.__new__" (.ref a) true >>= _) _ _ _)
 refine wpAny_bind (CO ho ?_)
 refine wpAny_bind (wpAny_rule (wpAny_bind (wpAny_mkBytes ?_ hz)))
 show wpAny _ _ (if(Value.type "bytes"==Value.type "bytes")=true then _ else _) _ _ _
 refine bm_if_true (by decide) ?_
 first
  |exact wpAny_pure (hQ _ _)
  |exact wpAny_bind (wpAny_pure (wpAny_pure (hQ _ _)))
theorem nG(hQ:Q (.bytes b t) s):codeAny (model prog w) A (.call (.builtin "bytes.__new__") ⟨[.type "bytes",.bytes b t],[]⟩) (wants Q E) s:=by
 refine codeAny_of_tree ?_
 show wpAny _ A.in1 (do checkBuiltinCall "bytes.__new__" ⟨[.type "bytes",.bytes b t],[]⟩;again (.builtin "bytes.__new__" ⟨[.type "bytes",.bytes b t],[]⟩)) _ _ s
 refine wpAny_bind (wpAny_of_eq (F.bm_newCall _) (wpAny_pure ⟨plainId_quiet F.bm_plain _,codeAny_builtin F.bm_entry ?_⟩))
 rw[Around.under_plainId F.bm_plain _]
 refine wpAny_bind (wpAny_of_eq (a:=true) rfl ?_)
 refine bm_if_false rfl ?_
 refine wpAny_bind (wpAny_of_eq F.bm_sub ?_)
 refine bm_if_false rfl ?_
 refine wpAny_bind (wpAny_of_eq (F.bm_bind _) ?_)
 refine wpAny_bind (wpAny_of_eq (a:=()) rfl ?_)
 refine wpAny_bind (wpAny_of_eq (a:=()) rfl ?_)
 refine bm_if_false rfl ?_
 refine wpAny_bind (wpAny_specialOf (typeIs_bytes _ _ _) GX ?_)
 refine wpAny_bind (wpAny_rule (wpAny_bind (wpAny_typeOf (typeIs_bytes _ _ _) ?_)))
 refine bm_if_true (by decide) ?_
 show wpAny _ _ (if(Value.type "bytes"==Value.type "bytes")=true then _ else _) _ _ _
 refine bm_if_true (by decide) ?_
 first
  |exact wpAny_pure hQ
  |exact wpAny_bind (wpAny_pure (wpAny_pure hQ))
theorem call_bytes_bar{Q:Value->Shared->Prop}(ho:s.heap.get? a=some (aZ b))(hz:b.size<=sizeLine)(hQ:∀t k,Q (.bytes b t) { s with toks:=k }):wpAny (model prog w) A (call (.type "bytes") [.ref a]) Q E s:=by
 refine callType_codes (Q₁:=λobj sA=>sA.TypeIs obj "bytes"/\Q obj sA) F.bm_called (F.bm_typeCall _) F.entry_object_init
  (qU ho hz λt k=>⟨PySem.W.typeIs_bytes _ _ _,hQ t k⟩) λobj sA h₁=>?_
 exact⟨h₁.1,F.args_object_init_2 obj _,object_init_meets F.bm_called.init.lookup F.bm_called.made (by decide) prog w A.in1 _ sA ⟨h₁.1,rfl,h₁.2⟩⟩
theorem call_bytes_bytes(hQ:Q (.bytes b t) s):wpAny (model prog w) A (call (.type "bytes") [.bytes b t]) Q E s:=by
 refine callType_codes (Q₁:=λobj sA=>sA.TypeIs obj "bytes"/\Q obj sA) F.bm_called (F.bm_typeCall _) F.entry_object_init
  (nG ⟨PySem.W.typeIs_bytes _ _ _,hQ⟩) λobj sA h₁=>?_
 exact⟨h₁.1,F.args_object_init_2 obj _,object_init_meets F.bm_called.init.lookup F.bm_called.made (by decide) prog w A.in1 _ sA ⟨h₁.1,rfl,h₁.2⟩⟩
end
end BF
end Mine
end
section
open PySem PySem.W PyProof.Rows PySem.SeqAt PySem.Builtin
open PySem.Sem (wp)
namespace Mine
noncomputable abbrev pJ (Q:Value->Shared->Prop):Flow->Shared->Prop:=λf s'=>match f with| .ret v=>Q v s'|_=>False
theorem zY{id:String}{args:Args}(h:lX.contains id=false):IW (.builtin id args)=true:=by
 show(!lX.contains id)=true
 rw[h];rfl
namespace G
section
variable {M:Model}{A:Around}{s:Shared}
theorem bindL{α β:Type}{m:Sem α}{f:α->Sem β}{Q:β->Shared->Prop}(h:wpAny M A m (λa s'=>aD M A (f a) Q s') (λ_ _=>False) s):aD M A (m >>= f) Q s:=bind (leaf h)
theorem if_false{α:Type}{c:Bool}{a b:Sem α}{Q:α->Shared->Prop}(hc:c=false)(h:aD M A b Q s):aD M A (if c=true then a else b) Q s:=by subst hc;exact h
theorem if_true{α:Type}{c:Bool}{a b:Sem α}{Q:α->Shared->Prop}(hc:c=true)(h:aD M A a Q s):aD M A (if c=true then a else b) Q s:=by subst hc;exact h
theorem bindE{α β:Type}{t:Sem α}{a:α}{f:α->Sem β}{Q:β->Shared->Prop}(e:t=Pure.pure a)(h:aD M A (f a) Q s):aD M A (t >>= f) Q s:=by rw[e];exact bind (pure h)
end
section
variable {prog:Program}{w:World}{A:Around}{s:Shared}
noncomputable abbrev FinG (prog:Program) (w:World) (A:Around) (R:Flow->Shared->Prop):Fin->Shared->Prop:=λfin s'=>match fin with| .done f=>R f s'| .again c'=>c'.quiet=true/\bE (model prog w) A c' R s'
theorem codeBuiltin{id:String}{args:Args}{b:Builtin}{R:Flow->Shared->Prop}(ok:IW (.builtin id args)=true)(hb:entryFor table id=some b)
  (h:aD (model prog w) (A.under (.builtin id args)) (b args) (FinG prog w A R) s):bE (model prog w) A (.builtin id args) R s:=by
 refine codeTree ok ?_
 show aD _ _ (match entryFor table id with|some b=>b args|none=>unsupported ((withoutEnding? id "#data").getD id)) _ s
 rw[hb];exact h
theorem callBuiltin{id:String}{args:Args}{b:Builtin}{R:Flow->Shared->Prop}(ok:IW (.builtin id args)=true)(hp:plainId id=true)(hb:entryFor table id=some b)
  (hc:wpAny (model prog w) A.in1 (checkBuiltinCall id args) (λ_ s'=>aD (model prog w) A.in1 (b args) (FinG prog w A R) s') (λ_ _=>False) s):bE (model prog w) A (.call (.builtin id) args) R s:=by
 refine codeTree rfl ?_
 have e:A.under (.call (.builtin id) args)=A.in1:=Around.under_plain rfl rfl
 rw[e]
 show aD _ _ (do checkBuiltinCall id args;again (.builtin id args)) _ s
 refine bindL (wpAny_mono hc (λ_ s' h=>pure ⟨plainId_quiet hp _,codeBuiltin ok hb ?_⟩) λ_ _ z=>z)
 rw[Around.under_plainId hp _]
 exact h
theorem callType{T newId initId:String}{args:List Value}{Q Q₁:Value->Shared->Prop}(ft:TypeCalled T newId initId)(hct:checkTypeCall T ⟨args,[]⟩=Pure.pure ())
  (hnew:bE (model prog w) A.in1 (.call (.builtin newId) ⟨.type T::args,[]⟩) (pJ Q₁) s)
  (hnext:∀obj sA,Q₁ obj sA->sA.TypeIs obj T/\bE (model prog w) A.in1 (.call (.builtin initId) ⟨obj::args,[]⟩) (pJ (λr sB=>r= .none/\Q obj sB)) sA):
  aD (model prog w) A (PySem.call (.type T) args) Q s:=by
 refine NW ft.mro λc tl hmro=>?_
 refine call (codeTree rfl ?_)
 show aD _ _ (callAny (.type T) ⟨args,[]⟩) _ s
 refine pure ⟨Code.quiet_builtin _ (by decide+kernel),codeBuiltin (zY (by decide+kernel)) F.entry_type_call ?_⟩
 rw[Around.under_plain (weight_type_call_type T args []) rfl]
 show aD _ _ (if(Value.type T==Value.type "type")=true then _ else _) _ s
 refine if_false ft.notType ?_
 show aD _ _ (if(((Manifest.find? T).bind (·.mro.findSome? λt=>(Manifest.find? t).bind λb=>if b.noNew then some true else if b.attrs.any (·.1=="__new__")then some false else none)).getD false)=true then _ else _) _ s
 refine if_false ft.canCreate ?_
 refine bindE hct ?_
 refine bindE hmro ?_
 refine if_false rfl ?_
 refine bindE ft.made ?_
 refine bind (pure ?_)
 refine bind (holding (call (codeMono hnew λf sA hf=>?_)))
 rcases f with(_|_|_|obj)<;>try exact hf.elim
 obtain⟨hT,hi⟩:=hnext _ _ hf
 refine bindL (wpAny_isInstance hT ft.sub ?_)
 refine if_false rfl ?_
 refine bind (holding ?_)
 refine bindL (wpAny_specialOf hT ft.init.lookup ?_)
 refine holding (bindE (ft.init.bind obj) (bind (call ?_)))
 refine codeMono hi λf sB hf=>?_
 rcases f with(_|_|_|r)<;>try exact hf.elim
 obtain⟨rfl,hq⟩:=hf
 refine pure ?_
 refine if_false rfl ?_
 exact pure hq
end
end G
namespace BF
theorem B5(v:Value):Bytes.bindOptional "bytearray.__init__" "bytearray" ["source","encoding","errors"] [v] []=pure [some v,none,none]:=by kernel_rfl
theorem wM:typeLookup (.type "bytes") "__index__"=pure none:=by rw[typeLookup_type,builtinLookup_eq_fast];kernel_rfl
section
variable {prog:Program}{w:World}{A:Around}{E:Value->Shared->Prop}{s:Shared}{a:Addr}{b c:Array UInt8}
theorem lV{f:Array UInt8->Array UInt8}{Q:Unit->Shared->Prop}(ho:s.heap.get? a=some (aZ b))(hz:(f b).size<=sizeLine)
  (h:∀h',h'.get? a=some (aZ (f b))->Heap.SameBut a s.heap h'->Q () { s with heap:=h' }):wpAny (model prog w) A (Bytes.write (.ref a) f) Q E s:=by
 show wpAny _ A (updateBytearray a f) Q E s
 refine wpAny_bind (wpAny_load ho ?_)
 show wpAny _ _ (update a (Obj.mapBytearray f) >>= λ_=>lookBehind a) _ _ _
 refine wpAny_bind (wpAny_update ho ?_)
 have h2:(s.heap.update a (Obj.mapBytearray f)).get? a=some (aZ (f b)):=Heap.get?_update_self (Obj.mapBytearray f) ho rfl
 refine wpAny_lookBehind h2 ?_ (h _ h2 (Heap.SameBut.update ..))
 show(if(f b).size > sizeLine then some "bytearray:memory"else none)=none
 rw[if_neg (Nat.not_lt.mpr hz)]
theorem u9{id:String}{full:Bool}{t:Tok}:Bytes.buffer? id (.bytes b t) full=pure (some b):=by
 delta Bytes.buffer?
 rw[KBy.special_eq KBy.look_buffer,KBy.own_buffer,KBy.own_release]
 rcases full<;>kernel_rfl
theorem yO{Q:Bool->Shared->Prop}(ho:s.heap.get? a=some (aZ b))(h:Q false s):aD (model prog w) A (Bytes.exported (.ref a)<||> (do return (<-Bytes.exportsOf (.ref a)) > 0)) Q s:=by
 refine G.bind (wA ?_)
 refine G.bind (G.leaf ?_)
 exact wpAny_bind (wpAny_load ho (wpAny_pure (G.pure h)))
theorem zO:plainId "bytearray.__init__"=true:=by decide+kernel
theorem J4{t:Tok}{R:Flow->Shared->Prop}(ho:s.heap.get? a=some (aZ b))(hz:c.size<=sizeLine)(h:∀h',h'.get? a=some (aZ c)->Heap.SameBut a s.heap h'->R (.ret .none) { s with heap:=h' }):
  bE (model prog w) A (.call (.builtin "bytearray.__init__") ⟨[.ref a,.bytes c t],[]⟩) R s:=by
 have hT:s.TypeIs (.ref a) "bytearray":=⟨_,ho,rfl⟩
 refine G.callBuiltin (zY (by decide+kernel)) zO zA (rV.check _ _ _ _ _ _ _ _ hT (vA _ _) ?_)
 show aD _ _ (Bytes.ownRelease (.ref a) >>= _) _ s
 refine G.bindL (own_release hT ?_)
 refine G.if_false rfl ?_
 refine G.bindE (B5 _) ?_
 refine G.bindE (a:=()) rfl ?_
 refine G.bindE (a:=()) rfl ?_
 refine G.bind (yO ho ?_)
 refine G.if_false rfl ?_
 refine G.bindL (lV ho (Nat.zero_le _) λh₁ hoA sb1=>?_)
 refine G.bindE (a:=none) rfl ?_
 refine G.if_false rfl ?_
 refine G.bindE (a:=()) rfl ?_
 refine G.bindL (wpAny_specialOf (typeIs_bytes _ _ _) wM ?_)
 refine G.if_false rfl ?_
 refine G.bindE u9 ?_
 refine G.bind (G.rule ?_)
 refine G.bindL (lV (s:={ s with heap:=h₁ }) hoA hz λh₂ ho2 sb2=>?_)
 exact G.pure (h h₂ ho2 (sb1.trans sb2))
theorem call_new(hz:c.size<=sizeLine)(hQ:∀h',h'.get? s.heap.objs.size=some (aZ c)->(∀a o,s.heap.get? a=some o->h'.get? a=some o)->Q (.ref s.heap.objs.size) { s with heap:=h' }):
  aD (model prog w) A (PySem.call (.type "bytearray") [.bytes c t]) Q s:=by
 refine G.callType (Q₁:=λobj sA=>obj= .ref s.heap.objs.size/\sA={ s with heap:=s.heap.push (aZ #[]) }) called (yP _) ?_ λobj sA h₁=>?_
 ·refine λΓ p hc hΓ o=>wpCode_mono (λr s' z=>?_) (EE (A:=A.in1) (E:=λ_ _=>False) (Q₁:=λobj sA=>obj= .ref s.heap.objs.size/\sA={ s with heap:=s.heap.push (aZ #[]) }) _ ⟨rfl,rfl⟩ Γ p hc hΓ)
  rcases r with e|(_|_|_|v)<;>exact z
 ·obtain⟨rfl,rfl⟩:=h₁
  have ho:(s.heap.push (aZ #[])).get? s.heap.objs.size=some (aZ #[]):=Heap.get?_push_size _ rfl
  refine⟨⟨_,ho,rfl⟩,J4 (s:={ s with heap:=s.heap.push (aZ #[]) }) ho hz λh' ho' sb=>⟨rfl,hQ h' ho' λa o e=>(sb.2 a (Nat.ne_of_lt (Heap.lt_size e))).trans (Heap.get?_push_of_some _ e)⟩⟩
end
end BF
end Mine
end
section
open PySem PySem.W PyProof.Rows PySem.SeqAt PySem.Builtin
namespace Mine
namespace BF
section
variable {prog:Program}{w:World}{A:Around}{E:Value->Shared->Prop}{s:Shared}{a:Addr}{b:Array UInt8}
theorem G9(ho:s.heap.get? a=some (aZ b))(h:Q false s):wpAny (model prog w) A (Builtin.List.listLengthHint (.ref a)) Q E s:=by
 refine wpAny_bind (wpAny_specialOf ⟨_,ho,rfl⟩ slot_len.lookup ?_)
 generalize hid:("bytearray.__len__":String)=id0
 wp_delta
 rw[show splitId id0=some ("bytearray","__len__")from by subst hid;decide+kernel]
 subst hid
 refine wpAny_bind (wpAny_isInstance (T:="bytearray") (b:=true) ⟨_,ho,rfl⟩ sub_self ?_)
 refine wpAny_ite_split (λhab=>absurd hab (by decide)) (λ_=>?_)
 refine wpAny_ite_split (λ_=>?_) (λhab=>absurd (by decide+kernel) hab)
 refine wpAny_bind (wpAny_typeOf ⟨_,ho,rfl⟩ ?_)
 exact wpAny_pure h
noncomputable abbrev N6 (b:Array UInt8) (i:Nat) (v:Value):Prop:=∃c u,b[i]? =some c/\v= .int (c.toNat:Int) u
theorem yK{R:Result->Shared->Prop}(hh:A.handled=none)(ho:s.heap.get? a=some (aZ b))(hlen:b.size<=2 ^ 24)(S:Addr)(res:Value)(cO:Nat)(hS:s.heap.get? S=some { cls:=.type "list",data:=.seq #[] cO })
  (hR:∀h' tk acc' c',(∀b o,b≠S->s.heap.get? b=some o->h'.get? b=some o)->h'.get? S=some { cls:=.type "list",dict:=none,data:=.seq acc' c',slots:= #[] }->
   ItemsOf (N6 b) acc' b.size->R (.ok (.ret res)) { s with heap:=h',toks:=tk }):
  wpAny (model prog w) A.in1 (Builtin.List.listExtendWith (.ref S) (.ref a) res)
   (λfin s'=>match fin with| .done f=>R (.ok f) s'| .again c'=>c'.quiet=true/\codeAny (model prog w) A c' R s') (λe s'=>R (.error e) s') s:=by
 have hSa:S≠a:=λe=>by rw[e,ho]at hS;simp at hS
 have hSlt:S<s.heap.objs.size:=Heap.lt_size hS
 have hSI:S≠s.heap.objs.size:=Nat.ne_of_lt hSlt
 have haI:a≠s.heap.objs.size:=Nat.ne_of_lt (Heap.lt_size ho)
 have hSf:S∉[s.heap.objs.size,a]:=λhm=>by
  rcases List.mem_cons.mp hm with e|hm
  ·exact hSI e
  ·exact hSa (List.mem_singleton.mp hm)
 have W:=(walks (prog:=prog) (w:=w) (A:=A.in1) hh s.heap.objs.size a b haI).toS
 have key:∀(h:Heap) (cA tk:Nat),IsBarIter h s.heap.objs.size a 0->h.get? a=some (aZ b)->(∀b o,b≠S->s.heap.get? b=some o->h.get? b=some o)->
   h.get? S=some { cls:=.type "list",data:=.seq #[] cA }->codeAny (model prog w) A (.builtin "list.extend.loop" ⟨[.ref S,.ref s.heap.objs.size,res],[]⟩) R { s with heap:=h,toks:=tk }:=by
  intro h cA tk hit ha hk hS1
  refine codeAny_extend_loopS W (by rw[sizeLine_eq];lia) S hSf res b.size 0 _ #[] cA rfl (Nat.zero_le _) ⟨hit,ha⟩ hS1 (ItemsOf.nil _) λs' acc' c' hm hS' hacc=>?_
  rw[Moved.eq_with hm]
  refine hR s'.heap s'.toks acc' c' (λb o hb e=>hm.heap b o (λhmem=>?_) (hk b o hb e)) hS' hacc
  rcases List.mem_cons.mp hmem with e'|hmem
  ·exact hb e'
  ·exact absurd (Heap.lt_size e) (by rw[List.mem_singleton.mp hmem];exact Nat.lt_irrefl _)
 refine wpAny_bind (wpAny_typeOf (T:="bytearray") ⟨_,ho,rfl⟩ ?_)
 have h1:Builtin.List.listSameRef (.ref S) (.ref a)=false:=by simp[Builtin.List.listSameRef,hSa]
 have h2:(Value.type "bytearray"==Value.type "list")=false:=by decide
 have h3:(Value.type "bytearray"==Value.type "tuple")=false:=by decide
 simp only[h1,h2,h3,Bool.or_false,Bool.false_eq_true,if_false]
 refine wpAny_bind (pyIter_bar ho ?_)
 refine wpAny_bind (wpAny_holding (G9 (Heap.get?_push_of_some _ ho) ?_))
 have hit1:IsBarIter (s.heap.push { cls:=.type "bytearray_iterator",data:=.fields #[.ref a,.int 0 0] }) s.heap.objs.size a 0:=⟨_,Heap.get?_push_size _ rfl,rfl,rfl⟩
 have haA:=Heap.get?_push_of_some { cls:=.type "bytearray_iterator",data:=.fields #[.ref a,.int 0 0] } ho
 have hS1:=Heap.get?_push_of_some { cls:=.type "bytearray_iterator",data:=.fields #[.ref a,.int 0 0] } hS
 refine wpAny_ite_split (λhab=>absurd hab (by decide)) (λ_=>wpAny_pure ⟨plainId_quiet F.plain_extend_loop _,key _ cO _ hit1 haA (λb o _ e=>Heap.get?_push_of_some _ e) hS1⟩)
theorem qO{R:Result->Shared->Prop}(hh:A.handled=none)(ho:s.heap.get? a=some (aZ b))(hlen:b.size<=2 ^ 24)(S:Addr)(hS:s.heap.get? S=some { cls:=.type "list",data:=.seq #[] })
  (hR:∀h' tk acc' c',(∀b o,b≠S->s.heap.get? b=some o->h'.get? b=some o)->h'.get? S=some { cls:=.type "list",dict:=none,data:=.seq acc' c',slots:= #[] }->
   ItemsOf (N6 b) acc' b.size->R (.ok (.ret .none)) { s with heap:=h',toks:=tk }):
  wpAny (model prog w) A.in1 (Builtin.«list.__init__» ⟨[.ref S,.ref a],[]⟩)
   (λfin s'=>match fin with| .done f=>R (.ok f) s'| .again c'=>c'.quiet=true/\codeAny (model prog w) A c' R s') (λe s'=>R (.error e) s') s:=by
 have hSa:S≠a:=λe=>by rw[e,ho]at hS;simp at hS
 show wpAny _ _ (do let old <-Builtin.List.listItems (.ref S);Builtin.List.listUpdate (.ref S) (λ_=> #[]);letGo old.toList.reverse;Builtin.List.listExtendWith (.ref S) (.ref a) .none) _ _ s
 refine wpAny_bind ?_
 refine wpAny_bind (wpAny_seqItems hS rfl (wpAny_pure ?_))
 show wpAny _ _ (updateSeq S (λ_=> #[]) >>= λ_=>letGo (#[]:Array Value).toList.reverse >>= λ_=>Builtin.List.listExtendWith (.ref S) (.ref a) .none) _ _ s
 refine wpAny_bind (wpAny_updateSeq hS rfl ?_)
 have hS2:=Heap.get?_update_self (Obj.mapSeq (λ_=>(#[]:Array Value))) hS rfl
 have oth:∀b o,b≠S->s.heap.get? b=some o->(s.heap.update S (Obj.mapSeq (λ_=>(#[]:Array Value)))).get? b=some o:=
  λb o hb e=>(Heap.get?_update_other _ _ (Ne.symm hb)).trans e
 refine wpAny_bind (wpAny_letGo ?_)
 refine yK hh (oth a _ (Ne.symm hSa) ho) hlen S .none _ hS2 λh' tk acc' c' hk hS' hacc=>?_
 exact hR h' tk acc' c' (λb o hb e=>hk b o hb (oth b o hb e)) hS' hacc
theorem call_list_bar(hh:A.handled=none)(ho:s.heap.get? a=some (aZ b))(hlen:b.size<=2 ^ 24)
  (hQ:∀h' tk acc' c',(∀b o,s.heap.get? b=some o->h'.get? b=some o)->
   h'.get? s.heap.objs.size=some { cls:=.type "list",dict:=none,data:=.seq acc' c',slots:= #[] }->ItemsOf (N6 b) acc' b.size->Q (.ref s.heap.objs.size) { s with heap:=h',toks:=tk }):
  wpAny (model prog w) A (call (.type "list") [.ref a]) Q E s:=by
 refine callType_codes (Q₁:=λobj sA=>obj= .ref s.heap.objs.size/\sA={ s with heap:=s.heap.push { cls:=.type "list",data:=.seq #[] } }) F.called_list (F.typeCall_list_1 _) F.entry_list_init
  (code_list_new _ ⟨rfl,rfl⟩) λobj sA h₁=>?_
 obtain⟨rfl,rfl⟩:=h₁
 have hS:(s.heap.push { cls:=.type "list",data:=.seq #[] }).get? s.heap.objs.size=some { cls:=.type "list",data:=.seq #[] }:=Heap.get?_push_size _ rfl
 refine⟨⟨_,hS,rfl⟩,F.args_list_init_2 _ _,qO (A:=A.in1) hh (Heap.get?_push_of_some _ ho) hlen _ hS λh' tk acc' c' hk hS' hacc=>?_⟩
 exact⟨rfl,hQ h' tk acc' c' (λb o e=>hk b o (Nat.ne_of_lt (Heap.lt_size e)) (Heap.get?_push_of_some _ e)) hS' hacc⟩
end
end BF
end Mine
end
section
open PySem PySem.W PyProof.Rows PySem.SeqAt PySem.Builtin
namespace Mine
section
variable {α:Type}(bad:α)(as:List V)(H:Hp)(keep:Bool)(k:V->Hp->α)
theorem uK:builtin bad "len" as H keep k=(match as with
 | [d]=>match content H d with
   |some (.bytes l)=>guard bad (fits l) (k (.int l.length) H)
   |some (.bar l)=>guard bad (fits l) (k (.int l.length) H)
   |some (.tup l)=>guard bad (fits l) (k (.int l.length) H)
   |some (.lst l)=>guard bad (fits l) (k (.int l.length) H)
   |_=>bad
 |_=>bad):=by kernel_rfl
theorem qQ:builtin bad "range" as H keep k=(match as with
 | [.int b]=>guard bad (kB b) (k (.rng 0 b 1) H)
 | [.int a,.int b]=>guard bad (kB a&&kB b) (k (.rng a b 1) H)
 | [.int a,.int b,.int c]=>guard bad (decide (0<c)&&decide (c<1000)&&kB a&&kB b) (k (.rng a b c) H)
 |_=>bad):=by kernel_rfl
theorem vL:builtin bad "min" as H keep k=(match as with
 | [.int a,.int b]=>match decide (b<a)with
   |true=>k (.int b) H
   |false=>k (.int a) H
 |_=>bad):=by kernel_rfl
theorem uV:builtin bad "max" as H keep k=(match as with
 | [.int a,.int b]=>match decide (a<b)with
   |true=>k (.int b) H
   |false=>k (.int a) H
 |_=>bad):=by kernel_rfl
theorem uY:builtin bad "sum" as H keep k=(match as with
 | [d]=>match content H d with
   |some (.lst l)=>opt bad (Mine.ints l) λl=>guard bad (fits l&&l.all (λi=>decide (0<=i)&&decide (i<2 ^ 40))) (k (.int (l.foldl (· + ·) 0)) H)
   |_=>bad
 |_=>bad):=by kernel_rfl
theorem qF:builtin bad "bytes" as H keep k=(match as with
 | [d]=>match content H d with
   |some (.lst l)=>opt bad (Mine.ints l) λl=>guard bad (gS l&&fits l) (k (.bytes l) H)
   |some (.bar l)=>guard bad (fits l) (k (.bytes l) H)
   |some (.bytes l)=>guard bad (fits l) (k (.bytes l) H)
   |_=>bad
 |_=>bad):=by kernel_rfl
theorem kQ:builtin bad "bytearray" as H keep k=(match as with
 | [d]=>match content H d with
   |some (.bytes l)=>guard bad (fits l) (match keep with
     |true=>k (.ref H.length) (H++[.bar l])
     |false=>k (.bar l) H)
   |_=>bad
 |_=>bad):=by kernel_rfl
theorem tO:builtin bad "list" as H keep k=(match as with
 | [d]=>match content H d with
   |some (.bar l)=>guard bad (fits l) (k (.lst (l.map .int)) H)
   |_=>bad
 |_=>bad):=by kernel_rfl
end
section
variable {w:World}{A:Around}{E:Value->Shared->Prop}{hO:Heap}{N:Addr->Prop}{μ:List P2}{H:Hp}{s:Shared}
theorem eJ(x:bJ w N μ h [d] vs):∃v,vs=[v]/\VR w N μ h d v:=by
 refine aE (aJ.mp x) λv us e91 a b=>?_
 subst e91
 rw[a8]at b
 subst b
 exact⟨v,rfl,a⟩
theorem g7(x:bJ w N μ h [d,e] vs):∃v u,vs=[v,u]/\VR w N μ h d v/\VR w N μ h e u:=by
 refine aE (aJ.mp x) λv us e92 a b=>?_
 subst e92
 refine aT (eJ b) λu e93 c=>?_
 subst e93
 exact⟨v,u,rfl,a,c⟩
theorem rW(x:bJ w N μ h [d,e,f] vs):∃v u t,vs=[v,u,t]/\VR w N μ h d v/\VR w N μ h e u/\VR w N μ h f t:=by
 refine aE (aJ.mp x) λv us e94 a b=>?_
 subst e94
 refine c8 (g7 b) λu t e95 c=>?_
 subst e95
 exact⟨v,u,t,rfl,a,c⟩
theorem Gv.got(g:Gv w hO N μ H s (λd=>k d H) v s'):Got w hO N μ s k v s':=by
 obtain⟨d,a,b,c,e⟩:=g
 exact⟨d,H,μ,a,b,c,e⟩
theorem eI(S:Std w hO N μ H s)(x:VR w N μ s.heap d v)(e:content H d=some (.bytes l)):∃b t,v= .bytes b t/\bC b=l:=u1 S x e
theorem uE(h:gS ns=true):bC (byteArr ns)=ns:=by
 unfold bC byteArr
 rw[List.map_map]
 conv=>rhs;rw[<-List.map_id ns]
 refine List.map_congr_left λn hn=>?_
 have:=List.all_eq_true.mp h n hn
 simp only[Bool.and_eq_true,decide_eq_true_eq]at this
 show((n.toNat.toUInt8).toNat:Int)=n
 rw[Nat.toUInt8,UInt8.toNat_ofNat_of_lt' (by show n.toNat<256;lia)]
 lia
theorem mY:∀(l:List Int) (acc:Int),l.foldl (· + ·) acc=acc+l.sum
 | [],acc=>by simp
 |x::r,acc=>by rw[List.foldl_cons,mY r,List.sum_cons];lia
theorem MQ(hh:A.handled=none)(S:Std w hO N μ H s)(x:VR w N μ s.heap d v)(e:content H d=some (.lst l))(hi:Mine.ints l=some ns)
  (hf:fits ns=true) (ha:ns.all (λi=>decide (0<=i)&&decide (i<2 ^ 40))=true) (hk:k (.int (ns.foldl (· + ·) 0))):wpAny (pm w) A (call (.builtin "sum") [v]) (Gv w hO N μ H s k) E s:=by
 refine cB (aX S x e trivial) λp e96 c _=>?_
 subst e96
 refine cU c λ_ vs c1 r=>?_
 clear c
 have ia:=pX hi r
 have hf:=of_decide_eq_true hf
 -- the values as pairs
 have ex:∀{vs:List Value} {ns:List Int},IntsAre vs ns->∃xs:List (Int×Tok),vs=xs.map (λp=>Value.int p.1 p.2)/\xs.map (·.1)=ns:=by
  intro vs ns h
  induction h with
  |nil=>exact⟨[],rfl,rfl⟩
  |cons n t _ ih=>refine aT ih λxs e1 e2=>?_;clear ih;exact⟨(n,t)::xs,by rw[e1];rfl,by rw[List.map_cons,e2]⟩
 refine aT (ex ia) λxs e1 e2=>?_
 have hs:intItems xs.toArray=vs.toArray:=by rw[e1];simp[intItems]
 have bound:∀n∈ns,0<=n/\n<2 ^ 40:=λn hn=>by
  have:=List.all_eq_true.mp ha n hn
  simpa using this
 have sumb:∀(l:List Int),(∀n∈l,0<=n/\n<2 ^ 40)->0<=l.sum/\l.sum<=2 ^ 40*l.length:=by
  intro l
  induction l with
  |nil=>intro _;simp
  |cons x r ih=>
    intro h
    have h1:=ih λn hn=>h n (List.mem_cons_of_mem _ hn)
    have h2:=h x List.mem_cons_self
    rw[List.sum_cons,List.length_cons]
    lia
 refine sum_intList (xs:=xs.toArray) hh (by rw[hs];exact c1.isList) (λj hj=>?_) λh' tk t' g=>?_
 ·have hj':j<ns.length:=by rw[<-e2];simpa using hj
  constructor
  ·have:numAt xs.toArray j=ns[j]:=by
    unfold numAt
    simp only[List.getElem?_toArray]
    have:(xs.map (·.1))[j]? =some ns[j]:=by rw[e2];simp[hj']
    rw[List.getElem?_map]at this
    rw[this];rfl
   rw[this]
   have:=bound _ (List.getElem_mem hj')
   unfold InLong;lia
  ·rw[preSum_eq]
   simp only
   rw[e2]
   have h1:=sumb (ns.take (j+1)) λn hn=>bound n (List.mem_of_mem_take hn)
   have h2:(ns.take (j+1)).length<1000:=by rw[List.length_take];lia
   unfold InLong;lia
 ·refine Gv.up S g hk (.inl ⟨t',?_⟩)
  rw[preSum_eq]
  simp only
  rw[e2,mY,List.take_of_length_le (by rw[<-e2];simp)]
  simp
end
end Mine
end
section
open PySem PySem.W PyProof.Rows PySem.SeqAt PySem.Builtin
namespace Mine
section
variable {w:World}{A:Around}{E:Value->Shared->Prop}{hO:Heap}{N:Addr->Prop}{μ:List P2}{H:Hp}{s:Shared}
theorem gO(x:own (μ++[p]) a):own μ a\/a=p.1\/a=p.2:=by
 refine aT x λq hq r=>?_
 clear x
 rcases List.mem_append.mp hq with hq|hq
 ·exact .inl ⟨q,hq,r⟩
 ·obtain rfl:=List.mem_singleton.mp hq
  exact .inr r
theorem u2(S:Std w hO N μ H s)(n1:s.heap.get? p.1=none)(n2:s.heap.get? p.2=none)(g:∀a o,s.heap.get? a=some o->h'.get? a=some o):Up N μ s.heap N (μ++[p]) h':=by
 refine⟨λn q e=>?_,λa ha=>?_,λ_ e=>.inl e,λa o _ _ e=>g a o e⟩
 ·rw[List.getElem?_append_left (List.getElem?_eq_some_iff.mp e).1];exact e
 ·rcases gO ha with h|rfl|rfl
  ·exact .inl h
  ·exact .inr (.inr n1)
  ·exact .inr (.inr n2)
theorem Std.track{t:Nat}(S:Std w hO N μ H s)(n1:s.heap.get? p.1=none)(n2:s.heap.get? p.2=none)(g:∀a o,s.heap.get? a=some o->h'.get? a=some o)
  (x:CR w N (μ++[p]) h' c p):Std w hO N (μ++[p]) (H++[c]) { s with heap:=h',toks:=t }/\Ext no μ s (μ++[p]) { s with heap:=h',toks:=t }/\VR w N (μ++[p]) h' (.ref H.length) (.ref p.1):=by
 have U:=u2 S n1 n2 g
 have len:=S.hr.len
 have sep:∀q∈μ,q.1≠p.1/\q.1≠p.2/\q.2≠p.1/\q.2≠p.2:=λq hq=>by
  have a1:=S.own_lt ⟨q,hq,.inl rfl⟩
  have a2:=S.own_lt ⟨q,hq,.inr rfl⟩
  exact⟨λz=>a1 (z▸n1),λz=>a1 (z▸n2),λz=>a2 (z▸n1),λz=>a2 (z▸n2)⟩
 have nn:¬N p.1/\¬N p.2:=⟨λz=>(S.nlow _ z).2 n1,λz=>(S.nlow _ z).2 n2⟩
 have base0:∀a,s.heap.get? a=none->hO.get? a=none:=λa e=>by
  induction q:hO.get? a using Option.casesOn with
  |none=>rfl
  |some o=>rw[S.base a o q]at e;injection e
 refine⟨⟨⟨by simp[len],λn q d hq hd=>?_,λq hq=>?_,?_⟩,λa o e=>g _ _ (S.base a o e),λa ha=>?_,λa q=>⟨(S.nlow a q).1,iX g a (S.nlow a q).2⟩⟩,?_,?_⟩
 ·by_cases hn:n<μ.length
  ·rw[List.getElem?_append_left hn]at hq
   rw[List.getElem?_append_left (by omega)]at hd
   exact fT U d q (λo=>g _ o) (λo=>g _ o) (S.hr.rel n q d hq hd)
  ·rw[List.getElem?_append_right (by omega)]at hq
   rw[List.getElem?_append_right (by omega)]at hd
   have:n-μ.length=0:=by
    have:=(List.getElem?_eq_some_iff.mp hq).1
    simp at this;omega
   rw[this]at hq
   rw[<-len,this]at hd
   simp at hq hd
   subst hq hd
   exact x
 ·rcases List.mem_append.mp hq with hq|hq
  ·exact S.hr.nn q hq
  ·obtain rfl:=List.mem_singleton.mp hq;exact nn
 ·rw[List.pairwise_append]
  refine⟨S.hr.sep,List.pairwise_singleton _ _,λq hq r hr=>?_⟩
  obtain rfl:=List.mem_singleton.mp hr
  exact sep q hq
 ·rcases gO ha with h|rfl|rfl
  ·exact S.low a h
  ·exact base0 _ n1
  ·exact base0 _ n2
 ·refine⟨⟨_,_,rfl⟩,⟨[p],rfl⟩,λa ha=>?_,λa o _ _ e=>g a o e,iX g⟩
  rcases gO ha with h|rfl|rfl
  ·exact .inl h
  ·exact .inr n1
  ·exact .inr n2
 ·refine .inl ⟨p,?_,rfl⟩
  rw[<-len,List.getElem?_append_right (Nat.le_refl _)]
  simp
theorem PU:bO.lookup (Str.ofString "len")=some (Value.builtin "len"):=by kernel_rfl
theorem IQ:bO.lookup (Str.ofString "range")=some (Value.type "range"):=by kernel_rfl
theorem N3:bO.lookup (Str.ofString "min")=some (Value.builtin "min"):=by kernel_rfl
theorem PD:bO.lookup (Str.ofString "max")=some (Value.builtin "max"):=by kernel_rfl
theorem O1:bO.lookup (Str.ofString "sum")=some (Value.builtin "sum"):=by kernel_rfl
theorem HW:bO.lookup (Str.ofString "bytes")=some (Value.type "bytes"):=by kernel_rfl
theorem sM:bO.lookup (Str.ofString "bytearray")=some (Value.type "bytearray"):=by kernel_rfl
theorem MO:bO.lookup (Str.ofString "list")=some (Value.type "list"):=by kernel_rfl
theorem j8(h:wpAny (pm w) A t (Gv w hO N μ H s (λd=>k d H)) (λ_ _=>False) s):aD (pm w) A t (Got w hO N μ s k) s:=
 G.leaf (wpAny_mono h (λ_ _ g=>Gv.got g) λ_ _ z=>z)
theorem o9{P:V->Prop}{as:List V}(e:match as with| [d]=>P d|_=>False):∃d,as=[d]/\P d:=by
 induction as using List.casesOn with
 |nil=>exact e.elim
 |cons d r=>induction r using List.casesOn with
   |nil=>exact⟨d,rfl,e⟩
   |cons _ _=>exact e.elim
theorem HX{P:Int->Int->Prop}{as:List V}(e:match as with| [.int a,.int b]=>P a b|_=>False):∃a b,as=[.int a,.int b]/\P a b:=by
 rcases as with _|⟨d,r⟩
 ·exact False.elim e
 ·obtain⟨a,rfl⟩:=bK (d:=d) (aS (by clear e;rcases d<;>first|exact Eq.refl False|exact Eq.refl _) e)
  rcases r with _|⟨d,r⟩
  ·exact False.elim e
  ·obtain⟨b,rfl⟩:=bK (d:=d) (aS (by clear e;rcases d<;>first|exact Eq.refl False|exact Eq.refl _) e)
   rcases r with _|⟨d,r⟩
   ·exact⟨_,_,rfl,e⟩
   ·exact False.elim e
theorem N7{P1:Int->Prop}{P2:Int->Int->Prop}{P3:Int->Int->Int->Prop}{as:List V}(e:match as with| [.int b]=>P1 b| [.int a,.int b]=>P2 a b| [.int a,.int b,.int c]=>P3 a b c|_=>False):
  (∃b,as=[.int b]/\P1 b)\/(∃a b,as=[.int a,.int b]/\P2 a b)\/∃a b c,as=[.int a,.int b,.int c]/\P3 a b c:=by
 rcases as with _|⟨d,r⟩
 ·exact False.elim e
 ·obtain⟨a,rfl⟩:=bK (d:=d) (aS (by clear e;rcases d<;>first|exact Eq.refl False|exact Eq.refl _) e)
  rcases r with _|⟨d,r⟩
  ·exact .inl ⟨_,rfl,e⟩
  ·obtain⟨b,rfl⟩:=bK (d:=d) (aS (by clear e;rcases d<;>first|exact Eq.refl False|exact Eq.refl _) e)
   rcases r with _|⟨d,r⟩
   ·exact .inr (.inl ⟨_,_,rfl,e⟩)
   ·obtain⟨c,rfl⟩:=bK (d:=d) (aS (by clear e;rcases d<;>first|exact Eq.refl False|exact Eq.refl _) e)
    rcases r with _|⟨d,r⟩
    ·exact .inr (.inr ⟨_,_,_,rfl,e⟩)
    ·exact False.elim e
theorem IX{P:Nat->Prop}{o:Option V}(e:match o with|some (.bytes l)=>guard False (fits l) (P l.length)|some (.bar l)=>guard False (fits l) (P l.length)|some (.tup l)=>guard False (fits l) (P l.length)|some (.lst l)=>guard False (fits l) (P l.length)|_=>False):
  ∃c n,o=some c/\((∃l,c= .bytes l/\fits l=true/\n=l.length)\/(∃l,c= .bar l/\fits l=true/\n=l.length)\/(∃l,c= .tup l/\fits l=true/\n=l.length)\/(∃l,c= .lst l/\fits l=true/\n=l.length))/\P n:=by
 rcases o with _|c
 ·exact False.elim e
 have h:=aS (c:=c.ctorIdx==4||(c.ctorIdx==8||(c.ctorIdx==5||c.ctorIdx==6))) (by clear e;rcases c<;>first|exact Eq.refl False|exact Eq.refl _) e
 rcases Bool.or_eq_true_iff.mp h with h|h
 ·obtain⟨l,rfl⟩:=bM h
  have e:=aA.mp e
  exact⟨_,_,rfl,.inl ⟨_,rfl,e.1,rfl⟩,e.2⟩
 rcases Bool.or_eq_true_iff.mp h with h|h
 ·obtain⟨l,rfl⟩:=kM h
  have e:=aA.mp e
  exact⟨_,_,rfl,.inr (.inl ⟨_,rfl,e.1,rfl⟩),e.2⟩
 rcases Bool.or_eq_true_iff.mp h with h|h
 ·obtain⟨l,rfl⟩:=lQ h
  have e:=aA.mp e
  exact⟨_,_,rfl,.inr (.inr (.inl ⟨_,rfl,e.1,rfl⟩)),e.2⟩
 ·obtain⟨l,rfl⟩:=dJ h
  have e:=aA.mp e
  exact⟨_,_,rfl,.inr (.inr (.inr ⟨_,rfl,e.1,rfl⟩)),e.2⟩
theorem QE{P:List V->Prop}{o:Option V}(e:match o with|some (.lst l)=>P l|_=>False):∃l,o=some (.lst l)/\P l:=by
 rcases o with _|c
 ·exact False.elim e
 ·obtain⟨l,rfl⟩:=dJ (d:=c) (aS (by clear e;rcases c<;>first|exact Eq.refl False|exact Eq.refl _) e)
  exact⟨l,rfl,e⟩
theorem N0{P:List Int->Prop}{o:Option V}(e:match o with|some (.bar l)=>P l|_=>False):∃l,o=some (.bar l)/\P l:=by
 rcases o with _|c
 ·exact False.elim e
 ·obtain⟨l,rfl⟩:=kM (d:=c) (aS (by clear e;rcases c<;>first|exact Eq.refl False|exact Eq.refl _) e)
  exact⟨l,rfl,e⟩
theorem G6{P:List Int->Prop}{o:Option V}(e:match o with|some (.bytes l)=>P l|_=>False):∃l,o=some (.bytes l)/\P l:=by
 rcases o with _|c
 ·exact False.elim e
 ·obtain⟨l,rfl⟩:=bM (d:=c) (aS (by clear e;rcases c<;>first|exact Eq.refl False|exact Eq.refl _) e)
  exact⟨l,rfl,e⟩
theorem CE{P1:List V->Prop}{P2 P3:List Int->Prop}{o:Option V}(e:match o with|some (.lst l)=>P1 l|some (.bar l)=>P2 l|some (.bytes l)=>P3 l|_=>False):(∃l,o=some (.lst l)/\P1 l)\/(∃l,o=some (.bar l)/\P2 l)\/∃l,o=some (.bytes l)/\P3 l:=by
 rcases o with _|c
 ·exact False.elim e
 have h:=aS (c:=c.ctorIdx==6||(c.ctorIdx==8||c.ctorIdx==4)) (by clear e;rcases c<;>first|exact Eq.refl False|exact Eq.refl _) e
 rcases Bool.or_eq_true_iff.mp h with h|h
 ·obtain⟨l,rfl⟩:=dJ h
  exact .inl ⟨l,rfl,e⟩
 rcases Bool.or_eq_true_iff.mp h with h|h
 ·obtain⟨l,rfl⟩:=kM h
  exact .inr (.inl ⟨l,rfl,e⟩)
 ·obtain⟨l,rfl⟩:=bM h
  exact .inr (.inr ⟨l,rfl,e⟩)
theorem GG(l:List UInt8):∀(vs:List Value),vs.length=l.length->(∀(j:Nat) (v:Value),vs[j]? =some v->∃(c:UInt8) (u:Tok),l[j]? =some c/\v=Value.int (c.toNat:Int) u)->bJ w N μ h' ((l.map λu=>(u.toNat:Int)).map V.int) vs:=by
 induction l with
 |nil=>exact λvs hl _=>a8.mpr (List.eq_nil_of_length_eq_zero hl)
 |cons c l ih=>
   intro vs hl hv
   rcases vs with _|⟨v,vs⟩
   ·exact Nat.noConfusion hl
   ·exact c8 (hv 0 v rfl) λc' u h1 h2=>bJ.cons (.inl ⟨u,Option.some.inj h1▸h2⟩) (ih vs (Nat.succ.inj hl) λj v' hj=>hv (j+1) v' hj)
variable {as:List V}{vs:List Value}{keep:Bool}{k:V->Hp->Prop}
theorem OJ(S:Std w hO N μ H s)(rs:bJ w N μ s.heap as vs)(e:builtin False "len" as H keep k):aD (pm w) A (PySem.call (.builtin "len") vs) (Got w hO N μ s k) s:=by
 rw[uK]at e
 refine aT (o9 e) λd e91 e=>?_
 subst e91
 refine aT (eJ rs) λv e92 r=>?_
 subst e92
 refine aE (IX (P:=λn=>k (.int n) H) e) λc n hc h e=>?_
 exact j8 (PS (n:=n) (k:=λd=>k d H) S r hc h e)
theorem HC(S:Std w hO N μ H s)(rs:bJ w N μ s.heap as vs)(e:builtin False "range" as H keep k):aD (pm w) A (PySem.call (.type "range") vs) (Got w hO N μ s k) s:=by
 rw[qQ]at e
 rcases N7 e with⟨b,rfl,e⟩|⟨a,b,rfl,e⟩|⟨a,b,c,rfl,e⟩
 ·refine aT (eJ rs) λv e93 r=>?_
  subst e93
  obtain⟨t,rfl⟩:=r.int
  obtain⟨e1,e2⟩:=aA.mp e
  exact j8 (call_range_1 (Gv.rng S (pB (by decide) e1 (by decide) (by decide)) (by decide) e2))
 ·refine aE (g7 rs) λv u e94 r r'=>?_
  subst e94
  obtain⟨t,rfl⟩:=r.int
  obtain⟨t',rfl⟩:=r'.int
  obtain⟨e1,e2⟩:=aA.mp e
  obtain⟨a,b⟩:=Bool.and_eq_true_iff.mp e1
  exact j8 (call_range_2 (Gv.rng S (pB a b (by decide) (by decide)) (by decide) e2))
 ·refine fU (rW rs) λv u y e95 r r' r''=>?_
  subst e95
  obtain⟨t,rfl⟩:=r.int
  obtain⟨t',rfl⟩:=r'.int
  obtain⟨t'',rfl⟩:=r''.int
  obtain⟨e1,e2⟩:=aA.mp e
  simp only[Bool.and_eq_true,decide_eq_true_eq]at e1
  obtain⟨⟨⟨a,a'⟩,b⟩,c⟩:=e1
  exact j8 (call_range_3 (by omega) (Gv.rng S (pB b c (decide_eq_true (by omega)) a) a e2) (.inl (PyProof.noPylong_small (by omega))))
theorem AH{p:Prop}[Decidable p](e:match decide p with|true=>k a H|false=>k b H):k (if p then a else b) H:=by
 by_cases h:p
 ·rw[if_pos h];rw[decide_eq_true h]at e;exact e
 ·rw[if_neg h];rw[decide_eq_false h]at e;exact e
theorem N4(hh:A.handled=none)(S:Std w hO N μ H s)(rs:bJ w N μ s.heap as vs)(e:builtin False "min" as H keep k):aD (pm w) A (PySem.call (.builtin "min") vs) (Got w hO N μ s k) s:=by
 rw[vL]at e
 refine c8 (HX e) λa b e96 e=>?_
 subst e96
 refine aE (g7 rs) λv u e97 r r'=>?_
 subst e97
 obtain⟨t,rfl⟩:=r.int
 obtain⟨t',rfl⟩:=r'.int
 have e:=AH e
 refine j8 (D2 hh S ?_)
 by_cases q:b<a
 ·rw[if_pos q]at e ⊢;exact e
 ·rw[if_neg q]at e ⊢;exact e
theorem OE(hh:A.handled=none)(S:Std w hO N μ H s)(rs:bJ w N μ s.heap as vs)(e:builtin False "max" as H keep k):aD (pm w) A (PySem.call (.builtin "max") vs) (Got w hO N μ s k) s:=by
 rw[uV]at e
 refine c8 (HX e) λa b e98 e=>?_
 subst e98
 refine aE (g7 rs) λv u e99 r r'=>?_
 subst e99
 obtain⟨t,rfl⟩:=r.int
 obtain⟨t',rfl⟩:=r'.int
 have e:=AH e
 refine j8 (CN hh S ?_)
 by_cases q:b > a
 ·rw[if_pos (show a<b from q)]at e;rw[if_pos q];exact e
 ·rw[if_neg (show ¬a<b from q)]at e;rw[if_neg q];exact e
theorem PE(hh:A.handled=none)(S:Std w hO N μ H s)(rs:bJ w N μ s.heap as vs)(e:builtin False "sum" as H keep k):aD (pm w) A (PySem.call (.builtin "sum") vs) (Got w hO N μ s k) s:=by
 rw[uY]at e
 refine aT (o9 e) λd e910 e=>?_
 subst e910
 refine aT (eJ rs) λv e911 r=>?_
 subst e911
 refine aT (QE e) λl hc e=>?_
 refine aT (bA.mp e) λns hn e=>?_
 obtain⟨e1,e2⟩:=aA.mp e
 obtain⟨a,b⟩:=Bool.and_eq_true_iff.mp e1
 exact j8 (MQ hh S r hc hn a b e2)
theorem HK(hh:A.handled=none)(S:Std w hO N μ H s)(rs:bJ w N μ s.heap as vs)(e:builtin False "bytes" as H keep k):aD (pm w) A (PySem.call (.type "bytes") vs) (Got w hO N μ s k) s:=by
 rw[qF]at e
 refine aT (o9 e) λd e912 e=>?_
 subst e912
 refine aT (eJ rs) λv e913 r=>?_
 subst e913
 rcases CE e with⟨l,hc,e⟩|⟨l,hc,e⟩|⟨l,hc,e⟩
 ·refine aT (bA.mp e) λns hn e=>?_
  obtain⟨e1,e2⟩:=aA.mp e
  obtain⟨a,b⟩:=Bool.and_eq_true_iff.mp e1
  refine cB (aX S r hc trivial) λp e914 c _=>?_
  subst e914
  refine cU c λ_ us c1 c2=>?_
  clear c
  have ia:=pX hn c2
  have hl:=of_decide_eq_true b
  refine j8 (call_bytes_ints c1.isList ia (λn hm=>?_) (by rw[ia.length,sizeLine_eq];omega) hh λh' t k' g=>Gv.up S g e2 (.inl ⟨_,t,rfl,uE a⟩))
  simpa using List.all_eq_true.mp a n hm
 ·obtain⟨e1,e2⟩:=aA.mp e
  refine cB (aX S r hc trivial) λp e915 c _=>?_
  subst e915
  refine cU c λ_ b c1 e916=>?_
  clear c
  subst e916
  have hz:=dZ e1
  exact j8 (BF.call_bytes_bar c1 (by rw[sizeLine_eq];omega) λt k'=>Gv.tok S e2 ⟨_,t,rfl,rfl⟩)
 ·obtain⟨e1,e2⟩:=aA.mp e
  refine c8 (eI S r hc) λb t e917 e918=>?_
  subst e917
  subst e918
  exact j8 (BF.call_bytes_bytes (Gv.now S e2 (.inl ⟨_,t,rfl,rfl⟩)))
theorem uA(S:Std w hO N μ H s)(rs:bJ w N μ s.heap as vs)(e:builtin False "bytearray" as H keep k):aD (pm w) A (PySem.call (.type "bytearray") vs) (Got w hO N μ s k) s:=by
 rw[kQ]at e
 refine aT (o9 e) λd e919 e=>?_
 subst e919
 refine aT (eJ rs) λv e920 r=>?_
 subst e920
 obtain⟨l,hc,e⟩:=G6 e
 obtain⟨e1,e2⟩:=aA.mp e
 refine c8 (eI S r hc) λb t e921 e922=>?_
 subst e921
 subst e922
 have hz:=dZ e1
 refine BF.call_new (by rw[sizeLine_eq];omega) λh' ho g=>?_
 have z:=bY (h:=s.heap) (Nat.le_refl _)
 have cr:∀μ',CR w N μ' h' (.bar (bC b)) (s.heap.objs.size,s.heap.objs.size):=λμ'=>by exact⟨rfl,b,ho,rfl⟩
 induction keep using Bool.casesOn with
 |true=>
   refine qC (S.track (p:=(s.heap.objs.size,s.heap.objs.size)) (t:=s.toks) z z g (cr _)) λS' X R=>?_
   exact⟨_,_,_,e2,S',X,R⟩
 |false=>exact(Gv.up S (t:=s.toks) g e2 (.inr ⟨(s.heap.objs.size,s.heap.objs.size),rfl,S.fresh z z,cr _⟩)).got
theorem IZ(hh:A.handled=none)(S:Std w hO N μ H s)(rs:bJ w N μ s.heap as vs)(e:builtin False "list" as H keep k):aD (pm w) A (PySem.call (.type "list") vs) (Got w hO N μ s k) s:=by
 rw[tO]at e
 refine aT (o9 e) λd e923 e=>?_
 subst e923
 refine aT (eJ rs) λv e924 r=>?_
 subst e924
 refine aT (N0 e) λl hc e=>?_
 obtain⟨e1,e2⟩:=aA.mp e
 refine cB (aX S r hc trivial) λp e925 c _=>?_
 subst e925
 refine cU c λ_ b c1 e926=>?_
 clear c
 subst e926
 have hz:=dZ e1
 have z:=bY (h:=s.heap) (Nat.le_refl _)
 refine j8 (H:=H) (BF.call_list_bar hh c1 (by omega) λh' tk acc c' g ho hi=>?_)
 refine Gv.up S g e2 (.inr ⟨(s.heap.objs.size,s.heap.objs.size),rfl,S.fresh z z,?_⟩)
 refine⟨rfl,acc.toList,⟨c',ho⟩,?_⟩
 obtain⟨hsz,hp⟩:=hi
 refine GG b.toList acc.toList (by simp[hsz]) λj v hj=>?_
 refine c8 (hp j v (by simpa using hj)) λc u h1 h2=>?_
 exact⟨c,u,by simpa using h1,h2⟩
theorem zG(hh:A.handled=none)(hx:x∈d5)(hf:jO x=some f)(S:Std w hO N μ H s)(rs:bJ w N μ s.heap as vs)
  (e:builtin False x as H keep k):aD (pm w) A (PySem.call f vs) (Got w hO N μ s k) s:=by
 rw[K0 hx]at hf
 simp only[d5,List.mem_cons,List.not_mem_nil,or_false]at hx
 rcases hx with rfl|rfl|rfl|rfl|rfl|rfl|rfl|rfl
 ·obtain rfl:=Option.some.inj (PU.symm.trans hf);exact OJ S rs e
 ·obtain rfl:=Option.some.inj (IQ.symm.trans hf);exact HC S rs e
 ·obtain rfl:=Option.some.inj (N3.symm.trans hf);exact N4 hh S rs e
 ·obtain rfl:=Option.some.inj (PD.symm.trans hf);exact OE hh S rs e
 ·obtain rfl:=Option.some.inj (O1.symm.trans hf);exact PE hh S rs e
 ·obtain rfl:=Option.some.inj (HW.symm.trans hf);exact HK hh S rs e
 ·obtain rfl:=Option.some.inj (sM.symm.trans hf);exact uA S rs e
 ·obtain rfl:=Option.some.inj (MO.symm.trans hf);exact IZ hh S rs e
end
end Mine
end
section
open PySem PySem.W PyProof.Rows PySem.SeqAt PySem.Builtin
namespace Mine
noncomputable abbrev dG (x:Int×List Int):V:=.tup [.int x.1,.tup (x.2.map .int)]
theorem rG:∀(l m:List Int),fR (l.map V.int) (m.map V.int)=decide (l=m)
 | [],[]=>rfl
 | [],_::_=>rfl
 |_::_,[]=>rfl
 |x::l,y::m=>by
   rw[List.map_cons,List.map_cons,lY,show bQ (V.int x) (V.int y)=decide (x=y)from rfl,rG l m,Bool.eq_iff_iff]
   simp
theorem pO(x y:Int×List Int):bQ (dG x) (dG y)=decide (x=y):=by
 obtain⟨a,l⟩:=x
 obtain⟨b,m⟩:=y
 show(decide (a=b)&&(fR (l.map V.int) (m.map V.int)&&true))=_
 rw[rG,Bool.and_true,Bool.eq_iff_iff]
 simp[Prod.mk.injEq]
theorem m6:∀(n:Nat) (l m:List Int),dH n (l.map V.int) (m.map V.int)=true
 |n,[],[]=>by rcases n<;>rfl
 |n,[],_::_=>by rcases n<;>rfl
 |n,_::_,[]=>by rcases n<;>rfl
 |n,x::l,y::m=>by
   rw[List.map_cons,List.map_cons,uO,m6 n l m]
   rcases n<;>rfl
theorem xD(x y:Int×List Int):b5 8 (dG x) (dG y)=true:=by
 show(true&&(dH 6 (x.2.map V.int) (y.2.map V.int)&&true))=true
 rw[m6];rfl
section
variable {prog:Program}{w:World}{A:Around}{E:Value->Shared->Prop}{s:Shared}
noncomputable def hU (prog:Program) (w:World) (h:Heap) (x:Int×List Int) (a:Addr):Prop:=∃t i,bR h a "tuple" [.int x.1 t,.ref i]/\∃vs,bR h i "tuple" vs/\ItemsAre (intKind prog w) x.2 vs
theorem rE:∀{l:List Int} {vs:List Value},ItemsAre (intKind prog w) l vs->bJ w' N μ h (l.map .int) vs
 | [],_,.nil=>by rw[List.map_nil,a8]
 |k::l,_,.cons h r=>by
   obtain⟨t,rfl⟩:=Value.isInt_shape h
   rw[List.map_cons,aJ]
   exact⟨_,_,rfl,.inl ⟨t,rfl⟩,rE r⟩
theorem rM:∀{l:List Int} {vs:List Value},bJ w' N μ h (l.map .int) vs->ItemsAre (intKind prog w) l vs
 | [],vs,x=>by rw[List.map_nil,a8]at x;subst x;exact .nil
 |k::l,vs,x=>by
   rw[List.map_cons,aJ]at x
   refine aE x λv us e91 a b=>?_
   clear x
   subst e91
   obtain⟨t,rfl⟩:=a.int
   exact .cons (intKind_is _ _ _ _) (rM b)
theorem hU.vr(k:hU prog w h x a):VR w' no [] h (dG x) (.ref a):=by
 refine kH k λt i h1 vs h2 h3=>?_
 clear k
 have off0:∀b:Addr,off no [] (b,b):=λb=>⟨λz=>z,λz=>z,λ⟨p,hp,_⟩=>(nomatch hp),λ⟨p,hp,_⟩=>(nomatch hp)⟩
 refine .inr ⟨(a,a),rfl,off0 a,?_⟩
 refine⟨rfl,_,h1,?_⟩
 rw[aJ]
 refine⟨_,_,rfl,.inl ⟨t,rfl⟩,?_⟩
 rw[aJ]
 refine⟨_,_,rfl,.inr ⟨(i,i),rfl,off0 i,?_⟩,by rw[a8]⟩
 exact⟨rfl,vs,h2,rE h3⟩
theorem hU.key(k:hU prog w h x a):∃t i n,h.get? a=some { cls:=.type "tuple",data:=.seq #[.int x.1 t,.ref i] n }/\IsTupleKey (intKind prog w) h x.2 i:=by
 refine kH k λt i o92 vs o93 h3=>?_
 clear k
 obtain⟨n,h1⟩:=o92
 obtain⟨n',h2⟩:=o93
 exact⟨t,i,n,h1,_,vs.toArray,n',h2,rfl,rfl,by simpa using h3⟩
theorem wI{K:Type}[DecidableEq K]{knd:PySem.KeyKind prog w K}{ks:List K}{a:Addr}{n:Nat}{Q:Bool->Shared->Prop}(hk:IsTupleKey knd s.heap ks a)(h:Q true s):wpAny (model prog w) A (eqIsQuiet (n+1) (.ref a)) Q E s:=by
 have hT:=hk.typeIs
 refine fU hk λo items n' ho _ hd hi=>?_
 clear hk
 unfold eqIsQuiet
 refine wpAny_bind (wpAny_specialOf hT F.slot_tuple_eq.lookup ?_)
 show wpAny _ _ (isInstance (.ref a) (.type "tuple") >>= _) _ _ s
 refine wpAny_bind (wpAny_isInstance hT isSubtype_tuple_tuple ?_)
 simp only[Bool.not_true,Bool.false_eq_true,if_false]
 refine wpAny_bind (wpAny_seqItems ho hd ?_)
 refine wpAny_bind ?_
 show wpAny _ _ (forIn items _ _) _ _ s
 rw[<-Array.forIn_toList]
 refine wpAny_forIn_list _ (λrest r s'=>r.1=none/\s'=s/\∀v∈rest,carriedByValue v=true) _ ?_ ?_ _ _ ⟨rfl,rfl,hi.byValue⟩
 ·rintro v rest r s' ⟨hr,rfl,hall⟩
  rw[eqIsQuiet_byValue _ (hall v List.mem_cons_self)]
  refine wpAny_bind (wpAny_pure ?_)
  exact wpAny_pure ⟨rfl,rfl,λu hu'=>hall u (List.mem_cons_of_mem _ hu')⟩
 ·rintro⟨r1,r2⟩ s' ⟨hr,rfl,_⟩
  subst hr
  exact wpAny_pure h
theorem zE{x:Int×List Int}{a:Addr}{n:Nat}{Q:Bool->Shared->Prop}(hk:hU prog w s.heap x a)(h:Q true s):wpAny (model prog w) A (eqIsQuiet (n+2) (.ref a)) Q E s:=by
 obtain⟨t,i,n',ho,hk⟩:=hk.key
 have hT:s.TypeIs (.ref a) "tuple":=⟨_,ho,rfl⟩
 unfold eqIsQuiet
 refine wpAny_bind (wpAny_specialOf hT F.slot_tuple_eq.lookup ?_)
 show wpAny _ _ (isInstance (.ref a) (.type "tuple") >>= _) _ _ s
 refine wpAny_bind (wpAny_isInstance hT isSubtype_tuple_tuple ?_)
 simp only[Bool.not_true,Bool.false_eq_true,if_false]
 refine wpAny_bind (wpAny_seqItems ho rfl ?_)
 refine wpAny_bind ?_
 show wpAny _ _ (forIn #[Value.int x.1 t,Value.ref i] _ _) _ _ s
 rw[<-Array.forIn_toList]
 show wpAny _ _ (forIn [Value.int x.1 t,Value.ref i] _ _) _ _ s
 rw[List.forIn_cons]
 rw[eqIsQuiet_byValue (n+1) (v:=Value.int x.1 t) rfl]
 refine wpAny_bind (wpAny_bind (wpAny_pure ?_))
 refine wpAny_pure ?_
 dsimp only
 rw[List.forIn_cons]
 refine wpAny_bind (wpAny_bind (wI hk ?_))
 refine wpAny_pure ?_
 dsimp only
 rw[List.forIn_nil]
 exact wpAny_pure (wpAny_pure h)
noncomputable def gR (prog:Program) (w:World) (x:Int×List Int):Int:=reduceHash (Builtin.Tuple.tupleHashOf [hashInt x.1,tupleKeyHash (intKind prog w) x.2])
theorem rT(hu:A.units+4<cLine)(hk:hU prog w s.heap x a)(h:Q (gR prog w x) { s with toks:=s.toks+(x.2.length+3) }):
  wpAny (model prog w) A (pyHash (.ref a)) Q E s:=by
 obtain⟨t,i,n',ho,hk⟩:=hk.key
 have hT:s.TypeIs (.ref a) "tuple":=⟨_,ho,rfl⟩
 first|unfold pyHashByItsType|skip
 first|refine wpAny_bind (wpAny_cRoomFor_or (.inr (by lia)) ?_)|skip
 refine wpAny_bind (wpAny_specialOf hT F.slot_tuple_hash.lookup ?_)
 show wpAny _ _ (if(some (Value.builtin "tuple.__hash__")==some Value.none)=true then _ else _) Q E s
 rw[if_neg (by rw[beq_builtin_none];exact Bool.false_ne_true)]
 refine wpAny_bind (wpAny_specialOf hT F.slot_tuple_hash.lookup ?_)
 show wpAny _ _ (callSpecialIfBoundUnlessNone? (.ref a) "__hash__" _ >>= _) Q E s
 refine wpAny_bind (wpAny_callSpecialIfBoundUnlessNone?_slot hT F.slot_tuple_hash (wpAny_call_entry F.slot_tuple_hash hT F.entry_tuple_hash ?_ (F.args_tuple_hash_1 _)))
 show wpAny _ _ (Builtin.Tuple.tupleItemsOf (.ref a) >>= _) _ _ s
 refine wpAny_bind (wpAny_tupleItemsOf ho rfl ?_)
 refine wpAny_bind ?_
 rw[<-Array.forIn_toList]
 show wpAny _ _ (forIn [Value.int x.1 t,Value.ref i] _ _) _ _ s
 rw[List.forIn_cons]
 refine wpAny_bind (wpAny_bind (wpAny_pyHash_int ?_))
 refine wpAny_pure ?_
 dsimp only
 rw[List.forIn_cons]
 refine wpAny_bind (wpAny_bind (wpAny_pyHash_tuple (by show _+1<_;lia) hk ?_))
 refine wpAny_pure ?_
 dsimp only
 rw[List.forIn_nil]
 refine wpAny_pure ?_
 show wpAny _ _ (retInt (Builtin.Tuple.tupleHashOf [hashInt x.1,tupleKeyHash (intKind prog w) x.2])) _ _ _
 refine wpAny_ret_mkInt ?_
 show wpAny _ _ (if(decide (-(2:Int) ^ 63<=Builtin.Tuple.tupleHashOf [hashInt x.1,tupleKeyHash (intKind prog w) x.2])&&decide (Builtin.Tuple.tupleHashOf [hashInt x.1,tupleKeyHash (intKind prog w) x.2]<2 ^ 63))=true then _ else _) Q E _
 delta gR reduceHash at h
 have e1:s.toks+1+(x.2.length+1)+1=s.toks+(x.2.length+3):=by lia
 by_cases hr:(decide (-(2:Int) ^ 63<=Builtin.Tuple.tupleHashOf [hashInt x.1,tupleKeyHash (intKind prog w) x.2])&&decide (Builtin.Tuple.tupleHashOf [hashInt x.1,tupleKeyHash (intKind prog w) x.2]<2 ^ 63))=true
 ·rw[if_pos hr]
  rw[if_pos hr]at h
  rw[<-e1]at h
  exact wpAny_pure h
 ·rw[if_neg hr]
  rw[if_neg hr]at h
  rw[<-e1]at h
  exact wpAny_bind (wpAny_rule (wpAny_pure h))
end
noncomputable def wU (prog:Program) (w:World):HeapKind prog w (Int×List Int) where
 is:=hU prog w
 hash:=gR prog w
 draws:=λx=>x.2.length+3
 room:=λA=>A.units+20<cLine
 inj:=λ{h a x y} hx hy=>by
  refine kH hx λt i h1 vs h2 h3=>?_
  clear hx
  refine kH hy λt' i' h1' vs' h2' h3'=>?_
  clear hy
  have e:=h1.same h1'
  simp only[List.cons.injEq,Value.int.injEq,Value.ref.injEq,and_true]at e
  obtain⟨⟨e1,-⟩,rfl⟩:=e
  obtain rfl:=h2.same h2'
  exact Prod.ext e1 (h3.inj h3')
 keeps:=λ{h h' k a d o es ep} x ho hd hs=>by
  refine kH x λt i o94 vs o95 h3=>?_
  clear x
  obtain⟨n,h1⟩:=o94
  obtain⟨n',h2⟩:=o95
  have ne:∀b (ob:Obj) items m,h.get? b=some ob->ob.data= .seq items m->b≠d:=λb ob items m hb hdb z=>by
   rw[z,ho]at hb;obtain rfl:=Option.some.inj hb;rw[hd]at hdb;injection hdb
  exact⟨t,i,⟨n,(hs.2 a (ne a _ _ _ h1 rfl)).trans h1⟩,vs,⟨n',(hs.2 i (ne i _ _ _ h2 rfl)).trans h2⟩,h3⟩
 pyHash:=λhu hk h=>rT (by lia) hk h
 eqBool:=λ{A E s x y a b Q} hu hx hy h=>by
  have:=D5 (s:=s) (dG x) (dG y) 8 A (.ref a) (.ref b) (xD x y) (by lia) (hx.vr (w':=w)) hy.vr
  rw[pO]at this
  exact this _ _ _ _ h
 quiet:=λhk h=>zE hk h
end Mine
end
section
open PySem PySem.W PyProof.Rows PySem.SeqAt PySem.Builtin
namespace Mine
noncomputable def j6 (x:V) (l:List (V×V)):Option Nat:=l.findIdx? λq=>bQ q.1 x
theorem yQ(x:V)(l:List (V×V)):b7 x l=(j6 x l).bind λi=>(l[i]?).map (·.2):=by
 induction l with
 |nil=>rfl
 |cons p r ih=>
   show(match bQ p.1 x with|true=>some p.2|false=>b7 x r)=(List.findIdx? (λq=>bQ q.1 x) (p::r)).bind _
   rw[List.findIdx?_cons]
   rcases bQ p.1 x
   ·rw[if_neg Bool.false_ne_true]
    show b7 x r=_
    rw[ih]
    delta j6
    rw[Option.bind_map]
    rfl
   ·rfl
section
variable {w:World}{A:Around}{E:Value->Shared->Prop}{hO:Heap}{N:Addr->Prop}{μ:List P2}{H:Hp}{s:Shared}
theorem zU:∀{es:List DictEntry},gT w N μ h l es->es.length=l.length:=by
 induction l with
 |nil=>exact λx=>congrArg List.length (hW.mp x)
 |cons p r ih=>exact λx=>fS (fL.mp x) λe us e9 _ _ _ b=>e9▸congrArg (· +1) (ih b)
theorem BE:∀{es:List DictEntry},gT w N μ h l es->∀(j:Nat) (q:V×V),l[j]? =some q->∃e,es[j]? =some e/\VR w N μ h q.1 e.key/\VR w N μ h q.2 e.val/\e.hash=fJ w q.1:=by
 induction l with
 |nil=>exact λx j q e=>iK e
 |cons p r ih=>
   refine λx j q e=>fS (fL.mp x) λen us e9 a b c z=>e9▸ ?_
   rcases j with _|j
   ·obtain rfl:=Option.some.inj e;exact⟨en,rfl,a,b,c⟩
   ·exact ih z j q e
theorem sY{n:Nat}(h:eS n l=true):∀q∈l,aL q.1=n:=by
 induction l with
 |nil=>exact λq hq=>nomatch hq
 |cons p r ih=>
   have h:=cS h
   intro q hq
   rcases List.mem_cons.mp hq with rfl|hq
   ·exact eq_of_beq h.1
   ·exact ih h.2 q hq
theorem iO{z:Int}(hl:eX l=true):aL (.tup [.int z,.tup l])=3:=by
 show(match eX l with|true=>3|false=>0)=3
 rw[hl]
theorem f7(h:aL d=1):∃i,d= .int i:=by
 rcases dM (d:=d) (by rw[h];decide)with⟨i,rfl⟩|⟨x,rfl⟩|⟨z,l,rfl,hl⟩
 ·exact⟨i,rfl⟩
 ·exact(nomatch h)
 ·exact absurd ((iO hl).symm.trans h) (by decide)
theorem fX(h:aL d=2):∃i,d= .str i:=by
 rcases dM (d:=d) (by rw[h];decide)with⟨i,rfl⟩|⟨x,rfl⟩|⟨z,l,rfl,hl⟩
 ·exact(nomatch h)
 ·exact⟨x,rfl⟩
 ·exact absurd ((iO hl).symm.trans h) (by decide)
theorem yX(h:eX l=true):∃m:List Int,l=m.map .int:=by
 induction l with
 |nil=>exact⟨[],rfl⟩
 |cons d r ih=>
   obtain⟨i,rfl,h⟩:=nA h
   obtain⟨m,rfl⟩:=ih h
   exact⟨i::m,rfl⟩
theorem hM(h:aL d=3):∃x,d=dG x:=by
 rcases dM (d:=d) (by rw[h];decide)with⟨i,rfl⟩|⟨x,rfl⟩|⟨z,l,rfl,hl⟩
 ·exact(nomatch h)
 ·exact(nomatch h)
 ·obtain⟨m,rfl⟩:=yX hl
  exact⟨(z,m),rfl⟩
theorem tR(r:VR w N μ h (dG x) v):∃a,v= .ref a/\hU PySem.Challenge.pw_pf0357_01 w h x a:=by
 refine cB r.tup λp e93 _ c=>?_
 subst e93
 refine cU c λ_ vs c1 c2=>?_
 clear c
 refine aE (g7 c2) λv u e94 a b=>?_
 subst e94
 obtain⟨t,rfl⟩:=a.int
 refine cB b.tup λq e95 _ c=>?_
 subst e95
 refine cU c λ_ us c3 c4=>?_
 clear c
 exact⟨p.1,rfl,t,q.1,c1,us,c3,rM c4⟩
theorem kA(x:Int×List Int):fJ w (dG x)=gR PySem.Challenge.pw_pf0357_01 w x:=by
 delta fJ gR tupleKeyHash dG
 simp only[List.map_map]
 rfl
theorem lB(h:aL d≠0):aL d=1\/aL d=2\/aL d=3:=by
 rcases dM h with⟨i,rfl⟩|⟨x,rfl⟩|⟨z,l,rfl,hl⟩
 ·exact .inl rfl
 ·exact .inr (.inl rfl)
 ·exact .inr (.inr (iO hl))
theorem NT(hu:A.units+20<cLine)(hx:aL x≠0)(r:VR w N μ s.heap x xv)(h:∀t,Q (fJ w x) { s with toks:=t }):wpAny (pm w) A (pyHash xv) Q E s:=by
 rcases lB hx with q|q|q
 ·obtain⟨i,rfl⟩:=f7 q
  obtain⟨t,rfl⟩:=r.int
  exact wpAny_pyHash_int (h _)
 ·obtain⟨i,rfl⟩:=fX q
  obtain⟨t,rfl⟩:=r.str
  exact wpAny_pyHash_str (h _)
 ·obtain⟨x,rfl⟩:=hM q
  refine aT (tR r) λa e96 hn=>?_
  subst e96
  refine rT (by lia) hn ?_
  have:=h (s.toks+(x.2.length+3))
  rw[kA]at this
  exact this
theorem AW(p:Value->Bool)(hp:∀q v,aL q=aL x->VR w N μ h q v->p v=bQ q x):∀{es:List DictEntry},gT w N μ h l es->(∀q∈l,aL q.1=aL x)->(es.findIdx? λe=>p e.key)=j6 x l:=by
 induction l with
 |nil=>exact λr _=>(hW.mp r)▸rfl
 |cons q l ih=>
   refine λr hk=>fS (fL.mp r) λe us e9 a b c z=>e9▸ ?_
   have ih:_=List.findIdx? (λq=>bQ q.1 x) l:=ih z λq hq=>hk q (List.mem_cons_of_mem _ hq)
   show _=List.findIdx? (λq=>bQ q.1 x) (q::l)
   rw[List.findIdx?_cons,List.findIdx?_cons,hp q.1 e.key (hk q List.mem_cons_self) a,ih]
theorem z3(r:gT w N μ h l es)(he:e∈es):∃q∈l,VR w N μ h q.1 e.key/\e.hash=fJ w q.1:=by
 obtain⟨j,hj⟩:=List.getElem?_of_mem he
 have hl:=zU r
 obtain⟨lt,-⟩:=List.getElem?_eq_some_iff.mp hj
 obtain⟨q,hq⟩:∃q,l[j]? =some q:=⟨l[j]'(by omega),List.getElem?_eq_getElem _⟩
 refine iY (BE r j q hq) λe' h1 h2 _ h3=>?_
 obtain rfl:=Option.some.inj (hj.symm.trans h1)
 exact⟨q,List.mem_of_getElem? hq,h2,h3⟩
theorem OZ{i m:Int}:Value.isInt i (.int m u)=bQ (.int m) (.int i):=by
 show _=decide (m=i)
 rw[Bool.eq_iff_iff]
 simp[Value.isInt]
theorem OM:Value.isStrOf i (.str m u)=bQ (.str m) (.str i):=by
 show _=(m==i)
 rw[Bool.eq_iff_iff]
 simp[Value.isStrOf]
theorem tH:∀{es:List DictEntry},gT w N μ s.heap l es->(∀q∈l,aL q.1=3)->∃xs:List ((Int×List Int)×Addr×Value),es=xs.map (entryOfKey (wU PySem.Challenge.pw_pf0357_01 w))/\(∀y∈xs,hU PySem.Challenge.pw_pf0357_01 w s.heap y.1 y.2.1)/\l.map (·.1)=xs.map (λy=>dG y.1):=by
 induction l with
 |nil=>exact λr _=>⟨[],hW.mp r,(λy hy=>nomatch hy),rfl⟩
 |cons q l ih=>
   refine λr hk=>fS (fL.mp r) λe us e9 r1 r2 r3 z=>cB (ih z λq hq=>hk q (List.mem_cons_of_mem _ hq)) λxs e1 e2 e3=>?_
   obtain⟨k,d⟩:=q
   obtain⟨y,rfl⟩:=hM (hk (k,d) List.mem_cons_self)
   refine aT (tR r1) λb hb hn=>⟨(y,b,e.val)::xs,?_,λu hu=>?_,congrArg (dG y:: ·) e3⟩
   ·obtain⟨eh,ek,ev⟩:=e
    subst hb r3
    rw[e9,e1,List.map_cons]
    refine congrArg (· ::_) ?_
    show DictEntry.mk (fJ w (dG y)) (.ref b) ev=DictEntry.mk (gR PySem.Challenge.pw_pf0357_01 w y) (.ref b) ev
    rw[kA]
   ·rcases List.mem_cons.mp hu with rfl|hu
    ·exact hn
    ·exact e2 u hu
theorem CZ{i:Int}{n:Nat}(ho:s.heap.get? p=some (dictOf es n))(r:gT w N μ s.heap l es)
  (hk:∀q∈l,aL q.1=1) (h:Q (j6 (.int i) l) s):wpAny (pm w) A (dictFind p (.int i t) (fJ w (.int i))) Q E s:=by
 refine wpAny_dictFind_of (knd:=intKind _ _) (intKind_is _ _ _ _) ho rfl (λe he=>?_) ?_
 ·refine cB (z3 r (List.mem_toArray.mp he)) λqd hq h2 h3=>?_
  obtain⟨m,hm⟩:=f7 (hk qd hq)
  rw[hm]at h2 h3
  obtain⟨u,hu'⟩:=h2.int
  exact⟨m,by rw[hu'];exact intKind_is _ _ _ _,h3⟩
 ·have:=AW (w:=w) (N:=N) (μ:=μ) (h:=s.heap) (x:=.int i) (λv=>(intKind PySem.Challenge.pw_pf0357_01 w).is i v) (λq' v hq rv=>by
   obtain⟨m,rfl⟩:=f7 hq
   obtain⟨u,rfl⟩:=rv.int
   exact OZ (u:=u)) r hk
  rw[List.findIdx?_toArray,this]
  exact h
theorem BR{n:Nat}(ho:s.heap.get? p=some (dictOf es n))(r:gT w N μ s.heap l es)
  (hk:∀q∈l,aL q.1=2) (h:Q (j6 (.str i) l) s):wpAny (pm w) A (dictFind p (.str i t) (fJ w (.str i))) Q E s:=by
 refine wpAny_dictFind_of (knd:=strKind _ _) (strKind_is _ _ _ _) ho rfl (λe he=>?_) ?_
 ·refine cB (z3 r (List.mem_toArray.mp he)) λqd hq h2 h3=>?_
  obtain⟨m,hm⟩:=fX (hk qd hq)
  rw[hm]at h2 h3
  obtain⟨u,hu'⟩:=h2.str
  exact⟨m,by rw[hu'];exact strKind_is _ _ _ _,h3⟩
 ·have:=AW (w:=w) (N:=N) (μ:=μ) (h:=s.heap) (x:=.str i) (λv=>(strKind PySem.Challenge.pw_pf0357_01 w).is i v) (λq' v hq rv=>by
   obtain⟨m,rfl⟩:=fX hq
   obtain⟨u,rfl⟩:=rv.str
   exact OM (u:=u)) r hk
  rw[List.findIdx?_toArray,this]
  exact h
theorem yB{n:Nat}(hu:A.units+20<cLine)(ho:s.heap.get? p=some (dictOf es n))(r:gT w N μ s.heap l es)(ap:d9 l)
 (hk:∀q∈l,aL q.1=3) (rx:VR w N μ s.heap (dG i) xv) (h:Q (j6 (dG i) l) s):wpAny (pm w) A (dictFind p xv (fJ w (dG i))) Q E s:=by
 refine aT (tR rx) λa e99 hn=>?_
 subst e99
 refine cB (tH r λq' hq=>hk q' hq) λxs e1 e2 e3=>?_
 have nd:(xs.map (·.1)).Nodup:=by
  delta d9 at ap
  rw[e3,List.pairwise_map]at ap
  rw[List.Nodup,List.pairwise_map]
  refine ap.imp λ{a b} hab z=>?_
  rw[pO]at hab
  exact of_decide_eq_false hab z
 have idx:j6 (dG i) l=xs.findIdx? λy=>decide (y.1=i):=by
  have e4:j6 (dG i) l=(l.map (·.1)).findIdx? λq=>bQ q (dG i):=by rw[List.findIdx?_map];rfl
  rw[e4,e3,List.findIdx?_map]
  congr 1
  funext y
  exact pO y.1 i
 rw[kA]
 refine wpAny_dictFind_heap (knd:=wU _ _) (xs:=xs) hu hn ho rfl (by simpa using e1) e2 nd (λhno=>?_) λj pv hj=>?_
 ·have:j6 (dG i) l=none:=by
   rw[idx,List.findIdx?_eq_none_iff]
   intro y hy
   obtain⟨j,hj⟩:=List.getElem?_of_mem hy
   by_cases hyi:y.1=i
   ·exact absurd (by rw[hj, <-hyi]) (hno j y.2)
   ·simp[hyi]
  rw[this]at h
  exact h
 ·have:j6 (dG i) l=some j:=by
   rw[idx,List.findIdx?_eq_some_iff_getElem]
   obtain⟨lt,e⟩:=List.getElem?_eq_some_iff.mp hj
   refine⟨lt,by rw[e];simp,λj' hj'=>?_⟩
   have hne:=List.pairwise_iff_getElem.mp nd j' j (by simp;lia) (by simpa using lt) hj'
   simp only[List.getElem_map]at hne
   rw[e]at hne
   simpa using hne
  rw[this]at h
  exact h
theorem ND{n:Nat}(hu:A.units+20<cLine)(ho:s.heap.get? p=some (dictOf es n))(r:gT w N μ s.heap l es)(ap:d9 l)
  (ok:bW x l=true) (rx:VR w N μ s.heap x xv) (h:Q (j6 x l) s):wpAny (pm w) A (dictFind p xv (fJ w x)) Q E s:=by
 delta bW at ok
 simp only[Bool.and_eq_true,bne_iff_ne]at ok
 obtain⟨⟨hx,hs⟩,hf⟩:=ok
 have hk:=sY hs
 rcases lB hx with q|q|q
 ·obtain⟨i,rfl⟩:=f7 q
  obtain⟨t,rfl⟩:=rx.int
  exact CZ ho r hk h
 ·obtain⟨i,rfl⟩:=fX q
  obtain⟨t,rfl⟩:=rx.str
  exact BR ho r hk h
 ·obtain⟨i,rfl⟩:=hM q
  exact yB hu ho r ap (λq' hq=>(hk q' hq).trans q) rx h
theorem O9{n:Nat}(hu:A.units+20<cLine)(ho:s.heap.get? p=some (dictOf es n))(r:gT w N μ s.heap l es)(ap:d9 l)
  (ok:bW x l=true) (rx:VR w N μ s.heap x xv) (hs:∀d v t,b7 x l=some d->VR w N μ s.heap d v->Q (some v) { s with toks:=t }) (hn:∀t,b7 x l=none->Q none { s with toks:=t }):wpAny (pm w) A (dictGet p xv) Q E s:=by
 have hx:aL x≠0:=by
  delta bW at ok
  simp only[Bool.and_eq_true,bne_iff_ne]at ok
  exact ok.1.1
 delta dictGet
 try with_reducible refine wpAny_holding ?_
 refine wpAny_bind (NT hu hx rx λt=>wpAny_bind (ND (s:={ s with toks:=t }) hu ho r ap ok rx ?_))
 have e:=yQ x l
 induction hk:j6 x l using Option.casesOn with
 |none=>
   rw[hk]at e
   exact wpAny_pure (hn t e)
 |some i=>
   rw[hk]at e
   obtain⟨lt,-⟩:=List.findIdx?_eq_some_iff_getElem.mp hk
   have hl:l[i]? =some l[i]:=List.getElem?_eq_getElem lt
   refine iY (BE r i _ hl) λen h1 _ h2 _=>?_
   refine wpAny_bind (wpAny_dictEntries (s:={ s with toks:=t }) ho rfl ?_)
   rw[Option.bind_some,hl]at e
   have:(es.toArray[i]?).map (·.val)=some en.val:=by simp[h1]
   rw[this]
   exact wpAny_pure (hs _ _ t e h2)
theorem DE:(∀q∈l,bQ q.1 x=false)->dD x d l=l++[(x,d)]:=by
 induction l with
 |nil=>exact λ_=>rfl
 |cons q l ih=>
   intro hno
   show(match bQ q.1 x with|true=>(q.1,d)::l|false=>q::dD x d l)=_
   rw[hno q List.mem_cons_self,ih λq hq=>hno q (List.mem_cons_of_mem _ hq)]
   rfl
theorem KJ(y:gT w N μ h m us):∀{es:List DictEntry},gT w N μ h l es->gT w N μ h (l++m) (es++us):=by
 induction l with
 |nil=>exact λx=>(hW.mp x)▸y
 |cons q l ih=>exact λx=>fS (fL.mp x) λe us e9 a b c z=>e9▸gT.cons a b c (ih z)
theorem GY(rx:VR w N μ s.heap x xv)(rd:VR w N μ s.heap d dv)(r:gT w N μ s.heap l es)(hno:∀q∈l,bQ q.1 x=false):gT w N μ s.heap (dD x d l) (es++[⟨fJ w x,xv,dv⟩])/\dD x d l=l++[(x,d)]:=by
 have e:=DE (d:=d) hno
 exact⟨e▸KJ (gT.cons rx rd rfl (hW.mpr rfl)) r,e⟩
theorem x4(rd:VR w N μ s.heap d dv):∀{es:List DictEntry} {i:Nat},gT w N μ s.heap l es->j6 x l=some i->gT w N μ s.heap (dD x d l) (es.modify i λe=>{ e with val:=dv })/\(dD x d l).map (·.1)=l.map (·.1):=by
 induction l with
 |nil=>exact λr hk=>iK hk
 |cons q l ih=>
   refine λr hk=>fS (fL.mp r) λe us e9 r1 r2 r3 z=>e9▸ ?_
   replace hk:List.findIdx? (λq=>bQ q.1 x) (q::l)=some _:=hk
   rw[List.findIdx?_cons]at hk
   show gT w N μ s.heap (match bQ q.1 x with|true=>(q.1,d)::l|false=>q::dD x d l) _/\List.map _ (match bQ q.1 x with|true=>(q.1,d)::l|false=>q::dD x d l)=_
   rcases h1:bQ q.1 x<;>rw[h1]at hk
   ·rw[if_neg Bool.false_ne_true]at hk
    refine aT (Option.map_eq_some_iff.mp hk) λj hj e9=>e9▸ ?_
    obtain⟨a,b⟩:=ih z hj
    exact⟨gT.cons r1 r2 r3 a,congrArg (q.1:: ·) b⟩
   ·rw[if_pos rfl]at hk
    obtain rfl:=Option.some.inj hk
    exact⟨gT.cons r1 rd r3 z,rfl⟩
theorem Q2{n:Nat}(hu:A.units+20<cLine)(ho:s.heap.get? p=some (dictOf es n))(r:gT w N μ s.heap l es)(ap:d9 l)
  (ok:bW x l=true) (rx:VR w N μ s.heap x xv) (rd:VR w N μ s.heap d dv)
  (hQ:∀h' es' n' t,h'.get? p=some (dictOf es' n')->Heap.SameBut p s.heap h'->gT w N μ s.heap (dD x d l) es'->d9 (dD x d l)->Q () { s with heap:=h',toks:=t }):wpAny (pm w) A (dictSet p xv dv) Q E s:=by
 have ok':=ok
 delta bW at ok
 simp only[Bool.and_eq_true,bne_iff_ne]at ok
 obtain⟨⟨hx,_⟩,hf⟩:=ok
 have hf:=of_decide_eq_true hf
 have hlen:=zU r
 delta dictSet
 try with_reducible refine wpAny_holding ?_
 refine wpAny_bind (NT hu hx rx λt=>?_)
 delta dictSetHashed
 try with_reducible refine wpAny_holding ?_
 refine wpAny_bind (ND (s:={ s with toks:=t }) hu ho r ap ok' rx ?_)
 induction hk:j6 x l using Option.casesOn with
 |none=>
   have hno:∀q∈l,bQ q.1 x=false:=by
    delta j6 at hk
    rw[List.findIdx?_eq_none_iff]at hk
    exact hk
   obtain⟨a,b⟩:=GY rx rd r hno
   refine wpAny_bind (wpAny_rule (wpAny_updateDictKeys (hz:=by rw[sizeLine_eq];simp;lia) (s:={ s with toks:=t }) ho rfl (hQ _ (es++[⟨fJ w x,xv,dv⟩]) (n+1) t ?_ (Heap.SameBut.update ..) a ?_)))
   ·rw[Heap.get?_update_self _ ho rfl]
    simp[Obj.mapDictKeys,dictOf]
   ·unfold d9 at ap ⊢
    rw[b,List.map_append,List.pairwise_append]
    refine⟨ap,by simp,λq hq u hu'=>?_⟩
    refine aT (List.mem_map.mp hq) λq' hq' e913=>?_
    subst e913
    simp at hu'
    subst hu'
    exact hno q' hq'
 |some i=>
   obtain⟨a,b⟩:=x4 rd r hk
   refine wpAny_bind (wpAny_rule (wpAny_bind (wpAny_updateDict (s:={ s with toks:=t }) ho rfl (wpAny_point (hQ _ (es.modify i λe=>{ e with val:=dv }) n t ?_ (Heap.SameBut.update ..) a ?_)))))
   ·rw[Heap.get?_update_self _ ho rfl]
    simp[Obj.mapDict,dictOf]
   ·unfold d9 at ap ⊢
    rw[b];exact ap
end
end Mine
end
section
open PySem PySem.W PyProof.Rows PySem.SeqAt PySem.Builtin
namespace Mine
section
variable {w:World}{A:Around}{E:Value->Shared->Prop}{hO:Heap}{N:Addr->Prop}{μ:List P2}{H:Hp}{s:Shared}
theorem tP(S:Std w hO N μ H s)(x:VR w N μ s.heap d v)(e:content H d=some (.dct l)):
  ∃p es n,v= .ref p/\s.heap.get? p=some (dictOf es n)/\gT w N μ s.heap l es/\d9 l/\(p==sysModules)=false:=by
 refine cB (aX S x e trivial) λp e91 c _=>?_
 subst e91
 refine uP c λo92 es n c1 c2=>?_
 clear c
 obtain⟨_,a,b⟩:=o92
 exact⟨p.1,es,n,rfl,c1,c2,a,b⟩
theorem tD{P:Int->Prop}{i:V}(e:match i with| .int j=>P j|_=>False):∃j,i= .int j/\P j:=by
 rcases i<;>first|exact e.elim|exact⟨_,rfl,e⟩
theorem lP{β:Type}{l:List β}{j:Int}{P:β->Prop}(e:guard False (fits l) (opt False (item l j) P)):fits l=true/\∃x,item l j=some x/\P x:=by
 obtain⟨hf,e⟩:=aA.mp e
 exact⟨hf,bA.mp e⟩
inductive RJ (o i:V) (H:Hp) (k:V->Prop):Prop
 |bytes (l:List Int) (j x:Int) (hi:i= .int j) (hc:content H o=some (.bytes l)) (hf:fits l=true) (hx:item l j=some x) (e:k (.int x))
 |bar (l:List Int) (j x:Int) (hi:i= .int j) (hc:content H o=some (.bar l)) (hf:fits l=true) (hx:item l j=some x) (e:k (.int x))
 |tup (l:List V) (j:Int) (x:V) (hi:i= .int j) (hc:content H o=some (.tup l)) (hf:fits l=true) (hx:item l j=some x) (e:k x)
 |lst (l:List V) (j:Int) (x:V) (hi:i= .int j) (hc:content H o=some (.lst l)) (hf:fits l=true) (hx:item l j=some x) (e:k x)
 |dct (l:List (V×V)) (x:V) (hc:content H o=some (.dct l)) (hd:bW i l=true) (hx:b7 i l=some x) (e:k x)
theorem MD{o i:V}{k:V->Prop}(e:oS False H o i k):RJ o i H k:=by
 delta oS at e
 induction hc:content H o using Option.casesOn with
 |none=>rw[hc]at e;exact e.elim
 |some c=>
   rw[hc]at e
   induction c using V.casesOn with
   |bytes l=>refine aT (tD e) λj hj e=>?_;refine cU (lP e) λhf x hx e=>?_;exact .bytes l j x hj hc hf hx e
   |bar l=>refine aT (tD e) λj hj e=>?_;refine cU (lP e) λhf x hx e=>?_;exact .bar l j x hj hc hf hx e
   |tup l=>refine aT (tD e) λj hj e=>?_;refine cU (lP e) λhf x hx e=>?_;exact .tup l j x hj hc hf hx e
   |lst l=>refine aT (tD e) λj hj e=>?_;refine cU (lP e) λhf x hx e=>?_;exact .lst l j x hj hc hf hx e
   |dct l=>obtain⟨hd,e⟩:=aA.mp e;refine aT (bA.mp e) λx hx e=>?_;exact .dct l x hc hd hx e
   |_=>exact e.elim
theorem CU{o i:V}{ov iv:Value}{value slice:Expr}{k:V->Prop}(hu:A.units+30<cLine)(S:Std w hO N μ H s)(xo:VR w N μ s.heap o ov)(xi:VR w N μ s.heap i iv)(e:oS False H o i k):
  wpAny (pm w) A (subscriptTail value slice ov iv) (Gv w hO N μ H s k) E s:=by
 have g:=MD e
 clear e
 induction g using RJ.casesOn with
 |bytes l j x hi hc hf hx e=>
   subst hi
   refine c8 (eI S xo hc) λb t e93 e94=>?_
   subst e93
   subst e94
   obtain⟨u,rfl⟩:=xi.int
   exact fZ ⟨"bytes",_,FB.slot_bytes_getitem.lookup,typeIs_bytes _ _ _,yL S hf hx e⟩
 |bar l j x hi hc hf hx e=>
   subst hi
   refine aE (xA S xo hc) λp b e95 c e96=>?_
   subst e95
   subst e96
   obtain⟨u,rfl⟩:=xi.int
   exact fZ ⟨"bytearray",_,BF.slot_getitem.lookup,⟨_,c,rfl⟩,E8 S c hf hx e⟩
 |tup l j x hi hc hf hx e=>
   subst hi
   refine aE (IP S xo hc) λp vs e97 c r=>?_
   subst e97
   obtain⟨u,rfl⟩:=xi.int
   exact fZ ⟨"tuple",_,PySem.F.slot_tuple_getitem.lookup,c.isTuple.typeIs,item_tup S c r hf hx e⟩
 |lst l j x hi hc hf hx e=>
   subst hi
   refine aE (oP S xo hc) λp vs e98 c r=>?_
   subst e98
   obtain⟨u,rfl⟩:=xi.int
   exact fZ ⟨"list",_,list_getitem_lookup,c.isList.typeIs,GH S c r hf hx e⟩
 |dct l x hc hd hx e=>
   refine kK (tP S xo hc) λp es n e99 c r ap _=>?_
   subst e99
   have hT:s.TypeIs (.ref p) "dict":=⟨_,c,rfl⟩
   refine fZ ⟨"dict",_,slot_dict_getitem.lookup,hT,?_⟩
   unfold getItem
   try with_reducible refine wpAny_holding ?_
   refine wpAny_bind (wpAny_sequenceKey hT (by decide) ?_)
   refine wpAny_bind (wpAny_callSpecial?_slot (name:=Str.ofString "__getitem__") hT slot_dict_getitem
    (wpAny_call_entry slot_dict_getitem hT entry_dict_getitem ?_ (args_dict_getitem _ _)))
   show wpAny _ _ (dictGet p iv >>= _) _ _ s
   refine wpAny_bind (O9 (by show _+1+_<_;lia) c r ap hd xi (λd v t h1 h2=>?_) λt h1=>?_)
   ·rw[hx]at h1
    obtain rfl:=Option.some.inj h1
    exact wpAny_pure ⟨v,rfl,wpAny_pure ⟨_,e,S.toks t,Ext.toks t,h2⟩⟩
   ·rw[hx]at h1;injection h1
inductive SE (o:V) (a:Int) (hi:V) (H:Hp) (k:V->Prop):Prop
 |bytes (l:List Int) (b:Int) (hc:content H o=some (.bytes l)) (hb:IV l.length hi=some b) (hf:fits l=true) (e:k (.bytes (cut l a b)))
 |bar (l:List Int) (b:Int) (hc:content H o=some (.bar l)) (hb:IV l.length hi=some b) (hf:fits l=true) (e:k (.bar (cut l a b)))
 |lst (l:List V) (b:Int) (hc:content H o=some (.lst l)) (hb:IV l.length hi=some b) (hf:fits l=true) (e:k (.lst (cut l a b)))
theorem t8{P:Int->Prop}{o:Option Int}{b:Bool}(e:opt False o λx=>guard False b (P x)):∃x,o=some x/\b=true/\P x:=by
 refine aT (bA.mp e) λx hx e=>?_
 exact⟨x,hx,aA.mp e⟩
theorem MC{o lo hi:V}{k:V->Prop}(e:Mine.slice False H o lo hi k):∃a,IV 0 lo=some a/\SE o a hi H k:=by
 delta Mine.slice at e
 refine aT (bA.mp e) λa ha e=>?_
 refine⟨a,ha,?_⟩
 induction hc:content H o using Option.casesOn with
 |none=>rw[hc]at e;exact e.elim
 |some c=>
   rw[hc]at e
   induction c using V.casesOn with
   |bytes l=>refine cB (t8 e) λb hb hf e=>?_;exact .bytes l b hc hb hf e
   |bar l=>refine cB (t8 e) λb hb hf e=>?_;exact .bar l b hc hb hf e
   |lst l=>refine cB (t8 e) λb hb hf e=>?_;exact .lst l b hc hb hf e
   |_=>exact e.elim
theorem HO{o lo hi:V}{ov lv hv:Value}{value slice:Expr}{k:V->Prop}{sl:Addr}(S:Std w hO N μ H s)(xo:VR w N μ s.heap o ov)(xl:VR w N μ s.heap lo lv)(xh:VR w N μ s.heap hi hv)(hs:s.heap.IsSliceOf sl lv hv .none)(e:Mine.slice False H o lo hi k):
  wpAny (pm w) A (subscriptTail value slice ov (.ref sl)) (Gv w hO N μ H s k) E s:=by
 refine aT (MC e) λa ha e=>?_
 refine iY (lC ha xl (by decide)) λol pl a0 l0 l1=>?_
 induction e using SE.casesOn with
 |bytes l b hc hb hf e=>
   refine iY (lC hb xh (Int.natCast_nonneg _)) λoh ph b0 h0 h1=>?_
   refine c8 (eI S xo hc) λbb t e910 e911=>?_
   subst e910
   subst e911
   rw[show(bC bb).length=bb.size by rw[cE];simp]at h0
   exact fZ ⟨"bytes",_,FB.slot_bytes_getitem.lookup,typeIs_bytes _ _ _,tK S hs pl ph (i5 a0 b0 l0 l1 h0 h1) a0 b0 hf e⟩
 |bar l b hc hb hf e=>
   refine iY (lC hb xh (Int.natCast_nonneg _)) λoh ph b0 h0 h1=>?_
   refine aE (xA S xo hc) λp bb e912 c e913=>?_
   subst e912
   subst e913
   rw[show(bC bb).length=bb.size by rw[cE];simp]at h0
   exact fZ ⟨"bytearray",_,BF.slot_getitem.lookup,⟨_,c,rfl⟩,yY S c hs pl ph (i5 a0 b0 l0 l1 h0 h1) a0 b0 hf e⟩
 |lst l b hc hb hf e=>
   refine iY (lC hb xh (Int.natCast_nonneg _)) λoh ph b0 h0 h1=>?_
   refine aE (oP S xo hc) λp vs e914 c r=>?_
   subst e914
   exact fZ ⟨"list",_,list_getitem_lookup,c.isList.typeIs,xM S c r hs pl ph (i5 a0 b0 l0 l1 h0 h1) a0 b0 hf e⟩
noncomputable def mP (x:Str):Value:=match x=="append"with
 |true=>.builtin "list.append"
 |false=>match x=="index"with
   |true=>.builtin "list.index"
   |false=>.builtin "dict.get"
theorem lE:mP "append"= .builtin "list.append":=by kernel_rfl
theorem m9:mP "index"= .builtin "list.index":=by kernel_rfl
theorem rY:mP "get"= .builtin "dict.get":=by kernel_rfl
theorem mR{H:Hp}{o:V}{x:Str}(h:pA H o x=true):(∃l,content H o=some (.lst l))/\(x="append"\/x="index")\/(∃l,content H o=some (.dct l))/\x="get":=by
 delta pA at h
 generalize content H o=c at h
 rcases c with _|d
 ·exact mN h.symm
 ·rcases Bool.or_eq_true_iff.mp (iL (c:=d.ctorIdx==6||d.ctorIdx==7) (by clear h;rcases d<;>exact Eq.refl _) h)with a|a
  ·revert h
   exact V.lst.elim d (eq_of_beq a) λl h=>.inl ⟨⟨l,rfl⟩,(Bool.or_eq_true_iff.mp h).imp eq_of_beq eq_of_beq⟩
  ·revert h
   exact V.dct.elim d (eq_of_beq a) λl h=>.inr ⟨⟨l,rfl⟩,eq_of_beq h⟩
theorem uB(S:Std w hO N μ H s)(xo:VR w N μ s.heap o ov)(e:pA H o x=true)(h:Q (mP x,[ov]) s):wpAny (pm w) A (getMethod ov x pl) Q E s:=by
 have at':∀{p:Addr} {c:Obj},s.heap.get? p=some c->c.dict=none->∀a,Value.ref p= .ref a->∃o,s.heap.get? a=some o/\o.dict=none:=λc h a q=>⟨_,Value.ref.inj q▸c,h⟩
 rcases mR e with⟨⟨l,hc⟩,hx⟩|⟨⟨l,hc⟩,rfl⟩
 ·refine aE (oP S xo hc) λp vs e915 o916 r=>?_
  subst e915
  obtain⟨n,c⟩:=o916
  rcases hx with rfl|rfl
  ·rw[lE]at h
   exact getMethod_builtin (T:="list") ⟨_,c,rfl⟩ PySem.F.plainAttrs_list PySem.F.slot_list_append PySem.F.type_list_append (at' c rfl) h
  ·rw[m9]at h
   exact getMethod_builtin (T:="list") ⟨_,c,rfl⟩ PySem.F.plainAttrs_list PySem.F.slot_list_index PySem.F.type_list_index (at' c rfl) h
 ·refine kK (tP S xo hc) λp es n e917 c r ap _=>?_
  subst e917
  rw[rY]at h
  exact getMethod_builtin (T:="dict") ⟨_,c,rfl⟩ PySem.F.plainAttrs_dict PySem.F.slot_dict_get PySem.F.type_dict_get (at' c rfl) h
end
section
variable {α:Type}(bad:α)(o:V)(as:List V)(H:Hp)(k:V->Hp->α)
theorem qP:method bad o "append" as H k=(match o,as with
 | .ref n,[d]=>match H[n]? with
   |some (.lst l)=>guard bad (fits l) (k .none (H.set n (.lst (l++[d]))))
   |_=>bad
 |_,_=>bad):=by kernel_rfl
theorem r7:method bad o "index" as H k=(match content H o,as with
 |some (.lst l),[d]=>guard bad (fits l&&dI d l) (opt bad (l.findIdx? λy=>bQ y d) λi=>k (.int i) H)
 |_,_=>bad):=by kernel_rfl
theorem xS:method bad o "get" as H k=(match content H o,as with
 |some (.dct l),[d]=>guard bad (bW d l) (k ((b7 d l).getD .none) H)
 |some (.dct l),[d,e]=>guard bad (bW d l) (k ((b7 d l).getD e) H)
 |_,_=>bad):=by kernel_rfl
end
theorem GA{o:V}{F:Nat->Prop}(e:match o with| .ref n=>F n|_=>False):∃n,o= .ref n:=
 pP (aS (by clear e;rcases o<;>first|exact Eq.refl False|exact Eq.refl _) e)
theorem QN{x:Option V}{F:List V->Prop}(e:match x with|some (.lst l)=>F l|_=>False):∃l,x=some (.lst l):=by
 rcases x with _|d
 ·exact False.elim e
 ·exact(dJ (aS (by clear e;rcases d<;>first|exact Eq.refl False|exact Eq.refl _) e)).imp λl h=>congrArg some h
theorem PL{x:Option V}{F:List (V×V)->Prop}(e:match x with|some (.dct l)=>F l|_=>False):∃l,x=some (.dct l):=by
 rcases x with _|d
 ·exact False.elim e
 ·exact(u3 (aS (by clear e;rcases d<;>first|exact Eq.refl False|exact Eq.refl _) e)).imp λl h=>congrArg some h
theorem OF{x:Option V}{F:List Int->Prop}(e:match x with|some (.bar l)=>F l|_=>False):∃l,x=some (.bar l):=by
 rcases x with _|d
 ·exact False.elim e
 ·exact(kM (aS (by clear e;rcases d<;>first|exact Eq.refl False|exact Eq.refl _) e)).imp λl h=>congrArg some h
theorem D8{x:Option V}{F:Str->List (Str×V)->Prop}(e:match x with|some (.obj c l)=>F c l|_=>False):∃c l,x=some (.obj c l):=by
 rcases x with _|d
 ·exact False.elim e
 ·exact(FW (aS (by clear e;rcases d<;>first|exact Eq.refl False|exact Eq.refl _) e)).imp λc=>Exists.imp λl h=>congrArg some h
end Mine
end
section
open PySem PySem.W PyProof.Rows PySem.SeqAt PySem.Builtin
namespace Mine
section
variable {w:World}{A:Around}{E:Value->Shared->Prop}{hO:Heap}{N:Addr->Prop}{μ:List P2}{H:Hp}{s:Shared}
theorem nX{n:Nat}(hn:μ[n]? =some p)(k:∀a o,a≠p.1->a≠p.2->s.heap.get? a=some o->h'.get? a=some o):Up N μ s.heap N μ h':=by
 have hm:=List.mem_of_getElem? hn
 exact⟨λ_ _ e=>e,λ_ e=>.inl e,λ_ e=>.inl e,λa o _ ho e=>k a o (λz=>ho ⟨p,hm,.inl z⟩) (λz=>ho ⟨p,hm,.inr z⟩) e⟩
theorem Std.turn{n:Nat}{t:Nat}(S:Std w hO N μ H s)(hn:μ[n]? =some p)(k:∀a o,a≠p.1->a≠p.2->s.heap.get? a=some o->h'.get? a=some o)(x:CR w N μ h' c' p):
  Std w hO N μ (H.set n c') { s with heap:=h',toks:=t }/\Ext no μ s μ { s with heap:=h',toks:=t }:=by
 have hm:=List.mem_of_getElem? hn
 have U:=nX (N:=N) (s:=s) hn k
 have alive:∀a,s.heap.get? a≠none->h'.get? a≠none:=λa q=>by
  by_cases h1:a=p.1
  ·rw[h1];exact x.lt.1
  ·by_cases h2:a=p.2
   ·rw[h2];exact x.lt.2
   ·induction z:s.heap.get? a using Option.casesOn with
    |none=>exact absurd z q
    |some o=>rw[k a o h1 h2 z];simp
 refine⟨⟨⟨by simp[S.hr.len],λm q d hq hd=>?_,S.hr.nn,S.hr.sep⟩,λa o e=>?_,S.low,λa q=>⟨(S.nlow a q).1,alive a (S.nlow a q).2⟩⟩,⟨_,_,rfl⟩,⟨[],by simp⟩,λ_ q=>.inl q,λa o _ ho e=>k a o (λz=>ho ⟨p,hm,.inl z⟩) (λz=>ho ⟨p,hm,.inr z⟩) e,alive⟩
 ·by_cases hmn:m=n
  ·subst hmn
   rw[hn]at hq
   obtain rfl:=Option.some.inj hq
   rw[List.getElem?_set]at hd
   simp only[if_true]at hd
   split at hd
   ·obtain rfl:=Option.some.inj hd;exact x
   ·injection hd
  ·rw[List.getElem?_set,if_neg (Ne.symm hmn)]at hd
   have sp:=S.hr.sep2 hq hn hmn
   exact fT U d q (λo e=>k _ o sp.1 sp.2.1 e) (λo e=>k _ o sp.2.2.1 sp.2.2.2 e) (S.hr.rel m q d hq hd)
 ·refine k a o (λz=>?_) (λz=>?_) (S.base a o e)
  ·rw[S.low a ⟨p,hm,.inl z⟩]at e;injection e
  ·rw[S.low a ⟨p,hm,.inr z⟩]at e;injection e
end
end Mine
end
section
open PySem PySem.W PyProof.Rows PySem.SeqAt PySem.Builtin
namespace Mine
section
variable {w:World}{A:Around}{E:Value->Shared->Prop}{hO:Heap}{N:Addr->Prop}{μ:List P2}{H:Hp}{s:Shared}
theorem uL{h h':Heap}{p:Addr}{l:List V}{vs:List Value}{d:V}{v:Value}(c:bR h' p "list" (vs++[v]))(r:bJ w N μ h' l vs)(x:VR w N μ h' d v):CR w N μ h' (.lst (l++[d])) (p,p):=by
 refine⟨rfl,_,c,hV r ?_⟩
 rw[aJ]
 exact⟨v,[],rfl,x,by rw[a8]⟩
theorem BS{n:Nat}{l:List V}{d:V}{ov dv:Value}{k:V->Hp->Prop}(S:Std w hO N μ H s)(xo:VR w N μ s.heap (.ref n) ov)(hc:H[n]? =some (.lst l))(xd:VR w N μ s.heap d dv)(hf:fits l=true)(hk:k .none (H.set n (.lst (l++[d])))):
  wpAny (pm w) A (call (.builtin "list.append") [ov,dv]) (Got w hO N μ s k) E s:=by
 refine aT xo.ref λp hp e91=>?_
 subst e91
 have c:=S.hr.rel _ _ _ hp hc
 refine cU c λe vs o92 r=>?_
 clear c
 obtain⟨m,c1⟩:=o92
 have hl:=aV r
 have hf:=of_decide_eq_true hf
 refine call_meets PySem.F.slot_list_append ⟨_,c1,rfl⟩ PySem.F.entry_list_append (PySem.F.args_list_append_2 _ _) (AutoListH.list_append_list_val_0 p.1 vs.toArray m dv (by rw[sizeLine_eq];simp;lia)) ⟨c1,?_⟩
 have sb:=Heap.SameBut.update s.heap p.1 (Obj.mapSeq λx=>x.push dv)
 have h1:=Heap.get?_update_self (Obj.mapSeq λx=>x.push dv) c1 rfl
 obtain⟨pa,pb⟩:=p
 dsimp only at e c1 sb h1 ⊢
 subst e
 have U:=nX (N:=N) (s:=s) (h':=s.heap.update pb (Obj.mapSeq λx=>x.push dv)) hp λa o ha _ e=>(sb.2 a ha).trans e
 have seq:bR (s.heap.update pb (Obj.mapSeq λx=>x.push dv)) pb "list" (vs++[dv]):=by
  refine⟨m+1,?_⟩
  rw[h1]
  simp[Obj.mapSeq]
 obtain⟨S',X⟩:=S.turn (t:=s.toks) hp (λa o ha _ e=>(sb.2 a ha).trans e) (uL (h:=s.heap) seq (cX U _ _ r) (aW U xd))
 exact⟨.none,_,μ,hk,S',X,.inl rfl⟩
theorem IE{i:Nat}(hu:A.units+30<cLine)(S:Std w hO N μ H s)(xo:VR w N μ s.heap o ov)(hc:content H o=some (.lst l))(xd:VR w N μ s.heap d dv)(hf:fits l=true)(hv:dI d l=true)
  (hi:(l.findIdx? λy=>bQ y d)=some i) (hk:k (.int i)):wpAny (pm w) A (call (.builtin "list.index") [ov,dv]) (Gv w hO N μ H s k) E s:=by
 refine aE (oP S xo hc) λp vs e93 o94 r=>?_
 subst e93
 obtain⟨m,c⟩:=o94
 have hl:=aV r
 have hf:=of_decide_eq_true hf
 obtain⟨lt,h1,h2⟩:=List.findIdx?_eq_some_iff_getElem.mp hi
 have ev:∀(j:Nat) (hj:j<vs.toArray.size),qR w N μ s.heap 8 d vs.toArray[j]=bQ (l[j]'(by simp at hj;lia)) d:=λj hj=>by
  have hj':j<l.length:=by simp at hj;lia
  refine aT (i4 r j _ (List.getElem?_eq_getElem hj')) λv hv' rv=>?_
  have e1:vs.toArray[j]=v:=by
   obtain⟨a,b⟩:=List.getElem?_eq_some_iff.mp hv'
   simpa using b
  rw[e1]
  exact sG rv (List.all_eq_true.mp hv _ (List.getElem_mem hj'))
 have hj:i<vs.toArray.size:=by simp;lia
 refine call_meets PySem.F.slot_list_index ⟨_,c,rfl⟩ PySem.F.entry_list_index (PySem.F.args_list_index_2 _ _)
  (list_indexAt p vs.toArray m none #[] dv (qR w N μ s.heap 8 d) i hj (by lia) (by rw[ev i hj];exact h1) (λj hj' hlt=>by rw[ev j hj'];simpa using h2 j hlt)) ⟨c,?_,Gv.tok S hk ⟨_,rfl⟩⟩
 exact gN r hv (by show _+1+_<_;lia) xd
theorem N9(hu:A.units+30<cLine)(S:Std w hO N μ H s)(xo:VR w N μ s.heap o ov)(hc:content H o=some (.dct l))(xd:VR w N μ s.heap d dv)(ok:bW d l=true)
  (hk:k ((b7 d l).getD .none)):wpAny (pm w) A (call (.builtin "dict.get") [ov,dv]) (Gv w hO N μ H s k) E s:=by
 refine kK (tP S xo hc) λp es n e95 c r ap sm=>?_
 subst e95
 have hT:s.TypeIs (.ref p) "dict":=⟨_,c,rfl⟩
 refine wpAny_call_entry PySem.F.slot_dict_get hT PySem.F.entry_dict_get ?_ (PySem.F.args_dict_get_2 _ _)
 show wpAny _ _ (dictGet p dv >>= _) _ _ s
 refine wpAny_bind (O9 (by show _+1+_<_;lia) c r ap ok xd (λx v t h1 h2=>?_) λt h1=>?_)
 ·rw[h1]at hk
  exact wpAny_pure ⟨v,rfl,⟨_,hk,S.toks t,Ext.toks t,h2⟩⟩
 ·rw[h1]at hk
  show wpAny _ _ (Builtin.Dict.missed p dv >>= _) _ _ _
  exact wpAny_bind (wpAny_missed_other sm (wpAny_pure ⟨.none,rfl,Gv.tok (d:=.none) S hk rfl⟩))
theorem MI(hu:A.units+30<cLine)(S:Std w hO N μ H s)(xo:VR w N μ s.heap o ov)(hc:content H o=some (.dct l))(xd:VR w N μ s.heap d dv)(xf:VR w N μ s.heap f fv)(ok:bW d l=true)
  (hk:k ((b7 d l).getD f)):wpAny (pm w) A (call (.builtin "dict.get") [ov,dv,fv]) (Gv w hO N μ H s k) E s:=by
 refine kK (tP S xo hc) λp es n e96 c r ap sm=>?_
 subst e96
 have hT:s.TypeIs (.ref p) "dict":=⟨_,c,rfl⟩
 refine wpAny_call_entry PySem.F.slot_dict_get hT PySem.F.entry_dict_get ?_ (PySem.F.args_dict_get_3 _ _ _)
 show wpAny _ _ (dictGet p dv >>= _) _ _ s
 refine wpAny_bind (O9 (by show _+1+_<_;lia) c r ap ok xd (λx v t h1 h2=>?_) λt h1=>?_)
 ·rw[h1]at hk
  exact wpAny_pure ⟨v,rfl,⟨_,hk,S.toks t,Ext.toks t,h2⟩⟩
 ·rw[h1]at hk
  show wpAny _ _ (Builtin.Dict.missed p dv >>= _) _ _ _
  exact wpAny_bind (wpAny_missed_other sm (wpAny_pure ⟨fv,rfl,⟨_,hk,S.toks t,Ext.toks t,xf⟩⟩))
theorem sT(h:(as.length==1)=true):∃d,as=[d]:=List.length_eq_one_iff.mp (eq_of_beq h)
theorem QI(h:(as.length==1||as.length==2)=true):(∃d,as=[d])\/∃d f,as=[d,f]:=(Bool.or_eq_true_iff.mp h).imp sT λh=>by
 rcases as with _|⟨d,r⟩
 ·exact mN h.symm
 ·exact Exists.elim (sT (as:=r) (beq_iff_eq.mpr (Nat.succ.inj (eq_of_beq h)))) λf e=>⟨d,f,congrArg _ e⟩
theorem C0{o:V}{ov:Value}{x:Str}{as:List V}{vs:List Value}{k:V->Hp->Prop}(hx:x="append"\/x="index"\/x="get")(hu:A.units+30<cLine)(S:Std w hO N μ H s)(xo:VR w N μ s.heap o ov)(rs:bJ w N μ s.heap as vs)
  (e:method False o x as H k):aD (pm w) A (PySem.call (mP x) (ov::vs)) (Got w hO N μ s k) s:=by
 rcases hx with rfl|rfl|rfl
 ·rw[qP]at e
  rw[lE]
  obtain⟨n,rfl⟩:=pP (d:=o) (aS (by clear e xo;rcases o<;>first|exact Eq.refl False|exact Eq.refl _) e)
  obtain⟨d,rfl⟩:=sT (aS (c:=as.length==1) (by clear e rs;rcases as with _|⟨d,_|⟨f,r⟩⟩<;>first|exact Eq.refl False|exact Eq.refl _) e)
  refine aT (eJ rs) λv e97 r=>?_
  subst e97
  obtain⟨l,hc⟩:=QN e
  dsimp only at e
  rw[hc]at e
  obtain⟨e1,e2⟩:=aA.mp e
  exact G.leaf (BS S xo hc r e1 e2)
 ·rw[r7]at e
  rw[m9]
  rcases hc:content H o with _|z
  ·rw[hc]at e;exact False.elim e
  rw[hc]at e
  obtain⟨l,rfl⟩:=dJ (d:=z) (aS (by clear e hc;rcases z<;>first|exact Eq.refl False|exact Eq.refl _) e)
  obtain⟨d,rfl⟩:=sT (aS (c:=as.length==1) (by clear e rs;rcases as with _|⟨d,_|⟨f,r⟩⟩<;>first|exact Eq.refl False|exact Eq.refl _) e)
  refine aT (eJ rs) λv e98 r=>?_
  subst e98
  obtain⟨e1,e2⟩:=aA.mp e
  obtain⟨a,b⟩:=Bool.and_eq_true_iff.mp e1
  refine aT (bA.mp e2) λi hi e3=>?_
  exact j8 (IE (k:=λd=>k d H) hu S xo hc r a b hi e3)
 ·rw[xS]at e
  rw[rY]
  rcases hc:content H o with _|z
  ·rw[hc]at e;exact False.elim e
  rw[hc]at e
  obtain⟨l,rfl⟩:=u3 (d:=z) (aS (by clear e hc;rcases z<;>first|exact Eq.refl False|exact Eq.refl _) e)
  rcases QI (aS (c:=as.length==1||as.length==2) (by clear e rs;rcases as with _|⟨d,_|⟨f,_|⟨g,r⟩⟩⟩<;>first|exact Eq.refl False|exact Eq.refl _) e)with⟨d,rfl⟩|⟨d,f,rfl⟩
  ·refine aT (eJ rs) λv e99 r=>?_
   subst e99
   obtain⟨e1,e2⟩:=aA.mp e
   exact j8 (N9 (k:=λd=>k d H) hu S xo hc r e1 e2)
  ·refine aE (g7 rs) λv u e910 r r'=>?_
   subst e910
   obtain⟨e1,e2⟩:=aA.mp e
   exact j8 (MI (k:=λd=>k d H) hu S xo hc r r' e1 e2)
end
end Mine
end
section
open PySem PySem.W PyProof.Rows PySem.SeqAt PySem.Builtin
namespace Mine
noncomputable def A4 (P:Params) (C:Addr):Bool:=plainGet (frag P) C ""&&hasDictIn (frag P) C&&findIn (frag P) (.ref C) "__setattr__"==some (some (.builtin "object.__setattr__"))&&plainOver (frag P) C&&
 i8.all λx=>findIn (frag P) (.ref C) x==some none&&takerIn (frag P) C x==some none
theorem OL(P:Params):(gV.all λk=>A4 P k.addr)=true:=by kernel_rfl
theorem C2:(bO.all λp=>handedIn p.2)=true:=by kernel_rfl
theorem sX{P:Prop}(h:jO x=some v)(h1:∀e∈tab,e.name=x->v= .ref e.addr->P)(h2:∀k∈gV,k.name=x->v= .ref k.addr->P)(h3:(x,v)∈bO->P):P:=by
 delta jO at h
 rcases he:tab.find? (·.name==x)with _|e
 ·rw[he]at h
  rcases hk:gV.find? (·.name==x)with _|k
  ·have q:qN x=none:=congrArg (Option.map FD.addr) hk
   rw[q]at h
   exact h3 (mem_of_lookup h)
  ·have q:qN x=some k.addr:=congrArg (Option.map FD.addr) hk
   rw[q]at h
   exact h2 k (List.mem_of_find?_eq_some hk) (eq_of_beq (List.find?_some (p:=λe:FD=>e.name==x) hk)) (Option.some.inj h).symm
 ·rw[he]at h
  exact h1 e (List.mem_of_find?_eq_some he) (eq_of_beq (List.find?_some (p:=λe:Ent=>e.name==x) he)) (Option.some.inj h).symm
section
variable {w:World}{A:Around}{E:Value->Shared->Prop}{hO:Heap}{N:Addr->Prop}{μ:List P2}{H:Hp}{s:Shared}
theorem zT(h:qN c=some C):A4 w.params C=true:=by
 refine aT (Option.map_eq_some_iff.mp h) λk hk e91=>?_
 subst e91
 exact List.all_eq_true.mp (OL w.params) k (List.mem_of_find?_eq_some hk)
theorem mX{P:Params}{C:Addr}(h:A4 P C=true){x:Str}(hx:i8.contains x=true):(findIn (frag P) (.ref C) "__getattribute__"=some (some (.builtin "object.__getattribute__"))/\findIn (frag P) (.ref C) "__getattr__"=some none)/\hasDictIn (frag P) C=true/\
  findIn (frag P) (.ref C) "__setattr__"=some (some (.builtin "object.__setattr__"))/\plainOver (frag P) C=true/\findIn (frag P) (.ref C) x=some none/\takerIn (frag P) C x=some none:=by
 delta A4 at h
 simp only[Bool.and_eq_true]at h
 obtain⟨⟨⟨⟨a,b⟩,c⟩,d⟩,e⟩:=h
 have:=List.all_eq_true.mp e x (by simpa using hx)
 obtain⟨f,g⟩:=Bool.and_eq_true_iff.mp this
 exact⟨plainGet_of a,b,beq_iff_eq.mp c,d,beq_iff_eq.mp f,beq_iff_eq.mp g⟩
theorem DL(x:VR w N μ h d v):handedIn v=true:=by
 induction d using V.casesOn with
 |none=>rw[x.none];rfl
 |bool b=>rw[x.bool];rfl
 |int i=>obtain⟨t,rfl⟩:=x.int;rfl
 |str i=>obtain⟨t,rfl⟩:=x.str;rfl
 |bytes i=>refine c8 x.bytes λb t e92 _=>?_;subst e92;rfl
 |ref n=>refine aT x.ref λp _ e93=>?_;subst e93;rfl
 |glob g=>
   exact sX x.glob (λ_ _ _ e=>e▸rfl) (λ_ _ _ e=>e▸rfl) (List.all_eq_true.mp C2 _)
 |_=>
   rcases x with x|⟨p,rfl,_⟩
   ·exact x.elim
   ·rfl
theorem rK:(Value.str y t).isStr x=(y==x):=rfl
theorem AA:∀{fs:List (Str×V)} {es:List DictEntry},uH w N μ h fs es->fs.lookup x=some d->∃v,getL x es=some (some v)/\VR w N μ h d v
 | [],es,r,e=>by injection e
 |(y,d')::fs,es,r,e=>by
   rw[eQ]at r
   refine j5 r λen us e94 o95 rv z=>?_
   clear r
   subst e94
   obtain⟨t,hk⟩:=o95
   rw[List.lookup_cons]at e
   delta getL
   rw[List.find?_cons,hk,rK]
   induction hxy:x==y using Bool.casesOn with
   |true=>
     rw[hxy]at e
     obtain rfl:=Option.some.inj e
     have:(y==x)=true:=by have:=beq_iff_eq.mp hxy;subst this;simp
     rw[this]
     exact⟨en.val,rfl,rv⟩
   |false=>
     rw[hxy]at e
     have:(y==x)=false:=by
      rw[beq_eq_false_iff_ne]at hxy ⊢
      exact λz=>hxy z.symm
     rw[this]
     refine aT (AA z e) λv h1 h2=>?_
     refine⟨v,?_,h2⟩
     have nk:en.refKey=false:=by
      delta DictEntry.refKey
      rw[hk]
     rw[List.any_cons,nk,Bool.false_or]
     exact h1
theorem OY(S:Std w hO N μ H s)(x:VR w N μ s.heap d v)(e:content H d=some (.obj c fs)):
  ∃(p:P2) (C:Addr) (es:List DictEntry) (n:Nat),v= .ref p.1/\qN c=some C/\PySem.W.InstAt s.heap p.1 (instObj C p.2) C (some (dictOf es n))/\uH w N μ s.heap fs es:=by
 refine cB (aX S x e trivial) λp e96 cr _=>?_
 subst e96
 refine iV cr λ_ C e1 c1 es n c2 r=>?_
 clear cr
 exact⟨p,C,es,n,rfl,e1,⟨c1,rfl,rfl,c2⟩,r⟩
theorem y9{expr:Bool}(B:Base w hO)(S:Std w hO N μ H s)(xo:VR w N μ s.heap o ov)(e:getattr False H o x k):wpAny (pm w) A (getAttr ov x expr) (Gv w hO N μ H s k) E s:=by
 delta getattr at e
 obtain⟨c,fs,hc⟩:=D8 e
 ·rw[hc]at e
  obtain⟨hx,e⟩:=aA.mp e
  refine aT (bA.mp e) λd hd e=>?_
  obtain⟨p,C,es,n,rfl,hC,I,r⟩:=OY S xo hc
  refine kC (mX (zT (w:=w) hC) hx) λo97 hh _ _ hf _=>?_
  obtain⟨g1,g2⟩:=o97
  refine aT (AA r hd) λv hl rv=>?_
  have X:(frag w.params).In s.heap:=B.own.frag.keeps S.base
  exact get_value X I g1 (findObj_own hh hf rfl (by rw[lookIn_dict];exact hl)) (DL rv) ⟨d,e,S.toks _,Ext.toks _,rv⟩
end
end Mine
end
section
open PySem PySem.W PyProof.Rows PySem.SeqAt PySem.Builtin
namespace Mine
section
variable {w:World}{A:Around}{E:Value->Shared->Prop}{hO:Heap}{N:Addr->Prop}{μ:List P2}{H:Hp}{s:Shared}
theorem rU:∀{fs:List (Str×V)} {es:List DictEntry},uH w N μ h fs es->es.any (·.refKey)=false
 | [],es,r=>by rw[kO]at r;subst r;rfl
 |(y,d')::fs,es,r=>by
   rw[eQ]at r
   refine j5 r λen us e91 o92 rv z=>?_
   clear r
   subst e91
   obtain⟨t,hk⟩:=o92
   have nk:en.refKey=false:=by
    delta DictEntry.refKey
    rw[hk]
   rw[List.any_cons,nk,Bool.false_or]
   exact rU z
theorem z8:∀{fs:List (Str×V)} {es:List DictEntry},uH w N μ h fs es->es.length=fs.length
 | [],es,r=>by rw[kO]at r;subst r;rfl
 |(y,d')::fs,es,r=>by
   rw[eQ]at r
   refine j5 r λen us e93 o94 rv z=>?_
   clear r
   subst e93
   obtain⟨t,hk⟩:=o94
   simp[z8 z]
theorem AN{hsh:Int}(rv:VR w N μ h d v):∀{fs:List (Str×V)} {es:List DictEntry},uH w N μ h fs es->uH w N μ h (Mine.putL x d fs) (PySem.W.putL x hsh (.str x t) v es)
 | [],es,r=>by
   rw[kO]at r;subst r
   delta Mine.putL PySem.W.putL
   rw[eQ]
   exact⟨_,_,rfl,⟨t,rfl⟩,rv,by rw[kO]⟩
 |(y,d')::fs,es,r=>by
   rw[eQ]at r
   refine j5 r λen us e95 o96 rv' z=>?_
   clear r
   subst e95
   obtain⟨t',hk⟩:=o96
   unfold Mine.putL PySem.W.putL
   rw[hk,rK]
   induction hyx:y==x using Bool.casesOn with
   |true=>
     rw[if_pos rfl,eQ]
     exact⟨_,_,rfl,⟨t',rfl⟩,rv,z⟩
   |false=>
     rw[if_neg (by simp),eQ]
     exact⟨_,_,rfl,⟨t',hk⟩,rv',AN rv z⟩
theorem v8{hsh:Int}:∀(es:List DictEntry),(PySem.W.putL x hsh key v es).length<=es.length+1
 | []=>by simp[PySem.W.putL]
 |e::r=>by
   have:=v8 (x:=x) (hsh:=hsh) (key:=key) (v:=v) r
   unfold PySem.W.putL
   split
   ·simp
   ·simp;lia
theorem zJ(B:Base w hO)(S:Std w hO N μ H s)(xo:VR w N μ s.heap o ov)(xd:VR w N μ s.heap d dv)(e:pE False H o x d k)
  (hQ:∀H' s',k H'->Std w hO N μ H' s'->Ext no μ s μ s'->Q () s'):wpAny (pm w) A (setAttr ov x dv) Q E s:=by
 delta pE at e
 obtain⟨m,rfl⟩:=GA e
 ·obtain⟨c,fs,hc⟩:=D8 e
  ·dsimp only at e
   rw[hc]at e
   obtain⟨e1,e2⟩:=aA.mp e
   obtain⟨hf,hx⟩:=Bool.and_eq_true_iff.mp e1
   have hf:=of_decide_eq_true hf
   refine aT xo.ref λp hp e97=>?_
   subst e97
   have cr:=S.hr.rel _ _ _ hp hc
   refine iV cr λhne C hC c1 es n c2 r=>?_
   clear cr
   have I:PySem.W.InstAt s.heap p.1 (instObj C p.2) C (some (dictOf es n)):=⟨c1,rfl,rfl,c2⟩
   refine kC (mX (zT (w:=w) hC) hx) λ_ hh hs hpl _ ht=>?_
   have X:(frag w.params).In s.heap:=B.own.frag.keeps S.base
   have hlen:=z8 r
   refine set_plain X I hs ?_
   refine osa_open (s:={ s with toks:=s.toks+1 }) X I hpl ht λb=>?_
   refine aT (any_some hh) λcd hcd hd'=>?_
   refine wpAny_bind (wpAny_pure (wpAny_bind (wpAny_bind (wpAny_loadPart c1 (wpAny_bind (Looks.here (s:={ s with toks:=s.toks+1 }) (looks_clsIn X hcd) ?_))))))
   rw[hd']
   refine wpAny_pure (a:=some p.2) (wpAny_bind (wpAny_pure (wpAny_bind ?_)))
   refine wpAny_bind (wpAny_bind (wpAny_askSetting (wpAny_pure (wpAny_bind (wpAny_mkText (wpAny_bind (wpAny_loadPart c2 ?_)))))))
   dsimp only
   have cc:(!es.toArray.any (·.key.isStr x)&&es.toArray.any (·.refKey))=false:=by
    rw[<-Array.any_toList, <-Array.any_toList]
    show(!_&&es.any (·.refKey))=false
    rw[rU r,Bool.and_false]
   rw[aRefKeyMayBeTheName_at,cc]
   have h2:(s.heap.update p.2 (Obj.putName x (PyData.keyHash w.params x) (.str x (s.toks+1)) dv)).get? p.2=some (dictOf (PySem.W.putL x (PyData.keyHash w.params x) (.str x (s.toks+1)) dv es) (putN x es n)):=by
    have:=Heap.get?_update_self (Obj.putName x (PyData.keyHash w.params x) (.str x (s.toks+1)) dv) c2 (by rw[putName_dict];rfl)
    rw[putName_dict]at this
    exact this
   have sb:=Heap.SameBut.update s.heap p.2 (Obj.putName x (PyData.keyHash w.params x) (.str x (s.toks+1)) dv)
   refine wpAny_updatePart c2 ?_
   refine wpAny_bind (wpAny_lookBehind h2 (pastItsLine_dict (by rw[List.size_toArray,sizeLine_eq];have:=v8 (x:=x) (hsh:=PyData.keyHash w.params x) (key:=.str x (s.toks+1)) (v:=dv) es;lia)) ?_)
   have kk:∀a o,a≠p.1->a≠p.2->s.heap.get? a=some o->(s.heap.update p.2 (Obj.putName x (PyData.keyHash w.params x) (.str x (s.toks+1)) dv)).get? a=some o:=λa o _ ha e=>(sb.2 a ha).trans e
   have U:=nX (N:=N) (s:=s) hp kk
   obtain⟨S',X'⟩:=S.turn (t:=s.toks+1+1) (c':=.obj c (Mine.putL x d fs)) hp kk (by
    exact⟨hne,C,hC,(sb.2 _ hne).trans c1,_,_,h2,xV U _ _ (AN xd r)⟩)
   exact wpAny_pure (hQ _ _ e2 S' X')
end
end Mine
end
section
open PySem PySem.W PyProof.Rows PySem.SeqAt PySem.Builtin
open PySem.Sem (wp)
namespace Mine
namespace BF
theorem C1:isSubtype (.type "bytes") (.type "bytearray")=pure false:=by rw[isSubtype_type];kernel_rfl
theorem CS:isSubtype (.type "bytes") (.type "complex")=pure false:=by rw[isSubtype_type];kernel_rfl
theorem DF:typeLookup (.type "bytes") "__int__"=pure none:=by rw[typeLookup_type,builtinLookup_eq_fast];kernel_rfl
theorem wO:typeLookup (.type "bytes") "__float__"=pure none:=by rw[typeLookup_type,builtinLookup_eq_fast];kernel_rfl
theorem plain_setitem:plainId "bytearray.__setitem__"=true:=by decide+kernel
section
variable {prog:Program}{w:World}{A:Around}{s:Shared}{a sl:Addr}{b c:Array UInt8}
theorem IL{i j:Nat}:(b.extract i j).size<=b.size:=by rw[Array.size_extract];exact Nat.le_trans (Nat.sub_le _ _) (Nat.min_le_right _ _)
theorem DG{i j:Nat}(hb:b.size<=1000)(hc:c.size<=1000):(b.extract 0 i++c++b.extract j b.size).size<=3000:=by
 rw[Array.size_append,Array.size_append]
 exact Nat.add_le_add (Nat.add_le_add (Nat.le_trans IL hb) hc) (Nat.le_trans IL hb)
theorem c3{x y:Int}(hx:0<=x)(hy:y<=b.size)(hz:b.size<=1000)(hc:y-x=c.size):c.size<=1000:=by lia
theorem set_run{A':Around}{t:Tok}{l u:Value}{x y:Int}{R:Flow->Shared->Prop}(ho:s.heap.get? a=some (aZ b))(hsl:s.heap.IsSliceOf sl l u .none)(hl:IsPart l (some x))(hu:IsPart u (some y))(hx:0<=x)(hxy:x<=y)(hy:y<=b.size)(hc:y-x=c.size)(hz:b.size<=1000)
  (h:∀h':Heap,h'.get? a=some (aZ (b.extract 0 x.toNat++c++b.extract y.toNat b.size))->Heap.ExtBut a s.heap h'->R (.ret .none) { s with heap:=h' }):
  aD (model prog w) A (Builtin.«bytearray.__setitem__» ⟨[.ref a,.ref sl,.bytes c t],[]⟩) (G.FinG prog w A' R) s:=by
 have hT:s.TypeIs (.ref sl) "slice":=let⟨o,ho,hc,_⟩:=hsl;⟨o,ho,hc⟩
 delta Builtin.«bytearray.__setitem__»
 refine G.if_false rfl ?_
 refine G.bindL (hZ hsl ?_)
 dsimp only
 refine G.bindL (wpAny_typeOf hT ?_)
 refine G.if_false rfl ?_
 refine G.bindL (eN hsl hl hu ?_)
 refine G.if_false rfl ?_
 refine G.bindL (wpAny_isInstance (typeIs_bytes _ _ _) C1 ?_)
 refine G.if_true rfl ?_
 have hcx:isInstance (.bytes c t) (.type "complex")=pure false:=(rfl:isInstance (.bytes c t) (.type "complex")=isSubtype (.type "bytes") (.type "complex")).trans CS
 refine G.bindE (a:=false) (by rw[KBy.special_eq wM,KBy.special_eq DF,KBy.special_eq wO,hcx];rfl) ?_
 refine G.bindE (a:=none) rfl ?_
 refine G.if_false rfl ?_
 refine G.bind (G.rule ?_)
 refine G.bind (call_new (by rw[sizeLine_eq];lia) λh₁ hoA gA=>?_)
 have hsl1:h₁.IsSliceOf sl l u .none:=let⟨o,e,r⟩:=hsl;⟨o,gA _ _ e,r⟩
 refine G.bind (G.holding (G.leaf (eN hsl1 hl hu ?_)))
 refine G.bindL (dO hoA ?_)
 refine G.bindL (dO (gA _ _ ho) ?_)
 refine G.bindE (sliceIndices_raw (some x) (some y) none b.size (λe=>nomatch e)) ?_
 have hb:sliceBounds (some x) (some y) none b.size=(x,y,1):=by
  rw[i5 (lo:=some x) (hi:=some y) (a:=x) (b:=y) hx (by lia) (λq=>nomatch q) (λ_ q=>Option.some.inj q) (λq=>nomatch q) (λ_ q=>Option.some.inj q)]
  congr 1
  ·lia
  ·congr 1;lia
 rw[hb]
 refine G.if_true rfl ?_
 refine G.bind (G.rule ?_)
 have hm:max x y=y:=by lia
 rw[hm]
 refine G.if_false (by rw[bne_eq_false_iff_eq];lia) ?_
 refine G.bindL (lV (s:={ s with heap:=h₁ }) (gA _ _ ho) (by rw[sizeLine_eq];have hs:=DG (b:=b) (c:=c) (i:=x.toNat) (j:=y.toNat) hz (c3 hx hy hz hc);first|exact Nat.le_trans hs (by decide)|exact Nat.lt_of_le_of_lt hs (by decide)|(generalize Array.size _=q at hs ⊢;lia)) λh₂ ho2 sb2=>?_)
 exact G.pure (h h₂ ho2 λd o hd e=>(sb2.2 d hd).trans (gA _ _ e))
end
end BF
end Mine
end
section
open PySem PySem.W PyProof.Rows PySem.SeqAt PySem.Builtin
open PySem.Sem (wp)
namespace Mine
namespace G
section
variable {M:Model}{A:Around}{s:Shared}
theorem callSpecialSlot{self:Value}{T:String}{name:Str}{id:String}{args:List Value}{Q:Option Value->Shared->Prop}(hT:s.TypeIs self T)(h:Slot T name id)
  (hc:aD M A (PySem.call (.builtin id) (self::args) []) (λv=>Q (some v)) s):aD M A (callSpecial? self name args []) Q s:=by
 refine bindL (wpAny_specialOf hT h.lookup ?_)
 refine holding (bindE (h.bind self) (bind (mono hc λv s' z=>pure z)))
end
end G
section
variable {w:World}{A:Around}{E:Value->Shared->Prop}{hO:Heap}{N:Addr->Prop}{μ:List P2}{H:Hp}{s:Shared}
theorem sR{x y:Nat}(hxy:x<=y)(hy:y<=b.size):bC (b.extract 0 x++c++b.extract y b.size)=(bC b).take x++bC c++(bC b).drop y:=by
 obtain⟨b⟩:=b
 obtain⟨c⟩:=c
 delta bC
 simp only[List.size_toArray]at hy ⊢
 simp[List.map_take,List.map_drop]
 rw[List.take_of_length_le (by simp)]
theorem wL{o lo hi d:V}{ov lv hv dv:Value}{sl:Addr}{k:Hp->Prop}(S:Std w hO N μ H s)(xo:VR w N μ s.heap o ov)(xl:VR w N μ s.heap lo lv)(xh:VR w N μ s.heap hi hv)(xd:VR w N μ s.heap d dv)(hs:s.heap.IsSliceOf sl lv hv .none)
  (e:lW False H o lo hi d k) {Q:Unit->Shared->Prop} (hQ:∀H' s',k H'->Std w hO N μ H' s'->Ext no μ s μ s'->Q () s'):aD (pm w) A (setItem ov (.ref sl) dv) Q s:=by
 delta lW at e
 obtain⟨n,rfl⟩:=pP (d:=o) (aS (by clear e xo;rcases o<;>first|exact Eq.refl False|exact Eq.refl _) e)
 obtain⟨a,rfl⟩:=bK (d:=lo) (aS (by clear e xl;rcases lo<;>first|exact Eq.refl False|exact Eq.refl _) e)
 obtain⟨b,rfl⟩:=bK (d:=hi) (aS (by clear e xh;rcases hi<;>first|exact Eq.refl False|exact Eq.refl _) e)
 obtain⟨l,rfl⟩:=bM (d:=d) (aS (by clear e xd;rcases d<;>first|exact Eq.refl False|exact Eq.refl _) e)
 ·obtain⟨m,hc⟩:=OF e
  ·dsimp only at e
   rw[hc]at e
   obtain⟨e1,e2⟩:=aA.mp e
   simp only[Bool.and_eq_true,decide_eq_true_eq]at e1
   obtain⟨⟨⟨⟨f0,f1⟩,f2⟩,f3⟩,f4⟩:=e1
   refine aT xo.ref λp hp e91=>?_
   subst e91
   have cr:=S.hr.rel _ _ _ hp hc
   refine cU cr λhpp bb c1 e92=>?_
   clear cr
   subst e92
   obtain⟨t1,rfl⟩:=xl.int
   obtain⟨t2,rfl⟩:=xh.int
   refine c8 xd.bytes λcc t3 e93 e94=>?_
   subst e93
   subst e94
   have hz:=dZ f0
   have hlen:(bC bb).length=bb.size:=by rw[cE];simp
   have hlen2:(bC cc).length=cc.size:=by rw[cE];simp
   rw[hlen]at f3
   rw[hlen2]at f4
   have hT:s.TypeIs (.ref p.1) "bytearray":=⟨_,c1,rfl⟩
   refine G.holding ?_
   refine G.bindL (wpAny_sequenceKey hT (by decide) ?_)
   refine G.bind (G.callSpecialSlot hT BF.slot_setitem (G.call (G.callBuiltin (zY (by decide+kernel)) BF.plain_setitem BF.entry_setitem (BF.slot_setitem.check _ _ _ _ _ _ _ _ hT (BF.args_setitem _ _ _) ?_))))
   refine BF.set_run c1 hs (.int _ _) (.int _ _) f1 f2 f3 f4 (by lia) λh' ho' kk=>?_
   have kk':∀a o,a≠p.1->a≠p.2->s.heap.get? a=some o->h'.get? a=some o:=λa o ha _ e=>kk a o ha e
   obtain⟨S',X⟩:=S.turn (t:=s.toks) (c':=.bar ((bC bb).take a.toNat++bC cc++(bC bb).drop b.toNat)) hp kk' (by
    exact⟨hpp,_,ho',sR (by lia) (by lia)⟩)
   exact G.pure (hQ _ _ e2 S' X)
theorem yR(hu:A.units+30<cLine)(S:Std w hO N μ H s)(xo:VR w N μ s.heap o ov)(xi:VR w N μ s.heap i iv)(xd:VR w N μ s.heap d dv)(e:o8 False H o i d k)
  (hQ:∀H' s',k H'->Std w hO N μ H' s'->Ext no μ s μ s'->Q () s'):wpAny (pm w) A (setItem ov iv dv) Q E s:=by
 delta o8 at e
 obtain⟨n,rfl⟩:=GA e
 ·obtain⟨l,hc⟩:=PL e
  ·dsimp only at e
   rw[hc]at e
   obtain⟨e1,e2⟩:=aA.mp e
   refine aT xo.ref λp hp e95=>?_
   subst e95
   have cr:=S.hr.rel _ _ _ hp hc
   refine uP cr λo96 es m c1 r=>?_
   clear cr
   obtain⟨hpp,ap,sm⟩:=o96
   have hT:s.TypeIs (.ref p.1) "dict":=⟨_,c1,rfl⟩
   delta setItem
   try with_reducible refine wpAny_holding ?_
   refine wpAny_bind (wpAny_sequenceKey hT (by decide) ?_)
   refine wpAny_bind (wpAny_callSpecial?_slot (name:=Str.ofString "__setitem__") hT slot_dict_setitem
    (wpAny_call_entry slot_dict_setitem hT entry_dict_setitem ?_ (args_dict_setitem _ _ _)))
   show wpAny _ _ (Builtin.Dict.notOrdered "__setitem__" ⟨[.ref p.1,iv,dv],[]⟩ >>= _) _ _ s
   refine wpAny_bind (wpAny_notOrdered_dict hT ?_)
   show wpAny _ _ (dictSet p.1 iv dv >>= _) _ _ s
   refine wpAny_bind (Q2 (by show _+1+_<_;lia) c1 r ap e1 xi xd λh' es' n' t ho' sb r' ap'=>wpAny_pure ⟨.none,rfl,wpAny_pure ?_⟩)
   have kk':∀a o,a≠p.1->a≠p.2->s.heap.get? a=some o->h'.get? a=some o:=λa o ha _ e=>(sb.2 a ha).trans e
   have U:=nX (N:=N) (s:=s) hp kk'
   obtain⟨S',X⟩:=S.turn (t:=t) (c':=.dct (dD i d l)) hp kk' (by
    exact⟨⟨hpp,ap',sm⟩,es',n',ho',mK U _ _ r'⟩)
   exact hQ _ _ e2 S' X
theorem Got.newList{t:Nat}(S:Std w hO N μ H s)(r:bJ w N μ s.heap l vs)(hk:k (.ref H.length) (H++[.lst l])):
  Got w hO N μ s k (.ref s.heap.objs.size) { s with heap:=s.heap.push { cls:=.type "list",data:=.seq vs.toArray },toks:=t }:=by
 have z:=bY (h:=s.heap) (Nat.le_refl _)
 have U:=u2 (p:=(s.heap.objs.size,s.heap.objs.size)) S z z (bS s.heap { cls:=.type "list",data:=.seq vs.toArray })
 refine qC (S.track (p:=(s.heap.objs.size,s.heap.objs.size)) (c:=.lst l) (t:=t) z z (bS s.heap { cls:=.type "list",data:=.seq vs.toArray }) (by
  exact⟨rfl,vs,⟨0,Heap.get?_push_size _ rfl⟩,cX U _ _ r⟩)) λS' X R=>?_
 exact⟨_,_,_,hk,S',X,R⟩
end
end Mine
end
section
open PySem PySem.W PyProof.Rows
open PySem.Sem (wp)
namespace Mine
namespace G
section
variable {M:Model}{A:Around}{s:Shared}{env:Env}
theorem attempt{α:Type}{m:Sem α}{Q:Except Value α->Shared->Prop}(h:aD M A m (λa=>Q (.ok a)) s):aD M A m.attempt Q s:=λΓ p hΓ o=>by
 rw[Sem.wp_attempt]
 exact Sem.wp_mono M Γ m (λ_ _ _ z=>z) (λ_ _ _ z=>z.elim) p s (h Γ p hΓ o)
theorem LV{α:Type}{c:Prop}[Decidable c]{pos:Pos}{k:PUnit->Sem α}{Q:α->Shared->Prop}(h:aD M A (k ()) Q s):aD M A (if c then(PySem.standAt pos >>= k)else k ()) Q s:=by
 split
 ·exact bind (standAt h)
 ·exact h
noncomputable def compPost (M:Model) (A:Around) (use:Option (Value->Sem Unit)) (Q:Value->Shared->Prop) (acc:Value) (C:Addr) (s':Shared):Prop:=
 match use with
 |none=>∃m,s'.heap.Ns C m/\∀h',Heap.SameBut C s'.heap h'->Q acc { s' with heap:=h' }
 |some u=>aD M A (u acc) (λ_ s''=>∃m,s''.heap.Ns C m/\∀h',Heap.SameBut C s''.heap h'->Q .none { s'' with heap:=h' }) s'
theorem comp{e:Expr}{scope:Scope}{pos:Pos}{newAcc first:Sem Value}{g:Comprehension}{gs:List Comprehension}{cl:List (Str×Addr)}{use:Option (Value->Sem Unit)}{Q:Value->Shared->Prop}
  (hcl:clausesOf e=g::gs) (hs:∀x,foldedSetIterable g.iter env x=Pure.pure x) (hclos:closureFor scope env=Pure.pure cl) (hkind:scope.kind= .function) (hnames:∀x∈scope.names,x.2= .local->scope.names.lookup x.1=some .local)
  (h:aD M A first (λx sA=>aD M A (pyIter x) (λit sB=>aD M A newAcc (λacc sC=>aD M A (newFunctionEnv scope env.globals cl [] env.qual none .none (some env)) (λcenv s4=>
   bE M A (.compStart e 0 it acc { cenv with scope:=relabel scope env }) (λ_ s'=>compPost M A use Q acc cenv.locals s') s4) sC) sB) sA) s):
  aD M A (comprehension e scope env pos newAcc false first use) Q s:=by
 unfold comprehension
 rw[hclos,hcl]
 refine bind (mono h λx sA h₁=>bind (standAt (bind (of_eq (hs x) (pure (bind (holding (mono h₁ λit sB h₂=>LV (bind (mono h₂ λacc sC h₃=>bind (pure (bind (mono h₃ λcenv s4 h₄=>?_)))))))))))))
 dsimp only
 have hv:∀x∈(scope.names.filter λx=>(x.2== .local||x.2== .cell)&&x.1 != (".0":Str)).reverse,x.2= .local->
  Env.kindOf { cenv with scope:=relabel scope env } x.1=some .local:=λx hx hl=>lookup_relabel_local (hnames x (List.mem_filter.mp (List.mem_reverse.mp hx)).1 hl)
 have hv':∀x∈(scope.names.filter λx=>(x.2== .local||x.2== .cell)&&x.1 != (".0":Str)).reverse.drop 1++(scope.names.filter λx=>(x.2== .local||x.2== .cell)&&x.1 != (".0":Str)).reverse.take 1,
   x.2= .local->Env.kindOf { cenv with scope:=relabel scope env } x.1=some .local:=λx hx hl=>by
  rcases List.mem_append.mp hx with h1|h1
  ·exact hv x (List.mem_of_mem_drop h1) hl
  ·exact hv x (List.mem_of_mem_take h1) hl
 refine holding (bind (attempt (holding (run (codeMono h₄ λf s' hr=>?_)))))
 induction use using Option.casesOn with
 |none=>
   refine aT hr λm hn hr=>?_
   exact bind (holding (leaf (wpAny_comp_letGo (cenv:={ cenv with scope:=relabel scope env }) hkind _ s' m hv hn λh' m' _ hs'=>pure (hr h' hs'))))
 |some u=>
   refine bind (rule (bind (holding (mono hr λ_ s'' hr'=>?_))))
   refine aT hr' λm hn hr'=>?_
   exact bind (leaf (wpAny_comp_letGo (cenv:={ cenv with scope:=relabel scope env }) hkind _ s'' m hv' hn λh' m' _ hs'=>pure (hr' h' hs')))
theorem ListCompE{elt gens sc pos}(h:aD M A (comprehension (.ListComp elt gens sc pos) sc env (firstIterPos gens pos) (newList []) (firstAsync gens) (firstIter gens env)) Q s):aD M A (eval (.ListComp elt gens sc pos) env) Q s:=by
 rw[arm_eval_ListComp];exact h
theorem AssignComp{x py elt gens sc pos spos}(hsw:swapsWith (.ListComp elt gens sc pos) (some (.Name x py)) spos.line env=Pure.pure true)
  (h:aD M A (comprehension (.ListComp elt gens sc pos) sc env (firstIterPos gens pos) (newList []) (firstAsync gens) (firstIter gens env) (some (assign (.Name x py) env))) (λ_ s'=>Q .next s') s):
  aD M A (exec (.Assign [.Name x py] (.ListComp elt gens sc pos) spos) env) Q s:=by
 rw[exec_Assign_Name_used _ _ _ _ hsw]
 refine bind (standAt (bind ?_))
 show aD _ A (do let _ <-comprehension (.ListComp elt gens sc pos) sc env (firstIterPos gens pos) (newList []) (firstAsync gens) (firstIter gens env) (some (assign (.Name x py) env))) _ s
 exact bind (mono h λ_ s' h'=>pure (pure h'))
theorem AssignComp'{t elt gens sc pos spos}(hsw:swapsWithSole [t] (.ListComp elt gens sc pos) spos.line env=Pure.pure false)
  (h:aD M A (eval (.ListComp elt gens sc pos) env) (λv sA=>aD M A (swappedStores [t] (.ListComp elt gens sc pos) env) (λsw sB=>aD M A (assignStores env v sw ((assignEach [t] env).map (·.2))) Q sB) sA) s):
  aD M A (exec (.Assign [t] (.ListComp elt gens sc pos) spos) env) Q s:=by
 rw[arm_exec_Assign]
 refine bind (standAt (bind (of_eq hsw (pure ?_))))
 exact bind (mono h λv sA h₁=>bind h₁)
theorem evalPairs_cons
  (h:aD M A k (λkv sA=>aD M A v (λvv sB=>aD M A (evalPairs rest) (λvs sC=>Q ((kv,vv)::vs) sC) sB) sA) s):aD M A (evalPairs ((k,v)::rest)) Q s:=by
 rw[evalPairs]
 refine bind (mono h λkv sA h₁=>?_)
 refine bind (holding (mono h₁ λvv sB h₂=>?_))
 exact bind (holding (mono h₂ λvs sC h₃=>pure h₃))
theorem evalPairs_nil(h:Q [] s):aD M A (evalPairs []) Q s:=pure h
theorem DictD
  (hshape:(evalEachOpt keys env).zip ((evalEach values env).map λv=>do let x <-v;PySem.standAt pos;Pure.pure x)=pairs.map λp=>(some p.1,p.2)) (h0:pairs≠[]) (hlen:pairs.length<=15)
  (h:aD M A (evalPairs pairs) (λvs sA=>aD M A (forIn vs PUnit.unit λ(x:Value×Value) (_:PUnit)=>(do dictSet s.heap.objs.size x.1 x.2;Pure.pure (ForInStep.yield PUnit.unit):Sem (ForInStep PUnit))) (λ_ sB=>Q (.ref s.heap.objs.size) sB) sA)
   { s with heap:=s.heap.push { cls:=.type "dict",data:=.dict #[] } }):aD M A (eval (.Dict keys values pos) env) Q s:=by
 rw[arm_eval_Dict,hshape,dictDisplay_pairs pairs h0 (by lia)]
 refine bind (standAt (bind ?_))
 unfold subDict
 refine bindL (wpAny_alloc ?_)
 refine bind (holding ?_)
 rw[if_pos hlen]
 refine bind (mono h λvs sA h₁=>holding ?_)
 exact bind (mono h₁ λ_ sB h₂=>pure (pure (pure h₂)))
end
end G
end Mine
end
section
open PySem PySem.W PyProof.Rows PySem.SeqAt PySem.Builtin
open PySem.Sem (wp)
namespace Mine
inductive zH (w:World) (hO:Heap) (N:Addr->Prop) (μ:List P2) (s:Shared) (K:Bool->Hp->Prop) (b:Bool) (s':Shared):Prop
 |mk (H':Hp) (μ':List P2) (hk:K b H') (S:Std w hO N μ' H' s') (X:Ext no μ s μ' s')
inductive L6 (w:World) (hO:Heap) (N:Addr->Prop) (μ:List P2) (s:Shared) (K:List V->Hp->Prop) (vs:List Value) (s':Shared):Prop
 |mk (ds:List V) (H':Hp) (μ':List P2) (hk:K ds H') (S:Std w hO N μ' H' s') (X:Ext no μ s μ' s') (r:bJ w N μ' s'.heap ds vs)
noncomputable def RH (w:World) (N:Addr->Prop) (μ:List P2) (h:Heap):List (V×V)->List (Value×Value)->Prop
 | [],vs=>vs=[]
 |(x,d)::r,vs=>∃a b us,vs=(a,b)::us/\VR w N μ h x a/\VR w N μ h d b/\RH w N μ h r us
inductive SY (w:World) (hO:Heap) (N:Addr->Prop) (μ:List P2) (s:Shared) (K:List (V×V)->Hp->Prop) (vs:List (Value×Value)) (s':Shared):Prop
 |mk (ds:List (V×V)) (H':Hp) (μ':List P2) (hk:K ds H') (S:Std w hO N μ' H' s') (X:Ext no μ s μ' s') (r:RH w N μ' s'.heap ds vs)
noncomputable abbrev Cf:=Str->List V->Hp->(V->Hp->Prop)->Prop
noncomputable def lA (w:World) (hO:Heap) (A:Around) (cf:Cf):Prop:=∀(N:Addr->Prop) (μ:List P2) (H:Hp) (s:Shared) (x:Str) (as:List V) (vs:List Value) (f:Value) (k:V->Hp->Prop),
 aN.isFn x=true->jO x=some f->Std w hO N μ H s->bJ w N μ s.heap as vs->cf x as H k->aD (pm w) A (PySem.call f vs) (Got w hO N μ s k) s
structure eP (A:Around):Prop where
 hd:A.handled=none
 un:A.units+40<cLine
section
variable (w:World)(hO:Heap)(A:Around)(cf:Cf)
noncomputable abbrev ev (e:Expr) (c:Cx) (H:Hp) (k:V->Hp->Prop):Prop:=aH False And aN cf e c H k
noncomputable def bP (e:Expr):Prop:=∀(env:Env) (c:Cx) (N:Addr->Prop) (μ:List P2) (H:Hp) (s:Shared) (k:V->Hp->Prop),Std w hO N μ H s->cJ w N μ s.heap env c->aH False And aN cf e c H k->aD (pm w) A (eval e env) (Got w hO N μ s k) s
noncomputable def iI (e:Expr):Prop:=∀(env:Env) (c:Cx) (N:Addr->Prop) (μ:List P2) (H:Hp) (s:Shared) (k:Bool->Hp->Prop),Std w hO N μ H s->cJ w N μ s.heap env c->fV False And aN cf e (λH k=>aH False And aN cf e c H k) c H k->aD (pm w) A (isTrue e env (eval e env)) (zH w hO N μ s k) s
noncomputable def uX (es:List Expr):Prop:=∀(env:Env) (c:Cx) (N:Addr->Prop) (μ:List P2) (H:Hp) (s:Shared) (k:List V->Hp->Prop) (pos:Pos),Std w hO N μ H s->cJ w N μ s.heap env c->noStar es=true->iU False And aN cf es c H k->aD (pm w) A (spliced (backTo pos (starEach es env))) (L6 w hO N μ s k) s
end
section
variable {w:World}{A:Around}{hO:Heap}{N:Addr->Prop}{μ:List P2}{H:Hp}{s:Shared}{env:Env}{c:Cx}{cf:Cf}
theorem Got.after(X:Ext no μ s μ1 sA)(g:Got w hO N μ1 sA k v s'):Got w hO N μ s k v s':=by
 obtain⟨d,H',μ',a,b,c,e⟩:=g
 exact⟨d,H',μ',a,b,X.trans c,e⟩
theorem zH.after{v:Bool}(X:Ext no μ s μ1 sA)(g:zH w hO N μ1 sA k v s'):zH w hO N μ s k v s':=by
 obtain⟨H',μ',a,b,c⟩:=g
 exact⟨H',μ',a,b,X.trans c⟩
theorem L6.after(X:Ext no μ s μ1 sA)(g:L6 w hO N μ1 sA k v s'):L6 w hO N μ s k v s':=by
 obtain⟨d,H',μ',a,b,c,e⟩:=g
 exact⟨d,H',μ',a,b,X.trans c,e⟩
theorem Ext.up'(X:Ext no μ s μ' s'):Up N μ s.heap N μ' s'.heap:=X.up λ_ z=>z.elim
theorem G.afterL(X:Ext no μ s μ1 sA)(h:aD (pm w) A t (Got w hO N μ1 sA k) sA):aD (pm w) A t (Got w hO N μ s k) sA:=G.mono h λ_ _ g=>g.after X
theorem oO(X:Ext no μ s μ1 sA)(h:wpAny (pm w) A t (Gv w hO N μ1 H sA (λd=>k d H)) (λ_ _=>False) sA):aD (pm w) A t (Got w hO N μ s k) sA:=
 G.afterL X (j8 h)
theorem L7(B:Base w hO){x pos}:bP w hO A cf (.Name x pos):=by
 intro env c N μ H s k S F e
 have e:opt False (name aN c x) (λd=>k d H):=e
 refine aT (bA.mp e) λd hd e=>?_
 exact G.leaf (wpAny_Name (AK B S F hd λv r=>⟨d,H,μ,e,S,Ext.refl _ _ _,r⟩) (FJ F hd))
theorem mV{x kd pos}:bP w hO A cf (.Constant x kd pos):=by
 intro env c N μ H s k S F e
 rw[arm_eval_Constant]
 induction x using PySem.Const.casesOn with
 |none=>exact G.pure ((Gv.now (k:=λd=>k d H) S e (.inl rfl)).got)
 |bool b=>exact G.pure ((Gv.now (k:=λd=>k d H) S e (.inl rfl)).got)
 |int i=>exact G.leaf (wpAny_mkInt ((Gv.tok (k:=λd=>k d H) (d:=.int i) S e ⟨_,rfl⟩).got))
 |str x=>exact G.leaf (wpAny_mkText ((Gv.tok (k:=λd=>k d H) (d:=.str x) S e ⟨_,rfl⟩).got))
 |bytes b=>
   have e:guard False (fits b) (k (.bytes (b.map λu=>(u.toNat:Int))) H):=e
   obtain⟨_,e⟩:=aA.mp e
   refine G.leaf ?_
   show wpAny _ _ (mkTextBytes b.toArray) _ _ _
   exact wpAny_bind (wpAny_fresh (wpAny_pure ((Gv.tok (k:=λd=>k d H) (d:=.bytes (b.map λu=>(u.toNat:Int))) S e ⟨b.toArray,_,rfl,rfl⟩).got)))
 |_=>exact e.elim
theorem G5{l op r pos}(hl:bP w hO A cf l)(hr:bP w hO A cf r):bP w hO A cf (.BinOp l op r pos):=by
 intro env c N μ H s k S F e
 refine G.BinOpE (G.mono (hl env c N μ H s _ S F e) λa sA g=>?_)
 obtain⟨dA,H1,μ1,eA,S1,X1,rA⟩:=g
 refine G.mono (hr env c N μ1 H1 sA _ S1 (F.ext S X1) eA) λb sB g=>?_
 obtain⟨dB,H2,μ2,eB,S2,X2,rB⟩:=g
 exact oO (X1.trans X2) (IA (k:=λd=>k d H2) S2 (aW X2.up' rA) rB eB)
theorem oA{op x pos}(hx:bP w hO A cf x):bP w hO A cf (.UnaryOp op x pos):=by
 intro env c N μ H s k S F e
 refine G.UnaryOpE (G.mono (hx env c N μ H s _ S F e) λa sA g=>?_)
 obtain⟨dA,H1,μ1,eA,S1,X1,rA⟩:=g
 induction op using PySem.UnaryOp.casesOn with
 |Not=>
   refine aT (bA.mp eA) λb hb eA=>?_
   refine G.leaf (not_of (qA hb rA ?_))
   exact⟨.bool (!b),H1,μ1,eA,S1,X1,.inl rfl⟩
 |USub=>
   induction dA using V.casesOn with
   |int i=>exact oO X1 (PI (k:=λd=>k d H1) S1 rA eA)
   |_=>exact eA.elim
 |_=>exact eA.elim
theorem D9{t b o pos}(ht:iI w hO A cf t)(hb:bP w hO A cf b)(ho:bP w hO A cf o):bP w hO A cf (.IfExp t b o pos):=by
 intro env c N μ H s k S F e
 refine G.IfExpE (G.mono (ht env c N μ H s _ S F e) λv sA g=>?_)
 obtain⟨H1,μ1,eA,S1,X1⟩:=g
 induction v using Bool.casesOn with
 |true=>exact G.afterL X1 (hb env c N μ1 H1 sA _ S1 (F.ext S X1) eA)
 |false=>exact G.afterL X1 (ho env c N μ1 H1 sA _ S1 (F.ext S X1) eA)
theorem NZ:uX w hO A cf []:=by
 intro env c N μ H s k pos S F hs e
 show aD _ _ (spliced []) _ _
 exact G.pure ⟨[],H,μ,e,S,Ext.refl _ _ _,by rw[a8]⟩
theorem JK{e es}(he:bP w hO A cf e)(hes:uX w hO A cf es):uX w hO A cf (e::es):=by
 intro env c N μ H s k pos S F hs q
 obtain⟨h1,h2⟩:=Bool.and_eq_true_iff.mp hs
 rw[jY (Q4 h1)]
 show aD _ _ (spliced ((false,eval e env)::backTo pos (starEach es env))) _ _
 refine G.spliced_cons (G.mono (he env c N μ H s _ S F q) λv sA g=>?_)
 obtain⟨dA,H1,μ1,eA,S1,X1,rA⟩:=g
 refine G.mono (hes env c N μ1 H1 sA _ pos S1 (F.ext S X1) h2 eA) λvs sB g=>?_
 obtain⟨ds,H2,μ2,eB,S2,X2,rB⟩:=g
 refine⟨dA::ds,H2,μ2,eB,S2,X1.trans X2,?_⟩
 rw[aJ]
 exact⟨v,vs,rfl,aW X2.up' rA,rB⟩
theorem FQ{es kd pos}(hes:uX w hO A cf es):bP w hO A cf (.Tuple es kd pos):=by
 intro env c N μ H s k S F e
 obtain⟨hs,e⟩:=aA.mp e
 refine G.TupleD (G.mono (hes env c N μ H s _ pos S F hs e) λvs sA g=>?_)
 obtain⟨ds,H1,μ1,eA,S1,X1,rA⟩:=g
 obtain⟨hf,eA⟩:=aA.mp eA
 have hl:=aV rA
 have hf:=of_decide_eq_true hf
 exact oO X1 (wpAny_newTuple (Gv.newTup (k:=λd=>k d H1) (t:=sA.toks) S1 eA rA) (by rw[sizeLine_eq];lia))
theorem MW{es pos}(hes:uX w hO A cf es):bP w hO A cf (.List es pos):=by
 intro env c N μ H s k S F e
 obtain⟨hs,e⟩:=aA.mp e
 refine G.ListD (G.mono (hes env c N μ H s _ pos S F hs e) λvs sA g=>?_)
 obtain⟨ds,H1,μ1,eA,S1,X1,rA⟩:=g
 obtain⟨hf,eA⟩:=aA.mp eA
 have hl:=aV rA
 have hf:=of_decide_eq_true hf
 induction hp:aN.list pos using Bool.casesOn with
 |true=>
   rw[hp]at eA
   exact G.afterL X1 (G.leaf (wpAny_newList (Got.newList (t:=sA.toks) S1 rA eA) (by rw[sizeLine_eq];lia)))
 |false=>
   rw[hp]at eA
   exact oO X1 (wpAny_newList (Gv.newSeq (k:=λd=>k d H1) (t:=sA.toks) S1 eA rA) (by rw[sizeLine_eq];lia))
theorem tM(B:Base w hO){o x pos}(ho:bP w hO A cf o):bP w hO A cf (.Attribute o x pos):=by
 intro env c N μ H s k S F e
 obtain⟨hb,e⟩:=aA.mp e
 refine G.AttributeE (by simpa using hb) (G.mono (ho env c N μ H s _ S F e) λa sA g=>?_)
 obtain⟨dA,H1,μ1,eA,S1,X1,rA⟩:=g
 exact oO X1 (y9 (k:=λd=>k d H1) B S1 rA eA)
end
end Mine
end
section
open PySem PySem.W PyProof.Rows PySem.SeqAt PySem.Builtin
open PySem.Sem (wp)
namespace Mine
section
variable (w:World)(hO:Heap)(A:Around)(cf:Cf)
noncomputable def zN (e:Option Expr):Prop:=∀(env:Env) (c:Cx) (N:Addr->Prop) (μ:List P2) (H:Hp) (s:Shared) (k:V->Hp->Prop),Std w hO N μ H s->cJ w N μ s.heap env c->ED False And aN cf e c H k->aD (pm w) A (valueOrNone (evalOpt e env)) (Got w hO N μ s k) s
noncomputable def DI (es:List Expr):Prop:=∀(ops:List CmpOp) (a:V) (av:Value) (env:Env) (c:Cx) (N:Addr->Prop) (μ:List P2) (H:Hp) (s:Shared) (k:Bool->Hp->Prop) (pos:Pos),Std w hO N μ H s->cJ w N μ s.heap env c->VR w N μ s.heap a av->wJ es=true->ops.length=es.length->vP False And aN cf ops es c a H k->
 aD (pm w) A (testChain pos av ops (markedEach ops es (evalEach es env))) (zH w hO N μ s k) s/\aD (pm w) A (compareChain pos av ops (markedEach ops es (evalEach es env))) (Got w hO N μ s λd H=>∃b,d= .bool b/\k b H) s
noncomputable def ET (es:List Expr):Prop:=∀(op:BoolOp) (env:Env) (c:Cx) (N:Addr->Prop) (μ:List P2) (H:Hp) (s:Shared) (k:V->Hp->Prop) (pos:Pos),Std w hO N μ H s->cJ w N μ s.heap env c->zZ False And aN cf op es c H k->aD (pm w) A (boolOp pos op (evalEach es env)) (Got w hO N μ s k) s
noncomputable def v9 (es:List Expr):Prop:=∀(op:BoolOp) (env:Env) (c:Cx) (N:Addr->Prop) (μ:List P2) (H:Hp) (s:Shared) (k:Bool->Hp->Prop),Std w hO N μ H s->cJ w N μ s.heap env c->zF False And aN cf op es c H k->aD (pm w) A (allTrue op es env) (zH w hO N μ s k) s
noncomputable def tY (es:List Expr):Prop:=∀(env:Env) (c:Cx) (N:Addr->Prop) (μ:List P2) (H:Hp) (s:Shared) (k:Bool->Hp->Prop),Std w hO N μ H s->cJ w N μ s.heap env c->iR False And aN cf es c H k->aD (pm w) A (G.testsT es true env) (zH w hO N μ s k) s
end
section
variable {w:World}{A:Around}{hO:Heap}{N:Addr->Prop}{μ:List P2}{H:Hp}{s:Shared}{env:Env}{c:Cx}{cf:Cf}
theorem MK:zN w hO A cf none:=by
 intro env c N μ H s k S F e
 show aD _ _ (Pure.pure Value.none) _ _
 exact G.pure ((Gv.now (k:=λd=>k d H) S e (.inl rfl)).got)
theorem uD{e}(he:bP w hO A cf e):zN w hO A cf (some e):=by
 intro env c N μ H s k S F q
 exact he env c N μ H s k S F q
theorem tB(R:eP A){o i pos}(ho:bP w hO A cf o)(hi:bP w hO A cf i)
  (heq:∀c H k,aH False And aN cf (.Subscript o i pos) c H k=aH False And aN cf o c H λa H=>aH False And aN cf i c H λj H=>oS False H a j λd=>k d H):bP w hO A cf (.Subscript o i pos):=by
 intro env c N μ H s k S F e
 rw[heq]at e
 refine G.SubscriptE (G.mono (ho env c N μ H s _ S F e) λa sA g=>?_)
 obtain⟨dA,H1,μ1,eA,S1,X1,rA⟩:=g
 refine G.mono (hi env c N μ1 H1 sA _ S1 (F.ext S X1) eA) λb sB g=>?_
 obtain⟨dB,H2,μ2,eB,S2,X2,rB⟩:=g
 have:=R.un
 exact oO (X1.trans X2) (CU (k:=λd=>k d H2) (by lia) S2 (aW X2.up' rA) rB eB)
theorem wN{o lo hi spos pos}(ho:bP w hO A cf o)(hl:zN w hO A cf lo)(hh:zN w hO A cf hi):bP w hO A cf (.Subscript o (.Slice lo hi none spos) pos):=by
 intro env c N μ H s k S F e
 refine G.SubscriptE (G.mono (ho env c N μ H s _ S F e) λa sA g=>?_)
 obtain⟨dA,H1,μ1,eA,S1,X1,rA⟩:=g
 refine G.SliceE (G.mono (hl env c N μ1 H1 sA _ S1 (F.ext S X1) eA) λl sB g=>?_)
 obtain⟨dB,H2,μ2,eB,S2,X2,rB⟩:=g
 have XAB:=X1.trans X2
 refine G.mono (hh env c N μ2 H2 sB _ S2 (F.ext S XAB) eB) λu sC g=>?_
 obtain⟨dC,H3,μ3,eC,S3,X3,rC⟩:=g
 refine G.leaf ?_
 refine wpAny_newObj_type ?_
 have P:=Ext.push (μ:=μ3) (s:=sC) (A6 l u)
 refine oO (XAB.trans (X3.trans P)) (HO (k:=λd=>k d H3) (S3.push (A6 l u)) (aW ((X2.trans (X3.trans P)).up') rA) (aW ((X3.trans P).up') rB) (aW P.up' rC) (Heap.IsSliceOf.new _ _ _ _) eC)
theorem OB:DI w hO A cf []:=by
 intro ops a av env c N μ H s k pos S F r hs hl e
 exact e.elim
theorem vG(hs:wJ (e::es)=true)(hl:(op::ops).length=(e::es).length):∃y ys,markedEach (op::ops) (e::es) (evalEach (e::es) env)=y::ys:=by
 obtain⟨h1,h2⟩:=Bool.and_eq_true_iff.mp hs
 match ops,es,hl with
 | [],[],_=>exact⟨_,_,G.marked_one (t:=eval e env) (by simpa using h1)⟩
 |op'::ops,e'::es,_=>exact⟨_,_,G.marked_cons (t:=eval e env) (t':=eval e' env) (ts:=evalEach es env)⟩
 | [],_::_,h=>simp at h
 |_::_,[],h=>simp at h
theorem I6(R:eP A){e es}(he:bP w hO A cf e)(hes:DI w hO A cf es):DI w hO A cf (e::es):=by
 intro ops a av env c N μ H s k pos S F r hs hl q
 have hu:=R.un
 obtain⟨h1,h2⟩:=Bool.and_eq_true_iff.mp hs
 have h1:eU e=false:=by simpa using h1
 rcases ops with _|⟨op,ops⟩
 ·exact nomatch hl
 rcases es with _|⟨e',es'⟩
 ·rcases ops with _|⟨op',ops''⟩
  ·have q:aH False And aN cf e c H λb H=>mW False H op a b λv=>k v H:=q
   have e0:markedEach [op] [e] (evalEach [e] env)=[eval e env]:=G.marked_one h1
   rw[e0]
   constructor
   ·refine G.test_one (G.mono (he env c N μ H s _ S F q) λb sA g=>?_)
    obtain⟨dA,H1,μ1,eA,S1,X1,rA⟩:=g
    refine G.leaf (wpAny_mono (kR S1 (aW X1.up' r) rA (by lia) eA) (λv sB y=>?_) λ_ _ z=>z)
    obtain⟨rb,rfl,hk,rfl⟩:=y
    exact G.leaf (wpAny_truthy_bool ⟨H1,μ1,hk,S1,X1⟩)
   ·refine G.chain_one (G.mono (he env c N μ H s _ S F q) λb sA g=>?_)
    obtain⟨dA,H1,μ1,eA,S1,X1,rA⟩:=g
    refine G.leaf (wpAny_mono (kR S1 (aW X1.up' r) rA (by lia) eA) (λv sB y=>?_) λ_ _ z=>z)
    obtain⟨rb,rfl,hk,rfl⟩:=y
    exact⟨.bool rb,H1,μ1,⟨rb,rfl,hk⟩,S1,X1,.inl rfl⟩
  ·exact nomatch hl
 ·rcases ops with _|⟨op',ops''⟩
  ·exact nomatch hl
  ·have q:aH False And aN cf e c H (UO False op (op'::ops'') (e'::es') (vP False And aN cf (op'::ops'') (e'::es') c) a k):=q
   have e0:markedEach (op::op'::ops'') (e::e'::es') (evalEach (e::e'::es') env)=eval e env::markedEach (op'::ops'') (e'::es') (evalEach (e'::es') env):=G.marked_cons
   have hl':(op'::ops'').length=(e'::es').length:=by simpa using hl
   refine NW (vG (env:=env) h2 hl') λy ys e1=>?_
   rw[e0]
   constructor
   ·rw[e1]
    refine G.test_cons (G.mono (he env c N μ H s _ S F q) λb sA g=>?_)
    obtain⟨dA,H1,μ1,eA,S1,X1,rA⟩:=g
    refine G.leaf (wpAny_mono (kR S1 (aW X1.up' r) rA (by lia) eA) (λv sB y=>?_) λ_ _ z=>z)
    obtain⟨rb,rfl,hk,rfl⟩:=y
    refine G.leaf (wpAny_truthy_bool ?_)
    induction rb using Bool.casesOn with
    |false=>exact⟨H1,μ1,hk,S1,X1⟩
    |true=>
      rw[<-e1]
      exact G.mono (hes (op'::ops'') dA b env c N μ1 H1 _ k pos S1 (F.ext S X1) rA h2 hl' hk).1 λ_ _ g=>g.after X1
   ·rw[e1]
    refine G.chain_cons (G.mono (he env c N μ H s _ S F q) λb sA g=>?_)
    obtain⟨dA,H1,μ1,eA,S1,X1,rA⟩:=g
    refine G.leaf (wpAny_mono (kR S1 (aW X1.up' r) rA (by lia) eA) (λv sB y=>?_) λ_ _ z=>z)
    obtain⟨rb,rfl,hk,rfl⟩:=y
    refine G.leaf (wpAny_truthy_bool ?_)
    induction rb using Bool.casesOn with
    |false=>exact⟨.bool false,H1,μ1,⟨false,rfl,hk⟩,S1,X1,.inl rfl⟩
    |true=>
      rw[<-e1]
      exact G.afterL X1 (hes (op'::ops'') dA b env c N μ1 H1 _ k pos S1 (F.ext S X1) rA h2 hl' hk).2
theorem zQ{l ops cs pos}(hl:bP w hO A cf l)(hcs:DI w hO A cf cs):bP w hO A cf (.Compare l ops cs pos):=by
 intro env c N μ H s k S F e
 obtain⟨g,e⟩:=aA.mp e
 obtain⟨hs,hn⟩:=Bool.and_eq_true_iff.mp g
 refine G.CompareE (G.mono (hl env c N μ H s _ S F e) λa sA g=>?_)
 obtain⟨dA,H1,μ1,eA,S1,X1,rA⟩:=g
 refine G.afterL X1 (G.mono (hcs ops dA a env c N μ1 H1 sA _ pos S1 (F.ext S X1) rA hs (by simpa using hn) eA).2 λv s' g=>?_)
 obtain⟨d,H',μ',⟨b,rfl,hk⟩,y1,y2,y3⟩:=g
 exact⟨.bool b,H',μ',hk,y1,y2,y3⟩
theorem yS{l ops cs pos}(hl:bP w hO A cf l)(hcs:DI w hO A cf cs):iI w hO A cf (.Compare l ops cs pos):=by
 intro env c N μ H s k S F e
 obtain⟨g,e⟩:=aA.mp e
 obtain⟨hs,hn⟩:=Bool.and_eq_true_iff.mp g
 refine G.isTrue_Compare (G.mono (hl env c N μ H s _ S F e) λa sA g=>?_)
 obtain⟨dA,H1,μ1,eA,S1,X1,rA⟩:=g
 exact G.mono (hcs ops dA a env c N μ1 H1 sA _ pos S1 (F.ext S X1) rA hs (by simpa using hn) eA).1 λ_ _ g=>g.after X1
theorem PO:ET w hO A cf []:=by
 intro op env c N μ H s k pos S F e
 exact e.elim
theorem LK{e es}(he:bP w hO A cf e)(hes:ET w hO A cf es):ET w hO A cf (e::es):=by
 intro op env c N μ H s k pos S F q
 match es,hes,q with
 | [],hes,q=>
   show aD _ _ (boolOp pos op [eval e env]) _ _
   rw[G.boolOp_one]
   exact he env c N μ H s k S F q
 |e'::es',hes,q=>
   have q:aH False And aN cf e c H (UJ False op (zZ False And aN cf op (e'::es') c) k):=q
   show aD _ _ (boolOp pos op (eval e env::eval e' env::evalEach es' env)) _ _
   refine G.boolOp_cons (G.mono (he env c N μ H s _ S F q) λv sA g=>?_)
   obtain⟨dA,H1,μ1,eA,S1,X1,rA⟩:=g
   refine aT (bA.mp eA) λb hb eA=>?_
   refine G.leaf (qA hb rA ?_)
   rcases op<;>rcases b
   ·exact⟨dA,H1,μ1,eA,S1,X1,rA⟩
   ·exact G.afterL X1 (hes .And env c N μ1 H1 sA k pos S1 (F.ext S X1) eA)
   ·exact G.afterL X1 (hes .Or env c N μ1 H1 sA k pos S1 (F.ext S X1) eA)
   ·exact⟨dA,H1,μ1,eA,S1,X1,rA⟩
theorem DC{op vs pos}(h:ET w hO A cf vs):bP w hO A cf (.BoolOp op vs pos):=by
 intro env c N μ H s k S F e
 rw[arm_eval_BoolOp]
 exact h op env c N μ H s k pos S F e
theorem IY:v9 w hO A cf []:=by
 intro op env c N μ H s k S F e
 induction op using PySem.BoolOp.casesOn with
 |And=>rw[arm_allTrue_nil];exact G.pure ⟨H,μ,e,S,Ext.refl _ _ _⟩
 |Or=>rw[arm_allTrue_nil];exact G.pure ⟨H,μ,e,S,Ext.refl _ _ _⟩
theorem HV{e es}(he:iI w hO A cf e)(hes:v9 w hO A cf es):v9 w hO A cf (e::es):=by
 intro op env c N μ H s k S F q
 refine G.allTrue_cons (G.mono (he env c N μ H s _ S F q) λb sA g=>?_)
 obtain⟨H1,μ1,eA,S1,X1⟩:=g
 rcases op<;>rcases b
 ·exact⟨H1,μ1,eA,S1,X1⟩
 ·exact G.mono (hes .And env c N μ1 H1 sA k S1 (F.ext S X1) eA) λ_ _ g=>g.after X1
 ·exact G.mono (hes .Or env c N μ1 H1 sA k S1 (F.ext S X1) eA) λ_ _ g=>g.after X1
 ·exact⟨H1,μ1,eA,S1,X1⟩
theorem BU{op vs pos}(h:v9 w hO A cf vs):iI w hO A cf (.BoolOp op vs pos):=by
 intro env c N μ H s k S F e
 rw[arm_isTrue_BoolOp]
 exact h op env c N μ H s k S F e
theorem QB{x pos}(h:iI w hO A cf x):iI w hO A cf (.UnaryOp .Not x pos):=by
 intro env c N μ H s k S F e
 refine G.isTrue_Not (G.mono (h env c N μ H s _ S F e) λb sA g=>?_)
 obtain⟨H1,μ1,eA,S1,X1⟩:=g
 exact⟨H1,μ1,eA,S1,X1⟩
theorem FF{t b o pos}(ht:iI w hO A cf t)(hb:iI w hO A cf b)(ho:iI w hO A cf o):iI w hO A cf (.IfExp t b o pos):=by
 intro env c N μ H s k S F e
 refine G.isTrue_IfExp (G.mono (ht env c N μ H s _ S F e) λv sA g=>?_)
 obtain⟨H1,μ1,eA,S1,X1⟩:=g
 induction v using Bool.casesOn with
 |true=>exact G.mono (hb env c N μ1 H1 sA _ S1 (F.ext S X1) eA) λ_ _ g=>g.after X1
 |false=>exact G.mono (ho env c N μ1 H1 sA _ S1 (F.ext S X1) eA) λ_ _ g=>g.after X1
theorem FG{e}(he:bP w hO A cf e)(hm:∀env,isTrue e env (eval e env)=(do let v <-eval e env;standAt e.pos;holding [v] (truthy v)))
  (heq:∀(c:Cx) (H:Hp) (k:Bool->Hp->Prop),fV False And aN cf e (λH k=>aH False And aN cf e c H k) c H k=aH False And aN cf e c H λd H=>opt False (truth d) λb=>k b H):iI w hO A cf e:=by
 intro env c N μ H s k S F q
 rw[heq]at q
 rw[hm]
 refine G.bind (G.mono (he env c N μ H s _ S F q) λv sA g=>G.bind (G.standAt (G.holding ?_)))
 obtain⟨dA,H1,μ1,eA,S1,X1,rA⟩:=g
 refine aT (bA.mp eA) λb hb eA=>?_
 exact G.leaf (qA hb rA ⟨H1,μ1,eA,S1,X1⟩)
theorem PH:tY w hO A cf []:=by
 intro env c N μ H s k S F e
 delta G.testsT
 rw[List.forIn_nil]
 exact G.pure ⟨H,μ,e,S,Ext.refl _ _ _⟩
theorem MM{e es}(he:iI w hO A cf e)(hes:tY w hO A cf es):tY w hO A cf (e::es):=by
 intro env c N μ H s k S F q
 refine G.tests_cons (G.mono (he env c N μ H s _ S F q) λb sA g=>?_)
 obtain⟨H1,μ1,eA,S1,X1⟩:=g
 induction b using Bool.casesOn with
 |true=>exact G.mono (hes env c N μ1 H1 sA k S1 (F.ext S X1) eA) λ_ _ g=>g.after X1
 |false=>exact⟨H1,μ1,eA,S1,X1⟩
end
end Mine
end
section
open PySem PySem.W PyProof.Rows PySem.SeqAt PySem.Builtin
open PySem.Sem (wp)
namespace Mine
theorem j7:noStar as=true->(starEach as env).all (λt=> !t.1)=true:=by
 induction as with
 |nil=>exact λ_=>rfl
 |cons e es ih=>
   intro h
   rw[jY (Q4 (cS h).1),List.all_cons,ih (cS h).2]
   rfl
theorem oX(h:ts.all (λt=> !t.1)=true):(backTo pos ts).all (λt=> !t.1)=true:=by
 delta backTo
 rw[List.all_map]
 exact h
theorem N5:(tab.all λe=>dE.contains e.name)=true:=by kernel_rfl
theorem OW:(gV.all λe=>dE.contains e.name)=true:=by kernel_rfl
theorem R8:(bO.all λe=>d5.contains e.1)=true:=by kernel_rfl
theorem D1(P:Params):(gV.all λk=>keepIn (frag P) (.ref k.addr))=true:=by kernel_rfl
theorem CY(h:jO x=some v)(hn:aN.isFn x=false):x∈d5:=by
 have hn:dE.contains x=false:=hn
 refine sX h (λe he q _=>?_) (λe he q _=>?_) λq=>List.contains_iff_mem.mp (List.all_eq_true.mp R8 _ q)
 ·exact mN ((List.all_eq_true.mp N5 e he).symm.trans ((congrArg dE.contains q).trans hn))
 ·exact mN ((List.all_eq_true.mp OW e he).symm.trans ((congrArg dE.contains q).trans hn))
theorem yH{q:Option Str}{code:Nat}{pm dflt:Value}{st:Stmt}{o:Obj}(h:k8 q code pm dflt st=some o):∃fd,o.data= .func fd:=by
 have i:(st.ctorIdx==0)=true:=gM (o:=k8 q code pm dflt st) (by clear h;rcases st<;>exact Eq.refl _) h
 revert h
 exact Stmt.FunctionDef.elim st (eq_of_beq i) λ_ _ _ _ _ _ _ _ _ _ h=>Option.some.inj h▸⟨_,rfl⟩
section
variable {w:World}{A:Around}{hO:Heap}{N:Addr->Prop}{μ:List P2}{H:Hp}{s:Shared}{env:Env}{c:Cx}{cf:Cf}
theorem CV{M:Model}(B:Base w hO)(S:Std w hO N μ H s){x:Str}{v:Value}(h:jO x=some v){Q:Keeper->Shared->Prop}(hQ:∀k,(k= .frame\/k= .machine)->Q k s):aD M A (keeperOf v) Q s:=by
 refine sX h (λe he _ q=>?_) (λk hk _ q=>?_) λh=>?_
 ·subst q
  obtain⟨o,ho⟩:=Option.isSome_iff_exists.mp (List.all_eq_true.mp t6 e he)
  have h1:=(B.own.tab e he).2.1
  rw[ho]at h1
  obtain⟨fd,hd⟩:∃fd,o.data= .func fd:=aT (Option.bind_eq_some_iff.mp ho) λst _ h2=>yH h2
  refine G.leaf ?_
  refine wpAny_bind (wpAny_load (S.base _ _ h1) ?_)
  rw[hd]
  exact wpAny_pure (hQ _ (.inl rfl))
 ·subst q
  have h1:=List.all_eq_true.mp (D1 w.params) k hk
  refine aT (looks_keep (M:=M) h1 (B.own.frag.keeps S.base)) λkp hkp L=>?_
  exact G.leaf (L.here (hQ _ hkp))
 ·have e:keeperOf v=Pure.pure .machine:=by
   clear hQ S B
   revert h
   exact(List.forall_mem_cons.mpr ⟨rfl,List.forall_mem_cons.mpr ⟨rfl,List.forall_mem_cons.mpr ⟨rfl,List.forall_mem_cons.mpr ⟨rfl,List.forall_mem_cons.mpr ⟨rfl,List.forall_mem_cons.mpr ⟨rfl,List.forall_mem_cons.mpr ⟨rfl,List.forall_mem_cons.mpr ⟨rfl,λ_ z=>nomatch z⟩⟩⟩⟩⟩⟩⟩⟩:∀p∈bO,keeperOf p.2=Pure.pure .machine) (x,v)
  rw[e]
  exact G.pure (hQ _ (.inr rfl))
theorem v5{H:Hp}{o:V}{x:Str}(h:pA H o x=true):x="append"\/x="index"\/x="get":=(mR h).elim (λh=>h.2.imp id .inl) λh=>.inr (.inr h.2)
theorem xI:keeperOf (mP x)=pure .machine:=by
 delta mP
 rcases x=="append"
 ·rcases x=="index"
  ·rfl
  ·rfl
 ·rfl
theorem DN(R:eP A){o x apos as pos}(ho:bP w hO A cf o)(has:uX w hO A cf as):bP w hO A cf (.Call (.Attribute o x apos) as [] pos):=by
 intro env c N μ H s k S F e
 obtain⟨g,e⟩:=aA.mp e
 simp only[Bool.and_eq_true,Bool.not_eq_true',decide_eq_true_eq]at g
 obtain⟨⟨⟨g1,g2⟩,g3⟩,g4⟩:=g
 have hu:=R.un
 refine G.MethodE g1 (j7 g2) g3 g4 (G.mono (ho env c N μ H s _ S F e) λa sA g=>?_)
 obtain⟨dA,H1,μ1,eA,S1,X1,rA⟩:=g
 obtain⟨hm,eA⟩:=aA.mp eA
 refine⟨mP x,?_,λpl Q' q=>G.leaf (uB S1 rA hm q)⟩
 refine G.callWithE (oX (j7 g2)) (G.mono (has env c N μ1 H1 sA _ pos S1 (F.ext S X1) g2 eA) λvs sB g=>?_)
 obtain⟨ds,H2,μ2,eB,S2,X2,rB⟩:=g
 refine G.of_eq xI (G.pure ⟨.inr rfl,?_⟩)
 exact G.afterL (X1.trans X2) (C0 (v5 hm) (by lia) S2 (aW X2.up' rA) rB eB)
theorem OU{d:V}{F:Str->Prop}(e:match d with| .glob x=>F x|_=>False):∃x,d= .glob x:=by
 have i:(d.ctorIdx==12)=true:=aS (by clear e;rcases d<;>first|exact Eq.refl False|exact Eq.refl _) e
 exact V.glob.elim d (eq_of_beq i) λx=>⟨x,rfl⟩
theorem JT(B:Base w hO)(R:eP A)(hcf:lA w hO A cf){f as pos}(hf:bP w hO A cf f)(has:uX w hO A cf as)
  (heq:eK f=false->∀c H k,aH False And aN cf (.Call f as [] pos) c H k=(guard False (!eK f&&noStar as)<|aH False And aN cf f c H λa H=>iU False And aN cf as c H λds H=>match a with
   | .glob x=>match aN.isFn x with
     |true=>cf x ds H k
     |false=>builtin False x ds H (aN.bar pos) k
   |_=>False)) (hna:eK f=false):bP w hO A cf (.Call f as [] pos):=by
 intro env c N μ H s k S F e
 rw[heq hna]at e
 obtain⟨g,e⟩:=aA.mp e
 simp only[Bool.and_eq_true,Bool.not_eq_true']at g
 obtain⟨g1,g2⟩:=g
 refine G.CallE hna (G.mono (hf env c N μ H s _ S F e) λa sA g=>?_)
 obtain⟨dA,H1,μ1,eA,S1,X1,rA⟩:=g
 refine G.callWithE (oX (j7 g2)) (G.mono (has env c N μ1 H1 sA _ pos S1 (F.ext S X1) g2 eA) λvs sB g=>?_)
 obtain⟨ds,H2,μ2,eB,S2,X2,rB⟩:=g
 have r1':=aW X2.up' rA
 obtain⟨x,rfl⟩:=OU eB
 ·dsimp only at eB
  have hv:=r1'.glob
  refine CV B S2 hv λkp hkp=>⟨hkp,?_⟩
  rw[List.nil_append]
  refine G.afterL (X1.trans X2) ?_
  rcases hfn:aN.isFn x
  ·rw[hfn]at eB
   exact zG R.hd (CY hv hfn) hv S2 rB eB
  ·rw[hfn]at eB
   exact hcf N μ2 H2 sB x ds vs a k hfn hv S2 rB eB
end
end Mine
end
section
open PySem PySem.W PyProof.Rows PySem.SeqAt PySem.Builtin
open PySem.Sem (wp)
namespace Mine
noncomputable def withP (N P:Addr->Prop) (a:Addr):Prop:=N a\/P a
section
variable {w:World}{A:Around}{hO:Heap}{N:Addr->Prop}{μ:List P2}{H:Hp}{s:Shared}{env:Env}{c:Cx}{cf:Cf}
theorem Std.drop{t:Nat}(S:Std w hO (withP N P) μ H s)(hP:∀a,P a->¬N a)(k:∀a o,¬P a->s.heap.get? a=some o->h'.get? a=some o):Std w hO N μ H { s with heap:=h',toks:=t }:=by
 have no:∀p∈μ,¬P p.1/\¬P p.2:=λp hp=>⟨λz=>(S.hr.nn p hp).1 (.inr z),λz=>(S.hr.nn p hp).2 (.inr z)⟩
 have U:Up (withP N P) μ s.heap N μ h':=⟨λ_ _ e=>e,λ_ e=>.inl e,λ_ e=>.inl (.inl e),λa o hn _ e=>k a o (λz=>hn (.inr z)) e⟩
 refine⟨⟨S.hr.len,λn p d hp hd=>?_,λp hp=>⟨λz=>(S.hr.nn p hp).1 (.inl z),λz=>(S.hr.nn p hp).2 (.inl z)⟩,S.hr.sep⟩,λa o e=>?_,S.low,λa q=>⟨(S.nlow a (.inl q)).1,?_⟩⟩
 ·have hm:=List.mem_of_getElem? hp
  exact fT U d p (λo=>k _ o (no p hm).1) (λo=>k _ o (no p hm).2) (S.hr.rel n p d hp hd)
 ·refine k a o (λz=>?_) (S.base a o e)
  have:=(S.nlow a (.inr z)).1
  rw[this]at e;injection e
 ·induction z:s.heap.get? a using Option.casesOn with
  |none=>exact absurd z (S.nlow a (.inl q)).2
  |some o=>rw[k a o (λz=>hP a z q) z];simp
theorem lF(k:∀a o,¬P a->s.heap.get? a=some o->h'.get? a=some o):Up (withP N P) μ s.heap N μ h':=
 ⟨λ_ _ e=>e,λ_ e=>.inl e,λ_ e=>.inl (.inl e),λa o hn _ e=>k a o (λz=>hn (.inr z)) e⟩
theorem Ext.drop{t:Nat}(X:Ext (withP F P) μ s μ' s')(hI:∀a,P a->s.heap.get? a=none)(k:∀a o,¬P a->s'.heap.get? a=some o->h'.get? a=some o):Ext F μ s μ' { s' with heap:=h',toks:=t }:=by
 obtain⟨⟨h1,t1,rfl⟩,p,o,kp,z⟩:=X
 refine⟨⟨h',t,rfl⟩,p,o,λa ob hf ho e=>?_,λa e=>?_⟩
 ·have hne:¬P a:=λq=>by rw[hI a q]at e;injection e
  exact k a ob hne (kp a ob (λq=>q.elim hf hne) ho e)
 ·have hne:¬P a:=λq=>e (hI a q)
  have:=z a e
  induction q:h1.get? a using Option.casesOn with
  |none=>exact absurd q this
  |some ob=>show h'.get? a≠none;rw[k a ob hne q];simp
theorem cJ.withP(F:cJ w N μ s.heap env c)(g:∀a o,s.heap.get? a=some o->h'.get? a=some o)(k:∀a,P a->s.heap.get? a=none):cJ w (withP N P) μ h' env c:=
 F.keep ⟨λ_ _ e=>e,λ_ e=>.inl e,λa e=>e.imp id (k a),λa o _ _ e=>g a o e⟩ (λ_=>.inl) λa o _ e=>g a o e
theorem Std.withP{t:Nat}(S:Std w hO N μ H s)(g:∀a o,s.heap.get? a=some o->h'.get? a=some o)(k:∀a,P a->s.heap.get? a=none/\h'.get? a≠none):Std w hO (withP N P) μ H { s with heap:=h',toks:=t }:=
 S.moreN g λa e=>e.imp id (k a)
theorem Base.size3(B:Base w hO)(S:Std w hO N μ H s):(s.heap.objs.size==sysModules)=false:=by
 refine NW B.top λmg mb T=>?_
 obtain⟨o,_,_,e,_⟩:=T.g
 have:=Heap.lt_size (S.base _ _ e)
 have h3:(3:Nat)<s.heap.objs.size:=this
 rw[beq_eq_false_iff_ne]
 intro z
 have z:s.heap.objs.size=1:=z
 rw[z]at h3
 exact absurd h3 (by decide)
noncomputable def rX:List (Option Expr)->List Expr->Env->Pos->List (Sem Value×Sem Value)
 |some k::ks,v::vs,env,pos=>(eval k env,(do let x <-eval v env;standAt pos;pure x))::rX ks vs env pos
 |_,_,_,_=>[]
theorem m8{env:Env}{pos:Pos}:∀(ks:List (Option Expr)) (vs:List Expr),ks.length=vs.length->ks.all HF=true->
  (evalEachOpt ks env).zip ((evalEach vs env).map λv=>do let x <-v;standAt pos;pure x)=(rX ks vs env pos).map λp=>(some p.1,p.2)
 | [],[],_,_=>rfl
 |some k::ks,v::vs,h,q=>by
   have ih:=m8 (env:=env) (pos:=pos) ks vs (by simpa using h) (by rw[List.all_cons,Bool.and_eq_true_iff]at q;exact q.2)
   show(some (eval k env),(do let x <-eval v env;standAt pos;pure x))::(evalEachOpt ks env).zip ((evalEach vs env).map λv=>do let x <-v;standAt pos;pure x)=_
   rw[ih];rfl
 |none::ks,v::vs,h,q=>by rw[List.all_cons,Bool.and_eq_true_iff]at q;injection q.1
 | [],_::_,h,_=>by simp at h
 |_::_,[],h,_=>by simp at h
theorem mI{env:Env}{pos:Pos}:∀(ks:List (Option Expr)) (vs:List Expr),ks.length=vs.length->ks.all HF=true->(rX ks vs env pos).length=ks.length
 | [],[],_,_=>rfl
 |some k::ks,v::vs,h,q=>by
   have ih:=mI (env:=env) (pos:=pos) ks vs (by simpa using h) (by rw[List.all_cons,Bool.and_eq_true_iff]at q;exact q.2)
   show(_::rX ks vs env pos).length=_
   simp[ih]
 |none::ks,v::vs,h,q=>by rw[List.all_cons,Bool.and_eq_true_iff]at q;injection q.1
 | [],_::_,h,_=>by simp at h
 |_::_,[],h,_=>by simp at h
variable (w hO A cf)in
noncomputable def H0 (vs:List Expr):Prop:=∀(ks:List (Option Expr)) (env:Env) (c:Cx) (N:Addr->Prop) (μ:List P2) (H:Hp) (s:Shared) (k:List (V×V)->Hp->Prop) (pos:Pos),ks.length=vs.length->ks.all HF=true->Std w hO N μ H s->cJ w N μ s.heap env c->
 sH False And aN cf ks vs c H k->aD (pm w) A (evalPairs (rX ks vs env pos)) (SY w hO N μ s k) s
theorem E3(U:Up N μ h N' μ' h'):∀{l:List (V×V)} {vs:List (Value×Value)},RH w N μ h l vs->RH w N' μ' h' l vs
 | [],vs,x=>x
 |(a,b)::l,vs,x=>by
   refine fU x λva vb us e91 r1 r2 r3=>?_
   clear x
   subst e91
   exact⟨va,vb,us,rfl,aW U r1,aW U r2,E3 U r3⟩
theorem P9:H0 w A hO cf []:=by
 intro ks env c N μ H s k pos hl hk S F e
 induction ks using List.casesOn with
 |nil=>exact G.evalPairs_nil ⟨[],H,μ,e,S,Ext.refl _ _ _,rfl⟩
 |cons _ _=>simp at hl
theorem CA(h:HF (some kx)=true):∃x kd kp,kx= .Constant x kd kp/\((∃i,x= .int i)\/∃i,x= .str i):=by
 obtain⟨x,kd,kp,rfl⟩:=HU (iL (c:=kx.ctorIdx==19) (by clear h;rcases kx<;>exact Eq.refl _) h)
 refine⟨x,kd,kp,rfl,?_⟩
 rcases x<;>first|exact .inl ⟨_,rfl⟩|exact .inr ⟨_,rfl⟩|exact mN h.symm
theorem J1{v vs}(hv:bP w hO A cf v)(hvs:H0 w A hO cf vs):H0 w A hO cf (v::vs):=by
 intro ks env c N μ H s k pos hl hk S F e
 rcases ks with _|⟨_|kx,ks⟩
 ·exact nomatch hl
 ·exact mN (cS hk).1.symm
 ·have hk:=cS hk
  obtain⟨x,kd,kp,rfl,hx⟩:=CA hk.1
  have e:opt False (match x with| .int i=>some (V.int i)| .str s=>some (V.str s)|_=>none) λa=>aH False And aN cf v c H λb H=>sH False And aN cf ks vs c H λps H=>k ((a,b)::ps) H:=e
  show aD _ _ (evalPairs ((eval (.Constant x kd kp) env,(do let y <-eval v env;standAt pos;pure y))::rX ks vs env pos)) _ _
  refine G.evalPairs_cons ?_
  refine aT (bA.mp e) λa ha e=>?_
  have hc:aH False And aN cf (.Constant x kd kp) c H (λd H'=>d=a/\H'=H):=by
   rcases hx with⟨i,rfl⟩|⟨i,rfl⟩
   ·obtain rfl:=Option.some.inj ha;exact⟨rfl,rfl⟩
   ·obtain rfl:=Option.some.inj ha;exact⟨rfl,rfl⟩
  refine G.mono (mV (cf:=cf) env c N μ H s _ S F hc) λav sA g=>?_
  obtain⟨dA,H1,μ1,⟨rfl,rfl⟩,S1,X1,rA⟩:=g
  refine G.bind (G.mono (hv env c N μ1 _ sA _ S1 (F.ext S X1) e) λbv sB g=>G.bind (G.standAt (G.pure ?_)))
  obtain⟨dB,H2,μ2,eB,S2,X2,rB⟩:=g
  refine G.mono (hvs ks env c N μ2 H2 sB _ pos (by simpa using hl) hk.2 S2 (F.ext S (X1.trans X2)) eB) λkvs sC g=>?_
  obtain⟨ds,H3,μ3,eC,S3,X3,rC⟩:=g
  exact⟨(dA,dB)::ds,H3,μ3,eC,S3,(X1.trans X2).trans X3,av,bv,kvs,rfl,aW (X2.trans X3).up' rA,aW X3.up' rB,rC⟩
theorem p0{E:Value->Shared->Prop}{d:Addr}{K:List (V×V)->Prop}(hu:A.units+30<cLine)(hd:N d):∀(ps:List (V×V)) (kvs:List (Value×Value)) (acc:List (V×V)) (es:List DictEntry) (n:Nat) (s:Shared) (Q:PUnit->Shared->Prop),
  Std w hO N μ H s->s.heap.get? d=some (dictOf es n)->gT w N μ s.heap acc es->d9 acc->RH w N μ s.heap ps kvs->oU False K ps acc->
  (∀s' acc' es' n',K acc'->Std w hO N μ H s'->Ext (· =d) μ s μ s'->s'.heap.get? d=some (dictOf es' n')->gT w N μ s'.heap acc' es'->d9 acc'->Q ⟨⟩ s')->
  wpAny (pm w) A (forIn kvs PUnit.unit λ(x:Value×Value) (_:PUnit)=>(do dictSet d x.1 x.2;pure (ForInStep.yield PUnit.unit):Sem (ForInStep PUnit))) Q E s
 | [],kvs,acc,es,n,s,Q,S,ho,r,ap,ks,e,hQ=>by
   have ks:kvs=[]:=ks
   subst ks
   rw[List.forIn_nil]
   exact wpAny_pure (hQ s acc es n e S (Ext.refl _ _ _) ho r ap)
 |(x,y)::ps,kvs,acc,es,n,s,Q,S,ho,r,ap,ks,e,hQ=>by
   refine fU ks λa b us e92 r1 r2 r3=>?_
   clear ks
   subst e92
   have e:guard False (bW x acc) (oU False K ps (dD x y acc)):=e
   obtain⟨ok,e⟩:=aA.mp e
   rw[List.forIn_cons]
   refine wpAny_bind (wpAny_bind (Q2 (by lia) ho r ap ok r1 r2 λh' es' n' t ho' sb r' ap'=>wpAny_pure ?_))
   obtain⟨S',X⟩:=S.atI hd (t:=t) sb.extBut (by rw[ho'];simp)
   have U:Up N μ s.heap N μ h':=X.up λa ha=>ha▸hd
   refine p0 hu hd ps us _ es' n' _ Q S' ho' (mK U _ _ r') ap' (E3 U r3) e λs' acc' es'' n'' hk S'' X' ho'' r'' ap''=>?_
   exact hQ s' acc' es'' n'' hk S'' (X.trans X') ho'' r'' ap''
end
end Mine
end
section
open PySem PySem.W PyProof.Rows PySem.SeqAt PySem.Builtin
open PySem.Sem (wp)
namespace Mine
section
variable {w:World}{A:Around}{hO:Heap}{N:Addr->Prop}{μ:List P2}{H:Hp}{s:Shared}{env:Env}{c:Cx}{cf:Cf}
theorem wQ:Up (withP N (· =d)) μ h N (μ++[(d,d)]) h:=by
 refine⟨λn q e=>?_,λa ha=>?_,λ_ e=>.inl (.inl e),λa o _ _ e=>e⟩
 ·rw[List.getElem?_append_left (List.getElem?_eq_some_iff.mp e).1];exact e
 ·rcases gO ha with h|rfl|rfl
  ·exact .inl h
  ·exact .inr (.inl (.inr rfl))
  ·exact .inr (.inl (.inr rfl))
theorem Std.adopt(S:Std w hO (Mine.withP N (· =d)) μ H s)(hn:¬N d)(x:CR w N (μ++[(d,d)]) s.heap cc (d,d)):Std w hO N (μ++[(d,d)]) (H++[cc]) s/\VR w N (μ++[(d,d)]) s.heap (.ref H.length) (.ref d):=by
 have len:=S.hr.len
 have nd:¬own μ d:=S.not_own (.inr rfl)
 have ne:∀q∈μ,q.1≠d/\q.2≠d:=λq hq=>⟨λz=>nd ⟨q,hq,.inl z.symm⟩,λz=>nd ⟨q,hq,.inr z.symm⟩⟩
 refine⟨⟨⟨by simp[len],λn q e hq hd=>?_,λq hq=>?_,?_⟩,S.base,λa ha=>?_,λa q=>S.nlow a (.inl q)⟩,?_⟩
 ·by_cases hlt:n<μ.length
  ·rw[List.getElem?_append_left hlt]at hq
   rw[List.getElem?_append_left (by lia)]at hd
   exact fT wQ e q (λ_ e=>e) (λ_ e=>e) (S.hr.rel n q e hq hd)
  ·rw[List.getElem?_append_right (by lia)]at hq
   rw[List.getElem?_append_right (by lia)]at hd
   have:n-μ.length=0:=by
    have:=(List.getElem?_eq_some_iff.mp hq).1
    simp at this;lia
   rw[this]at hq
   rw[<-len,this]at hd
   simp at hq hd
   subst hq hd
   exact x
 ·rcases List.mem_append.mp hq with hq|hq
  ·exact⟨λz=>(S.hr.nn q hq).1 (.inl z),λz=>(S.hr.nn q hq).2 (.inl z)⟩
  ·obtain rfl:=List.mem_singleton.mp hq;exact⟨hn,hn⟩
 ·rw[List.pairwise_append]
  refine⟨S.hr.sep,List.pairwise_singleton _ _,λq hq r hr=>?_⟩
  obtain rfl:=List.mem_singleton.mp hr
  exact⟨(ne q hq).1,(ne q hq).1,(ne q hq).2,(ne q hq).2⟩
 ·rcases gO ha with h|rfl|rfl
  ·exact S.low a h
  ·exact(S.nlow _ (.inr rfl)).1
  ·exact(S.nlow _ (.inr rfl)).1
 ·refine .inl ⟨(d,d),?_,rfl⟩
  rw[<-len,List.getElem?_append_right (Nat.le_refl _)]
  simp
theorem Ext.adopt(X:Ext (withP no (· =d)) μ s μ' s')(hd:s.heap.get? d=none):Ext no μ s (μ'++[(d,d)]) s':=by
 obtain⟨sh,⟨ν,rfl⟩,o,k,z⟩:=X
 refine⟨sh,⟨ν++[(d,d)],by simp⟩,λa ha=>?_,λa ob hf ho e=>k a ob (λq=>?_) ho e,z⟩
 ·rcases gO ha with h|rfl|rfl
  ·exact o a h
  ·exact .inr hd
  ·exact .inr hd
 ·rcases q with q|q
  ·exact q
  ·rw[q,hd]at e;injection e
theorem vW{n:Nat}{keep:Bool}(hd:s.heap.get? d=none)(hN:¬N d)(hsm:(d==sysModules)=false)(S:Std w hO (withP N (· =d)) μ' H' s')
  (X:Ext (withP no (· =d)) μ s μ' s') (ho:s'.heap.get? d=some (dictOf es n)) (r:gT w (withP N (· =d)) μ' s'.heap acc es) (ap:d9 acc) (hk:match keep with|true=>k (.ref H'.length) (H'++[.dct acc])|false=>k (.dct acc) H'):Got w hO N μ s k (.ref d) s':=by
 induction keep using Bool.casesOn with
 |true=>
   obtain⟨S',R⟩:=S.adopt (cc:=.dct acc) hN (by exact⟨⟨rfl,ap,hsm⟩,es,n,ho,mK wQ _ _ r⟩)
   exact⟨_,_,_,hk,S',X.adopt hd,R⟩
 |false=>
   have U:Up (withP N (· =d)) μ' s'.heap N μ' s'.heap:=lF (P:=(· =d)) λ_ _ _ e=>e
   refine⟨_,_,_,hk,S.less λ_=>.inl,X.drop (t:=s'.toks) (h':=s'.heap) (λa q=>q▸hd) (λ_ _ _ e=>e),.inr ⟨(d,d),rfl,⟨hN,hN,S.not_own (.inr rfl),S.not_own (.inr rfl)⟩,?_⟩⟩
   exact⟨⟨rfl,ap,hsm⟩,es,n,ho,mK U _ _ r⟩
theorem LP(B:Base w hO)(R:eP A){ks vs pos}(hvs:H0 w A hO cf vs):bP w hO A cf (.Dict ks vs pos):=by
 intro env c N μ H s k S F e
 obtain⟨g,e⟩:=aA.mp e
 delta EJ at g
 simp only[Bool.and_eq_true,beq_iff_eq,decide_eq_true_eq]at g
 obtain⟨⟨g1,g2⟩,g3⟩:=g
 have hu:=R.un
 have z:=bY (h:=s.heap) (Nat.le_refl _)
 have hN:¬N s.heap.objs.size:=λq=>(S.nlow _ q).2 z
 have hsm:=B.size3 S
 have fresh:(s.heap.push { cls:=.type "dict",data:=.dict #[] }).get? s.heap.objs.size=some (dictOf [] 0):=Heap.get?_push_size _ rfl
 have S1:Std w hO (withP N (· =s.heap.objs.size)) μ H { s with heap:=s.heap.push { cls:=.type "dict",data:=.dict #[] } }:=
  S.withP (t:=s.toks) (bS _ _) λa q=>by
   have q:a=s.heap.objs.size:=q
   rw[q]
   exact⟨z,by rw[fresh];simp⟩
 have X1:Ext (withP no (· =s.heap.objs.size)) μ s μ { s with heap:=s.heap.push { cls:=.type "dict",data:=.dict #[] } }:=(Ext.push _).more λ_ q=>.inl q
 induction ks using List.casesOn with
 |nil=>
   have hv:vs=[]:=by induction vs using List.casesOn with|nil=>rfl|cons _ _=>simp at g1
   subst hv
   have e:guard False (fits ([]:List (V×V))) (oU False (λps=>match aN.dict pos with
    |true=>k (.ref H.length) (H++[.dct ps])
    |false=>k (.dct ps) H) [] []):=e
   obtain⟨_,e⟩:=aA.mp e
   rw[eval_Dict_empty]
   refine G.bind (G.standAt (G.leaf ?_))
   refine wpAny_newObj_type ?_ (Nat.zero_le _)
   exact vW (keep:=aN.dict pos) z hN hsm S1 X1 fresh (by rw[hW]) (by exact List.Pairwise.nil) e
 |cons k0 ks=>
   refine G.DictD (m8 _ _ g1 g3) (λq=>?_) (by rw[mI _ _ g1 g3];exact g2) ?_
   ·have:=mI (env:=env) (pos:=pos) _ _ g1 g3
    rw[q]at this;simp at this
   ·refine G.mono (hvs _ env c _ μ H _ _ pos g1 g3 S1 (F.withP (bS _ _) λa q=>by rw[show a=s.heap.objs.size from q];exact z) e) λkvs sB g=>?_
    obtain⟨ps,H2,μ2,eB,S2,X2,rB⟩:=g
    obtain⟨_,eB⟩:=aA.mp eB
    have no1:¬own μ s.heap.objs.size:=λq=>S.own_lt q z
    have ho2:=X2.keep s.heap.objs.size _ (λq=>q) no1 fresh
    refine G.leaf (p0 (by lia) (.inr rfl) ps kvs [] [] 0 sB _ S2 ho2 (by rw[hW]) (by exact List.Pairwise.nil) rB eB λsC acc es n hk S3 X3 ho3 rC ap3=>?_)
    exact vW (keep:=aN.dict pos) z hN hsm S3 (X1.trans ((X2.more λ_ q=>q.elim).trans (X3.more λ_ q=>.inr q))) ho3 rC ap3 hk
end
end Mine
end
section
open PySem PySem.W PyProof.Rows PySem.SeqAt PySem.Builtin
open PySem.Sem (wp)
namespace Mine
theorem mM(f:Str×NameKind->List (Str×Addr)->Sem (ForInStep (List (Str×Addr))))(hf:∀n k cs,f (n,k) cs=if(k== .free)=true then(cellOf env n >>= λa=>pure (.yield ((n,a)::cs)))else pure (.yield cs)):
  ∀(names:List (Str×NameKind)) (acc:List (Str×Addr)),(∀p∈names,p.2= .free->∃a,env.cells.lookup p.1=some a)->(∀p∈acc,env.cells.lookup p.1=some p.2)->
    ∃cl,forIn names acc f=(pure cl:Sem _)/\(∀p∈cl,env.cells.lookup p.1=some p.2)/\(∀p∈acc,p∈cl)/\∀p∈names,p.2= .free->∃a,(p.1,a)∈cl
 | [],acc,h,ha=>⟨acc,List.forIn_nil ..,ha,λ_ z=>z,λ_ z=>(nomatch z)⟩
 |(n,k)::names,acc,h,ha=>by
   have h':∀p∈names,p.2= .free->∃a,env.cells.lookup p.1=some a:=λp hp=>h p (List.mem_cons_of_mem _ hp)
   by_cases hk:k= .free
   ·subst hk
    obtain⟨a,hc⟩:=h (n,.free) List.mem_cons_self rfl
    refine iY (mM f hf names ((n,a)::acc) h' λp hp=>by
     rcases List.mem_cons.mp hp with rfl|hp
     ·exact hc
     ·exact ha p hp) λcl e p1 p2 p3=>?_
    refine⟨cl,?_,p1,λp hp=>p2 p (List.mem_cons_of_mem _ hp),λp hp hq=>?_⟩
    ·rw[List.forIn_cons,hf,if_pos (by rfl)]
     have:cellOf env n=pure a:=by unfold cellOf;rw[hc]
     rw[this]
     exact e
    ·rcases List.mem_cons.mp hp with rfl|hp
     ·exact⟨a,p2 _ List.mem_cons_self⟩
     ·exact p3 p hp hq
   ·refine iY (mM f hf names acc h' ha) λcl e p1 p2 p3=>?_
    refine⟨cl,?_,p1,p2,λp hp hq=>?_⟩
    ·rw[List.forIn_cons,hf,if_neg (by simpa using hk)]
     exact e
    ·rcases List.mem_cons.mp hp with rfl|hp
     ·exact absurd hq hk
     ·exact p3 p hp hq
theorem LX(h:∀p∈sc.names,p.2= .free->∃a,env.cells.lookup p.1=some a):
  ∃cl,closureFor sc env=pure cl/\(∀p∈cl,env.cells.lookup p.1=some p.2)/\∀x,(x,.free)∈sc.names->cl.lookup x=env.cells.lookup x:=by
 refine iY (mM (env:=env) (λx cs=>if(x.2== .free)=true then(cellOf env x.1 >>= λa=>pure (.yield ((x.1,a)::cs)))else pure (.yield cs)) (λ_ _ _=>rfl) sc.names [] h λ_ z=>(nomatch z)) λcl e p1 _ p3=>?_
 refine⟨cl,?_,p1,λx hx=>?_⟩
 ·unfold closureFor
  show(forIn sc.names ([]:List (Str×Addr)) (λx cs=>if(x.2== .free)=true then(cellOf env x.1 >>= λa=>pure (.yield ((x.1,a)::cs)))else pure (.yield cs)) >>= λs=>pure s)=pure cl
  rw[e]
  rfl
 ·obtain⟨a,ha⟩:=p3 _ hx rfl
  have:∃b,cl.lookup x=some b:=by
   induction q:cl.lookup x using Option.casesOn with
   |some b=>exact⟨b,rfl⟩
   |none=>exact absurd ha (by
    intro z
    have:=List.lookup_eq_none_iff.mp q _ z
    simp at this)
  obtain⟨b,hb⟩:=this
  rw[hb]
  exact(p1 _ (mem_of_lookup hb)).symm
theorem lookup_map2{f:Str->NameKind->NameKind}{x:Str}:∀(l:List (Str×NameKind)),(l.map λp=>(p.1,f p.1 p.2)).lookup x=(l.lookup x).map (f x)
 | []=>rfl
 |(n,k)::l=>by
   rw[List.map_cons,List.lookup_cons,List.lookup_cons]
   induction h:x==n using Bool.casesOn with
   |true=>
     have:x=n:=by simpa using h
     subst this
     rfl
   |false=>exact lookup_map2 l
theorem p9{sc:Scope}{env:Env}{x:Str}:(relabel sc env).names.lookup x=(sc.names.lookup x).map λk=>if(k== .free&&env.scope.kind== .function&&env.kindOf x==some .cell)=true then .cell else k:=by
 have:(relabel sc env).names=sc.names.map λp=>(p.1,(λn k=>if(k==NameKind.free&&env.scope.kind== .function&&env.kindOf n==some .cell)=true then NameKind.cell else k) p.1 p.2):=by
  refine List.map_congr_left λp _=>?_
  obtain⟨n,k⟩:=p
  dsimp only
  split<;>rfl
 rw[this]
 exact lookup_map2 (f:=λn k=>if(k==NameKind.free&&env.scope.kind== .function&&env.kindOf n==some .cell)=true then NameKind.cell else k) sc.names
theorem lH(h:tN sc outer=true):tV sc=true/\(∀p∈sc.names,p.2≠ .cell)/\∀p∈sc.names,p.2= .free->outer.names.lookup p.1=some .cell:=by
 obtain⟨a,b⟩:=Bool.and_eq_true_iff.mp h
 refine⟨a,λp hp=>?_,λp hp hq=>?_⟩
 ·have:=List.all_eq_true.mp b p hp
  simp only[Bool.and_eq_true,bne_iff_ne]at this
  exact this.1
 ·have:=List.all_eq_true.mp b p hp
  simp only[Bool.and_eq_true,bne_iff_ne,Bool.or_eq_true,beq_iff_eq]at this
  rcases this.2 with h|h
  ·exact absurd hq h
  ·exact h
theorem qG(h:content H' d=content H d):items H' d=items H d:=by unfold items;rw[h]
theorem xW(h:items H d=some vs):∃cc,content H d=some cc:=by
 delta items at h
 induction q:content H d using Option.casesOn with
 |none=>rw[q]at h;injection h
 |some cc=>exact⟨cc,rfl⟩
theorem oR{a:Prop}:sameAs And H d H' a↔content H' d=content H d/\a:=by
 induction d using V.casesOn with
 |ref n=>rfl
 |_=>exact⟨λh=>⟨rfl,h⟩,λh=>h.2⟩
section
variable {w:World}{A:Around}{E:Value->Shared->Prop}{hO:Heap}{N:Addr->Prop}{μ:List P2}{H:Hp}{s:Shared}{env:Env}{c:Cx}{cf:Cf}
theorem C3{i:Nat}(x:tS w N μ s.heap d cc I i)(h:Q (.ref I) s):wpAny (pm w) A (pyIter (.ref I)) Q E s:=by
 obtain⟨_,v,_,q⟩:=x
 induction cc using V.casesOn with
 |lst l=>refine aT q λl' _ q=>?_;exact wpAny_pyIter_listiter q h
 |tup l=>obtain⟨l',_,q⟩:=q;exact wpAny_pyIter_tupleiter q h
 |bytes l=>refine c8 q λb t _ q=>?_;exact KBw.pyIter_self q h
 |bar l=>refine aT q λa _ q=>?_;exact BF.pyIter_self q h
 |rng a b c=>exact wpAny_pyIter_rangeiter q h
 |_=>exact q.elim
theorem cJ.extP(F:cJ w N μ s.heap env c)(S:Std w hO N μ H s)(X:Ext (Mine.withP no P) μ s μ' s')(hP:∀a,P a->s.heap.get? a=none)(hP':∀a,P' a->s.heap.get? a=none):cJ w (Mine.withP N P') μ' s'.heap env c:=by
 have kp:∀a o,¬own μ a->s.heap.get? a=some o->s'.heap.get? a=some o:=λa o ho e=>X.keep a o (λq=>q.elim (λz=>z) λz=>by rw[hP a z]at e;injection e) ho e
 obtain⟨ν,hν⟩:=X.pre
 refine F.keep ⟨λn p e=>?_,λa ha=>(X.ow a ha).imp id .inr,λa ha=>ha.imp id (hP' a),λa o _ ho e=>kp a o ho e⟩ (λ_=>.inl) λa o hn e=>kp a o (S.not_own hn) e
 rw[hν,List.getElem?_append_left (List.getElem?_eq_some_iff.mp e).1]
 exact e
end
end Mine
end
section
open PySem PySem.W PyProof.Rows PySem.SeqAt PySem.Builtin
open PySem.Sem (wp)
namespace Mine
noncomputable def P3 (I D C a:Addr):Prop:=a=I\/a=D\/a=C
noncomputable def QT (D C a:Addr):Prop:=a=D\/a=C
section
variable {w:World}{A:Around}{E:Value->Shared->Prop}{hO:Heap}{N:Addr->Prop}{μ:List P2}{H:Hp}{s:Shared}{env:Env}{c:Cx}{cf:Cf}
theorem uG(S:Std w hO N μ H s)(hD:N D)(c1:bR s.heap D "list" vs)(hl:vs.length<=1000)
  (hQ:∀s',Std w hO N μ H s'->Ext (· =D) μ s μ s'->bR s'.heap D "list" (vs++[v])->Q .none s'):wpAny (pm w) A (PySem.call (.builtin "list.append") [.ref D,v]) Q E s:=by
 obtain⟨m,c1⟩:=c1
 refine call_meets PySem.F.slot_list_append ⟨_,c1,rfl⟩ PySem.F.entry_list_append (PySem.F.args_list_append_2 _ _) (AutoListH.list_append_list_val_0 D vs.toArray m v (by rw[sizeLine_eq];simp;lia)) ⟨c1,?_⟩
 have sb:=Heap.SameBut.update s.heap D (Obj.mapSeq λx=>x.push v)
 have h1:=Heap.get?_update_self (Obj.mapSeq λx=>x.push v) c1 rfl
 have seq:bR (s.heap.update D (Obj.mapSeq λx=>x.push v)) D "list" (vs++[v]):=by
  refine⟨m+1,?_⟩
  rw[h1]
  simp[Obj.mapSeq]
 obtain⟨S',X⟩:=S.atI hD (t:=s.toks) sb.extBut (by obtain⟨n,e⟩:=seq;rw[e];simp)
 exact hQ _ S' X seq
theorem cJ.keepA(F:cJ w N μ h env c)(U:Up N μ h N' μ' h')(hN:∀a,N a->N' a)(hk:∀a o,gI env a->h.get? a=some o->h'.get? a=some o):cJ w N' μ' h' env c:=by
 refine⟨F.kind,F.g,F.bi,F.ok,F.kof,hN _ F.nl,?_,λx hx=>?_,λx d hx hd=>?_,λp hp=>⟨hN _ (F.nc p hp).1,(F.nc p hp).2⟩,F.apart⟩
 ·refine aT F.loc λm hm hv=>?_
  refine⟨m,?_,λx d hx hd=>?_⟩
  ·obtain⟨o,es,ep,ho,r⟩:=hm
   exact⟨o,es,ep,hk _ _ (.inl rfl) ho,r⟩
  ·refine aT (hv x d hx hd) λv e r=>?_
   exact⟨v,e,aW U r⟩
 ·refine aE (F.cell x hx) λa o e o91 hv=>?_
  obtain⟨ob,ho,hd⟩:=o91
  refine⟨a,o,e,⟨ob,hk _ _ (.inr ⟨_,mem_of_lookup e,rfl⟩) ho,hd⟩,λd hd=>?_⟩
  refine aT (hv d hd) λv e r=>?_
  exact⟨v,e,aW U r⟩
 ·refine aE (F.free x d hx hd) λa v e o92 r=>?_
  obtain⟨ob,ho,hd'⟩:=o92
  exact⟨a,v,e,⟨ob,hk _ _ (.inr ⟨_,mem_of_lookup e,rfl⟩) ho,hd'⟩,aW U r⟩
theorem cJ.atI(F:cJ w N μ s.heap env c)(S:Std w hO N μ H s)(X:Ext (· =I) μ s μ' s')(hI:N I)(hf:∀a,gI env a->a≠I):cJ w N μ' s'.heap env c:=
 F.keepA (X.up λa q=>q▸hI) (λ_ z=>z) λa o hfa e=>X.keep a o (hf a hfa) (S.not_own (F.frN hfa)) e
inductive jI (w:World) (hO:Heap) (N:Addr->Prop) (μ1:List P2) (sA:Shared) (k:V->Hp->Prop) (I:Addr) (acc:Value) (C:Addr) (s':Shared):Prop
 |mk (D:Addr) (ds:List V) (vs:List Value) (H':Hp) (μ':List P2) (ha:acc= .ref D) (hk:k (.lst ds) H') (S:Std w hO (withP N (QT D C)) μ' H' s') (X:Ext (withP no (P3 I D C)) μ1 sA μ' s') (c1:bR s'.heap D "list" vs) (r:bJ w (withP N (QT D C)) μ' s'.heap ds vs) (hm:∃m,s'.heap.Ns C m)
   (zD:sA.heap.get? D=none) (zC:sA.heap.get? C=none) (zI:sA.heap.get? I=none) (hDC:D≠C)
structure cZ (N:Addr->Prop) (μ:List P2) (H:Hp) (dA cc:V) (vs:List V) (I D C:Addr) (cenv:Env) (sA s4:Shared):Prop where
 hc:content H dA=some cc
 hit:items H dA=some vs
 hf:fits vs=true
 hcl:cenv.locals=C
 fr:∀a,gI cenv a->a≠I/\a≠D
 hID:I≠D
 hIC:I≠C
 hDC:D≠C
 nI:¬N I
 zI:sA.heap.get? I=none
 zD:sA.heap.get? D=none
 zC:sA.heap.get? C=none
 X:Ext no μ sA μ s4
inductive NI (w:World) (hO:Heap) (N:Addr->Prop) (μ:List P2) (dA cc:V) (I D C:Addr) (cenv:Env) (sc:Scope) (out:aR) (s4:Shared) (L:Nat) (Z:Nat->Hp->List V->Prop) (n:Nat) (s':Shared):Prop
 |mk (i:Nat) (μ':List P2) (H':Hp) (ds:List V) (ws:List Value) (rho:aR) (hin:i+n=L) (S':Std w hO (withP N (P3 I D C)) μ' H' s') (X':Ext (P3 I D C) μ s4 μ' s') (it':tS w (withP N (P3 I D C)) μ' s'.heap dA cc I i) (hc':content H' dA=some cc) (hD':bR s'.heap D "list" ws) (hds:bJ w (withP N (P3 I D C)) μ' s'.heap ds ws) (hlen:ws.length<=i) (F':cJ w (withP N (P3 I D C)) μ' s'.heap cenv ⟨sc,rho,out⟩) (e':Z i H' ds)
section
variable {dA cc:V}{vs:List V}{I D C:Addr}{cenv:Env}{sA s4 s':Shared}
theorem cZ.pI:withP N (P3 I D C) I:=.inr (.inl rfl)
theorem cZ.pD:withP N (P3 I D C) D:=.inr (.inr (.inl rfl))
theorem cZ.pC:withP N (P3 I D C) C:=.inr (.inr (.inr rfl))
theorem cZ.two(ha:withP N (QT D C) a):withP N (P3 I D C) a:=ha.imp id λz=>z.elim (λz=>.inr (.inl z)) λz=>.inr (.inr z)
theorem cZ.fin(K:cZ N μ H dA cc vs I D C cenv sA s4){t5:Nat}(S':Std w hO (withP N (P3 I D C)) μ' H' s')(X':Ext (P3 I D C) μ s4 μ' s')(hD':bR s'.heap D "list" ws)(hds:bJ w (withP N (P3 I D C)) μ' s'.heap ds ws)
  (FC':cJ w (withP N (P3 I D C)) μ' s'.heap cenv c') (kk:Heap.ExtBut I s'.heap h5) (e':k (.lst ds) H'):jI w hO N μ sA k I (.ref D) C { s' with heap:=h5,toks:=t5 }:=by
 have S5:Std w hO (withP N (QT D C)) μ' H' { s' with heap:=h5,toks:=t5 }:=by
  refine(S'.less (N:=withP (withP N (QT D C)) (· =I)) λa ha=>?_).drop (λa ha=>?_) λa o hne e=>kk a o hne e
  ·rcases ha with ha|ha
   ·exact cZ.two ha
   ·exact(show a=I from ha)▸cZ.pI
  ·rw[show a=I from ha]
   exact λz=>z.elim K.nI λz=>z.elim K.hID K.hIC
 have X5:Ext (withP no (P3 I D C)) μ sA μ' { s' with heap:=h5,toks:=t5 }:=
  Ext.drop (P:=(· =I)) ((K.X.more λ_ z=>z.elim).trans (X'.more λa z=>.inl (.inr z))) (λa z=>by rw[show a=I from z];exact K.zI) λa o hne e=>kk a o hne e
 refine⟨D,ds,ws,H',μ',rfl,e',S5,X5,hD'.keeps λo e=>kk D o K.hID.symm e,cX ⟨λ_ _ e=>e,λ_ e=>.inl e,λa ha=>.inl (cZ.two ha),λa o hn _ e=>kk a o (λz=>hn (z▸cZ.pI)) e⟩ _ _ hds,?_,K.zD,K.zC,K.zI,K.hDC⟩
 refine aT FC'.loc λm hm _=>?_
 rw[K.hcl]at hm
 obtain⟨o,es,ep,ho,r⟩:=hm
 exact⟨m,o,es,ep,kk C o K.hIC.symm ho,r⟩
theorem cZ.push(K:cZ N μ H dA cc vs I D C cenv sA s4){Z:Nat->Hp->List V->Prop}{n i:Nat}{c':Cx}{μ8:List P2}{H8:Hp}{ds:List V}{ws:List Value}{dy:V}{y:Value}{s8:Shared}{E:Value->Shared->Prop}(hin:i+1+n=vs.length)(S8:Std w hO (withP N (P3 I D C)) μ8 H8 s8)(X8:Ext (P3 I D C) μ s4 μ8 s8)
  (it8:tS w (withP N (P3 I D C)) μ8 s8.heap dA cc I (i+1)) (hc8:content H8 dA=some cc) (hD8:bR s8.heap D "list" ws) (hds8:bJ w (withP N (P3 I D C)) μ8 s8.heap ds ws) (hlen:ws.length<=i) (F8:cJ w (withP N (P3 I D C)) μ8 s8.heap cenv ⟨c'.sc,c'.rho,c'.out⟩) (r8:VR w (withP N (P3 I D C)) μ8 s8.heap dy y)
  (e10:Z (i+1) H8 (ds++[dy])) {Q:Value->Shared->Prop} (hQ:∀s9,NI w hO N μ dA cc I D C cenv c'.sc c'.out s4 vs.length Z n s9->Q .none s9):wpAny (pm w) A (PySem.call (.builtin "list.append") [.ref D,y]) Q E s8:=by
 have hl:=of_decide_eq_true K.hf
 refine uG S8 cZ.pD hD8 (by lia) λs9 S9 X9 hD9=>hQ s9 ?_
 have U9:=X9.up (N:=withP N (P3 I D C)) λa q=>q▸cZ.pD
 exact⟨i+1,μ8,H8,ds++[dy],ws++[y],c'.rho,hin,S9,X8.trans (X9.more λa q=>.inr (.inl q)),it8.ext S8 X9 (λa q=>q▸cZ.pD) K.hID,hc8,hD9,hV (cX U9 _ _ hds8) (aJ.mpr ⟨y,[],rfl,aW U9 r8,a8.mpr rfl⟩),by simp;lia,F8.atI S8 X9 cZ.pD λa ha=>(K.fr a ha).2,e10⟩
end
theorem yZ(hsc:tV sc=true)(hnc:∀p∈sc.names,p.2≠ .cell)(hfr:∀p∈sc.names,p.2= .free->c.sc.names.lookup p.1=some .cell)(hcl1:∀p∈cl,env.cells.lookup p.1=some p.2)(hcl2:∀y,(y,.free)∈sc.names->cl.lookup y=env.cells.lookup y)
  (S1:Std w hO N μ H sA) (F1:cJ w N μ sA.heap env c) (X14:Ext no μ sA μ s4) (U14:Up N μ sA.heap N' μ s4.heap) (hN:∀a,N a->N' a) (hC:N' C) (zC:sA.heap.get? C=none) (hns:s4.heap.Ns C λ_=>none):
  cJ w N' μ s4.heap { (newEnv sc C env.globals cl env.qual none .none (some env) builtinsNs)with scope:=relabel sc env } ⟨sc,[],c.rho⟩:=by
 refine⟨(i9 hsc).1,F1.g,F1.bi,hsc,λy ky hy=>?_,hC,⟨_,hns,λy d _ hd=>by injection hd⟩,λy hy=>absurd rfl (hnc _ (mem_of_lookup hy)),λy d hy hd=>?_,λp hp=>?_,λy z a hy=>absurd rfl (hnc _ (mem_of_lookup hy))⟩
 ·show(relabel sc env).names.lookup y=_
  rw[p9,hy,Option.map_some]
  by_cases hk:ky= .free
  ·subst hk
   have h1:env.kindOf y=some .cell:=F1.kof y .cell (hfr _ (mem_of_lookup hy) rfl)
   rw[h1,F1.kind]
   rfl
  ·rw[if_neg hk,if_neg]
   intro z
   simp only[Bool.and_eq_true,beq_iff_eq]at z
   exact hk z.1.1
 ·have hyc:=hfr _ (mem_of_lookup hy) rfl
  refine aE (F1.cell y hyc) λa o h1 h2 h3=>?_
  refine aT (h3 d hd) λv e93 r=>?_
  subst e93
  refine⟨a,v,(hcl2 y (mem_of_lookup hy)).trans h1,?_,aW U14 r⟩
  refine aT h2 λob ho hob=>?_
  clear h2
  exact⟨ob,X14.keep a ob (λz=>z) (S1.not_own (F1.nc _ (mem_of_lookup h1)).1) ho,hob⟩
 ·have h2:=(F1.nc _ (mem_of_lookup (hcl1 p hp))).1
  exact⟨hN _ h2,λz=>(S1.nlow _ h2).2 ((show p.2=C from z)▸zC)⟩
theorem LB(F:cJ w N' μ h env ⟨sc,putL x dv rho,out⟩):cJ w N' μ h env ⟨sc,[(x,dv)],out⟩:=F.sub λy d hd=>by
 rw[cP]
 rw[List.lookup_cons]at hd
 by_cases hy:y=x
 ·subst hy
  simp at hd
  rw[if_pos rfl,hd]
 ·rw[show(y==x)=false by simpa using hy]at hd
  injection hd
theorem B4(R:eP A){elt iter:Expr}{x:Str}{px pos:Pos}{ifs:List Expr}{sc:Scope}{out:aR}{dA cc:V}{vs:List V}{I D C:Addr}{cenv:Env}{sA s4:Shared}{k:V->Hp->Prop}(helt:bP w hO A cf elt)(hifs:tY w hO A cf ifs)(hx:sc.names.lookup x=some .local)
  (K:cZ N μ H dA cc vs I D C cenv sA s4) (J:NI w hO N μ dA cc I D C cenv sc out s4 vs.length (λi H' ds=>n5 (sameAs And H dA) (x6 (iR False And aN cf ifs) sc out) (x6 (aH False And aN cf elt) sc out) x (vs.drop i) H' λes H=>k (.lst (ds++es)) H) vs.length s4):
  bE (pm w) A (.compLoop (.ListComp elt [⟨.Name x px,iter,ifs,0⟩] sc pos) 0 (.ref I) (.ref D) cenv) (λ_ s'=>jI w hO N μ sA k I (.ref D) C s') s4:=by
 refine G.codeCompLoop _ ?_ vs.length J
 rintro n s' ⟨i,μ',H',ds,ws,rho,hin,S',X',it',hc',hD',hds,hlen,FC',e'⟩
 have hit':items H' dA=some vs:=(qG (hc'.trans K.hc.symm)).trans K.hit
 induction hv:vs[i]? using Option.casesOn with
 |none=>
   have hi:=List.getElem?_eq_none_iff.mp hv
   refine G.leaf (KG R.hd S' it' hc' hit' K.hf (by lia) λh5 t5 kk=>?_)
   rw[List.drop_of_length_le hi]at e'
   exact K.fin S' X' hD' hds FC' kk (by simpa only[List.append_nil]using(show k (.lst (ds++[])) H' from e'))
 |some dv=>
   have hi:i<vs.length:=(List.getElem?_eq_some_iff.mp hv).1
   rw[List.drop_eq_getElem_cons hi,(List.getElem?_eq_some_iff.mp hv).2]at e'
   refine G.leaf (JZ S' it' hc' hit' K.hf hv λv s5 rv S5 X5 it5=>?_)
   refine G.assignName (G.leaf (oF S5 (FC'.atI S' X5 cZ.pI λa ha=>(K.fr a ha).1) (.inl hx) rv λb s6 hb hbl S6 X6 FC6=>?_))
   obtain rfl:b=C:=(hbl hx).trans K.hcl
   have FC6:=LB FC6
   have X56:Ext (P3 I D b) μ' s' μ' s6:=(X5.more λa q=>.inl q).trans (X6.more λa q=>.inr (.inr q))
   have it6:tS w (withP N (P3 I D b)) μ' s6.heap dA cc I (i+1):=it5.ext S5 X6 (λa q=>q▸cZ.pC) K.hIC
   have hD6:bR s6.heap D "list" ws:=hD'.keeps λo e=>X6.keep D o K.hDC (S5.not_own cZ.pD) (X5.keep D o K.hID.symm (S'.not_own cZ.pD) e)
   have hds6:=cX (X56.up (N:=withP N (P3 I D b)) λ_=>.inr) _ _ hds
   refine G.mono (hifs cenv _ _ μ' H' s6 _ S6 FC6 e') λok s7 g=>?_
   obtain⟨H7,μ7,e7,S7,X7⟩:=g
   have it7:tS w (withP N (P3 I D b)) μ7 s7.heap dA cc I (i+1):=it6.ext S6 X7 (λ_ z=>z.elim) (λz=>z)
   have hD7:bR s7.heap D "list" ws:=hD6.keeps λo e=>X7.keep D o (λz=>z) (S6.not_own cZ.pD) e
   have hds7:=cX X7.up' _ _ hds6
   have FC7:=FC6.ext S6 X7
   have X47:Ext (P3 I D b) μ s4 μ7 s7:=(X'.trans X56).trans (X7.more λ_ z=>z.elim)
   induction ok using Bool.casesOn with
   |false=>
     obtain⟨e8,e9⟩:=oR.mp e7
     exact⟨n-1,by lia,i+1,μ7,H7,ds,ws,_,by lia,S7,X47,it7,e8.trans K.hc,hD7,hds7,by lia,FC7,e9⟩
   |true=>
     refine G.mono (helt cenv _ _ μ7 H7 s7 _ S7 FC7 e7) λy s8 g=>?_
     obtain⟨dy,H8,μ8,e8,S8,X8,r8⟩:=g
     obtain⟨e9,e10⟩:=oR.mp e8
     refine G.leaf (K.push (n:=n-1) (c':=⟨sc,[(x,dv)],out⟩) (by lia) S8 (X47.trans (X8.more λ_ z=>z.elim)) (it7.ext S7 X8 (λ_ z=>z.elim) (λz=>z)) (e9.trans K.hc) (hD7.keeps λo e=>X8.keep D o (λz=>z) (S7.not_own cZ.pD) e) (cX X8.up' _ _ hds7) hlen (FC7.ext S7 X8) r8 ?_ λs9 J=>⟨n-1,by lia,J⟩)
     simp only[List.append_assoc,List.singleton_append]
     exact e10
theorem C4(R:eP A){elt iter:Expr}{x:Str}{px pos:Pos}{ifs:List Expr}{sc:Scope}{cl:List (Str×Addr)}{I:Addr}{sA:Shared}{dA cc:V}{vs:List V}{k:V->Hp->Prop}(helt:bP w hO A cf elt)(hifs:tY w hO A cf ifs)
  (hco:tN sc c.sc=true) (hx:sc.names.lookup x=some .local) (hcl1:∀p∈cl,env.cells.lookup p.1=some p.2) (hcl2:∀y,(y,.free)∈sc.names->cl.lookup y=env.cells.lookup y)
  (hI:sA.heap.get? I=none) (XAB:Ext no μ sA μ s) (S1:Std w hO N μ H sA) (S2:Std w hO (fW N I) μ H s) (F1:cJ w N μ sA.heap env c) (it:tS w (fW N I) μ s.heap dA cc I 0) (hc:content H dA=some cc) (hit:items H dA=some vs) (hf:fits vs=true)
  (e:n5 (sameAs And H dA) (λrho H k=>iR False And aN cf ifs ⟨sc,rho,c.rho⟩ H k) (λrho H k=>aH False And aN cf elt ⟨sc,rho,c.rho⟩ H k) x vs H λds H=>k (.lst ds) H):
  aD (pm w) A (newList []) (λacc sC=>aD (pm w) A (newFunctionEnv sc env.globals cl [] env.qual none .none (some env)) (λcenv s4=>
   bE (pm w) A (.compStart (.ListComp elt [⟨.Name x px,iter,ifs,0⟩] sc pos) 0 (.ref I) acc { cenv with scope:=relabel sc env }) (λ_ s'=>jI w hO N μ sA k I acc cenv.locals s') s4) sC) s:=by
 refine qC (lH hco) λhsc hnc hfr=>?_
 refine G.leaf (wpAny_newList ?_ (Nat.zero_le _))
 refine G.leaf (wpAny_newFunctionEnv hnc (λ_ z=>(nomatch z)) (λh₄ hns sb=>?_) (i9 hsc).1)
 obtain⟨D,hD⟩:∃D,s.heap.objs.size=D:=⟨_,rfl⟩
 obtain⟨C,hC⟩:∃C,(s.heap.push { cls:=.type "list",data:=.seq ([]:List Value).toArray }).objs.size=C:=⟨_,rfl⟩
 have hsz:C=D+1:=by rw[<-hC,Heap.size_push,hD]
 simp only[hD,hC]at hns sb ⊢
 have nD:s.heap.get? D=none:=bY (Nat.le_of_eq hD)
 have nC:s.heap.get? C=none:=bY (by rw[hsz,hD];exact Nat.le_succ _)
 have back:∀a,s.heap.get? a=none->sA.heap.get? a=none:=λa q=>Classical.byContradiction λz=>XAB.size a z q
 have hDC:D≠C:=by rw[hsz];exact Nat.ne_of_lt (Nat.lt_succ_self _)
 have g:∀a o,s.heap.get? a=some o->h₄.get? a=some o:=λa o e=>by
  have ha:=Heap.lt_size e
  rw[hD]at ha
  exact(sb.2 a (by rw[hsz];exact Nat.ne_of_lt (Nat.lt_succ_of_lt ha))).trans (Heap.get?_push_of_some _ (Heap.get?_push_of_some _ e))
 have hlist:bR h₄ D "list" []:=by
  refine⟨0,(sb.2 D hDC).trans (Heap.get?_push_of_some _ ?_)⟩
  rw[<-hD]
  exact Heap.get?_push_size _ rfl
 generalize hs4:({ s with heap:=h₄,toks:=s.toks+([]:List (Str×Value)).length }:Shared)=s4
 have e4:s4.heap=h₄:=by rw[<-hs4]
 have S4:Std w hO (withP N (P3 I D C)) μ H s4:=by
  rw[<-hs4]
  refine S2.moreN g λa ha=>?_
  rcases ha with ha|rfl|rfl|rfl
  ·exact .inl (.inl ha)
  ·exact .inl (.inr rfl)
  ·exact .inr ⟨nD,hlist.ex⟩
  ·exact .inr ⟨nC,pW hns⟩
 have X24:Ext no μ s μ s4:=by rw[<-hs4];exact Ext.grow g
 have X14:=XAB.trans X24
 have it4:tS w (withP N (P3 I D C)) μ s4.heap dA cc I 0:=by
  obtain⟨_,v,r,q⟩:=it
  refine⟨.inr (.inl rfl),v,?_,q.at λo e=>by rw[e4];exact g I o e⟩
  rw[e4]
  refine vS r g λa ha=>?_
  rcases ha with ha|rfl|rfl|rfl
  ·exact .inl (.inl ha)
  ·exact .inl (.inr rfl)
  ·exact .inr nD
  ·exact .inr nC
 have U14:Up N μ sA.heap (withP N (P3 I D C)) μ s4.heap:=by
  refine⟨λ_ _ e=>e,λ_ e=>.inl e,λa ha=>?_,λa o hn ho e=>X14.keep a o (λz=>z) ho e⟩
  rcases ha with ha|rfl|rfl|rfl
  ·exact .inl ha
  ·exact .inr hI
  ·exact .inr (back _ nD)
  ·exact .inr (back _ nC)
 have FC:=yZ hsc hnc hfr hcl1 hcl2 S1 F1 X14 U14 (λ_=>.inl) (C:=C) (.inr (.inr (.inr rfl))) (back _ nC) (by rw[e4];exact hns)
 generalize hce:({ (newEnv sc C env.globals cl env.qual none .none (some env) builtinsNs)with scope:=relabel sc env }:Env)=cenv at FC
 have hcl:cenv.locals=C:=by rw[<-hce];rfl
 have hcells:cenv.cells=cl:=by rw[<-hce];rfl
 have sI:s.heap.get? I≠none:=by obtain⟨_,v,_,q⟩:=it;exact q.alive
 have hIC:I≠C:=λz=>sI (z▸nC)
 have nNI:¬N I:=λz=>(S1.nlow _ z).2 hI
 have nND:¬N D:=λz=>(S1.nlow _ z).2 (back _ nD)
 have K:cZ N μ H dA cc vs I D C cenv sA s4:=⟨hc,hit,hf,hcl,λa ha=>by
  rcases ha with rfl|⟨p,hp,rfl⟩
  ·rw[hcl];exact⟨hIC.symm,hDC.symm⟩
  ·rw[hcells]at hp
   have h2:=(F1.nc _ (mem_of_lookup (hcl1 p hp))).1
   exact⟨λz=>nNI (z▸h2),λz=>nND (z▸h2)⟩,λz=>sI (z▸nD),hIC,hDC,nNI,hI,back _ nD,back _ nC,X14⟩
 have loop:=B4 (pos:=pos) (px:=px) (iter:=iter) (out:=c.rho) (k:=k) R helt hifs hx K ⟨0,μ,H,[],[],[],by lia,S4,Ext.refl _ _ _,it4,hc,by rw[e4];exact hlist,a8.mpr rfl,Nat.le_refl _,FC,by show n5 (sameAs And H dA) (x6 (iR False And aN cf ifs) sc c.rho) (x6 (aH False And aN cf elt) sc c.rho) x (vs.drop 0) H (λes H=>k (.lst ([]++es)) H);rw[List.drop_zero];exact e⟩
 exact G.codeCompStart loop (G.leaf (C3 it4 ⟨rfl,loop⟩))
end
end Mine
end
section
open PySem PySem.W PyProof.Rows PySem.SeqAt PySem.Builtin
open PySem.Sem (wp)
namespace Mine
section
variable {w:World}{A:Around}{hO:Heap}{N:Addr->Prop}{μ:List P2}{H:Hp}{s:Shared}{env:Env}{c:Cx}{cf:Cf}
theorem yC{iter:Expr}{env:Env}(h:eU iter=false)(x:Value):foldedSetIterable iter env x=pure x:=kU h
theorem w0(R:eP A){elt iter:Expr}{x:Str}{px pos:Pos}{ifs:List Expr}{sc:Scope}{k:V->Hp->Prop}{use:Option (Value->Sem Unit)}{Q:Value->Shared->Prop}(hit:bP w hO A cf iter)(helt:bP w hO A cf elt)(hifs:tY w hO A cf ifs)
  (S:Std w hO N μ H s) (F:cJ w N μ s.heap env c) (hco:tN sc c.sc=true) (hset:eU iter=false) (hx:sc.names.lookup x=some .local)
  (e:aH False And aN cf iter c H λd H=>opt False (items H d) λvs=>guard False (fits vs)<|n5 (sameAs And H d) (λrho H k=>iR False And aN cf ifs ⟨sc,rho,c.rho⟩ H k) (λrho H k=>aH False And aN cf elt ⟨sc,rho,c.rho⟩ H k) x vs H λds H=>k (.lst ds) H)
  (fin:∀μ1 sA I acc C s',Ext no μ s μ1 sA->jI w hO N μ1 sA k I acc C s'->G.compPost (pm w) A use Q acc C s'):
  aD (pm w) A (comprehension (.ListComp elt [⟨.Name x px,iter,ifs,0⟩] sc pos) sc env (firstIterPos [⟨.Name x px,iter,ifs,0⟩] pos) (newList []) false (eval iter env) use) Q s:=by
 obtain⟨hsc,hnc,hfr⟩:=lH hco
 obtain⟨cl,hcl,hcl1,hcl2⟩:=LX (sc:=sc) (env:=env) λp hp hq=>by
  obtain⟨a,o,h1,_⟩:=F.cell p.1 (hfr p hp hq)
  exact⟨a,h1⟩
 refine G.comp (cl:=cl) rfl (yC hset) hcl (i9 hsc).1 (λp hp hl=>by rw[IB hsc hp,hl]) ?_
 refine G.mono (hit env c N μ H s _ S F e) λv sA g=>?_
 obtain⟨dA,H1,μ1,eA,S1,X1,rA⟩:=g
 obtain⟨vs,hvs,eA⟩:=bA.mp eA
 obtain⟨hf,eA⟩:=aA.mp eA
 obtain⟨cc,hc⟩:=xW hvs
 refine G.leaf (mD S1 rA hc hvs λI sB hI S2 X2 it=>?_)
 refine G.mono (C4 (pos:=pos) (px:=px) (iter:=iter) R helt hifs hco hx hcl1 hcl2 hI X2 S1 S2 (F.ext S X1) it hc hvs hf eA) λacc sC h₃=>?_
 refine G.mono h₃ λcenv s4 h₄=>?_
 exact G.codeMono h₄ λf s' z=>fin μ1 sA I acc cenv.locals s' X1 z
theorem HE(S:Std w hO N μ H s)(X:Ext no μ s μ1 sA)(z:jI w hO N μ1 sA k I acc C s'):G.compPost (pm w) A none (Got w hO N μ s k) acc C s':=by
 obtain⟨D,ds,vs,H',μ',rfl,hk,S',X',c1,r,⟨m,hm⟩,nD,nC,nI,hDC⟩:=z
 have back:∀a,sA.heap.get? a=none->¬N a:=λa q z=>X.size a (S.nlow a z).2 q
 refine⟨m,hm,λh' sb=>?_⟩
 have kk:∀a o,¬QT D C a->s'.heap.get? a=some o->h'.get? a=some o:=λa o hne e=>(sb.2 a λq=>hne (.inr q)).trans e
 have S'':=S'.drop (t:=s'.toks) (λa ha=>by rcases ha with rfl|rfl;exact back _ nD;exact back _ nC) kk
 have X'':Ext no μ1 sA μ' { s' with heap:=h' }:=X'.drop (t:=s'.toks) (λa ha=>by rcases ha with rfl|rfl|rfl;exact nI;exact nD;exact nC) λa o hne e=>(sb.2 a λq=>hne (.inr (.inr q))).trans e
 have no1:=S'.not_own (a:=D) (.inr (.inl rfl))
 refine⟨.lst ds,H',μ',hk,S'',X.trans X'',.inr ⟨(D,D),rfl,⟨back _ nD,back _ nD,no1,no1⟩,?_⟩⟩
 exact⟨rfl,vs,c1.keeps λo e=>(sb.2 D hDC).trans e,cX (lF kk) _ _ r⟩
theorem CF(e:E4 False And aN cf (g::gs) elt sc c H k):(g.target.ctorIdx==23)=true/\gs=[]:=by
 obtain⟨t,iter,ifs,a⟩:=g
 rcases gs with _|⟨g',gs⟩
 ·exact⟨aS (by clear e;rcases t<;>first|exact Eq.refl False|exact Eq.refl _) e,rfl⟩
 ·exact False.elim e
theorem rN(e:E4 False And aN cf gs elt sc c H k):
  ∃x px iter ifs,gs=[⟨.Name x px,iter,ifs,0⟩]/\guard False (!eU iter&&sc.names.lookup x==some .local) (aH False And aN cf iter c H (kG False And (x6 (iR False And aN cf ifs) sc c.rho) elt x k)):=by
 rcases gs with _|⟨g,gs⟩
 ·exact False.elim e
 ·obtain⟨h,rfl⟩:=CF e
  obtain⟨t,iter,ifs,a⟩:=g
  obtain⟨x,px,rfl⟩:=i7 h
  rcases a with(_|n)|n
  ·exact⟨x,px,iter,ifs,rfl,e⟩
  ·exact False.elim e
  ·exact False.elim e
theorem v7(R:eP A){elt gs sc pos}(helt:bP w hO A cf elt)(hgs:∀g∈gs,bP w hO A cf g.iter/\tY w hO A cf g.ifs):bP w hO A cf (.ListComp elt gs sc pos):=by
 intro env c N μ H s k S F e
 obtain⟨hco,e⟩:=aA.mp e
 obtain⟨x,px,iter,ifs,rfl,e⟩:=rN e
 obtain⟨g1,e⟩:=aA.mp e
 simp only[Bool.and_eq_true,Bool.not_eq_true',beq_iff_eq]at g1
 obtain⟨h1,h2⟩:=hgs _ List.mem_cons_self
 exact G.ListCompE (w0 R h1 helt h2 S F hco g1.1 g1.2 e λμ1 sA I acc C s' X z=>HE S X z)
end
end Mine
end
section
open PySem PySem.W PyProof.Rows PySem.SeqAt PySem.Builtin
open PySem.Sem (wp)
namespace Mine
section
variable {w:World}{A:Around}{hO:Heap}{cf:Cf}
noncomputable def HG (w:World) (hO:Heap) (A:Around) (cf:Cf) (es:List Expr):Prop:=uX w hO A cf es/\H0 w A hO cf es/\ET w hO A cf es/\DI w hO A cf es/\v9 w hO A cf es/\tY w hO A cf es
theorem c7{e}(he:bP w hO A cf e)(hm:∀env,isTrue e env (eval e env)=(do let v <-eval e env;standAt e.pos;holding [v] (truthy v)))
 (heq:∀(c:Cx) (H:Hp) (k:Bool->Hp->Prop),fV False And aN cf e (λH k=>aH False And aN cf e c H k) c H k=aH False And aN cf e c H λd H=>opt False (truth d) λb=>k b H):bP w hO A cf e/\iI w hO A cf e:=⟨he,FG he hm heq⟩
theorem OO{e}(h:∀(c:Cx) (H:Hp) (k:V->Hp->Prop),aH False And aN cf e c H k=False):bP w hO A cf e:=λenv c N μ H s k S F q=>by rw[h]at q;exact q.elim
end
noncomputable def E1 (w:World) (hO:Heap) (A:Around) (cf:Cf):Expr->Prop
 | .Attribute o _ _=>bP w hO A cf o
 | .Slice lo hi none _=>zN w hO A cf lo/\zN w hO A cf hi
 |_=>True
noncomputable def m7 (w:World) (hO:Heap) (A:Around) (cf:Cf) (e:Expr):Prop:=bP w hO A cf e/\iI w hO A cf e/\E1 w hO A cf e
section
variable {w:World}{A:Around}{hO:Heap}{cf:Cf}
theorem al{e}(h:bP w hO A cf e/\iI w hO A cf e)(hs:E1 w hO A cf e):m7 w hO A cf e:=⟨h.1,h.2,hs⟩
theorem dead{e}(h:∀(c:Cx) (H:Hp) (k:V->Hp->Prop),aH False And aN cf e c H k=False)(hm:∀env,isTrue e env (eval e env)=(do let v <-eval e env;standAt e.pos;holding [v] (truthy v)))
  (heq:∀(c:Cx) (H:Hp) (k:Bool->Hp->Prop),fV False And aN cf e (λH k=>aH False And aN cf e c H k) c H k=aH False And aN cf e c H λd H=>opt False (truth d) λb=>k b H) (hs:E1 w hO A cf e):m7 w hO A cf e:=
 al (c7 (OO h) hm heq) hs
end
section
variable {w:World}{A:Around}{hO:Heap}{cf:Cf}
theorem call_plain{f as pos}(h:eK f=false)(c:Cx)(H:Hp)(k:V->Hp->Prop):aH False And aN cf (.Call f as [] pos) c H k=guard False (!eK f&&noStar as) (aH False And aN cf f c H (RQ False aN cf (iU False And aN cf as c) pos k)):=by
 refine cond_f (c:=eK f) (a:=aH False And aN cf (.Call f as [] pos) c H k) ?_ h
 clear h
 rcases f<;>exact Eq.refl _
noncomputable def G4:Expr->Bool
 | .Slice _ _ none _=>true
 |_=>false
theorem PQ{i}(h:G4 i=true):∃lo hi p,i= .Slice lo hi none p:=by
 obtain⟨lo,hi,st,p,rfl⟩:=kL (t:=i) (iL (by clear h;rcases i<;>first|exact Eq.refl false|exact Eq.refl _) h)
 rcases st with _|st
 ·exact⟨_,_,_,rfl⟩
 ·exact nE h
theorem CX{o i pos}(h:G4 i=false)(c:Cx)(H:Hp)(k:V->Hp->Prop):aH False And aN cf (.Subscript o i pos) c H k=aH False And aN cf o c H (UL False (aH False And aN cf i c) k):=by
 rcases hc:i.ctorIdx==26
 ·refine cond_f (c:=i.ctorIdx==26) (a:=aH False And aN cf (.Subscript o i pos) c H k) ?_ hc
  clear h hc
  rcases i<;>exact Eq.refl _
 ·obtain⟨lo,hi,st,p,rfl⟩:=kL hc
  rcases st with _|st
  ·exact mN h
  ·rfl
theorem D7(B:Base w hO)(R:eP A)(hcf:lA w hO A cf){f as pos}(hf:m7 w hO A cf f)(has:HG w hO A cf as):m7 w hO A cf (.Call f as [] pos):=by
 induction hx:eK f using Bool.casesOn with
 |true=>
   refine xX (AE hx) λo x p e91=>?_
   subst e91
   exact al (c7 (DN R hf.2.2 has.1) (λ_=>rfl) (λ_ _ _=>rfl)) trivial
 |false=>exact al (c7 (JT B R hcf hf.1 has.1 (λh=>call_plain h) hx) (λ_=>rfl) (λ_ _ _=>rfl)) trivial
theorem qK(R:eP A){o i pos}(ho:m7 w hO A cf o)(hi:m7 w hO A cf i):m7 w hO A cf (.Subscript o i pos):=by
 induction hx:G4 i using Bool.casesOn with
 |true=>
   refine xX (PQ hx) λlo hi' p e92=>?_
   subst e92
   exact al (c7 (wN ho.1 hi.2.2.1 hi.2.2.2) (λ_=>rfl) (λ_ _ _=>rfl)) trivial
 |false=>exact al (c7 (tB R ho.1 hi.1 (CX hx)) (λ_=>rfl) (λ_ _ _=>rfl)) trivial
end
mutual
theorem dK(B:Base w hO)(R:eP A)(hcf:lA w hO A cf):∀e:Expr,m7 w hO A cf e
 | .Constant x kd pos=>al (c7 mV (λ_=>rfl) (λ_ _ _=>rfl)) trivial
 | .Name x pos=>al (c7 (L7 B) (λ_=>rfl) (λ_ _ _=>rfl)) trivial
 | .BoolOp op vs pos=>have h:=I8 B R hcf vs;⟨DC h.2.2.1,BU h.2.2.2.2.1,trivial⟩
 | .BinOp l op r pos=>al (c7 (G5 (dK B R hcf l).1 (dK B R hcf r).1) (λ_=>rfl) (λ_ _ _=>rfl)) trivial
 | .UnaryOp op x pos=>by
   have h:=dK B R hcf x
   induction op using PySem.UnaryOp.casesOn with
   |Not=>exact⟨oA h.1,QB h.2.1,trivial⟩
   |_=>exact al (c7 (oA h.1) (λ_=>rfl) (λ_ _ _=>rfl)) trivial
 | .IfExp t b o pos=>have ht:=dK B R hcf t;have hb:=dK B R hcf b;have ho:=dK B R hcf o;⟨D9 ht.2.1 hb.1 ho.1,FF ht.2.1 hb.2.1 ho.2.1,trivial⟩
 | .Dict ks vs pos=>al (c7 (LP B R (I8 B R hcf vs).2.1) (λ_=>rfl) (λ_ _ _=>rfl)) trivial
 | .List es pos=>al (c7 (MW (I8 B R hcf es).1) (λ_=>rfl) (λ_ _ _=>rfl)) trivial
 | .Tuple es kd pos=>al (c7 (FQ (I8 B R hcf es).1) (λ_=>rfl) (λ_ _ _=>rfl)) trivial
 | .ListComp elt gs sc pos=>al (c7 (v7 R (dK B R hcf elt).1 (RK B R hcf gs)) (λ_=>rfl) (λ_ _ _=>rfl)) trivial
 | .Compare l ops cs pos=>have hl:=dK B R hcf l;have h:=I8 B R hcf cs;⟨zQ hl.1 h.2.2.2.1,yS hl.1 h.2.2.2.1,trivial⟩
 | .Call f as [] pos=>D7 B R hcf (dK B R hcf f) (I8 B R hcf as)
 | .Call f as (_::_) pos=>dead (λ_ _ _=>by rcases f<;>rfl) (λ_=>rfl) (λ_ _ _=>rfl) trivial
 | .Attribute o x pos=>al (c7 (tM B (dK B R hcf o).1) (λ_=>rfl) (λ_ _ _=>rfl)) (dK B R hcf o).1
 | .Subscript o i pos=>qK R (dK B R hcf o) (dK B R hcf i)
 | .Slice lo hi none pos=>dead (λ_ _ _=>rfl) (λ_=>rfl) (λ_ _ _=>rfl) ⟨UI B R hcf lo,UI B R hcf hi⟩
 | .Slice lo hi (some st) pos=>dead (λ_ _ _=>rfl) (λ_=>rfl) (λ_ _ _=>rfl) trivial
 | .NamedExpr _ _ _=>dead (λ_ _ _=>rfl) (λ_=>rfl) (λ_ _ _=>rfl) trivial
 | .Lambda _ _ _ _=>dead (λ_ _ _=>rfl) (λ_=>rfl) (λ_ _ _=>rfl) trivial
 | .Set _ _ _=>dead (λ_ _ _=>rfl) (λ_=>rfl) (λ_ _ _=>rfl) trivial
 | .SetComp _ _ _ _=>dead (λ_ _ _=>rfl) (λ_=>rfl) (λ_ _ _=>rfl) trivial
 | .DictComp _ _ _ _ _=>dead (λ_ _ _=>rfl) (λ_=>rfl) (λ_ _ _=>rfl) trivial
 | .GeneratorExp _ _ _ _=>dead (λ_ _ _=>rfl) (λ_=>rfl) (λ_ _ _=>rfl) trivial
 | .Await _ _=>dead (λ_ _ _=>rfl) (λ_=>rfl) (λ_ _ _=>rfl) trivial
 | .Yield _ _=>dead (λ_ _ _=>rfl) (λ_=>rfl) (λ_ _ _=>rfl) trivial
 | .YieldFrom _ _=>dead (λ_ _ _=>rfl) (λ_=>rfl) (λ_ _ _=>rfl) trivial
 | .FormattedValue _ _ _ _=>dead (λ_ _ _=>rfl) (λ_=>rfl) (λ_ _ _=>rfl) trivial
 | .JoinedStr _ _=>dead (λ_ _ _=>rfl) (λ_=>rfl) (λ_ _ _=>rfl) trivial
 | .Starred _ _=>dead (λ_ _ _=>rfl) (λ_=>rfl) (λ_ _ _=>rfl) trivial
theorem UI(B:Base w hO)(R:eP A)(hcf:lA w hO A cf):∀o:Option Expr,zN w hO A cf o
 |none=>MK
 |some e=>uD (dK B R hcf e).1
theorem I8(B:Base w hO)(R:eP A)(hcf:lA w hO A cf):∀es:List Expr,HG w hO A cf es
 | []=>⟨NZ,P9,PO,OB,IY,PH⟩
 |e::es=>have h:=dK B R hcf e;have hs:=I8 B R hcf es;⟨JK h.1 hs.1,J1 h.1 hs.2.1,LK h.1 hs.2.2.1,I6 R h.1 hs.2.2.2.1,HV h.2.1 hs.2.2.2.2.1,MM h.2.1 hs.2.2.2.2.2⟩
theorem RK(B:Base w hO)(R:eP A)(hcf:lA w hO A cf):∀gs:List Comprehension,∀g∈gs,bP w hO A cf g.iter/\tY w hO A cf g.ifs
 | [],g,hg=>(nomatch hg)
 |⟨t,iter,ifs,a⟩::gs,g,hg=>by
   have h1:=dK B R hcf iter
   have h2:=I8 B R hcf ifs
   have h3:=RK B R hcf gs
   rcases List.mem_cons.mp hg with rfl|hg
   ·exact⟨h1.1,h2.2.2.2.2.2⟩
   ·exact h3 g hg
end
end Mine
end
section
open PySem PySem.W PyProof.Rows PySem.SeqAt PySem.Builtin
open PySem.Sem (wp)
namespace Mine
section
variable {w:World}{A:Around}{E:Value->Shared->Prop}{hO:Heap}{N:Addr->Prop}{μ:List P2}{H:Hp}{s:Shared}{env:Env}{c:Cx}{cf:Cf}
theorem BB(hc:content H d=some cc)(e:items H d=some vs):∀(n i:Nat) (s:Shared) (Q:List Value->Shared->Prop),i+n=vs.length->Std w hO N μ H s->tS w N μ s.heap d cc I i->
  (∀ws s',bJ w N μ s'.heap (vs.drop i) ws->Std w hO N μ H s'->Ext (· =I) μ s μ s'->tS w N μ s'.heap d cc I vs.length->Q ws s')->wpAny (pm w) A (draw (.ref I) n) Q E s
 |0,i,s,Q,hi,S,it,hQ=>by
   have:vs.drop i=[]:=List.drop_of_length_le (by lia)
   rw[this]at hQ
   have hl:i=vs.length:=by lia
   subst hl
   show wpAny _ _ (pure []) Q E s
   exact wpAny_pure (hQ [] s (by rw[a8]) S (Ext.refl _ _ _) it)
 |n+1,i,s,Q,hi,S,it,hQ=>by
   have hlt:i<vs.length:=by lia
   obtain⟨dv,hv⟩:∃dv,vs[i]? =some dv:=⟨_,List.getElem?_eq_getElem hlt⟩
   have hdr:vs.drop i=dv::vs.drop (i+1):=by
    rw[List.drop_eq_getElem_cons hlt,(List.getElem?_eq_some_iff.mp hv).2]
   show wpAny _ _ (pyNext (.ref I) >>= _) Q E s
   refine wpAny_bind (w3 S it hc e hv λv sA rv S1 X1 it1=>?_)
   refine wpAny_bind (wpAny_holding (BB hc e n (i+1) sA _ (by lia) S1 it1 λws sB rs S2 X2 it2=>wpAny_pure ?_))
   refine hQ _ sB ?_ S2 (X1.trans X2) it2
   rw[hdr,aJ]
   obtain⟨nI,_⟩:=it1
   exact⟨v,ws,rfl,aW (X2.up λa q=>by rw[q];exact nI) rv,rs⟩
theorem uN{n:Nat}(e:nQ H d n=some vs):vs.length=n/\(content H d=some (.tup vs)\/content H d=some (.lst vs)):=by
 delta nQ at e
 rcases hc:content H d with _|c<;>rw[hc]at e
 ·exact iK e
 ·rcases Bool.or_eq_true_iff.mp (gM (c:=c.ctorIdx==5||c.ctorIdx==6) (by clear e;rcases c<;>first|exact Eq.refl none|exact Eq.refl _) e)with h|h
  ·obtain⟨l,rfl⟩:=lQ h
   by_cases hn:l.length=n
   ·obtain rfl:=Option.some.inj ((if_pos hn).symm.trans e)
    exact⟨hn,.inl rfl⟩
   ·exact iK ((if_neg hn).symm.trans e)
  ·obtain⟨l,rfl⟩:=dJ h
   by_cases hn:l.length=n
   ·obtain rfl:=Option.some.inj ((if_pos hn).symm.trans e)
    exact⟨hn,.inr rfl⟩
   ·exact iK ((if_neg hn).symm.trans e)
theorem iZ(hh:A.handled=none){n:Nat}(S:Std w hO N μ H s)(r:VR w N μ s.heap d v)(e:nQ H d n=some vs)
  (hQ:∀ws s',ws.length=n->bJ w N μ s'.heap vs ws->Std w hO N μ H s'->Ext no μ s μ s'->Q ws s'):wpAny (pm w) A (unpackItems v n none) Q E s:=by
 obtain⟨cc,hc,hi,hn,hsp⟩:∃cc,content H d=some cc/\items H d=some vs/\vs.length=n/\∃x,∀{Q':Option Value->Shared->Prop},Q' (some x) s->wpAny (pm w) A (specialOf v "__iter__") Q' E s:=by
  rcases uN e with⟨hn,hl|hl⟩
  ·refine cB (aX S r hl trivial) λp e1 cr _=>cU cr λ_ us c1 c2=>?_
   subst e1
   exact⟨_,hl,by unfold items;rw[hl],hn,_,λq=>wpAny_specialOf c1.isTuple.typeIs F.slot_tuple_iter.lookup q⟩
  ·refine cB (aX S r hl trivial) λp e1 cr _=>cU cr λ_ us c1 c2=>?_
   subst e1
   exact⟨_,hl,by unfold items;rw[hl],hn,_,λq=>wpAny_specialOf c1.isList.typeIs slot_list_iter.lookup q⟩
 obtain⟨x,hsp⟩:=hsp
 refine wpAny_bind ?_
 refine wpAny_bind (hsp (wpAny_pure ?_))
 refine wpAny_bind (wpAny_holding (mD S r hc hi λI sA nI S1 X1 it=>?_))
 refine wpAny_bind (wpAny_holding (BB hc hi n 0 sA _ (by lia) S1 it λws sB rs S2 X2 it2=>?_))
 have hl:=aV rs
 rw[List.drop_zero]at rs hl
 rw[if_neg (by lia)]
 have nNI:¬N I:=λz=>(S.nlow _ z).2 nI
 refine wpAny_bind (wpAny_holding (o6 hh S2 it2 hc hi rfl λh' t k=>?_))
 have kk:∀a o,¬(a=I)->sB.heap.get? a=some o->h'.get? a=some o:=λa o hne e=>k a o hne e
 refine wpAny_pure (hQ ws _ (by lia) ?_ (S2.dropI nNI k) (Ext.drop (P:=(· =I)) ((X1.more λ_ z=>z.elim).trans (X2.more λa z=>.inr z)) (λa z=>by rw[show a=I from z];exact nI) kk))
 exact cX (lF kk) _ _ rs
theorem gB(e:bX sc rho ts (d::ds)=some rho'):∃x p r,ts= .Name x p::r/\iM sc x=true/\bX sc (putL x d rho) r ds=some rho':=by
 rcases ts with _|⟨t,ts⟩
 ·exact iK e
 ·obtain⟨x,p,rfl⟩:=i7 (t:=t) (gM (by clear e;rcases t<;>first|exact Eq.refl none|exact Eq.refl _) e)
  have e:(match iM sc x with|true=>bX sc (putL x d rho) ts ds|false=>none)=some rho':=e
  rcases hx:iM sc x<;>rw[hx]at e
  ·exact iK e
  ·exact⟨x,p,ts,rfl,hx,e⟩
theorem j4(e:bX sc rho ts []=some rho'):ts=[]/\rho=rho':=by
 rcases ts with _|⟨t,ts⟩
 ·exact⟨rfl,Option.some.inj e⟩
 ·exact mN (gM (c:=false) (by clear e;rcases t<;>exact Eq.refl none) e).symm
theorem kN:∀(ts:List Expr) (ds:List V) (us:List Value) (rho rho':aR) (s:Shared) (Q:Unit->Shared->Prop),bX c.sc rho ts ds=some rho'->bJ w N μ s.heap ds us->Std w hO N μ H s->cJ w N μ s.heap env ⟨c.sc,rho,c.out⟩->
  (∀s',Std w hO N μ H s'->Ext (gI env) μ s μ s'->cJ w N μ s'.heap env ⟨c.sc,rho',c.out⟩->Q () s')->wpAny (pm w) A (assignInOrder ((assignEach ts env).map (·.2)) us) Q E s
 |ts,[],us,rho,rho',s,Q,e,r,S,F,hQ=>by
   obtain⟨rfl,rfl⟩:=j4 e
   obtain rfl:=a8.mp r
   exact wpAny_pure (hQ s S (Ext.refl _ _ _) F)
 |ts,d::ds,us,rho,rho',s,Q,e,r,S,F,hQ=>by
   obtain⟨u,us,rfl,r1,r2⟩:=aJ.mp r
   obtain⟨x,p,ts,rfl,hx,e⟩:=gB e
   delta iM at hx
   rw[eV rfl,List.map_cons]
   show wpAny _ _ (holding us (assign (.Name x p) env u) >>= _) Q E s
   refine wpAny_bind (wpAny_holding ?_)
   rw[arm_assign_Name]
   refine wpAny_bind (wpAny_standAt (wpAny_bindName (kY S F (by simpa using hx) r1 λsA S1 X1 F1=>?_)))
   exact kN ts ds us (putL x d rho) rho' sA Q e (cX (X1.up λa q=>F.frN q) _ _ r2) S1 F1 λsB S2 X2 F2=>hQ sB S2 (X1.trans X2) F2
theorem fK:∀(ts:List Expr) (ds:List V) (rho rho':aR),bX c.sc rho ts ds=some rho'->(assignEach ts env).findIdx? (·.1)=none/\(assignEach ts env).length=ts.length/\ds.length=ts.length
 |ts,[],rho,rho',e=>by
   obtain⟨rfl,_⟩:=j4 e
   exact⟨rfl,rfl,rfl⟩
 |ts,d::ds,rho,rho',e=>by
   obtain⟨x,p,ts,rfl,_,e⟩:=gB e
   obtain⟨a,b,g⟩:=fK ts ds _ _ e
   rw[eV rfl]
   refine⟨?_,by simp[b],by simp[g]⟩
   rw[List.findIdx?_cons]
   simp[a]
end
end Mine
end
section
open PySem PySem.W PyProof.Rows PySem.SeqAt PySem.Builtin
open PySem.Sem (wp)
namespace Mine
noncomputable def SG (w:World) (N:Addr->Prop) (env:Env) (sc:Scope) (k:aR->Hp->Prop) (r:V->Hp->Prop) (H':Hp) (μ':List P2) (s':Shared):Flow->Prop
 | .next=>∃rho,k rho H'/\cJ w N μ' s'.heap env ⟨sc,rho,[]⟩
 | .ret v=>∃d,r d H'/\VR w N μ' s'.heap d v
 |_=>False
inductive d6 (w:World) (hO:Heap) (N:Addr->Prop) (μ:List P2) (s:Shared) (env:Env) (sc:Scope) (k:aR->Hp->Prop) (r:V->Hp->Prop) (f:Flow) (s':Shared):Prop
 |mk (H':Hp) (μ':List P2) (S:Std w hO N μ' H' s') (X:Ext (gI env) μ s μ' s') (z:SG w N env sc k r H' μ' s' f)
section
variable (w:World)(hO:Heap)(A:Around)(cf:Cf)
noncomputable def CD (st:Stmt):Prop:=∀(env:Env) (sc:Scope) (rho:aR) (N:Addr->Prop) (μ:List P2) (H:Hp) (s:Shared) (k:aR->Hp->Prop) (r:V->Hp->Prop),Std w hO N μ H s->cJ w N μ s.heap env ⟨sc,rho,[]⟩->TG False And aN cf st ⟨sc,rho,[]⟩ H k r->aD (pm w) A (exec st env) (d6 w hO N μ s env sc k r) s
noncomputable def tW (sts:List Stmt):Prop:=∀(env:Env) (sc:Scope) (rho:aR) (N:Addr->Prop) (μ:List P2) (H:Hp) (s:Shared) (k:aR->Hp->Prop) (r:V->Hp->Prop),Std w hO N μ H s->cJ w N μ s.heap env ⟨sc,rho,[]⟩->eO False And aN cf sts ⟨sc,rho,[]⟩ H k r->aD (pm w) A (execs sts env) (d6 w hO N μ s env sc k r) s
end
theorem CC:typeLookup (.type "bytes") (dunderI "add")=pure none:=by kernel_rfl
section
variable {w:World}{A:Around}{E:Value->Shared->Prop}{hO:Heap}{N:Addr->Prop}{μ:List P2}{H:Hp}{s:Shared}{env:Env}{c:Cx}{cf:Cf}{sc:Scope}{rho:aR}
theorem d6.after(X:Ext (gI env) μ s μ1 sA)(g:d6 w hO N μ1 sA env sc k r f s'):d6 w hO N μ s env sc k r f s':=by
 obtain⟨H',μ',a,b,c⟩:=g
 exact⟨H',μ',a,X.trans b,c⟩
theorem Ext.fr(X:Ext no μ s μ' s'):Ext (gI env) μ s μ' s':=X.more λ_ z=>z.elim
theorem d6.next(hk:k rho' H')(S:Std w hO N μ' H' s')(X:Ext (gI env) μ s μ' s')(F:cJ w N μ' s'.heap env ⟨sc,rho',[]⟩):d6 w hO N μ s env sc k r .next s':=
 ⟨H',μ',S,X,rho',hk,F⟩
theorem d6.ret(hk:r d H')(S:Std w hO N μ' H' s')(X:Ext (gI env) μ s μ' s')(F:VR w N μ' s'.heap d v):d6 w hO N μ s env sc k r (.ret v) s':=
 ⟨H',μ',S,X,d,hk,F⟩
theorem PM{pos}:CD w hO A cf (.Pass pos):=by
 intro env sc rho N μ H s k r S F q
 exact G.PassS (.next q S (Ext.refl _ _ _) F)
theorem CQ{pos}:CD w hO A cf (.Return none pos):=by
 intro env sc rho N μ H s k r S F q
 exact G.Return0S (.ret q S (Ext.refl _ _ _) (.inl rfl))
theorem HJ{e pos}(he:bP w hO A cf e):CD w hO A cf (.Return (some e) pos):=by
 intro env sc rho N μ H s k r S F q
 refine G.ReturnS (G.mono (he env _ N μ H s _ S F q) λv sA g=>?_)
 obtain⟨d,H1,μ1,eA,S1,X1,rA⟩:=g
 exact .ret eA S1 X1.fr rA
theorem PZ{e pos}(he:bP w hO A cf e):CD w hO A cf (.Expr e pos):=by
 intro env sc rho N μ H s k r S F q
 obtain⟨hc,q⟩:=aA.mp q
 refine G.ExprS (by simpa using hc) F.kind (G.mono (he env _ N μ H s _ S F q) λv sA g=>?_)
 obtain⟨d,H1,μ1,eA,S1,X1,rA⟩:=g
 induction d using V.casesOn with
 |none=>
   refine⟨?_,.next eA S1 X1.fr (F.ext S X1)⟩
   rcases rA with rA|⟨p,_,_,z⟩
   ·exact rA
   ·exact False.elim z
 |_=>exact eA.elim
theorem T9{t b o pos}(ht:iI w hO A cf t)(hb:tW w hO A cf b)(ho:tW w hO A cf o):CD w hO A cf (.If t b o pos):=by
 intro env sc rho N μ H s k r S F q
 refine G.IfS (G.mono (ht env _ N μ H s _ S F q) λv sA g=>?_)
 obtain⟨H1,μ1,eA,S1,X1⟩:=g
 induction v using Bool.casesOn with
 |true=>exact G.mono (hb env sc rho N μ1 H1 sA k r S1 (F.ext S X1) eA) λ_ _ g=>g.after X1.fr
 |false=>exact G.mono (ho env sc rho N μ1 H1 sA k r S1 (F.ext S X1) eA) λ_ _ g=>g.after X1.fr
theorem OK:tW w hO A cf []:=by
 intro env sc rho N μ H s k r S F q
 rw[execs_nil]
 exact G.pure (.next q S (Ext.refl _ _ _) F)
theorem JO{st sts}(h:CD w hO A cf st)(hs:tW w hO A cf sts):tW w hO A cf (st::sts):=by
 intro env sc rho N μ H s k r S F q
 refine G.execsCons (G.mono (h env sc rho N μ H s _ r S F q) λf sA g=>?_)
 induction f using PySem.Flow.casesOn with
 |next=>
   obtain⟨H1,μ1,S1,X1,rho1,eA,F1⟩:=g
   exact G.mono (hs env sc rho1 N μ1 H1 sA k r S1 F1 eA) λ_ _ g=>g.after X1
 |ret v=>obtain⟨H1,μ1,S1,X1,z⟩:=g;exact⟨H1,μ1,S1,X1,z⟩
 |brk=>obtain⟨H1,μ1,S1,X1,z⟩:=g;exact z.elim
 |cont=>obtain⟨H1,μ1,S1,X1,z⟩:=g;exact z.elim
inductive VY (w:World) (hO:Heap) (N:Addr->Prop) (μ:List P2) (env:Env) (sc:Scope) (s:Shared) (Z:Nat->aR->Hp->Prop) (n:Nat) (s':Shared):Prop
 |mk (μ':List P2) (H':Hp) (rho':aR) (S:Std w hO N μ' H' s') (X:Ext (gI env) μ s μ' s') (F:cJ w N μ' s'.heap env ⟨sc,rho',[]⟩) (e:Z n rho' H')
theorem J2{t b pos}(ht:iI w hO A cf t)(hb:tW w hO A cf b):CD w hO A cf (.While t b [] pos):=by
 intro env sc rho N μ H s k r S F q
 refine G.WhileS (G.codeWhile (VY w hO N μ env sc s λn rho' H'=>yM False (UE (fV False And aN cf t) (aH False And aN cf t) sc []) (rR (eO False And aN cf b) sc []) n rho' H' k r) ?_ 8 ⟨μ,H,rho,S,Ext.refl _ _ _,F,q⟩)
 rintro n sA ⟨μ1,H1,rho1,S1,X1,F1,eA⟩
 induction n using Nat.casesOn with
 |zero=>exact eA.elim
 |succ n=>
   refine G.mono (ht env _ N μ1 H1 sA _ S1 F1 eA) λv sB g=>?_
   obtain⟨H2,μ2,eB,S2,X2⟩:=g
   induction v using Bool.casesOn with
   |false=>exact .next eB S2 (X1.trans X2.fr) (F1.ext S1 X2)
   |true=>
     refine G.mono (hb env sc rho1 N μ2 H2 sB _ r S2 (F1.ext S1 X2) eB) λf sC g=>?_
     have XAB:Ext (gI env) μ s μ2 sB:=X1.trans X2.fr
     induction f using PySem.Flow.casesOn with
     |next=>
       obtain⟨H3,μ3,S3,X3,rho3,eC,F3⟩:=g
       exact⟨n,Nat.lt_succ_self n,μ3,H3,rho3,S3,XAB.trans X3,F3,eC⟩
     |ret v=>
       obtain⟨H3,μ3,S3,X3,z⟩:=g
       exact⟨H3,μ3,S3,XAB.trans X3,z⟩
     |brk=>obtain⟨H1,μ1,S1,X1,z⟩:=g;exact z.elim
     |cont=>obtain⟨H1,μ1,S1,X1,z⟩:=g;exact z.elim
theorem PA(S:Std w hO N μ H s)(x:VR w N μ s.heap a va)(y:VR w N μ s.heap b vb)(e:TA False op a b k):
  wpAny (pm w) A (inplaceOp op va vb) (Gv w hO N μ H s k) E s:=by
 delta TA at e
 have ho:op= .Add:=by
  have q:=aS (c:=op.ctorIdx==0) (by clear e;rcases op<;>first|exact Eq.refl False|exact Eq.refl _) e
  exact Operator.Add.elim op (eq_of_beq q) rfl
 subst ho
 rcases Bool.or_eq_true_iff.mp (aS (c:=bD a==2||bD a==4) (by clear e x;rcases a<;>first|exact Eq.refl False|exact Eq.refl _) e)with q|q
 ·obtain⟨i,rfl⟩:=bK q
  clear q
  obtain⟨j,rfl⟩:=bK (d:=b) (aS (by clear e y;rcases b<;>first|exact Eq.refl False|exact Eq.refl _) e)
  obtain⟨t,rfl⟩:=x.int
  obtain⟨u,rfl⟩:=y.int
  exact PySem.AutoIntOps.iadd_0 (Gv.tok S e ⟨_,rfl⟩)
 ·obtain⟨l,rfl⟩:=bM q
  clear q
  obtain⟨m,rfl⟩:=bM (d:=b) (aS (by clear e y;rcases b<;>first|exact Eq.refl False|exact Eq.refl _) e)
  obtain⟨e1,e⟩:=aA.mp e
  obtain⟨hl,hm⟩:=Bool.and_eq_true_iff.mp e1
  refine c8 x.bytes λb t e91 e92=>?_
  subst e91
  subst e92
  refine c8 y.bytes λc u e93 e94=>?_
  subst e93
  subst e94
  have hl:=of_decide_eq_true hl
  have hm:=of_decide_eq_true hm
  rw[cE]at hl hm
  have fin:∀t' k',Gv w hO N μ H s k (.bytes (b++c) t') { s with toks:=k' }:=λt' k'=>Gv.tok S e ⟨_,_,rfl,mS _ _⟩
  refine iconcat_gives (typeIs_bytes s b t) (typeIs_bytes s c u) CC KBy.noFill_bytes_add KBy.seq_bytes_add FB.slot_bytes_add FB.entry_bytes_add (FB.args_bytes_add_2 _ _) (KBy.gives_bytes_add (KBy.tooLong_not (by simp at hl hm;lia))) ?_
  by_cases hb:b.isEmpty=true
  ·rw[if_pos hb]
   have e:b= #[]:=Array.isEmpty_iff.1 hb
   have h':=fin u s.toks
   rw[e,Array.empty_append]at h'
   exact h'
  ·rw[if_neg hb]
   by_cases hc:c.isEmpty=true
   ·rw[if_pos hc]
    have e:c= #[]:=Array.isEmpty_iff.1 hc
    have h':=fin t s.toks
    rw[e,Array.append_empty]at h'
    exact h'
   ·rw[if_neg hc]
    exact⟨by rw[Array.size_append,sizeLine_eq];simp at hl hm;lia,fin s.toks (s.toks+1)⟩
theorem wX(B:Base w hO){x npos op e pos}(he:bP w hO A cf e):CD w hO A cf (.AugAssign (.Name x npos) op e pos):=by
 intro env sc rho N μ H s k r S F q
 obtain⟨hx,q⟩:=aA.mp q
 refine aT (bA.mp q) λold ho q=>?_
 unfold iM at hx
 refine G.AugS (G.leaf (AK B S F ho λov ro=>?_))
 refine G.mono (he env _ N μ H s _ S F q) λv sA g=>?_
 obtain⟨d,H1,μ1,eA,S1,X1,rA⟩:=g
 refine G.leaf (wpAny_mono (PA S1 (aW X1.up' ro) rA eA) (λnv sB g=>?_) λ_ _ z=>z)
 obtain⟨dn,eB,S2,X2,rB⟩:=g
 refine G.leaf (kY S2 (F.ext S (X1.trans X2)) (by simpa using hx) rB λsC S3 X3 F3=>?_)
 exact .next eB S3 ((X1.trans X2).fr.trans X3) F3
end
end Mine
end
section
open PySem PySem.W PyProof.Rows PySem.SeqAt PySem.Builtin
open PySem.Sem (wp)
namespace Mine
noncomputable def kD:List String:=["enumerate","zip","dict_itemiterator","dict_reverseitemiterator","odict_iterator","itertools.zip_longest","itertools.pairwise"]
section
variable {w:World}{A:Around}{E:Value->Shared->Prop}{hO:Heap}{N:Addr->Prop}{μ:List P2}{H:Hp}{s:Shared}{env:Env}{c:Cx}{cf:Cf}{sc:Scope}{rho:aR}
theorem gD(R:eP A)(S:Std w hO N μ H s)(F:cJ w N μ s.heap env ⟨sc,rho,[]⟩)(r:VR w N μ s.heap d v)(e:bL sc H rho t d=some rho')
  (hQ:∀s',Std w hO N μ H s'->Ext (gI env) μ s μ s'->cJ w N μ s'.heap env ⟨sc,rho',[]⟩->Q () s'):wpAny (pm w) A (assign t env v) Q E s:=by
 delta bL at e
 rcases Bool.or_eq_true_iff.mp (gM (c:=t.ctorIdx==23||t.ctorIdx==25) (by clear e;rcases t<;>exact Eq.refl _) e)with q|q
 ·obtain⟨y,p,rfl⟩:=i7 q
  have e:(match iM sc y with|true=>some (putL y d rho)|false=>none)=some rho':=e
  rcases hx:iM sc y
  ·rw[hx]at e;exact iK e
  ·rw[hx]at e
   obtain rfl:=Option.some.inj e
   rw[arm_assign_Name]
   exact wpAny_bind (wpAny_standAt (wpAny_bindName (kY S F (by delta iM at hx;exact(Bool.or_eq_true_iff.mp hx).imp eq_of_beq eq_of_beq) r hQ)))
 ·obtain⟨ts,a,b,rfl⟩:=xH q
  refine aT (Option.bind_eq_some_iff.mp e) λl hl e=>?_
  refine qC (fK (env:=env) (c:=⟨sc,rho,[]⟩) ts l _ _ e) λh1 h2 h3=>?_
  rw[arm_assign_Tuple]
  refine wpAny_bind (wpAny_standAt ?_)
  delta unpack
  rw[h1,h2]
  refine wpAny_bind (wpAny_holding (iZ R.hd S r hl λws sA hws rs S1 X1=>?_))
  exact kN (c:=⟨sc,rho,[]⟩) ts l ws rho rho' sA _ e rs S1 (F.ext S X1) λsB S2 X2 F2=>hQ sB S2 (X1.fr.trans X2) F2
theorem vC(ho:s.heap.get? I=some o)(hc:o.cls= .type n)(hn:kD.contains n=false)(hQ:Q () s):wpAny (pm w) A (letOwnedTupleGo target (.ref I) v) Q E s:=by
 have body:wpAny (pm w) A (do
   let(.ref r,.ref a):=(Value.ref I,v)|return
   let o <-load r
   match o.cls,o.data with
   | .type n,.fields vs=>
     if["enumerate","zip","dict_itemiterator","dict_reverseitemiterator","odict_iterator","itertools.zip_longest","itertools.pairwise"].contains n&&vs[0]? ==some (rawInt a)then
      rule "for.unpacks-the-owned-tuple"
      updateField r 0 .none
   |_,_=>pure ()) Q E s:=by
  induction v using PySem.Value.casesOn with
  |ref a=>
    refine wpAny_bind (wpAny_load ho ?_)
    rw[hc]
    cases hd:o.data with
    |fields vs=>
      show wpAny _ A (if(kD.contains n&&vs[0]? ==some (rawInt a))=true then _ else _) Q E s
      rw[hn,Bool.false_and,if_neg (by decide)]
      exact wpAny_pure hQ
    |_=>exact wpAny_pure hQ
  |_=>exact wpAny_pure hQ
 induction target using PySem.Expr.casesOn with
 |Tuple _ _ _=>exact body
 |List _ _=>exact body
 |_=>exact wpAny_pure hQ
theorem wV.cls{h:Heap}{I:Addr}{i:Nat}{c:V}{v:Value}(x:wV h I i c v):∃o n,h.get? I=some o/\o.cls= .type n/\kD.contains n=false:=by
 induction c using V.casesOn with
 |lst l=>refine y0 x λl e o ho hc _=>?_;clear x;exact⟨o,_,ho,hc,by decide⟩
 |tup l=>refine y0 x λl e o ho hc _=>?_;clear x;exact⟨o,_,ho,hc,by decide⟩
 |bytes l=>refine I1 x λb t e o ho hc _=>?_;clear x;exact⟨o,_,ho,hc,by decide⟩
 |bar l=>refine y0 x λl e o ho hc _=>?_;clear x;exact⟨o,_,ho,hc,by decide⟩
 |rng a b c=>exact⟨_,_,x,rfl,by decide⟩
 |_=>exact x.elim
theorem Std.freeze{n0:Nat}(S:Std w hO N μ H s)(e:QS n0 H=some H'):Std w hO N (μ.take n0) H' s:=⟨S.hr.freeze e,S.base,λa z=>S.low a (lL z),S.nlow⟩
theorem Ext.freeze{n0:Nat}(X:Ext F μ s μ' s')(hn:μ.length<=n0):Ext F μ s (μ'.take n0) s':=by
 obtain⟨ν,rfl⟩:=X.pre
 refine⟨X.sh,⟨ν.take (n0-μ.length),?_⟩,λa z=>X.ow a (lL z),X.keep,X.size⟩
 rw[List.take_append,List.take_of_length_le hn]
theorem jX{ks:List Str}{x:Str}{d:V}{rho:aR}:(rho.filter λp=>ks.contains p.1).lookup x=some d->rho.lookup x=some d:=by
 induction rho with
 |nil=>exact id
 |cons p r ih=>
   intro e
   obtain⟨y,v⟩:=p
   have hx:ks.contains x=true:=(List.mem_filter.mp (mem_of_lookup e)).2
   rcases hb:x==y
   ·rw[List.lookup_cons,hb]
    rw[List.filter_cons]at e
    by_cases c:ks.contains y=true
    ·rw[if_pos c,List.lookup_cons,hb]at e
     exact ih e
    ·rw[if_neg c]at e
     exact ih e
   ·obtain rfl:=eq_of_beq hb
    rw[List.filter_cons,if_pos hx,List.lookup_cons,beq_self_eq_true]at e
    rw[List.lookup_cons,beq_self_eq_true]
    exact e
theorem n6{n0:Nat}:∀{rho':aR},Q6 n0 H rho=some rho'->rho'.lookup x=some d'->∃d,rho.lookup x=some d/\fz 8 n0 H d=some d':=by
 induction rho with
 |nil=>intro rho' e q;rw[gH e]at q;exact iK q
 |cons p r ih=>
   intro rho' e q
   obtain⟨y,v⟩:=p
   refine aE (aC e) λa as e1 e2 e91=>?_
   subst e91
   refine aT (Option.map_eq_some_iff.mp e1) λv' hv e92=>?_
   subst e92
   rw[List.lookup_cons]at q ⊢
   rcases hb:x==y
   ·rw[hb]at q
    exact ih e2 q
   ·rw[hb]at q
    obtain rfl:=Option.some.inj q
    exact⟨v,rfl,hv⟩
theorem cJ.freeze{n0:Nat}{h:Heap}{ks:List Str}{rho':aR}(F:cJ w N μ h env ⟨sc,rho,[]⟩)(R:HR w N μ H h)(e:Q6 n0 H (rho.filter λp=>ks.contains p.1)=some rho'):cJ w N (μ.take n0) h env ⟨sc,rho',[]⟩:=by
 refine⟨F.kind,F.g,F.bi,F.ok,F.kof,F.nl,?_,λx hx=>?_,λx d hx hd=>(by injection hd),F.nc,F.apart⟩
 ·refine aT F.loc λm hm hv=>?_
  refine⟨m,hm,λx d hx hd=>?_⟩
  refine aT (n6 e hd) λd0 h1 h2=>?_
  refine aT (hv x d0 hx (jX h1)) λv e1 r=>?_
  exact⟨v,e1,VR.freeze R h2 r⟩
 ·refine aE (F.cell x hx) λa o e1 hc hv=>?_
  refine⟨a,o,e1,hc,λd hd=>?_⟩
  refine aT (n6 e hd) λd0 h1 h2=>?_
  refine aT (hv d0 (jX h1)) λv e2 r=>?_
  exact⟨v,e2,VR.freeze R h2 r⟩
theorem cJ.back(F0:cJ w N μ0 h₁ env cO)(F:cJ w N' μ h env c)(U:Up N' μ h N μ' h')(hk:∀a o,gI env a->h.get? a=some o->h'.get? a=some o):cJ w N μ' h' env c:=by
 refine⟨F.kind,F.g,F.bi,F.ok,F.kof,F0.nl,?_,λx hx=>?_,λx d hx hd=>?_,F0.nc,F.apart⟩
 ·refine aT F.loc λm hm hv=>?_
  refine⟨m,?_,λx d hx hd=>?_⟩
  ·obtain⟨o,es,ep,ho,r⟩:=hm
   exact⟨o,es,ep,hk _ _ (.inl rfl) ho,r⟩
  ·refine aT (hv x d hx hd) λv e r=>?_
   exact⟨v,e,aW U r⟩
 ·refine aE (F.cell x hx) λa o e o93 hv=>?_
  obtain⟨ob,ho,hd⟩:=o93
  refine⟨a,o,e,⟨ob,hk _ _ (.inr ⟨_,mem_of_lookup e,rfl⟩) ho,hd⟩,λd hd=>?_⟩
  refine aT (hv d hd) λv e r=>?_
  exact⟨v,e,aW U r⟩
 ·refine aE (F.free x d hx hd) λa v e o94 r=>?_
  obtain⟨ob,ho,hd'⟩:=o94
  exact⟨a,v,e,⟨ob,hk _ _ (.inr ⟨_,mem_of_lookup e,rfl⟩) ho,hd'⟩,aW U r⟩
theorem y4(e:tL d=some vs):(∀H,content H d=some d)/\∀H,items H d=some vs:=by
 induction d using V.casesOn with
 |ref n=>injection e
 |_=>exact⟨λ_=>rfl,λ_=>e⟩
inductive Q9 (w:World) (hO:Heap) (N:Addr->Prop) (μ:List P2) (env:Env) (sc:Scope) (I:Addr) (d:V) (v:Value) (s:Shared) (L:Nat) (Z:Nat->aR->Hp->Prop) (n:Nat) (s':Shared):Prop
 |mk (i:Nat) (μ':List P2) (H':Hp) (rho':aR) (hin:i+n=L) (S:Std w hO (fW N I) μ' H' s') (X:Ext (withP (gI env) (· =I)) μ s μ' s') (it:wV s'.heap I i d v) (F:cJ w (fW N I) μ' s'.heap env ⟨sc,rho',[]⟩) (e:Z i rho' H')
section
variable {t:Expr}{b:List Stmt}{sc:Scope}{I:Addr}{d:V}{v':Value}{sA sB:Shared}{μ1:List P2}{vs:List V}{keep:Option (List Str)}{L:Nat}{k:aR->Hp->Prop}{r:V->Hp->Prop}
theorem C9{n i:Nat}(hL:μ1.length<=L)(hin:i+n=vs.length)(hi:i<vs.length)(hfI:∀a,gI env a->a≠I)(nI:sA.heap.get? I=none)(nN:fW N I I)(S6:Std w hO (fW N I) μ' H s6)(X12:Ext no μ1 sA μ1 sB)(X26:Ext (withP (gI env) (· =I)) μ1 sB μ' s6)(it6:wV s6.heap I (i+1) d v')(X0:Ext (gI env) μ s μ1 sA)
  (g:d6 w hO (fW N I) μ' s6 env sc (UM (jT False keep L) (forL False sc (rR (eO False And aN cf b) sc []) t (jT False keep L) (vs.drop (i+1))) k r) r f s7):
  (match(generalizing:=false) f with
   | .next| .cont=>∃m,m<n/\Q9 w hO N μ1 env sc I d v' sB vs.length (λi rho H=>forL False sc (rR (eO False And aN cf b) sc []) t (jT False keep L) (vs.drop i) rho H k r) m s7
   | .brk=>d6 w hO N μ s env sc k r .next s7
   | .ret v=>d6 w hO N μ s env sc k r (.ret v) s7):=by
 obtain⟨H7,μ7,S7,X7,g⟩:=g
 have X27:=X26.trans (X7.more λa q=>.inl q)
 have it7:wV s7.heap I (i+1) d v':=it6.at λo e=>X7.keep I o (λz=>hfI I z rfl) (S6.not_own nN) e
 induction f using PySem.Flow.casesOn with
 |next=>
   refine aT g λrho7 e7 F7=>?_
   clear g
   have hl7:=S7.hr
   induction keep using Option.casesOn with
   |none=>exact⟨n-1,by omega,i+1,μ7,H7,rho7,by omega,S7,X27,it7,F7,e7⟩
   |some ks=>
     refine aT (bA.mp e7) λrho8 h8 e7=>?_
     refine aT (bA.mp e7) λH8 h9 e7=>?_
     exact⟨n-1,by omega,i+1,μ7.take L,H8,rho8,by omega,S7.freeze h9,X27.freeze hL,it7,F7.freeze S7.hr h8,e7⟩
 |ret z=>
   refine aT g λdz ez rz=>?_
   clear g
   have Y:Ext (withP (gI env) (· =I)) μ1 sA μ7 s7:=(X12.more λ_ z=>z.elim).trans X27
   have Z:Ext (gI env) μ1 sA μ7 s7:=Ext.drop (P:=(· =I)) (h':=s7.heap) (t:=s7.toks) Y (λa z=>by rw[show a=I from z];exact nI) λ_ _ _ e=>e
   exact .ret ez (S7.less λ_=>.inl) (X0.trans Z) (VR.less (λ_=>.inl) rz)
 |brk=>exact g.elim
 |cont=>exact g.elim
end
theorem RS(R:eP A){t iter b pos}(he:bP w hO A cf iter)(hb:tW w hO A cf b):CD w hO A cf (.For t iter b [] pos):=by
 intro env sc rho N μ H s k r S F q
 obtain⟨hset,q⟩:=aA.mp q
 refine G.ForS (by simpa using hset) (G.mono (he env _ N μ H s _ S F q) λv sA g=>?_)
 obtain⟨d,H1,μ1,eA,S1,X1,rA⟩:=g
 refine aT (bA.mp eA) λvs hvs eA=>?_
 obtain⟨hcd,hit⟩:=y4 hvs
 refine G.leaf (mD S1 rA (hcd _) (hit _) λI sB nI S2 X2 it=>?_)
 have F1:=F.ext S X1
 have F2:cJ w (fW N I) μ1 sB.heap env ⟨sc,rho,[]⟩:=F1.keep ⟨λ_ _ e=>e,λ_ e=>.inl e,λa e=>e.imp id (λ(h:a=I)=>h▸nI),λa o hn ho e=>X2.keep a o (λz=>z) ho e⟩ (λ_=>.inl) λa o hn e=>X2.keep a o (λz=>z) (S1.not_own hn) e
 obtain⟨nN,v',rv,itc⟩:=it
 have nNI:¬N I:=λz=>(S1.nlow _ z).2 nI
 have hfI:∀a,gI env a->a≠I:=λa ha z=>nNI (z▸F.frN ha)
 have inN:∀a,withP (gI env) (· =I) a->fW N I a:=λa q=>q.elim (λq=>.inl (F.frN q)) λq=>.inr q
 refine G.codeFor (Q9 w hO N μ1 env sc I d v' sB vs.length λi rho H=>forL False sc (rR (eO False And aN cf b) sc []) t (jT False (aN.keepAt pos) H1.length) (vs.drop i) rho H k r) ?_ vs.length ⟨0,μ1,H1,rho,Nat.zero_add _,S2,Ext.refl _ _ _,itc,F2,eA⟩
 rintro n s' ⟨i,μ',H',rho',hin,S',X',itc',F',e'⟩
 have rv':=aW (X'.up inN) rv
 induction hv:vs[i]? using Option.casesOn with
 |none=>
   have hi:=List.getElem?_eq_none_iff.mp hv
   refine G.leaf (o6 R.hd S' ⟨nN,v',rv',itc'⟩ (hcd _) (hit _) (by omega) λh5 t5 kk=>?_)
   rw[List.drop_of_length_le hi]at e'
   have kk':∀a o,¬(a=I)->s'.heap.get? a=some o->h5.get? a=some o:=λa o hne e=>kk a o hne e
   have Y:Ext (withP (gI env) (· =I)) μ1 sA μ' s':=(X2.more λ_ z=>z.elim).trans X'
   exact .next e' (S'.dropI nNI kk) (X1.fr.trans (Ext.drop (P:=(· =I)) Y (λa z=>by rw[show a=I from z];exact nI) kk')) (F1.back F' (lF (P:=(· =I)) kk') λa o ha e=>kk a o (hfI a ha) e)
 |some dv=>
   have hi:i<vs.length:=(List.getElem?_eq_some_iff.mp hv).1
   rw[List.drop_eq_getElem_cons hi,(List.getElem?_eq_some_iff.mp hv).2]at e'
   refine aT (bA.mp e') λrho6 hb6 e'=>?_
   refine G.leaf (AU S' nN rv' itc' (hcd _) (hit _) hv λy s5 ry S5 X5 it5=>?_)
   refine aE it5.cls λo nm ho hcl hnm=>?_
   refine G.leaf (vC ho hcl hnm (G.leaf (gD R S5 (F'.atI S' X5 nN hfI) ry hb6 λs6 S6 X6 F6=>?_)))
   have it6:wV s6.heap I (i+1) d v':=it5.at λo e=>X6.keep I o (λz=>hfI I z rfl) (S5.not_own nN) e
   have X26:Ext (withP (gI env) (· =I)) μ1 sB μ' s6:=X'.trans ((X5.more λa q=>.inr q).trans (X6.more λa q=>.inl q))
   exact G.mono (hb env sc rho6 (fW N I) μ' H' s6 _ r S6 F6 e') λf s7 g=>C9 (Nat.le_of_eq S1.hr.len) hin hi hfI nI nN S6 X2 X26 it6 X1.fr g
end
end Mine
end
section
open PySem PySem.W PyProof.Rows PySem.SeqAt PySem.Builtin
open PySem.Sem (wp)
namespace Mine
noncomputable def dX:List Expr->List Str->Prop
 | [],[]=>True
 | .Name x _::ts,y::ns=>x=y/\dX ts ns
 |_,_=>False
theorem iC(hf:∀e x,f e=some x->∃p,e= .Name x p):∀ts:List Expr,(ts.filterMap f).length=ts.length->dX ts (ts.filterMap f)
 | [],_=>trivial
 |e::ts,h=>by
   induction he:f e using Option.casesOn with
   |none=>
     rw[List.filterMap_cons,he]at h
     have:=List.length_filterMap_le f ts
     simp only[List.length_cons]at h
     lia
   |some x=>
     rw[List.filterMap_cons,he]at h ⊢
     obtain⟨p,rfl⟩:=hf e x he
     exact⟨rfl,iC hf ts (by simpa using h)⟩
theorem qH(hs:kP (.Tuple ts k p) (.Tuple vs k' p')=true):
  swappedStores [.Tuple ts k p] (.Tuple vs k' p') env=Pure.pure none\/∃names,swappedStores [.Tuple ts k p] (.Tuple vs k' p') env=Pure.pure (some names)/\dX ts names/\(names.length=2\/names.length=3)/\names.eraseDups.length=names.length:=by
 have hs:(vs.all (foldedForSure 8)|| !vs.all (constantsAlone 8))=true:=hs
 unfold swappedStores
 dsimp only
 split
 ·exact .inl rfl
 ·rename_i h1
  split
  ·exact .inl rfl
  ·split
   ·exact .inl rfl
   ·rename_i h3
    split
    ·exact .inl rfl
    ·rename_i h4
     split
     ·rename_i h5
      rw[h5]at hs
      rw[Bool.not_eq_true]at h4
      rw[h4]at hs
      injection hs
     ·refine .inr ⟨_,rfl,?_,?_,?_⟩
      ·refine iC (λe x he=>?_) ts ?_
       ·split at he
        ·rename_i y q
         split at he
         ·obtain rfl:=Option.some.inj he;exact⟨_,rfl⟩
         ·injection he
        ·injection he
       ·simp only[Bool.or_eq_true,bne_iff_ne,not_or,ne_eq,Decidable.not_not]at h3
        exact h3.1
      ·simp only[Bool.or_eq_true,bne_iff_ne,not_or,ne_eq,Decidable.not_not,Bool.not_eq_true',beq_iff_eq,Bool.not_eq_false']at h3 h1
       rw[h3.1]
       have:=h1.1.1
       refine Decidable.or_iff_not_imp_left.mpr ?_
       simpa using this
      ·simp only[Bool.or_eq_true,bne_iff_ne,not_or,ne_eq,Decidable.not_not]at h3
       exact h3.2
section
variable {w:World}{A:Around}{E:Value->Shared->Prop}{hO:Heap}{N:Addr->Prop}{μ:List P2}{H:Hp}{s:Shared}{env:Env}{c:Cx}{cf:Cf}{sc:Scope}{rho:aR}
noncomputable def putAll:aR->List Str->List V->aR
 |rho,n::ns,d::ds=>putAll (putL n d rho) ns ds
 |rho,_,_=>rho
theorem g9:∀(ns:List Str) (ds:List V) (us:List Value) (rho:aR) (s:Shared) (Q:Unit->Shared->Prop),(∀x∈ns,iM sc x=true)->ns.length=ds.length->bJ w N μ s.heap ds us->Std w hO N μ H s->cJ w N μ s.heap env ⟨sc,rho,[]⟩->
  (∀s',Std w hO N μ H s'->Ext (gI env) μ s μ s'->cJ w N μ s'.heap env ⟨sc,putAll rho ns ds,[]⟩->Q () s')->wpAny (pm w) A (assignInOrder (ns.map λn=>bindName env n) us) Q E s
 | [],[],us,rho,s,Q,hn,hl,r,S,F,hQ=>by
   rw[a8]at r
   subst r
   exact wpAny_pure (hQ s S (Ext.refl _ _ _) F)
 |x::ns,d::ds,us,rho,s,Q,hn,hl,r,S,F,hQ=>by
   refine aE (aJ.mp r) λu us e91 r1 r2=>?_
   subst e91
   have hx:=hn x List.mem_cons_self
   unfold iM at hx
   rw[List.map_cons]
   show wpAny _ _ (holding us (bindName env x u) >>= _) Q E s
   refine wpAny_bind (wpAny_holding (wpAny_bindName (kY S F (by simpa using hx) r1 λsA S1 X1 F1=>?_)))
   exact g9 ns ds us (putL x d rho) sA Q (λy hy=>hn y (List.mem_cons_of_mem _ hy)) (by simpa using hl) (cX (X1.up λa q=>F.frN q) _ _ r2) S1 F1 λsB S2 X2 F2=>hQ sB S2 (X1.trans X2) F2
 | [],_::_,us,rho,s,Q,hn,hl,r,S,F,hQ=>by simp at hl
 |_::_,[],us,rho,s,Q,hn,hl,r,S,F,hQ=>by simp at hl
theorem CH{a b:Str}(h:[a,b].eraseDups.length=2):a≠b:=by
 rintro rfl
 simp[List.eraseDups_cons]at h
theorem iS{a b c:Str}(h:[a,b,c].eraseDups.length=3):a≠b/\a≠c/\b≠c:=by
 refine⟨?_,?_,?_⟩
 ·rintro rfl
  rw[List.eraseDups_cons]at h
  have h2:(List.filter (λb=> !b==a) [a,c]).eraseDups.length<=1:=by
   by_cases hc:c=a
   ·subst hc;simp
   ·simp[hc,List.eraseDups_cons]
  simp only[List.length_cons]at h
  lia
 ·rintro rfl
  rw[List.eraseDups_cons]at h
  have h2:(List.filter (λx=> !x==a) [b,a]).eraseDups.length<=1:=by
   by_cases hc:b=a
   ·subst hc;simp
   ·simp[hc,List.eraseDups_cons]
  simp only[List.length_cons]at h
  lia
 ·rintro rfl
  rw[List.eraseDups_cons]at h
  have h2:(List.filter (λx=> !x==a) [b,b]).eraseDups.length<=1:=by
   by_cases hc:b=a
   ·subst hc;simp
   ·simp[hc,List.eraseDups_cons]
  simp only[List.length_cons]at h
  lia
theorem put2{a b z:Str}{x y d:V}{rho:aR}(ab:a≠b)(h:(putL b y (putL a x rho)).lookup z=some d):(putL a x (putL b y rho)).lookup z=some d:=by
 simp only[cP]at h ⊢
 by_cases za:z=a
 ·subst za;rw[if_neg ab,if_pos rfl]at h;rw[if_pos rfl];exact h
 ·rw[if_neg za]at h ⊢;exact h
theorem put3{a b c z:Str}{x y t d:V}{rho:aR}(ab:a≠b)(ac:a≠c)(bc:b≠c)(h:(putL c t (putL b y (putL a x rho))).lookup z=some d):(putL a x (putL b y (putL c t rho))).lookup z=some d:=by
 simp only[cP]at h ⊢
 by_cases za:z=a
 ·subst za;rw[if_neg ac,if_neg ab,if_pos rfl]at h;rw[if_pos rfl];exact h
 ·rw[if_neg za]at h ⊢
  by_cases zb:z=b
  ·subst zb;rw[if_neg bc,if_pos rfl]at h;rw[if_pos rfl];exact h
  ·rw[if_neg zb]at h ⊢;exact h
theorem wF{x:Str}{d:V}{p:Pos}{ts:List Expr}{ds:List V}{rho rho':aR}(q:bX sc rho (.Name x p::ts) (d::ds)=some rho'):iM sc x=true/\bX sc (putL x d rho) ts ds=some rho':=by
 refine FX (gB q) λ_ _ _ z i e=>?_
 cases z
 exact⟨i,e⟩
theorem eG{ns:List Str}{es:List Expr}{y:Str}(h:dX es (y::ns)):∃p r,es= .Name y p::r/\dX r ns:=by
 rcases es with _|⟨e,r⟩
 ·exact False.elim h
 ·obtain⟨x,p,rfl⟩:=i7 (t:=e) (aS (by clear h;rcases e<;>first|exact Eq.refl False|exact Eq.refl _) h)
  exact⟨p,r,by rw[h.1],h.2⟩
theorem mJ{es:List Expr}(h:dX es []):es=[]:=by
 rcases es with _|⟨e,r⟩
 ·rfl
 ·exact mN (aS (c:=false) (by clear h;rcases e<;>exact Eq.refl False) h).symm
theorem q8{ns:List Str}:∀{ts:List Expr},dX ts ns->ts.length=ns.length:=by
 induction ns with
 |nil=>exact λh=>congrArg List.length (mJ h)
 |cons n ns ih=>exact λh=>c8 (eG h) λp r q h'=>q▸congrArg (· +1) (ih h')
theorem AZ{β:Type}{l:List β}(h:l.length=2):∃a b,l=[a,b]:=match l,h with| [a,b],_=>⟨a,b,rfl⟩
theorem qZ{β:Type}{l:List β}(h:l.length=3):∃a b c,l=[a,b,c]:=match l,h with| [a,b,c],_=>⟨a,b,c,rfl⟩
theorem FY{a b:Str}{ts:List Expr}{l:List V}{rho':aR}{us:List Value}(hN:dX ts [a,b])(hl:l.length=2)(ab:a≠b)(e:bX sc rho ts l=some rho')
  (r:bJ w N μ s.heap l us) (S:Std w hO N μ H s) (F:cJ w N μ s.heap env ⟨sc,rho,[]⟩) {Q:Unit->Shared->Prop} (hQ:∀s',Std w hO N μ H s'->Ext (gI env) μ s μ s'->cJ w N μ s'.heap env ⟨sc,rho',[]⟩->Q () s'):
  wpAny (pm w) A (assignInOrder ([b,a].map λn=>bindName env n) us.reverse) Q E s:=by
 refine NW (AZ hl) λx y e92=>?_
 subst e92
 refine aE (g7 r) λv u e93 r1 r2=>?_
 subst e93
 refine c8 (eG hN) λp ts1 e94 hN1=>?_
 subst e94
 obtain⟨i1,e⟩:=wF e
 refine c8 (eG hN1) λq ts2 e95 hN2=>?_
 subst e95
 obtain⟨i2,e⟩:=wF e
 obtain rfl:=mJ hN2
 obtain rfl:=Option.some.inj e
 exact g9 [b,a] [y,x] [u,v] rho s Q (List.forall_mem_cons.mpr ⟨i2,List.forall_mem_cons.mpr ⟨i1,nofun⟩⟩) rfl (aJ.mpr ⟨u,[v],rfl,r2,aJ.mpr ⟨v,[],rfl,r1,a8.mpr rfl⟩⟩) S F λs' S' X' F'=>hQ s' S' X' (F'.sub λz d hz=>put2 ab hz)
theorem yW{a b c:Str}{ts:List Expr}{l:List V}{rho':aR}{us:List Value}(hN:dX ts [a,b,c])(hl:l.length=3)(ab:a≠b)(ac:a≠c)(bc:b≠c)(e:bX sc rho ts l=some rho')
  (r:bJ w N μ s.heap l us) (S:Std w hO N μ H s) (F:cJ w N μ s.heap env ⟨sc,rho,[]⟩) {Q:Unit->Shared->Prop} (hQ:∀s',Std w hO N μ H s'->Ext (gI env) μ s μ s'->cJ w N μ s'.heap env ⟨sc,rho',[]⟩->Q () s'):
  wpAny (pm w) A (assignInOrder ([c,b,a].map λn=>bindName env n) us.reverse) Q E s:=by
 refine xX (qZ hl) λx y z e96=>?_
 subst e96
 refine fU (rW r) λv u t e97 r1 r2 r3=>?_
 subst e97
 refine c8 (eG hN) λp ts1 e98 hN1=>?_
 subst e98
 obtain⟨i1,e⟩:=wF e
 refine c8 (eG hN1) λq ts2 e99 hN2=>?_
 subst e99
 obtain⟨i2,e⟩:=wF e
 refine c8 (eG hN2) λo ts3 e910 hN3=>?_
 subst e910
 obtain⟨i3,e⟩:=wF e
 obtain rfl:=mJ hN3
 obtain rfl:=Option.some.inj e
 exact g9 [c,b,a] [z,y,x] [t,u,v] rho s Q (List.forall_mem_cons.mpr ⟨i3,List.forall_mem_cons.mpr ⟨i2,List.forall_mem_cons.mpr ⟨i1,nofun⟩⟩⟩) rfl (aJ.mpr ⟨t,[u,v],rfl,r3,aJ.mpr ⟨u,[v],rfl,r2,aJ.mpr ⟨v,[],rfl,r1,a8.mpr rfl⟩⟩⟩) S F λs' S' X' F'=>hQ s' S' X' (F'.sub λz d hz=>put3 ab ac bc hz)
theorem uJ(R:eP A){ts:List Expr}{names:List Str}{l:List V}{rho':aR}{us:List Value}(hN:dX ts names)(h23:names.length=2\/names.length=3)(hd:names.eraseDups.length=names.length)(e:bX sc rho ts l=some rho')
  (r:bJ w N μ s.heap l us) (S:Std w hO N μ H s) (F:cJ w N μ s.heap env ⟨sc,rho,[]⟩) {Q:Unit->Shared->Prop} (hQ:∀s',Std w hO N μ H s'->Ext (gI env) μ s μ s'->cJ w N μ s'.heap env ⟨sc,rho',[]⟩->Q () s'):
  wpAny (pm w) A (assignInOrder (names.reverse.map λn=>bindName env n) us.reverse) Q E s:=by
 have hl:=(fK (env:=env) (c:=⟨sc,rho,[]⟩) ts l _ _ e).2.2.trans (q8 hN)
 rcases h23 with h2|h2
 ·refine NW (AZ h2) λa b e911=>?_
  subst e911
  exact FY hN hl (CH hd) e r S F hQ
 ·refine xX (qZ h2) λa b c e912=>?_
  subst e912
  exact yW hN hl (iS hd).1 (iS hd).2.1 (iS hd).2.2 e r S F hQ
end
end Mine
end
section
open PySem PySem.W PyProof.Rows PySem.SeqAt PySem.Builtin
open PySem.Sem (wp)
namespace Mine
section
variable {w:World}{A:Around}{E:Value->Shared->Prop}{hO:Heap}{N:Addr->Prop}{μ:List P2}{H:Hp}{s:Shared}{env:Env}{c:Cx}{cf:Cf}{sc:Scope}{rho:aR}
theorem tQ{ts:List Expr}{kd:_}{tp:Pos}(e:Expr):swappedStores [.Tuple ts kd tp] e env=bif e.ctorIdx==25 then swappedStores [.Tuple ts kd tp] e env else Pure.pure none:=by
 rcases e<;>first|exact Eq.refl (Pure.pure none)|exact Eq.refl _
theorem CM{n:Nat}(t:Expr):swapsWithSole [t] (.ListComp elt gs sc' pos') n env=bif t.ctorIdx==23 then swapsWithSole [t] (.ListComp elt gs sc' pos') n env else Pure.pure false:=by
 rcases t<;>first|exact Eq.refl (Pure.pure false)|exact Eq.refl _
theorem MS(q:lJ False And aN cf t d ⟨sc,rho,[]⟩ H k):(t.ctorIdx==25||(t.ctorIdx==23||(t.ctorIdx==20||t.ctorIdx==21)))=true:=
 aS (by clear q;rcases t<;>first|exact Eq.refl False|exact Eq.refl _) q
theorem sS(B:Base w hO)(R:eP A){ts:List Expr}{kd:_}{tp:Pos}{e:Expr}{d:V}{v:Value}{k:aR->Hp->Prop}{r:V->Hp->Prop}(hs:kP (.Tuple ts kd tp) e=true)(S:Std w hO N μ H s)(F:cJ w N μ s.heap env ⟨sc,rho,[]⟩)(rv:VR w N μ s.heap d v)
  (q:opt False (bL sc H rho (.Tuple ts kd tp) d) λrho=>k rho H):aD (pm w) A (swappedStores [.Tuple ts kd tp] e env) (λsw sB=>aD (pm w) A (assignStores env v sw ((assignEach [.Tuple ts kd tp] env).map (·.2))) (d6 w hO N μ s env sc k r) sB) s:=by
 refine aT (bA.mp q) λrho' hb q=>?_
 have plain:aD (pm w) A (assignStores env v none ((assignEach [.Tuple ts kd tp] env).map (·.2))) (d6 w hO N μ s env sc k r) s:=
  G.stores_none rfl (G.leaf (gD R S F rv hb λs' S' X' F'=>.next q S' X' F'))
 have case0:swappedStores [.Tuple ts kd tp] e env=Pure.pure none\/∃names,swappedStores [.Tuple ts kd tp] e env=Pure.pure (some names)/\dX ts names/\(names.length=2\/names.length=3)/\names.eraseDups.length=names.length:=by
  rcases hc:e.ctorIdx==25
  ·exact .inl (cond_f (c:=e.ctorIdx==25) (a:=swappedStores [.Tuple ts kd tp] e env) (tQ e) hc)
  ·obtain⟨vs,k',p',rfl⟩:=xH hc
   exact qH hs
 rcases case0 with h|⟨names,h,hN,h23,hd⟩
 ·rw[h];exact G.pure plain
 ·rw[h]
  refine G.pure ?_
  refine aT (Option.bind_eq_some_iff.mp hb) λl hl hb=>?_
  have hlen:=q8 hN
  rw[hlen]at hl
  show aD _ _ (rule "assign.swapped-stores" >>= λ_=>unpackItems v names.length none >>= λitems=>assignInOrder (names.reverse.map λn=>bindName env n) items.reverse >>= λ_=>Pure.pure Flow.next) _ _
  refine G.bind (G.rule (G.bind (G.leaf (iZ R.hd S rv hl λws sA hws rs S1 X1=>?_))))
  refine G.bind (G.leaf (uJ R hN h23 hd hb rs S1 (F.ext S X1) λsB S2 X2 F2=>G.pure (.next q S2 (X1.fr.trans X2) F2)))
theorem BX(B:Base w hO)(R:eP A)(hcf:lA w hO A cf)(S:Std w hO N μ H s)(F:cJ w N μ s.heap env ⟨sc,rho,[]⟩)(rv:VR w N μ s.heap d v)
  (q:aH False And aN cf o ⟨sc,rho,[]⟩ H (TL False (aH False And aN cf i ⟨sc,rho,[]⟩) d (k rho))):aD (pm w) A (eval o env) (λa sA=>aD (pm w) A (eval i env) (λj sB=>aD (pm w) A (setItem a j v) (λ_ sA=>d6 w hO N μ s env sc k r .next sA) sB) sA) s:=by
 refine G.mono ((dK B R hcf o).1 env _ N μ H s _ S F q) λa sA g=>?_
 obtain⟨dA,H1,μ1,eA,S1,X1,rA⟩:=g
 refine G.mono ((dK B R hcf i).1 env _ N μ1 H1 sA _ S1 (F.ext S X1) eA) λb sB g=>?_
 obtain⟨dB,H2,μ2,eB,S2,X2,rB⟩:=g
 have XAB:=X1.trans X2
 have hu:=R.un
 exact G.leaf (yR (by omega) S2 (aW X2.up' rA) rB (aW XAB.up' rv) eB λH3 sC hk S3 X3=>.next hk S3 (XAB.trans X3).fr (F.ext S (XAB.trans X3)))
theorem uS(B:Base w hO)(R:eP A)(hcf:lA w hO A cf){o lo hi:Expr}{p:Pos}{d:V}{v:Value}{k:aR->Hp->Prop}{r:V->Hp->Prop}(S:Std w hO N μ H s)(F:cJ w N μ s.heap env ⟨sc,rho,[]⟩)(rv:VR w N μ s.heap d v)
  (q:aH False And aN cf o ⟨sc,rho,[]⟩ H (UK False (aH False And aN cf lo ⟨sc,rho,[]⟩) (aH False And aN cf hi ⟨sc,rho,[]⟩) d (k rho))):aD (pm w) A (eval o env) (λa sA=>aD (pm w) A (eval (.Slice (some lo) (some hi) none p) env) (λj sB=>aD (pm w) A (setItem a j v) (λ_ sA=>d6 w hO N μ s env sc k r .next sA) sB) sA) s:=by
 refine G.mono ((dK B R hcf o).1 env _ N μ H s _ S F q) λa sA g=>?_
 obtain⟨dA,H1,μ1,eA,S1,X1,rA⟩:=g
 refine G.SliceE (G.mono ((uD (dK B R hcf lo).1) env _ N μ1 H1 sA _ S1 (F.ext S X1) eA) λl sB g=>?_)
 obtain⟨dB,H2,μ2,eB,S2,X2,rB⟩:=g
 refine G.mono ((uD (dK B R hcf hi).1) env _ N μ2 H2 sB _ S2 (F.ext S (X1.trans X2)) eB) λu sC g=>?_
 obtain⟨dC,H3,μ3,eC,S3,X3,rC⟩:=g
 refine G.leaf ?_
 refine wpAny_newObj_type ?_
 have P:=Ext.push (μ:=μ3) (s:=sC) (A6 l u)
 have X13:=(X1.trans X2).trans (X3.trans P)
 exact wL (S3.push (A6 l u)) (aW ((X2.trans (X3.trans P)).up') rA) (aW ((X3.trans P).up') rB) (aW P.up' rC) (aW X13.up' rv) (Heap.IsSliceOf.new _ _ _ _) eC
  λH4 s4 hk S4 X4=>.next hk S4 (X13.trans X4).fr (F.ext S (X13.trans X4))
noncomputable def xE:Expr->Bool
 | .Slice (some _) (some _) none _=>true
 |_=>false
theorem M6{i}(h:xE i=true):∃lo hi p,i= .Slice (some lo) (some hi) none p:=by
 obtain⟨lo,hi,st,p,rfl⟩:=kL (t:=i) (iL (by clear h;rcases i<;>first|exact Eq.refl false|exact Eq.refl _) h)
 rcases lo<;>rcases hi<;>rcases st<;>first|exact⟨_,_,_,rfl⟩|exact nE h
theorem y7(h:xE i=false):lJ False And aN cf (.Subscript o i p) d ⟨sc,rho,[]⟩ H k=aH False And aN cf o ⟨sc,rho,[]⟩ H (TL False (aH False And aN cf i ⟨sc,rho,[]⟩) d (k rho)):=by
 rcases hc:i.ctorIdx==26
 ·refine cond_f (c:=i.ctorIdx==26) (a:=lJ False And aN cf (.Subscript o i p) d ⟨sc,rho,[]⟩ H k) ?_ hc
  clear h hc
  rcases i<;>exact Eq.refl _
 ·obtain⟨lo,hi,st,p,rfl⟩:=kL hc
  rcases lo<;>rcases hi<;>rcases st<;>first|exact mN h|rfl
theorem qV(B:Base w hO)(R:eP A)(hcf:lA w hO A cf)(hs:kP t e=true)(S:Std w hO N μ H s)(F:cJ w N μ s.heap env ⟨sc,rho,[]⟩)(rv:VR w N μ s.heap d v)
  (q:lJ False And aN cf t d ⟨sc,rho,[]⟩ H k):aD (pm w) A (swappedStores [t] e env) (λsw sB=>aD (pm w) A (assignStores env v sw ((assignEach [t] env).map (·.2))) (d6 w hO N μ s env sc k r) sB) s:=by
 have hi:=MS q
 rcases Bool.or_eq_true_iff.mp hi with hi|hi
 ·obtain⟨ts,kd,tp,rfl⟩:=xH hi
  exact sS B R hs S F rv q
 rcases Bool.or_eq_true_iff.mp hi with hi|hi
 ·obtain⟨x,p,rfl⟩:=i7 hi
  refine aT (bA.mp (show opt False (bL sc H rho (.Name x p) d) (UQ k H)from q)) λrho' hb q=>?_
  exact G.of_eq (t':=Pure.pure none) rfl (G.pure (G.stores_none rfl (G.leaf (gD R S F rv hb λs' S' X' F'=>.next q S' X' F'))))
 rcases Bool.or_eq_true_iff.mp hi with hi|hi
 ·obtain⟨o,x,p,rfl⟩:=AE hi
  refine G.of_eq (t':=Pure.pure none) rfl (G.pure (G.stores_none rfl (G.assignAttr (G.mono ((dK B R hcf o).1 env _ N μ H s _ S F q) λa sA g=>?_))))
  obtain⟨dA,H1,μ1,eA,S1,X1,rA⟩:=g
  exact G.leaf (zJ B S1 rA (aW X1.up' rv) eA λH2 sB hk S2 X2=>.next hk S2 (X1.trans X2).fr (F.ext S (X1.trans X2)))
 ·obtain⟨o,i,p,rfl⟩:=M5 hi
  refine G.of_eq (t':=Pure.pure none) rfl (G.pure (G.stores_none rfl (G.assignSub ?_)))
  rcases hx:xE i
  ·rw[y7 hx]at q
   exact BX B R hcf S F rv q
  ·refine xX (M6 hx) λlo hi p' e91=>?_
   subst e91
   exact uS B R hcf S F rv q
theorem qS(B:Base w hO)(R:eP A)(hcf:lA w hO A cf){t e pos}(hc:iA e=false):CD w hO A cf (.Assign [t] e pos):=by
 intro env sc rho N μ H s k r S F q
 obtain⟨hs,q⟩:=aA.mp q
 refine G.AssignS hc (G.mono ((dK B R hcf e).1 env _ N μ H s _ S F q) λv sA g=>?_)
 obtain⟨d,H1,μ1,eA,S1,X1,rA⟩:=g
 refine G.mono (qV (e:=e) B R hcf hs S1 (F.ext S X1) rA eA) λsw sB h=>G.mono h λf sC g=>g.after X1.fr
theorem DX(h:iM sc x=true):sc.names.lookup x=some .local\/sc.names.lookup x=some .cell:=(Bool.or_eq_true_iff.mp h).imp beq_iff_eq.mp beq_iff_eq.mp
theorem x5(S:Std w hO N μ H s)(F:cJ w N μ s.heap env ⟨sc,rho,[]⟩)(X:Ext no μ s μ1 sA)
  (z:jI w hO N μ1 sA (λd H=>opt False (bL sc H rho (.Name x px) d) λrho=>k rho H) I acc C s'):
  G.compPost (pm w) A (some (assign (.Name x px) env)) (λ_ s'=>d6 w hO N μ s env sc k r .next s') acc C s':=by
 obtain⟨D,ds,vs,H',μ',rfl,hk,S',X',c1,rv,⟨m,hm⟩,nD,nC,nI,hDC⟩:=z
 refine aT (bA.mp hk) λrho' hb hk=>?_
 have back:∀a,sA.heap.get? a=none->¬N a:=λa q z=>X.size a (S.nlow a z).2 q
 have dead:∀a,P3 I D C a->sA.heap.get? a=none:=λa ha=>by rcases ha with rfl|rfl|rfl;exact nI;exact nD;exact nC
 have deadS:∀a,sA.heap.get? a=none->s.heap.get? a=none:=λa q=>Classical.byContradiction λz=>X.size a z q
 have Sc:Std w hO (withP N (· =C)) μ' H' s':=S'.less λa ha=>ha.imp id λq=>.inr q
 have Fc:cJ w (withP N (· =C)) μ' s'.heap env ⟨sc,rho,[]⟩:=F.extP S ((X.more λ_ z=>z.elim).trans X') (λa ha=>deadS a (dead a ha)) λa (q:a=C)=>by rw[q];exact deadS C nC
 have no1:=S'.not_own (a:=D) (.inr (.inl rfl))
 have nND:¬withP N (· =C) D:=λq=>q.elim (back _ nD) λq=>hDC q
 have rD:VR w (withP N (· =C)) μ' s'.heap (.lst ds) (.ref D):=by
  refine .inr ⟨(D,D),rfl,⟨nND,nND,no1,no1⟩,?_⟩
  exact⟨rfl,vs,c1,cX ⟨λ_ _ e=>e,λ_ e=>.inl e,λa ha=>.inl (ha.imp id λq=>.inr q),λa o _ _ e=>e⟩ _ _ rv⟩
 have hfC:∀a,gI env a->a≠C:=λa ha z=>back C nC (z▸F.frN ha)
 show aD _ _ (assign (.Name x px) env (.ref D)) _ _
 have hb:(match iM sc x with|true=>some (putL x (V.lst ds) rho)|false=>none)=some rho':=hb
 obtain⟨hx,hr⟩:(sc.names.lookup x=some .local\/sc.names.lookup x=some .cell)/\rho'=putL x (.lst ds) rho:=by
  rcases h:iM sc x<;>rw[h]at hb
  ·exact iK hb
  ·exact⟨DX h,(Option.some.inj hb).symm⟩
 subst hr
 refine G.assignName (G.leaf (oF Sc Fc hx rD λb s6 hbf hbl S6 X6 F6=>?_))
 have hbC:b≠C:=hfC b hbf
 obtain⟨o,es,ep,ho,hrest⟩:=hm
 have ho6:s6.heap.get? C=some o:=X6.keep C o (λq=>hbC q.symm) (Sc.not_own (.inr rfl)) ho
 refine⟨m,⟨o,es,ep,ho6,hrest⟩,λh' sb=>?_⟩
 have kk:∀a o,¬(a=C)->s6.heap.get? a=some o->h'.get? a=some o:=λa o hne e=>(sb.2 a hne).trans e
 have S7:Std w hO N μ' H' { s6 with heap:=h' }:=S6.drop (P:=(· =C)) (t:=s6.toks) (λa ha=>by rw[show a=C from ha];exact back _ nC) kk
 have Y:Ext (withP (gI env) (P3 I D C)) μ1 sA μ' s6:=(X'.more λa q=>q.elim (λz=>z.elim) .inr).trans (X6.more λa q=>.inl (q▸hbf))
 have Z:Ext (gI env) μ1 sA μ' { s6 with heap:=h' }:=Ext.drop (t:=s6.toks) Y dead λa o hne e=>kk a o (λq=>hne (.inr (.inr q))) e
 exact .next hk S7 (X.fr.trans Z) (F.back F6 (lF (P:=(· =C)) kk) λa o ha e=>kk a o (hfC a ha) e)
theorem sF(B:Base w hO)(R:eP A)(hcf:lA w hO A cf){t elt gs sc' pos' pos}:CD w hO A cf (.Assign [t] (.ListComp elt gs sc' pos') pos):=by
 intro env sc rho N μ H s k r S F q
 obtain⟨hs,q⟩:=aA.mp q
 have viaEval:swapsWithSole [t] (.ListComp elt gs sc' pos') pos.line env=Pure.pure false->aD (pm w) A (exec (.Assign [t] (.ListComp elt gs sc' pos') pos) env) (d6 w hO N μ s env sc k r) s:=λhsw=>by
  refine G.AssignComp' hsw (G.mono ((dK B R hcf (.ListComp elt gs sc' pos')).1 env _ N μ H s _ S F q) λv sA g=>?_)
  obtain⟨d,H1,μ1,eA,S1,X1,rA⟩:=g
  refine G.mono (qV (e:=.ListComp elt gs sc' pos') B R hcf hs S1 (F.ext S X1) rA eA) λsw sB h=>G.mono h λf sC g=>g.after X1.fr
 rcases hc:t.ctorIdx==23
 ·exact viaEval (cond_f (c:=t.ctorIdx==23) (a:=swapsWithSole [t] (.ListComp elt gs sc' pos') pos.line env) (CM t) hc)
 ·obtain⟨x,px,rfl⟩:=i7 hc
  rcases hb:(env.blockKind== .function&&env.kindOf x==some .local&&px.line==pos'.line&& !(sc'.names.any λ(n,k)=>n==x&&(k== .local||k== .cell)))
  ·refine viaEval ?_
   show Pure.pure (env.blockKind== .function&&env.kindOf x==some .local&&px.line==pos'.line&& !(sc'.names.any λ(n,k)=>n==x&&(k== .local||k== .cell)))=_
   rw[hb]
  ·have hsw:swapsWith (.ListComp elt gs sc' pos') (some (.Name x px)) pos.line env=Pure.pure true:=by
    show Pure.pure (env.blockKind== .function&&env.kindOf x==some .local&&px.line==pos'.line&& !(sc'.names.any λ(n,k)=>n==x&&(k== .local||k== .cell)))=_
    rw[hb]
   obtain⟨hco,q⟩:=aA.mp q
   obtain⟨y,py,iter,ifs,rfl,q⟩:=rN q
   obtain⟨g1,q⟩:=aA.mp q
   simp only[Bool.and_eq_true,Bool.not_eq_true',beq_iff_eq]at g1
   refine G.AssignComp hsw ?_
   exact w0 R (dK B R hcf _).1 (dK B R hcf elt).1 (I8 B R hcf _).2.2.2.2.2 S F hco g1.1 g1.2 q λμ1 sA I acc C s' X z=>x5 S F X z
end
end Mine
end
section
open PySem PySem.W PyProof.Rows PySem.SeqAt PySem.Builtin
open PySem.Sem (wp)
namespace Mine
theorem bT{w:World}{A:Around}{hO:Heap}{cf:Cf}{st:Stmt}(h:∀(c:Cx) (H:Hp) (k:aR->Hp->Prop) (r:V->Hp->Prop),TG False And aN cf st c H k r=False):CD w hO A cf st:=by
 intro env sc rho N μ H s k r S F q
 rw[h]at q
 exact q.elim
mutual
theorem U3(B:Base w hO)(R:eP A)(hcf:lA w hO A cf):∀st:Stmt,CD w hO A cf st
 | .Expr e pos=>PZ (dK B R hcf e).1
 | .Pass pos=>PM
 | .Return none pos=>CQ
 | .Return (some e) pos=>HJ (dK B R hcf e).1
 | .Assign [t] e pos=>by
   induction hc:iA e using Bool.casesOn with
   |false=>exact qS B R hcf hc
   |true=>
     induction e using PySem.Expr.casesOn with
     |ListComp elt gs sc p=>exact sF B R hcf
     |SetComp _ _ _ _=>
       intro env sc rho N μ H s k r S F q
       exact(aA.mp q).2.elim
     |DictComp _ _ _ _ _=>
       intro env sc rho N μ H s k r S F q
       exact(aA.mp q).2.elim
     |GeneratorExp _ _ _ _=>
       intro env sc rho N μ H s k r S F q
       exact(aA.mp q).2.elim
     |_=>injection hc
 | .Assign [] e pos=>bT λ_ _ _ _=>rfl
 | .Assign (_::_::_) e pos=>bT λ_ _ _ _=>rfl
 | .AugAssign t op e pos=>by
   induction t using PySem.Expr.casesOn with
   |Name x np=>exact wX B (dK B R hcf e).1
   |_=>exact bT λ_ _ _ _=>rfl
 | .If t b o pos=>T9 (dK B R hcf t).2.1 (B0 B R hcf b) (B0 B R hcf o)
 | .While t b [] pos=>J2 (dK B R hcf t).2.1 (B0 B R hcf b)
 | .While t b (_::_) pos=>bT λ_ _ _ _=>rfl
 | .For t i b [] pos=>RS R (dK B R hcf i).1 (B0 B R hcf b)
 | .For t i b (_::_) pos=>bT λ_ _ _ _=>rfl
 | .FunctionDef .. =>bT λ_ _ _ _=>rfl
 | .AsyncFunctionDef .. =>bT λ_ _ _ _=>rfl
 | .ClassDef .. =>bT λ_ _ _ _=>rfl
 | .Delete .. =>bT λ_ _ _ _=>rfl
 | .TypeAlias .. =>bT λ_ _ _ _=>rfl
 | .AnnAssign .. =>bT λ_ _ _ _=>rfl
 | .AsyncFor .. =>bT λ_ _ _ _=>rfl
 | .With .. =>bT λ_ _ _ _=>rfl
 | .AsyncWith .. =>bT λ_ _ _ _=>rfl
 | .Match .. =>bT λ_ _ _ _=>rfl
 | .Raise .. =>bT λ_ _ _ _=>rfl
 | .Try .. =>bT λ_ _ _ _=>rfl
 | .TryStar .. =>bT λ_ _ _ _=>rfl
 | .Assert .. =>bT λ_ _ _ _=>rfl
 | .Import .. =>bT λ_ _ _ _=>rfl
 | .ImportFrom .. =>bT λ_ _ _ _=>rfl
 | .Global .. =>bT λ_ _ _ _=>rfl
 | .Nonlocal .. =>bT λ_ _ _ _=>rfl
 | .Break .. =>bT λ_ _ _ _=>rfl
 | .Continue .. =>bT λ_ _ _ _=>rfl
theorem B0(B:Base w hO)(R:eP A)(hcf:lA w hO A cf):∀ss:List Stmt,tW w hO A cf ss
 | []=>OK
 |st::ss=>JO (U3 B R hcf st) (B0 B R hcf ss)
end
end Mine
end
section
open PySem PySem.W PyProof.Rows PySem.SeqAt PySem.Builtin
open PySem.Sem (wp)
namespace Mine
theorem G.callFn{prog:Program}{w:World}{A:Around}{s:Shared}{R:Flow->Shared->Prop}{a:Addr}{args:Args}{o:Obj}{fd:FuncData}{body:List Stmt}(hroom:A.depth<recursionLimit)(ho:s.heap.get? a=some o)
  (hd':o.data= .func fd) (hco:fd.scope.isCoroutine=false) (hgen:fd.scope.isGenerator=false) (hbody:fd.body= .stmts body) (hcd:s.heap.CodeRec fd.code fd.qualname)
  (h:aD (model prog w) A.in1 (bindArgs fd args) (λbinds sA=>aD (model prog w) A.in1 (newFunctionEnv fd.scope fd.globals fd.closure binds (fd.qualname++".<locals>.") (some a) fd.code none fd.builtins)
   (λenv sB=>sB.heap.NoLimit/\bE (model prog w) A (.func body env) R sB) sA) s):bE (model prog w) A (.call (.ref a) args) R s:=by
 refine G.codeTree rfl ?_
 show aD _ A.in1 (callAny (.ref a) args) _ s
 refine G.bind (G.leaf (wpAny_load ho ?_))
 obtain⟨c,oc,vs,tq,hc,hoc,hdc,hq⟩:=hcd
 simp only[hd',PySem.callFunction,hco,hgen,hbody,hc]
 rw[hc]at h
 refine G.bind (G.leaf (wpAny_field hoc hdc hq ?_))
 refine G.bind (G.pure ?_)
 exact G.bind (G.mono h λbinds sA h₁=>G.bind (G.mono h₁ λenv sB h₂=>G.bind (G.leaf (wpAny_enterFrame h₂.1 hroom (G.pure (And.intro rfl h₂.2))))))
section
variable {w:World}{A:Around}{E:Value->Shared->Prop}{hO:Heap}{N:Addr->Prop}{μ:List P2}{H:Hp}{s:Shared}{env:Env}{c:Cx}{cf:Cf}{sc:Scope}{rho:aR}
theorem QZ{β:Type}{x:Str}{d:β}{r:List (Str×β)}{z d':β}(h:List.lookup x ((x,d)::r)=some d'):d'=d:=by
 rw[List.lookup_cons,beq_self_eq_true]at h
 exact(Option.some.inj h).symm
theorem ER{β:Type}{x n:Str}{d:β}{r:List (Str×β)}(q:x≠n):List.lookup x ((n,d)::r)=r.lookup x:=by
 rw[List.lookup_cons,beq_eq_false_iff_ne.mpr q]
theorem xG(q:x≠n)(h:∀m,bindL ko r m x=m x):bindL ko ((n,v)::r) m x=m x:=by
 rw[bindL,h]
 by_cases c:ko n=some .local
 ·rw[if_pos c];exact if_neg q
 ·rw[if_neg c]
theorem vN{ko:Str->Option NameKind}{x:Str}{ns:List Str}:∀(vs:List Value) (m:Str->Option Value),x∉ns->bindL ko (ns.zip vs) m x=m x:=by
 induction ns with
 |nil=>exact λ_ _ _=>by rw[List.zip_nil_left];rfl
 |cons n ns ih=>
   intro vs m h
   induction vs with
   |nil=>rw[List.zip_nil_right];rfl
   |cons v vs _=>exact xG (λe=>h (e▸List.mem_cons_self)) λm=>ih vs m λz=>h (List.mem_cons_of_mem _ z)
theorem zB(q:x≠n)(h:∀m,bindC ko r m x=m x):bindC ko ((n,v)::r) m x=m x:=by
 rw[bindC,h]
 by_cases c:ko n=some .local
 ·rw[if_pos c]
 ·rw[if_neg c];exact if_neg q
theorem vF{ko:Str->Option NameKind}{x:Str}{ns:List Str}:∀(vs:List Value) (m:Str->Option Value),x∉ns->bindC ko (ns.zip vs) m x=m x:=by
 induction ns with
 |nil=>exact λ_ _ _=>by rw[List.zip_nil_left];rfl
 |cons n ns ih=>
   intro vs m h
   induction vs with
   |nil=>rw[List.zip_nil_right];rfl
   |cons v vs _=>exact zB (λe=>h (e▸List.mem_cons_self)) λm=>ih vs m λz=>h (List.mem_cons_of_mem _ z)
theorem B1{ko:Str->Option NameKind}{x:Str}(hk:ko x=some .local){ns:List Str}{vs:List Value}{v:Value}{m:Str->Option Value}(h:x∉ns):bindL ko ((x::ns).zip (v::vs)) m x=some v:=by
 rw[List.zip_cons_cons,bindL,vN vs _ h,if_pos hk]
 exact if_pos rfl
theorem B8{ko:Str->Option NameKind}{x:Str}(hk:ko x≠some .local){ns:List Str}{vs:List Value}{v:Value}{m:Str->Option Value}(h:x∉ns):bindC ko ((x::ns).zip (v::vs)) m x=some v:=by
 rw[List.zip_cons_cons,bindC,vF vs _ h,if_neg hk]
 exact if_pos rfl
theorem zV{G:List (Str×Value)->(Str->Option Value)->Str->Option Value}{x:Str}{h:Heap}{d:V}(hit:∀{ns:List Str} {vs:List Value} {v:Value} {m:Str->Option Value},x∉ns->G ((x::ns).zip (v::vs)) m x=some v)
  (miss:∀(n:Str) (v:Value) (r:List (Str×Value)) m,∃m',G ((n,v)::r) m x=G r m' x) {ns:List Str}:∀(ds:List V) (vs:List Value) (m:Str->Option Value),ns.Nodup->bJ w N μ h ds vs->(ns.zip ds).lookup x=some d->∃v,G (ns.zip vs) m x=some v/\VR w N μ h d v:=by
 induction ns with
 |nil=>exact λds vs m _ _ e=>by rw[List.zip_nil_left]at e;exact iK e
 |cons n ns ih=>
   intro ds vs m hn r e
   induction ds with
   |nil=>rw[List.zip_nil_right]at e;exact iK e
   |cons a ds _=>
     refine aE (aJ.mp r) λv vs e91 r1 r2=>?_
     subst e91
     obtain⟨h1,h2⟩:=List.nodup_cons.mp hn
     rw[List.zip_cons_cons]at e
     by_cases q:x=n
     ·subst q
      obtain rfl:=QZ (z:=a) e
      exact⟨v,hit h1,r1⟩
     ·rw[ER q]at e
      exact Exists.elim (miss n v (ns.zip vs) m) λm' e'=>aT (ih ds vs m' h2 r2 e) λu g1 g2=>⟨u,(by rw[List.zip_cons_cons];exact e'.trans g1),g2⟩
theorem HQ{ko:Str->Option NameKind}{x:Str}{h:Heap}{d:V}(hk:ko x=some .local)(ns:List Str)(ds:List V)(vs:List Value)(m:Str->Option Value):ns.Nodup->bJ w N μ h ds vs->(ns.zip ds).lookup x=some d->∃v,bindL ko (ns.zip vs) m x=some v/\VR w N μ h d v:=
 zV (G:=bindL ko) (B1 hk) (λ_ _ _ _=>⟨_,rfl⟩) ds vs m
theorem GI{ko:Str->Option NameKind}{x:Str}{h:Heap}{d:V}(hk:ko x≠some .local)(ns:List Str)(ds:List V)(vs:List Value)(m:Str->Option Value):ns.Nodup->bJ w N μ h ds vs->(ns.zip ds).lookup x=some d->∃v,bindC ko (ns.zip vs) m x=some v/\VR w N μ h d v:=
 zV (G:=bindC ko) (B8 hk) (λ_ _ _ _=>⟨_,rfl⟩) ds vs m
theorem K7{β:Type}{x n:Str}{d:β}{r:List (Str×β)}(h:(r.lookup x).isSome=true):(List.lookup x ((n,d)::r)).isSome=true:=by
 rw[List.lookup_cons]
 rcases x==n
 ·exact h
 ·rfl
theorem rQ{P:List (Str×NameKind)->List (Str×Addr)->List (Str×Addr)->Prop}(h0:∀acc,P [] acc acc)(h1:∀y r n acc o,P r ((y,n)::acc) o->P ((y,NameKind.cell)::r) acc o)(h2:∀y k r acc o,k≠NameKind.cell->P r acc o->P ((y,k)::r) acc o)(names:List (Str×NameKind)):∀(n:Nat) (acc:List (Str×Addr)),P names acc (cellsFrom n names acc):=by
 induction names with
 |nil=>exact λn acc=>h0 acc
 |cons p r ih=>
   intro n acc
   rcases p with⟨y,k⟩
   unfold cellsFrom
   by_cases c:k= .cell
   ·rw[if_pos (beq_iff_eq.mpr c)];subst c;exact h1 _ _ _ _ _ (ih _ _)
   ·rw[if_neg λz=>c (eq_of_beq z)];exact h2 _ _ _ _ _ c (ih _ _)
theorem jU{x:Str}(names:List (Str×NameKind))(n:Nat)(acc:List (Str×Addr)):(x,NameKind.cell)∈names->((cellsFrom n names acc).lookup x).isSome=true:=
 (rQ (P:=λnames acc o=>((acc.lookup x).isSome=true->(o.lookup x).isSome=true)/\((x,NameKind.cell)∈names->(o.lookup x).isSome=true)) (λ_=>⟨λh=>h,λh=>(nomatch h)⟩)
  (λy r n acc o g=>⟨λh=>g.1 (K7 h),λh=>(List.mem_cons.mp h).elim (λe=>g.1 (by rw[(Prod.mk.inj e).1,List.lookup_cons,beq_self_eq_true];rfl)) g.2⟩)
  (λy k r acc o c g=>⟨g.1,λh=>(List.mem_cons.mp h).elim (λe=>(c (Prod.mk.inj e).2.symm).elim) g.2⟩) names n acc).2
theorem cellsFrom_names(names:List (Str×NameKind))(n:Nat)(acc:List (Str×Addr)):(names.map (·.1)).Nodup->(∀p∈acc,p.1∉names.map (·.1))->(acc.map (·.1)).Nodup->((cellsFrom n names acc).map (·.1)).Nodup:=
 rQ (P:=λnames acc o=>(names.map Prod.fst).Nodup->(∀p∈acc,p.1∉names.map Prod.fst)->(acc.map Prod.fst).Nodup->(o.map Prod.fst).Nodup) (λ_ _ _ h=>h)
  (λy r n acc o g h1 h2 h3=>g (List.nodup_cons.mp h1).2 (λp hp=>(List.mem_cons.mp hp).elim (λe=>e▸(List.nodup_cons.mp h1).1) λhp z=>h2 p hp (List.mem_cons_of_mem _ z))
   (List.nodup_cons.mpr ⟨λz=>aT (List.mem_map.mp z) λp hp e=>h2 p hp (by rw[e];exact List.mem_cons_self),h3⟩))
  (λy k r acc o _ g h1 h2=>g (List.nodup_cons.mp h1).2 λp hp z=>h2 p hp (List.mem_cons_of_mem _ z)) names n acc
theorem lookup_mem{p:Str×Addr}{l:List (Str×Addr)}:(l.map (·.1)).Nodup->p∈l->l.lookup p.1=some p.2:=by
 induction l with
 |nil=>exact λ_ h=>(nomatch h)
 |cons z zs ih=>
   intro hn h
   obtain⟨h1,h2⟩:=List.nodup_cons.mp hn
   rcases z with⟨y,a⟩
   rcases List.mem_cons.mp h with rfl|h
   ·rw[List.lookup_cons,beq_self_eq_true]
   ·rw[ER λe=>h1 (List.mem_map.mpr ⟨p,h,e⟩)]
    exact ih h2 h
theorem y8{h h':Heap}{c q}(kk:∀a o,h.get? a=some o->h'.get? a=some o)(hcd:h.CodeRec c q):h'.CodeRec c q:=by
 obtain⟨c,oc,vs,tq,hc,hoc,r⟩:=hcd
 exact⟨c,oc,vs,tq,hc,kk _ _ hoc,r⟩
theorem QW(B:Base w hO){a:Addr}{o:Obj}{fd:FuncData}{f:Fn}{as:List V}{vs:List Value}{bs:List Value}{ds:List V}{k:V->Hp->Prop}(S:Std w hO N μ H s)(hroom:A.depth<recursionLimit)
  (ho:hO.get? a=some o) (hd:o.data= .func fd) (hcd:hO.CodeRec fd.code fd.qualname) (hsc:fd.scope=f.sc) (hbody:fd.body= .stmts f.body) (hg:fd.globals=mainGlobals) (hb:fd.builtins=builtinsNs) (hclo:fd.closure=[])
  (hnd:f.params.Nodup) (hnn:(f.sc.names.map (·.1)).Nodup) (hbind:BindsTo s fd ⟨vs,[]⟩ (f.params.zip bs)) (hrho:AD f as=some (f.params.zip ds)) (rds:bJ w N μ s.heap ds bs)
  (hxs:∀env:Env,tW w hO (A.deeper env) cf f.body) (q:cD False And aN cf f as H k):
  bE (pm w) A (.call (.ref a) ⟨vs,[]⟩) (λfl s'=>match fl with| .ret v=>Got w hO N μ s k v s'|_=>False) s:=by
 obtain⟨hf,q⟩:=aA.mp q
 rw[hrho]at q
 have q:eO False And aN cf f.body ⟨f.sc,f.params.zip ds,[]⟩ H (λ_ H=>k .none H) k:=q
 obtain⟨hf,hpar⟩:=Bool.and_eq_true_iff.mp hf
 obtain⟨hok,hnf⟩:=Bool.and_eq_true_iff.mp hf
 refine qC (i9 hok) λk1 k2 k3=>?_
 have hho:s.heap.get? a=some o:=S.base _ _ ho
 refine G.callFn hroom hho hd (by rw[hsc];exact k3) (by rw[hsc];exact k2) hbody (y8 S.base hcd) (G.leaf (hbind _ _ _ _ ?_))
 rw[hclo,hsc,hg,hb]
 have hkinds:∀x∈f.params.zip bs,f.sc.names.lookup x.1=some .local\/(f.sc.names.lookup x.1=some .cell/\((cellsFrom (s.heap.objs.size+1) f.sc.names []).lookup x.1).isSome=true):=λx hx=>by
  have h1:=List.all_eq_true.mp hpar x.1 (List.of_mem_zip hx).1
  simp only[Bool.or_eq_true,beq_iff_eq]at h1
  rcases h1 with h1|h1
  ·exact .inl h1
  ·exact .inr ⟨h1,jU _ _ _ (mem_of_lookup h1)⟩
 refine G.leaf (wpAny_newFunctionEnv_cells k1 hkinds λenv henv sA I=>?_)
 have e1:env.scope=f.sc:=by rw[henv];rfl
 have eg:env.globals=mainGlobals:=by rw[henv];rfl
 have eb:env.builtins=builtinsNs:=by rw[henv];rfl
 have ec:env.cells=cellsFrom (s.heap.objs.size+1) f.sc.names []:=by rw[henv];rfl
 have ek:∀x,env.kindOf x=f.sc.names.lookup x:=λx=>by rw[henv];rfl
 clear henv
 refine NW I.toInCall.same λhsm tk hs1=>?_
 have keep:=I.toInCall.keep
 have fresh:=I.toInCall.fresh
 have nP:∀b,gI env b->s.heap.get? b=none:=λb hb=>by
  rcases hb with rfl|⟨p,hp,rfl⟩
  ·exact bY fresh
  ·have:=I.above p.1 p.2 hp
   exact bY (Nat.le_of_lt (Nat.lt_of_le_of_lt fresh this))
 have hlk:∀p∈env.cells,env.cells.lookup p.1=some p.2:=λp hp=>lookup_mem (by rw[ec];exact cellsFrom_names _ _ _ hnn (λp hp=>(nomatch hp)) List.nodup_nil) hp
 have aP:∀b,gI env b->sA.heap.get? b≠none:=λb hb=>by
  rcases hb with rfl|⟨p,hp,rfl⟩
  ·exact pW I.toInCall.ns
  ·have hc:env.cells.lookup p.1=some p.2:=hlk p hp
   exact pU (I.cell p.1 p.2 hc)
 have S1:Std w hO (withP N (gI env)) μ H sA:=by
  rw[hs1]at aP keep ⊢
  exact S.withP keep λb hb=>⟨nP b hb,aP b hb⟩
 have X1:Ext no μ s μ sA:=by
  rw[hs1]at keep ⊢
  exact Ext.grow keep
 have U:Up N μ s.heap (withP N (gI env)) μ sA.heap:=⟨λ_ _ e=>e,λ_ e=>.inl e,λa e=>e.imp id (nP a),λa o _ _ e=>keep a o e⟩
 have rds1:=cX U _ _ rds
 have nfree:∀x,f.sc.names.lookup x≠some .free:=λx hx=>by
  have:=List.all_eq_true.mp hnf _ (mem_of_lookup hx)
  simp at this
 have F1:cJ w (withP N (gI env)) μ sA.heap env ⟨f.sc,f.params.zip ds,[]⟩:=by
  refine⟨by rw[e1];exact k1,eg,eb,hok,λx ky hx=>?_,.inr (.inl rfl),⟨_,I.toInCall.ns,λx d hx hd=>?_⟩,λx hx=>?_,λx d hx hd=>(by injection hd),λp hp=>⟨.inr (.inr ⟨p,hp,rfl⟩),λz=>?_⟩,λx y b hx hb hy=>?_⟩
  ·have hkf:ky≠ .free:=λz=>nfree x (z▸hx)
   rw[ek,hx,if_neg hkf]
  ·exact HQ (by rw[ek];exact hx) f.params ds bs _ hnd rds1 hd
  ·have hcx:=jU (x:=x) f.sc.names (s.heap.objs.size+1) [] (mem_of_lookup hx)
   rw[<-ec]at hcx
   obtain⟨b,hb⟩:=Option.isSome_iff_exists.mp hcx
   refine⟨b,_,hb,I.cell x b hb,λd hd=>?_⟩
   exact GI (by rw[ek,hx];decide) f.params ds bs _ hnd rds1 hd
  ·have:=I.above p.1 p.2 hp
   rw[z]at this
   exact Nat.lt_irrefl _ this
  ·exact name_of_addr I.apart (mem_of_lookup hy) (mem_of_lookup hb)
 refine⟨?_,G.codeFunc (G.mono (hxs env env f.sc _ _ μ H sA _ _ S1 F1 q) λfl s' g=>?_)⟩
 ·refine NW B.top λmg mb T=>?_
  exact T.nolimit.keeps S1.base
 ·obtain⟨H',μ',S',X',g⟩:=g
  have Z:Ext no μ s μ' s':=Ext.drop (P:=gI env) (h':=s'.heap) (t:=s'.toks) ((X1.more λ_ z=>z.elim).trans (X'.more λa q=>.inr q)) nP λ_ _ _ e=>e
  have S'':=S'.less (N:=N) λ_=>.inl
  induction fl using PySem.Flow.casesOn with
  |next=>refine aT g λrho hk F'=>?_;clear g;exact⟨.none,H',μ',hk,S'',Z,.inl rfl⟩
  |ret v=>refine aT g λd hk r=>?_;clear g;exact⟨d,H',μ',hk,S'',Z,VR.less (λ_=>.inl) r⟩
  |brk=>exact g.elim
  |cont=>exact g.elim
end
end Mine
end
section
open PySem PySem.W PyProof.Rows PySem.SeqAt PySem.Builtin
open PySem.Sem (wp)
namespace Mine
theorem oM{α β:Type}{f g:α->Option β}{l:List α}:(∀x∈l,f x=g x)->l.filterMap f=l.filterMap g:=by
 induction l with
 |nil=>exact λ_=>rfl
 |cons a l ih=>exact λh=>by rw[List.filterMap_cons,List.filterMap_cons,h a List.mem_cons_self,ih λx hx=>h x (List.mem_cons_of_mem _ hx)]
noncomputable abbrev Sl:=List (Str×Value)
noncomputable def l8 (ps:Sl) (sl:Sl):Sl:=ps.foldl (λsl x=>if(sl.lookup x.1).isNone then sl++[(x.1,x.2)]else sl) sl
theorem mT:l8 ((x,d)::ps) sl=l8 ps (if(sl.lookup x).isNone then sl++[(x,d)]else sl):=rfl
theorem qE(ps:Sl):∀sl:Sl,(l8 ps sl).lookup y=(sl.lookup y).or (ps.lookup y):=by
 induction ps with
 |nil=>exact λsl=>(Option.or_none ..).symm
 |cons p ps ih=>
   intro sl
   obtain⟨x,d⟩:=p
   rw[mT,ih,List.lookup_cons]
   rcases h:sl.lookup x with _|v
   ·rw[if_pos (show(none:Option Value).isNone=true from rfl),List.lookup_append,Option.or_assoc,List.lookup_cons]
    rcases y==x
    ·rfl
    ·rfl
   ·rw[if_neg (show ¬(some v).isNone=true from λz=>mN z.symm)]
    rcases hx:y==x
    ·rfl
    ·rw[eq_of_beq hx,h];rfl
theorem vO(ps:Sl):∀sl:Sl,(forIn ps sl λ(x:Str×Value) (__s:Sl)=>if(List.lookup x.1 __s).isNone=true then(pure (ForInStep.yield (__s++[(x.1,x.2)])):Sem (ForInStep Sl))else pure (ForInStep.yield __s))=pure (l8 ps sl):=by
 induction ps with
 |nil=>intro sl;rw[List.forIn_nil];rfl
 |cons p ps ih=>
   intro sl
   obtain⟨x,d⟩:=p
   rw[List.forIn_cons,mT]
   by_cases h:(sl.lookup x).isNone=true
   ·rw[if_pos h,if_pos h,pure_bind]
    exact ih _
   ·rw[if_neg h,if_neg h,pure_bind]
    exact ih _
theorem cT{y a:Str}{L:List Str}{v:Value}{vs:List Value}(h:y≠a):((a::L).zip (v::vs)).lookup y=(L.zip vs).lookup y:=by
 rw[List.zip_cons_cons]
 exact ER h
theorem fP{a:Str}{L:List Str}{v:Value}{vs:List Value}:((a::L).zip (v::vs)).lookup a=some v:=by
 rw[List.zip_cons_cons,List.lookup_cons,beq_self_eq_true]
theorem RG{L:List Str}:∀(dv:List Value),L.Nodup->dv.length=L.length->L.filterMap (λy=>((L.zip dv).lookup y).map (y, ·))=L.zip dv:=by
 induction L with
 |nil=>exact λ_ _ _=>by rw[List.zip_nil_left];rfl
 |cons a L ih=>
   intro dv hn h
   rcases dv with _|⟨d,dv⟩
   ·exact nomatch h
   obtain⟨h1,h2⟩:=List.nodup_cons.mp hn
   rw[List.filterMap_cons,fP]
   show(a,d)::_=(a,d)::L.zip dv
   rw[<-ih dv h2 (Nat.succ.inj h)]
   exact congrArg _ (oM λy hy=>by rw[cT (show y≠a from λe=>h1 (e▸hy))])
theorem fill{L:List Str}:∀(vs dv:List Value),L.Nodup->vs.length<=L.length->dv.length<=L.length->L.length-vs.length<=dv.length->
  L.filterMap (λy=>(((L.zip vs).lookup y).or (((L.drop (L.length-dv.length)).zip dv).lookup y)).map (y, ·))=L.zip (vs++dv.drop (dv.length-(L.length-vs.length))):=by
 have base:∀(L:List Str) (dv:List Value),L.Nodup->dv.length<=L.length->L.length<=dv.length->L.filterMap (λy=>(((L.zip []).lookup y).or (((L.drop (L.length-dv.length)).zip dv).lookup y)).map (y, ·))=L.zip (dv.drop (dv.length-L.length)):=by
  intro L dv hn hd hm
  rw[Nat.sub_eq_zero_of_le hd,Nat.sub_eq_zero_of_le hm,List.drop_zero,List.drop_zero,List.zip_nil_right]
  exact RG dv hn (Nat.le_antisymm hd hm)
 induction L with
 |nil=>
   intro vs dv hn hv hd hm
   rcases vs with _|⟨v,vs⟩
   ·exact base [] dv hn hd hm
   ·exact nomatch hv
 |cons a L ih=>
   intro vs dv hn hv hd hm
   rcases vs with _|⟨v,vs⟩
   ·exact base _ dv hn hd hm
   obtain⟨h1,h2⟩:=List.nodup_cons.mp hn
   have ne:∀y∈L,y≠a:=λy hy e=>h1 (e▸hy)
   have hv':=Nat.le_of_succ_le_succ hv
   rw[List.filterMap_cons,fP]
   show(a,v)::_=(a,v)::L.zip (vs++dv.drop (dv.length-((a::L).length-(v::vs).length)))
   have e2:(a::L).length-(v::vs).length=L.length-vs.length:=Nat.add_sub_add_right _ 1 _
   rw[e2]at hm ⊢
   refine congrArg _ ?_
   by_cases hlt:dv.length<=L.length
   ·rw[<-ih vs dv h2 hv' hlt hm]
    have e3:(a::L).length-dv.length=(L.length-dv.length)+1:=Nat.succ_sub hlt
    exact oM λy hy=>by rw[cT (ne y hy),e3,List.drop_succ_cons]
   ·rcases dv with _|⟨d,dv⟩
    ·exact absurd (Nat.zero_le _) hlt
    have hl:dv.length=L.length:=Nat.le_antisymm (Nat.le_of_succ_le_succ hd) (Nat.le_of_lt_succ (Nat.not_le.mp hlt))
    have hm':L.length-vs.length<=dv.length:=hl▸Nat.sub_le _ _
    have e4:(d::dv).length-(L.length-vs.length)=(dv.length-(L.length-vs.length))+1:=Nat.succ_sub hm'
    rw[e4,List.drop_succ_cons, <-ih vs dv h2 hv' (Nat.le_of_eq hl) hm']
    have e3:(a::L).length-(d::dv).length=0:=Nat.sub_eq_zero_of_le (Nat.succ_le_succ (Nat.le_of_eq hl.symm))
    have e5:L.length-dv.length=0:=Nat.sub_eq_zero_of_le (Nat.le_of_eq hl.symm)
    exact oM λy hy=>by rw[cT (ne y hy),e3,e5,List.drop_zero,List.drop_zero,cT (ne y hy)]
theorem xF{y:Str}{L:List Str}:∀(vs:List Value) (k:Nat),k<=vs.length->y∈L.take k->((L.zip vs).lookup y).isSome=true:=by
 induction L with
 |nil=>exact λ_ _ _ h=>by rw[List.take_nil]at h;exact nomatch h
 |cons a L ih=>
   intro vs k hk h
   rcases k with _|k
   ·exact nomatch h
   rcases vs with _|⟨v,vs⟩
   ·exact nomatch hk
   by_cases hya:y=a
   ·subst hya
    rw[fP];rfl
   ·rw[cT hya]
    exact(List.mem_cons.mp h).elim (absurd · hya) (ih vs k (Nat.le_of_succ_le_succ hk))
theorem BK{s:Shared}{fd:FuncData}{args:List Arg}{dfl:List Expr}{vs dv:List Value}{r:Option (Array Value)}(hp:fd.params=⟨[],args,none,[],[],none,dfl⟩)
  (hd:∀(M:Model) (A:Around) (E:Value->Shared->Prop) (Q:Option (Array Value)->Shared->Prop),Q r s->wpAny M A (seqItems? fd.defaults) Q E s) (hr:(r.getD #[]).toList=dv)
  (hl:vs.length<=args.length) (hm:args.length-vs.length<=dv.length) (hdn:dv.length<=args.length) (hn:(args.map (·.arg)).Nodup):
  BindsTo s fd ⟨vs,[]⟩ ((args.map (·.arg)).zip (vs++dv.drop (dv.length-(args.length-vs.length)))):=by
 intro M A E Q hQ
 obtain⟨L,hL⟩:∃L,args.map (λx=>x.arg)=L:=⟨_,rfl⟩
 have hlen:args.length=L.length:=by rw[<-hL,List.length_map]
 rw[hlen]at hl hm hdn hQ
 rw[hL]at hn hQ
 have e0:dv.length-L.length=0:=by omega
 have hmiss:List.filter (λn=>(List.lookup n (L.zip vs)).isNone) (L.take (L.length-dv.length))=[]:=by
  rw[List.filter_eq_nil_iff]
  intro y hy z
  have:=xF vs (L.length-dv.length) (by omega) hy
  rw[Option.isNone_iff_eq_none]at z
  rw[z]at this
  injection this
 have hf:=fill vs dv hn hl hdn hm
 rcases fd
 cases hp
 refine wpAny_bind (wpAny_pure (a:=((args.map (·.arg)).zip vs,[])) ?_)
 refine wpAny_bind (hd _ _ _ _ ?_)
 refine wpAny_ite_false ?_ ?_
 ·show decide ((decide (vs.length > (args.map (·.arg)).length)&&true)=true)=false
  rw[hL];simp;omega
 refine wpAny_ite_false ?_ ?_
 ·show decide ((!(((args.map (·.arg)).take ((args.map (·.arg)).length-((r.getD #[]).toList.drop ((r.getD #[]).toList.length-(args.map (·.arg)).length)).length)).filter λn=>(((args.map (·.arg)).zip vs).lookup n).isNone).isEmpty)=true)=false
  rw[hr,hL,e0,List.drop_zero,hmiss];rfl
 refine wpAny_bind ?_
 show wpAny M A (forIn (((args.map (·.arg)).drop ((args.map (·.arg)).length-((r.getD #[]).toList.drop ((r.getD #[]).toList.length-(args.map (·.arg)).length)).length)).zip ((r.getD #[]).toList.drop ((r.getD #[]).toList.length-(args.map (·.arg)).length))) ((args.map (·.arg)).zip vs) λ(x:Str×Value) (__s:Sl)=>if(List.lookup x.1 __s).isNone=true then(pure (ForInStep.yield (__s++[(x.1,x.2)])):Sem (ForInStep Sl))else pure (ForInStep.yield __s)) _ E s
 rw[hL,hr,e0,List.drop_zero,vO]
 refine wpAny_pure ?_
 refine wpAny_bind (wpAny_pure (a:=(l8 ((L.drop (L.length-dv.length)).zip dv) (L.zip vs),[])) ?_)
 refine wpAny_ite_false (by rfl) ?_
 refine wpAny_pure ?_
 show Q (List.filterMap (λn=>Option.map (λx=>(n,x)) (List.lookup n (l8 ((L.drop (L.length-dv.length)).zip dv) (L.zip vs)))) (L++[])) s
 rw[List.append_nil]
 simp only[qE]
 rw[hf]
 exact hQ
end Mine
end
section
open PySem PySem.W PyProof.Rows PySem.SeqAt PySem.Builtin
open PySem.Sem (wp)
namespace Mine
noncomputable def fO (x:Str):List Stmt->Option Nat
 | []=>none
 |st::r=>match st with
   | .FunctionDef n .. =>match n==x with
     |true=>some 0
     |false=>(fO x r).map (· +1)
   |_=>(fO x r).map (· +1)
noncomputable def fnMade (a:Arguments) (b:List Stmt) (sc:Scope):Option Fn:=match jN a with
 |true=>(cG tJ a.defaults).map λds=>⟨a.args.map (·.arg),ds,b,sc⟩
 |false=>none
theorem UC{P:Stmt->Prop}(h0:∀n a b d rt tp sc ts bd p,P (.FunctionDef n a b d rt tp sc ts bd p))(h1:∀st,(st.ctorIdx==0)=false->P st)(st:Stmt):P st:=by
 rcases h:st.ctorIdx==0
 ·exact h1 st h
 ·exact Stmt.FunctionDef.elim st (eq_of_beq h) h0
theorem oG{x:Str}{r:List Stmt}{st:Stmt}(h:(st.ctorIdx==0)=false):fnOf x (st::r)=fnOf x r:=
 cond_f (a:=fnOf x (st::r)) (by clear h;rcases st<;>exact Eq.refl _) h
theorem q9{x:Str}{r:List Stmt}{st:Stmt}(h:(st.ctorIdx==0)=false):fO x (st::r)=(fO x r).map (· +1):=
 cond_f (a:=fO x (st::r)) (by clear h;rcases st<;>exact Eq.refl _) h
theorem xZ{x:Str}{l:List Stmt}:fO x l=none->fnOf x l=none:=by
 induction l with
 |nil=>exact λ_=>rfl
 |cons st r ih=>
   refine UC (P:=λst=>fO x (st::r)=none->fnOf x (st::r)=none) (λn a b d rt tp sc ts bd p=>?_) (λst q h=>?_) st
   ·show(match n==x with|true=>some 0|false=>(fO x r).map (· +1))=none->(match n==x with|true=>fnMade a b sc|false=>fnOf x r)=none
    rcases n==x
    ·exact λh=>ih (Option.map_eq_none_iff.mp h)
    ·exact NL
   ·exact(oG q).trans (ih (Option.map_eq_none_iff.mp ((q9 q).symm.trans h)))
inductive FnAt (x:Str) (l:List Stmt) (o:Option Stmt):Prop
 |mk (n:Str) (a:Arguments) (b:List Stmt) (d:_) (rt:_) (tp:_) (sc:Scope) (ts:_) (bd:_) (p:_) (h1:o=some (.FunctionDef n a b d rt tp sc ts bd p)) (h2:n=x) (h3:fnOf x l=fnMade a b sc):FnAt x l o
theorem FnAt.next(e:fnOf x l'=fnOf x l)(e':o'=o)(h:FnAt x l o):FnAt x l' o':=by
 rcases h with⟨n,a,b,d,rt,tp,sc,ts,bd,p,h1,h2,h3⟩
 exact⟨n,a,b,d,rt,tp,sc,ts,bd,p,e'.trans h1,h2,e.trans h3⟩
theorem zL{x:Str}{l:List Stmt}:∀{i:Nat},fO x l=some i->FnAt x l l[i]? :=by
 induction l with
 |nil=>exact iK
 |cons st r ih=>
   intro i
   have other:∀st,(fO x r).map (· +1)=some i->fnOf x (st::r)=fnOf x r->FnAt x (st::r) (st::r)[i]? :=λst h e=>by
    refine aT (Option.map_eq_some_iff.mp h) λj hj e91=>?_
    subst e91
    exact(ih hj).next e rfl
   refine UC (P:=λst=>fO x (st::r)=some i->FnAt x (st::r) (st::r)[i]?) (λn a b d rt tp sc ts bd p h=>?_) (λst q h=>other st ((q9 q).symm.trans h) (oG q)) st
   have h:(match n==x with|true=>some 0|false=>(fO x r).map (· +1))=some i:=h
   have e:fnOf x (.FunctionDef n a b d rt tp sc ts bd p::r)=(match n==x with|true=>fnMade a b sc|false=>fnOf x r):=rfl
   rcases q:n==x
   ·rw[q]at h e
    exact other _ h e
   ·rw[q]at h e
    obtain rfl:=Option.some.inj h
    exact⟨n,a,b,d,rt,tp,sc,ts,bd,p,rfl,eq_of_beq q,e⟩
noncomputable def l9:List Str->Bool
 | []=>true
 |x::r=> !r.contains x&&l9 r
theorem kF:l9 l=true->l.Nodup:=by
 induction l with
 |nil=>exact λ_=>List.nodup_nil
 |cons x r ih=>exact λh=>List.nodup_cons.mpr ⟨λz=>mN ((List.contains_iff_mem.mpr z).symm.trans ((Bool.not_eq_true' _).mp (cS h).1)),ih (cS h).2⟩
noncomputable def DB:List (Nat×List Value):=[(190,[.int 2048 437,.bytes #[] 438]),(301,[.int 64 619,.int 0 620,.int 128 621]),(594,[.int 0 1090,.str "input" 1091])]
noncomputable def atom:V->Value->Bool
 | .int i,.int j _=>decide (i=j)
 | .str x,.str y _=>x==y
 | .bytes l,.bytes b _=>decide (bC b=l)
 |_,_=>false
noncomputable def atoms:List V->List Value->Bool
 | [],[]=>true
 |d::ds,v::vs=>atom d v&&atoms ds vs
 |_,_=>false
noncomputable def dfltOk:Value->Option (List V)->Bool
 | .none,some []=>true
 | .ref D,some ds=>match DB.lookup D with
   |some vs=>atoms ds vs
   |none=>false
 |_,_=>false
noncomputable def zX (dflt:Value):Stmt->Bool
 | .FunctionDef n a b _ _ _ sc _ _ _=>l9 (a.args.map (·.arg))&&l9 (sc.names.map (·.1))&&decide (a.defaults.length<=a.args.length)&&dfltOk dflt (cG tJ a.defaults)
 |_=>false
theorem MG:(tab.all λe=>fO e.name top==some e.idx&&(match top[e.idx]? with|some st=>zX e.dflt st|none=>false))=true:=by kernel_rfl
end Mine
end
section
open PySem PySem.W PyProof.Rows PySem.SeqAt PySem.Builtin
open PySem.Sem (wp)
namespace Mine
structure nB (n:Nat) (A:Around):Prop where
 hd:A.handled=none
 un:A.units+40+10*n<cLine
 dp:A.depth+5*n+10<recursionLimit
noncomputable def QP (w:World) (hO:Heap) (n:Nat):Prop:=∀A,nB n A->lA w hO A (run False And aN top n)
theorem JN(P:Params):∀p∈DB,(frag P).lookup p.1=some (oC p.2):=by
 intro p hp
 simp only[DB,List.mem_cons,List.not_mem_nil,or_false]at hp
 rcases hp with rfl|rfl|rfl<;>rfl
theorem pR{α:Type}{n:Nat}{c:α}{l:List (Nat×α)}(h:l.lookup n=some c):(n,c)∈l:=by
 induction l with
 |nil=>exact iK h
 |cons p r ih=>
   have h:(match n==p.1 with|true=>some p.2|false=>r.lookup n)=some c:=h
   rcases hb:n==p.1<;>rw[hb]at h
   ·exact List.mem_cons_of_mem _ (ih h)
   ·rw[eq_of_beq hb, <-Option.some.inj h];exact List.mem_cons_self
theorem M3(e:atom d v=true):PR μ d v:=by
 rcases Bool.or_eq_true_iff.mp (iL (c:=d.ctorIdx==2||(d.ctorIdx==3||d.ctorIdx==4)) (by clear e;rcases d<;>first|exact Eq.refl false|exact Eq.refl _) e)with h|h
 ·obtain⟨i,rfl⟩:=bK h
  have q:(v.ctorIdx==4)=true:=iL (by clear e h;rcases v<;>first|exact Eq.refl false|exact Eq.refl _) e
  obtain⟨j,t,rfl⟩:∃j t,v= .int j t:=Value.int.elim v (eq_of_beq q) λj t=>⟨j,t,rfl⟩
  exact⟨t,by rw[of_decide_eq_true e]⟩
 rcases Bool.or_eq_true_iff.mp h with h|h
 ·obtain⟨i,rfl⟩:=iT h
  have q:(v.ctorIdx==6)=true:=iL (by clear e h;rcases v<;>first|exact Eq.refl false|exact Eq.refl _) e
  obtain⟨j,t,rfl⟩:∃j t,v= .str j t:=Value.str.elim v (eq_of_beq q) λj t=>⟨j,t,rfl⟩
  exact⟨t,by rw[eq_of_beq e]⟩
 ·obtain⟨i,rfl⟩:=bM h
  have q:(v.ctorIdx==7)=true:=iL (by clear e h;rcases v<;>first|exact Eq.refl false|exact Eq.refl _) e
  obtain⟨j,t,rfl⟩:∃j t,v= .bytes j t:=Value.bytes.elim v (eq_of_beq q) λj t=>⟨j,t,rfl⟩
  exact⟨_,_,rfl,of_decide_eq_true e⟩
theorem IK{dflt:Value}{ds:List V}(e:dfltOk dflt (some ds)=true):(dflt= .none/\ds=[])\/∃D vs,dflt= .ref D/\DB.lookup D=some vs/\atoms ds vs=true:=by
 rcases Bool.or_eq_true_iff.mp (iL (c:=dflt.ctorIdx==0||dflt.ctorIdx==10) (by clear e;rcases dflt<;>first|exact Eq.refl false|exact Eq.refl _) e)with h|h
 ·obtain rfl:dflt= .none:=Value.none.elim dflt (eq_of_beq h) rfl
  rcases ds with _|⟨d,ds⟩
  ·exact .inl ⟨rfl,rfl⟩
  ·exact nE e
 ·obtain⟨D,rfl⟩:∃D,dflt= .ref D:=Value.ref.elim dflt (eq_of_beq h) λD=>⟨D,rfl⟩
  have e:(match DB.lookup D with|some vs=>atoms ds vs|none=>false)=true:=e
  rcases hv:DB.lookup D with _|vs<;>rw[hv]at e
  ·exact nE e
  ·exact .inr ⟨D,vs,rfl,hv,e⟩
theorem xT{h:Heap}{c:Nat}{n:Str}(e:codeOk h c n=true):∃cls dict xs sl,∃t:Tok,h.get? c=some ⟨cls,dict,.fields xs,sl⟩/\xs.toList[1]? =some (.str n t):=by
 delta codeOk at e
 rcases hg:h.get? c with _|⟨cls,dict,data,sl⟩<;>rw[hg]at e
 ·exact nE e
 ·have q:(data.ctorIdx==9)=true:=iL (by clear e hg;rcases data<;>first|exact Eq.refl false|exact Eq.refl _) e
  obtain⟨xs,rfl⟩:∃xs,data= .fields xs:=Data.fields.elim data (eq_of_beq q) λxs=>⟨xs,rfl⟩
  have e:(match xs.toList with|_:: .str m _::_=>m==n|_=>false)=true:=e
  rcases hx:xs.toList with _|⟨x0,_|⟨y,rest⟩⟩<;>rw[hx]at e
  ·exact nE e
  ·exact nE e
  ·have q:(y.ctorIdx==6)=true:=iL (by clear e hx;rcases y<;>first|exact Eq.refl false|exact Eq.refl _) e
   obtain⟨m,t,rfl⟩:∃m t,y= .str m t:=Value.str.elim y (eq_of_beq q) λj t=>⟨j,t,rfl⟩
   exact⟨cls,dict,xs,sl,t,rfl,by rw[hx, <-eq_of_beq e];rfl⟩
theorem xB{f:Fn}{as:List V}{rho:aR}(h:AD f as=some rho):as.length<=f.params.length/\f.params.length-as.length<=f.dflts.length/\rho=f.params.zip (as++f.dflts.drop (f.dflts.length-(f.params.length-as.length))):=by
 delta AD at h
 dsimp only at h
 rcases hc:decide (as.length<=f.params.length)&&decide (f.params.length-as.length<=f.dflts.length)<;>rw[hc]at h
 ·exact iK h
 ·exact⟨of_decide_eq_true (cS hc).1,of_decide_eq_true (cS hc).2,(Option.some.inj h).symm⟩
theorem x7{ar:Arguments}(h:jN ar=true):ar=⟨[],ar.args,none,[],[],none,ar.defaults⟩:=by
 obtain⟨po,ag,va,ko,kd,kw,df⟩:=ar
 obtain⟨h,h5⟩:=cS h
 obtain⟨h,h4⟩:=cS h
 obtain⟨h,h3⟩:=cS h
 obtain⟨h1,h2⟩:=cS h
 obtain rfl:=List.isEmpty_iff.mp h1
 obtain rfl:=Option.isNone_iff_eq_none.mp h2
 obtain rfl:=List.isEmpty_iff.mp h3
 obtain rfl:=List.isEmpty_iff.mp h4
 obtain rfl:=Option.isNone_iff_eq_none.mp h5
 rfl
theorem EH{α β:Type}{f:α->Option β}{l:List α}{l':List β}(e:cG f l=some l'):l'.length=l.length:=(uU e).1
section
variable {w:World}{A:Around}{E:Value->Shared->Prop}{hO:Heap}{N:Addr->Prop}{μ:List P2}{H:Hp}{s:Shared}{env:Env}{c:Cx}{cf:Cf}{sc:Scope}{rho:aR}
theorem H9{h:Heap}{ds:List V}:∀{vs:List Value},atoms ds vs=true->bJ w N μ h ds vs:=by
 induction ds with
 |nil=>
   intro vs e
   rcases vs with _|⟨v,vs⟩
   ·exact a8.mpr rfl
   ·exact nE e
 |cons d ds ih=>
   intro vs e
   rcases vs with _|⟨v,vs⟩
   ·exact nE e
   ·exact .cons (.inl (M3 (cS e).1)) (ih (cS e).2)
theorem BL{ds:List V}:∀{vs:List Value},atoms ds vs=true->ds.length=vs.length:=by
 induction ds with
 |nil=>
   intro vs e
   rcases vs with _|⟨v,vs⟩
   ·rfl
   ·exact nE e
 |cons d ds ih=>
   intro vs e
   rcases vs with _|⟨v,vs⟩
   ·exact nE e
   ·exact congrArg (· +1) (ih (cS e).2)
theorem L5{dflt:Value}{ds:List V}(O:LJ w hO)(base:∀a o,hO.get? a=some o->s.heap.get? a=some o)(e:dfltOk dflt (some ds)=true):∃(r:Option (Array Value)) (dv:List Value),(r.getD #[]).toList=dv/\atoms ds dv=true/\
  ∀(M:Model) (A:Around) (E:Value->Shared->Prop) (Q:Option (Array Value)->Shared->Prop),Q r s->wpAny M A (seqItems? dflt) Q E s:=by
 rcases IK e with⟨rfl,rfl⟩|⟨D,vs,rfl,hv,e⟩
 ·exact⟨none,[],rfl,rfl,λM A E Q hQ=>wpAny_pure hQ⟩
 ·have h2:hO.get? D=some (oC vs):=O.frag _ _ (JN w.params _ (pR hv))
  exact⟨some vs.toArray,vs,rfl,e,λM A E Q hQ=>wpAny_seqItems (base _ _ h2) rfl hQ⟩
theorem Got.drop{k:V->Hp->Prop}{v:Value}{s':Shared}(hl:μ.length=H.length)(g:Got w hO N μ s (λd H'=>g8 False H.length d H' k) v s'):Got w hO N μ s k v s':=by
 obtain⟨d,H',μ',hk,S',X',r⟩:=g
 refine aT (bA.mp hk) λd' h1 hk=>?_
 refine aT (bA.mp hk) λH'' h2 hk=>?_
 exact⟨d',H'',μ'.take H.length,hk,S'.freeze h2,X'.freeze (by lia),VR.freeze S'.hr h1 r⟩
theorem xJ(B:Base w hO){n:Nat}(IH:QP w hO n)(hroom:A.depth<recursionLimit)(R:∀env,nB n (A.deeper env)){a:Addr}{o:Obj}{qn:Option Str}{code:Nat}{pm' dflt:Value}{st:Stmt}{nm:Str}{ar:Arguments}{b:List Stmt}{dl rt tp}{sc:Scope}{ts bd p}{f:Fn}{as:List V}{vs:List Value}{k:V->Hp->Prop}
  (hst:st= .FunctionDef nm ar b dl rt tp sc ts bd p) (hdef:zX dflt st=true) (hobj:k8 qn code pm' dflt st=some o) (ho:hO.get? a=some o) (hcd:codeOk hO code (qn.getD nm)=true) (hf:fnMade ar b sc=some f)
  (S:Std w hO N μ H s) (ras:bJ w N μ s.heap as vs) (q:cD False And aN (run False And aN top n) f as H k):
  bE (pm w) A (.call (.ref a) ⟨vs,[]⟩) (λfl s'=>match fl with| .ret v=>Got w hO N μ s k v s'|_=>False) s:=by
 subst hst
 delta fnMade at hf
 rcases hpl:jN ar<;>rw[hpl]at hf
 ·exact iK hf
 refine aT (Option.map_eq_some_iff.mp hf) λds hds e91=>?_
 subst e91
 obtain⟨hdef,n4⟩:=cS (show(l9 (ar.args.map (·.arg))&&l9 (sc.names.map (·.1))&&decide (ar.defaults.length<=ar.args.length)&&dfltOk dflt (cG tJ ar.defaults))=true from hdef)
 obtain⟨hdef,n3⟩:=cS hdef
 obtain⟨n1,n2⟩:=cS hdef
 have n3:=of_decide_eq_true n3
 rw[hds]at n4
 refine aE (L5 B.own S.base n4) λr dv hr hat hload=>?_
 have hldv:=BL hat
 have hlds:ds.length=ar.defaults.length:=EH hds
 refine aT (bA.mp (aA.mp q).2) λrho hrho _=>qC (xB hrho) λb1 b2 e9=>?_
 subst e9
 have hlen:=aV ras
 obtain rfl:=Option.some.inj hobj
 rw[List.length_map]at b1 b2
 refine QW B (f:=⟨ar.args.map (·.arg),ds,b,sc⟩) (bs:=vs++dv.drop (dv.length-(ar.args.length-vs.length))) (ds:=as++ds.drop (ds.length-((ar.args.map (·.arg)).length-as.length))) S hroom ho rfl ?_ rfl rfl rfl rfl rfl (kF n1) (kF n2) ?_ hrho ?_ (λenv=>?_) q
 ·refine xX (xT hcd) λcls dict xs z=>?_
  obtain⟨sl,t,hx,hl⟩:=z
  exact⟨code,_,xs,t,rfl,hx,rfl,by rw[<-Array.getElem?_toList,hl]⟩
 ·exact BK (dfl:=ar.defaults) (x7 hpl) hload hr (by lia) (by lia) (by lia) (kF n1)
 ·refine hV ras ?_
  rw[List.length_map,hldv,hlen]
  exact vY _ (H9 hat)
 ·exact B0 (A:=A.deeper env) B ⟨(R env).hd,by have:=(R env).un;lia⟩ (IH (A.deeper env) (R env)) b
end
end Mine
end
section
open PySem PySem.W PyProof.Rows PySem.SeqAt PySem.Builtin
open PySem.Sem (wp)
namespace Mine
theorem G.make{prog:Program}{w:World}{A:Around}{h:Heap}{g:Array GenState}{d:Drawn}{t:Nat}{os:OsState}{C:Addr}{rest:List Value}{init:Value}{Q:Value->Shared->Prop}(Y:Makes (model prog w) h C)(hi:Looks (model prog w) h (typeLookup (.ref C) "__init__") (some init))
  (hb:∀self,Looks (model prog w) h (bindSpecial init self) (init,[self])) (hne:(some init != some (Value.builtin "object.__init__"))=true)
  (hq:bE (model prog w) (A.under (.builtin "type.__call__" ⟨.ref C::rest,[]⟩)) (.call init ⟨.ref (h.objs.size+1)::rest,[]⟩) (pJ λr sB=>r= .none/\Q (.ref (h.objs.size+1)) sB)
   ⟨(h.push emptyDict).push (instObj C h.objs.size),g,d,t,os⟩):bE (model prog w) A (.call (.ref C) ⟨rest,[]⟩) (pJ Q) ⟨h,g,d,t,os⟩:=by
 have Y':=Y
 obtain⟨⟨oc,od,cd,sl,hC,e1,e2,e4⟩,made,base,self,top,call,typ⟩:=Y
 refine G.codeTree rfl ?_
 show aD _ _ (callAny (.ref C) _) _ _
 refine G.bind (G.leaf (wpAny_load hC ?_))
 show aD _ _ (callAny.viaDunder (.ref C) _) _ _
 refine G.bindL (call.at ?_)
 dsimp only
 rw[tc_bind]
 refine G.bind (G.pure (G.bind (G.pure ?_)))
 refine G.pure (a:=Fin.again (.call (.builtin "type.__call__") ⟨.ref C::rest,[]⟩)) ⟨rfl,?_⟩
 refine G.codeTree rfl ?_
 show aD _ _ (checkBuiltinCall "type.__call__" ⟨.ref C::rest,[]⟩ >>= λ_=>again (.builtin "type.__call__" ⟨.ref C::rest,[]⟩)) _ _
 refine G.bindL (check_slot tc_kind tc_split typ (tc_args _ _ _) ?_)
 refine G.pure ⟨Code.quiet_builtin _ (by decide+kernel),G.codeBuiltin (zY (by decide+kernel)) entry_typeCall ?_⟩
 have hm:Looks (model prog w) h (mroOf (.ref C)) cd.mro:=((Looks.ld (part:=none) hC).andThen .now).andThen .now
 show aD _ _ (mroOf (.ref C) >>= _) _ _
 refine G.bindL (hm.at ?_)
 refine G.if_false e4 ?_
 refine G.bindL (made.at ?_)
 refine G.bind (G.pure ?_)
 refine G.bind (G.holding (G.call (G.codeLeaf (new_K Y' hi (.inl hne) ?_))))
 have k:∀b o,h.get? b=some o->((h.push emptyDict).push (instObj C h.objs.size)).get? b=some o:=λb o e=>Heap.get?_push_of_some _ (Heap.get?_push_of_some _ e)
 have hx:((h.push emptyDict).push (instObj C h.objs.size)).get? (h.objs.size+1)=some (instObj C h.objs.size):=by
  have:=Heap.get?_push_size (h.push emptyDict) (o:=instObj C h.objs.size) rfl
  rwa [Heap.size_push]at this
 have t1:Looks (model prog w) ((h.push emptyDict).push (instObj C h.objs.size)) (typeOf (.ref (h.objs.size+1))) (.ref C):=(Looks.ld hx).andThen .now
 have s1:=self.keeps k
 have i1:=hi.keeps k
 have b1:=(hb (.ref (h.objs.size+1))).keeps k
 show aD _ _ (isInstance (.ref (h.objs.size+1)) (.ref C) >>= _) _ _
 refine G.bindL (Looks.at (t1.andThen s1) ?_)
 refine G.if_false rfl ?_
 refine G.bind (G.holding ?_)
 refine G.bindL (Looks.at (t1.andThen i1) ?_)
 refine G.holding (G.bindL (b1.at (G.bind (G.call ?_))))
 refine G.codeMono hq λf sB hf=>?_
 rcases f with(_|_|_|r)<;>try exact hf.elim
 obtain⟨rfl,hq⟩:=hf
 refine G.pure ?_
 refine G.if_false rfl ?_
 exact G.pure hq
end Mine
end
section
open PySem PySem.W PyProof.Rows PySem.SeqAt PySem.Builtin
open PySem.Sem (wp)
namespace Mine
theorem CL{x:Str}{r:List Stmt}{st:Stmt}(h:(st.ctorIdx==0)=false):f6 x (st::r)=f6 x r:=
 cond_f (a:=f6 x (st::r)) (by clear h;rcases st<;>exact Eq.refl _) h
theorem zR:∀{st:Stmt},f6 x l=some st->FnAt x l (some st):=by
 induction l with
 |nil=>exact iK
 |cons st' r ih=>
   intro st
   refine UC (P:=λst'=>f6 x (st'::r)=some st->FnAt x (st'::r) (some st)) (λn a b d rt tp sc ts bd p h=>?_) (λst' q h=>(ih ((CL q).symm.trans h)).next (oG q) rfl) st'
   have h:(if n==x then some (Stmt.FunctionDef n a b d rt tp sc ts bd p)else f6 x r)=some st:=h
   have e:fnOf x (.FunctionDef n a b d rt tp sc ts bd p::r)=(match n==x with|true=>fnMade a b sc|false=>fnOf x r):=rfl
   rcases q:n==x
   ·rw[q]at h e
    exact(ih h).next e rfl
   ·rw[q]at h e
    exact⟨n,a,b,d,rt,tp,sc,ts,bd,p,h.symm,eq_of_beq q,e⟩
noncomputable def clsAt (i:Nat):Option (List Stmt):=match top[i]? with
 |some (.ClassDef _ _ _ b _ _ _ _ _ _ _)=>some b
 |_=>none
noncomputable def gZ (x:Str):List Stmt->Option Nat
 | []=>none
 |st::r=>match st with
   | .ClassDef n .. =>match n==x with
     |true=>some 0
     |false=>(gZ x r).map (· +1)
   |_=>(gZ x r).map (· +1)
theorem B6{x:Str}{r:List Stmt}{st:Stmt}(h:(st.ctorIdx==2)=false):fC x (st::r)=fC x r:=
 cond_f (a:=fC x (st::r)) (by clear h;rcases st<;>exact Eq.refl _) h
theorem zM{x:Str}{r:List Stmt}{st:Stmt}(h:(st.ctorIdx==2)=false):gZ x (st::r)=(gZ x r).map (· +1):=
 cond_f (a:=gZ x (st::r)) (by clear h;rcases st<;>exact Eq.refl _) h
theorem wC:∀{i:Nat},gZ x l=some i->∃b,(match l[i]? with|some (.ClassDef _ _ _ b _ _ _ _ _ _ _)=>some b|_=>none)=some b/\fC x l=some b:=by
 induction l with
 |nil=>exact iK
 |cons st r ih=>
   intro i h
   have other:(gZ x r).map (· +1)=some i->fC x (st::r)=fC x r->∃b,(match(st::r)[i]? with|some (.ClassDef _ _ _ b _ _ _ _ _ _ _)=>some b|_=>none)=some b/\fC x (st::r)=some b:=by
    intro h e
    refine aT (Option.map_eq_some_iff.mp h) λj hj e91=>?_
    subst e91
    exact aT (ih hj) λb h1 h2=>⟨b,h1,e.trans h2⟩
   rcases q:st.ctorIdx==2
   ·exact other ((zM q).symm.trans h) (B6 q)
   ·clear ih
    revert h other
    refine Stmt.ClassDef.elim st (eq_of_beq q) λn bs kw b dl tp sc ts bd sa p h other=>?_
    have h:(match n==x with|true=>some 0|false=>(gZ x r).map (· +1))=some i:=h
    have e:fC x (.ClassDef n bs kw b dl tp sc ts bd sa p::r)=match n==x with|true=>some b|false=>fC x r:=rfl
    rcases q:n==x
    ·rw[q]at h e
     exact other h e
    ·rw[q]at h e
     obtain rfl:=Option.some.inj h
     exact⟨b,rfl,e⟩
theorem JH:(gV.all λc=>fO c.name top==none&&gZ c.name top==some c.idx&&(match clsAt c.idx with|some b=>(match f6 "__init__" b with|some st=>zX c.dflt st&&c.iqual != ""|none=>false)|none=>false))=true:=by kernel_rfl
theorem FL(P:Params):(gV.all λc=>makesIn (frag P) c.addr)=true:=by kernel_rfl
theorem HM(P:Params):(gV.all λc=>match findIn (frag P) (.ref c.addr) "__init__"with|some (some (.ref a))=>a==c.init|_=>false)=true:=by kernel_rfl
theorem QL:(dE.all λx=>(tab.find? (·.name==x)).isSome||(gV.find? (·.name==x)).isSome)=true:=by kernel_rfl
theorem MV(C:Addr)(rest:List Value):(Code.builtin "type.__call__" ⟨.ref C::rest,[]⟩).weight=1:=by kernel_rfl
theorem K6(C:Addr)(rest:List Value):(Code.builtin "type.__call__" ⟨.ref C::rest,[]⟩).cUnits=1:=by kernel_rfl
end Mine
end
section
open PySem PySem.W PyProof.Rows PySem.SeqAt PySem.Builtin
open PySem.Sem (wp)
namespace Mine
theorem EY:(tab.all λe=>(fnOf e.name top).isSome)=true:=by kernel_rfl
section
variable {w:World}{A:Around}{hO:Heap}{N:Addr->Prop}{μ:List P2}{H:Hp}{s:Shared}
theorem nB.deep{n:Nat}(R:nB (n+1) A)(env:Env):nB n (A.deeper env):=by
 refine⟨R.hd,?_,?_⟩
 ·have:=R.un;show A.units+3+40+10*n<cLine;lia
 ·have:=R.dp;show A.depth+1+5*n+10<recursionLimit;lia
theorem PF{n:Nat}(hf:fnOf x top=some f)(q:run False And aN top (n+1) x as H k):match aN.drop x with
   |true=>cD False And aN (run False And aN top n) f as H (A3 False H.length k)
   |false=>cD False And aN (run False And aN top n) f as H k:=by
 have q:match fnOf x top with
  |some f=>match aN.drop x with
    |true=>cD False And aN (run False And aN top n) f as H (A3 False H.length k)
    |false=>cD False And aN (run False And aN top n) f as H k
  |none=>match fC x top with
    |none=>False
    |some b=>opt False (fnOf "__init__" b) (LO False And aN (run False And aN top n) x as H k):=q
 rw[hf]at q
 exact q
theorem LA{n:Nat}{x:Str}{as:List V}{k:V->Hp->Prop}{b:List Stmt}(hf:fnOf x top=none)(hb:fC x top=some b)(q:run False And aN top (n+1) x as H k):opt False (fnOf "__init__" b) (LO False And aN (run False And aN top n) x as H k):=by
 have q:match fnOf x top with
  |some f=>match aN.drop x with
    |true=>cD False And aN (run False And aN top n) f as H (A3 False H.length k)
    |false=>cD False And aN (run False And aN top n) f as H k
  |none=>match fC x top with
    |none=>False
    |some b=>opt False (fnOf "__init__" b) (LO False And aN (run False And aN top n) x as H k):=q
 rw[hf,hb]at q
 exact q
theorem AX(B:Base w hO){n:Nat}(IH:QP w hO n)(R:nB (n+1) A)(he:e∈tab)
  (S:Std w hO N μ H s) (ras:bJ w N μ s.heap as vs) (q:run False And aN top (n+1) e.name as H k):bE (pm w) A (.call (.ref e.addr) ⟨vs,[]⟩) (pJ (Got w hO N μ s k)) s:=by
 have h1:=List.all_eq_true.mp MG e he
 obtain⟨h1,h2⟩:=cS h1
 obtain⟨nm,a,b,dl,rt,tp,sc,ts,bd,p,hi,hnm,hfn⟩:=zL (eq_of_beq h1)
 rw[hi]at h2
 obtain⟨o,hobj⟩:=Option.isSome_iff_exists.mp (List.all_eq_true.mp t6 e he)
 refine qC (B.own.tab e he) λ_ t2 t3=>?_
 rw[hobj]at t2
 have hobj':k8 none e.code e.pm e.dflt (.FunctionDef nm a b dl rt tp sc ts bd p)=some o:=by
  delta Ent.obj at hobj
  rw[hi]at hobj
  exact hobj
 obtain⟨f,hf⟩:=Option.isSome_iff_exists.mp (List.all_eq_true.mp EY e he)
 have q:=PF hf q
 rw[hfn]at hf
 rw[<-hnm]at t3
 have hroom:A.depth<recursionLimit:=by have:=R.dp;lia
 rcases hd:aN.drop e.name
 ·rw[hd]at q
  exact xJ B IH hroom R.deep rfl h2 hobj' t2 t3 hf S ras q
 ·rw[hd]at q
  refine G.codeMono (xJ B IH hroom R.deep rfl h2 hobj' t2 t3 hf S ras q) λfl s' g=>?_
  induction fl using PySem.Flow.casesOn with
  |ret v=>exact Got.drop S.hr.len g
  |next=>exact g.elim
  |brk=>exact g.elim
  |cont=>exact g.elim
theorem MZ(self:Value)(ho:h.get? f=some o)(hc:o.cls= .type "function"):Looks M h (bindSpecial (.ref f) self) (.ref f,[self]):=by
 refine((Looks.ld ho).andThen .now).andThen ?_
 rw[hc]
 exact Looks.of_pure (by kernel_rfl)
theorem JX{c:FD}{b:List Stmt}(h:clsAt c.idx=some b):c.obj=(f6 "__init__" b).bind (k8 (some c.iqual) c.icode c.pm c.dflt):=by
 delta clsAt at h
 delta FD.obj
 generalize top[c.idx]? =o at h ⊢
 rcases o with _|st
 ·exact iK h
 have i:(st.ctorIdx==2)=true:=gM (by clear h;rcases st<;>exact Eq.refl _) h
 revert h
 exact Stmt.ClassDef.elim st (eq_of_beq i) λn bs kw b dl tp sc ts bd sa p h=>congrArg (λb=>(f6 "__init__" b).bind (k8 (some c.iqual) c.icode c.pm c.dflt)) (Option.some.inj h)
inductive NM (c:FD):Prop
 |mk (b:List Stmt) (st:Stmt) (h1:fO c.name top=none) (h2:fC c.name top=some b) (h3:f6 "__init__" b=some st) (h4:zX c.dflt st=true) (h5:c.obj=k8 (some c.iqual) c.icode c.pm c.dflt st):NM c
theorem PT{c:FD}(hc:c∈gV):NM c:=by
 have h3:=List.all_eq_true.mp JH c hc
 obtain⟨h1,h2⟩:=cS (cS h3).1
 have h3:=(cS h3).2
 refine aT (wC (eq_of_beq h2)) λb hb hcls=>?_
 have hb':clsAt c.idx=some b:=hb
 rw[hb']at h3
 rcases hst:f6 "__init__" b with _|st
 ·dsimp only at h3;rw[hst]at h3;exact mN h3.symm
 ·dsimp only at h3;rw[hst]at h3
  exact⟨b,st,eq_of_beq h1,hcls,hst,(cS h3).1,(JX hb').trans (by rw[hst];rfl)⟩
theorem OS(hc:c∈gV):findIn (frag P) (.ref c.addr) "__init__"=some (some (.ref c.init)):=by
 have h:=List.all_eq_true.mp (HM P) c hc
 have b:=λq:(false:Bool)=true=>mN (P:=findIn (frag P) (.ref c.addr) "__init__"=some (some (.ref c.init))) q.symm
 rcases e:findIn (frag P) (.ref c.addr) "__init__"with _|_|v
 ·rw[e]at h;rw[<-e];exact b h
 ·rw[e]at h;rw[<-e];exact b h
 ·rw[e]at h
  rcases q:v.ctorIdx==10
  ·rw[<-e]
   refine b (Eq.trans ?_ h)
   exact(cond_f (b:=false) (x:=match some (some v)with|some (some (.ref a))=>a==c.init|_=>false) (a:=match some (some v)with|some (some (.ref a))=>a==c.init|_=>false) (by clear h b e q;rcases v<;>exact Eq.refl _) q).symm
  ·clear e b
   revert h
   exact Value.ref.elim v (eq_of_beq q) λa h=>congrArg (λx=>some (some (Value.ref x))) (eq_of_beq h)
theorem EB(B:Base w hO){n:Nat}(IH:QP w hO n)(R:nB (n+1) A)(hc:c∈gV)(hA:qN c.name=some c.addr)
  (S:Std w hO N μ H s) (ras:bJ w N μ s.heap as vs) (q:run False And aN top (n+1) c.name as H k):aD (pm w) A (PySem.call (.ref c.addr) vs) (Got w hO N μ s k) s:=by
 obtain⟨b,st,h1,hcls,hst,h3,ho⟩:=PT hc
 obtain⟨nm,a,bd',dl,rt,tp,sc,ts,bd,p,e,hnm,hfn⟩:=zR hst
 obtain rfl:=Option.some.inj e
 obtain⟨o,hobj⟩:=Option.isSome_iff_exists.mp (List.all_eq_true.mp AP c hc)
 refine qC (B.own.kls c hc) λ_ t2 t3=>?_
 rw[hobj]at t2
 have hobj':=ho.symm.trans hobj
 have hfc:o.cls= .type "function":=by obtain rfl:=Option.some.inj hobj';rfl
 have q:=LA (xZ h1) hcls q
 refine aT (bA.mp q) λf hf q=>?_
 rw[hfn]at hf
 have X:(frag w.params).In s.heap:=B.own.frag.keeps S.base
 have hmake:=List.all_eq_true.mp (FL w.params) c hc
 have hinit:=OS hc (P:=w.params)
 have hsi:s.heap.get? c.init=some o:=S.base _ _ t2
 obtain⟨h,g,d,t,os⟩:=s
 refine G.call (G.make (makes_of X hmake) (looks_findIn X hinit) (λself=>MZ self hsi hfc) (by rfl) ?_)
 have kk:∀b o,h.get? b=some o->((h.push emptyDict).push (instObj c.addr h.objs.size)).get? b=some o:=λb o e=>Heap.get?_push_of_some _ (Heap.get?_push_of_some _ e)
 have hx:((h.push emptyDict).push (instObj c.addr h.objs.size)).get? (h.objs.size+1)=some (instObj c.addr h.objs.size):=by
  have:=Heap.get?_push_size (h.push emptyDict) (o:=instObj c.addr h.objs.size) rfl
  rwa [Heap.size_push]at this
 have hdx:((h.push emptyDict).push (instObj c.addr h.objs.size)).get? h.objs.size=some emptyDict:=Heap.get?_push_of_some _ (Heap.get?_push_size h rfl)
 refine qC (S.track (p:=(h.objs.size+1,h.objs.size)) (t:=t) (c:=.obj c.name []) (bY (Nat.le_succ _)) (bY (Nat.le_refl _)) kk (by
  exact⟨Nat.succ_ne_self _,c.addr,hA,hx,[],0,hdx,by rw[kO]⟩)) λS1 X1 rA=>?_
 have ras1:bJ w N (μ++[(h.objs.size+1,h.objs.size)]) ((h.push emptyDict).push (instObj c.addr h.objs.size)) (.ref H.length::as) (.ref (h.objs.size+1)::vs):=by
  rw[aJ]
  exact⟨_,_,rfl,rA,cX X1.up' _ _ ras⟩
 have hu:=R.un
 have hdp:=R.dp
 have hw:(A.under (.builtin "type.__call__" ⟨.ref c.addr::vs,[]⟩)).depth=A.depth+1:=by show A.depth+Code.weight _=_;rw[MV]
 have hcu:(A.under (.builtin "type.__call__" ⟨.ref c.addr::vs,[]⟩)).units=A.units+1:=by show A.units+Code.cUnits _=_;rw[K6]
 refine G.codeMono (xJ (A:=A.under (.builtin "type.__call__" ⟨.ref c.addr::vs,[]⟩)) B IH (by rw[hw];lia) (λenv=>⟨R.hd,?_,?_⟩) rfl h3 hobj' t2 t3 hf S1 ras1 q) λfl s' g=>?_
 ·show(A.under _).units+3+40+10*n<cLine
  rw[hcu];lia
 ·show(A.under _).depth+1+5*n+10<recursionLimit
  rw[hw];lia
 ·induction fl using PySem.Flow.casesOn with
  |ret v=>
    obtain⟨dd,H',μ',hk,S',X',r'⟩:=g
    induction dd using V.casesOn with
    |none=>
      refine⟨?_,.ref H.length,H',μ',hk,S',X1.trans X',aW X'.up' rA⟩
      rcases r' with r'|⟨p,_,_,z⟩
      ·exact r'
      ·exact False.elim z
    |_=>exact hk.elim
  |next=>exact g.elim
  |brk=>exact g.elim
  |cont=>exact g.elim
theorem find_eq{α:Type}{f:α->Str}{x:Str}{l:List α}{e:α}(h:l.find? (f · ==x)=some e):f e=x:=eq_of_beq (List.find?_some (p:=λe=>f e==x) h)
theorem K5(B:Base w hO){n:Nat}(IH:QP w hO n):QP w hO (n+1):=λA R N μ H s x as vs f k hf hg S ras q=>by
 have hx:x∈dE:=List.contains_iff_mem.mp hf
 delta jO at hg
 rcases he:tab.find? (·.name==x)with _|e
 ·rw[he]at hg
  have h3:=List.all_eq_true.mp QL x hx
  rw[he]at h3
  obtain⟨c,hc⟩:=Option.isSome_iff_exists.mp h3
  have hA:qN x=some c.addr:=by unfold qN;rw[hc];rfl
  rw[hA]at hg
  obtain rfl:=Option.some.inj hg
  obtain rfl:=find_eq hc
  exact EB B IH R (List.mem_of_find?_eq_some hc) hA S ras q
 ·rw[he]at hg
  obtain rfl:=Option.some.inj hg
  obtain rfl:=find_eq he
  exact G.call (AX B IH R (List.mem_of_find?_eq_some he) S ras q)
theorem OG(B:Base w hO)(n:Nat):QP w hO n:=by
 induction n with
 |zero=>exact λA R N μ H s x as vs f k hf hg S ras q=>q.elim
 |succ n ih=>exact K5 B ih
end
end Mine
end
section
open PySem PySem.W PyProof.Rows PySem.SeqAt PySem.Builtin
open PySem.Sem (wp)
namespace Mine
noncomputable def RU:Addr:=740
noncomputable def Q8 (s:Shared) (f:Flow) (s':Shared):Prop:=
 f= .ret (.bool true)/\(∃h' tk,s'={ s with heap:=h',toks:=tk })/\∀b o,s.heap.get? b=some o->s'.heap.get? b=some o
theorem DJ:Std w s.heap no [] [] s:=
 ⟨⟨rfl,λn p d hp _=>by simp at hp,λp hp=>(nomatch hp),List.Pairwise.nil⟩,λ_ _ e=>e,λa ⟨p,hp,_⟩=>(nomatch hp),λa z=>z.elim⟩
theorem oB:∀{vs:List Value} {ns:List Int},IntsAre vs ns->bJ w no [] h (ns.map .int) vs
 |_,_,.nil=>by rw[List.map_nil,a8]
 |_,_,.cons n t r=>by
   rw[List.map_cons,aJ]
   exact⟨_,_,rfl,.inl ⟨t,rfl⟩,oB r⟩
theorem law_code(B:Base w s.heap)(c1:bR s.heap l "list" vs)(hI:IntsAre vs ns)(q:Run "law" [.lst (ns.map .int)] [] λd _=>d= .bool true):
  bE (pm w) callerA (.call (.ref RU) ⟨[.ref l],[]⟩) (Q8 s) s:=by
 have he:(⟨"law",107,740,739,.str "law_pf0357_01" 1130,.none⟩:Ent)∈tab:=by repeat (first|exact List.mem_cons_self|apply List.mem_cons_of_mem)
 have r:bJ w no [] s.heap [.lst (ns.map .int)] [.ref l]:=by
  rw[aJ]
  refine⟨_,_,rfl,.inr ⟨(l,l),rfl,⟨λz=>z,λz=>z,λ⟨p,hp,_⟩=>(nomatch hp),λ⟨p,hp,_⟩=>(nomatch hp)⟩,?_⟩,by rw[a8]⟩
  exact⟨rfl,vs,c1,oB hI⟩
 have R:nB 20 callerA:=⟨rfl,by decide,by decide⟩
 refine G.codeMono (AX B (OG B 19) R he DJ r q) λfl s' g=>?_
 induction fl using PySem.Flow.casesOn with
 |ret v=>
   obtain⟨d,H',μ',rfl,S',X',rv⟩:=g
   refine⟨?_,X'.sh,λb o e=>X'.keep b o (λz=>z) (λ⟨p,hp,_⟩=>(nomatch hp)) e⟩
   rcases rv with rv|⟨p,_,_,z⟩
   ·rw[show v= .bool true from rv]
   ·exact False.elim z
 |next=>exact g.elim
 |brk=>exact g.elim
 |cont=>exact g.elim
end Mine
end
section
open PySem PySem.W PySem.Calls PyProof.Rows
open PySem.Sem (wp)
namespace Mine
noncomputable abbrev Γc:Ctx:=⟨.builtin "claim.caller" {},none,none,[],none⟩
theorem Γc_ok:JQ Γc:=⟨by decide+kernel,λx hx=>nomatch hx⟩
theorem T3{α β:Type}{L R:α->β->Prop}(a:α)(b:β)(h:L a b)(r:R a b):∃a b,L a b/\R a b:=⟨a,b,h,r⟩
theorem TN{α β γ:Type}{L R:α->β->γ->Prop}(a:α)(b:β)(c:γ)(h:L a b c)(r:R a b c):∃a b c,L a b c/\R a b c:=⟨a,b,c,h,r⟩
theorem T6{a b c d e:Prop}(ha:a)(hb:b)(hc:c)(hd:d)(he:e):a/\b/\c/\d/\e:=⟨ha,hb,hc,hd,he⟩
theorem TR{α:Type}{P0 P1 P2 P3 P4 P5 Q0 Q:α->Prop}(k0:∀v,P0 v->Q0 v)(k:∀v,P4 v->Q v)(h:∃v,P0 v/\P1 v/\P2 v/\P3 v/\P4 v/\P5 v):∃v,Q0 v/\P1 v/\P2 v/\P3 v/\Q v/\P5 v:=
 h.elim λv z=>⟨v,k0 v z.1,z.2.1,z.2.2.1,z.2.2.2.1,k v z.2.2.2.2.1,z.2.2.2.2.2⟩
theorem TJ{α β γ:Type}{P0 P1 P2 P3 P4 P5 Q0 Q:α->β->γ->Prop}(k0:∀a b c,P0 a b c->Q0 a b c)(k:∀a b c,P5 a b c->Q a b c)(h:∃a b c,P0 a b c/\P1 a b c/\P2 a b c/\P3 a b c/\P4 a b c/\P5 a b c):∃a b c,Q0 a b c/\P1 a b c/\P2 a b c/\P3 a b c/\P4 a b c/\Q a b c:=by
 obtain⟨a,b,c,h0,h1,h2,h3,h4,h5⟩:=h
 exact⟨a,b,c,k0 a b c h0,h1,h2,h3,h4,k a b c h5⟩
theorem wY{c:ClaimW}{tree:List Value->Sem Fin}{w:World}{s:Shared}{free:Addr->Prop}{gens:Prop}{kept:Heap->Prop}(hz:s.asleep)(hgens:s.gens= #[])
  (spec:∀args,c.pre args=true->WData.layableAll args=true->∀ord:List DictEntry->List DictEntry,(∀l,(ord l).Perm l)->
   ∃vs sA,layAllW c.records (classAt s.heap) w.params ord args s=some (vs,sA)/\
     ∀p,wp (model c.prog w) Γc (tree vs) (λfin _ s'=>∃f,fin= .done f/\(c.Ends s args vs sA (.ok f) s'/\s'.os=s.os/\AllBare s'.gens/\kept s'.heap)) (λ_ _ _=>False) p sA):
  c.CallFrom (λvs=>⟨tree vs,.builtin "claim.caller" {},default,[]⟩) w free gens kept s:=by
 intro args hpre hlay ord hord
 refine RB λhG=>?_
 refine c8 (spec args hpre hlay ord hord) λvs sA hlaid hw=>?_
 have hal:=layAllW_rest _ _ _ hlaid
 have step:wp (model c.prog w) Γc (tree vs) (Sem.finPost (model c.prog w) Γc λr s'=>(c.Ends s args vs sA r s'/\s'.os=s.os/\kept s'.heap)/\leftWithCleanup s'.gens=false)
   (λe _ s'=>(c.Ends s args vs sA (.error e) s'/\s'.os=s.os/\kept s'.heap)/\leftWithCleanup s'.gens=false) default sA:=
  Sem.wp_mono _ _ _ (λfin p' s' z=>by
   obtain⟨f,rfl,h1,h2,h3,h4⟩:=z
   exact⟨⟨h1,h2,h4⟩,leftWithCleanup_false_of_bare h3⟩) (λ_ _ _ z=>z.elim) _ _ (hw default)
 obtain⟨k,r,s'',s',hsched,hrun,hfo,hcase,hos,hkp⟩:=wp_halts_full (M:=model c.prog w) (R:=λr s'=>c.Ends s args vs sA r s'/\s'.os=s.os/\kept s'.heap) (Shared.asleep_of_life hal.2.2.2 hz) step
 obtain⟨eh,_,_,eo,_⟩:=Shared.forget_eq hfo
 have hcase:=hcase.congr eh
 have hkp:kept s'.heap:=by rw[eh];exact hkp
 have hos:s'.os=s.os:=by rw[eo];exact hos
 have hlife:s'.heap.life=s.heap.life:=(runN_life _ _ _ hrun).trans hal.2.2.2
 have e1:s'.heap.life.seen=s.heap.life.seen:=by rw[hlife]
 refine hG (T3 vs sA hlaid (TN k _ s' hsched (T6 ?_ (λ_ i x hx=>?_) hkp e1 (Shared.rest_eq hos))))
 ·exact hcase.imp (TR (λ_=>congrArg outcomeOf) λ_ z b o y _=>z b o y) (TJ (λ_ _ _=>congrArg outcomeOf) λ_ _ _ z b o y _=>z b o y)
 ·rw[hgens]at hx;exact iK hx
end Mine
end
section
open PySem PySem.W PySem.Calls PyProof.Rows
open PySem.Sem (wp)
namespace Mine
theorem JJ(hdef:defOf q "law"=some (d,kwd))(hp:pw.theDef "law"=some (d.params,d.body,d.scope))(hk:kwWritten? d.params.kwonlyargs d.params.kw_defaults=some kwd)
  (k1:R.wellSaid=true) (ok:(chainsOk q&&opensWell R.prog&&(frees R.toRowW&&R.within.isEmpty))=true) (hb:R.prog.bare) (hw:R.toRowW.promised)
  (call:∀(w:World) (sO sA:Shared) (mg mb:Str->Option Value),Ground q eW R.records (XL q []) w sO mg mb sA.heap->LJ w sA.heap->sA.gens= #[]->∀(a:Addr),mg "law"=some (.ref a)->
   ∀(args:List WData) (vals:List Value) (as:List Addr),R.toRowW.claim.pre args=true->WData.layableAll args=true->Laid R.records w sO sA args vals as->(∀a∈as,(a==sysModules)=false)->
     aD (model R.prog w) callerA (PySem.call (.ref a) vals) (λv s'=>GoodWG R.toRowW.claim (classAt sO.heap) (ExcName.means sO.heap) args sA (.ok (.ret v)) s') sA):R.Holds:=by
 refine⟨k1,hw,?_⟩
 obtain⟨ok,k5⟩:=Bool.and_eq_true_iff.mp ok
 obtain⟨hch,o1⟩:=Bool.and_eq_true_iff.mp ok
 obtain⟨k5,k6⟩:=Bool.and_eq_true_iff.mp k5
 obtain⟨hsame,hu,ha,hap,hm⟩:=frees_parts k5
 have hX:∀s:Shared,SW s=true->(XL q []) (s.heap.nsMap mainGlobals) s.heap:=λs e=>xl_of s (Bool.and_eq_true_iff.mp e).1
 have hRf:∀s:Shared,SW s=true->RecFacts R.records s.heap:=λs e=>recFacts_of (Bool.and_eq_true_iff.mp e).2
 refine⟨⟨hb,o1,List.map_eq_nil_iff.mpr hm⟩,hw.witness,λw=>⟨(left.behind hX hch w).1,λs' hs'=>?_⟩⟩
 refine RB λhG=>?_
 obtain⟨sO,hf,hg0,s,hT,hz,hgens,hg,G00,y⟩:=(left.behind (XP:=λmg h=>XL q [] mg h/\RecFacts R.records h) (λs hs=>⟨hX s hs,hRf s hs⟩) hch w).2 s' hs'
 have G0:Ground q eW [] (XL q []) w s (s.heap.nsMap mainGlobals) (s.heap.nsMap builtinsNs) s.heap:=⟨G00.T,G00.B,G00.D,G00.TE,G00.TD,G00.W,G00.X.1,G00.cls,G00.has,G00.apart,G00.once,G00.K⟩
 have RF:=G00.X.2
 refine hG ⟨sO,hf,hg0,s,hT,λn hn=>?_,RF.1,RF.2.1,?_⟩
 all_goals clear hG
 ·clear call
  obtain rfl:n=R.name:=by split at hn<;>simp_all
  exact pinned_of_view hg G0 hdef hp hk
 have hgens:s.gens= #[]:=Array.eq_empty_of_size_eq_zero (beq_iff_eq.mp hgens)
 have G:Ground q eW R.records (XL q []) w s _ _ s.heap:=RF.ground G0
 refine wY (c:=R.toRowW.claim) hz hgens λargs hpre hlay ord hord=>?_
 refine RB λhG=>?_
 obtain⟨⟨vs,sA⟩,hlaid⟩:=Option.isSome_iff_exists.mp (layAllW_isSome (P:=w.params) (ord:=ord) G.has args R.args s (pre_splitW hpre).1)
 have keeps:=layAllW_keeps _ _ _ hlaid
 have hal:=layAllW_rest _ _ _ hlaid
 refine cB (reads_layAllW hord _ _ _ hlaid hlay sA.heap (λ_ _ e=>e)) λas hrd hin hold=>?_
 have L:Laid R.records w s sA args vs as:=⟨⟨ord,hord,hlaid⟩,hrd,hin,hold,keeps,hal.1.trans hgens,hal.2.2.1⟩
 have G1:=G.keeps XL.keeps keeps
 obtain⟨a,o,pm,cd,doc,dV,kV,h1,h2,h3,h4,h5⟩:=G1.fn hdef
 have hnm:d.name="law":=defOf_name hdef
 have hmg:s.heap.nsMap mainGlobals "law"=some (.ref a):=h1
 have h:=call w s sA _ _ G1 (LJ.keeps _ _ _ (O8 w s y) keeps) L.gens a hmg args vs as hpre hlay L (L.low G.low)
 have hi:=ident_freeW hu ha hap
 have hwi:R.toRowW.claim.within=[]:=List.isEmpty_iff.mp k6
 refine hG ⟨vs,sA,hlaid,λp=>?_⟩
 have run:aD (model R.prog w) callerA (do match<-nsGet mainNs R.name with
   |some f=>do ret (<-PySem.call f vs)
   |none=>unsupported "claim.caller:no-such-global") (λfin s'=>∃f,fin= .done f/\(R.toRowW.claim.Ends s args vs sA (.ok f) s'/\s'.os=s.os/\AllBare s'.gens/\(R.writes=true->namesKept R.prog R.keeps s.heap s'.heap/\∀x∈R.records,∀a,classAt s.heap x.1=some a->recordClass s'.heap a x.1 (x.2.map (·.1))=true))) sA:=by
  refine Mine.G.bind (Mine.G.leaf (wpAny_nsGet G1.T.g ?_))
  show aD _ _ (match s.heap.nsMap mainGlobals "law"with|some f=>_|none=>_) _ _
  rw[hmg]
  refine Mine.G.bind (Mine.G.mono h λv s' g=>?_)
  refine Mine.G.pure ⟨_,rfl,?_⟩
  have z:=g.laid (c:=R.toRowW.claim) hsame hwi hi L
  exact⟨z.1,z.2.1,z.2.2,λq=>by injection q⟩
 exact run Γc p caller_in Γc_ok
end Mine
end
section
open PySem PySem.W PyProof.Rows
namespace Mine
noncomputable def R1:Addr:=740
noncomputable def uQ (s:Shared) (f:Flow) (s':Shared):Prop:=
 f= .ret (.bool true)/\(∃h' tk,s'={ s with heap:=h',toks:=tk })/\∀b o,s.heap.get? b=some o->s'.heap.get? b=some o
theorem yG{r:RowW}{cl:Str->Option Addr}{mean:ExcName->Option Value}{args:List WData}{sA s':Shared}(hn:∀cls,r.claim.raises args cls=false)(hp:r.claim.post args (.bool true) args=true)(hg:sA.gens= #[])
  {v:Value} (h:uQ sA (.ret v) s'):GoodW r.claim cl mean args sA (.ok (.ret v)) s':=by
 refine qC h λe o91 k=>?_
 clear h
 obtain⟨h',tk,rfl⟩:=o91
 (injection e with e;subst e)
 exact⟨.inl ⟨.bool true,.bool true,[],rfl,hn,.bool true,hp,λ_=>⟨List.nodup_nil,λa ha=>nomatch ha⟩⟩,k,rfl,hg⟩
set_option tactic.hygienic true in
theorem DA{rs:WRecords}{cl:Str->Option Addr}{P:Params}{ord:List DictEntry->List DictEntry}{xs:List WData}{l:Addr}{s s':Shared}(e:layAllW rs cl P ord [.list xs] s=some ([.ref l],s')):
  ∃vs:List Value,s'.heap.get? l=some { cls:=.type "list",data:=.seq vs.toArray }:=by
 rw[layAllW]at e
 split at e
 ·rename_i a ha
  rw[layAllW]at e
  simp only[Option.some.injEq,Prod.mk.injEq,List.cons.injEq,and_true]at e
  rw[layW]at ha
  split at ha
  ·rename_i r hr
   obtain rfl:=Option.some.inj ha
   obtain⟨e1,e2⟩:=e
   rw[<-e2]
   (injection e1 with e;subst e)
   exact⟨_,Heap.get?_push_size _ rfl⟩
  ·injection ha
 ·injection e
theorem K4{h:Heap}{l:Addr}{vs us:List Value}(e:h.get? l=some { cls:=.type "list",data:=.seq us.toArray })(x:h.IsList l vs.toArray):bR h l "list" vs:=by
 obtain⟨o,h1,h2,n,h3⟩:=x
 rw[e]at h1
 obtain rfl:=Option.some.inj h1
 injection h3 with h3 h4
 rw[h3]at e
 exact⟨_,e⟩
theorem oI:(defOf q "law").isSome=true:=by kernel_rfl
theorem JP:tab.find? (·.name==("law":Str))=some ⟨"law",107,740,739,.str "law_pf0357_01" 1130,.none⟩:=by kernel_rfl
set_option maxHeartbeats 0 in
theorem holds_main(main:∀(w:World) (s:Shared) (mg mb:Str->Option Value) (l:Addr) (vs:List Value) (ns:List Int),LJ w s.heap->TopRead q (looseW q eW) mg mb s.heap->
  bR s.heap l "list" vs->IntsAre vs ns->ns.length<=63->bE (pm w) callerA (.call (.ref R1) ⟨[.ref l],[]⟩) (uQ s) s):LW.Holds:=by
 refine holds_law E5 λh=>JJ (d:=(Option.get _ oI).1) (kwd:=(Option.get _ oI).2) (Option.some_get oI).symm (by kernel_rfl) (by kernel_rfl) h (by kernel_rfl) ⟨rfl,rfl,rfl,rfl,rfl,by decide+kernel⟩ ⟨[.list []],by decide+kernel,by decide+kernel⟩ ?_
 clear h
 intro w sO sA mg mb G Y hg a hmg args vals as hpre hlay L hlo
 have T:=topRead_of G.T
 have hl:=L.laid
 have hrd:=L.reads
 have hwl:=L.well
 clear G L
 refine RB λhG=>?_
 wrow_args hpre hlay hrd hwl hlo
 rename sA.heap.IsList _ _=>hL
 rename IntsAre _ _=>hI
 rename ¬_=>hc
 have ha:a=R1:=by
  refine qC (Y.tab ⟨"law",107,740,739,.str "law_pf0357_01" 1130,.none⟩ (List.mem_of_find?_eq_some JP)) λh1 _ _=>?_
  refine fU T.g λoo es ep e1 e2 e3 e4=>?_
  have e5:sA.heap.nsMap mainGlobals "law"=mg "law":=by
   unfold Heap.nsMap
   rw[e1]
   show(match oo.data with| .dict es _=>nsFind es "law"|_=>none)=_
   rw[e2]
   exact e4 _
  have:mg "law"=some (.ref a):=hmg
  rw[<-e5]at this
  have h1':sA.heap.nsMap mainGlobals "law"=some (.ref 740):=h1
  rw[h1']at this
  exact(Value.ref.inj (Option.some.inj this)).symm
 subst ha
 refine aT hl λord _ hl=>?_
 rw[ofPy]at hl
 obtain⟨us,hl⟩:=DA hl
 refine hG (Mine.G.call (Mine.G.codeMono (main w sA mg mb _ _ _ Y T (K4 hl hL) hI (by lia)) (λf s' z=>?_)))
 obtain⟨rfl,z⟩:=z
 exact(yG (r:=R.toRowW) (raisesW_false (by wrow_none_raised)) (by wrow_post) hg ⟨rfl,z⟩).toG
end Mine
end
section
open PySem PySem.W PyProof.Rows
namespace Mine
theorem holds_of_runs(h:∀ns:List Int,ns.length<=63->Run "law" [.lst (ns.map .int)] [] λd _=>d= .bool true):LW.Holds:=holds_main λw s mg mb l vs ns O T c1 hI hl=>by
 have B:Base w s.heap:=⟨O,⟨mg,mb,T⟩,by
  obtain⟨o,_,_,e,_⟩:=T.g
  exact Heap.lt_size e⟩
 exact law_code B c1 hI (h ns hl)
end Mine
end
section
open PySem
namespace Mine.B
set_option maxHeartbeats 4000000
variable {n:Nat}{K:V->Hp->Prop}{H:Hp}{h0 h1 h2 h3 h4:V}
local macro_rules | `(tactic| symm) => `(tactic| conv => whnf)
noncomputable abbrev R (n:Nat) (x:Str) (as:List V) (H:Hp) (K:V->Hp->Prop):Prop:=run False And aN top n x as H K
theorem hd.{u}{β:Sort u}{f:β->Prop}{o o':β}(h:o=o')(x:f o'):f o:=h▸x
theorem hR(h:as=as')(k:R n x as' H K):R n x as H K:=h▸k
theorem dT{p:Prop}[Decidable p](h:p):decide p=true:=decide_eq_true h
theorem dF{p:Prop}[Decidable p](h:¬p):decide p=false:=decide_eq_false h
theorem aU{k n:Nat}(h:k+1<=n):∃m,n=m+1:=⟨n-1,by omega⟩
theorem DO{k n:Nat}(h:k+2<=n):∃m,n=m+2:=⟨n-2,by omega⟩
theorem gd{b:Bool}{A:Prop}(h:b=true)(a:A):guard False b A:=h▸a
theorem ob{β:Type}{o:Option β}{k:β->Prop}{x:β}(h:o=some x)(a:k x):opt False o k:=h▸a
theorem aG{a b:Bool}(ha:a=true)(hb:b=true):(a&&b)=true:=by subst ha hb;rfl
theorem aY{x:Int}(h:0<=x)(h2:x<4294967296*4294967296):small x=true:=by unfold small;simp;lia
theorem pQ(x:Int)(k:Nat)(h:0<=x):Builtin.bitAnd x ((2 ^ k-1:Nat):Int)=x%((2 ^ k:Nat):Int):=by
 delta Builtin.bitAnd
 rw[dT h,dT (Int.natCast_nonneg _)]
 simp only[Int.toNat_natCast]
 rw[Nat.and_two_pow_sub_one_eq_mod]
 obtain⟨m,rfl⟩:=Int.eq_ofNat_of_zero_le h
 simp
theorem G8{x:Int}(h:0<=x):Builtin.bitAnd x 255=x%256:=pQ x 8 h
theorem vV{x:Int}(h:0<=x):Builtin.bitAnd x 65535=x%65536:=pQ x 16 h
theorem rZ(x y:Nat):Builtin.bitOr (x:Int) y=((x|||y:Nat):Int):=by
 delta Builtin.bitOr Builtin.bitAnd Builtin.bitNot
 have e1:¬(0:Int)<= -(x:Int)-1:=by lia
 have e2:¬(0:Int)<= -(y:Int)-1:=by lia
 rw[dF e1,dF e2]
 have f1: -(-(x:Int)-1)-1=x:=by lia
 have f2: -(-(y:Int)-1)-1=y:=by lia
 simp only[f1,f2,Int.toNat_natCast]
 lia
theorem PG(x a:Int)(k:Nat)(hx:0<=x)(ha:0<=a)(h:a<((2 ^ k:Nat):Int)):Builtin.bitOr (x*((2 ^ k:Nat):Int)) a=x*((2 ^ k:Nat):Int)+a:=by
 obtain⟨x,rfl⟩:=Int.eq_ofNat_of_zero_le hx
 obtain⟨a,rfl⟩:=Int.eq_ofNat_of_zero_le ha
 have:a<2 ^ k:=by lia
 have:=Nat.two_pow_add_eq_or_of_lt this x
 rw[<-Int.natCast_mul,rZ,Nat.mul_comm, <-this]
 simp
theorem PV{x a:Int}(hx:0<=x)(ha:0<=a)(h:a<256):Builtin.bitOr (x*2 ^ (8:Int).toNat) a=x*256+a:=PG x a 8 hx ha h
theorem OT(x:Int)(m:Nat):0<=Builtin.bitAnd x m/\Builtin.bitAnd x m<=m:=by
 delta Builtin.bitAnd
 rw[dT (Int.natCast_nonneg m)]
 rcases decide (0<=x)
 ·simp only[Int.toNat_natCast]
  have:m&&& (Builtin.bitNot x).toNat<=m:=Nat.and_le_left
  lia
 ·simp only[Int.toNat_natCast]
  have:x.toNat&&& m<=m:=Nat.and_le_right
  lia
theorem iQ(x:Int):0<=Builtin.bitAnd x 4294967295/\Builtin.bitAnd x 4294967295<4294967296:=by
 have:=OT x 4294967295
 have e:((4294967295:Nat):Int)=4294967295:=rfl
 rw[e]at this;lia
theorem RO{x:Int}(h:0<=x):Builtin.bitXor x 1=x+1-2*(x%2):=by
 obtain⟨x,rfl⟩:=Int.eq_ofNat_of_zero_le h
 have e:Builtin.bitAnd (x:Int) 1=(x:Int)%2:=pQ x 1 (Int.natCast_nonneg _)
 have e2:Builtin.bitOr (x:Int) 1=((x|||1:Nat):Int):=rZ x 1
 have e4:x|||1=2*(x/2)+1:=by
  have e3:=Nat.two_pow_add_eq_or_of_lt (i:=1) (b:=1) (by decide) (x/2)
  rcases Nat.mod_two_eq_zero_or_one x with h|h
  ·have:2 ^ 1*(x/2)=x:=by lia
   rw[this]at e3;lia
  ·have:2 ^ 1*(x/2)+1=x:=by lia
   rw[<-this,e3,Nat.or_assoc,Nat.or_self, <-e3];lia
 delta Builtin.bitXor
 rw[e,e2,e4];lia
theorem fdiv_eq{x y:Int}(h:0<=y):Int.fdiv x y=x/y:=Int.fdiv_eq_ediv_of_nonneg x h
theorem fmod_eq{x y:Int}(h:0<=y):Int.fmod x y=x%y:=Int.fmod_eq_emod_of_nonneg x h
noncomputable def b3 (x:Int):Int:=x/16777216%256
noncomputable def b2 (x:Int):Int:=x/65536%256
noncomputable def b1 (x:Int):Int:=x/256%256
noncomputable def b0 (x:Int):Int:=x%256
noncomputable def aM (a:Int):Prop:=0<=a/\a<256
theorem n2{a b:Int}(ha:aM a)(hb:aM b):Builtin.bitOr (Builtin.bitOr (0*2 ^ (8:Int).toNat) a*2 ^ (8:Int).toNat) b=a*256+b:=by
 rw[PV (x:=0) (by lia) ha.1 ha.2,PV (by have:=ha.1;lia) hb.1 hb.2];lia
theorem n3{a b c:Int}(ha:aM a)(hb:aM b)(hc:aM c):Builtin.bitOr (Builtin.bitOr (Builtin.bitOr (0*2 ^ (8:Int).toNat) a*2 ^ (8:Int).toNat) b*2 ^ (8:Int).toNat) c=a*65536+b*256+c:=by
 rw[n2 ha hb,PV (by have:=ha.1;have:=hb.1;lia) hc.1 hc.2];lia
theorem n4{a b c d:Int}(ha:aM a)(hb:aM b)(hc:aM c)(hd:aM d):Builtin.bitOr (Builtin.bitOr (Builtin.bitOr (Builtin.bitOr (0*2 ^ (8:Int).toNat) a*2 ^ (8:Int).toNat) b*2 ^ (8:Int).toNat) c*2 ^ (8:Int).toNat) d=a*16777216+b*65536+c*256+d:=by
 rw[n3 ha hb hc,PV (by have:=ha.1;have:=hb.1;have:=hc.1;lia) hd.1 hd.2];lia
theorem n1{a:Int}(ha:aM a):Builtin.bitOr (0*2 ^ (8:Int).toNat) a=a:=by
 rw[PV (x:=0) (by lia) ha.1 ha.2];lia
theorem x8(hn:1<=n){a b:Int}(ha:aM a)(hb:aM b)(h:K (.int (a*256+b)) H):R n "number_of" [.bytes [a,b]] H K:=by
 obtain⟨n,rfl⟩:=aU hn
 have a1:=ha.1
 have a2:=ha.2
 rw[<-n2 ha hb]at h
 symm
 refine gd (by rw[n1 ha];exact aG rfl (aY (by lia) (by lia))) ?_
 symm
 exact h
theorem rF(hn:1<=n){a b:Int}(ha:aM a)(hb:aM b)(h:K (.int (a*256+b)) H):R n "number_of" [.bar [a,b]] H K:=by
 obtain⟨n,rfl⟩:=aU hn
 have a1:=ha.1
 have a2:=ha.2
 rw[<-n2 ha hb]at h
 symm
 refine gd (by rw[n1 ha];exact aG rfl (aY (by lia) (by lia))) ?_
 symm
 exact h
theorem NK(hn:1<=n){a b c d:Int}(ha:aM a)(hb:aM b)(hc:aM c)(hd:aM d)(h:K (.int (a*16777216+b*65536+c*256+d)) H):R n "number_of" [.bar [a,b,c,d]] H K:=by
 obtain⟨n,rfl⟩:=aU hn
 have:=ha.1;have:=ha.2;have:=hb.1;have:=hb.2;have:=hc.1;have:=hc.2
 rw[<-n4 ha hb hc hd]at h
 symm
 refine gd (by rw[n1 ha];exact aG rfl (aY (by lia) (by lia))) ?_
 symm
 refine gd (by rw[n2 ha hb];exact aG rfl (aY (by lia) (by lia))) ?_
 symm
 refine gd (by rw[n3 ha hb hc];exact aG rfl (aY (by lia) (by lia))) ?_
 symm
 exact h
theorem e6(x:Int):aM (x%256):=by unfold aM;lia
theorem fits_of{β:Type}{l:List β}(h:l.length<1000):fits l=true:=dT h
theorem j9(h:∀x∈l,aM x):gS l=true:=by
 unfold gS;rw[List.all_eq_true];intro x hx
 exact aG (dT (h x hx).1) (dT (h x hx).2)
theorem BD{β:Type}{l:List β}{a b:Int}(ha:0<=a)(hab:a<=b)(hb:b<=l.length):((cut l a b).length:Int)=b-a:=by
 obtain⟨a,rfl⟩:=Int.eq_ofNat_of_zero_le ha
 obtain⟨b,rfl⟩:=Int.eq_ofNat_of_zero_le (Int.le_trans ha hab)
 show(((l.take b).drop a).length:Int)=_
 rw[List.length_drop,List.length_take_of_le (Int.ofNat_le.mp hb),Int.ofNat_sub (Int.ofNat_le.mp hab)]
theorem JR{a b:Int}(h:0<=a)(hb:b=a+4):(cut l a b).length<=4:=by
 obtain⟨a,rfl⟩:=Int.eq_ofNat_of_zero_le h
 subst hb
 show((l.take (a+4)).drop a).length<=4
 rw[List.length_drop]
 exact Nat.sub_le_of_le_add (Nat.le_trans (List.length_take_le _ _) (Nat.le_of_eq (Nat.add_comm a 4)))
theorem aB(a b:Int):bQ (.int a) (.int b)=decide (a=b):=rfl
theorem bN{a b:Int}(h:a=b):(!bQ (.int a) (.int b))=false:=by rw[aB,dT h];rfl
theorem oQ{a b:Int}(h:a≠b):(!bQ (.int a) (.int b))=true:=by rw[aB,dF h];rfl
theorem shr{x:Int}{k:Int}{m:Int}(h:0<=x)(e:(2:Int) ^ k.toNat=m)(hm:0<=m):Builtin.bitAnd (Int.fdiv x (2 ^ k.toNat)) 255=x/m%256:=by
 rw[e,fdiv_eq hm,G8 (Int.ediv_nonneg h hm)]
theorem jP(hn:1<=n){x:Int}(h0:0<=x)(h1:x<65536)(h:K (.bytes [b1 x,b0 x]) H):R n "octets_of" [.int x,.int 2] H K:=by
 obtain⟨n,rfl⟩:=aU hn
 symm
 rw[dF (by lia:¬x<0)]
 symm
 rw[bN (by rw[fdiv_eq (by decide)];exact Int.ediv_eq_zero_of_lt h0 h1)]
 symm
 have e1:Builtin.bitAnd (Int.fdiv x (2 ^ (8*(2-1-(0+1*((0:Nat):Int)))).toNat)) 255=b1 x:=shr h0 rfl (by decide)
 have e0:Builtin.bitAnd (Int.fdiv x (2 ^ (8*(2-1-(0+1*((1:Nat):Int)))).toNat)) 255=b0 x:=by
  rw[shr (m:=1) h0 rfl (by decide)];unfold b0;lia
 have e:[Builtin.bitAnd (Int.fdiv x (2 ^ (8*(2-1-(0+1*((0:Nat):Int)))).toNat)) 255,Builtin.bitAnd (Int.fdiv x (2 ^ (8*(2-1-(0+1*((1:Nat):Int)))).toNat)) 255]=[b1 x,b0 x]:=by rw[e1,e0]
 rw[<-e]at h
 refine gd ?_ h
 refine aG (b:=true) (j9 (l:=[_,_]) ?_) rfl
 intro y hy
 simp only[List.mem_cons,List.not_mem_nil,or_false]at hy
 rcases hy with rfl|rfl
 ·rw[e1];exact e6 _
 ·rw[e0];exact e6 _
theorem qJ(hn:1<=n){x:Int}(h0:0<=x)(h1:x<4294967296)(h:K (.bytes [b3 x,b2 x,b1 x,b0 x]) H):R n "octets_of" [.int x,.int 4] H K:=by
 obtain⟨n,rfl⟩:=aU hn
 symm
 rw[dF (by lia:¬x<0)]
 symm
 rw[bN (by rw[fdiv_eq (by decide)];exact Int.ediv_eq_zero_of_lt h0 h1)]
 symm
 have e3:Builtin.bitAnd (Int.fdiv x (2 ^ (8*(4-1-(0+1*((0:Nat):Int)))).toNat)) 255=b3 x:=shr h0 rfl (by decide)
 have e2:Builtin.bitAnd (Int.fdiv x (2 ^ (8*(4-1-(0+1*((1:Nat):Int)))).toNat)) 255=b2 x:=shr h0 rfl (by decide)
 have e1:Builtin.bitAnd (Int.fdiv x (2 ^ (8*(4-1-(0+1*((2:Nat):Int)))).toNat)) 255=b1 x:=shr h0 rfl (by decide)
 have e0:Builtin.bitAnd (Int.fdiv x (2 ^ (8*(4-1-(0+1*((3:Nat):Int)))).toNat)) 255=b0 x:=by
  rw[shr (m:=1) h0 rfl (by decide)];unfold b0;lia
 have e:[Builtin.bitAnd (Int.fdiv x (2 ^ (8*(4-1-(0+1*((0:Nat):Int)))).toNat)) 255,Builtin.bitAnd (Int.fdiv x (2 ^ (8*(4-1-(0+1*((1:Nat):Int)))).toNat)) 255,Builtin.bitAnd (Int.fdiv x (2 ^ (8*(4-1-(0+1*((2:Nat):Int)))).toNat)) 255,Builtin.bitAnd (Int.fdiv x (2 ^ (8*(4-1-(0+1*((3:Nat):Int)))).toNat)) 255]=[b3 x,b2 x,b1 x,b0 x]:=by rw[e3,e2,e1,e0]
 rw[<-e]at h
 refine gd ?_ h
 refine aG (b:=true) (j9 (l:=[_,_,_,_]) ?_) rfl
 intro y hy
 simp only[List.mem_cons,List.not_mem_nil,or_false]at hy
 rcases hy with rfl|rfl|rfl|rfl
 ·rw[e3];exact e6 _
 ·rw[e2];exact e6 _
 ·rw[e1];exact e6 _
 ·rw[e0];exact e6 _
theorem vZ(t:Int):(t%65536+t/65536-t)%65535=0:=by
 have e:=Int.mul_ediv_add_emod t 65536
 rw[show t%65536+t/65536-t=65535*(-(t/65536))by generalize t/65536=q at*;generalize t%65536=r at*;lia,Int.mul_emod_right]
theorem wR{t:Int}{k:Int}(h0:0<=t)(h1:t<65536*k)(c:t/65536≠0):0<t%65536+t/65536/\t%65536+t/65536<65536+k/\(t%65536+t/65536=t-65535*(t/65536))/\1<=t/65536:=by
 have e:=Int.mul_ediv_add_emod t 65536
 have q0:=Int.ediv_nonneg h0 (show(0:Int)<=65536 by decide)
 have q1:=Int.ediv_lt_of_lt_mul (show(0:Int)<65536 by decide) (show t<k*65536 by rw[Int.mul_comm];exact h1)
 have r0:=Int.emod_nonneg t (show(65536:Int)≠0 by decide)
 have r1:=Int.emod_lt_of_pos t (show(0:Int)<65536 by decide)
 generalize t/65536=q at*
 generalize t%65536=r at*
 lia
theorem OD{w u t:Int}(a:(w-u)%65535=0)(b:(u-t)%65535=0):(w-t)%65535=0:=by
 have:=Int.dvd_add (Int.dvd_of_emod_eq_zero a) (Int.dvd_of_emod_eq_zero b)
 rw[show w-u+(u-t)=w-t by lia]at this
 exact Int.emod_eq_zero_of_dvd this
theorem mod_self(t:Int):(t-t)%65535=0:=by rw[Int.sub_self];rfl
theorem NS{t:Int}(c:t/65536=0):t<65536:=by
 have e:=Int.mul_ediv_add_emod t 65536
 rw[c,Int.mul_zero,Int.zero_add]at e
 rw[<-e]
 exact Int.emod_lt_of_pos t (by decide)
theorem qY(hn:1<=n){t:Int}(h0:0<=t)(h1:t<1000000)(h:∀r,0<=r->r<65536->(r-t)%65535=0->(t≠0->r≠0)->K (.int r) H):R n "folded" [.int t] H K:=by
 obtain⟨n,rfl⟩:=aU hn
 symm
 by_cases c:t/65536=0
 ·refine hd (bN (by rw[fdiv_eq (by decide)];exact c)) ?_
  symm
  exact h t h0 (NS c) (mod_self t) id
 refine hd (oQ (by rw[fdiv_eq (by decide)];exact c)) ?_
 symm
 have e1:Builtin.bitAnd t 65535+t.fdiv (2 ^ (16:Int).toNat)=t%65536+t/65536:=by rw[vV h0,fdiv_eq (by decide)];rfl
 have f1:=wR (k:=16) h0 (Int.lt_of_lt_of_le h1 (by decide)) c
 have m1:=vZ t
 rw[e1]
 have f1:0<t%65536+t/65536/\t%65536+t/65536<65552:=⟨f1.1,f1.2.1⟩
 generalize t%65536+t/65536=u at*
 have u0:=Int.le_of_lt f1.1
 by_cases c:u/65536=0
 ·refine hd (bN (by rw[fdiv_eq (by decide)];exact c)) ?_
  symm
  exact h u u0 (NS c) m1 λ_=>(Int.ne_of_lt f1.1).symm
 refine hd (oQ (by rw[fdiv_eq (by decide)];exact c)) ?_
 symm
 have e1:Builtin.bitAnd u 65535+u.fdiv (2 ^ (16:Int).toNat)=u%65536+u/65536:=by rw[vV u0,fdiv_eq (by decide)];rfl
 have f2:=wR (k:=2) u0 (Int.lt_of_lt_of_le f1.2 (by decide)) c
 have m2:=OD (vZ u) m1
 rw[e1]
 have f2:0<u%65536+u/65536/\u%65536+u/65536<65536:=⟨f2.1,by lia⟩
 generalize u%65536+u/65536=w at*
 refine hd (bN (by rw[fdiv_eq (by decide)];exact Int.ediv_eq_zero_of_lt (Int.le_of_lt f2.1) f2.2)) ?_
 symm
 exact h w (Int.le_of_lt f2.1) f2.2 m2 λ_=>(Int.ne_of_lt f2.1).symm
theorem gm{b:Bool}{A B:Prop}(h:b=true)(a:A):br A B 0 b:=h▸a
theorem gL{b:Bool}{A B:Prop}(h:b=false)(a:B):br A B 0 b:=h▸a
theorem nS{β:Type}{o:Option β}{k:β->Prop}{x:β}(h:o=some x)(a:k x):optN False k 0 o:=h▸a
theorem fF{a:Int}(h:aM a):(decide (0<=(8:Int))&&decide ((8:Int)<64)&&small a)=true:=aG rfl (aY h.1 (by have:=h.2;lia))
theorem DD{a b:Int}(ha:aM a)(hb:aM b):Builtin.bitOr (a*2 ^ (8:Int).toNat) b=a*256+b:=PV ha.1 hb.1 hb.2
theorem QU{a b:Int}(ha:aM a)(hb:aM b):0<=a*256+b/\a*256+b<65536:=by unfold aM at*;lia
theorem HZ{a b c:Int}(ha:0<=a/\a<65536)(hb:0<=b/\b<65536)(hc:0<=c/\c<65536):0<=65535-c+65535-a+b/\65535-c+65535-a+b<1000000:=by lia
theorem BQ{a b c a' b':Int}(ha:0<=a/\a<65536)(hb:0<=b/\b<65536)(ha':0<=a'/\a'<65536)(hb':0<=b'/\b'<65536)(hc:0<=c/\c<65536):0<=65535-c+65535-a+b+65535-a'+b'/\65535-c+65535-a+b+65535-a'+b'<1000000:=by lia
theorem A1{x y:Int}(h:x%65535=0)(e:∃k,y= -x+65535*k):y%65535=0:=by
 obtain⟨k,rfl⟩:=e
 rw[Int.add_mul_emod_self_left]
 exact Int.emod_eq_zero_of_dvd (Int.dvd_neg.mpr (Int.dvd_of_emod_eq_zero h))
theorem EP{r a b c:Int}(h:(r-(65535-c+65535-a+b))%65535=0):(65535-r-(c+a-b))%65535=0:=A1 h ⟨-1,by lia⟩
theorem BN{r a b c a' b':Int}(h:(r-(65535-c+65535-a+b+65535-a'+b'))%65535=0):(65535-r-(c+(a+a')-(b+b')))%65535=0:=A1 h ⟨-2,by lia⟩
theorem EO(hn:2<=n){c a0 a1 c0 c1:Int}{l m:List Int}(hc:0<=c/\c<65536)(ha0:aM a0)(ha1:aM a1)(hc0:aM c0)(hc1:aM c1)(hl:l=[a0,a1])(hm:m=[c0,c1])
  (h:∀r,0<=r->r<65536->(r-(c+((a0*256+a1))-((c0*256+c1))))%65535=0->K (.int r) H):R n "mend" [.int c,.bytes l,.bytes m] H K:=by
 obtain⟨n,rfl⟩:=aU hn
 have fl:fits l=true:=hl▸rfl
 have fm:fits m=true:=hm▸rfl
 have ll:(l.length:Int)=2:=hl▸rfl
 have il0:item l 0=some a0:=hl▸rfl
 have im0:item m 0=some c0:=hm▸rfl
 have il1:item l 1=some a1:=hl▸rfl
 have im1:item m 1=some c1:=hm▸rfl
 symm
 refine gm fl ?_
 symm
 refine gm fm ?_
 symm
 rw[bN (by subst hl hm;rfl)]
 symm
 refine gm fl ?_
 symm
 rw[show bQ (V.int ((l.length:Int).fmod 2)) (V.int 1)=false from by rw[ll];rfl]
 symm
 refine gm fl ?_
 symm
 refine gm (by rw[ll];decide) ?_
 symm
 rw[show cF 0 (l.length:Int) 2=[0]from by rw[ll];rfl]
 symm
 refine gm fl ?_
 symm
 with_reducible refine nS (il0) ?_
 symm
 refine gm (fF ha0) ?_
 symm
 refine gm fl ?_
 symm
 rw[show item l (0+1)=some a1 from il1]
 symm
 refine gm fm ?_
 symm
 with_reducible refine nS (im0) ?_
 symm
 refine gm (fF hc0) ?_
 symm
 refine gm fm ?_
 symm
 rw[show item m (0+1)=some c1 from im1]
 symm
 rw[DD ha0 ha1,DD hc0 hc1]
 have g:=HZ (QU ha0 ha1) (QU hc0 hc1) hc
 generalize a0*256+a1=a at*
 generalize c0*256+c1=b at*
 refine qY (by lia) g.1 g.2 λr r0 r1 r2 _=>?_
 exact h (65535-r) (by lia) (by lia) (EP r2)
theorem E0(hn:2<=n){c a0 a1 a2 a3 c0 c1 c2 c3:Int}{l m:List Int}(hc:0<=c/\c<65536)(ha0:aM a0)(ha1:aM a1)(ha2:aM a2)(ha3:aM a3)(hc0:aM c0)(hc1:aM c1)(hc2:aM c2)(hc3:aM c3)(hl:l=[a0,a1,a2,a3])(hm:m=[c0,c1,c2,c3])
  (h:∀r,0<=r->r<65536->(r-(c+((a0*256+a1)+(a2*256+a3))-((c0*256+c1)+(c2*256+c3))))%65535=0->K (.int r) H):R n "mend" [.int c,.bytes l,.bytes m] H K:=by
 obtain⟨n,rfl⟩:=aU hn
 have fl:fits l=true:=hl▸rfl
 have fm:fits m=true:=hm▸rfl
 have ll:(l.length:Int)=4:=hl▸rfl
 have il0:item l 0=some a0:=hl▸rfl
 have im0:item m 0=some c0:=hm▸rfl
 have il1:item l 1=some a1:=hl▸rfl
 have im1:item m 1=some c1:=hm▸rfl
 have il2:item l 2=some a2:=hl▸rfl
 have im2:item m 2=some c2:=hm▸rfl
 have il3:item l 3=some a3:=hl▸rfl
 have im3:item m 3=some c3:=hm▸rfl
 symm
 refine gm fl ?_
 symm
 refine gm fm ?_
 symm
 rw[bN (by subst hl hm;rfl)]
 symm
 refine gm fl ?_
 symm
 rw[show bQ (V.int ((l.length:Int).fmod 2)) (V.int 1)=false from by rw[ll];rfl]
 symm
 refine gm fl ?_
 symm
 refine gm (by rw[ll];decide) ?_
 symm
 rw[show cF 0 (l.length:Int) 2=[0,2]from by rw[ll];rfl]
 symm
 refine gm fl ?_
 symm
 with_reducible refine nS (il0) ?_
 symm
 refine gm (fF ha0) ?_
 symm
 refine gm fl ?_
 symm
 rw[show item l (0+1)=some a1 from il1]
 symm
 refine gm fm ?_
 symm
 with_reducible refine nS (im0) ?_
 symm
 refine gm (fF hc0) ?_
 symm
 refine gm fm ?_
 symm
 rw[show item m (0+1)=some c1 from im1]
 symm
 refine gm fl ?_
 symm
 with_reducible refine nS (il2) ?_
 symm
 refine gm (fF ha2) ?_
 symm
 refine gm fl ?_
 symm
 rw[show item l (2+1)=some a3 from il3]
 symm
 refine gm fm ?_
 symm
 with_reducible refine nS (im2) ?_
 symm
 refine gm (fF hc2) ?_
 symm
 refine gm fm ?_
 symm
 rw[show item m (2+1)=some c3 from im3]
 symm
 rw[DD ha0 ha1,DD hc0 hc1,DD ha2 ha3,DD hc2 hc3]
 have g:=BQ (QU ha0 ha1) (QU hc0 hc1) (QU ha2 ha3) (QU hc2 hc3) hc
 generalize a0*256+a1=a at*
 generalize c0*256+c1=b at*
 generalize a2*256+a3=a' at*
 generalize c2*256+c3=b' at*
 refine qY (by lia) g.1 g.2 λr r0 r1 r2 _=>?_
 exact h (65535-r) (by lia) (by lia) (BN r2)
theorem eD(hn:1<=n){w m:Int}(hw:0<=w/\w<4294967296)(hm:0<=m/\m<=32)(h:∀r,0<=r/\r<4294967296->K (.int r) H):R n "rolled" [.int w,.int m] H K:=by
 obtain⟨n,rfl⟩:=aU hn
 symm
 refine gm (aG (aG (dT (by lia)) (dT (by lia))) (aY hw.1 (by lia))) ?_
 symm
 refine gm (dT (by lia)) ?_
 exact h _ (iQ _)
theorem IM(hn:2<=n){a b c:Int}(ha:0<=a/\a<4294967296)(hb:0<=b/\b<4294967296)(hc:0<=c/\c<4294967296)(h:∀r,0<=r/\r<4294967296->K (.int r) H):R n "ended" [.int a,.int b,.int c] H K:=by
 obtain⟨n,rfl⟩:=aU hn
 refine eD (by lia) hb (by decide) λr hr=>?_
 symm
 have hc:=iQ (Builtin.bitXor c b-r)
 generalize Builtin.bitAnd (Builtin.bitXor c b-r) 4294967295=c at*
 refine eD (by lia) hc (by decide) λr hr=>?_
 symm
 have ha:=iQ (Builtin.bitXor a c-r)
 generalize Builtin.bitAnd (Builtin.bitXor a c-r) 4294967295=a at*
 refine eD (by lia) ha (by decide) λr hr=>?_
 symm
 have hb:=iQ (Builtin.bitXor b a-r)
 generalize Builtin.bitAnd (Builtin.bitXor b a-r) 4294967295=b at*
 refine eD (by lia) hb (by decide) λr hr=>?_
 symm
 have hc:=iQ (Builtin.bitXor c b-r)
 generalize Builtin.bitAnd (Builtin.bitXor c b-r) 4294967295=c at*
 refine eD (by lia) hc (by decide) λr hr=>?_
 symm
 have ha:=iQ (Builtin.bitXor a c-r)
 generalize Builtin.bitAnd (Builtin.bitXor a c-r) 4294967295=a at*
 refine eD (by lia) ha (by decide) λr hr=>?_
 symm
 have hb:=iQ (Builtin.bitXor b a-r)
 generalize Builtin.bitAnd (Builtin.bitXor b a-r) 4294967295=b at*
 refine eD (by lia) hb (by decide) λr hr=>?_
 exact h _ (iQ _)
noncomputable abbrev fB (l:List Int):Prop:=∀x∈l,aM x
theorem JW(hn:1<=n){xx:Int}(hl:l=[])(h:K (.bytes []) H):R n "turned" [.bytes l] H K:=by
 obtain⟨n,rfl⟩:=aU hn
 have fl:fits l=true:=hl▸rfl
 have ll:(l.length:Int)=0:=hl▸rfl
 symm
 refine gm fl ?_
 symm
 refine gm (by rw[ll];decide) ?_
 symm
 rw[show cF 0 ((l.length:Int)-1+1) 1=[]from by rw[ll];rfl]
 exact h
theorem RV(hn:1<=n){xx:Int}(h:∀r,0<=r/\r<4294967296->K (.int r) H):R n "number_of" [.bytes []] H K:=by
 obtain⟨n,rfl⟩:=aU hn
 exact h _ (by lia)
theorem JV(hn:1<=n){a0:Int}(ha0:aM a0)(hl:l=[a0])(h:K (.bytes [a0]) H):R n "turned" [.bytes l] H K:=by
 obtain⟨n,rfl⟩:=aU hn
 have fl:fits l=true:=hl▸rfl
 have ll:(l.length:Int)=1:=hl▸rfl
 have il0:item l 0=some a0:=hl▸rfl
 symm
 refine gm fl ?_
 symm
 refine gm (by rw[ll];decide) ?_
 symm
 rw[show cF 0 ((l.length:Int)-1+1) 1=[0]from by rw[ll];rfl]
 symm
 refine gm fl ?_
 symm
 rw[show item l ((l.length:Int)-1-0)=some a0 from by rw[ll];exact il0]
 symm
 refine gm (aG (j9 (by simp only[List.forall_mem_cons,List.not_mem_nil,false_implies,implies_true,and_true];exact ha0)) rfl) ?_
 exact h
theorem RI(hn:1<=n){a0:Int}(ha0:aM a0)(h:∀r,0<=r/\r<4294967296->K (.int r) H):R n "number_of" [.bytes [a0]] H K:=by
 obtain⟨n,rfl⟩:=aU hn
 have qa0:=ha0.1;have ra0:=ha0.2
 exact h _ (by rw[n1 ha0];lia)
theorem LG(hn:1<=n){a0 a1:Int}(ha0:aM a0)(ha1:aM a1)(hl:l=[a0,a1])(h:K (.bytes [a1,a0]) H):R n "turned" [.bytes l] H K:=by
 obtain⟨n,rfl⟩:=aU hn
 have fl:fits l=true:=hl▸rfl
 have ll:(l.length:Int)=2:=hl▸rfl
 have il0:item l 0=some a0:=hl▸rfl
 have il1:item l 1=some a1:=hl▸rfl
 symm
 refine gm fl ?_
 symm
 refine gm (by rw[ll];decide) ?_
 symm
 rw[show cF 0 ((l.length:Int)-1+1) 1=[0,1]from by rw[ll];rfl]
 symm
 refine gm fl ?_
 symm
 rw[show item l ((l.length:Int)-1-0)=some a1 from by rw[ll];exact il1]
 symm
 refine gm fl ?_
 symm
 rw[show item l ((l.length:Int)-1-1)=some a0 from by rw[ll];exact il0]
 symm
 refine gm (aG (j9 (by simp only[List.forall_mem_cons,List.not_mem_nil,false_implies,implies_true,and_true];exact⟨ha1,ha0⟩)) rfl) ?_
 exact h
theorem Q7(hn:1<=n){a0 a1:Int}(ha0:aM a0)(ha1:aM a1)(h:∀r,0<=r/\r<4294967296->K (.int r) H):R n "number_of" [.bytes [a0,a1]] H K:=by
 obtain⟨n,rfl⟩:=aU hn
 have qa0:=ha0.1;have ra0:=ha0.2
 have qa1:=ha1.1;have ra1:=ha1.2
 symm
 refine gm (by rw[n1 ha0];exact aG rfl (aY (by lia) (by lia))) ?_
 exact h _ (by rw[n2 ha0 ha1];lia)
theorem LN(hn:1<=n){a0 a1 a2:Int}(ha0:aM a0)(ha1:aM a1)(ha2:aM a2)(hl:l=[a0,a1,a2])(h:K (.bytes [a2,a1,a0]) H):R n "turned" [.bytes l] H K:=by
 obtain⟨n,rfl⟩:=aU hn
 have fl:fits l=true:=hl▸rfl
 have ll:(l.length:Int)=3:=hl▸rfl
 have il0:item l 0=some a0:=hl▸rfl
 have il1:item l 1=some a1:=hl▸rfl
 have il2:item l 2=some a2:=hl▸rfl
 symm
 refine gm fl ?_
 symm
 refine gm (by rw[ll];decide) ?_
 symm
 rw[show cF 0 ((l.length:Int)-1+1) 1=[0,1,2]from by rw[ll];rfl]
 symm
 refine gm fl ?_
 symm
 rw[show item l ((l.length:Int)-1-0)=some a2 from by rw[ll];exact il2]
 symm
 refine gm fl ?_
 symm
 rw[show item l ((l.length:Int)-1-1)=some a1 from by rw[ll];exact il1]
 symm
 refine gm fl ?_
 symm
 rw[show item l ((l.length:Int)-1-2)=some a0 from by rw[ll];exact il0]
 symm
 refine gm (aG (j9 (by simp only[List.forall_mem_cons,List.not_mem_nil,false_implies,implies_true,and_true];exact⟨ha2,ha1,ha0⟩)) rfl) ?_
 exact h
theorem Q5(hn:1<=n){a0 a1 a2:Int}(ha0:aM a0)(ha1:aM a1)(ha2:aM a2)(h:∀r,0<=r/\r<4294967296->K (.int r) H):R n "number_of" [.bytes [a0,a1,a2]] H K:=by
 obtain⟨n,rfl⟩:=aU hn
 have qa0:=ha0.1;have ra0:=ha0.2
 have qa1:=ha1.1;have ra1:=ha1.2
 have qa2:=ha2.1;have ra2:=ha2.2
 symm
 refine gm (by rw[n1 ha0];exact aG rfl (aY (by lia) (by lia))) ?_
 symm
 refine gm (by rw[n2 ha0 ha1];exact aG rfl (aY (by lia) (by lia))) ?_
 exact h _ (by rw[n3 ha0 ha1 ha2];lia)
theorem MB(hn:1<=n){a0 a1 a2 a3:Int}(ha0:aM a0)(ha1:aM a1)(ha2:aM a2)(ha3:aM a3)(hl:l=[a0,a1,a2,a3])(h:K (.bytes [a3,a2,a1,a0]) H):R n "turned" [.bytes l] H K:=by
 obtain⟨n,rfl⟩:=aU hn
 have fl:fits l=true:=hl▸rfl
 have ll:(l.length:Int)=4:=hl▸rfl
 have il0:item l 0=some a0:=hl▸rfl
 have il1:item l 1=some a1:=hl▸rfl
 have il2:item l 2=some a2:=hl▸rfl
 have il3:item l 3=some a3:=hl▸rfl
 symm
 refine gm fl ?_
 symm
 refine gm (by rw[ll];decide) ?_
 symm
 rw[show cF 0 ((l.length:Int)-1+1) 1=[0,1,2,3]from by rw[ll];rfl]
 symm
 refine gm fl ?_
 symm
 rw[show item l ((l.length:Int)-1-0)=some a3 from by rw[ll];exact il3]
 symm
 refine gm fl ?_
 symm
 rw[show item l ((l.length:Int)-1-1)=some a2 from by rw[ll];exact il2]
 symm
 refine gm fl ?_
 symm
 rw[show item l ((l.length:Int)-1-2)=some a1 from by rw[ll];exact il1]
 symm
 refine gm fl ?_
 symm
 rw[show item l ((l.length:Int)-1-3)=some a0 from by rw[ll];exact il0]
 symm
 refine gm (aG (j9 (by simp only[List.forall_mem_cons,List.not_mem_nil,false_implies,implies_true,and_true];exact⟨ha3,ha2,ha1,ha0⟩)) rfl) ?_
 exact h
theorem RP(hn:1<=n){a0 a1 a2 a3:Int}(ha0:aM a0)(ha1:aM a1)(ha2:aM a2)(ha3:aM a3)(h:∀r,0<=r/\r<4294967296->K (.int r) H):R n "number_of" [.bytes [a0,a1,a2,a3]] H K:=by
 obtain⟨n,rfl⟩:=aU hn
 have qa0:=ha0.1;have ra0:=ha0.2
 have qa1:=ha1.1;have ra1:=ha1.2
 have qa2:=ha2.1;have ra2:=ha2.2
 have qa3:=ha3.1;have ra3:=ha3.2
 symm
 refine gm (by rw[n1 ha0];exact aG rfl (aY (by lia) (by lia))) ?_
 symm
 refine gm (by rw[n2 ha0 ha1];exact aG rfl (aY (by lia) (by lia))) ?_
 symm
 refine gm (by rw[n3 ha0 ha1 ha2];exact aG rfl (aY (by lia) (by lia))) ?_
 exact h _ (by rw[n4 ha0 ha1 ha2 ha3];lia)
theorem BI(hn:1<=n)(hl:l.length<=4)(ho:fB l)(h:∀m,fB m->m.length<=4->K (.bytes m) H):R n "turned" [.bytes l] H K:=by
 match l,ho,hl with
 | [],_,_=>exact JW hn (xx:=0) rfl (h _ (by intro x hx;rcases hx) (by simp))
 | [a],ho,_=>exact JV hn (ho a (by simp)) rfl (h _ ho (by simp))
 | [a,b],ho,_=>exact LG hn (ho a (by simp)) (ho b (by simp)) rfl (h _ (by intro x hx;simp only[List.mem_cons,List.not_mem_nil,or_false]at hx;rcases hx with rfl|rfl<;>exact ho _ (by simp)) (by simp))
 | [a,b,c],ho,_=>exact LN hn (ho a (by simp)) (ho b (by simp)) (ho c (by simp)) rfl (h _ (by intro x hx;simp only[List.mem_cons,List.not_mem_nil,or_false]at hx;rcases hx with rfl|rfl|rfl<;>exact ho _ (by simp)) (by simp))
 | [a,b,c,d],ho,_=>exact MB hn (ho a (by simp)) (ho b (by simp)) (ho c (by simp)) (ho d (by simp)) rfl (h _ (by intro x hx;simp only[List.mem_cons,List.not_mem_nil,or_false]at hx;rcases hx with rfl|rfl|rfl|rfl<;>exact ho _ (by simp)) (by simp))
 |_::_::_::_::_::_,_,hl=>simp at hl
theorem I0(hn:1<=n)(hl:l.length<=4)(ho:fB l)(h:∀r,0<=r/\r<4294967296->K (.int r) H):R n "number_of" [.bytes l] H K:=by
 match l,ho,hl with
 | [],_,_=>exact RV hn (xx:=0) h
 | [a],ho,_=>exact RI hn (ho a (by simp)) h
 | [a,b],ho,_=>exact Q7 hn (ho a (by simp)) (ho b (by simp)) h
 | [a,b,c],ho,_=>exact Q5 hn (ho a (by simp)) (ho b (by simp)) (ho c (by simp)) h
 | [a,b,c,d],ho,_=>exact RP hn (ho a (by simp)) (ho b (by simp)) (ho c (by simp)) (ho d (by simp)) h
 |_::_::_::_::_::_,_,hl=>simp at hl
theorem a9{d a:Int}(h:0<=a):IV d (.int a)=some a:=if_pos h
theorem LR{a b:Int}(h:fB l):fB (cut l a b):=λx hx=>h x (List.mem_of_mem_take (List.mem_of_mem_drop hx))
theorem tZ(hn:2<=n){a:Int}(hl:l.length<1000)(ho:fB l)(ha:0<=a)(h:∀r,0<=r/\r<4294967296->K (.int r) H):R n "little_word" [.bytes l,.int a] H K:=by
 obtain⟨n,rfl⟩:=aU hn
 symm
 rw[a9 ha]
 symm
 rw[a9 (by lia)]
 symm
 refine gm (fits_of hl) ?_
 refine BI (by lia) (JR ha rfl) (LR ho) λm hm hm4=>?_
 exact I0 (by lia) hm4 hm h
theorem pZ(hn:3<=n){s:Int}(hl:0<l.length/\l.length<=12)(ho:fB l)(h:∀r,0<=r/\r<4294967296->K (.int r) H):R n "jhash" [.bytes l,.int s] H K:=by
 obtain⟨n,rfl⟩:=aU hn
 have fl:fits l=true:=fits_of (by lia)
 symm
 refine gm fl ?_
 symm
 refine gm fl ?_
 symm
 with_reducible refine gL (dF (by lia:¬(12:Int)<l.length-0)) ?_
 symm
 refine gm fl ?_
 symm
 rw[aB,dF (by lia:¬(0:Int)=l.length)]
 refine tZ (by lia) (by lia) ho (by decide) λr1 h1=>?_
 refine tZ (by lia) (by lia) ho (by decide) λr2 h2=>?_
 symm
 refine tZ (by lia) (by lia) ho (by decide) λr3 h3=>?_
 symm
 exact IM (by lia) (iQ _) (iQ _) (iQ _) h
theorem lZ(hn:1<=n){u m:Int}(hu:0<=u/\u<4294967296)(hm:0<m/\m<100000)(h:∀r,0<=r/\r<m->K (.int r) H):R n "scaled" [.int u,.int m] H K:=by
 obtain⟨n,rfl⟩:=aU hn
 symm
 refine gm (aG (aY hu.1 (by lia)) (aY (by lia) (by lia))) ?_
 refine h _ ?_
 rw[fdiv_eq (by decide)]
 show 0<=u*m/4294967296/\u*m/4294967296<m
 constructor
 ·exact Int.ediv_nonneg (Int.mul_nonneg hu.1 (by lia)) (by decide)
 ·apply Int.ediv_lt_of_lt_mul (by decide)
  have:=Int.mul_lt_mul_of_pos_right hu.2 hm.1
  lia
noncomputable def aK (pr:Int):V:=.obj "Packet" [("data",.ref 6),("link",.bar []),("kind",.int 2048),("l4",.int pr),("off",.int 20),("place",.int 0),("meta",.ref 7)]
theorem bI(a b:List Int):j3 a b=true↔a=b:=by
 induction a generalizing b with
 |nil=>rcases b<;>simp[j3]
 |cons x xs ih=>induction b using List.casesOn with
   |nil=>simp[j3]
   |cons y ys=>simp[j3,ih]
theorem part4(hn:2<=n){pr b:Int}(hl:l.length<1000)(hb:0<=b)(hb2:b+4<=l.length)
  (h:K (.bytes (cut l (0+b) (0+b+4))) (h0::h1::h2::h3::h4::aK pr::.bar l::t)):R n "part" [.ref 5,.str "network",.int b,.int 4] (h0::h1::h2::h3::h4::aK pr::.bar l::t) K:=by
 obtain⟨n,rfl⟩:=DO hn
 symm
 with_reducible refine gL (dF (by lia:¬b<0)) ?_
 symm
 refine gm (fits_of hl) ?_
 symm
 with_reducible refine gL (dF (by lia:¬(l.length:Int)<0+b+4)) ?_
 symm
 refine hd (a9 (by lia)) ?_
 symm
 refine hd (a9 (by lia)) ?_
 symm
 refine gm (fits_of hl) ?_
 symm
 refine gm (fits_of (Nat.lt_of_le_of_lt (hJ _ _ _) hl)) ?_
 exact h
theorem pH(hn:2<=n){pr b k:Int}(hl:l.length<1000)(hb:0<=b)(hk:0<=k)(hb2:20+b+k<=l.length)
  (h:K (.bytes (cut l (20+b) (20+b+k))) (h0::h1::h2::h3::h4::aK pr::.bar l::t)):R n "part" [.ref 5,.str "transport",.int b,.int k] (h0::h1::h2::h3::h4::aK pr::.bar l::t) K:=by
 obtain⟨n,rfl⟩:=DO hn
 symm
 with_reducible refine gL (dF (by lia:¬b<0)) ?_
 symm
 refine gm (fits_of hl) ?_
 symm
 with_reducible refine gL (dF (by lia:¬(l.length:Int)<20+b+k)) ?_
 symm
 refine hd (a9 (by lia)) ?_
 symm
 refine hd (a9 (by lia)) ?_
 symm
 refine gm (fits_of hl) ?_
 symm
 refine gm (fits_of (Nat.lt_of_le_of_lt (hJ _ _ _) hl)) ?_
 exact h
theorem putN(hn:2<=n){pr b:Int}(hl:l.length<1000)(hw:w.length=4)(hb:0<=b)(hb2:b+4<=l.length)
  (h:K .none (h0::h1::h2::h3::h4::aK pr::.bar (l.take (0+b).toNat++w++l.drop (0+b+4).toNat)::t)):R n "put_part" [.ref 5,.str "network",.int b,.bytes w] (h0::h1::h2::h3::h4::aK pr::.bar l::t) K:=by
 obtain⟨n,rfl⟩:=DO hn
 have fl:=fits_of hl
 have fw:fits w=true:=fits_of (by lia)
 rw[show(0+b+4:Int)=0+b+(w.length:Int)by lia]at h
 symm
 with_reducible refine gL (dF (by lia:¬b<0)) ?_
 symm
 refine gm (fw) ?_
 symm
 refine gm fl ?_
 symm
 with_reducible refine gL (dF (by lia:¬(l.length:Int)<0+b+w.length)) ?_
 symm
 refine gm (fw) ?_
 symm
 refine gm (aG (aG (aG (aG fl (dT (by lia))) (dT (by lia))) (dT (by lia))) (dT (by lia))) ?_
 exact h
theorem ON(hn:2<=n){pr b k:Int}(hl:l.length<1000)(hw:(w.length:Int)=k)(hb:0<=b)(hb2:20+b+k<=l.length)
  (h:K .none (h0::h1::h2::h3::h4::aK pr::.bar (l.take (20+b).toNat++w++l.drop (20+b+k).toNat)::t)):R n "put_part" [.ref 5,.str "transport",.int b,.bytes w] (h0::h1::h2::h3::h4::aK pr::.bar l::t) K:=by
 obtain⟨n,rfl⟩:=DO hn
 have fl:=fits_of hl
 have fw:fits w=true:=fits_of (by lia)
 rw[show(20+b+k:Int)=20+b+(w.length:Int)by lia]at h
 symm
 with_reducible refine gL (dF (by lia:¬b<0)) ?_
 symm
 refine gm (fw) ?_
 symm
 refine gm fl ?_
 symm
 with_reducible refine gL (dF (by lia:¬(l.length:Int)<20+b+w.length)) ?_
 symm
 refine gm (fw) ?_
 symm
 refine gm (aG (aG (aG (aG fl (dT (by lia))) (dT (by lia))) (dT (by lia))) (dT (by lia))) ?_
 exact h
theorem lU(hn:1<=n){a b:Int}(hl:l.length<1000)(ha:0<=a)(hab:a<=b)(hb2:b<=l.length)
  (h:K (.bytes (cut l a b)) H):R n "pairs_of" [.bytes l,.int a,.int b] H K:=by
 obtain⟨n,rfl⟩:=aU hn
 have fl:=fits_of hl
 have fc:fits (cut l a b)=true:=fits_of (Nat.lt_of_le_of_lt (hJ _ _ _) hl)
 symm
 refine hd (a9 (by lia)) ?_
 symm
 refine hd (a9 (by lia)) ?_
 symm
 refine gm fl ?_
 symm
 refine gm (fc) ?_
 symm
 refine gm (fc) ?_
 symm
 with_reducible refine gL (dF (by rw[BD ha hab hb2];exact Int.lt_irrefl _)) ?_
 exact h
theorem mL(hn:1<=n){a b:Int}(hl:l.length<1000)(ha:0<=a)(hab:a<=b)(hb2:b<=l.length)
  (h:K (.bytes (cut l a b)) (h0::h1::h2::h3::h4::h5::.bar l::t)):R n "pairs_of" [.ref 6,.int a,.int b] (h0::h1::h2::h3::h4::h5::.bar l::t) K:=by
 obtain⟨n,rfl⟩:=aU hn
 have fl:=fits_of hl
 have fc:fits (cut l a b)=true:=fits_of (Nat.lt_of_le_of_lt (hJ _ _ _) hl)
 symm
 refine hd (a9 (by lia)) ?_
 symm
 refine hd (a9 (by lia)) ?_
 symm
 refine gm fl ?_
 symm
 refine gm (fc) ?_
 symm
 refine gm (fc) ?_
 symm
 with_reducible refine gL (dF (by rw[BD ha hab hb2];exact Int.lt_irrefl _)) ?_
 exact h
theorem IJ(hn:3<=n){p x y a a0 a1 a2 a3 c0 c1 c2 c3:Int}{pr:Int}(hx:aM x)(hy:aM y)(ha0:aM a0)(ha1:aM a1)(ha2:aM a2)(ha3:aM a3)(hc0:aM c0)(hc1:aM c1)(hc2:aM c2)(hc3:aM c3)(hl:l.length<1000)(hl0:l0.length=l.length)(hp:0<=p)(hp2:p+2<=l.length)(hc:cut l0 p (p+2)=[x,y])(hA:0<=a)(hA2:a+4<=l.length)(ho:cut l0 a (a+4)=[a0,a1,a2,a3])(hw:cut l a (a+4)=[c0,c1,c2,c3])
 (h:∀r,0<=r->r<65536->(r-(x*256+y+((a0*256+a1)+(a2*256+a3))-((c0*256+c1)+(c2*256+c3))))%65535=0->K .none (h0::h1::h2::h3::h4::aK pr::.bar (l.take p.toNat++[b1 r,b0 r]++l.drop (p+2).toNat)::t)):R n "mend_at" [.ref 5,.bytes l0,.int p,.lst [.tup [.int a,.int (a+4)]],.bool false] (h0::h1::h2::h3::h4::aK pr::.bar l::t) K:=by
 obtain⟨n,rfl⟩:=aU hn
 have f0:fits l0=true:=fits_of (by lia)
 have fl:=fits_of hl
 have hx':=hx;have hy':=hy
 unfold aM at hx' hy'
 symm
 rw[a9 (by lia)]
 symm
 refine hd (a9 (by lia)) ?_
 symm
 refine gm (f0) ?_
 refine hR (by rw[hc]) ?_
 refine x8 (by lia) hx hy ?_
 symm
 refine gm (dT (by lia:a<a+4)) ?_
 symm
 refine lU (by lia) (by lia) hA (by lia) (by lia) ?_
 refine mL (by lia) hl hA (by lia) (by lia) ?_
 refine E0 (by lia) (by lia) ha0 ha1 ha2 ha3 hc0 hc1 hc2 hc3 ho hw λr r0 r1 rc=>?_
 symm
 refine jP (by lia) (by lia) (by lia) ?_
 symm
 refine gm (aG (aG (aG (aG fl (dT (by lia))) (dT (by lia))) (dT (by lia))) (dT (by simp;lia))) ?_
 exact h (r) (by lia) (by lia) rc
theorem AV(hn:3<=n){p x y:Int}{pr:Int}(hx:aM x)(hy:aM y)(hl:l.length<1000)(hl0:l0.length=l.length)(hp:0<=p)(hp2:p+2<=l.length)(hc:cut l0 p (p+2)=[x,y])
 (h:∀r,0<=r->r<65536->(r-(x*256+y+(0)-(0)))%65535=0->K .none (h0::h1::h2::h3::h4::aK pr::.bar (l.take p.toNat++[b1 r,b0 r]++l.drop (p+2).toNat)::t)):R n "mend_at" [.ref 5,.bytes l0,.int p,.lst [.tup [.int 0,.int 0]],.bool false] (h0::h1::h2::h3::h4::aK pr::.bar l::t) K:=by
 obtain⟨n,rfl⟩:=aU hn
 have f0:fits l0=true:=fits_of (by lia)
 have fl:=fits_of hl
 have hx':=hx;have hy':=hy
 unfold aM at hx' hy'
 symm
 rw[a9 (by lia)]
 symm
 refine hd (a9 (by lia)) ?_
 symm
 refine gm (f0) ?_
 refine hR (by rw[hc]) ?_
 refine x8 (by lia) hx hy ?_
 symm
 refine jP (by lia) (by lia) (by lia) ?_
 symm
 refine gm (aG (aG (aG (aG fl (dT (by lia))) (dT (by lia))) (dT (by lia))) (dT (by simp;lia))) ?_
 exact h (x*256+y) (by lia) (by lia) (by lia)
theorem QO(hn:3<=n){p x y a a0 a1 a2 a3 c0 c1 c2 c3:Int}{pr:Int}(hx:aM x)(hy:aM y)(ha0:aM a0)(ha1:aM a1)(ha2:aM a2)(ha3:aM a3)(hc0:aM c0)(hc1:aM c1)(hc2:aM c2)(hc3:aM c3)(hl:l.length<1000)(hl0:l0.length=l.length)(hp:0<=p)(hp2:p+2<=l.length)(hc:cut l0 p (p+2)=[x,y])(hA:0<=a)(hA2:a+4<=l.length)(ho:cut l0 a (a+4)=[a0,a1,a2,a3])(hw:cut l a (a+4)=[c0,c1,c2,c3])
 (h:∀r,0<=r->r<65536->(r-(x*256+y+((a0*256+a1)+(a2*256+a3))-((c0*256+c1)+(c2*256+c3))))%65535=0->K .none (h0::h1::h2::h3::h4::aK pr::.bar (l.take p.toNat++[b1 r,b0 r]++l.drop (p+2).toNat)::t)):R n "mend_at" [.ref 5,.bytes l0,.int p,.lst [.tup [.int 0,.int 0],.tup [.int a,.int (a+4)]],.bool false] (h0::h1::h2::h3::h4::aK pr::.bar l::t) K:=by
 obtain⟨n,rfl⟩:=aU hn
 have f0:fits l0=true:=fits_of (by lia)
 have fl:=fits_of hl
 have hx':=hx;have hy':=hy
 unfold aM at hx' hy'
 symm
 rw[a9 (by lia)]
 symm
 refine hd (a9 (by lia)) ?_
 symm
 refine gm (f0) ?_
 refine hR (by rw[hc]) ?_
 refine x8 (by lia) hx hy ?_
 symm
 refine gm (dT (by lia:a<a+4)) ?_
 symm
 refine lU (by lia) (by lia) hA (by lia) (by lia) ?_
 symm
 refine mL (by lia) hl hA (by lia) (by lia) ?_
 refine E0 (by lia) (by lia) ha0 ha1 ha2 ha3 hc0 hc1 hc2 hc3 ho hw λr r0 r1 rc=>?_
 symm
 refine jP (by lia) (by lia) (by lia) ?_
 symm
 refine gm (aG (aG (aG (aG fl (dT (by lia))) (dT (by lia))) (dT (by lia))) (dT (by simp;lia))) ?_
 exact h (r) (by lia) (by lia) rc
theorem SK(hn:3<=n){p x y a a0 a1 c0 c1:Int}{pr:Int}(hx:aM x)(hy:aM y)(ha0:aM a0)(ha1:aM a1)(hc0:aM c0)(hc1:aM c1)(hl:l.length<1000)(hl0:l0.length=l.length)(hp:0<=p)(hp2:p+2<=l.length)(hc:cut l0 p (p+2)=[x,y])(hA:0<=a)(hA2:a+2<=l.length)(ho:cut l0 a (a+2)=[a0,a1])(hw:cut l a (a+2)=[c0,c1])
 (h:∀r,0<=r->r<65536->(r-(x*256+y+((a0*256+a1))-((c0*256+c1))))%65535=0->K .none (h0::h1::h2::h3::h4::aK pr::.bar (l.take p.toNat++[b1 r,b0 r]++l.drop (p+2).toNat)::t)):R n "mend_at" [.ref 5,.bytes l0,.int p,.lst [.tup [.int a,.int (a+2)]],.bool false] (h0::h1::h2::h3::h4::aK pr::.bar l::t) K:=by
 obtain⟨n,rfl⟩:=aU hn
 have f0:fits l0=true:=fits_of (by lia)
 have fl:=fits_of hl
 have hx':=hx;have hy':=hy
 unfold aM at hx' hy'
 symm
 rw[a9 (by lia)]
 symm
 refine hd (a9 (by lia)) ?_
 symm
 refine gm (f0) ?_
 refine hR (by rw[hc]) ?_
 refine x8 (by lia) hx hy ?_
 symm
 refine gm (dT (by lia:a<a+2)) ?_
 symm
 refine lU (by lia) (by lia) hA (by lia) (by lia) ?_
 refine mL (by lia) hl hA (by lia) (by lia) ?_
 refine EO (by lia) (by lia) ha0 ha1 hc0 hc1 ho hw λr r0 r1 rc=>?_
 refine jP (by lia) (by lia) (by lia) ?_
 symm
 refine gm (aG (aG (aG (aG fl (dT (by lia))) (dT (by lia))) (dT (by lia))) (dT (by simp;lia))) ?_
 exact h (r) (by lia) (by lia) rc
theorem QJ(hn:3<=n){p x y a a0 a1 c0 c1:Int}{pr:Int}(hx:aM x)(hy:aM y)(ha0:aM a0)(ha1:aM a1)(hc0:aM c0)(hc1:aM c1)(hl:l.length<1000)(hl0:l0.length=l.length)(hp:0<=p)(hp2:p+2<=l.length)(hc:cut l0 p (p+2)=[x,y])(hA:0<=a)(hA2:a+2<=l.length)(ho:cut l0 a (a+2)=[a0,a1])(hw:cut l a (a+2)=[c0,c1])
 (h:∀r,0<=r->r<65536->(r-(x*256+y+((a0*256+a1))-((c0*256+c1))))%65535=0->K .none (h0::h1::h2::h3::h4::aK pr::.bar (l.take p.toNat++[b1 r,b0 r]++l.drop (p+2).toNat)::t)):R n "mend_at" [.ref 5,.bytes l0,.int p,.lst [.tup [.int a,.int (a+2)],.tup [.int 0,.int 0]],.bool false] (h0::h1::h2::h3::h4::aK pr::.bar l::t) K:=by
 obtain⟨n,rfl⟩:=aU hn
 have f0:fits l0=true:=fits_of (by lia)
 have fl:=fits_of hl
 have hx':=hx;have hy':=hy
 unfold aM at hx' hy'
 symm
 rw[a9 (by lia)]
 symm
 refine hd (a9 (by lia)) ?_
 symm
 refine gm (f0) ?_
 refine hR (by rw[hc]) ?_
 refine x8 (by lia) hx hy ?_
 symm
 refine gm (dT (by lia:a<a+2)) ?_
 symm
 refine lU (by lia) (by lia) hA (by lia) (by lia) ?_
 refine mL (by lia) hl hA (by lia) (by lia) ?_
 refine EO (by lia) (by lia) ha0 ha1 hc0 hc1 ho hw λr r0 r1 rc=>?_
 symm
 refine jP (by lia) (by lia) (by lia) ?_
 symm
 refine gm (aG (aG (aG (aG fl (dT (by lia))) (dT (by lia))) (dT (by lia))) (dT (by simp;lia))) ?_
 exact h (r) (by lia) (by lia) rc
theorem KZ(hn:3<=n){p x y a a0 a1 a2 a3 c0 c1 c2 c3:Int}{pr:Int}(hx:aM x)(hy:aM y)(ha0:aM a0)(ha1:aM a1)(ha2:aM a2)(ha3:aM a3)(hc0:aM c0)(hc1:aM c1)(hc2:aM c2)(hc3:aM c3)(hl:l.length<1000)(hl0:l0.length=l.length)(hp:0<=p)(hp2:p+2<=l.length)(hc:cut l0 p (p+2)=[x,y])(hA:0<=a)(hA2:a+4<=l.length)(ho:cut l0 a (a+4)=[a0,a1,a2,a3])(hw:cut l a (a+4)=[c0,c1,c2,c3])
 (hz:x*256+y=0->K .none (h0::h1::h2::h3::h4::aK pr::.bar l::t))
 (h:x*256+y≠0->∀r,0<=r->r<65536->(r-(x*256+y+((a0*256+a1)+(a2*256+a3))-((c0*256+c1)+(c2*256+c3))))%65535=0->r≠0->K .none (h0::h1::h2::h3::h4::aK pr::.bar (l.take p.toNat++[b1 r,b0 r]++l.drop (p+2).toNat)::t)):R n "mend_at" [.ref 5,.bytes l0,.int p,.lst [.tup [.int 0,.int 0],.tup [.int a,.int (a+4)]],.bool true] (h0::h1::h2::h3::h4::aK pr::.bar l::t) K:=by
 obtain⟨n,rfl⟩:=aU hn
 have f0:fits l0=true:=fits_of (by lia)
 have fl:=fits_of hl
 have hx':=hx;have hy':=hy
 unfold aM at hx' hy'
 symm
 rw[a9 (by lia)]
 symm
 rw[a9 (by lia)]
 symm
 refine gm (f0) ?_
 refine hR (by rw[hc]) ?_
 refine x8 (by lia) hx hy ?_
 symm
 by_cases cy:x*256+y=0
 ·refine hd (by rw[aB,dT cy]) ?_
  exact hz cy
 refine hd (by rw[aB,dF cy]) ?_
 symm
 refine gm (dT (by lia:a<a+4)) ?_
 symm
 refine lU (by lia) (by lia) hA (by lia) (by lia) ?_
 symm
 refine mL (by lia) hl hA (by lia) (by lia) ?_
 refine E0 (by lia) (by lia) ha0 ha1 ha2 ha3 hc0 hc1 hc2 hc3 ho hw λr r0 r1 rc=>?_
 symm
 by_cases cz:r=0
 ·refine hd (by rw[aB,dT cz]) ?_
  symm
  refine jP (by lia) (by decide) (by decide) ?_
  symm
  refine gm (aG (aG (aG (aG fl (dT (by lia))) (dT (by lia))) (dT (by lia))) (dT (by simp;lia))) ?_
  exact h cy 65535 (by decide) (by decide) (by lia) (by decide)
 refine hd (by rw[aB,dF cz]) ?_
 symm
 refine jP (by lia) (by lia) (by lia) ?_
 symm
 refine gm (aG (aG (aG (aG fl (dT (by lia))) (dT (by lia))) (dT (by lia))) (dT (by simp;lia))) ?_
 exact h cy (r) (by lia) (by lia) rc cz
theorem K8(hn:3<=n){p x y a a0 a1 c0 c1:Int}{pr:Int}(hx:aM x)(hy:aM y)(ha0:aM a0)(ha1:aM a1)(hc0:aM c0)(hc1:aM c1)(hl:l.length<1000)(hl0:l0.length=l.length)(hp:0<=p)(hp2:p+2<=l.length)(hc:cut l0 p (p+2)=[x,y])(hA:0<=a)(hA2:a+2<=l.length)(ho:cut l0 a (a+2)=[a0,a1])(hw:cut l a (a+2)=[c0,c1])
 (hz:x*256+y=0->K .none (h0::h1::h2::h3::h4::aK pr::.bar l::t))
 (h:x*256+y≠0->∀r,0<=r->r<65536->(r-(x*256+y+((a0*256+a1))-((c0*256+c1))))%65535=0->r≠0->K .none (h0::h1::h2::h3::h4::aK pr::.bar (l.take p.toNat++[b1 r,b0 r]++l.drop (p+2).toNat)::t)):R n "mend_at" [.ref 5,.bytes l0,.int p,.lst [.tup [.int a,.int (a+2)],.tup [.int 0,.int 0]],.bool true] (h0::h1::h2::h3::h4::aK pr::.bar l::t) K:=by
 obtain⟨n,rfl⟩:=aU hn
 have f0:fits l0=true:=fits_of (by lia)
 have fl:=fits_of hl
 have hx':=hx;have hy':=hy
 unfold aM at hx' hy'
 symm
 rw[a9 (by lia)]
 symm
 rw[a9 (by lia)]
 symm
 refine gm (f0) ?_
 refine hR (by rw[hc]) ?_
 refine x8 (by lia) hx hy ?_
 symm
 by_cases cy:x*256+y=0
 ·refine hd (by rw[aB,dT cy]) ?_
  exact hz cy
 refine hd (by rw[aB,dF cy]) ?_
 symm
 refine gm (dT (by lia:a<a+2)) ?_
 symm
 refine lU (by lia) (by lia) hA (by lia) (by lia) ?_
 refine mL (by lia) hl hA (by lia) (by lia) ?_
 refine EO (by lia) (by lia) ha0 ha1 hc0 hc1 ho hw λr r0 r1 rc=>?_
 symm
 by_cases cz:r=0
 ·refine hd (by rw[aB,dT cz]) ?_
  symm
  refine jP (by lia) (by decide) (by decide) ?_
  symm
  refine gm (aG (aG (aG (aG fl (dT (by lia))) (dT (by lia))) (dT (by lia))) (dT (by simp;lia))) ?_
  exact h cy 65535 (by decide) (by decide) (by lia) (by decide)
 refine hd (by rw[aB,dF cz]) ?_
 symm
 refine jP (by lia) (by lia) (by lia) ?_
 symm
 refine gm (aG (aG (aG (aG fl (dT (by lia))) (dT (by lia))) (dT (by lia))) (dT (by simp;lia))) ?_
 exact h cy (r) (by lia) (by lia) rc cz
noncomputable def fnX (x:Str):Fn:=match fnOf x top with
 |some f=>f
 |none=>⟨[],[],[],(default:Scope)⟩
theorem dY:R (n+1) "sums_met" as H K=cD False And aN (run False And aN top n) (fnX "sums_met") as H (λd H'=>g8 False H.length d H' K):=by kernel_rfl
noncomputable def w8 (n:Nat) (v:V):Prop:=∀H',fz 8 n H' v=some v
noncomputable def gC (H:Hp):Prop:=∀v∈H,w8 H.length v
theorem jL{β:Type}{f:β->Option β}{l:List β}(h:∀x∈l,f x=some x):cG f l=some l:=by
 induction l with
 |nil=>rfl
 |cons x xs ih=>
   show(match f x with|none=>none|some y=>match cG f xs with|none=>none|some ys=>some (y::ys))=_
   rw[h x (by simp),ih λy hy=>h y (by simp[hy])]
theorem eF{H ext:Hp}(h:gC H):QS H.length (H++ext)=some H:=by
 unfold QS;rw[List.take_left]
 exact jL λv hv=>h v hv _
noncomputable def dR (t:Hp):Prop:=(∃a b,t=[a,b])\/∃a b c,t=[a,b,c]
noncomputable abbrev eE (h0 h1 h2 h3 h4:V) (pr:Int) (l:List Int) (t:Hp):Hp:=h0::h1::h2::h3::h4::aK pr::.bar l::t
theorem MY(ht:dR t)(hl:l.length<1000)(hl2:40<=l.length)(hd:item l 0=some 69)(hH:gC (eE h0 h1 h2 h3 h4 6 l t))(m:Nat)(hm:3<=m)(K:V->Hp->Prop)
 (h:K (.lst [.tup [.int 10,.lst [.tup [.int 12,.int 16]]],.tup [.int 36,.lst [.tup [.int 0,.int 0],.tup [.int 12,.int 16]]]]) (eE h0 h1 h2 h3 h4 6 l t)):R m "sums_met" [.ref 5,.int 12,.int 16] (eE h0 h1 h2 h3 h4 6 l t) K:=by
 obtain⟨n,rfl⟩:∃n,m=n+2:=⟨m-2,by lia⟩
 have fl:=fits_of hl
 rw[dY]
 refine(?_:∀K':V->Hp->Prop,K' (.lst [.tup [.int 10,.lst [.tup [.int 12,.int 16]]],.tup [.int 36,.ref (t.length+8)]]) (eE h0 h1 h2 h3 h4 6 l (t++[.lst [.tup [.int 10,.lst [.tup [.int 12,.int 16]]],.tup [.int 36,.ref (t.length+8)]],.lst [.tup [.int 0,.int 0],.tup [.int 12,.int 16]]]))->cD False And aN (run False And aN top (n+1)) (fnX "sums_met") [.ref 5,.int 12,.int 16] (eE h0 h1 h2 h3 h4 6 l t) K') _ ?_
 ·clear h
  intro K' h'
  rcases ht with⟨a,b,rfl⟩|⟨a,b,c,rfl⟩
  all_goals
   symm
   refine gm fl ?_
   symm
   with_reducible refine nS (hd) ?_
   symm
   refine gm fl ?_
   symm
   rw[dF (by lia:¬(l.length:Int)<16)]
   symm
   refine gm fl ?_
   symm
   refine gm (dT (by lia:(10:Int)+2<=l.length)) ?_
   refine⟨rfl,?_⟩
   symm
   refine gm fl ?_
   symm
   refine gm (dT (by lia:(20:Int)+16+2<=l.length)) ?_
   refine⟨rfl,?_⟩
   exact h'
 ·rcases ht with⟨a,b,rfl⟩|⟨a,b,c,rfl⟩
  all_goals exact ob (x:=.lst [.tup [.int 10,.lst [.tup [.int 12,.int 16]]],.tup [.int 36,.lst [.tup [.int 0,.int 0],.tup [.int 12,.int 16]]]]) rfl (ob (eF (ext:=[_,_]) hH) h)
theorem KO(ht:dR t)(hl:l.length<1000)(hl2:40<=l.length)(hd:item l 0=some 69)(hH:gC (eE h0 h1 h2 h3 h4 6 l t))(m:Nat)(hm:3<=m)(K:V->Hp->Prop)
 (h:K (.lst [.tup [.int 10,.lst [.tup [.int 16,.int 20]]],.tup [.int 36,.lst [.tup [.int 0,.int 0],.tup [.int 16,.int 20]]]]) (eE h0 h1 h2 h3 h4 6 l t)):R m "sums_met" [.ref 5,.int 16,.int 20] (eE h0 h1 h2 h3 h4 6 l t) K:=by
 obtain⟨n,rfl⟩:∃n,m=n+2:=⟨m-2,by lia⟩
 have fl:=fits_of hl
 rw[dY]
 refine(?_:∀K':V->Hp->Prop,K' (.lst [.tup [.int 10,.lst [.tup [.int 16,.int 20]]],.tup [.int 36,.ref (t.length+8)]]) (eE h0 h1 h2 h3 h4 6 l (t++[.lst [.tup [.int 10,.lst [.tup [.int 16,.int 20]]],.tup [.int 36,.ref (t.length+8)]],.lst [.tup [.int 0,.int 0],.tup [.int 16,.int 20]]]))->cD False And aN (run False And aN top (n+1)) (fnX "sums_met") [.ref 5,.int 16,.int 20] (eE h0 h1 h2 h3 h4 6 l t) K') _ ?_
 ·clear h
  intro K' h'
  rcases ht with⟨a,b,rfl⟩|⟨a,b,c,rfl⟩
  all_goals
   symm
   refine gm fl ?_
   symm
   with_reducible refine nS (hd) ?_
   symm
   refine gm fl ?_
   symm
   rw[dF (by lia:¬(l.length:Int)<20)]
   symm
   refine gm fl ?_
   symm
   refine gm (dT (by lia:(10:Int)+2<=l.length)) ?_
   refine⟨rfl,?_⟩
   symm
   refine gm fl ?_
   symm
   refine gm (dT (by lia:(20:Int)+16+2<=l.length)) ?_
   refine⟨rfl,?_⟩
   exact h'
 ·rcases ht with⟨a,b,rfl⟩|⟨a,b,c,rfl⟩
  all_goals exact ob (x:=.lst [.tup [.int 10,.lst [.tup [.int 16,.int 20]]],.tup [.int 36,.lst [.tup [.int 0,.int 0],.tup [.int 16,.int 20]]]]) rfl (ob (eF (ext:=[_,_]) hH) h)
theorem KD(ht:dR t)(hl:l.length<1000)(hl2:40<=l.length)(hd:item l 0=some 69)(hH:gC (eE h0 h1 h2 h3 h4 6 l t))(m:Nat)(hm:3<=m)(K:V->Hp->Prop)
 (h:K (.lst [.tup [.int 10,.lst [.tup [.int 0,.int 0]]],.tup [.int 36,.lst [.tup [.int 20,.int 22],.tup [.int 0,.int 0]]]]) (eE h0 h1 h2 h3 h4 6 l t)):R m "sums_met" [.ref 5,.int 20,.int 22] (eE h0 h1 h2 h3 h4 6 l t) K:=by
 obtain⟨n,rfl⟩:∃n,m=n+2:=⟨m-2,by lia⟩
 have fl:=fits_of hl
 rw[dY]
 refine(?_:∀K':V->Hp->Prop,K' (.lst [.tup [.int 10,.lst [.tup [.int 0,.int 0]]],.tup [.int 36,.ref (t.length+8)]]) (eE h0 h1 h2 h3 h4 6 l (t++[.lst [.tup [.int 10,.lst [.tup [.int 0,.int 0]]],.tup [.int 36,.ref (t.length+8)]],.lst [.tup [.int 20,.int 22],.tup [.int 0,.int 0]]]))->cD False And aN (run False And aN top (n+1)) (fnX "sums_met") [.ref 5,.int 20,.int 22] (eE h0 h1 h2 h3 h4 6 l t) K') _ ?_
 ·clear h
  intro K' h'
  rcases ht with⟨a,b,rfl⟩|⟨a,b,c,rfl⟩
  all_goals
   symm
   refine gm fl ?_
   symm
   with_reducible refine nS (hd) ?_
   symm
   refine gm fl ?_
   symm
   rw[dF (by lia:¬(l.length:Int)<22)]
   symm
   refine gm fl ?_
   symm
   refine gm (dT (by lia:(10:Int)+2<=l.length)) ?_
   refine⟨rfl,?_⟩
   symm
   refine gm fl ?_
   symm
   refine gm (dT (by lia:(20:Int)+16+2<=l.length)) ?_
   refine⟨rfl,?_⟩
   exact h'
 ·rcases ht with⟨a,b,rfl⟩|⟨a,b,c,rfl⟩
  all_goals exact ob (x:=.lst [.tup [.int 10,.lst [.tup [.int 0,.int 0]]],.tup [.int 36,.lst [.tup [.int 20,.int 22],.tup [.int 0,.int 0]]]]) rfl (ob (eF (ext:=[_,_]) hH) h)
theorem JS(ht:dR t)(hl:l.length<1000)(hl2:40<=l.length)(hd:item l 0=some 69)(hH:gC (eE h0 h1 h2 h3 h4 6 l t))(m:Nat)(hm:3<=m)(K:V->Hp->Prop)
 (h:K (.lst [.tup [.int 10,.lst [.tup [.int 0,.int 0]]],.tup [.int 36,.lst [.tup [.int 22,.int 24],.tup [.int 0,.int 0]]]]) (eE h0 h1 h2 h3 h4 6 l t)):R m "sums_met" [.ref 5,.int 22,.int 24] (eE h0 h1 h2 h3 h4 6 l t) K:=by
 obtain⟨n,rfl⟩:∃n,m=n+2:=⟨m-2,by lia⟩
 have fl:=fits_of hl
 rw[dY]
 refine(?_:∀K':V->Hp->Prop,K' (.lst [.tup [.int 10,.lst [.tup [.int 0,.int 0]]],.tup [.int 36,.ref (t.length+8)]]) (eE h0 h1 h2 h3 h4 6 l (t++[.lst [.tup [.int 10,.lst [.tup [.int 0,.int 0]]],.tup [.int 36,.ref (t.length+8)]],.lst [.tup [.int 22,.int 24],.tup [.int 0,.int 0]]]))->cD False And aN (run False And aN top (n+1)) (fnX "sums_met") [.ref 5,.int 22,.int 24] (eE h0 h1 h2 h3 h4 6 l t) K') _ ?_
 ·clear h
  intro K' h'
  rcases ht with⟨a,b,rfl⟩|⟨a,b,c,rfl⟩
  all_goals
   symm
   refine gm fl ?_
   symm
   with_reducible refine nS (hd) ?_
   symm
   refine gm fl ?_
   symm
   rw[dF (by lia:¬(l.length:Int)<24)]
   symm
   refine gm fl ?_
   symm
   refine gm (dT (by lia:(10:Int)+2<=l.length)) ?_
   refine⟨rfl,?_⟩
   symm
   refine gm fl ?_
   symm
   refine gm (dT (by lia:(20:Int)+16+2<=l.length)) ?_
   refine⟨rfl,?_⟩
   exact h'
 ·rcases ht with⟨a,b,rfl⟩|⟨a,b,c,rfl⟩
  all_goals exact ob (x:=.lst [.tup [.int 10,.lst [.tup [.int 0,.int 0]]],.tup [.int 36,.lst [.tup [.int 22,.int 24],.tup [.int 0,.int 0]]]]) rfl (ob (eF (ext:=[_,_]) hH) h)
theorem HP(ht:dR t)(hl:l.length<1000)(hl2:28<=l.length)(hd:item l 0=some 69)(hH:gC (eE h0 h1 h2 h3 h4 17 l t))(m:Nat)(hm:3<=m)(K:V->Hp->Prop)
 (h:K (.lst [.tup [.int 10,.lst [.tup [.int 12,.int 16]]],.tup [.int 26,.lst [.tup [.int 0,.int 0],.tup [.int 12,.int 16]]]]) (eE h0 h1 h2 h3 h4 17 l t)):R m "sums_met" [.ref 5,.int 12,.int 16] (eE h0 h1 h2 h3 h4 17 l t) K:=by
 obtain⟨n,rfl⟩:∃n,m=n+2:=⟨m-2,by lia⟩
 have fl:=fits_of hl
 rw[dY]
 refine(?_:∀K':V->Hp->Prop,K' (.lst [.tup [.int 10,.lst [.tup [.int 12,.int 16]]],.tup [.int 26,.ref (t.length+8)]]) (eE h0 h1 h2 h3 h4 17 l (t++[.lst [.tup [.int 10,.lst [.tup [.int 12,.int 16]]],.tup [.int 26,.ref (t.length+8)]],.lst [.tup [.int 0,.int 0],.tup [.int 12,.int 16]]]))->cD False And aN (run False And aN top (n+1)) (fnX "sums_met") [.ref 5,.int 12,.int 16] (eE h0 h1 h2 h3 h4 17 l t) K') _ ?_
 ·clear h
  intro K' h'
  rcases ht with⟨a,b,rfl⟩|⟨a,b,c,rfl⟩
  all_goals
   symm
   refine gm fl ?_
   symm
   with_reducible refine nS (hd) ?_
   symm
   refine gm fl ?_
   symm
   rw[dF (by lia:¬(l.length:Int)<16)]
   symm
   refine gm fl ?_
   symm
   refine gm (dT (by lia:(10:Int)+2<=l.length)) ?_
   refine⟨rfl,?_⟩
   symm
   refine gm fl ?_
   symm
   refine gm (dT (by lia:(20:Int)+6+2<=l.length)) ?_
   refine⟨rfl,?_⟩
   exact h'
 ·rcases ht with⟨a,b,rfl⟩|⟨a,b,c,rfl⟩
  all_goals exact ob (x:=.lst [.tup [.int 10,.lst [.tup [.int 12,.int 16]]],.tup [.int 26,.lst [.tup [.int 0,.int 0],.tup [.int 12,.int 16]]]]) rfl (ob (eF (ext:=[_,_]) hH) h)
theorem GU(ht:dR t)(hl:l.length<1000)(hl2:28<=l.length)(hd:item l 0=some 69)(hH:gC (eE h0 h1 h2 h3 h4 17 l t))(m:Nat)(hm:3<=m)(K:V->Hp->Prop)
 (h:K (.lst [.tup [.int 10,.lst [.tup [.int 16,.int 20]]],.tup [.int 26,.lst [.tup [.int 0,.int 0],.tup [.int 16,.int 20]]]]) (eE h0 h1 h2 h3 h4 17 l t)):R m "sums_met" [.ref 5,.int 16,.int 20] (eE h0 h1 h2 h3 h4 17 l t) K:=by
 obtain⟨n,rfl⟩:∃n,m=n+2:=⟨m-2,by lia⟩
 have fl:=fits_of hl
 rw[dY]
 refine(?_:∀K':V->Hp->Prop,K' (.lst [.tup [.int 10,.lst [.tup [.int 16,.int 20]]],.tup [.int 26,.ref (t.length+8)]]) (eE h0 h1 h2 h3 h4 17 l (t++[.lst [.tup [.int 10,.lst [.tup [.int 16,.int 20]]],.tup [.int 26,.ref (t.length+8)]],.lst [.tup [.int 0,.int 0],.tup [.int 16,.int 20]]]))->cD False And aN (run False And aN top (n+1)) (fnX "sums_met") [.ref 5,.int 16,.int 20] (eE h0 h1 h2 h3 h4 17 l t) K') _ ?_
 ·clear h
  intro K' h'
  rcases ht with⟨a,b,rfl⟩|⟨a,b,c,rfl⟩
  all_goals
   symm
   refine gm fl ?_
   symm
   with_reducible refine nS (hd) ?_
   symm
   refine gm fl ?_
   symm
   rw[dF (by lia:¬(l.length:Int)<20)]
   symm
   refine gm fl ?_
   symm
   refine gm (dT (by lia:(10:Int)+2<=l.length)) ?_
   refine⟨rfl,?_⟩
   symm
   refine gm fl ?_
   symm
   refine gm (dT (by lia:(20:Int)+6+2<=l.length)) ?_
   refine⟨rfl,?_⟩
   exact h'
 ·rcases ht with⟨a,b,rfl⟩|⟨a,b,c,rfl⟩
  all_goals exact ob (x:=.lst [.tup [.int 10,.lst [.tup [.int 16,.int 20]]],.tup [.int 26,.lst [.tup [.int 0,.int 0],.tup [.int 16,.int 20]]]]) rfl (ob (eF (ext:=[_,_]) hH) h)
theorem GK(ht:dR t)(hl:l.length<1000)(hl2:28<=l.length)(hd:item l 0=some 69)(hH:gC (eE h0 h1 h2 h3 h4 17 l t))(m:Nat)(hm:3<=m)(K:V->Hp->Prop)
 (h:K (.lst [.tup [.int 10,.lst [.tup [.int 0,.int 0]]],.tup [.int 26,.lst [.tup [.int 20,.int 22],.tup [.int 0,.int 0]]]]) (eE h0 h1 h2 h3 h4 17 l t)):R m "sums_met" [.ref 5,.int 20,.int 22] (eE h0 h1 h2 h3 h4 17 l t) K:=by
 obtain⟨n,rfl⟩:∃n,m=n+2:=⟨m-2,by lia⟩
 have fl:=fits_of hl
 rw[dY]
 refine(?_:∀K':V->Hp->Prop,K' (.lst [.tup [.int 10,.lst [.tup [.int 0,.int 0]]],.tup [.int 26,.ref (t.length+8)]]) (eE h0 h1 h2 h3 h4 17 l (t++[.lst [.tup [.int 10,.lst [.tup [.int 0,.int 0]]],.tup [.int 26,.ref (t.length+8)]],.lst [.tup [.int 20,.int 22],.tup [.int 0,.int 0]]]))->cD False And aN (run False And aN top (n+1)) (fnX "sums_met") [.ref 5,.int 20,.int 22] (eE h0 h1 h2 h3 h4 17 l t) K') _ ?_
 ·clear h
  intro K' h'
  rcases ht with⟨a,b,rfl⟩|⟨a,b,c,rfl⟩
  all_goals
   symm
   refine gm fl ?_
   symm
   with_reducible refine nS (hd) ?_
   symm
   refine gm fl ?_
   symm
   rw[dF (by lia:¬(l.length:Int)<22)]
   symm
   refine gm fl ?_
   symm
   refine gm (dT (by lia:(10:Int)+2<=l.length)) ?_
   refine⟨rfl,?_⟩
   symm
   refine gm fl ?_
   symm
   refine gm (dT (by lia:(20:Int)+6+2<=l.length)) ?_
   refine⟨rfl,?_⟩
   exact h'
 ·rcases ht with⟨a,b,rfl⟩|⟨a,b,c,rfl⟩
  all_goals exact ob (x:=.lst [.tup [.int 10,.lst [.tup [.int 0,.int 0]]],.tup [.int 26,.lst [.tup [.int 20,.int 22],.tup [.int 0,.int 0]]]]) rfl (ob (eF (ext:=[_,_]) hH) h)
theorem GF(ht:dR t)(hl:l.length<1000)(hl2:28<=l.length)(hd:item l 0=some 69)(hH:gC (eE h0 h1 h2 h3 h4 17 l t))(m:Nat)(hm:3<=m)(K:V->Hp->Prop)
 (h:K (.lst [.tup [.int 10,.lst [.tup [.int 0,.int 0]]],.tup [.int 26,.lst [.tup [.int 22,.int 24],.tup [.int 0,.int 0]]]]) (eE h0 h1 h2 h3 h4 17 l t)):R m "sums_met" [.ref 5,.int 22,.int 24] (eE h0 h1 h2 h3 h4 17 l t) K:=by
 obtain⟨n,rfl⟩:∃n,m=n+2:=⟨m-2,by lia⟩
 have fl:=fits_of hl
 rw[dY]
 refine(?_:∀K':V->Hp->Prop,K' (.lst [.tup [.int 10,.lst [.tup [.int 0,.int 0]]],.tup [.int 26,.ref (t.length+8)]]) (eE h0 h1 h2 h3 h4 17 l (t++[.lst [.tup [.int 10,.lst [.tup [.int 0,.int 0]]],.tup [.int 26,.ref (t.length+8)]],.lst [.tup [.int 22,.int 24],.tup [.int 0,.int 0]]]))->cD False And aN (run False And aN top (n+1)) (fnX "sums_met") [.ref 5,.int 22,.int 24] (eE h0 h1 h2 h3 h4 17 l t) K') _ ?_
 ·clear h
  intro K' h'
  rcases ht with⟨a,b,rfl⟩|⟨a,b,c,rfl⟩
  all_goals
   symm
   refine gm fl ?_
   symm
   with_reducible refine nS (hd) ?_
   symm
   refine gm fl ?_
   symm
   rw[dF (by lia:¬(l.length:Int)<24)]
   symm
   refine gm fl ?_
   symm
   refine gm (dT (by lia:(10:Int)+2<=l.length)) ?_
   refine⟨rfl,?_⟩
   symm
   refine gm fl ?_
   symm
   refine gm (dT (by lia:(20:Int)+6+2<=l.length)) ?_
   refine⟨rfl,?_⟩
   exact h'
 ·rcases ht with⟨a,b,rfl⟩|⟨a,b,c,rfl⟩
  all_goals exact ob (x:=.lst [.tup [.int 10,.lst [.tup [.int 0,.int 0]]],.tup [.int 26,.lst [.tup [.int 22,.int 24],.tup [.int 0,.int 0]]]]) rfl (ob (eF (ext:=[_,_]) hH) h)
theorem KS(ht:dR t)(hl:l.length<1000)(hl2:28<=l.length)(hd:item l 0=some 69)(hH:gC (eE h0 h1 h2 h3 h4 1 l t))(m:Nat)(hm:3<=m)(K:V->Hp->Prop)
 (h:K (.lst [.tup [.int 10,.lst [.tup [.int 12,.int 16]]],.tup [.int 22,.lst [.tup [.int 0,.int 0]]]]) (eE h0 h1 h2 h3 h4 1 l t)):R m "sums_met" [.ref 5,.int 12,.int 16] (eE h0 h1 h2 h3 h4 1 l t) K:=by
 obtain⟨n,rfl⟩:∃n,m=n+2:=⟨m-2,by lia⟩
 have fl:=fits_of hl
 rw[dY]
 refine(?_:∀K':V->Hp->Prop,K' (.lst [.tup [.int 10,.lst [.tup [.int 12,.int 16]]],.tup [.int 22,.ref (t.length+8)]]) (eE h0 h1 h2 h3 h4 1 l (t++[.lst [.tup [.int 10,.lst [.tup [.int 12,.int 16]]],.tup [.int 22,.ref (t.length+8)]],.lst [.tup [.int 0,.int 0]]]))->cD False And aN (run False And aN top (n+1)) (fnX "sums_met") [.ref 5,.int 12,.int 16] (eE h0 h1 h2 h3 h4 1 l t) K') _ ?_
 ·clear h
  intro K' h'
  rcases ht with⟨a,b,rfl⟩|⟨a,b,c,rfl⟩
  all_goals
   symm
   refine gm fl ?_
   symm
   with_reducible refine nS (hd) ?_
   symm
   refine gm fl ?_
   symm
   rw[dF (by lia:¬(l.length:Int)<16)]
   symm
   refine gm fl ?_
   symm
   refine gm (dT (by lia:(10:Int)+2<=l.length)) ?_
   refine⟨rfl,?_⟩
   symm
   refine gm fl ?_
   symm
   refine gm (dT (by lia:(20:Int)+2+2<=l.length)) ?_
   refine⟨rfl,?_⟩
   exact h'
 ·rcases ht with⟨a,b,rfl⟩|⟨a,b,c,rfl⟩
  all_goals exact ob (x:=.lst [.tup [.int 10,.lst [.tup [.int 12,.int 16]]],.tup [.int 22,.lst [.tup [.int 0,.int 0]]]]) rfl (ob (eF (ext:=[_,_]) hH) h)
theorem KY(ht:dR t)(hl:l.length<1000)(hl2:28<=l.length)(hd:item l 0=some 69)(hH:gC (eE h0 h1 h2 h3 h4 1 l t))(m:Nat)(hm:3<=m)(K:V->Hp->Prop)
 (h:K (.lst [.tup [.int 10,.lst [.tup [.int 16,.int 20]]],.tup [.int 22,.lst [.tup [.int 0,.int 0]]]]) (eE h0 h1 h2 h3 h4 1 l t)):R m "sums_met" [.ref 5,.int 16,.int 20] (eE h0 h1 h2 h3 h4 1 l t) K:=by
 obtain⟨n,rfl⟩:∃n,m=n+2:=⟨m-2,by lia⟩
 have fl:=fits_of hl
 rw[dY]
 refine(?_:∀K':V->Hp->Prop,K' (.lst [.tup [.int 10,.lst [.tup [.int 16,.int 20]]],.tup [.int 22,.ref (t.length+8)]]) (eE h0 h1 h2 h3 h4 1 l (t++[.lst [.tup [.int 10,.lst [.tup [.int 16,.int 20]]],.tup [.int 22,.ref (t.length+8)]],.lst [.tup [.int 0,.int 0]]]))->cD False And aN (run False And aN top (n+1)) (fnX "sums_met") [.ref 5,.int 16,.int 20] (eE h0 h1 h2 h3 h4 1 l t) K') _ ?_
 ·clear h
  intro K' h'
  rcases ht with⟨a,b,rfl⟩|⟨a,b,c,rfl⟩
  all_goals
   symm
   refine gm fl ?_
   symm
   with_reducible refine nS (hd) ?_
   symm
   refine gm fl ?_
   symm
   rw[dF (by lia:¬(l.length:Int)<20)]
   symm
   refine gm fl ?_
   symm
   refine gm (dT (by lia:(10:Int)+2<=l.length)) ?_
   refine⟨rfl,?_⟩
   symm
   refine gm fl ?_
   symm
   refine gm (dT (by lia:(20:Int)+2+2<=l.length)) ?_
   refine⟨rfl,?_⟩
   exact h'
 ·rcases ht with⟨a,b,rfl⟩|⟨a,b,c,rfl⟩
  all_goals exact ob (x:=.lst [.tup [.int 10,.lst [.tup [.int 16,.int 20]]],.tup [.int 22,.lst [.tup [.int 0,.int 0]]]]) rfl (ob (eF (ext:=[_,_]) hH) h)
theorem LM(ht:dR t)(hl:l.length<1000)(hl2:28<=l.length)(hd:item l 0=some 69)(hH:gC (eE h0 h1 h2 h3 h4 1 l t))(m:Nat)(hm:3<=m)(K:V->Hp->Prop)
 (h:K (.lst [.tup [.int 10,.lst [.tup [.int 0,.int 0]]],.tup [.int 22,.lst [.tup [.int 24,.int 26]]]]) (eE h0 h1 h2 h3 h4 1 l t)):R m "sums_met" [.ref 5,.int 24,.int 26] (eE h0 h1 h2 h3 h4 1 l t) K:=by
 obtain⟨n,rfl⟩:∃n,m=n+2:=⟨m-2,by lia⟩
 have fl:=fits_of hl
 rw[dY]
 refine(?_:∀K':V->Hp->Prop,K' (.lst [.tup [.int 10,.lst [.tup [.int 0,.int 0]]],.tup [.int 22,.ref (t.length+8)]]) (eE h0 h1 h2 h3 h4 1 l (t++[.lst [.tup [.int 10,.lst [.tup [.int 0,.int 0]]],.tup [.int 22,.ref (t.length+8)]],.lst [.tup [.int 24,.int 26]]]))->cD False And aN (run False And aN top (n+1)) (fnX "sums_met") [.ref 5,.int 24,.int 26] (eE h0 h1 h2 h3 h4 1 l t) K') _ ?_
 ·clear h
  intro K' h'
  rcases ht with⟨a,b,rfl⟩|⟨a,b,c,rfl⟩
  all_goals
   symm
   refine gm fl ?_
   symm
   with_reducible refine nS (hd) ?_
   symm
   refine gm fl ?_
   symm
   rw[dF (by lia:¬(l.length:Int)<26)]
   symm
   refine gm fl ?_
   symm
   refine gm (dT (by lia:(10:Int)+2<=l.length)) ?_
   refine⟨rfl,?_⟩
   symm
   refine gm fl ?_
   symm
   refine gm (dT (by lia:(20:Int)+2+2<=l.length)) ?_
   refine⟨rfl,?_⟩
   exact h'
 ·rcases ht with⟨a,b,rfl⟩|⟨a,b,c,rfl⟩
  all_goals exact ob (x:=.lst [.tup [.int 10,.lst [.tup [.int 0,.int 0]]],.tup [.int 22,.lst [.tup [.int 24,.int 26]]]]) rfl (ob (eF (ext:=[_,_]) hH) h)
noncomputable def ins (l:List Int) (p:Int) (k:Int) (w:List Int):List Int:=l.take p.toNat++w++l.drop (p+k).toNat
theorem sZ{p k:Int}(hp:0<=p)(hk:(w.length:Int)=k)(h:p+k<=l.length):∃q:Nat,p=q/\q+w.length<=l.length/\ins l p k w=l.take q++w++l.drop (q+w.length):=by
 obtain⟨q,rfl⟩:=Int.eq_ofNat_of_zero_le hp
 subst hk
 exact⟨q,rfl,Int.ofNat_le.mp h,rfl⟩
theorem gU{p k:Int}(hp:0<=p)(hk:(w.length:Int)=k)(h:p+k<=l.length):(ins l p k w).length=l.length:=
 cB (sZ hp hk h) λq _ h e=>by
  rw[e,List.length_append,List.length_append,List.length_drop,List.length_take_of_le (Nat.le_trans (Nat.le_add_right _ _) h),Nat.add_sub_cancel' h]
theorem gK{p k:Int}(hp:0<=p)(hk:(w.length:Int)=k)(h:p+k<=l.length):cut (ins l p k w) p (p+k)=w:=
 cB (sZ hp hk h) λq e1 hn e=>by
  subst e1 hk
  rw[e]
  show((l.take q++w++_).take (q+w.length)).drop q=w
  have hq:(l.take q).length=q:=List.length_take_of_le (Nat.le_trans (Nat.le_add_right _ _) hn)
  have hqw:(l.take q++w).length=q+w.length:=by rw[List.length_append,hq]
  rw[List.take_left' hqw,List.drop_left' hq]
theorem J9{p k a b:Int}(hp:0<=p)(hk:(w.length:Int)=k)(h:p+k<=l.length)(ha:0<=a)(hab:a<=b)(hd:b<=p\/p+k<=a):cut (ins l p k w) a b=cut l a b:=
 cB (sZ hp hk h) λq e1 hn e=>by
  subst e1 hk
  obtain⟨a,rfl⟩:=Int.eq_ofNat_of_zero_le ha
  obtain⟨b,rfl⟩:=Int.eq_ofNat_of_zero_le (Int.le_trans ha hab)
  rw[e]
  show((l.take q++w++_).take b).drop a=(l.take b).drop a
  have hq:(l.take q).length=q:=List.length_take_of_le (Nat.le_trans (Nat.le_add_right _ _) hn)
  have hqw:(l.take q++w).length=q+w.length:=by rw[List.length_append,hq]
  rcases hd with hd|hd
  ·have hd:=Int.ofNat_le.mp hd
   rw[List.append_assoc,List.take_append_of_le_length (by rw[hq];exact hd),List.take_take,Nat.min_eq_left hd]
  ·have hd:q+w.length<=a:=Int.ofNat_le.mp hd
   have hab:=Int.ofNat_le.mp hab
   rw[List.take_append,List.drop_append,List.take_of_length_le (by rw[hqw];exact Nat.le_trans hd hab),List.drop_of_length_le (by rw[hqw];exact hd),List.nil_append,hqw, <-List.drop_take,List.drop_drop,Nat.add_sub_cancel' hd]
theorem gJ{p c d:Int}(hp:0<=p)(h:p+2<=l.length):(ins l p 2 [c,d]).length=l.length:=gU hp rfl h
theorem gG{p c d a b:Int}(hp:0<=p)(h:p+2<=l.length)(ha:0<=a)(hab:a<=b)(hd:b<=p\/p+2<=a):cut (ins l p 2 [c,d]) a b=cut l a b:=J9 hp rfl h ha hab hd
theorem wB(hn:4<=n){x y u v a  a0 a1 a2 a3 c0 c1 c2 c3:Int}(hx:aM x)(hy:aM y)(hu:aM u)(hv:aM v)(ha0:aM a0)(ha1:aM a1)(ha2:aM a2)(ha3:aM a3)(hc0:aM c0)(hc1:aM c1)(hc2:aM c2)(hc3:aM c3)(hl:l.length<1000)(hl2:38<=l.length)(hA:0<=a)(hA2:a+4<=l.length)(hw:w=[c0,c1,c2,c3])
 (hx1:cut l 10 12=[x,y]) (hu1:cut l 36 38=[u,v]) (ho:cut l a (a+4)=[a0,a1,a2,a3]) (hd1:a+4<=10\/12<=a) (hd2:a+4<=36\/38<=a)
 (hs:∀m,3<=m->∀K:V->Hp->Prop,K (.lst [.tup [.int 10,.lst [.tup [.int a,.int (a+4)]]],.tup [.int 36,.lst [.tup [.int 0,.int 0],.tup [.int a,.int (a+4)]]]]) (h0::h1::h2::h3::h4::aK 6::.bar l::t)->R m "sums_met" [.ref 5,.int a,.int (a+(w.length:Int))] (h0::h1::h2::h3::h4::aK 6::.bar l::t) K)
 (h:∀r s,0<=r->r<65536->(r-(x*256+y+((a0*256+a1)+(a2*256+a3))-((c0*256+c1)+(c2*256+c3))))%65535=0->0<=s->s<65536->(s-(u*256+v+((a0*256+a1)+(a2*256+a3))-((c0*256+c1)+(c2*256+c3))))%65535=0->K .none (h0::h1::h2::h3::h4::aK 6::.bar (ins (ins (ins l a 4 w) 10 2 [b1 r,b0 r]) 36 2 [b1 s,b0 s])::t)):R n "set_octets" [.ref 5,.str "network",.int a,.bytes w] (h0::h1::h2::h3::h4::aK 6::.bar l::t) K:=by
 obtain⟨n,rfl⟩:=aU hn
 have fl:=fits_of hl
 have fw:fits w=true:=hw▸rfl
 have lw:(w.length:Int)=4:=hw▸rfl
 have eZ:(ins l a 4 w).length=l.length:=gU hA lw (by lia)
 have k1:cut (ins l a 4 w) a (a+4)=[c0,c1,c2,c3]:=by rw[gK hA lw (by lia),hw]
 have hx1':cut l 10 (10+2)=[x,y]:=hx1
 have hu1':cut l 36 (36+2)=[u,v]:=hu1
 symm
 refine gm fl ?_
 symm
 refine gm (fw) ?_
 refine hs _ (by lia) _ ?_
 refine putN (by lia) hl (by lia) hA (by lia) ?_
 symm
 rw[show l.take (0+a).toNat++w++l.drop (0+a+4).toNat=ins l a 4 w by simp[ins]]
 refine IJ (by lia) hx hy ha0 ha1 ha2 ha3 hc0 hc1 hc2 hc3 (by lia) (by lia) (by decide) (by lia) hx1' hA (by lia) ho k1 λr r0 r1 rc=>?_
 rw[show(ins l a 4 w).take (10:Int).toNat++[b1 r,b0 r]++(ins l a 4 w).drop (10+2:Int).toNat=(ins (ins l a 4 w) 10 2 [b1 r,b0 r])from rfl]
 have len2:(ins (ins l a 4 w) 10 2 [b1 r,b0 r]).length=l.length:=by rw[gJ (by decide) (by rw[eZ];lia),eZ]
 have k2:cut (ins (ins l a 4 w) 10 2 [b1 r,b0 r]) a (a+4)=[c0,c1,c2,c3]:=by rw[gG (by decide) (by rw[eZ];lia) hA (by lia) (by lia),k1]
 symm
 refine QO (by lia) hu hv ha0 ha1 ha2 ha3 hc0 hc1 hc2 hc3 (by lia) (by lia) (by decide) (by lia) hu1' hA (by lia) ho k2 λs s0 s1 sc=>?_
 exact h r s r0 r1 rc s0 s1 sc
theorem qX(hn:4<=n){x y u v a q a0 a1 c0 c1:Int}(hx:aM x)(hy:aM y)(hu:aM u)(hv:aM v)(ha0:aM a0)(ha1:aM a1)(hc0:aM c0)(hc1:aM c1)(hl:l.length<1000)(hl2:38<=l.length)(hA:0<=a)(hA2:a+2<=l.length)(hw:w=[c0,c1])(hq:0<=q)(hqa:a=20+q)
 (hx1:cut l 10 12=[x,y]) (hu1:cut l 36 38=[u,v]) (ho:cut l a (a+2)=[a0,a1]) (hd1:a+2<=10\/12<=a) (hd2:a+2<=36\/38<=a)
 (hs:∀m,3<=m->∀K:V->Hp->Prop,K (.lst [.tup [.int 10,.lst [.tup [.int 0,.int 0]]],.tup [.int 36,.lst [.tup [.int a,.int (a+2)],.tup [.int 0,.int 0]]]]) (h0::h1::h2::h3::h4::aK 6::.bar l::t)->R m "sums_met" [.ref 5,.int (20+q),.int (20+q+(w.length:Int))] (h0::h1::h2::h3::h4::aK 6::.bar l::t) K)
 (h:∀r s,0<=r->r<65536->(r-(x*256+y+0-0))%65535=0->0<=s->s<65536->(s-(u*256+v+((a0*256+a1))-((c0*256+c1))))%65535=0->K .none (h0::h1::h2::h3::h4::aK 6::.bar (ins (ins (ins l a 2 w) 10 2 [b1 r,b0 r]) 36 2 [b1 s,b0 s])::t)):R n "set_octets" [.ref 5,.str "transport",.int q,.bytes w] (h0::h1::h2::h3::h4::aK 6::.bar l::t) K:=by
 obtain⟨n,rfl⟩:=aU hn
 have fl:=fits_of hl
 have fw:fits w=true:=hw▸rfl
 have lw:(w.length:Int)=2:=hw▸rfl
 have eZ:(ins l a 2 w).length=l.length:=gU hA lw (by lia)
 have k1:cut (ins l a 2 w) a (a+2)=[c0,c1]:=by rw[gK hA lw (by lia),hw]
 have hx1':cut l 10 (10+2)=[x,y]:=hx1
 have hu1':cut l 36 (36+2)=[u,v]:=hu1
 symm
 refine gm fl ?_
 symm
 refine gm (fw) ?_
 refine hs _ (by lia) _ ?_
 symm
 refine ON (by lia) hl lw hq (by lia) ?_
 symm
 rw[show l.take (20+q).toNat++w++l.drop (20+q+2).toNat=ins l a 2 w by simp[ins,hqa]]
 refine AV (by lia) hx hy (by lia) (by lia) (by decide) (by lia) hx1' λr r0 r1 rc=>?_
 rw[show(ins l a 2 w).take (10:Int).toNat++[b1 r,b0 r]++(ins l a 2 w).drop (10+2:Int).toNat=(ins (ins l a 2 w) 10 2 [b1 r,b0 r])from rfl]
 have len2:(ins (ins l a 2 w) 10 2 [b1 r,b0 r]).length=l.length:=by rw[gJ (by decide) (by rw[eZ];lia),eZ]
 have k2:cut (ins (ins l a 2 w) 10 2 [b1 r,b0 r]) a (a+2)=[c0,c1]:=by rw[gG (by decide) (by rw[eZ];lia) hA (by lia) (by lia),k1]
 symm
 refine QJ (by lia) hu hv ha0 ha1 hc0 hc1 (by lia) (by lia) (by decide) (by lia) hu1' hA (by lia) ho k2 λs s0 s1 sc=>?_
 exact h r s r0 r1 rc s0 s1 sc
theorem r5(hn:4<=n){x y u v a  a0 a1 a2 a3 c0 c1 c2 c3:Int}(hx:aM x)(hy:aM y)(hu:aM u)(hv:aM v)(ha0:aM a0)(ha1:aM a1)(ha2:aM a2)(ha3:aM a3)(hc0:aM c0)(hc1:aM c1)(hc2:aM c2)(hc3:aM c3)(hl:l.length<1000)(hl2:28<=l.length)(hA:0<=a)(hA2:a+4<=l.length)(hw:w=[c0,c1,c2,c3])
 (hx1:cut l 10 12=[x,y]) (hu1:cut l 26 28=[u,v]) (ho:cut l a (a+4)=[a0,a1,a2,a3]) (hd1:a+4<=10\/12<=a) (hd2:a+4<=26\/28<=a)
 (hs:∀m,3<=m->∀K:V->Hp->Prop,K (.lst [.tup [.int 10,.lst [.tup [.int a,.int (a+4)]]],.tup [.int 26,.lst [.tup [.int 0,.int 0],.tup [.int a,.int (a+4)]]]]) (h0::h1::h2::h3::h4::aK 17::.bar l::t)->R m "sums_met" [.ref 5,.int a,.int (a+(w.length:Int))] (h0::h1::h2::h3::h4::aK 17::.bar l::t) K)
 (hz:u*256+v=0->∀r,0<=r->r<65536->(r-(x*256+y+((a0*256+a1)+(a2*256+a3))-((c0*256+c1)+(c2*256+c3))))%65535=0->K .none (h0::h1::h2::h3::h4::aK 17::.bar (ins (ins l a 4 w) 10 2 [b1 r,b0 r])::t))
 (h:u*256+v≠0->∀r s,0<=r->r<65536->(r-(x*256+y+((a0*256+a1)+(a2*256+a3))-((c0*256+c1)+(c2*256+c3))))%65535=0->0<=s->s<65536->(s-(u*256+v+((a0*256+a1)+(a2*256+a3))-((c0*256+c1)+(c2*256+c3))))%65535=0->s≠0->K .none (h0::h1::h2::h3::h4::aK 17::.bar (ins (ins (ins l a 4 w) 10 2 [b1 r,b0 r]) 26 2 [b1 s,b0 s])::t)):R n "set_octets" [.ref 5,.str "network",.int a,.bytes w] (h0::h1::h2::h3::h4::aK 17::.bar l::t) K:=by
 obtain⟨n,rfl⟩:=aU hn
 have fl:=fits_of hl
 have fw:fits w=true:=hw▸rfl
 have lw:(w.length:Int)=4:=hw▸rfl
 have eZ:(ins l a 4 w).length=l.length:=gU hA lw (by lia)
 have k1:cut (ins l a 4 w) a (a+4)=[c0,c1,c2,c3]:=by rw[gK hA lw (by lia),hw]
 have hx1':cut l 10 (10+2)=[x,y]:=hx1
 have hu1':cut l 26 (26+2)=[u,v]:=hu1
 symm
 refine gm fl ?_
 symm
 refine gm (fw) ?_
 refine hs _ (by lia) _ ?_
 refine putN (by lia) hl (by lia) hA (by lia) ?_
 symm
 rw[show l.take (0+a).toNat++w++l.drop (0+a+4).toNat=ins l a 4 w by simp[ins]]
 refine IJ (by lia) hx hy ha0 ha1 ha2 ha3 hc0 hc1 hc2 hc3 (by lia) (by lia) (by decide) (by lia) hx1' hA (by lia) ho k1 λr r0 r1 rc=>?_
 rw[show(ins l a 4 w).take (10:Int).toNat++[b1 r,b0 r]++(ins l a 4 w).drop (10+2:Int).toNat=(ins (ins l a 4 w) 10 2 [b1 r,b0 r])from rfl]
 have len2:(ins (ins l a 4 w) 10 2 [b1 r,b0 r]).length=l.length:=by rw[gJ (by decide) (by rw[eZ];lia),eZ]
 have k2:cut (ins (ins l a 4 w) 10 2 [b1 r,b0 r]) a (a+4)=[c0,c1,c2,c3]:=by rw[gG (by decide) (by rw[eZ];lia) hA (by lia) (by lia),k1]
 symm
 refine KZ (by lia) hu hv ha0 ha1 ha2 ha3 hc0 hc1 hc2 hc3 (by lia) (by lia) (by decide) (by lia) hu1' hA (by lia) ho k2 (λcz=>hz cz r r0 r1 rc) λcn s s0 s1 sc sz=>?_
 exact h cn r s r0 r1 rc s0 s1 sc sz
theorem pK(hn:4<=n){x y u v a q a0 a1 c0 c1:Int}(hx:aM x)(hy:aM y)(hu:aM u)(hv:aM v)(ha0:aM a0)(ha1:aM a1)(hc0:aM c0)(hc1:aM c1)(hl:l.length<1000)(hl2:28<=l.length)(hA:0<=a)(hA2:a+2<=l.length)(hw:w=[c0,c1])(hq:0<=q)(hqa:a=20+q)
 (hx1:cut l 10 12=[x,y]) (hu1:cut l 26 28=[u,v]) (ho:cut l a (a+2)=[a0,a1]) (hd1:a+2<=10\/12<=a) (hd2:a+2<=26\/28<=a)
 (hs:∀m,3<=m->∀K:V->Hp->Prop,K (.lst [.tup [.int 10,.lst [.tup [.int 0,.int 0]]],.tup [.int 26,.lst [.tup [.int a,.int (a+2)],.tup [.int 0,.int 0]]]]) (h0::h1::h2::h3::h4::aK 17::.bar l::t)->R m "sums_met" [.ref 5,.int (20+q),.int (20+q+(w.length:Int))] (h0::h1::h2::h3::h4::aK 17::.bar l::t) K)
 (hz:u*256+v=0->∀r,0<=r->r<65536->(r-(x*256+y+0-0))%65535=0->K .none (h0::h1::h2::h3::h4::aK 17::.bar (ins (ins l a 2 w) 10 2 [b1 r,b0 r])::t))
 (h:u*256+v≠0->∀r s,0<=r->r<65536->(r-(x*256+y+0-0))%65535=0->0<=s->s<65536->(s-(u*256+v+((a0*256+a1))-((c0*256+c1))))%65535=0->s≠0->K .none (h0::h1::h2::h3::h4::aK 17::.bar (ins (ins (ins l a 2 w) 10 2 [b1 r,b0 r]) 26 2 [b1 s,b0 s])::t)):R n "set_octets" [.ref 5,.str "transport",.int q,.bytes w] (h0::h1::h2::h3::h4::aK 17::.bar l::t) K:=by
 obtain⟨n,rfl⟩:=aU hn
 have fl:=fits_of hl
 have fw:fits w=true:=hw▸rfl
 have lw:(w.length:Int)=2:=hw▸rfl
 have eZ:(ins l a 2 w).length=l.length:=gU hA lw (by lia)
 have k1:cut (ins l a 2 w) a (a+2)=[c0,c1]:=by rw[gK hA lw (by lia),hw]
 have hx1':cut l 10 (10+2)=[x,y]:=hx1
 have hu1':cut l 26 (26+2)=[u,v]:=hu1
 symm
 refine gm fl ?_
 symm
 refine gm (fw) ?_
 refine hs _ (by lia) _ ?_
 refine ON (by lia) hl lw hq (by lia) ?_
 symm
 rw[show l.take (20+q).toNat++w++l.drop (20+q+2).toNat=ins l a 2 w by simp[ins,hqa]]
 refine AV (by lia) hx hy (by lia) (by lia) (by decide) (by lia) hx1' λr r0 r1 rc=>?_
 rw[show(ins l a 2 w).take (10:Int).toNat++[b1 r,b0 r]++(ins l a 2 w).drop (10+2:Int).toNat=(ins (ins l a 2 w) 10 2 [b1 r,b0 r])from rfl]
 have len2:(ins (ins l a 2 w) 10 2 [b1 r,b0 r]).length=l.length:=by rw[gJ (by decide) (by rw[eZ];lia),eZ]
 have k2:cut (ins (ins l a 2 w) 10 2 [b1 r,b0 r]) a (a+2)=[c0,c1]:=by rw[gG (by decide) (by rw[eZ];lia) hA (by lia) (by lia),k1]
 symm
 refine K8 (by lia) hu hv ha0 ha1 hc0 hc1 (by lia) (by lia) (by decide) (by lia) hu1' hA (by lia) ho k2 (λcz=>hz cz r r0 r1 rc) λcn s s0 s1 sc sz=>?_
 exact h cn r s r0 r1 rc s0 s1 sc sz
theorem u4(hn:4<=n){x y u v a  a0 a1 a2 a3 c0 c1 c2 c3:Int}(hx:aM x)(hy:aM y)(hu:aM u)(hv:aM v)(ha0:aM a0)(ha1:aM a1)(ha2:aM a2)(ha3:aM a3)(hc0:aM c0)(hc1:aM c1)(hc2:aM c2)(hc3:aM c3)(hl:l.length<1000)(hl2:24<=l.length)(hA:0<=a)(hA2:a+4<=l.length)(hw:w=[c0,c1,c2,c3])
 (hx1:cut l 10 12=[x,y]) (hu1:cut l 22 24=[u,v]) (ho:cut l a (a+4)=[a0,a1,a2,a3]) (hd1:a+4<=10\/12<=a) (hd2:a+4<=22\/24<=a)
 (hs:∀m,3<=m->∀K:V->Hp->Prop,K (.lst [.tup [.int 10,.lst [.tup [.int a,.int (a+4)]]],.tup [.int 22,.lst [.tup [.int 0,.int 0]]]]) (h0::h1::h2::h3::h4::aK 1::.bar l::t)->R m "sums_met" [.ref 5,.int a,.int (a+(w.length:Int))] (h0::h1::h2::h3::h4::aK 1::.bar l::t) K)
 (h:∀r s,0<=r->r<65536->(r-(x*256+y+((a0*256+a1)+(a2*256+a3))-((c0*256+c1)+(c2*256+c3))))%65535=0->0<=s->s<65536->(s-(u*256+v+0-0))%65535=0->K .none (h0::h1::h2::h3::h4::aK 1::.bar (ins (ins (ins l a 4 w) 10 2 [b1 r,b0 r]) 22 2 [b1 s,b0 s])::t)):R n "set_octets" [.ref 5,.str "network",.int a,.bytes w] (h0::h1::h2::h3::h4::aK 1::.bar l::t) K:=by
 obtain⟨n,rfl⟩:=aU hn
 have fl:=fits_of hl
 have fw:fits w=true:=hw▸rfl
 have lw:(w.length:Int)=4:=hw▸rfl
 have eZ:(ins l a 4 w).length=l.length:=gU hA lw (by lia)
 have k1:cut (ins l a 4 w) a (a+4)=[c0,c1,c2,c3]:=by rw[gK hA lw (by lia),hw]
 have hx1':cut l 10 (10+2)=[x,y]:=hx1
 have hu1':cut l 22 (22+2)=[u,v]:=hu1
 symm
 refine gm fl ?_
 symm
 refine gm (fw) ?_
 refine hs _ (by lia) _ ?_
 refine putN (by lia) hl (by lia) hA (by lia) ?_
 symm
 rw[show l.take (0+a).toNat++w++l.drop (0+a+4).toNat=ins l a 4 w by simp[ins]]
 refine IJ (by lia) hx hy ha0 ha1 ha2 ha3 hc0 hc1 hc2 hc3 (by lia) (by lia) (by decide) (by lia) hx1' hA (by lia) ho k1 λr r0 r1 rc=>?_
 rw[show(ins l a 4 w).take (10:Int).toNat++[b1 r,b0 r]++(ins l a 4 w).drop (10+2:Int).toNat=(ins (ins l a 4 w) 10 2 [b1 r,b0 r])from rfl]
 have len2:(ins (ins l a 4 w) 10 2 [b1 r,b0 r]).length=l.length:=by rw[gJ (by decide) (by rw[eZ];lia),eZ]
 have k2:cut (ins (ins l a 4 w) 10 2 [b1 r,b0 r]) a (a+4)=[c0,c1,c2,c3]:=by rw[gG (by decide) (by rw[eZ];lia) hA (by lia) (by lia),k1]
 symm
 refine AV (by lia) hu hv (by lia) (by lia) (by decide) (by lia) hu1' λs s0 s1 sc=>?_
 exact h r s r0 r1 rc s0 s1 sc
theorem BO(hn:4<=n){x y u v a q a0 a1 c0 c1:Int}(hx:aM x)(hy:aM y)(hu:aM u)(hv:aM v)(ha0:aM a0)(ha1:aM a1)(hc0:aM c0)(hc1:aM c1)(hl:l.length<1000)(hl2:24<=l.length)(hA:0<=a)(hA2:a+2<=l.length)(hw:w=[c0,c1])(hq:0<=q)(hqa:a=20+q)
 (hx1:cut l 10 12=[x,y]) (hu1:cut l 22 24=[u,v]) (ho:cut l a (a+2)=[a0,a1]) (hd1:a+2<=10\/12<=a) (hd2:a+2<=22\/24<=a)
 (hs:∀m,3<=m->∀K:V->Hp->Prop,K (.lst [.tup [.int 10,.lst [.tup [.int 0,.int 0]]],.tup [.int 22,.lst [.tup [.int a,.int (a+2)]]]]) (h0::h1::h2::h3::h4::aK 1::.bar l::t)->R m "sums_met" [.ref 5,.int (20+q),.int (20+q+(w.length:Int))] (h0::h1::h2::h3::h4::aK 1::.bar l::t) K)
 (h:∀r s,0<=r->r<65536->(r-(x*256+y+0-0))%65535=0->0<=s->s<65536->(s-(u*256+v+((a0*256+a1))-((c0*256+c1))))%65535=0->K .none (h0::h1::h2::h3::h4::aK 1::.bar (ins (ins (ins l a 2 w) 10 2 [b1 r,b0 r]) 22 2 [b1 s,b0 s])::t)):R n "set_octets" [.ref 5,.str "transport",.int q,.bytes w] (h0::h1::h2::h3::h4::aK 1::.bar l::t) K:=by
 obtain⟨n,rfl⟩:=aU hn
 have fl:=fits_of hl
 have fw:fits w=true:=hw▸rfl
 have lw:(w.length:Int)=2:=hw▸rfl
 have eZ:(ins l a 2 w).length=l.length:=gU hA lw (by lia)
 have k1:cut (ins l a 2 w) a (a+2)=[c0,c1]:=by rw[gK hA lw (by lia),hw]
 have hx1':cut l 10 (10+2)=[x,y]:=hx1
 have hu1':cut l 22 (22+2)=[u,v]:=hu1
 symm
 refine gm fl ?_
 symm
 refine gm (fw) ?_
 refine hs _ (by lia) _ ?_
 refine ON (by lia) hl lw hq (by lia) ?_
 symm
 rw[show l.take (20+q).toNat++w++l.drop (20+q+2).toNat=ins l a 2 w by simp[ins,hqa]]
 refine AV (by lia) hx hy (by lia) (by lia) (by decide) (by lia) hx1' λr r0 r1 rc=>?_
 rw[show(ins l a 2 w).take (10:Int).toNat++[b1 r,b0 r]++(ins l a 2 w).drop (10+2:Int).toNat=(ins (ins l a 2 w) 10 2 [b1 r,b0 r])from rfl]
 have len2:(ins (ins l a 2 w) 10 2 [b1 r,b0 r]).length=l.length:=by rw[gJ (by decide) (by rw[eZ];lia),eZ]
 have k2:cut (ins (ins l a 2 w) 10 2 [b1 r,b0 r]) a (a+2)=[c0,c1]:=by rw[gG (by decide) (by rw[eZ];lia) hA (by lia) (by lia),k1]
 symm
 refine SK (by lia) hu hv ha0 ha1 hc0 hc1 (by lia) (by lia) (by decide) (by lia) hu1' hA (by lia) ho k2 λs s0 s1 sc=>?_
 exact h r s r0 r1 rc s0 s1 sc
structure Sd where
 pr:Int
 so:Int
 sp:Int
 ta:Int
 dp:Int
 deriving DecidableEq
noncomputable def o2 (x:Int):List Int:=[b1 x,b0 x]
noncomputable def o4 (x:Int):List Int:=[b3 x,b2 x,b1 x,b0 x]
noncomputable def iH (s:Sd) (d:List Int) (c:Int):List Int:=
 if s.pr=6 then b1 s.sp::b0 s.sp::b1 s.dp::b0 s.dp::0::0::0::9::0::0::0::4::80::16::2::0::b1 c::b0 c::0::0::d
 else if s.pr=17 then b1 s.sp::b0 s.sp::b1 s.dp::b0 s.dp::b1 (8+d.length)::b0 (8+d.length)::b1 c::b0 c::d
 else s.dp::0::b1 c::b0 c::b1 s.sp::b0 s.sp::0::3::d
noncomputable def qI (s:Sd) (d:List Int):Int:=(if s.pr=6 then 40 else 28)+d.length
noncomputable def qT (s:Sd) (d:List Int) (c1 c2:Int):List Int:=
 69::0::b1 (qI s d)::b0 (qI s d)::0::7::64::0::64::s.pr::b1 c1::b0 c1::b3 s.so::b2 s.so::b1 s.so::b0 s.so::b3 s.ta::b2 s.ta::b1 s.ta::b0 s.ta::iH s d c2
noncomputable def hs (x:Int):Int:=x/65536+x%65536
noncomputable def DT:List Int->Int
 | []=>0
 | [a]=>a*256
 |a::b::r=>a*256+b+DT r
noncomputable def HT (s:Sd) (d:List Int):Int:=69*256+qI s d+7+64*256+64*256+s.pr+hs s.so+hs s.ta
noncomputable def BT (s:Sd) (d:List Int):Int:=
 if s.pr=6 then s.sp+s.dp+9+4+(80*256+16)+512+DT d+hs s.so+hs s.ta+6+(20+d.length)
 else if s.pr=17 then s.sp+s.dp+(8+d.length)+DT d+hs s.so+hs s.ta+17+(8+d.length)
 else s.dp*256+s.sp+3+DT d
structure Sd.Ok (s:Sd):Prop where
 pr:s.pr=6\/s.pr=17\/s.pr=1
 so:0<=s.so/\s.so<4294967296
 sp:0<=s.sp/\s.sp<65536
 ta:0<=s.ta/\s.ta<4294967296
 dp:0<=s.dp/\s.dp<65536
 ic:s.pr=1->s.dp=8\/s.dp=0
inductive Pk (bare:Bool) (s:Sd) (d l:List Int):Prop
 |mk (c e:Int) (hl:l=qT s d c e) (hc:0<=c/\c<65536) (he:0<=e/\e<65536) (hh:(c+HT s d)%65535=0) (h1:bare=true->s.pr=17/\e=0) (h2:bare=false->(e+BT s d)%65535=0/\(s.pr=17->e≠0))
noncomputable def T1 (pr:Int) (d:List Int):Int:=(if pr=6 then 40 else 28)+d.length
theorem AM{pr so sp ta dp:Int}:HT ⟨pr,so,sp,ta,dp⟩ d=69*256+T1 pr d+7+64*256+64*256+pr+hs so+hs ta:=rfl
theorem K2{so sp ta dp:Int}:BT ⟨6,so,sp,ta,dp⟩ d=sp+dp+9+4+(80*256+16)+512+DT d+hs so+hs ta+6+(20+d.length):=rfl
theorem tG{so sp ta dp:Int}:BT ⟨17,so,sp,ta,dp⟩ d=sp+dp+(8+d.length)+DT d+hs so+hs ta+17+(8+d.length):=rfl
theorem TO{so sp ta dp:Int}:BT ⟨1,so,sp,ta,dp⟩ d=dp*256+sp+3+DT d:=rfl
theorem I9(s:Sd)(d:List Int)(c:Int):d.length+8<=(iH s d c).length/\(iH s d c).length<=d.length+20:=by
 unfold iH
 by_cases h:s.pr=6
 ·rw[if_pos h];exact⟨Nat.add_le_add_left (show 8<=20 by decide) d.length,Nat.le_refl _⟩
 ·rw[if_neg h]
  by_cases h:s.pr=17
  ·rw[if_pos h];exact⟨Nat.le_refl _,Nat.add_le_add_left (show 8<=20 by decide) d.length⟩
  ·rw[if_neg h];exact⟨Nat.le_refl _,Nat.add_le_add_left (show 8<=20 by decide) d.length⟩
theorem AF{c e:Int}(hd:d.length<=3):28<=(qT s d c e).length/\(qT s d c e).length<1000:=by
 have h:=I9 s d e
 exact⟨Nat.add_le_add_right (Nat.le_trans (Nat.le_add_left 8 d.length) h.1) 20,Nat.lt_of_le_of_lt (Nat.add_le_add_right (Nat.le_trans h.2 (Nat.add_le_add_right hd 20)) 20) (show 3+20+20<1000 by decide)⟩
theorem lo(x:Int):b1 x*256+b0 x=x%65536:=by unfold b1 b0;lia
theorem hi(x:Int):b3 x*256+b2 x=x/65536%65536:=by
 have e:x/16777216=x/65536/256:=(Int.ediv_ediv_of_nonneg (x:=x) (y:=65536) (z:=256) (by decide)).symm
 have:=lo (x/65536)
 unfold b1 b0 at this
 unfold b3 b2
 rw[e];exact this
theorem M8{x:Int}(h:0<=x/\x<4294967296):x/65536%65536=x/65536:=Int.emod_eq_of_lt (Int.ediv_nonneg h.1 (by decide)) (Int.ediv_lt_of_lt_mul (by decide) h.2)
theorem gP{x:Int}(h:0<=x/\x<4294967296):(b3 x*256+b2 x)+(b1 x*256+b0 x)=hs x:=by rw[hi,lo,M8 h];rfl
theorem aQ{x:Int}(h:0<=x/\x<65536):b1 x*256+b0 x=x:=(lo x).trans (Int.emod_eq_of_lt h.1 h.2)
theorem r4{x:Int}(h:0<=x/\x<4294967296):b3 x*16777216+b2 x*65536+b1 x*256+b0 x=x:=by
 have e:b3 x*16777216+b2 x*65536+b1 x*256+b0 x=65536*(b3 x*256+b2 x)+(b1 x*256+b0 x):=by lia
 rw[e,hi,lo,M8 h,Int.mul_ediv_add_emod]
theorem b8{C c o O n N T T' r:Int}(qc:C=c)(qo:o=O)(qn:n=N)(h:(c+T)%65535=0)(rc:(r-(C+o-n))%65535=0)(e:T'=T-O+N):(r+T')%65535=0:=by
 subst qc qo qn e;lia
theorem dW{C c T r:Int}(qc:C=c)(h:(c+T)%65535=0)(rc:(r-(C+0-0))%65535=0):(r+T)%65535=0:=b8 qc rfl rfl h rc (by rw[Int.sub_zero,Int.add_zero])
theorem zW{pr so x sp ta dp:Int}:HT ⟨pr,x,sp,ta,dp⟩ d=HT ⟨pr,so,sp,ta,dp⟩ d-hs so+hs x:=by rw[AM,AM];lia
theorem z6{pr so x sp ta dp:Int}:HT ⟨pr,so,sp,x,dp⟩ d=HT ⟨pr,so,sp,ta,dp⟩ d-hs ta+hs x:=by rw[AM,AM];lia
theorem QC{so x sp ta dp:Int}:BT ⟨6,x,sp,ta,dp⟩ d=BT ⟨6,so,sp,ta,dp⟩ d-hs so+hs x:=by rw[K2,K2];lia
theorem PX{so x sp ta dp:Int}:BT ⟨6,so,sp,x,dp⟩ d=BT ⟨6,so,sp,ta,dp⟩ d-hs ta+hs x:=by rw[K2,K2];lia
theorem O3{so x sp ta dp:Int}:BT ⟨6,so,x,ta,dp⟩ d=BT ⟨6,so,sp,ta,dp⟩ d-sp+x:=by rw[K2,K2];lia
theorem QM{so x sp ta dp:Int}:BT ⟨6,so,sp,ta,x⟩ d=BT ⟨6,so,sp,ta,dp⟩ d-dp+x:=by rw[K2,K2];lia
theorem MP{so x sp ta dp:Int}:BT ⟨17,x,sp,ta,dp⟩ d=BT ⟨17,so,sp,ta,dp⟩ d-hs so+hs x:=by rw[tG,tG];lia
theorem JD{so x sp ta dp:Int}:BT ⟨17,so,sp,x,dp⟩ d=BT ⟨17,so,sp,ta,dp⟩ d-hs ta+hs x:=by rw[tG,tG];lia
theorem M4{so x sp ta dp:Int}:BT ⟨17,so,x,ta,dp⟩ d=BT ⟨17,so,sp,ta,dp⟩ d-sp+x:=by rw[tG,tG];lia
theorem K9{so x sp ta dp:Int}:BT ⟨17,so,sp,ta,x⟩ d=BT ⟨17,so,sp,ta,dp⟩ d-dp+x:=by rw[tG,tG];lia
theorem PW{so x sp ta dp:Int}:BT ⟨1,so,x,ta,dp⟩ d=BT ⟨1,so,sp,ta,dp⟩ d-sp+x:=by rw[TO,TO];lia
theorem mG{x y:Int}(hx:0<=x/\x<4294967296)(hy:0<=y/\y<4294967296)(h:o4 x=o4 y):x=y:=by
 unfold o4 at h;simp only[List.cons.injEq]at h
 have:=r4 hx;have:=r4 hy;lia
theorem p7{x y:Int}(hx:0<=x/\x<65536)(hy:0<=y/\y<65536)(h:o2 x=o2 y):x=y:=by
 unfold o2 at h;simp only[List.cons.injEq]at h
 have:=aQ hx;have:=aQ hy;lia
theorem qB(x:Int):aM (b3 x):=e6 _
theorem qD(x:Int):aM (b2 x):=e6 _
theorem b6(x:Int):aM (b1 x):=e6 _
theorem bZ(x:Int):aM (b0 x):=e6 _
theorem aO:(!bQ (.bytes a) (.bytes b))= !j3 a b:=rfl
theorem J7(hn:5<=n){so sp ta dp x:Int}{bare:Bool}(ht:dR t)(hH:∀l,gC (h0::h1::h2::h3::h4::aK 6::.bar l::t))(hf:0<=so/\so<4294967296)(hx:0<=x/\x<4294967296)(hd:d.length<=3)(hp:Pk bare ⟨6,so,sp,ta,dp⟩ d l)
 (h:∀l,Pk bare ⟨6,x,sp,ta,dp⟩ d l->K .none (h0::h1::h2::h3::h4::aK 6::.bar l::t)):R n "put_there" [.ref 5,.str "network",.int 12,.bytes (o4 x)] (h0::h1::h2::h3::h4::aK 6::.bar l::t) K:=by
 obtain⟨c,e,hl,hc,he,hc1,he1,he2⟩:=hp
 have len:l.length=d.length+40:=hl▸rfl
 have i0:item l 0=some 69:=hl▸rfl
 have k1:cut l 10 12=[b1 c,b0 c]:=hl▸rfl
 have k2:cut l 36 38=[b1 e,b0 e]:=hl▸rfl
 have k3:cut l 12 16=o4 so:=hl▸rfl
 have q1:=aQ hc
 have q2:=aQ he
 have q3:=gP hf
 have q4:=gP hx
 obtain⟨n,rfl⟩:=aU hn
 symm
 refine part4 (by lia) (by lia) (by decide) (by lia) ?_
 symm
 by_cases cs:so=x
 ·rw[aO,show j3 (cut l (0+12) (0+12+4)) (o4 x)=true from(bI _ _).mpr (k3.trans (by rw[cs]))]
  symm
  subst cs
  exact h l ⟨c,e,hl,hc,he,hc1,he1,he2⟩
 rw[aO,show j3 (cut l (0+12) (0+12+4)) (o4 x)=false from Bool.eq_false_iff.mpr λq=>cs (mG hf hx (k3.symm.trans ((bI _ _).mp q)))]
 refine wB (by lia) (b6 c) (bZ c) (b6 e) (bZ e) (qB so) (qD so) (b6 so) (bZ so) (qB x) (qD x) (b6 x) (bZ x) (by lia) (by lia) (by decide) (by lia) rfl k1 k2 k3 (by decide) (by decide) (MY ht (by lia) (by lia) i0 (hH l)) ?_
 intro r s r0 r1 rc s0 s1 sc
 refine h _ ⟨r,s,?_,⟨r0,r1⟩,⟨s0,s1⟩,?_,λq=>absurd (he1 q).1 (show ¬(6:Int)=17 by decide),λq=>⟨?_,λq=>absurd q (show ¬(6:Int)=17 by decide)⟩⟩
 ·subst hl;rfl
 ·exact b8 q1 q3 q4 hc1 rc zW
 ·exact b8 q2 q3 q4 (he2 q).1 sc QC
theorem KL(hn:5<=n){so sp ta dp x:Int}{bare:Bool}(ht:dR t)(hH:∀l,gC (h0::h1::h2::h3::h4::aK 6::.bar l::t))(hf:0<=ta/\ta<4294967296)(hx:0<=x/\x<4294967296)(hd:d.length<=3)(hp:Pk bare ⟨6,so,sp,ta,dp⟩ d l)
 (h:∀l,Pk bare ⟨6,so,sp,x,dp⟩ d l->K .none (h0::h1::h2::h3::h4::aK 6::.bar l::t)):R n "put_there" [.ref 5,.str "network",.int 16,.bytes (o4 x)] (h0::h1::h2::h3::h4::aK 6::.bar l::t) K:=by
 obtain⟨c,e,hl,hc,he,hc1,he1,he2⟩:=hp
 have len:l.length=d.length+40:=hl▸rfl
 have i0:item l 0=some 69:=hl▸rfl
 have k1:cut l 10 12=[b1 c,b0 c]:=hl▸rfl
 have k2:cut l 36 38=[b1 e,b0 e]:=hl▸rfl
 have k3:cut l 16 20=o4 ta:=hl▸rfl
 have q1:=aQ hc
 have q2:=aQ he
 have q3:=gP hf
 have q4:=gP hx
 obtain⟨n,rfl⟩:=aU hn
 symm
 refine part4 (by lia) (by lia) (by decide) (by lia) ?_
 symm
 by_cases cs:ta=x
 ·rw[aO,show j3 (cut l (0+16) (0+16+4)) (o4 x)=true from(bI _ _).mpr (k3.trans (by rw[cs]))]
  symm
  subst cs
  exact h l ⟨c,e,hl,hc,he,hc1,he1,he2⟩
 rw[aO,show j3 (cut l (0+16) (0+16+4)) (o4 x)=false from Bool.eq_false_iff.mpr λq=>cs (mG hf hx (k3.symm.trans ((bI _ _).mp q)))]
 refine wB (by lia) (b6 c) (bZ c) (b6 e) (bZ e) (qB ta) (qD ta) (b6 ta) (bZ ta) (qB x) (qD x) (b6 x) (bZ x) (by lia) (by lia) (by decide) (by lia) rfl k1 k2 k3 (by decide) (by decide) (KO ht (by lia) (by lia) i0 (hH l)) ?_
 intro r s r0 r1 rc s0 s1 sc
 refine h _ ⟨r,s,?_,⟨r0,r1⟩,⟨s0,s1⟩,?_,λq=>absurd (he1 q).1 (show ¬(6:Int)=17 by decide),λq=>⟨?_,λq=>absurd q (show ¬(6:Int)=17 by decide)⟩⟩
 ·subst hl;rfl
 ·exact b8 q1 q3 q4 hc1 rc z6
 ·exact b8 q2 q3 q4 (he2 q).1 sc PX
theorem JB(hn:5<=n){so sp ta dp x:Int}{bare:Bool}(ht:dR t)(hH:∀l,gC (h0::h1::h2::h3::h4::aK 6::.bar l::t))(hf:0<=sp/\sp<65536)(hx:0<=x/\x<65536)(hd:d.length<=3)(hp:Pk bare ⟨6,so,sp,ta,dp⟩ d l)
 (h:∀l,Pk bare ⟨6,so,x,ta,dp⟩ d l->K .none (h0::h1::h2::h3::h4::aK 6::.bar l::t)):R n "put_there" [.ref 5,.str "transport",.int 0,.bytes (o2 x)] (h0::h1::h2::h3::h4::aK 6::.bar l::t) K:=by
 obtain⟨c,e,hl,hc,he,hc1,he1,he2⟩:=hp
 have len:l.length=d.length+40:=hl▸rfl
 have i0:item l 0=some 69:=hl▸rfl
 have k1:cut l 10 12=[b1 c,b0 c]:=hl▸rfl
 have k2:cut l 36 38=[b1 e,b0 e]:=hl▸rfl
 have k3:cut l 20 22=o2 sp:=hl▸rfl
 have q1:=aQ hc
 have q2:=aQ he
 have q3:=aQ hf
 have q4:=aQ hx
 obtain⟨n,rfl⟩:=aU hn
 symm
 refine pH (k:=2) (by lia) (by lia) (by decide) (by decide) (by lia) ?_
 symm
 by_cases cs:sp=x
 ·rw[aO,show j3 (cut l (20+0) (20+0+2)) (o2 x)=true from(bI _ _).mpr (k3.trans (by rw[cs]))]
  symm
  subst cs
  exact h l ⟨c,e,hl,hc,he,hc1,he1,he2⟩
 rw[aO,show j3 (cut l (20+0) (20+0+2)) (o2 x)=false from Bool.eq_false_iff.mpr λq=>cs (p7 hf hx (k3.symm.trans ((bI _ _).mp q)))]
 refine qX (by lia) (b6 c) (bZ c) (b6 e) (bZ e) (b6 sp) (bZ sp) (b6 x) (bZ x) (by lia) (by lia) (by decide) (by lia) rfl (by decide) rfl k1 k2 k3 (by decide) (by decide) (KD ht (by lia) (by lia) i0 (hH l)) ?_
 intro r s r0 r1 rc s0 s1 sc
 refine h _ ⟨r,s,?_,⟨r0,r1⟩,⟨s0,s1⟩,?_,λq=>absurd (he1 q).1 (show ¬(6:Int)=17 by decide),λq=>⟨?_,λq=>absurd q (show ¬(6:Int)=17 by decide)⟩⟩
 ·subst hl;rfl
 ·exact dW q1 hc1 rc
 ·exact b8 q2 q3 q4 (he2 q).1 sc O3
theorem JL(hn:5<=n){so sp ta dp x:Int}{bare:Bool}(ht:dR t)(hH:∀l,gC (h0::h1::h2::h3::h4::aK 6::.bar l::t))(hf:0<=dp/\dp<65536)(hx:0<=x/\x<65536)(hd:d.length<=3)(hp:Pk bare ⟨6,so,sp,ta,dp⟩ d l)
 (h:∀l,Pk bare ⟨6,so,sp,ta,x⟩ d l->K .none (h0::h1::h2::h3::h4::aK 6::.bar l::t)):R n "put_there" [.ref 5,.str "transport",.int 2,.bytes (o2 x)] (h0::h1::h2::h3::h4::aK 6::.bar l::t) K:=by
 obtain⟨c,e,hl,hc,he,hc1,he1,he2⟩:=hp
 have len:l.length=d.length+40:=hl▸rfl
 have i0:item l 0=some 69:=hl▸rfl
 have k1:cut l 10 12=[b1 c,b0 c]:=hl▸rfl
 have k2:cut l 36 38=[b1 e,b0 e]:=hl▸rfl
 have k3:cut l 22 24=o2 dp:=hl▸rfl
 have q1:=aQ hc
 have q2:=aQ he
 have q3:=aQ hf
 have q4:=aQ hx
 obtain⟨n,rfl⟩:=aU hn
 symm
 refine pH (k:=2) (by lia) (by lia) (by decide) (by decide) (by lia) ?_
 symm
 by_cases cs:dp=x
 ·rw[aO,show j3 (cut l (20+2) (20+2+2)) (o2 x)=true from(bI _ _).mpr (k3.trans (by rw[cs]))]
  symm
  subst cs
  exact h l ⟨c,e,hl,hc,he,hc1,he1,he2⟩
 rw[aO,show j3 (cut l (20+2) (20+2+2)) (o2 x)=false from Bool.eq_false_iff.mpr λq=>cs (p7 hf hx (k3.symm.trans ((bI _ _).mp q)))]
 refine qX (by lia) (b6 c) (bZ c) (b6 e) (bZ e) (b6 dp) (bZ dp) (b6 x) (bZ x) (by lia) (by lia) (by decide) (by lia) rfl (by decide) rfl k1 k2 k3 (by decide) (by decide) (JS ht (by lia) (by lia) i0 (hH l)) ?_
 intro r s r0 r1 rc s0 s1 sc
 refine h _ ⟨r,s,?_,⟨r0,r1⟩,⟨s0,s1⟩,?_,λq=>absurd (he1 q).1 (show ¬(6:Int)=17 by decide),λq=>⟨?_,λq=>absurd q (show ¬(6:Int)=17 by decide)⟩⟩
 ·subst hl;rfl
 ·exact dW q1 hc1 rc
 ·exact b8 q2 q3 q4 (he2 q).1 sc QM
theorem EZ(hn:5<=n){so sp ta dp x:Int}{bare:Bool}(ht:dR t)(hH:∀l,gC (h0::h1::h2::h3::h4::aK 17::.bar l::t))(hf:0<=so/\so<4294967296)(hx:0<=x/\x<4294967296)(hd:d.length<=3)(hp:Pk bare ⟨17,so,sp,ta,dp⟩ d l)
 (h:∀l,Pk bare ⟨17,x,sp,ta,dp⟩ d l->K .none (h0::h1::h2::h3::h4::aK 17::.bar l::t)):R n "put_there" [.ref 5,.str "network",.int 12,.bytes (o4 x)] (h0::h1::h2::h3::h4::aK 17::.bar l::t) K:=by
 obtain⟨c,e,hl,hc,he,hc1,he1,he2⟩:=hp
 have len:l.length=d.length+28:=hl▸rfl
 have i0:item l 0=some 69:=hl▸rfl
 have k1:cut l 10 12=[b1 c,b0 c]:=hl▸rfl
 have k2:cut l 26 28=[b1 e,b0 e]:=hl▸rfl
 have k3:cut l 12 16=o4 so:=hl▸rfl
 have q1:=aQ hc
 have q2:=aQ he
 have q3:=gP hf
 have q4:=gP hx
 obtain⟨n,rfl⟩:=aU hn
 symm
 refine part4 (by lia) (by lia) (by decide) (by lia) ?_
 symm
 by_cases cs:so=x
 ·rw[aO,show j3 (cut l (0+12) (0+12+4)) (o4 x)=true from(bI _ _).mpr (k3.trans (by rw[cs]))]
  symm
  subst cs
  exact h l ⟨c,e,hl,hc,he,hc1,he1,he2⟩
 rw[aO,show j3 (cut l (0+12) (0+12+4)) (o4 x)=false from Bool.eq_false_iff.mpr λq=>cs (mG hf hx (k3.symm.trans ((bI _ _).mp q)))]
 refine r5 (by lia) (b6 c) (bZ c) (b6 e) (bZ e) (qB so) (qD so) (b6 so) (bZ so) (qB x) (qD x) (b6 x) (bZ x) (by lia) (by lia) (by decide) (by lia) rfl k1 k2 k3 (by decide) (by decide) (HP ht (by lia) (by lia) i0 (hH l)) ?_ ?_
 ·intro z r r0 r1 rc
  have z':e=0:=q2.symm.trans z
  refine h _ ⟨r,e,?_,⟨r0,r1⟩,he,?_,λq=>⟨rfl,z'⟩,λq=>absurd z' ((he2 q).2 rfl)⟩
  ·subst hl;rfl
  ·exact b8 q1 q3 q4 hc1 rc zW
 ·intro cn r s r0 r1 rc s0 s1 sc sz
  have nb:bare=false:=by
   rcases bare
   ·rfl
   ·exact absurd (q2.trans (he1 rfl).2) cn
  refine h _ ⟨r,s,?_,⟨r0,r1⟩,⟨s0,s1⟩,?_,λq=>?_,λq=>⟨?_,λ_=>sz⟩⟩
  ·subst hl;rfl
  ·exact b8 q1 q3 q4 hc1 rc zW
  ·exact mN (q.symm.trans nb)
  ·exact b8 q2 q3 q4 (he2 nb).1 sc MP
theorem EF(hn:5<=n){so sp ta dp x:Int}{bare:Bool}(ht:dR t)(hH:∀l,gC (h0::h1::h2::h3::h4::aK 17::.bar l::t))(hf:0<=ta/\ta<4294967296)(hx:0<=x/\x<4294967296)(hd:d.length<=3)(hp:Pk bare ⟨17,so,sp,ta,dp⟩ d l)
 (h:∀l,Pk bare ⟨17,so,sp,x,dp⟩ d l->K .none (h0::h1::h2::h3::h4::aK 17::.bar l::t)):R n "put_there" [.ref 5,.str "network",.int 16,.bytes (o4 x)] (h0::h1::h2::h3::h4::aK 17::.bar l::t) K:=by
 obtain⟨c,e,hl,hc,he,hc1,he1,he2⟩:=hp
 have len:l.length=d.length+28:=hl▸rfl
 have i0:item l 0=some 69:=hl▸rfl
 have k1:cut l 10 12=[b1 c,b0 c]:=hl▸rfl
 have k2:cut l 26 28=[b1 e,b0 e]:=hl▸rfl
 have k3:cut l 16 20=o4 ta:=hl▸rfl
 have q1:=aQ hc
 have q2:=aQ he
 have q3:=gP hf
 have q4:=gP hx
 obtain⟨n,rfl⟩:=aU hn
 symm
 refine part4 (by lia) (by lia) (by decide) (by lia) ?_
 symm
 by_cases cs:ta=x
 ·rw[aO,show j3 (cut l (0+16) (0+16+4)) (o4 x)=true from(bI _ _).mpr (k3.trans (by rw[cs]))]
  symm
  subst cs
  exact h l ⟨c,e,hl,hc,he,hc1,he1,he2⟩
 rw[aO,show j3 (cut l (0+16) (0+16+4)) (o4 x)=false from Bool.eq_false_iff.mpr λq=>cs (mG hf hx (k3.symm.trans ((bI _ _).mp q)))]
 refine r5 (by lia) (b6 c) (bZ c) (b6 e) (bZ e) (qB ta) (qD ta) (b6 ta) (bZ ta) (qB x) (qD x) (b6 x) (bZ x) (by lia) (by lia) (by decide) (by lia) rfl k1 k2 k3 (by decide) (by decide) (GU ht (by lia) (by lia) i0 (hH l)) ?_ ?_
 ·intro z r r0 r1 rc
  have z':e=0:=q2.symm.trans z
  refine h _ ⟨r,e,?_,⟨r0,r1⟩,he,?_,λq=>⟨rfl,z'⟩,λq=>absurd z' ((he2 q).2 rfl)⟩
  ·subst hl;rfl
  ·exact b8 q1 q3 q4 hc1 rc z6
 ·intro cn r s r0 r1 rc s0 s1 sc sz
  have nb:bare=false:=by
   rcases bare
   ·rfl
   ·exact absurd (q2.trans (he1 rfl).2) cn
  refine h _ ⟨r,s,?_,⟨r0,r1⟩,⟨s0,s1⟩,?_,λq=>?_,λq=>⟨?_,λ_=>sz⟩⟩
  ·subst hl;rfl
  ·exact b8 q1 q3 q4 hc1 rc z6
  ·exact mN (q.symm.trans nb)
  ·exact b8 q2 q3 q4 (he2 nb).1 sc JD
theorem EK(hn:5<=n){so sp ta dp x:Int}{bare:Bool}(ht:dR t)(hH:∀l,gC (h0::h1::h2::h3::h4::aK 17::.bar l::t))(hf:0<=sp/\sp<65536)(hx:0<=x/\x<65536)(hd:d.length<=3)(hp:Pk bare ⟨17,so,sp,ta,dp⟩ d l)
 (h:∀l,Pk bare ⟨17,so,x,ta,dp⟩ d l->K .none (h0::h1::h2::h3::h4::aK 17::.bar l::t)):R n "put_there" [.ref 5,.str "transport",.int 0,.bytes (o2 x)] (h0::h1::h2::h3::h4::aK 17::.bar l::t) K:=by
 obtain⟨c,e,hl,hc,he,hc1,he1,he2⟩:=hp
 have len:l.length=d.length+28:=hl▸rfl
 have i0:item l 0=some 69:=hl▸rfl
 have k1:cut l 10 12=[b1 c,b0 c]:=hl▸rfl
 have k2:cut l 26 28=[b1 e,b0 e]:=hl▸rfl
 have k3:cut l 20 22=o2 sp:=hl▸rfl
 have q1:=aQ hc
 have q2:=aQ he
 have q3:=aQ hf
 have q4:=aQ hx
 obtain⟨n,rfl⟩:=aU hn
 symm
 refine pH (k:=2) (by lia) (by lia) (by decide) (by decide) (by lia) ?_
 symm
 by_cases cs:sp=x
 ·rw[aO,show j3 (cut l (20+0) (20+0+2)) (o2 x)=true from(bI _ _).mpr (k3.trans (by rw[cs]))]
  symm
  subst cs
  exact h l ⟨c,e,hl,hc,he,hc1,he1,he2⟩
 rw[aO,show j3 (cut l (20+0) (20+0+2)) (o2 x)=false from Bool.eq_false_iff.mpr λq=>cs (p7 hf hx (k3.symm.trans ((bI _ _).mp q)))]
 refine pK (by lia) (b6 c) (bZ c) (b6 e) (bZ e) (b6 sp) (bZ sp) (b6 x) (bZ x) (by lia) (by lia) (by decide) (by lia) rfl (by decide) rfl k1 k2 k3 (by decide) (by decide) (GK ht (by lia) (by lia) i0 (hH l)) ?_ ?_
 ·intro z r r0 r1 rc
  have z':e=0:=q2.symm.trans z
  refine h _ ⟨r,e,?_,⟨r0,r1⟩,he,?_,λq=>⟨rfl,z'⟩,λq=>absurd z' ((he2 q).2 rfl)⟩
  ·subst hl;rfl
  ·exact dW q1 hc1 rc
 ·intro cn r s r0 r1 rc s0 s1 sc sz
  have nb:bare=false:=by
   rcases bare
   ·rfl
   ·exact absurd (q2.trans (he1 rfl).2) cn
  refine h _ ⟨r,s,?_,⟨r0,r1⟩,⟨s0,s1⟩,?_,λq=>?_,λq=>⟨?_,λ_=>sz⟩⟩
  ·subst hl;rfl
  ·exact dW q1 hc1 rc
  ·exact mN (q.symm.trans nb)
  ·exact b8 q2 q3 q4 (he2 nb).1 sc M4
theorem F4(hn:5<=n){so sp ta dp x:Int}{bare:Bool}(ht:dR t)(hH:∀l,gC (h0::h1::h2::h3::h4::aK 17::.bar l::t))(hf:0<=dp/\dp<65536)(hx:0<=x/\x<65536)(hd:d.length<=3)(hp:Pk bare ⟨17,so,sp,ta,dp⟩ d l)
 (h:∀l,Pk bare ⟨17,so,sp,ta,x⟩ d l->K .none (h0::h1::h2::h3::h4::aK 17::.bar l::t)):R n "put_there" [.ref 5,.str "transport",.int 2,.bytes (o2 x)] (h0::h1::h2::h3::h4::aK 17::.bar l::t) K:=by
 obtain⟨c,e,hl,hc,he,hc1,he1,he2⟩:=hp
 have len:l.length=d.length+28:=hl▸rfl
 have i0:item l 0=some 69:=hl▸rfl
 have k1:cut l 10 12=[b1 c,b0 c]:=hl▸rfl
 have k2:cut l 26 28=[b1 e,b0 e]:=hl▸rfl
 have k3:cut l 22 24=o2 dp:=hl▸rfl
 have q1:=aQ hc
 have q2:=aQ he
 have q3:=aQ hf
 have q4:=aQ hx
 obtain⟨n,rfl⟩:=aU hn
 symm
 refine pH (k:=2) (by lia) (by lia) (by decide) (by decide) (by lia) ?_
 symm
 by_cases cs:dp=x
 ·rw[aO,show j3 (cut l (20+2) (20+2+2)) (o2 x)=true from(bI _ _).mpr (k3.trans (by rw[cs]))]
  symm
  subst cs
  exact h l ⟨c,e,hl,hc,he,hc1,he1,he2⟩
 rw[aO,show j3 (cut l (20+2) (20+2+2)) (o2 x)=false from Bool.eq_false_iff.mpr λq=>cs (p7 hf hx (k3.symm.trans ((bI _ _).mp q)))]
 refine pK (by lia) (b6 c) (bZ c) (b6 e) (bZ e) (b6 dp) (bZ dp) (b6 x) (bZ x) (by lia) (by lia) (by decide) (by lia) rfl (by decide) rfl k1 k2 k3 (by decide) (by decide) (GF ht (by lia) (by lia) i0 (hH l)) ?_ ?_
 ·intro z r r0 r1 rc
  have z':e=0:=q2.symm.trans z
  refine h _ ⟨r,e,?_,⟨r0,r1⟩,he,?_,λq=>⟨rfl,z'⟩,λq=>absurd z' ((he2 q).2 rfl)⟩
  ·subst hl;rfl
  ·exact dW q1 hc1 rc
 ·intro cn r s r0 r1 rc s0 s1 sc sz
  have nb:bare=false:=by
   rcases bare
   ·rfl
   ·exact absurd (q2.trans (he1 rfl).2) cn
  refine h _ ⟨r,s,?_,⟨r0,r1⟩,⟨s0,s1⟩,?_,λq=>?_,λq=>⟨?_,λ_=>sz⟩⟩
  ·subst hl;rfl
  ·exact dW q1 hc1 rc
  ·exact mN (q.symm.trans nb)
  ·exact b8 q2 q3 q4 (he2 nb).1 sc K9
theorem JF(hn:5<=n){so sp ta dp x:Int}{bare:Bool}(ht:dR t)(hH:∀l,gC (h0::h1::h2::h3::h4::aK 1::.bar l::t))(hf:0<=so/\so<4294967296)(hx:0<=x/\x<4294967296)(hd:d.length<=3)(hp:Pk bare ⟨1,so,sp,ta,dp⟩ d l)
 (h:∀l,Pk bare ⟨1,x,sp,ta,dp⟩ d l->K .none (h0::h1::h2::h3::h4::aK 1::.bar l::t)):R n "put_there" [.ref 5,.str "network",.int 12,.bytes (o4 x)] (h0::h1::h2::h3::h4::aK 1::.bar l::t) K:=by
 obtain⟨c,e,hl,hc,he,hc1,he1,he2⟩:=hp
 have len:l.length=d.length+28:=hl▸rfl
 have i0:item l 0=some 69:=hl▸rfl
 have k1:cut l 10 12=[b1 c,b0 c]:=hl▸rfl
 have k2:cut l 22 24=[b1 e,b0 e]:=hl▸rfl
 have k3:cut l 12 16=o4 so:=hl▸rfl
 have q1:=aQ hc
 have q2:=aQ he
 have q3:=gP hf
 have q4:=gP hx
 obtain⟨n,rfl⟩:=aU hn
 symm
 refine part4 (by lia) (by lia) (by decide) (by lia) ?_
 symm
 by_cases cs:so=x
 ·rw[aO,show j3 (cut l (0+12) (0+12+4)) (o4 x)=true from(bI _ _).mpr (k3.trans (by rw[cs]))]
  symm
  subst cs
  exact h l ⟨c,e,hl,hc,he,hc1,he1,he2⟩
 rw[aO,show j3 (cut l (0+12) (0+12+4)) (o4 x)=false from Bool.eq_false_iff.mpr λq=>cs (mG hf hx (k3.symm.trans ((bI _ _).mp q)))]
 refine u4 (by lia) (b6 c) (bZ c) (b6 e) (bZ e) (qB so) (qD so) (b6 so) (bZ so) (qB x) (qD x) (b6 x) (bZ x) (by lia) (by lia) (by decide) (by lia) rfl k1 k2 k3 (by decide) (by decide) (KS ht (by lia) (by lia) i0 (hH l)) ?_
 intro r s r0 r1 rc s0 s1 sc
 refine h _ ⟨r,s,?_,⟨r0,r1⟩,⟨s0,s1⟩,?_,λq=>absurd (he1 q).1 (show ¬(1:Int)=17 by decide),λq=>⟨?_,λq=>absurd q (show ¬(1:Int)=17 by decide)⟩⟩
 ·subst hl;rfl
 ·exact b8 q1 q3 q4 hc1 rc zW
 ·exact dW q2 (he2 q).1 sc
theorem KU(hn:5<=n){so sp ta dp x:Int}{bare:Bool}(ht:dR t)(hH:∀l,gC (h0::h1::h2::h3::h4::aK 1::.bar l::t))(hf:0<=ta/\ta<4294967296)(hx:0<=x/\x<4294967296)(hd:d.length<=3)(hp:Pk bare ⟨1,so,sp,ta,dp⟩ d l)
 (h:∀l,Pk bare ⟨1,so,sp,x,dp⟩ d l->K .none (h0::h1::h2::h3::h4::aK 1::.bar l::t)):R n "put_there" [.ref 5,.str "network",.int 16,.bytes (o4 x)] (h0::h1::h2::h3::h4::aK 1::.bar l::t) K:=by
 obtain⟨c,e,hl,hc,he,hc1,he1,he2⟩:=hp
 have len:l.length=d.length+28:=hl▸rfl
 have i0:item l 0=some 69:=hl▸rfl
 have k1:cut l 10 12=[b1 c,b0 c]:=hl▸rfl
 have k2:cut l 22 24=[b1 e,b0 e]:=hl▸rfl
 have k3:cut l 16 20=o4 ta:=hl▸rfl
 have q1:=aQ hc
 have q2:=aQ he
 have q3:=gP hf
 have q4:=gP hx
 obtain⟨n,rfl⟩:=aU hn
 symm
 refine part4 (by lia) (by lia) (by decide) (by lia) ?_
 symm
 by_cases cs:ta=x
 ·rw[aO,show j3 (cut l (0+16) (0+16+4)) (o4 x)=true from(bI _ _).mpr (k3.trans (by rw[cs]))]
  symm
  subst cs
  exact h l ⟨c,e,hl,hc,he,hc1,he1,he2⟩
 rw[aO,show j3 (cut l (0+16) (0+16+4)) (o4 x)=false from Bool.eq_false_iff.mpr λq=>cs (mG hf hx (k3.symm.trans ((bI _ _).mp q)))]
 refine u4 (by lia) (b6 c) (bZ c) (b6 e) (bZ e) (qB ta) (qD ta) (b6 ta) (bZ ta) (qB x) (qD x) (b6 x) (bZ x) (by lia) (by lia) (by decide) (by lia) rfl k1 k2 k3 (by decide) (by decide) (KY ht (by lia) (by lia) i0 (hH l)) ?_
 intro r s r0 r1 rc s0 s1 sc
 refine h _ ⟨r,s,?_,⟨r0,r1⟩,⟨s0,s1⟩,?_,λq=>absurd (he1 q).1 (show ¬(1:Int)=17 by decide),λq=>⟨?_,λq=>absurd q (show ¬(1:Int)=17 by decide)⟩⟩
 ·subst hl;rfl
 ·exact b8 q1 q3 q4 hc1 rc z6
 ·exact dW q2 (he2 q).1 sc
theorem z0(hn:5<=n){so sp ta dp x:Int}{bare:Bool}(ht:dR t)(hH:∀l,gC (h0::h1::h2::h3::h4::aK 1::.bar l::t))(hf:0<=sp/\sp<65536)(hx:0<=x/\x<65536)(hd:d.length<=3)(hp:Pk bare ⟨1,so,sp,ta,dp⟩ d l)
 (h:∀l,Pk bare ⟨1,so,x,ta,dp⟩ d l->K .none (h0::h1::h2::h3::h4::aK 1::.bar l::t)):R n "put_there" [.ref 5,.str "transport",.int 4,.bytes (o2 x)] (h0::h1::h2::h3::h4::aK 1::.bar l::t) K:=by
 obtain⟨c,e,hl,hc,he,hc1,he1,he2⟩:=hp
 have len:l.length=d.length+28:=hl▸rfl
 have i0:item l 0=some 69:=hl▸rfl
 have k1:cut l 10 12=[b1 c,b0 c]:=hl▸rfl
 have k2:cut l 22 24=[b1 e,b0 e]:=hl▸rfl
 have k3:cut l 24 26=o2 sp:=hl▸rfl
 have q1:=aQ hc
 have q2:=aQ he
 have q3:=aQ hf
 have q4:=aQ hx
 obtain⟨n,rfl⟩:=aU hn
 symm
 refine pH (k:=2) (by lia) (by lia) (by decide) (by decide) (by lia) ?_
 symm
 by_cases cs:sp=x
 ·rw[aO,show j3 (cut l (20+4) (20+4+2)) (o2 x)=true from(bI _ _).mpr (k3.trans (by rw[cs]))]
  symm
  subst cs
  exact h l ⟨c,e,hl,hc,he,hc1,he1,he2⟩
 rw[aO,show j3 (cut l (20+4) (20+4+2)) (o2 x)=false from Bool.eq_false_iff.mpr λq=>cs (p7 hf hx (k3.symm.trans ((bI _ _).mp q)))]
 refine BO (by lia) (b6 c) (bZ c) (b6 e) (bZ e) (b6 sp) (bZ sp) (b6 x) (bZ x) (by lia) (by lia) (by decide) (by lia) rfl (by decide) rfl k1 k2 k3 (by decide) (by decide) (LM ht (by lia) (by lia) i0 (hH l)) ?_
 intro r s r0 r1 rc s0 s1 sc
 refine h _ ⟨r,s,?_,⟨r0,r1⟩,⟨s0,s1⟩,?_,λq=>absurd (he1 q).1 (show ¬(1:Int)=17 by decide),λq=>⟨?_,λq=>absurd q (show ¬(1:Int)=17 by decide)⟩⟩
 ·subst hl;rfl
 ·exact dW q1 hc1 rc
 ·exact b8 q2 q3 q4 (he2 q).1 sc PW
theorem cN{A B:Prop}(h:A=B)(b:B):A:=h.mpr b
noncomputable abbrev seg (n:Nat) (x:Str) (k:Nat) (rho:aR) (H:Hp) (K:V->Hp->Prop):Prop:=eO False And aN (run False And aN top n) ((fnX x).body.drop k) ⟨(fnX x).sc,rho,[]⟩ H (RY K) K
theorem dU(hn:1<=n){pr:Int}(h:K (.int 2) (h0::h1::h2::h3::h4::aK pr::t)):R n "family_of" [.ref 5] (h0::h1::h2::h3::h4::aK pr::t) K:=by
 obtain⟨n,rfl⟩:=aU hn
 exact h
theorem sP(hn:1<=n)(h:K (.bool true) H):R n "is_icmp" [.int 2,.int 1] H K:=by
 obtain⟨n,rfl⟩:=aU hn
 exact h
theorem mH(hn:1<=n){k:Int}(hk:k=8\/k=0)(h:K (.int (8-k)) H):R n "answer_kind" [.int 2,.int k] H K:=by
 obtain⟨n,rfl⟩:=aU hn
 rcases hk with rfl|rfl
 ·exact h
 ·exact h
theorem GP(hn:1<=n)(h:K (.int 0) (h0::h1::h2::h3::h4::aK 6::t)):R n "port_place" [.ref 5,.str "src"] (h0::h1::h2::h3::h4::aK 6::t) K:=by
 obtain⟨n,rfl⟩:=aU hn
 exact h
theorem HI(hn:7<=n){so sp ta dp so' sp' ta' dp':Int}{bare:Bool}(ht:dR t)(hH:∀l,gC (h0::h1::h2::h3::h4::aK 6::.bar l::t))(hso:0<=so/\so<4294967296)(hso':0<=so'/\so'<4294967296)(hta:0<=ta/\ta<4294967296)(hta':0<=ta'/\ta'<4294967296)(hsp:0<=sp/\sp<65536)(hsp':0<=sp'/\sp'<65536)(hdp:0<=dp/\dp<65536)(hdp':0<=dp'/\dp'<65536)(hd:d.length<=3)(hp:Pk bare ⟨6,so,sp,ta,dp⟩ d l)
 (h:∀l,Pk bare ⟨6,so',sp',ta,dp⟩ d l->K .none (h0::h1::h2::h3::h4::aK 6::.bar l::t)):R n "rewrite" [.ref 5,.tup [.int 2,.int 6,.int so',.int sp',.int ta',.int dp'],.str "src"] (h0::h1::h2::h3::h4::aK 6::.bar l::t) K:=by
 obtain⟨n,rfl⟩:=aU hn
 refine dU (by lia) ?_
 symm
 refine GP (by lia) ?_
 apply cN (B:=seg n "rewrite" 6 [("packet",.ref 5),("t",.tup [.int 2,.int 6,.int so',.int sp',.int ta',.int dp']),("manip",.str "src"),("nfproto",.int 2),("protocol",.int 6),("source",.int so'),("sport",.int sp'),("target",.int ta'),("dport",.int dp'),("at",.int 12),("size",.int 4),("place",.int 0),("address",.int so'),("port",.int sp')] (h0::h1::h2::h3::h4::aK 6::.bar l::t) K)
 ·kernel_rfl
 refine qJ (by lia) hso'.1 hso'.2 ?_
 refine J7 (by lia) ht hH hso hso' hd hp λl hp=>?_
 refine jP (by lia) hsp'.1 hsp'.2 ?_
 refine JB (by lia) ht hH hsp hsp' hd hp λl hp=>?_
 exact h l hp
theorem II(hn:1<=n)(h:K (.int 2) (h0::h1::h2::h3::h4::aK 6::t)):R n "port_place" [.ref 5,.str "dst"] (h0::h1::h2::h3::h4::aK 6::t) K:=by
 obtain⟨n,rfl⟩:=aU hn
 exact h
theorem DY(hn:7<=n){so sp ta dp so' sp' ta' dp':Int}{bare:Bool}(ht:dR t)(hH:∀l,gC (h0::h1::h2::h3::h4::aK 6::.bar l::t))(hso:0<=so/\so<4294967296)(hso':0<=so'/\so'<4294967296)(hta:0<=ta/\ta<4294967296)(hta':0<=ta'/\ta'<4294967296)(hsp:0<=sp/\sp<65536)(hsp':0<=sp'/\sp'<65536)(hdp:0<=dp/\dp<65536)(hdp':0<=dp'/\dp'<65536)(hd:d.length<=3)(hp:Pk bare ⟨6,so,sp,ta,dp⟩ d l)
 (h:∀l,Pk bare ⟨6,so,sp,ta',dp'⟩ d l->K .none (h0::h1::h2::h3::h4::aK 6::.bar l::t)):R n "rewrite" [.ref 5,.tup [.int 2,.int 6,.int so',.int sp',.int ta',.int dp'],.str "dst"] (h0::h1::h2::h3::h4::aK 6::.bar l::t) K:=by
 obtain⟨n,rfl⟩:=aU hn
 refine dU (by lia) ?_
 symm
 refine II (by lia) ?_
 apply cN (B:=seg n "rewrite" 6 [("packet",.ref 5),("t",.tup [.int 2,.int 6,.int so',.int sp',.int ta',.int dp']),("manip",.str "dst"),("nfproto",.int 2),("protocol",.int 6),("source",.int so'),("sport",.int sp'),("target",.int ta'),("dport",.int dp'),("at",.int 16),("size",.int 4),("place",.int 2),("address",.int ta'),("port",.int dp')] (h0::h1::h2::h3::h4::aK 6::.bar l::t) K)
 ·kernel_rfl
 refine qJ (by lia) hta'.1 hta'.2 ?_
 refine KL (by lia) ht hH hta hta' hd hp λl hp=>?_
 refine jP (by lia) hdp'.1 hdp'.2 ?_
 refine JL (by lia) ht hH hdp hdp' hd hp λl hp=>?_
 exact h l hp
theorem BG(hn:1<=n)(h:K (.int 0) (h0::h1::h2::h3::h4::aK 17::t)):R n "port_place" [.ref 5,.str "src"] (h0::h1::h2::h3::h4::aK 17::t) K:=by
 obtain⟨n,rfl⟩:=aU hn
 exact h
theorem C7(hn:7<=n){so sp ta dp so' sp' ta' dp':Int}{bare:Bool}(ht:dR t)(hH:∀l,gC (h0::h1::h2::h3::h4::aK 17::.bar l::t))(hso:0<=so/\so<4294967296)(hso':0<=so'/\so'<4294967296)(hta:0<=ta/\ta<4294967296)(hta':0<=ta'/\ta'<4294967296)(hsp:0<=sp/\sp<65536)(hsp':0<=sp'/\sp'<65536)(hdp:0<=dp/\dp<65536)(hdp':0<=dp'/\dp'<65536)(hd:d.length<=3)(hp:Pk bare ⟨17,so,sp,ta,dp⟩ d l)
 (h:∀l,Pk bare ⟨17,so',sp',ta,dp⟩ d l->K .none (h0::h1::h2::h3::h4::aK 17::.bar l::t)):R n "rewrite" [.ref 5,.tup [.int 2,.int 17,.int so',.int sp',.int ta',.int dp'],.str "src"] (h0::h1::h2::h3::h4::aK 17::.bar l::t) K:=by
 obtain⟨n,rfl⟩:=aU hn
 refine dU (by lia) ?_
 symm
 refine BG (by lia) ?_
 apply cN (B:=seg n "rewrite" 6 [("packet",.ref 5),("t",.tup [.int 2,.int 17,.int so',.int sp',.int ta',.int dp']),("manip",.str "src"),("nfproto",.int 2),("protocol",.int 17),("source",.int so'),("sport",.int sp'),("target",.int ta'),("dport",.int dp'),("at",.int 12),("size",.int 4),("place",.int 0),("address",.int so'),("port",.int sp')] (h0::h1::h2::h3::h4::aK 17::.bar l::t) K)
 ·kernel_rfl
 refine qJ (by lia) hso'.1 hso'.2 ?_
 refine EZ (by lia) ht hH hso hso' hd hp λl hp=>?_
 refine jP (by lia) hsp'.1 hsp'.2 ?_
 refine EK (by lia) ht hH hsp hsp' hd hp λl hp=>?_
 exact h l hp
theorem C8(hn:1<=n)(h:K (.int 2) (h0::h1::h2::h3::h4::aK 17::t)):R n "port_place" [.ref 5,.str "dst"] (h0::h1::h2::h3::h4::aK 17::t) K:=by
 obtain⟨n,rfl⟩:=aU hn
 exact h
theorem DM(hn:7<=n){so sp ta dp so' sp' ta' dp':Int}{bare:Bool}(ht:dR t)(hH:∀l,gC (h0::h1::h2::h3::h4::aK 17::.bar l::t))(hso:0<=so/\so<4294967296)(hso':0<=so'/\so'<4294967296)(hta:0<=ta/\ta<4294967296)(hta':0<=ta'/\ta'<4294967296)(hsp:0<=sp/\sp<65536)(hsp':0<=sp'/\sp'<65536)(hdp:0<=dp/\dp<65536)(hdp':0<=dp'/\dp'<65536)(hd:d.length<=3)(hp:Pk bare ⟨17,so,sp,ta,dp⟩ d l)
 (h:∀l,Pk bare ⟨17,so,sp,ta',dp'⟩ d l->K .none (h0::h1::h2::h3::h4::aK 17::.bar l::t)):R n "rewrite" [.ref 5,.tup [.int 2,.int 17,.int so',.int sp',.int ta',.int dp'],.str "dst"] (h0::h1::h2::h3::h4::aK 17::.bar l::t) K:=by
 obtain⟨n,rfl⟩:=aU hn
 refine dU (by lia) ?_
 symm
 refine C8 (by lia) ?_
 apply cN (B:=seg n "rewrite" 6 [("packet",.ref 5),("t",.tup [.int 2,.int 17,.int so',.int sp',.int ta',.int dp']),("manip",.str "dst"),("nfproto",.int 2),("protocol",.int 17),("source",.int so'),("sport",.int sp'),("target",.int ta'),("dport",.int dp'),("at",.int 16),("size",.int 4),("place",.int 2),("address",.int ta'),("port",.int dp')] (h0::h1::h2::h3::h4::aK 17::.bar l::t) K)
 ·kernel_rfl
 refine qJ (by lia) hta'.1 hta'.2 ?_
 refine EF (by lia) ht hH hta hta' hd hp λl hp=>?_
 refine jP (by lia) hdp'.1 hdp'.2 ?_
 refine F4 (by lia) ht hH hdp hdp' hd hp λl hp=>?_
 exact h l hp
theorem EN(hn:3<=n){k:Int}(hl:l.length<1000)(hl2:28<=l.length)(hc:cut l 20 21=[k])(hk:k=8\/k=0)(h:K (.int 4) (h0::h1::h2::h3::h4::aK 1::.bar l::t)):R n "port_place" [.ref 5,.str "src"] (h0::h1::h2::h3::h4::aK 1::.bar l::t) K:=by
 obtain⟨n,rfl⟩:=aU hn
 refine dU (by lia) ?_
 refine pH (by lia) hl (by decide) (by decide) (by lia) ?_
 refine sP (by lia) ?_
 symm
 rw[show cut l (20+0) (20+0+1)=[k]from hc]
 refine mH (by lia) hk ?_
 rcases hk with rfl|rfl
 ·exact h
 ·exact h
theorem G7(hn:7<=n){so sp ta dp so' sp' ta' dp':Int}{bare:Bool}(ht:dR t)(hH:∀l,gC (h0::h1::h2::h3::h4::aK 1::.bar l::t))(hso:0<=so/\so<4294967296)(hso':0<=so'/\so'<4294967296)(hta:0<=ta/\ta<4294967296)(hta':0<=ta'/\ta'<4294967296)(hsp:0<=sp/\sp<65536)(hsp':0<=sp'/\sp'<65536)(hk:dp=8\/dp=0)(hd:d.length<=3)(hp:Pk bare ⟨1,so,sp,ta,dp⟩ d l)
 (h:∀l,Pk bare ⟨1,so',sp',ta,dp⟩ d l->K .none (h0::h1::h2::h3::h4::aK 1::.bar l::t)):R n "rewrite" [.ref 5,.tup [.int 2,.int 1,.int so',.int sp',.int ta',.int dp'],.str "src"] (h0::h1::h2::h3::h4::aK 1::.bar l::t) K:=by
 obtain⟨n,rfl⟩:=aU hn
 have len:l.length=d.length+28:=by obtain⟨c,e,hl,-⟩:=hp;subst hl;rfl
 have k20:cut l 20 21=[dp]:=by obtain⟨c,e,hl,-⟩:=hp;subst hl;rfl
 refine dU (by lia) ?_
 symm
 refine EN (by lia) (by lia) (by lia) k20 hk ?_
 apply cN (B:=seg n "rewrite" 6 [("packet",.ref 5),("t",.tup [.int 2,.int 1,.int so',.int sp',.int ta',.int dp']),("manip",.str "src"),("nfproto",.int 2),("protocol",.int 1),("source",.int so'),("sport",.int sp'),("target",.int ta'),("dport",.int dp'),("at",.int 12),("size",.int 4),("place",.int 4),("address",.int so'),("port",.int sp')] (h0::h1::h2::h3::h4::aK 1::.bar l::t) K)
 ·kernel_rfl
 refine qJ (by lia) hso'.1 hso'.2 ?_
 refine JF (by lia) ht hH hso hso' hd hp λl hp=>?_
 refine jP (by lia) hsp'.1 hsp'.2 ?_
 refine z0 (by lia) ht hH hsp hsp' hd hp λl hp=>?_
 exact h l hp
theorem HA(hn:3<=n){k:Int}(hl:l.length<1000)(hl2:28<=l.length)(hc:cut l 20 21=[k])(hk:k=8\/k=0)(h:K (.int 4) (h0::h1::h2::h3::h4::aK 1::.bar l::t)):R n "port_place" [.ref 5,.str "dst"] (h0::h1::h2::h3::h4::aK 1::.bar l::t) K:=by
 obtain⟨n,rfl⟩:=aU hn
 refine dU (by lia) ?_
 refine pH (by lia) hl (by decide) (by decide) (by lia) ?_
 refine sP (by lia) ?_
 symm
 rw[show cut l (20+0) (20+0+1)=[k]from hc]
 refine mH (by lia) hk ?_
 rcases hk with rfl|rfl
 ·exact h
 ·exact h
theorem FN(hn:7<=n){so sp ta dp so' sp' ta' dp':Int}{bare:Bool}(ht:dR t)(hH:∀l,gC (h0::h1::h2::h3::h4::aK 1::.bar l::t))(hso:0<=so/\so<4294967296)(hso':0<=so'/\so'<4294967296)(hta:0<=ta/\ta<4294967296)(hta':0<=ta'/\ta'<4294967296)(hsp:0<=sp/\sp<65536)(hsp':0<=sp'/\sp'<65536)(hk:dp=8\/dp=0)(hd:d.length<=3)(hp:Pk bare ⟨1,so,sp,ta,dp⟩ d l)
 (h:∀l,Pk bare ⟨1,so,sp',ta',dp⟩ d l->K .none (h0::h1::h2::h3::h4::aK 1::.bar l::t)):R n "rewrite" [.ref 5,.tup [.int 2,.int 1,.int so',.int sp',.int ta',.int dp'],.str "dst"] (h0::h1::h2::h3::h4::aK 1::.bar l::t) K:=by
 obtain⟨n,rfl⟩:=aU hn
 have len:l.length=d.length+28:=by obtain⟨c,e,hl,-⟩:=hp;subst hl;rfl
 have k20:cut l 20 21=[dp]:=by obtain⟨c,e,hl,-⟩:=hp;subst hl;rfl
 refine dU (by lia) ?_
 symm
 refine HA (by lia) (by lia) (by lia) k20 hk ?_
 apply cN (B:=seg n "rewrite" 6 [("packet",.ref 5),("t",.tup [.int 2,.int 1,.int so',.int sp',.int ta',.int dp']),("manip",.str "dst"),("nfproto",.int 2),("protocol",.int 1),("source",.int so'),("sport",.int sp'),("target",.int ta'),("dport",.int dp'),("at",.int 16),("size",.int 4),("place",.int 4),("address",.int ta'),("port",.int sp')] (h0::h1::h2::h3::h4::aK 1::.bar l::t) K)
 ·kernel_rfl
 refine qJ (by lia) hta'.1 hta'.2 ?_
 refine KU (by lia) ht hH hta hta' hd hp λl hp=>?_
 refine jP (by lia) hsp'.1 hsp'.2 ?_
 refine z0 (by lia) ht hH hsp hsp' hd hp λl hp=>?_
 exact h l hp
noncomputable def wK (s:Sd):Int:=if s.pr=1 then s.dp*256 else s.dp
noncomputable def aI (s:Sd):V:=.tup [.int 2,.int s.pr,.int s.so,.int s.sp,.int s.ta,.int (wK s)]
noncomputable def turn (s:Sd):Sd:=if s.pr=1 then⟨1,s.ta,s.sp,s.so,8-s.dp⟩else⟨s.pr,s.ta,s.dp,s.so,s.sp⟩
noncomputable def rP (s u:Sd):Sd:={ s with so:=u.so,sp:=u.sp }
noncomputable def nH (s u:Sd):Sd:=if s.pr=1 then{ s with ta:=u.ta,sp:=u.sp }else{ s with ta:=u.ta,dp:=u.dp }
theorem bH(h:s.Ok):(turn s).Ok:=by
 obtain⟨pr,so,sp,ta,dp⟩:=s
 obtain⟨h1,h2,h3,h4,h5,h6⟩:=h
 rcases h1 with h|h|h<;>(simp only at h;subst h;constructor<;>simp[turn]at* <;>lia)
theorem cV(h:s.Ok):turn (turn s)=s:=by
 obtain⟨pr,so,sp,ta,dp⟩:=s
 obtain⟨h1,h2,h3,h4,h5,h6⟩:=h
 rcases h1 with h|h|h<;>(simp only at h;subst h;simp[turn])
 lia
theorem cQ:(turn s).pr=s.pr:=by unfold turn;split<;>simp_all
theorem cL(hn:2<=n)(ho:s.Ok)(h:K (aI (turn s)) H):R n "invert" [aI s] H K:=by
 obtain⟨pr,so,sp,ta,dp⟩:=s
 obtain⟨h1,-,-,-,-,h6⟩:=ho
 obtain⟨n,rfl⟩:=DO hn
 rcases h1 with h1|h1|h1<;>simp only at h1<;>subst h1
 ·symm
  exact h
 ·symm
  exact h
 ·rcases h6 rfl with h7|h7<;>simp only at h7<;>subst h7
  ·symm
   have e:(0*256+Builtin.bitAnd (wK ⟨1,so,sp,ta,8⟩) 255:Int)=wK (turn ⟨1,so,sp,ta,8⟩):=by kernel_rfl
   rw[e];exact h
  ·symm
   have e:(8*256+Builtin.bitAnd (wK ⟨1,so,sp,ta,0⟩) 255:Int)=wK (turn ⟨1,so,sp,ta,0⟩):=by kernel_rfl
   rw[e];exact h
theorem tE(hn:7<=n){bare:Bool}(ht:dR t)(hH:∀l,gC (h0::h1::h2::h3::h4::aK s.pr::.bar l::t))(ho:s.Ok)(hu:u.Ok)(he:u.pr=s.pr)(hd:d.length<=3)(hp:Pk bare s d l)
 (h:∀l,Pk bare (rP s u) d l->K .none (h0::h1::h2::h3::h4::aK s.pr::.bar l::t)):R n "rewrite" [.ref 5,aI u,.str "src"] (h0::h1::h2::h3::h4::aK s.pr::.bar l::t) K:=by
 obtain⟨pr,so,sp,ta,dp⟩:=s
 obtain⟨pr',so',sp',ta',dp'⟩:=u
 obtain⟨p1,p2,p3,p4,p5,p6⟩:=ho
 obtain⟨q1,q2,q3,q4,q5,q6⟩:=hu
 simp only at he;subst he
 rcases p1 with p1|p1|p1<;>simp only at p1<;>subst p1
 ·exact HI hn ht hH p2 q2 p4 q4 p3 q3 p5 q5 hd hp h
 ·exact C7 hn ht hH p2 q2 p4 q4 p3 q3 p5 q5 hd hp h
 ·exact G7 hn ht hH p2 q2 p4 q4 p3 q3 (p6 rfl) hd hp h
theorem t7(hn:7<=n){bare:Bool}(ht:dR t)(hH:∀l,gC (h0::h1::h2::h3::h4::aK s.pr::.bar l::t))(ho:s.Ok)(hu:u.Ok)(he:u.pr=s.pr)(hd:d.length<=3)(hp:Pk bare s d l)
 (h:∀l,Pk bare (nH s u) d l->K .none (h0::h1::h2::h3::h4::aK s.pr::.bar l::t)):R n "rewrite" [.ref 5,aI u,.str "dst"] (h0::h1::h2::h3::h4::aK s.pr::.bar l::t) K:=by
 obtain⟨pr,so,sp,ta,dp⟩:=s
 obtain⟨pr',so',sp',ta',dp'⟩:=u
 obtain⟨p1,p2,p3,p4,p5,p6⟩:=ho
 obtain⟨q1,q2,q3,q4,q5,q6⟩:=hu
 simp only at he;subst he
 rcases p1 with p1|p1|p1<;>simp only at p1<;>subst p1
 ·exact DY hn ht hH p2 q2 p4 q4 p3 q3 p5 q5 hd hp h
 ·exact DM hn ht hH p2 q2 p4 q4 p3 q3 p5 q5 hd hp h
 ·exact FN hn ht hH p2 q2 p4 q4 p3 q3 (p6 rfl) hd hp h
theorem EC(ho:s.Ok)(hu:u.Ok):(nH s u).Ok:=by
 unfold nH;split
 ·exact⟨ho.1,ho.2,hu.3,hu.4,ho.5,ho.6⟩
 ·rename_i h;exact⟨ho.1,ho.2,ho.3,hu.4,hu.5,λq=>absurd q h⟩
theorem EW:(nH s u).pr=s.pr:=by unfold nH;split<;>rfl
theorem l7(hn:3<=n){bare:Bool}(ho:s.Ok)(hd:d.length<=3)(hp:Pk bare s d l)
 (h:K (.bool false) (h0::h1::h2::h3::h4::aK s.pr::.bar l::t)):R n "is_error_packet" [.ref 5] (h0::h1::h2::h3::h4::aK s.pr::.bar l::t) K:=by
 obtain⟨pr,so,sp,ta,dp⟩:=s
 obtain⟨p1,p2,p3,p4,p5,p6⟩:=ho
 obtain⟨n,rfl⟩:∃m,n=m+3:=⟨n-3,by lia⟩
 rcases p1 with p1|p1|p1<;>simp only at p1<;>subst p1
 ·exact h
 ·exact h
 ·have len:l.length=d.length+28:=by obtain⟨c,e,hl,-⟩:=hp;subst hl;rfl
  have k20:item l 20=some dp:=by obtain⟨c,e,hl,-⟩:=hp;subst hl;rfl
  have fl:fits l=true:=fits_of (by lia)
  symm
  refine gm fl ?_
  symm
  with_reducible refine gL (dF (by lia:¬(l.length:Int)<=20)) ?_
  symm
  refine gm fl ?_
  symm
  rw[k20]
  symm
  rcases p6 rfl with h7|h7<;>simp only at h7<;>subst h7
  ·exact h
  ·exact h
noncomputable def N8:V:=.dct [(.int 1,.tup [.tup [.int 10,.int 9],.tup [.int 2,.int 3232235529],.tup [.int 2,.int 8]]),(.int 2,.tup [.tup [.int 10,.int 7],.tup [.int 2,.int 3405803785]])]
noncomputable def dQ (tk:V) (st rep:Int):V:=.obj "Scene" [("packet",.ref 5),("now",.int 5),("hook",.str "prerouting"),("talk",tk),("state",.int st),("is_reply",.int rep),("talks",.ref 0),("sets",.dct []),("objects",.dct []),("fields",.dct []),("readers",.dct []),("doers",.dct []),("ops",.dct []),("tools",.dct []),("order",.str "little"),("log",.lst []),("replies",.lst []),("steps",.none),("homes",N8)]
noncomputable def fE (n:Int) (o r:V) (u st:Int):V:=.obj "Talk" [("number",.int n),("original",o),("reply",r),("zone",.int 0),("until",.int u),("since",.int 0),("mark",.int 0),("status",.int st),("state",.int 0),("sides",.none),("master",.int 0)]
noncomputable def iG (i o:Int):V:=.dct [(.str "mark",.int 0),(.str "priority",.int 0),(.str "iif",.int i),(.str "oif",.int o),(.str "iifname",.int 0),(.str "oifname",.int 0),(.str "pkttype",.int 0),(.str "iiftype",.int 1),(.str "oiftype",.int 1)]
theorem yI(hn:1<=n){st rep:Int}(h:K .none [h0,h1,h2,h3,h4,h5,h6,h7,dQ .none st rep]):R n "translate" [.ref 8,.str "src"] [h0,h1,h2,h3,h4,h5,h6,h7,dQ .none st rep] K:=by
 obtain⟨n,rfl⟩:=aU hn
 symm
 exact h
theorem xY(hn:1<=n){st rep:Int}(h:K .none [h0,h1,h2,h3,h4,h5,h6,h7,dQ .none st rep]):R n "translate" [.ref 8,.str "dst"] [h0,h1,h2,h3,h4,h5,h6,h7,dQ .none st rep] K:=by
 obtain⟨n,rfl⟩:=aU hn
 symm
 exact h
theorem lN(hn:1<=n)(h:K (.int 16) H):R n "bit_for" [.str "src",.int 0] H K:=by
 obtain⟨n,rfl⟩:=aU hn
 exact h
theorem u5(hn:1<=n)(h:K (.int 32) H):R n "bit_for" [.str "src",.int 1] H K:=by
 obtain⟨n,rfl⟩:=aU hn
 exact h
theorem kS(hn:1<=n)(h:K (.int 32) H):R n "bit_for" [.str "dst",.int 0] H K:=by
 obtain⟨n,rfl⟩:=aU hn
 exact h
theorem w1(hn:1<=n)(h:K (.int 16) H):R n "bit_for" [.str "dst",.int 1] H K:=by
 obtain⟨n,rfl⟩:=aU hn
 exact h
theorem pG(hn:1<=n){k u st:Int}(h:K rp [h0,h1,h2,h3,h4,h5,h6,h7,h8]):R n "side_of" [(fE k o rp u st),.int (1-0)] [h0,h1,h2,h3,h4,h5,h6,h7,h8] K:=by
 obtain⟨n,rfl⟩:=aU hn
 exact h
theorem vB(hn:2<=n){k u st sst:Int}(hb:Builtin.bitAnd st 16=0)(h:K .none [h0,h1,h2,h3,h4,h5,h6,h7,dQ (fE k o rp u st) sst 0]):R n "translate" [.ref 8,.str "src"] [h0,h1,h2,h3,h4,h5,h6,h7,dQ (fE k o rp u st) sst 0] K:=by
 obtain⟨n,rfl⟩:=aU hn
 symm
 refine lN (by lia) ?_
 symm
 rw[aB,dT hb]
 exact h
theorem u6(hn:8<=n){bare:Bool}{k u st sst:Int}(hH:∀l,gC (h0::h1::h2::h3::h4::aK s.pr::.bar l::[h7,dQ (fE k o (aI v) u st) sst 0]))(hb:Builtin.bitAnd st 16≠0)(ho:s.Ok)(hv:v.Ok)(he:v.pr=s.pr)(hd:d.length<=3)(hp:Pk bare s d l)
 (h:∀l,Pk bare (rP s (turn v)) d l->K .none (h0::h1::h2::h3::h4::aK s.pr::.bar l::[h7,dQ (fE k o (aI v) u st) sst 0])):R n "translate" [.ref 8,.str "src"] (h0::h1::h2::h3::h4::aK s.pr::.bar l::[h7,dQ (fE k o (aI v) u st) sst 0]) K:=by
 obtain⟨n,rfl⟩:=aU hn
 symm
 refine lN (by lia) ?_
 symm
 rw[aB,dF hb]
 refine pG (by lia) ?_
 refine l7 (by lia) ho hd hp ?_
 refine cL (by lia) hv ?_
 refine tE (by lia) (by left;exact⟨_,_,rfl⟩) hH ho (bH hv) (by rw[cQ,he]) hd hp λl hl=>?_
 exact h l hl
theorem pL(hn:1<=n){k u st:Int}(h:K o [h0,h1,h2,h3,h4,h5,h6,h7,h8]):R n "side_of" [(fE k o rp u st),.int (1-1)] [h0,h1,h2,h3,h4,h5,h6,h7,h8] K:=by
 obtain⟨n,rfl⟩:=aU hn
 exact h
theorem vX(hn:2<=n){k u st sst:Int}(hb:Builtin.bitAnd st 32=0)(h:K .none [h0,h1,h2,h3,h4,h5,h6,h7,dQ (fE k o rp u st) sst 1]):R n "translate" [.ref 8,.str "src"] [h0,h1,h2,h3,h4,h5,h6,h7,dQ (fE k o rp u st) sst 1] K:=by
 obtain⟨n,rfl⟩:=aU hn
 symm
 refine u5 (by lia) ?_
 symm
 rw[aB,dT hb]
 exact h
theorem w4(hn:8<=n){bare:Bool}{k u st sst:Int}(hH:∀l,gC (h0::h1::h2::h3::h4::aK s.pr::.bar l::[h7,dQ (fE k (aI v) rp u st) sst 1]))(hb:Builtin.bitAnd st 32≠0)(ho:s.Ok)(hv:v.Ok)(he:v.pr=s.pr)(hd:d.length<=3)(hp:Pk bare s d l)
 (h:∀l,Pk bare (rP s (turn v)) d l->K .none (h0::h1::h2::h3::h4::aK s.pr::.bar l::[h7,dQ (fE k (aI v) rp u st) sst 1])):R n "translate" [.ref 8,.str "src"] (h0::h1::h2::h3::h4::aK s.pr::.bar l::[h7,dQ (fE k (aI v) rp u st) sst 1]) K:=by
 obtain⟨n,rfl⟩:=aU hn
 symm
 refine u5 (by lia) ?_
 symm
 rw[aB,dF hb]
 refine pL (by lia) ?_
 refine l7 (by lia) ho hd hp ?_
 refine cL (by lia) hv ?_
 refine tE (by lia) (by left;exact⟨_,_,rfl⟩) hH ho (bH hv) (by rw[cQ,he]) hd hp λl hl=>?_
 exact h l hl
theorem wZ(hn:2<=n){k u st sst:Int}(hb:Builtin.bitAnd st 32=0)(h:K .none [h0,h1,h2,h3,h4,h5,h6,h7,dQ (fE k o rp u st) sst 0]):R n "translate" [.ref 8,.str "dst"] [h0,h1,h2,h3,h4,h5,h6,h7,dQ (fE k o rp u st) sst 0] K:=by
 obtain⟨n,rfl⟩:=aU hn
 symm
 refine kS (by lia) ?_
 symm
 rw[aB,dT hb]
 exact h
theorem uT(hn:8<=n){bare:Bool}{k u st sst:Int}(hH:∀l,gC (h0::h1::h2::h3::h4::aK s.pr::.bar l::[h7,dQ (fE k o (aI v) u st) sst 0]))(hb:Builtin.bitAnd st 32≠0)(ho:s.Ok)(hv:v.Ok)(he:v.pr=s.pr)(hd:d.length<=3)(hp:Pk bare s d l)
 (h:∀l,Pk bare (nH s (turn v)) d l->K .none (h0::h1::h2::h3::h4::aK s.pr::.bar l::[h7,dQ (fE k o (aI v) u st) sst 0])):R n "translate" [.ref 8,.str "dst"] (h0::h1::h2::h3::h4::aK s.pr::.bar l::[h7,dQ (fE k o (aI v) u st) sst 0]) K:=by
 obtain⟨n,rfl⟩:=aU hn
 symm
 refine kS (by lia) ?_
 symm
 rw[aB,dF hb]
 refine pG (by lia) ?_
 refine l7 (by lia) ho hd hp ?_
 refine cL (by lia) hv ?_
 refine t7 (by lia) (by left;exact⟨_,_,rfl⟩) hH ho (bH hv) (by rw[cQ,he]) hd hp λl hl=>?_
 exact h l hl
theorem uI(hn:2<=n){k u st sst:Int}(hb:Builtin.bitAnd st 16=0)(h:K .none [h0,h1,h2,h3,h4,h5,h6,h7,dQ (fE k o rp u st) sst 1]):R n "translate" [.ref 8,.str "dst"] [h0,h1,h2,h3,h4,h5,h6,h7,dQ (fE k o rp u st) sst 1] K:=by
 obtain⟨n,rfl⟩:=aU hn
 symm
 refine w1 (by lia) ?_
 symm
 rw[aB,dT hb]
 exact h
theorem vT(hn:8<=n){bare:Bool}{k u st sst:Int}(hH:∀l,gC (h0::h1::h2::h3::h4::aK s.pr::.bar l::[h7,dQ (fE k (aI v) rp u st) sst 1]))(hb:Builtin.bitAnd st 16≠0)(ho:s.Ok)(hv:v.Ok)(he:v.pr=s.pr)(hd:d.length<=3)(hp:Pk bare s d l)
 (h:∀l,Pk bare (nH s (turn v)) d l->K .none (h0::h1::h2::h3::h4::aK s.pr::.bar l::[h7,dQ (fE k (aI v) rp u st) sst 1])):R n "translate" [.ref 8,.str "dst"] (h0::h1::h2::h3::h4::aK s.pr::.bar l::[h7,dQ (fE k (aI v) rp u st) sst 1]) K:=by
 obtain⟨n,rfl⟩:=aU hn
 symm
 refine w1 (by lia) ?_
 symm
 rw[aB,dF hb]
 refine pL (by lia) ?_
 refine l7 (by lia) ho hd hp ?_
 refine cL (by lia) hv ?_
 refine t7 (by lia) (by left;exact⟨_,_,rfl⟩) hH ho (bH hv) (by rw[cQ,he]) hd hp λl hl=>?_
 exact h l hl
theorem m3(hn:1<=n){k u st:Int}(h:K rp [h0,h1,h2,h3,h4,h5,h6,h7,h8,fE k o rp u st]):R n "side_of" [(.ref 9),.int (1-0)] [h0,h1,h2,h3,h4,h5,h6,h7,h8,fE k o rp u st] K:=by
 obtain⟨n,rfl⟩:=aU hn
 exact h
theorem tT(hn:2<=n){k u st sst:Int}(hb:Builtin.bitAnd st 16=0)(h:K .none [h0,h1,h2,h3,h4,h5,h6,h7,dQ (.ref 9) sst 0,fE k o rp u st]):R n "translate" [.ref 8,.str "src"] [h0,h1,h2,h3,h4,h5,h6,h7,dQ (.ref 9) sst 0,fE k o rp u st] K:=by
 obtain⟨n,rfl⟩:=aU hn
 symm
 refine lN (by lia) ?_
 symm
 rw[aB,dT hb]
 exact h
theorem uC(hn:8<=n){bare:Bool}{k u st sst:Int}(hH:∀l,gC (h0::h1::h2::h3::h4::aK s.pr::.bar l::[h7,dQ (.ref 9) sst 0,fE k o (aI v) u st]))(hb:Builtin.bitAnd st 16≠0)(ho:s.Ok)(hv:v.Ok)(he:v.pr=s.pr)(hd:d.length<=3)(hp:Pk bare s d l)
 (h:∀l,Pk bare (rP s (turn v)) d l->K .none (h0::h1::h2::h3::h4::aK s.pr::.bar l::[h7,dQ (.ref 9) sst 0,fE k o (aI v) u st])):R n "translate" [.ref 8,.str "src"] (h0::h1::h2::h3::h4::aK s.pr::.bar l::[h7,dQ (.ref 9) sst 0,fE k o (aI v) u st]) K:=by
 obtain⟨n,rfl⟩:=aU hn
 symm
 refine lN (by lia) ?_
 symm
 rw[aB,dF hb]
 refine m3 (by lia) ?_
 refine l7 (by lia) ho hd hp ?_
 refine cL (by lia) hv ?_
 refine tE (by lia) (by right;exact⟨_,_,_,rfl⟩) hH ho (bH hv) (by rw[cQ,he]) hd hp λl hl=>?_
 exact h l hl
theorem tA(hn:2<=n){k u st sst:Int}(hb:Builtin.bitAnd st 32=0)(h:K .none [h0,h1,h2,h3,h4,h5,h6,h7,dQ (.ref 9) sst 0,fE k o rp u st]):R n "translate" [.ref 8,.str "dst"] [h0,h1,h2,h3,h4,h5,h6,h7,dQ (.ref 9) sst 0,fE k o rp u st] K:=by
 obtain⟨n,rfl⟩:=aU hn
 symm
 refine kS (by lia) ?_
 symm
 rw[aB,dT hb]
 exact h
theorem sD(hn:8<=n){bare:Bool}{k u st sst:Int}(hH:∀l,gC (h0::h1::h2::h3::h4::aK s.pr::.bar l::[h7,dQ (.ref 9) sst 0,fE k o (aI v) u st]))(hb:Builtin.bitAnd st 32≠0)(ho:s.Ok)(hv:v.Ok)(he:v.pr=s.pr)(hd:d.length<=3)(hp:Pk bare s d l)
 (h:∀l,Pk bare (nH s (turn v)) d l->K .none (h0::h1::h2::h3::h4::aK s.pr::.bar l::[h7,dQ (.ref 9) sst 0,fE k o (aI v) u st])):R n "translate" [.ref 8,.str "dst"] (h0::h1::h2::h3::h4::aK s.pr::.bar l::[h7,dQ (.ref 9) sst 0,fE k o (aI v) u st]) K:=by
 obtain⟨n,rfl⟩:=aU hn
 symm
 refine kS (by lia) ?_
 symm
 rw[aB,dF hb]
 refine m3 (by lia) ?_
 refine l7 (by lia) ho hd hp ?_
 refine cL (by lia) hv ?_
 refine t7 (by lia) (by right;exact⟨_,_,_,rfl⟩) hH ho (bH hv) (by rw[cQ,he]) hd hp λl hl=>?_
 exact h l hl
theorem ints_map(l:List Int):Mine.ints (l.map .int)=some l:=by
 induction l with
 |nil=>rfl
 |cons x xs ih=>
   show(match some x,Mine.ints (xs.map .int)with|some i,some l=>some (i::l)|_,_=>none)=_
   rw[ih]
theorem FU(hn:2<=n){pr sp dp:Int}(hpr:pr=6\/pr=17)(hl:l.length<1000)(hl2:28<=l.length)(hs:0<=sp/\sp<65536)(hd:0<=dp/\dp<65536)(k1:cut l 20 (20+2)=[b1 sp,b0 sp])(k2:cut l (20+2) (20+4)=[b1 dp,b0 dp])
  (h:K (.tup [.int sp,.int dp]) (h0::h1::h2::h3::h4::h5::.bar l::t)):R n "ports_at" [.ref 6,.int 2,.int pr,.int 20] (h0::h1::h2::h3::h4::h5::.bar l::t) K:=by
 obtain⟨n,rfl⟩:=aU hn
 have fl:fits l=true:=fits_of hl
 rcases hpr with rfl|rfl
 ·symm
  refine gm fl ?_
  symm
  with_reducible refine gL (dF (by lia:¬(l.length:Int)<20+4)) ?_
  symm
  refine gm fl ?_
  symm
  rw[k1]
  refine rF (by lia) (b6 _) (bZ _) ?_
  rw[aQ hs]
  symm
  refine gm fl ?_
  symm
  rw[k2]
  refine rF (by lia) (b6 _) (bZ _) ?_
  rw[aQ hd]
  exact h
 ·symm
  refine gm fl ?_
  symm
  with_reducible refine gL (dF (by lia:¬(l.length:Int)<20+4)) ?_
  symm
  refine gm fl ?_
  symm
  rw[k1]
  refine rF (by lia) (b6 _) (bZ _) ?_
  rw[aQ hs]
  symm
  refine gm fl ?_
  symm
  rw[k2]
  refine rF (by lia) (b6 _) (bZ _) ?_
  rw[aQ hd]
  exact h
theorem FR(hn:2<=n){sp dp:Int}(hl:l.length<1000)(hl2:28<=l.length)(hs:0<=sp/\sp<65536)(hd:dp=8\/dp=0)(k1:item l 20=some dp)(k2:item l (20+1)=some 0)(k3:cut l (20+4) (20+6)=[b1 sp,b0 sp])
  (h:K (.tup [.int sp,.int (dp*256)]) (h0::h1::h2::h3::h4::h5::.bar l::t)):R n "ports_at" [.ref 6,.int 2,.int 1,.int 20] (h0::h1::h2::h3::h4::h5::.bar l::t) K:=by
 obtain⟨n,rfl⟩:=aU hn
 have fl:fits l=true:=fits_of hl
 refine sP (by lia) ?_
 symm
 refine gm fl ?_
 symm
 with_reducible refine gL (dF (by lia:¬(l.length:Int)<20+8)) ?_
 symm
 refine gm fl ?_
 symm
 with_reducible refine nS (k1) ?_
 refine mH (by lia) hd ?_
 symm
 refine gm (dT (by lia:(0:Int)<=8-dp)) ?_
 symm
 refine gm fl ?_
 symm
 rw[k3]
 refine rF (by lia) (b6 _) (bZ _) ?_
 rw[aQ hs]
 symm
 refine gm (aG (aY (by lia) (by lia)) rfl) ?_
 symm
 refine gm fl ?_
 symm
 with_reducible refine nS (k2) ?_
 symm
 rw[show dp*256+0=dp*256 by lia]
 exact h
theorem QF{c e:Int}(p:s.pr=6\/s.pr=17):cut (qT s d c e) 20 (20+2)=[b1 s.sp,b0 s.sp]/\cut (qT s d c e) (20+2) (20+4)=[b1 s.dp,b0 s.dp]:=by
 rcases s with⟨pr,so,sp,ta,dp⟩
 rcases p with p|p
 ·obtain rfl:pr=6:=p
  exact⟨rfl,rfl⟩
 ·obtain rfl:pr=17:=p
  exact⟨rfl,rfl⟩
theorem OC{c e:Int}(p:s.pr=1):item (qT s d c e) 20=some s.dp/\item (qT s d c e) (20+1)=some 0/\cut (qT s d c e) (20+4) (20+6)=[b1 s.sp,b0 s.sp]:=by
 rcases s with⟨pr,so,sp,ta,dp⟩
 obtain rfl:pr=1:=p
 exact⟨rfl,rfl,rfl⟩
theorem EV(hn:2<=n)(ho:s.Ok)(len:28<=l.length/\l.length<1000){c e:Int}(hl:l=qT s d c e)
  (h:K (.tup [.int s.sp,.int (wK s)]) (h0::h1::h2::h3::h4::h5::.bar l::t)):R n "ports_at" [.ref 6,.int 2,.int s.pr,.int 20] (h0::h1::h2::h3::h4::h5::.bar l::t) K:=by
 by_cases p:s.pr=1
 ·have g:=OC (d:=d) (c:=c) (e:=e) p
  rw[show wK s=s.dp*256 from if_pos p]at h
  rw[p]
  exact FR hn len.2 len.1 ho.sp (ho.ic p) (hl▸g.1) (hl▸g.2.1) (hl▸g.2.2) h
 ·have p2:s.pr=6\/s.pr=17:=ho.pr.imp_right λq=>q.resolve_right p
  have g:=QF (d:=d) (c:=c) (e:=e) p2
  rw[show wK s=s.dp from if_neg p]at h
  exact FU hn p2 len.2 len.1 ho.sp ho.dp (hl▸g.1) (hl▸g.2) h
theorem fQ(hn:4<=n){bare:Bool}(ho:s.Ok)(hd:d.length<=3)(hp:Pk bare s d l)
 (h:K (aI s) (h0::h1::h2::h3::h4::aK s.pr::.bar l::t)):R n "tuple_of" [.ref 5] (h0::h1::h2::h3::h4::aK s.pr::.bar l::t) K:=by
 obtain⟨n,rfl⟩:=aU hn
 obtain⟨c,e,hl,-⟩:=hp
 have len:28<=l.length/\l.length<1000:=hl▸AF hd
 have fl:fits l=true:=fits_of len.2
 have ks:cut l 12 (12+4)=[b3 s.so,b2 s.so,b1 s.so,b0 s.so]:=hl▸rfl
 have kt:cut l (12+4) (12+4+4)=[b3 s.ta,b2 s.ta,b1 s.ta,b0 s.ta]:=hl▸rfl
 refine dU (by lia) ?_
 symm
 obtain⟨n,rfl⟩:∃m,n=m+1:=⟨n-1,by lia⟩
 symm
 refine EV (by lia) ho len hl ?_
 symm
 refine gm fl ?_
 symm
 rw[ks]
 refine NK (by lia) (qB _) (qD _) (b6 _) (bZ _) ?_
 rw[r4 ho.so]
 symm
 refine gm fl ?_
 symm
 rw[kt]
 refine NK (by lia) (qB _) (qD _) (b6 _) (bZ _) ?_
 rw[r4 ho.ta]
 symm
 exact h
theorem FA(hn:2<=n){pr:Int}(hl:l.length<1000)(hl2:28<=l.length)(k1:item l 0=some 69)(k2:item l 9=some pr)(k3:cut l 6 8=[64,0])
  (h:K (.tup [.int pr,.int 20,.int 0,.bool false]) (h0::h1::h2::h3::h4::h5::.bar l::t)):R n "look4" [.ref 6] (h0::h1::h2::h3::h4::h5::.bar l::t) K:=by
 obtain⟨n,rfl⟩:=aU hn
 have fl:fits l=true:=fits_of hl
 symm
 refine gm fl ?_
 symm
 with_reducible refine gL (dF (by lia:¬(l.length:Int)<20)) ?_
 symm
 refine gm fl ?_
 symm
 with_reducible refine nS (k1) ?_
 symm
 refine gm fl ?_
 symm
 with_reducible refine nS (k1) ?_
 symm
 have e1:(Builtin.bitAnd 69 15*4:Int)=20:=by kernel_rfl
 rw[e1]
 refine gm fl ?_
 symm
 with_reducible refine gL (dF (by lia:¬(l.length:Int)<20)) ?_
 symm
 refine gm fl ?_
 symm
 rw[k3]
 refine rF (by lia) ⟨by decide,by decide⟩ ⟨by decide,by decide⟩ ?_
 symm
 refine gm fl ?_
 symm
 with_reducible refine nS (k2) ?_
 symm
 have e2:(Builtin.bitAnd (64*256+0) 8191*8:Int)=0:=by kernel_rfl
 have e3:(!bQ (V.int (Builtin.bitAnd (64*256+0) 8192)) (V.int 0))=false:=by kernel_rfl
 rw[e2,e3]
 exact h
noncomputable def T2 (a b c:Int) (m:V):V:=.obj "Packet" [("data",.ref 6),("link",.bar []),("kind",.int 2048),("l4",.int a),("off",.int b),("place",.int c),("meta",m)]
theorem CB:R (n+3) "Packet" [.bytes l,.int 2048,.bytes []] [h0,h1,h2,h3,h4] K=guard False (fits l) (K (.ref 5) [h0,h1,h2,h3,h4,T2 (-1) (-1) 0 (.ref 7),.bar l,iG 0 0]):=by kernel_rfl
theorem BZ(hn:3<=n)(fl:fits l=true)(h:K (.ref 5) [h0,h1,h2,h3,h4,T2 (-1) (-1) 0 (.ref 7),.bar l,iG 0 0]):R n "Packet" [.bytes l,.int 2048,.bytes []] [h0,h1,h2,h3,h4] K:=by
 obtain⟨m,rfl⟩:∃m,n=m+3:=⟨n-3,by lia⟩
 rw[CB];exact gd fl h
theorem LI(hn:3<=n){pr:Int}(hl:l.length<1000)(hl2:28<=l.length)(k1:item l 0=some 69)(k2:item l 9=some pr)(k3:cut l 6 8=[64,0])
  (h:K .none [h0,h1,h2,h3,h4,aK pr,.bar l,h7]):R n "look" [.ref 5] [h0,h1,h2,h3,h4,T2 (-1) (-1) 0 (.ref 7),.bar l,h7] K:=by
 obtain⟨n,rfl⟩:=aU hn
 have fl:fits l=true:=fits_of hl
 refine FA (by lia) hl hl2 k1 k2 k3 ?_
 symm
 refine gm fl ?_
 symm
 refine gm (dT (by lia:(20:Int)<=l.length)) ?_
 exact h
theorem CJ(hn:4<=n){pr:Int}(hl:l.length<1000)(hl2:28<=l.length)(k1:item l 0=some 69)(k2:item l 9=some pr)(k3:cut l 6 8=[64,0])
  (h:K (.ref 5) [h0,h1,h2,h3,h4,aK pr,.bar l,iG 0 0]):R n "packet_of" [.bytes l] [h0,h1,h2,h3,h4] K:=by
 obtain⟨n,rfl⟩:=aU hn
 have fl:fits l=true:=fits_of hl
 symm
 refine BZ (by lia) fl ?_
 refine LI (by lia) hl hl2 k1 k2 k3 ?_
 exact h
noncomputable def UP:V:=.obj "Scene" [("packet",.ref 5),("now",.int 5),("hook",.str "prerouting"),("talk",.none),("state",.int 1),("is_reply",.int 0),("talks",.none),("sets",.dct []),("objects",.dct []),("fields",.dct []),("readers",.dct []),("doers",.dct []),("ops",.dct []),("tools",.dct []),("order",.str "little"),("log",.lst []),("replies",.lst []),("steps",.none),("homes",.dct [])]
theorem ID:R (n+1) "Scene" [.ref 5,.dct [],.int 5,.str "prerouting"] [h0,h1,h2,h3,h4,h5,h6,h7] K=K (.ref 8) [h0,h1,h2,h3,h4,h5,h6,h7,UP]:=by kernel_rfl
theorem GR(hn:1<=n)(h:K (.ref 8) [h0,h1,h2,h3,h4,h5,h6,h7,UP]):R n "Scene" [.ref 5,.dct [],.int 5,.str "prerouting"] [h0,h1,h2,h3,h4,h5,h6,h7] K:=by
 obtain⟨m,rfl⟩:∃m,n=m+1:=⟨n-1,by lia⟩
 rw[ID];exact h
noncomputable def gE (ru:V):V:=.dct [(.str "rules",ru),(.str "book",.ref 0),(.str "outers",.ref 3),(.str "numbers",.ref 4)]
theorem gQ(hn:5<=n){pr:Int}(hl:l.length<1000)(hl2:28<=l.length)(ho:fB l)(k1:item l 0=some 69)(k2:item l 9=some pr)(k3:cut l 6 8=[64,0])
  (h:K (.ref 8) [h0,h1,h2,h3,h4,aK pr,.bar l,iG 1 2,dQ .none 1 0]):R n "_law_scene" [gE ru,.lst (l.map .int)] [h0,h1,h2,h3,h4] K:=by
 obtain⟨n,rfl⟩:=aU hn
 have fl:fits l=true:=fits_of hl
 symm
 rw[ints_map]
 symm
 refine gm (aG (j9 ho) fl) ?_
 refine CJ (by lia) hl hl2 k1 k2 k3 ?_
 refine GR (by lia) ?_
 exact h
theorem pw{x k m:Int}(e:(256:Int) ^ k.toNat=m)(hm:0<m):Int.fmod (Int.fdiv x (256 ^ k.toNat)) 256=x/m%256:=by
 rw[e,fdiv_eq (by lia),fmod_eq (by decide)]
theorem v3{i a:Int}(h:item l i=some a):item (l.map V.int) i=some (.int a):=by
 unfold item at*;split at h<;>simp_all
theorem c9(hn:1<=n){x:Int}(h:K (.lst [.int (b1 x),.int (b0 x)]) H):R n "_law_octets" [.int x,.int 2] H K:=by
 obtain⟨n,rfl⟩:=aU hn
 have e0:(x.fdiv (256 ^ (2-1-(0+1*((0:Nat):Int))).toNat)).fmod 256=b1 x:=pw rfl (by decide)
 have e1:(x.fdiv (256 ^ (2-1-(0+1*((1:Nat):Int))).toNat)).fmod 256=b0 x:=by
  rw[pw (m:=1) rfl (by decide)];unfold b0;lia
 symm
 rw[e0,e1]
 exact h
theorem cW(hn:1<=n){i a b:Int}(hl:l.length<1000)(ha:aM a)(hb:aM b)(k0:item l (i+0)=some a)(k1:item l (i+1)=some b)(h:K (.int (((a)*256+b))) H):R n "_law_number" [.lst (l.map .int),.int i,.int 2] H K:=by
 obtain⟨n,rfl⟩:=aU hn
 have fl:fits (l.map V.int)=true:=fits_of (by simpa using hl)
 have qa:=ha.1;have ra:=ha.2;have qb:=hb.1;have rb:=hb.2
 symm
 refine gm fl ?_
 symm
 rw[show item (l.map V.int) (i+(0+1*((0:Nat):Int)))=some (.int a)from v3 k0]
 symm
 rw[show(0*256+a:Int)=a by lia]
 refine gm (aG (aY (by lia) (by lia)) rfl) ?_
 symm
 refine gm fl ?_
 symm
 rw[show item (l.map V.int) (i+(0+1*((1:Nat):Int)))=some (.int b)from v3 k1]
 exact h
theorem oH(hn:1<=n){i a b:Int}(hl:l.length<1000)(ha:aM a)(hb:aM b)(k0:item l (i+0)=some a)(k1:item l (i+1)=some b)(h:K (.int (((a)*256+b))) (h0::h1::h2::h3::h4::h5::.bar l::t)):R n "_law_number" [.ref 6,.int i,.int 2] (h0::h1::h2::h3::h4::h5::.bar l::t) K:=by
 obtain⟨n,rfl⟩:=aU hn
 have fl:fits l=true:=fits_of hl
 have qa:=ha.1;have ra:=ha.2;have qb:=hb.1;have rb:=hb.2
 symm
 refine gm fl ?_
 symm
 rw[show item l (i+(0+1*((0:Nat):Int)))=some a from k0]
 symm
 rw[show(0*256+a:Int)=a by lia]
 refine gm (aG (aY (by lia) (by lia)) rfl) ?_
 symm
 refine gm fl ?_
 symm
 rw[show item l (i+(0+1*((1:Nat):Int)))=some b from k1]
 exact h
theorem iW(hn:1<=n){x:Int}(h:K (.lst [.int (b3 x),.int (b2 x),.int (b1 x),.int (b0 x)]) H):R n "_law_octets" [.int x,.int 4] H K:=by
 obtain⟨n,rfl⟩:=aU hn
 have e0:(x.fdiv (256 ^ (4-1-(0+1*((0:Nat):Int))).toNat)).fmod 256=b3 x:=pw rfl (by decide)
 have e1:(x.fdiv (256 ^ (4-1-(0+1*((1:Nat):Int))).toNat)).fmod 256=b2 x:=pw rfl (by decide)
 have e2:(x.fdiv (256 ^ (4-1-(0+1*((2:Nat):Int))).toNat)).fmod 256=b1 x:=pw rfl (by decide)
 have e3:(x.fdiv (256 ^ (4-1-(0+1*((3:Nat):Int))).toNat)).fmod 256=b0 x:=by
  rw[pw (m:=1) rfl (by decide)];unfold b0;lia
 symm
 rw[e0,e1,e2,e3]
 exact h
theorem HS(hn:1<=n){i a b c d:Int}(hl:l.length<1000)(ha:aM a)(hb:aM b)(hc:aM c)(hd:aM d)(k0:item l (i+0)=some a)(k1:item l (i+1)=some b)(k2:item l (i+2)=some c)(k3:item l (i+3)=some d)(h:K (.int (((((((a)*256+b))*256+c))*256+d))) (h0::h1::h2::h3::h4::h5::.bar l::t)):R n "_law_number" [.ref 6,.int i,.int 4] (h0::h1::h2::h3::h4::h5::.bar l::t) K:=by
 obtain⟨n,rfl⟩:=aU hn
 have fl:fits l=true:=fits_of hl
 have qa:=ha.1;have ra:=ha.2;have qb:=hb.1;have rb:=hb.2;have qc:=hc.1;have rc:=hc.2;have qd:=hd.1;have rd:=hd.2
 symm
 refine gm fl ?_
 symm
 rw[show item l (i+(0+1*((0:Nat):Int)))=some a from k0]
 symm
 rw[show(0*256+a:Int)=a by lia]
 refine gm (aG (aY (by lia) (by lia)) rfl) ?_
 symm
 refine gm fl ?_
 symm
 rw[show item l (i+(0+1*((1:Nat):Int)))=some b from k1]
 symm
 refine gm (aG (aY (by lia) (by lia)) rfl) ?_
 symm
 refine gm fl ?_
 symm
 rw[show item l (i+(0+1*((2:Nat):Int)))=some c from k2]
 symm
 refine gm (aG (aY (by lia) (by lia)) rfl) ?_
 symm
 refine gm fl ?_
 symm
 rw[show item l (i+(0+1*((3:Nat):Int)))=some d from k3]
 exact h
theorem BY(vs:List V)
 (hs:∀a,a->same H a) (ht:∀v∈vs,∀k,k true H->test [(x,v)] H k) (he:∀v∈vs,∀k,k (g v) H->elt [(x,v)] H k) (k:List V->Hp->Prop) (h:k (vs.map g) H):n5 same test elt x vs H k:=by
 induction vs generalizing k with
 |nil=>exact h
 |cons v vs ih=>
   refine ht v (by simp) _ (he v (by simp) _ (hs _ (ih (λw hw=>ht w (by simp[hw])) (λw hw=>he w (by simp[hw])) _ h)))
noncomputable def cf (k:Nat):Int:=if k%2=0 then 256 else 1
noncomputable def sN (l:List Int):List Int:=(List.range l.length).map λk=>l.getD k 0*cf k
theorem vJ(l:List Int):(sN l).sum=DT l:=by
 match l with
 | []=>rfl
 | [a]=>simp[sN,DT,cf]
 |a::b::r=>
   have ih:=vJ r
   unfold sN at*
   have e:List.range (r.length+1+1)=0::1::(List.range r.length).map (· +2):=by
    rw[List.range_succ_eq_map,List.range_succ_eq_map];simp[Function.comp_def]
   simp only[List.length_cons,e,List.map_cons,List.map_map,List.sum_cons,Function.comp_def]
   have e2:(List.range r.length).map (λx=>(a::b::r).getD (x+2) 0*cf (x+2))=(List.range r.length).map λk=>r.getD k 0*cf k:=by
    apply List.map_congr_left;intro k _
    simp[cf]
   rw[e2,ih];simp[cf,DT];lia
theorem BV(l:List Int)(a:Int):l.foldl (· + ·) a=a+l.sum:=by
 induction l generalizing a with
 |nil=>simp
 |cons x xs ih=>simp only[List.foldl_cons,List.sum_cons,ih];lia
theorem nJ{x:Int}(h:0<=x)(h2:x<1000000):kB x=true:=dT (by lia)
theorem AB(n:Nat):cF 0 (n:Int) 1=(List.range n).map λ(i:Nat)=>(i:Int):=by
 unfold cF
 have:(((n:Int)-0+(1-1))/1).toNat=n:=by lia
 rw[this];apply List.map_congr_left;intro i _;lia
theorem H5(hn:1<=n)(hl:l.length<1000)(ho:fB l)(h:K (.int (DT l)) H):R n "_law_total" [.lst (l.map .int)] H K:=by
 obtain⟨n,rfl⟩:=aU hn
 have fl:fits (l.map V.int)=true:=fits_of (by simpa using hl)
 symm
 refine gm fl ?_
 symm
 refine gm (nJ (by lia) (by simp;lia)) ?_
 symm
 rw[AB]
 refine gm (fits_of (by simp;lia)) ?_
 refine BY (g:=λv=>match v with| .int i=>.int (l.getD i.toNat 0*cf i.toNat)|v=>v) _ (λa h=>h) ?_ ?_ _ ?_
 ·intro v hv k hk
  exact hk
 ·intro v hv k hk
  have:∃i:Nat,i<l.length/\v= .int i:=by
   simp only[List.mem_map,List.mem_range]at hv
   refine aT hv λ_ o91 e92=>?_
   clear hv
   obtain⟨i,hi,rfl⟩:=o91
   subst e92
   exact⟨i,by simpa using hi,rfl⟩
  refine aT this λi hi e93=>?_
  clear this
  subst e93
  have hx:item (l.map V.int) (i:Int)=some (.int (l.getD i 0)):=by
   unfold item;rw[if_pos (by lia)];simp[hi]
  have hq:aM (l.getD i 0):=by
   have:l.getD i 0=l[i]:=by simp[hi]
   rw[this];exact ho _ (List.getElem_mem _)
  obtain⟨hq1,hq2⟩:=hq
  symm
  refine gm fl ?_
  symm
  with_reducible refine nS (hx) ?_
  symm
  by_cases c:i%2=0
  ·rw[aB,dT (by rw[fmod_eq (by decide)];lia:Int.fmod (i:Int) 2=0)]
   symm
   refine gm (aG (aY hq1 (by lia)) rfl) ?_
   symm
   have e:(.int (l.getD i 0*256):V)= .int (l.getD (i:Int).toNat 0*cf (i:Int).toNat):=by simp[cf,c]
   rw[e];exact hk
  ·rw[aB,dF (by rw[fmod_eq (by decide)];lia:¬Int.fmod (i:Int) 2=0)]
   symm
   refine gm (aG (aY hq1 (by lia)) rfl) ?_
   symm
   have e:(.int (l.getD i 0*1):V)= .int (l.getD (i:Int).toNat 0*cf (i:Int).toNat):=by simp[cf,c]
   rw[e];exact hk
 have e:((List.range (l.map V.int).length).map λ(i:Nat)=>(i:Int)).map V.int=(List.range l.length).map λ(i:Nat)=>V.int i:=by simp
 rw[e,List.map_map]
 have e2:(List.range l.length).map ((λv=>match v with| .int i=>.int (l.getD i.toNat 0*cf i.toNat)|v=>v)∘λ(i:Nat)=>V.int i)=(sN l).map V.int:=by simp[sN]
 rw[e2]
 symm
 rw[ints_map]
 symm
 have hf:fits (sN l)=true:=fits_of (by simp[sN];lia)
 have hb:(sN l).all (λi=>decide (0<=i)&&decide (i<2 ^ 40))=true:=by
  rw[List.all_eq_true];intro x hx
  simp only[sN,List.mem_map,List.mem_range]at hx
  refine aT hx λi hi e94=>?_
  clear hx
  subst e94
  have hq:aM (l.getD i 0):=by
   have:l.getD i 0=l[i]:=by simp[hi]
   rw[this];exact ho _ (List.getElem_mem _)
  obtain⟨q1,q2⟩:=hq
  unfold cf
  split<;>exact aG (dT (by lia)) (dT (by lia))
 refine gm (aG hf hb) ?_
 symm
 rw[BV,vJ,Int.zero_add]
 exact h
noncomputable def aF (s:Sd):V:=.tup [.int s.pr,.int s.so,.int s.sp,.int s.ta,.int s.dp]
noncomputable def bU (s:Sd) (d:List Int) (bare:Bool):List Int:=qT s d (65535-HT s d%65535) (match bare with|true=>0|false=>65535-BT s d%65535)
theorem d4(hn:1<=n){xs:List V}(l:List Int)(hx:xs=l.map .int)(hl:l.length<1000)(ho:fB l)(h:K (.int (DT l)) H):R n "_law_total" [.lst xs] H K:=by
 subst hx;exact H5 hn hl ho h
theorem fH(hn:2<=n){x:Int}(h:K (.lst [.int (b1 (65535-x%65535)),.int (b0 (65535-x%65535))]) H):R n "_law_check" [.int x] H K:=by
 obtain⟨n,rfl⟩:=aU hn
 symm
 rw[fmod_eq (by decide)]
 exact c9 (by lia) h
theorem EG(hn:1<=n)(h:K (.int 16) H):R n "_law_place" [.int 6] H K:=by
 obtain⟨n,rfl⟩:=aU hn
 exact h
theorem nU(hn:1<=n)(h:K (.int 6) H):R n "_law_place" [.int 17] H K:=by
 obtain⟨n,rfl⟩:=aU hn
 exact h
theorem EU(hn:1<=n)(h:K (.int 2) H):R n "_law_place" [.int 1] H K:=by
 obtain⟨n,rfl⟩:=aU hn
 exact h
theorem dS{β:Type}(l:List β)(a:Int):cut l a l.length=l.drop a.toNat:=by
 unfold cut;rw[Int.toNat_natCast,List.take_length]
theorem lO{s:Sd}{d:List Int}{c:Int}(ho:s.Ok)(hd:fB d):fB (iH s d c):=by
 have z:∀k:Nat,k<256->aM (k:Int):=λk h=>⟨by lia,by lia⟩
 unfold iH
 split
 ·simp only[fB,List.forall_mem_cons]
  exact⟨b6 _,bZ _,b6 _,bZ _,z 0 (by decide),z 0 (by decide),z 0 (by decide),z 9 (by decide),z 0 (by decide),z 0 (by decide),z 0 (by decide),z 4 (by decide),z 80 (by decide),z 16 (by decide),z 2 (by decide),z 0 (by decide),b6 _,bZ _,z 0 (by decide),z 0 (by decide),hd⟩
 split
 ·simp only[fB,List.forall_mem_cons]
  exact⟨b6 _,bZ _,b6 _,bZ _,b6 _,bZ _,b6 _,bZ _,hd⟩
 ·simp only[fB,List.forall_mem_cons]
  rename_i h1 h2
  have q:=ho.ic (by have:=ho.pr;lia)
  exact⟨⟨by lia,by lia⟩,z 0 (by decide),b6 _,bZ _,b6 _,bZ _,z 0 (by decide),z 3 (by decide),hd⟩
theorem A7{β:Type}(l:List β)(b:Int):cut l 0 b=l.take b.toNat:=rfl
theorem kT{β:Type}{a b:List β}(h:a.length+b.length<1000):fits (a++b)=true:=fits_of (by simp;omega)
theorem bF{β:Type}{l:List β}{a b:Int}(h:fits l=true):fits (cut l a b)=true:=fits_of (Nat.lt_of_le_of_lt (hJ _ _ _) (of_decide_eq_true h))
theorem fY{β:Type}{l:List β}{a b c d:Int}(h:l.length<500):fits (cut l a b++cut l c d)=true:=kT (Nat.lt_of_le_of_lt (Nat.add_le_add (hJ _ _ _) (hJ _ _ _)) (Nat.add_lt_add h h))
theorem dP{β:Type}{l:List β}{k:Nat}(h:fits l=true):fits (l.drop k)=true:=fits_of (Nat.lt_of_le_of_lt (by rw[List.length_drop];exact Nat.sub_le _ _) (of_decide_eq_true h))
theorem gY(x:Int):0<=65535-x%65535/\65535-x%65535<65536:=by lia
theorem gX{c T c':Int}(h:(c+T)%65535=0)(e:c'=65535-T%65535):Int.fmod (c-c') 65535=0:=by rw[fmod_eq (by decide)];subst e;lia
theorem A9:fB []:=nofun
theorem cC{a:Int}(h:aM a)(t:fB l):fB (a::l):=List.forall_mem_cons.mpr ⟨h,t⟩
theorem oT{so ta p M:Int}(hp:aM p):fB (o4 so++o4 ta++[0,p,b1 M,b0 M]):=
 cC (qB _) (cC (qD _) (cC (b6 _) (cC (bZ _) (cC (qB _) (cC (qD _) (cC (b6 _) (cC (bZ _) (cC ⟨by decide,by decide⟩ (cC hp (cC (b6 _) (cC (bZ _) A9)))))))))))
theorem lS{so ta p T:Int}(hp:aM p):fB ([69,0,b1 T,b0 T,0,7,64,0,64,p]++o4 so++o4 ta):=
 cC ⟨by decide,by decide⟩ (cC ⟨by decide,by decide⟩ (cC (b6 _) (cC (bZ _) (cC ⟨by decide,by decide⟩ (cC ⟨by decide,by decide⟩ (cC ⟨by decide,by decide⟩ (cC ⟨by decide,by decide⟩ (cC ⟨by decide,by decide⟩ (cC hp
  (cC (qB _) (cC (qD _) (cC (b6 _) (cC (bZ _) (cC (qB _) (cC (qD _) (cC (b6 _) (cC (bZ _) A9)))))))))))))))))
theorem NB{x:Int}(h:0<=x/\x<65536):DT (b1 x::b0 x::r)=x+DT r:=by
 show b1 x*256+b0 x+DT r=_
 rw[aQ h]
theorem SS{x:Int}(h:0<=x/\x<4294967296):DT (b3 x::b2 x::b1 x::b0 x::r)=hs x+DT r:=by
 show b3 x*256+b2 x+(b1 x*256+b0 x+DT r)=_
 rw[<-Int.add_assoc,gP h]
theorem VJ{L:Int}(h:0<=L/\L<65536):DT [b1 L,b0 L]=L:=by rw[NB h];exact Int.add_zero L
theorem vI{pr so ta L:Int}(hso:0<=so/\so<4294967296)(hta:0<=ta/\ta<4294967296)(hL:0<=L/\L<65536):DT (o4 so++o4 ta++[0,pr,b1 L,b0 L])=hs so+hs ta+pr+L:=by
 show DT (b3 so::b2 so::b1 so::b0 so::b3 ta::b2 ta::b1 ta::b0 ta::0::pr::b1 L::b0 L::[])=_
 rw[SS hso,SS hta]
 show hs so+(hs ta+(0*256+pr+DT [b1 L,b0 L]))=_
 rw[VJ hL];lia
theorem lI{pr so ta L:Int}(hso:0<=so/\so<4294967296)(hta:0<=ta/\ta<4294967296)(hL:0<=L/\L<65536):DT ([69,0,b1 L,b0 L,0,7,64,0,64,pr]++o4 so++o4 ta)=69*256+L+7+64*256+64*256+pr+hs so+hs ta:=by
 show 69*256+0+DT (b1 L::b0 L::0::7::64::0::64::pr::b3 so::b2 so::b1 so::b0 so::b3 ta::b2 ta::b1 ta::b0 ta::[])=_
 rw[NB hL]
 show 69*256+0+(L+(0*256+7+(64*256+0+(64*256+pr+DT (b3 so::b2 so::b1 so::b0 so::b3 ta::b2 ta::b1 ta::b0 ta::[])))))=_
 rw[SS hso,SS hta]
 show 69*256+0+(L+(0*256+7+(64*256+0+(64*256+pr+(hs so+(hs ta+0))))))=_
 lia
theorem nM{s:Sd}{d:List Int}(hd:d.length<=3):0<=qI s d/\qI s d<65536:=by
 unfold qI
 by_cases h:s.pr=6
 ·rw[if_pos h];lia
 ·rw[if_neg h];lia
theorem RE{so sp ta dp:Int}{d:List Int}{m:Nat}(hm:m=d.length+20)(hd:d.length<=3)(hso:0<=so/\so<4294967296)(hta:0<=ta/\ta<4294967296)(hsp:0<=sp/\sp<65536)(hdp:0<=dp/\dp<65536):DT (iH ⟨6,so,sp,ta,dp⟩ d 0)+DT (o4 so++o4 ta++[0,6,b1 (m:Int),b0 (m:Int)])=BT ⟨6,so,sp,ta,dp⟩ d:=by
 rw[vI hso hta (by lia),K2]
 show DT (b1 sp::b0 sp::b1 dp::b0 dp::0::0::0::9::0::0::0::4::80::16::2::0::0::0::0::0::d)+_=_
 rw[NB hsp,NB hdp]
 show sp+(dp+(0*256+0+(0*256+9+(0*256+0+(0*256+4+(80*256+16+(2*256+0+(0*256+0+(0*256+0+DT d)))))))))+_=_
 lia
theorem O0{so sp ta dp:Int}{d:List Int}{m:Nat}(hm:m=d.length+8)(hd:d.length<=3)(hso:0<=so/\so<4294967296)(hta:0<=ta/\ta<4294967296)(hsp:0<=sp/\sp<65536)(hdp:0<=dp/\dp<65536):DT (iH ⟨17,so,sp,ta,dp⟩ d 0)+DT (o4 so++o4 ta++[0,17,b1 (m:Int),b0 (m:Int)])=BT ⟨17,so,sp,ta,dp⟩ d:=by
 rw[vI hso hta (by lia),tG]
 show DT (b1 sp::b0 sp::b1 dp::b0 dp::b1 (8+(d.length:Int))::b0 (8+(d.length:Int))::0::0::d)+_=_
 rw[NB hsp,NB hdp,NB (by lia)]
 show sp+(dp+(8+(d.length:Int)+(0*256+0+DT d)))+_=_
 lia
theorem RR{so sp ta dp:Int}{d:List Int}(hsp:0<=sp/\sp<65536):DT (iH ⟨1,so,sp,ta,dp⟩ d 0)=BT ⟨1,so,sp,ta,dp⟩ d:=by
 rw[TO]
 show dp*256+0+(0*256+0+DT (b1 sp::b0 sp::0::3::d))=_
 rw[NB hsp]
 show dp*256+0+(0*256+0+(sp+(0*256+3+DT d)))=_
 lia
theorem T7{so sp ta dp:Int}{d:List Int}{m:Nat}(hm:m=d.length+20):20+(m:Int)=qI ⟨6,so,sp,ta,dp⟩ d:=by
 subst hm;show 20+((d.length+20:Nat):Int)=40+(d.length:Int);lia
theorem NA{so sp ta dp:Int}{d:List Int}{m:Nat}(hm:m=d.length+8):20+(m:Int)=qI ⟨17,so,sp,ta,dp⟩ d:=by
 subst hm;show 20+((d.length+8:Nat):Int)=28+(d.length:Int);lia
theorem eZ{so sp ta dp:Int}{d:List Int}{m:Nat}(hm:m=d.length+8):20+(m:Int)=qI ⟨1,so,sp,ta,dp⟩ d:=by
 subst hm;show 20+((d.length+8:Nat):Int)=28+(d.length:Int);lia
theorem DQ(hn:3<=n){so sp ta dp:Int}{d:List Int}(ho:Sd.Ok ⟨6,so,sp,ta,dp⟩)(hd:d.length<=3)(hdo:fB d)(h:K (.lst ((bU ⟨6,so,sp,ta,dp⟩ d false).map .int)) H):R n "_law_built" [aF ⟨6,so,sp,ta,dp⟩,.lst (d.map .int),.bool false] H K:=by
 obtain⟨n,rfl⟩:=aU hn
 have fd:fits (d.map V.int)=true:=fits_of (by simp;lia)
 have hso:=ho.so;have hta:=ho.ta;have hsp:=ho.sp;have hdp:=ho.dp
 simp only at hso hta hsp hdp
 symm
 refine iW (by lia) ?_
 symm
 refine iW (by lia) ?_
 apply cN (B:=seg n "_law_built" 2 [("side",aF ⟨6,so,sp,ta,dp⟩),("data",.lst (d.map .int)),("is_bare",.bool false),("proto",.int 6),("source",.int so),("sport",.int sp),("target",.int ta),("dport",.int dp),("ends",.lst [.int (b3 so),.int (b2 so),.int (b1 so),.int (b0 so),.int (b3 ta),.int (b2 ta),.int (b1 ta),.int (b0 ta)])] H K)
 ·kernel_rfl
 symm
 refine c9 (by lia) ?_
 refine c9 (by lia) ?_
 apply cN (B:=seg n "_law_built" 3 [("side",aF ⟨6,so,sp,ta,dp⟩),("data",.lst (d.map .int)),("is_bare",.bool false),("proto",.int 6),("source",.int so),("sport",.int sp),("target",.int ta),("dport",.int dp),("ends",.lst [.int (b3 so),.int (b2 so),.int (b1 so),.int (b0 so),.int (b3 ta),.int (b2 ta),.int (b1 ta),.int (b0 ta)]),("body",.lst ([V.int (b1 sp),V.int (b0 sp)]++[V.int (b1 dp),V.int (b0 dp)]++[V.int 0,V.int 0,V.int 0,V.int 9,V.int 0,V.int 0,V.int 0,V.int 4,V.int 80,V.int 16,V.int 2,V.int 0,V.int 0,V.int 0,V.int 0,V.int 0]))] H K)
 ·kernel_rfl
 symm
 refine gm (aG rfl fd) ?_
 refine d4 (by lia) (iH (Sd.mk 6 so sp ta dp) d 0) (by rfl) (by simp[iH];lia) (lO ho hdo) ?_
 symm
 have hB:([V.int (b1 sp),V.int (b0 sp)]++[V.int (b1 dp),V.int (b0 dp)]++[V.int 0,V.int 0,V.int 0,V.int 9,V.int 0,V.int 0,V.int 0,V.int 4,V.int 80,V.int 16,V.int 2,V.int 0,V.int 0,V.int 0,V.int 0,V.int 0]++List.map V.int d)=(iH (Sd.mk 6 so sp ta dp) d 0).map V.int:=by rfl
 obtain⟨M,eM⟩:∃M,M=(iH (Sd.mk 6 so sp ta dp) d 0).map V.int:=⟨_,rfl⟩
 rw[hB, <-eM]
 have lM:M.length=d.length+20:=by rw[eM,List.length_map];rfl
 have fM:fits M=true:=fits_of (by lia)
 try conv=>whnf
 try dsimp only
 refine gm (fM) ?_
 refine c9 (by lia) ?_
 refine d4 (by lia) (o4 so++o4 ta++[0,6,b1 M.length,b0 M.length]) rfl (show 12<1000 by decide) (oT ⟨by decide,by decide⟩) ?_
 refine EG (by lia) ?_
 symm
 refine gm (fM) ?_
 refine fH (by lia) ?_
 symm
 have eT:DT (iH (Sd.mk 6 so sp ta dp) d 0)+DT (o4 so++o4 ta++[0,6,b1 (M.length:Int),b0 (M.length:Int)])=BT ⟨6,so,sp,ta,dp⟩ d:=RE lM hd hso hta hsp hdp
 rw[eT]
 obtain⟨c,ec⟩:∃c,c=65535-BT ⟨6,so,sp,ta,dp⟩ d%65535:=⟨_,rfl⟩
 rw[<-ec]
 try conv=>whnf
 try dsimp only
 refine gm (aG (bF fM) rfl) ?_
 symm
 refine gm (fM) ?_
 symm
 rw[dS,A7]
 refine gm (aG (kT (by simp;lia)) (fits_of (by simp;lia))) ?_
 have hB2:M.take (16:Int).toNat++[V.int (b1 c),V.int (b0 c)]++M.drop (16+2:Int).toNat=(iH ⟨6,so,sp,ta,dp⟩ d c).map V.int:=eM▸rfl
 obtain⟨M2,eM2⟩:∃M,M=(iH ⟨6,so,sp,ta,dp⟩ d c).map V.int:=⟨_,rfl⟩
 rw[hB2, <-eM2]
 have lM2:M2.length=d.length+20:=by rw[eM2,List.length_map];rfl
 have fM2:fits M2=true:=fits_of (by lia)
 apply cN (B:=seg n "_law_built" 8 [("side",aF ⟨6,so,sp,ta,dp⟩),("data",.lst (d.map .int)),("is_bare",.bool false),("proto",.int 6),("source",.int so),("sport",.int sp),("target",.int ta),("dport",.int dp),("ends",.lst [.int (b3 so),.int (b2 so),.int (b1 so),.int (b0 so),.int (b3 ta),.int (b2 ta),.int (b1 ta),.int (b0 ta)]),("body",.lst M2)] H K)
 ·kernel_rfl
 symm
 refine gm (fM2) ?_
 refine c9 (by lia) ?_
 refine d4 (by lia) ([69,0,b1 (20+(M2.length:Int)),b0 (20+(M2.length:Int)),0,7,64,0,64,6]++o4 so++o4 ta) rfl (show 18<1000 by decide) (lS ⟨by decide,by decide⟩) ?_
 symm
 have eL:20+(M2.length:Int)=qI ⟨6,so,sp,ta,dp⟩ d:=T7 lM2
 rw[eL]
 have eH:DT ([69,0,b1 (qI ⟨6,so,sp,ta,dp⟩ d),b0 (qI ⟨6,so,sp,ta,dp⟩ d),0,7,64,0,64,6]++o4 so++o4 ta)=HT ⟨6,so,sp,ta,dp⟩ d:=lI hso hta (nM hd)
 refine fH (by lia) ?_
 rw[eH]
 symm
 refine gm (aG (fits_of (by simp)) fM2) ?_
 refine cast (congrArg (λl=>K (.lst l) H) ?_) h
 rw[eM2,ec];rfl
theorem A5(hn:3<=n){so sp ta dp:Int}{d:List Int}(ho:Sd.Ok ⟨17,so,sp,ta,dp⟩)(hd:d.length<=3)(hdo:fB d)(h:K (.lst ((bU ⟨17,so,sp,ta,dp⟩ d false).map .int)) H):R n "_law_built" [aF ⟨17,so,sp,ta,dp⟩,.lst (d.map .int),.bool false] H K:=by
 obtain⟨n,rfl⟩:=aU hn
 have fd:fits (d.map V.int)=true:=fits_of (by simp;lia)
 have hso:=ho.so;have hta:=ho.ta;have hsp:=ho.sp;have hdp:=ho.dp
 simp only at hso hta hsp hdp
 symm
 refine iW (by lia) ?_
 symm
 refine iW (by lia) ?_
 apply cN (B:=seg n "_law_built" 2 [("side",aF ⟨17,so,sp,ta,dp⟩),("data",.lst (d.map .int)),("is_bare",.bool false),("proto",.int 17),("source",.int so),("sport",.int sp),("target",.int ta),("dport",.int dp),("ends",.lst [.int (b3 so),.int (b2 so),.int (b1 so),.int (b0 so),.int (b3 ta),.int (b2 ta),.int (b1 ta),.int (b0 ta)])] H K)
 ·kernel_rfl
 refine c9 (by lia) ?_
 refine c9 (by lia) ?_
 symm
 refine gm (fd) ?_
 refine c9 (by lia) ?_
 apply cN (B:=seg n "_law_built" 3 [("side",aF ⟨17,so,sp,ta,dp⟩),("data",.lst (d.map .int)),("is_bare",.bool false),("proto",.int 17),("source",.int so),("sport",.int sp),("target",.int ta),("dport",.int dp),("ends",.lst [.int (b3 so),.int (b2 so),.int (b1 so),.int (b0 so),.int (b3 ta),.int (b2 ta),.int (b1 ta),.int (b0 ta)]),("body",.lst ([V.int (b1 sp),V.int (b0 sp)]++[V.int (b1 dp),V.int (b0 dp)]++[V.int (b1 (8+((List.map V.int d).length:Int))),V.int (b0 (8+((List.map V.int d).length:Int)))]++[V.int 0,V.int 0]))] H K)
 ·kernel_rfl
 symm
 refine gm (aG rfl fd) ?_
 refine d4 (by lia) (iH (Sd.mk 17 so sp ta dp) d 0) (by rw[List.length_map];rfl) (by simp[iH];lia) (lO ho hdo) ?_
 symm
 have hB:([V.int (b1 sp),V.int (b0 sp)]++[V.int (b1 dp),V.int (b0 dp)]++[V.int (b1 (8+((List.map V.int d).length:Int))),V.int (b0 (8+((List.map V.int d).length:Int)))]++[V.int 0,V.int 0]++List.map V.int d)=(iH (Sd.mk 17 so sp ta dp) d 0).map V.int:=by rw[List.length_map];rfl
 obtain⟨M,eM⟩:∃M,M=(iH (Sd.mk 17 so sp ta dp) d 0).map V.int:=⟨_,rfl⟩
 rw[hB, <-eM]
 have lM:M.length=d.length+8:=by rw[eM,List.length_map];rfl
 have fM:fits M=true:=fits_of (by lia)
 try conv=>whnf
 try dsimp only
 refine gm (fM) ?_
 refine c9 (by lia) ?_
 refine d4 (by lia) (o4 so++o4 ta++[0,17,b1 M.length,b0 M.length]) rfl (show 12<1000 by decide) (oT ⟨by decide,by decide⟩) ?_
 refine nU (by lia) ?_
 symm
 refine gm (fM) ?_
 symm
 refine fH (by lia) ?_
 symm
 have eT:DT (iH (Sd.mk 17 so sp ta dp) d 0)+DT (o4 so++o4 ta++[0,17,b1 (M.length:Int),b0 (M.length:Int)])=BT ⟨17,so,sp,ta,dp⟩ d:=O0 lM hd hso hta hsp hdp
 rw[eT]
 obtain⟨c,ec⟩:∃c,c=65535-BT ⟨17,so,sp,ta,dp⟩ d%65535:=⟨_,rfl⟩
 rw[<-ec]
 try conv=>whnf
 try dsimp only
 refine gm (aG (bF fM) rfl) ?_
 symm
 refine gm (fM) ?_
 symm
 rw[dS,A7]
 refine gm (aG (kT (by simp;lia)) (fits_of (by simp;lia))) ?_
 have hB2:M.take (6:Int).toNat++[V.int (b1 c),V.int (b0 c)]++M.drop (6+2:Int).toNat=(iH ⟨17,so,sp,ta,dp⟩ d c).map V.int:=eM▸rfl
 obtain⟨M2,eM2⟩:∃M,M=(iH ⟨17,so,sp,ta,dp⟩ d c).map V.int:=⟨_,rfl⟩
 rw[hB2, <-eM2]
 have lM2:M2.length=d.length+8:=by rw[eM2,List.length_map];rfl
 have fM2:fits M2=true:=fits_of (by lia)
 apply cN (B:=seg n "_law_built" 8 [("side",aF ⟨17,so,sp,ta,dp⟩),("data",.lst (d.map .int)),("is_bare",.bool false),("proto",.int 17),("source",.int so),("sport",.int sp),("target",.int ta),("dport",.int dp),("ends",.lst [.int (b3 so),.int (b2 so),.int (b1 so),.int (b0 so),.int (b3 ta),.int (b2 ta),.int (b1 ta),.int (b0 ta)]),("body",.lst M2)] H K)
 ·kernel_rfl
 symm
 refine gm (fM2) ?_
 refine c9 (by lia) ?_
 refine d4 (by lia) ([69,0,b1 (20+(M2.length:Int)),b0 (20+(M2.length:Int)),0,7,64,0,64,17]++o4 so++o4 ta) rfl (show 18<1000 by decide) (lS ⟨by decide,by decide⟩) ?_
 symm
 have eL:20+(M2.length:Int)=qI ⟨17,so,sp,ta,dp⟩ d:=NA lM2
 rw[eL]
 have eH:DT ([69,0,b1 (qI ⟨17,so,sp,ta,dp⟩ d),b0 (qI ⟨17,so,sp,ta,dp⟩ d),0,7,64,0,64,17]++o4 so++o4 ta)=HT ⟨17,so,sp,ta,dp⟩ d:=lI hso hta (nM hd)
 refine fH (by lia) ?_
 rw[eH]
 symm
 refine gm (aG (fits_of (by simp)) fM2) ?_
 refine cast (congrArg (λl=>K (.lst l) H) ?_) h
 rw[eM2,ec];rfl
theorem DW(hn:3<=n){so sp ta dp:Int}{d:List Int}(ho:Sd.Ok ⟨1,so,sp,ta,dp⟩)(hd:d.length<=3)(hdo:fB d)(h:K (.lst ((bU ⟨1,so,sp,ta,dp⟩ d false).map .int)) H):R n "_law_built" [aF ⟨1,so,sp,ta,dp⟩,.lst (d.map .int),.bool false] H K:=by
 obtain⟨n,rfl⟩:=aU hn
 have fd:fits (d.map V.int)=true:=fits_of (by simp;lia)
 have hso:=ho.so;have hta:=ho.ta;have hsp:=ho.sp;have hdp:=ho.dp
 simp only at hso hta hsp hdp
 refine iW (by lia) ?_
 refine iW (by lia) ?_
 apply cN (B:=seg n "_law_built" 2 [("side",aF ⟨1,so,sp,ta,dp⟩),("data",.lst (d.map .int)),("is_bare",.bool false),("proto",.int 1),("source",.int so),("sport",.int sp),("target",.int ta),("dport",.int dp),("ends",.lst [.int (b3 so),.int (b2 so),.int (b1 so),.int (b0 so),.int (b3 ta),.int (b2 ta),.int (b1 ta),.int (b0 ta)])] H K)
 ·kernel_rfl
 refine c9 (by lia) ?_
 apply cN (B:=seg n "_law_built" 3 [("side",aF ⟨1,so,sp,ta,dp⟩),("data",.lst (d.map .int)),("is_bare",.bool false),("proto",.int 1),("source",.int so),("sport",.int sp),("target",.int ta),("dport",.int dp),("ends",.lst [.int (b3 so),.int (b2 so),.int (b1 so),.int (b0 so),.int (b3 ta),.int (b2 ta),.int (b1 ta),.int (b0 ta)]),("body",.lst ([V.int dp,V.int 0,V.int 0,V.int 0]++[V.int (b1 sp),V.int (b0 sp)]++[V.int 0,V.int 3]))] H K)
 ·kernel_rfl
 symm
 refine gm (aG rfl fd) ?_
 refine d4 (by lia) (iH (Sd.mk 1 so sp ta dp) d 0) (by rfl) (by simp[iH];lia) (lO ho hdo) ?_
 symm
 have hB:([V.int dp,V.int 0,V.int 0,V.int 0]++[V.int (b1 sp),V.int (b0 sp)]++[V.int 0,V.int 3]++List.map V.int d)=(iH (Sd.mk 1 so sp ta dp) d 0).map V.int:=by rfl
 obtain⟨M,eM⟩:∃M,M=(iH (Sd.mk 1 so sp ta dp) d 0).map V.int:=⟨_,rfl⟩
 rw[hB, <-eM]
 have lM:M.length=d.length+8:=by rw[eM,List.length_map];rfl
 have fM:fits M=true:=fits_of (by lia)
 try conv=>whnf
 try dsimp only
 refine EU (by lia) ?_
 symm
 refine gm (fM) ?_
 refine fH (by lia) ?_
 symm
 have eT:DT (iH (Sd.mk 1 so sp ta dp) d 0)=BT ⟨1,so,sp,ta,dp⟩ d:=RR hsp
 rw[eT]
 obtain⟨c,ec⟩:∃c,c=65535-BT ⟨1,so,sp,ta,dp⟩ d%65535:=⟨_,rfl⟩
 rw[<-ec]
 try conv=>whnf
 try dsimp only
 refine gm (aG (bF fM) rfl) ?_
 symm
 refine gm (fM) ?_
 symm
 rw[dS,A7]
 refine gm (aG (kT (by simp;lia)) (fits_of (by simp;lia))) ?_
 have hB2:M.take (2:Int).toNat++[V.int (b1 c),V.int (b0 c)]++M.drop (2+2:Int).toNat=(iH ⟨1,so,sp,ta,dp⟩ d c).map V.int:=eM▸rfl
 obtain⟨M2,eM2⟩:∃M,M=(iH ⟨1,so,sp,ta,dp⟩ d c).map V.int:=⟨_,rfl⟩
 rw[hB2, <-eM2]
 have lM2:M2.length=d.length+8:=by rw[eM2,List.length_map];rfl
 have fM2:fits M2=true:=fits_of (by lia)
 apply cN (B:=seg n "_law_built" 8 [("side",aF ⟨1,so,sp,ta,dp⟩),("data",.lst (d.map .int)),("is_bare",.bool false),("proto",.int 1),("source",.int so),("sport",.int sp),("target",.int ta),("dport",.int dp),("ends",.lst [.int (b3 so),.int (b2 so),.int (b1 so),.int (b0 so),.int (b3 ta),.int (b2 ta),.int (b1 ta),.int (b0 ta)]),("body",.lst M2)] H K)
 ·kernel_rfl
 symm
 refine gm (fM2) ?_
 refine c9 (by lia) ?_
 refine d4 (by lia) ([69,0,b1 (20+(M2.length:Int)),b0 (20+(M2.length:Int)),0,7,64,0,64,1]++o4 so++o4 ta) rfl (show 18<1000 by decide) (lS ⟨by decide,by decide⟩) ?_
 symm
 have eL:20+(M2.length:Int)=qI ⟨1,so,sp,ta,dp⟩ d:=eZ lM2
 rw[eL]
 have eH:DT ([69,0,b1 (qI ⟨1,so,sp,ta,dp⟩ d),b0 (qI ⟨1,so,sp,ta,dp⟩ d),0,7,64,0,64,1]++o4 so++o4 ta)=HT ⟨1,so,sp,ta,dp⟩ d:=lI hso hta (nM hd)
 refine fH (by lia) ?_
 rw[eH]
 symm
 refine gm (aG (fits_of (by simp)) fM2) ?_
 refine cast (congrArg (λl=>K (.lst l) H) ?_) h
 rw[eM2,ec];rfl
theorem w2(hn:3<=n){so sp ta dp:Int}(ho:Sd.Ok ⟨17,so,sp,ta,dp⟩)(hd:d.length<=3)(hdo:fB d)(h:K (.lst ((bU ⟨17,so,sp,ta,dp⟩ d true).map .int)) H):R n "_law_built" [aF ⟨17,so,sp,ta,dp⟩,.lst (d.map .int),.bool true] H K:=by
 obtain⟨n,rfl⟩:=aU hn
 have fd:fits (d.map V.int)=true:=fits_of (by simp;lia)
 have hso:=ho.so;have hta:=ho.ta;have hsp:=ho.sp;have hdp:=ho.dp
 simp only at hso hta hsp hdp
 refine iW (by lia) ?_
 refine iW (by lia) ?_
 apply cN (B:=seg n "_law_built" 2 [("side",aF ⟨17,so,sp,ta,dp⟩),("data",.lst (d.map .int)),("is_bare",.bool true),("proto",.int 17),("source",.int so),("sport",.int sp),("target",.int ta),("dport",.int dp),("ends",.lst [.int (b3 so),.int (b2 so),.int (b1 so),.int (b0 so),.int (b3 ta),.int (b2 ta),.int (b1 ta),.int (b0 ta)])] H K)
 ·kernel_rfl
 refine c9 (by lia) ?_
 refine c9 (by lia) ?_
 symm
 refine gm (fd) ?_
 refine c9 (by lia) ?_
 apply cN (B:=seg n "_law_built" 3 [("side",aF ⟨17,so,sp,ta,dp⟩),("data",.lst (d.map .int)),("is_bare",.bool true),("proto",.int 17),("source",.int so),("sport",.int sp),("target",.int ta),("dport",.int dp),("ends",.lst [.int (b3 so),.int (b2 so),.int (b1 so),.int (b0 so),.int (b3 ta),.int (b2 ta),.int (b1 ta),.int (b0 ta)]),("body",.lst ([V.int (b1 sp),V.int (b0 sp)]++[V.int (b1 dp),V.int (b0 dp)]++[V.int (b1 (8+((List.map V.int d).length:Int))),V.int (b0 (8+((List.map V.int d).length:Int)))]++[V.int 0,V.int 0]))] H K)
 ·kernel_rfl
 symm
 refine gm (aG rfl fd) ?_
 refine d4 (by lia) (iH (Sd.mk 17 so sp ta dp) d 0) (by rw[List.length_map];rfl) (by simp[iH];lia) (lO ho hdo) ?_
 symm
 have hB:([V.int (b1 sp),V.int (b0 sp)]++[V.int (b1 dp),V.int (b0 dp)]++[V.int (b1 (8+((List.map V.int d).length:Int))),V.int (b0 (8+((List.map V.int d).length:Int)))]++[V.int 0,V.int 0]++List.map V.int d)=(iH (Sd.mk 17 so sp ta dp) d 0).map V.int:=by rw[List.length_map];rfl
 obtain⟨M,eM⟩:∃M,M=(iH (Sd.mk 17 so sp ta dp) d 0).map V.int:=⟨_,rfl⟩
 rw[hB, <-eM]
 have lM:M.length=d.length+8:=by rw[eM,List.length_map];rfl
 have fM:fits M=true:=fits_of (by lia)
 try conv=>whnf
 try dsimp only
 refine gm (fM) ?_
 refine c9 (by lia) ?_
 refine d4 (by lia) (o4 so++o4 ta++[0,17,b1 M.length,b0 M.length]) rfl (show 12<1000 by decide) (oT ⟨by decide,by decide⟩) ?_
 refine nU (by lia) ?_
 refine cB (show ∃M2,M2=M/\M2.length=d.length+8/\fits M2=true from⟨M,rfl,lM,fM⟩) λM2 eM2 lM2 fM2=>?_
 rw[<-eM2]
 subst eM
 have eM2:M2=(iH ⟨17,so,sp,ta,dp⟩ d 0).map V.int:=eM2
 apply cN (B:=seg n "_law_built" 8 [("side",aF ⟨17,so,sp,ta,dp⟩),("data",.lst (d.map .int)),("is_bare",.bool true),("proto",.int 17),("source",.int so),("sport",.int sp),("target",.int ta),("dport",.int dp),("ends",.lst [.int (b3 so),.int (b2 so),.int (b1 so),.int (b0 so),.int (b3 ta),.int (b2 ta),.int (b1 ta),.int (b0 ta)]),("body",.lst M2)] H K)
 ·kernel_rfl
 symm
 refine gm (fM2) ?_
 refine c9 (by lia) ?_
 refine d4 (by lia) ([69,0,b1 (20+(M2.length:Int)),b0 (20+(M2.length:Int)),0,7,64,0,64,17]++o4 so++o4 ta) rfl (show 18<1000 by decide) (lS ⟨by decide,by decide⟩) ?_
 symm
 have eL:20+(M2.length:Int)=qI ⟨17,so,sp,ta,dp⟩ d:=NA lM2
 rw[eL]
 have eH:DT ([69,0,b1 (qI ⟨17,so,sp,ta,dp⟩ d),b0 (qI ⟨17,so,sp,ta,dp⟩ d),0,7,64,0,64,17]++o4 so++o4 ta)=HT ⟨17,so,sp,ta,dp⟩ d:=lI hso hta (nM hd)
 refine fH (by lia) ?_
 rw[eH]
 symm
 refine gm (aG (fits_of (by simp)) fM2) ?_
 refine cast (congrArg (λl=>K (.lst l) H) ?_) h
 rw[eM2];rfl
theorem cR(hn:1<=n)(ho:s.Ok)(h:K (aF (turn s)) H):R n "_law_turned" [aF s] H K:=by
 obtain⟨pr,so,sp,ta,dp⟩:=s
 obtain⟨h1,-,-,-,-,h6⟩:=ho
 obtain⟨n,rfl⟩:=aU hn
 rcases h1 with h1|h1|h1<;>simp only at h1<;>subst h1
 ·symm
  exact h
 ·exact h
 ·exact h
theorem KW(hn:2<=n){bare:Bool}(ho:s.Ok)(hd:d.length<=3)(hp:Pk bare s d l)
 (h:K (aF s) (h0::h1::h2::h3::h4::h5::.bar l::t)):R n "_law_side" [.ref 6] (h0::h1::h2::h3::h4::h5::.bar l::t) K:=by
 obtain⟨n,rfl⟩:=aU hn
 obtain⟨c,e,hl,-⟩:=hp
 have len:28<=l.length/\l.length<1000:=hl▸AF hd
 have fl:fits l=true:=fits_of len.2
 have k9:item l 9=some s.pr:=hl▸rfl
 obtain⟨pr,so,sp,ta,dp⟩:=s
 obtain⟨p1,p2,p3,p4,p5,p6⟩:=ho
 have f1:=r4 p2;have f2:=r4 p4;have f3:=aQ p3;have f4:=aQ p5
 simp only at f1 f2 f3 f4
 have g1:((b3 so*256+b2 so)*256+b1 so)*256+b0 so=so:=by lia
 have g2:((b3 ta*256+b2 ta)*256+b1 ta)*256+b0 ta=ta:=by lia
 symm
 refine gm fl ?_
 symm
 with_reducible refine nS (k9) ?_
 refine HS (by lia) len.2 (qB so) (qD so) (b6 so) (bZ so) (hl▸rfl) (hl▸rfl) (hl▸rfl) (hl▸rfl) ?_
 rw[g1]
 refine HS (by lia) len.2 (qB ta) (qD ta) (b6 ta) (bZ ta) (hl▸rfl) (hl▸rfl) (hl▸rfl) (hl▸rfl) ?_
 rw[g2]
 rcases p1 with p1|p1|p1<;>simp only at p1<;>subst p1
 ·symm
  refine oH (by lia) len.2 (b6 sp) (bZ sp) (hl▸rfl) (hl▸rfl) ?_
  rw[f3]
  refine oH (by lia) len.2 (b6 dp) (bZ dp) (hl▸rfl) (hl▸rfl) ?_
  rw[f4]
  exact h
 ·symm
  refine oH (by lia) len.2 (b6 sp) (bZ sp) (hl▸rfl) (hl▸rfl) ?_
  rw[f3]
  refine oH (by lia) len.2 (b6 dp) (bZ dp) (hl▸rfl) (hl▸rfl) ?_
  rw[f4]
  exact h
 ·refine oH (by lia) len.2 (b6 sp) (bZ sp) (hl▸rfl) (by subst hl;rfl) ?_
  rw[f3]
  symm
  refine gm fl ?_
  symm
  rw[show item l 20=some dp by subst hl;rfl]
  exact h
theorem B2(l:List Int):fR (l.map V.int) (l.map V.int)=true:=by
 induction l with
 |nil=>rfl
 |cons x xs ih=>exact aG (dT rfl) ih
theorem uM(n:Nat)(l:List Int):dH n (l.map V.int) (l.map V.int)=true:=by
 induction l with
 |nil=>rcases n<;>rfl
 |cons x xs ih=>rcases n<;>exact aG rfl ih
theorem uF{l:List Int}{a b:List V}(ha:a=l.map V.int)(hb:b=l.map V.int):b5 8 (.lst a) (.lst b)=true/\(!bQ (.lst a) (.lst b))=false:=by
 subst ha hb
 exact⟨uM 7 l,by show(!fR _ _)=false;rw[B2];rfl⟩
theorem VT(hn:4<=n){so sp ta dp:Int}{t:Hp}{d l:List Int}(ho:Sd.Ok ⟨6,so,sp,ta,dp⟩)(hd:d.length<=3)(hdo:fB d)(hp:Pk false ⟨6,so,sp,ta,dp⟩ d l)
 (h:K (.bool true) (h0::h1::h2::h3::h4::aK 6::.bar l::t)):R n "_law_is" [.ref 5,aF ⟨6,so,sp,ta,dp⟩,.lst (d.map .int),.bool false] (h0::h1::h2::h3::h4::aK 6::.bar l::t) K:=by
 obtain⟨n,rfl⟩:=aU hn
 obtain⟨c,e,hl,hc,he,hc1,he1,he2⟩:=hp
 have len:l.length=d.length+40:=hl▸rfl
 have fl:fits l=true:=fits_of (by lia)
 have l5:(l.map V.int).length<500:=by rw[List.length_map];lia
 have fm:fits (l.map V.int)=true:=fits_of (Nat.lt_of_lt_of_le l5 (by decide))
 symm
 refine gm fl ?_
 symm
 refine DQ (by lia) ho hd hdo ?_
 symm
 obtain⟨c',ec'⟩:∃c',c'=65535-HT ⟨6,so,sp,ta,dp⟩ d%65535:=⟨_,rfl⟩
 obtain⟨e',ee'⟩:∃e':Int,e'=65535-BT ⟨6,so,sp,ta,dp⟩ d%65535:=⟨_,rfl⟩
 have hm:bU ⟨6,so,sp,ta,dp⟩ d false=qT ⟨6,so,sp,ta,dp⟩ d c' e':=by rw[ec',ee'];rfl
 rw[hm]
 obtain⟨m,em⟩:∃m,m=qT ⟨6,so,sp,ta,dp⟩ d c' e':=⟨_,rfl⟩
 rw[<-em]
 have lem:m.length=d.length+40:=em▸rfl
 have m5:(m.map V.int).length<500:=by rw[List.length_map];lia
 have fm2:fits (m.map V.int)=true:=fits_of (Nat.lt_of_lt_of_le m5 (by decide))
 apply cN (B:=seg n "_law_is" 2 [("packet",.ref 5),("side",aF ⟨6,so,sp,ta,dp⟩),("data",.lst (d.map .int)),("is_bare",.bool false),("octets",.lst (l.map .int)),("due",.lst (m.map .int))] (h0::h1::h2::h3::h4::aK 6::.bar l::t) K)
 ·kernel_rfl
 symm
 refine EG (by lia) ?_
 symm
 refine gm (fm) ?_
 symm
 refine gm (fm) ?_
 symm
 refine gm (aG (bF fm) (bF fm)) ?_
 symm
 refine gm (fm) ?_
 symm
 rw[dS]
 refine gm (aG (fY l5) (dP fm)) ?_
 symm
 refine gm (fm2) ?_
 symm
 refine gm (fm2) ?_
 symm
 refine gm (aG (bF fm2) (bF fm2)) ?_
 symm
 refine gm (fm2) ?_
 symm
 rw[dS]
 refine gm (aG (fY m5) (dP fm2)) ?_
 symm
 have hq:=uF (l:=cut l 0 10++cut l 12 36++l.drop 38) (a:=cut (l.map V.int) 0 10++cut (l.map V.int) 12 (20+16)++(l.map V.int).drop (20+16+2:Int).toNat) (b:=cut (m.map V.int) 0 10++cut (m.map V.int) 12 (20+16)++(m.map V.int).drop (20+16+2:Int).toNat) (hl▸rfl) (by subst em;subst hl;rfl)
 refine gm (hq.1) ?_
 symm
 rw[hq.2]
 apply cN (B:=seg n "_law_is" 4 [("packet",.ref 5),("side",aF ⟨6,so,sp,ta,dp⟩),("data",.lst (d.map .int)),("is_bare",.bool false),("octets",.lst (l.map .int)),("due",.lst (m.map .int)),("at",.int (20+16))] (h0::h1::h2::h3::h4::aK 6::.bar l::t) K)
 ·kernel_rfl
 have hc':0<=c'/\c'<65536:=ec'▸gY _
 have he':0<=e'/\e'<65536:=ee'▸gY _
 have ll:l.length<1000:=by lia
 have lm:m.length<1000:=by lia
 symm
 refine cW (by lia) ll (b6 c) (bZ c) (hl▸rfl) (hl▸rfl) ?_
 rw[aQ hc]
 symm
 refine cW (by lia) lm (b6 c') (bZ c') (em▸rfl) (em▸rfl) ?_
 rw[aQ hc']
 symm
 with_reducible refine gL (bN (gX hc1 ec')) ?_
 symm
 refine cW (by lia) ll (b6 e) (bZ e) (hl▸rfl) (hl▸rfl) ?_
 rw[aQ he]
 symm
 refine cW (by lia) lm (b6 e') (bZ e') (em▸rfl) (em▸rfl) ?_
 rw[aQ he']
 symm
 have ew:=(he2 rfl).1
 with_reducible refine gL (bN (gX ew ee')) ?_
 exact h
theorem TF(hn:4<=n){so sp ta dp:Int}{t:Hp}{d l:List Int}(ho:Sd.Ok ⟨17,so,sp,ta,dp⟩)(hd:d.length<=3)(hdo:fB d)(hp:Pk false ⟨17,so,sp,ta,dp⟩ d l)
 (h:K (.bool true) (h0::h1::h2::h3::h4::aK 17::.bar l::t)):R n "_law_is" [.ref 5,aF ⟨17,so,sp,ta,dp⟩,.lst (d.map .int),.bool false] (h0::h1::h2::h3::h4::aK 17::.bar l::t) K:=by
 obtain⟨n,rfl⟩:=aU hn
 obtain⟨c,e,hl,hc,he,hc1,he1,he2⟩:=hp
 have len:l.length=d.length+28:=hl▸rfl
 have fl:fits l=true:=fits_of (by lia)
 have l5:(l.map V.int).length<500:=by rw[List.length_map];lia
 have fm:fits (l.map V.int)=true:=fits_of (Nat.lt_of_lt_of_le l5 (by decide))
 symm
 refine gm fl ?_
 symm
 refine A5 (by lia) ho hd hdo ?_
 symm
 obtain⟨c',ec'⟩:∃c',c'=65535-HT ⟨17,so,sp,ta,dp⟩ d%65535:=⟨_,rfl⟩
 obtain⟨e',ee'⟩:∃e':Int,e'=65535-BT ⟨17,so,sp,ta,dp⟩ d%65535:=⟨_,rfl⟩
 have hm:bU ⟨17,so,sp,ta,dp⟩ d false=qT ⟨17,so,sp,ta,dp⟩ d c' e':=by rw[ec',ee'];rfl
 rw[hm]
 obtain⟨m,em⟩:∃m,m=qT ⟨17,so,sp,ta,dp⟩ d c' e':=⟨_,rfl⟩
 rw[<-em]
 have lem:m.length=d.length+28:=em▸rfl
 have m5:(m.map V.int).length<500:=by rw[List.length_map];lia
 have fm2:fits (m.map V.int)=true:=fits_of (Nat.lt_of_lt_of_le m5 (by decide))
 apply cN (B:=seg n "_law_is" 2 [("packet",.ref 5),("side",aF ⟨17,so,sp,ta,dp⟩),("data",.lst (d.map .int)),("is_bare",.bool false),("octets",.lst (l.map .int)),("due",.lst (m.map .int))] (h0::h1::h2::h3::h4::aK 17::.bar l::t) K)
 ·kernel_rfl
 symm
 refine nU (by lia) ?_
 symm
 refine gm (fm) ?_
 symm
 refine gm (fm) ?_
 symm
 refine gm (aG (bF fm) (bF fm)) ?_
 symm
 refine gm (fm) ?_
 symm
 rw[dS]
 refine gm (aG (fY l5) (dP fm)) ?_
 symm
 refine gm (fm2) ?_
 symm
 refine gm (fm2) ?_
 symm
 refine gm (aG (bF fm2) (bF fm2)) ?_
 symm
 refine gm (fm2) ?_
 symm
 rw[dS]
 refine gm (aG (fY m5) (dP fm2)) ?_
 symm
 have hq:=uF (l:=cut l 0 10++cut l 12 26++l.drop 28) (a:=cut (l.map V.int) 0 10++cut (l.map V.int) 12 (20+6)++(l.map V.int).drop (20+6+2:Int).toNat) (b:=cut (m.map V.int) 0 10++cut (m.map V.int) 12 (20+6)++(m.map V.int).drop (20+6+2:Int).toNat) (hl▸rfl) (by subst em;subst hl;rfl)
 refine gm (hq.1) ?_
 symm
 rw[hq.2]
 apply cN (B:=seg n "_law_is" 4 [("packet",.ref 5),("side",aF ⟨17,so,sp,ta,dp⟩),("data",.lst (d.map .int)),("is_bare",.bool false),("octets",.lst (l.map .int)),("due",.lst (m.map .int)),("at",.int (20+6))] (h0::h1::h2::h3::h4::aK 17::.bar l::t) K)
 ·kernel_rfl
 have hc':0<=c'/\c'<65536:=ec'▸gY _
 have he':0<=e'/\e'<65536:=ee'▸gY _
 have ll:l.length<1000:=by lia
 have lm:m.length<1000:=by lia
 symm
 refine cW (by lia) ll (b6 c) (bZ c) (hl▸rfl) (hl▸rfl) ?_
 rw[aQ hc]
 symm
 refine cW (by lia) lm (b6 c') (bZ c') (em▸rfl) (em▸rfl) ?_
 rw[aQ hc']
 symm
 with_reducible refine gL (bN (gX hc1 ec')) ?_
 symm
 refine cW (by lia) ll (b6 e) (bZ e) (hl▸rfl) (hl▸rfl) ?_
 rw[aQ he]
 symm
 refine cW (by lia) lm (b6 e') (bZ e') (em▸rfl) (em▸rfl) ?_
 rw[aQ he']
 symm
 have ew:=(he2 rfl).1
 with_reducible refine gL (bN (gX ew ee')) ?_
 symm
 refine cW (by lia) ll (b6 e) (bZ e) (hl▸rfl) (hl▸rfl) ?_
 rw[aQ he]
 symm
 rw[aB,dF ((he2 rfl).2 rfl)]
 exact h
theorem VV(hn:4<=n){so sp ta dp:Int}{t:Hp}{d l:List Int}(ho:Sd.Ok ⟨1,so,sp,ta,dp⟩)(hd:d.length<=3)(hdo:fB d)(hp:Pk false ⟨1,so,sp,ta,dp⟩ d l)
 (h:K (.bool true) (h0::h1::h2::h3::h4::aK 1::.bar l::t)):R n "_law_is" [.ref 5,aF ⟨1,so,sp,ta,dp⟩,.lst (d.map .int),.bool false] (h0::h1::h2::h3::h4::aK 1::.bar l::t) K:=by
 obtain⟨n,rfl⟩:=aU hn
 obtain⟨c,e,hl,hc,he,hc1,he1,he2⟩:=hp
 have len:l.length=d.length+28:=hl▸rfl
 have fl:fits l=true:=fits_of (by lia)
 have l5:(l.map V.int).length<500:=by rw[List.length_map];lia
 have fm:fits (l.map V.int)=true:=fits_of (Nat.lt_of_lt_of_le l5 (by decide))
 symm
 refine gm fl ?_
 refine DW (by lia) ho hd hdo ?_
 symm
 obtain⟨c',ec'⟩:∃c',c'=65535-HT ⟨1,so,sp,ta,dp⟩ d%65535:=⟨_,rfl⟩
 obtain⟨e',ee'⟩:∃e':Int,e'=65535-BT ⟨1,so,sp,ta,dp⟩ d%65535:=⟨_,rfl⟩
 have hm:bU ⟨1,so,sp,ta,dp⟩ d false=qT ⟨1,so,sp,ta,dp⟩ d c' e':=by rw[ec',ee'];rfl
 rw[hm]
 obtain⟨m,em⟩:∃m,m=qT ⟨1,so,sp,ta,dp⟩ d c' e':=⟨_,rfl⟩
 rw[<-em]
 have lem:m.length=d.length+28:=em▸rfl
 have m5:(m.map V.int).length<500:=by rw[List.length_map];lia
 have fm2:fits (m.map V.int)=true:=fits_of (Nat.lt_of_lt_of_le m5 (by decide))
 apply cN (B:=seg n "_law_is" 2 [("packet",.ref 5),("side",aF ⟨1,so,sp,ta,dp⟩),("data",.lst (d.map .int)),("is_bare",.bool false),("octets",.lst (l.map .int)),("due",.lst (m.map .int))] (h0::h1::h2::h3::h4::aK 1::.bar l::t) K)
 ·kernel_rfl
 symm
 refine EU (by lia) ?_
 symm
 refine gm (fm) ?_
 symm
 refine gm (fm) ?_
 symm
 refine gm (aG (bF fm) (bF fm)) ?_
 symm
 refine gm (fm) ?_
 symm
 rw[dS]
 refine gm (aG (fY l5) (dP fm)) ?_
 symm
 refine gm (fm2) ?_
 symm
 refine gm (fm2) ?_
 symm
 refine gm (aG (bF fm2) (bF fm2)) ?_
 symm
 refine gm (fm2) ?_
 symm
 rw[dS]
 refine gm (aG (fY m5) (dP fm2)) ?_
 symm
 have hq:=uF (l:=cut l 0 10++cut l 12 22++l.drop 24) (a:=cut (l.map V.int) 0 10++cut (l.map V.int) 12 (20+2)++(l.map V.int).drop (20+2+2:Int).toNat) (b:=cut (m.map V.int) 0 10++cut (m.map V.int) 12 (20+2)++(m.map V.int).drop (20+2+2:Int).toNat) (hl▸rfl) (by subst em;subst hl;rfl)
 refine gm (hq.1) ?_
 symm
 rw[hq.2]
 apply cN (B:=seg n "_law_is" 4 [("packet",.ref 5),("side",aF ⟨1,so,sp,ta,dp⟩),("data",.lst (d.map .int)),("is_bare",.bool false),("octets",.lst (l.map .int)),("due",.lst (m.map .int)),("at",.int (20+2))] (h0::h1::h2::h3::h4::aK 1::.bar l::t) K)
 ·kernel_rfl
 have hc':0<=c'/\c'<65536:=ec'▸gY _
 have he':0<=e'/\e'<65536:=ee'▸gY _
 have ll:l.length<1000:=by lia
 have lm:m.length<1000:=by lia
 symm
 refine cW (by lia) ll (b6 c) (bZ c) (hl▸rfl) (hl▸rfl) ?_
 rw[aQ hc]
 symm
 refine cW (by lia) lm (b6 c') (bZ c') (em▸rfl) (em▸rfl) ?_
 rw[aQ hc']
 symm
 with_reducible refine gL (bN (gX hc1 ec')) ?_
 symm
 refine cW (by lia) ll (b6 e) (bZ e) (hl▸rfl) (hl▸rfl) ?_
 rw[aQ he]
 symm
 refine cW (by lia) lm (b6 e') (bZ e') (em▸rfl) (em▸rfl) ?_
 rw[aQ he']
 symm
 have ew:=(he2 rfl).1
 with_reducible refine gL (bN (gX ew ee')) ?_
 exact h
theorem RX(hn:4<=n){so sp ta dp:Int}{t:Hp}{d l:List Int}(ho:Sd.Ok ⟨17,so,sp,ta,dp⟩)(hd:d.length<=3)(hdo:fB d)(hp:Pk true ⟨17,so,sp,ta,dp⟩ d l)
 (h:K (.bool true) (h0::h1::h2::h3::h4::aK 17::.bar l::t)):R n "_law_is" [.ref 5,aF ⟨17,so,sp,ta,dp⟩,.lst (d.map .int),.bool true] (h0::h1::h2::h3::h4::aK 17::.bar l::t) K:=by
 obtain⟨n,rfl⟩:=aU hn
 obtain⟨c,e,hl,hc,he,hc1,he1,he2⟩:=hp
 have len:l.length=d.length+28:=hl▸rfl
 have fl:fits l=true:=fits_of (by lia)
 have l5:(l.map V.int).length<500:=by rw[List.length_map];lia
 have fm:fits (l.map V.int)=true:=fits_of (Nat.lt_of_lt_of_le l5 (by decide))
 symm
 refine gm fl ?_
 refine w2 (by lia) ho hd hdo ?_
 symm
 obtain⟨c',ec'⟩:∃c',c'=65535-HT ⟨17,so,sp,ta,dp⟩ d%65535:=⟨_,rfl⟩
 obtain⟨e',ee'⟩:∃e':Int,e'=0:=⟨_,rfl⟩
 have hm:bU ⟨17,so,sp,ta,dp⟩ d true=qT ⟨17,so,sp,ta,dp⟩ d c' e':=by rw[ec',ee'];rfl
 rw[hm]
 obtain⟨m,em⟩:∃m,m=qT ⟨17,so,sp,ta,dp⟩ d c' e':=⟨_,rfl⟩
 rw[<-em]
 have lem:m.length=d.length+28:=em▸rfl
 have m5:(m.map V.int).length<500:=by rw[List.length_map];lia
 have fm2:fits (m.map V.int)=true:=fits_of (Nat.lt_of_lt_of_le m5 (by decide))
 apply cN (B:=seg n "_law_is" 2 [("packet",.ref 5),("side",aF ⟨17,so,sp,ta,dp⟩),("data",.lst (d.map .int)),("is_bare",.bool true),("octets",.lst (l.map .int)),("due",.lst (m.map .int))] (h0::h1::h2::h3::h4::aK 17::.bar l::t) K)
 ·kernel_rfl
 symm
 refine nU (by lia) ?_
 symm
 refine gm (fm) ?_
 symm
 refine gm (fm) ?_
 symm
 refine gm (aG (bF fm) (bF fm)) ?_
 symm
 refine gm (fm) ?_
 symm
 rw[dS]
 refine gm (aG (fY l5) (dP fm)) ?_
 symm
 refine gm (fm2) ?_
 symm
 refine gm (fm2) ?_
 symm
 refine gm (aG (bF fm2) (bF fm2)) ?_
 symm
 refine gm (fm2) ?_
 symm
 rw[dS]
 refine gm (aG (fY m5) (dP fm2)) ?_
 symm
 have hq:=uF (l:=cut l 0 10++cut l 12 26++l.drop 28) (a:=cut (l.map V.int) 0 10++cut (l.map V.int) 12 (20+6)++(l.map V.int).drop (20+6+2:Int).toNat) (b:=cut (m.map V.int) 0 10++cut (m.map V.int) 12 (20+6)++(m.map V.int).drop (20+6+2:Int).toNat) (hl▸rfl) (by subst em;subst hl;rfl)
 refine gm (hq.1) ?_
 symm
 rw[hq.2]
 apply cN (B:=seg n "_law_is" 4 [("packet",.ref 5),("side",aF ⟨17,so,sp,ta,dp⟩),("data",.lst (d.map .int)),("is_bare",.bool true),("octets",.lst (l.map .int)),("due",.lst (m.map .int)),("at",.int (20+6))] (h0::h1::h2::h3::h4::aK 17::.bar l::t) K)
 ·kernel_rfl
 have hc':0<=c'/\c'<65536:=ec'▸gY _
 have he':0<=e'/\e'<65536:=by lia
 have ll:l.length<1000:=by lia
 have lm:m.length<1000:=by lia
 symm
 refine cW (by lia) ll (b6 c) (bZ c) (hl▸rfl) (hl▸rfl) ?_
 rw[aQ hc]
 symm
 refine cW (by lia) lm (b6 c') (bZ c') (em▸rfl) (em▸rfl) ?_
 rw[aQ hc']
 symm
 with_reducible refine gL (bN (gX hc1 ec')) ?_
 symm
 refine cW (by lia) ll (b6 e) (bZ e) (hl▸rfl) (hl▸rfl) ?_
 rw[aQ he]
 symm
 refine cW (by lia) lm (b6 e') (bZ e') (em▸rfl) (em▸rfl) ?_
 rw[aQ he']
 symm
 have ew:=(he1 rfl).2
 with_reducible refine gL (bN (by rw[fmod_eq (by decide)];lia:Int.fmod (e-e') 65535=0)) ?_
 symm
 refine cW (by lia) ll (b6 e) (bZ e) (hl▸rfl) (hl▸rfl) ?_
 rw[aQ he]
 symm
 rw[aB,dT ew]
 exact h
theorem zS(hn:4<=n){bare:Bool}(ho:s.Ok)(hd:d.length<=3)(hdo:fB d)(hp:Pk bare s d l)
 (h:K (.bool true) (h0::h1::h2::h3::h4::aK s.pr::.bar l::t)):R n "_law_is" [.ref 5,aF s,.lst (d.map .int),.bool bare] (h0::h1::h2::h3::h4::aK s.pr::.bar l::t) K:=by
 obtain⟨pr,so,sp,ta,dp⟩:=s
 have hb:bare=true->pr=17:=by obtain⟨c,e,hl,hc,he,hc1,he1,he2⟩:=hp;exact λq=>(he1 q).1
 have ho':=ho
 obtain⟨p1,p2,p3,p4,p5,p6⟩:=ho
 rcases p1 with p1|p1|p1<;>simp only at p1<;>subst p1
 ·rcases bare
  ·exact VT hn ho' hd hdo hp h
  ·exact absurd (hb rfl) (by decide)
 ·rcases bare
  ·exact TF hn ho' hd hdo hp h
  ·exact RX hn ho' hd hdo hp h
 ·rcases bare
  ·exact VV hn ho' hd hdo hp h
  ·exact absurd (hb rfl) (by decide)
theorem fN(hn:3<=n){bare:Bool}(ho:s.Ok)(hd:d.length<=3)(hdo:fB d)(hb:bare=true->s.pr=17)(h:K (.lst ((bU s d bare).map .int)) H):R n "_law_built" [aF s,.lst (d.map .int),.bool bare] H K:=by
 obtain⟨pr,so,sp,ta,dp⟩:=s
 have ho':=ho
 obtain⟨p1,p2,p3,p4,p5,p6⟩:=ho
 rcases p1 with p1|p1|p1<;>simp only at p1<;>subst p1
 ·rcases bare
  ·exact DQ hn ho' hd hdo h
  ·exact absurd (show(6:Int)=17 from hb rfl) (by decide)
 ·rcases bare
  ·exact A5 hn ho' hd hdo h
  ·exact w2 hn ho' hd hdo h
 ·rcases bare
  ·exact DW hn ho' hd hdo h
  ·exact absurd (show(1:Int)=17 from hb rfl) (by decide)
theorem iJ{bare:Bool}(hb:bare=true->s.pr=17):Pk bare s d (bU s d bare):=by
 refine⟨_,_,rfl,by lia,?_,by lia,?_,?_⟩
 ·rcases bare
  ·show 0<=65535-BT s d%65535/\65535-BT s d%65535<65536;lia
  ·show(0:Int)<=0/\(0:Int)<65536;decide
 ·intro q;subst q;exact⟨hb rfl,rfl⟩
 ·intro q;subst q
  show((65535-BT s d%65535)+BT s d)%65535=0/\(s.pr=17->65535-BT s d%65535≠0)
  lia
theorem JM{c e:Int}(ho:s.Ok)(hd:fB d):fB (qT s d c e):=by
 have z:∀k:Nat,k<256->aM (k:Int):=λk h=>⟨by lia,by lia⟩
 have q:=ho.pr
 unfold qT
 simp only[fB,List.forall_mem_cons]
 exact⟨z 69 (by decide),z 0 (by decide),b6 _,bZ _,z 0 (by decide),z 7 (by decide),z 64 (by decide),z 0 (by decide),z 64 (by decide),⟨by lia,by lia⟩,b6 _,bZ _,qB _,qD _,b6 _,bZ _,qB _,qD _,b6 _,bZ _,lO ho hd⟩
structure Tk where
 n:Int
 f:Sd
 o:Sd
 st:Int
noncomputable def fA (s:Sd):V:=.tup [.int 0,aI s]
noncomputable def DP (t:Tk):V:=fE t.n (aI t.f) (aI (turn t.o)) 9 t.st
noncomputable def b9:List Tk->List (V×V)
 | []=>[]
 |t::S=>(fA t.f,.tup [.int t.n,.int 0])::(fA (turn t.o),.tup [.int t.n,.int 1])::b9 S
noncomputable def cI (S:List Tk):List (V×V):=S.map λt=>(.int t.n,DP t)
noncomputable def bG (S:List Tk):List V:=S.map λt=>aF t.o
noncomputable def cM (S:List Tk):List V:=S.map λt=>.int t.n
noncomputable def b4 (seed:Int):V:=.obj "TalkBook" [("most",.int 8),("seed",.int seed),("tries",.int 128),("table",.ref 1),("talks",.ref 2),("last",.int 0),("trackers",.dct []),("expects",.lst []),("flows",.dct []),("is_loose",.bool true)]
noncomputable def jK:List Tk->Sd->Option (Tk×Int)
 | [],_=>none
 |t::S,s=>if t.f=s then some (t,0)else if turn t.o=s then some (t,1)else jK S s
noncomputable def Tk.Ok (t:Tk):Prop:=t.f.Ok/\t.o.Ok
theorem lD(ha:a.Ok)(hb:b.Ok):bQ (aI a) (aI b)=decide (a=b):=by
 obtain⟨a1,a2,a3,a4,a5⟩:=a
 obtain⟨c1,c2,c3,c4,c5⟩:=b
 show(decide ((2:Int)=2)&&(decide (a1=c1)&&(decide (a2=c2)&&(decide (a3=c3)&&(decide (a4=c4)&&(decide (wK ⟨a1,a2,a3,a4,a5⟩=wK ⟨c1,c2,c3,c4,c5⟩)&&true))))))=_
 by_cases h:a1=c1
 ·subst h
  have:(wK ⟨a1,a2,a3,a4,a5⟩=wK ⟨a1,c2,c3,c4,c5⟩)↔a5=c5:=by unfold wK;simp only;split<;>lia
  simp only[this,Sd.mk.injEq,true_and,decide_true,Bool.true_and,Bool.and_true,Bool.decide_and]
 ·simp[h]
theorem tI(ha:a.Ok)(hb:b.Ok):bQ (fA a) (fA b)=decide (a=b):=by
 rw[<-lD ha hb]
 show(decide ((0:Int)=0)&&(bQ (aI a) (aI b)&&true))=_
 simp
theorem jM(hs:s.Ok)(hS:∀t∈S,t.Ok):b7 (fA s) (b9 S)=(jK S s).map λp=>.tup [.int p.1.n,.int p.2]:=by
 induction S with
 |nil=>rfl
 |cons t S ih=>
   have ht:=hS t (by simp)
   have ih:=ih λu hu=>hS u (by simp[hu])
   show(match bQ (fA t.f) (fA s)with|true=>_|false=>match bQ (fA (turn t.o)) (fA s)with|true=>_|false=>b7 (fA s) (b9 S))=_
   rw[tI ht.1 hs,tI (bH ht.2) hs,ih]
   rw[show jK (t::S) s=if t.f=s then some (t,0)else if turn t.o=s then some (t,1)else jK S s from rfl]
   by_cases c:t.f=s
   ·simp[c]
   ·by_cases c2:turn t.o=s
    ·simp[c,c2]
    ·simp[c,c2]
theorem kk(s:Sd):aL (fA s)=3:=rfl
theorem FH(S:List Tk):eS 3 (b9 S)=true:=by
 induction S with
 |nil=>rfl
 |cons t S ih=>exact aG rfl (aG rfl ih)
theorem AI(S:List Tk):(b9 S).length=2*S.length:=by
 induction S with
 |nil=>rfl
 |cons t S ih=>simp[b9,ih];lia
theorem sU(s:Sd)(h:S.length<=3):bW (fA s) (b9 S)=true:=aG (aG rfl (FH S)) (fits_of (by rw[AI];lia))
theorem OH(S:List Tk):eS 1 (cI S)=true:=by
 induction S with
 |nil=>rfl
 |cons t S ih=>exact aG rfl ih
theorem z5(n:Int)(h:S.length<=3):bW (.int n) (cI S)=true:=aG (aG rfl (OH S)) (fits_of (by simp[cI];lia))
noncomputable def Nd (S:List Tk):Prop:=(S.map (·.n)).Nodup
theorem CG(h:Nd S)(ht:t∈S):b7 (.int t.n) (cI S)=some (DP t):=by
 induction S with
 |nil=>rcases ht
 |cons u S ih=>
   show(match bQ (.int u.n) (.int t.n)with|true=>_|false=>b7 (.int t.n) (cI S))=_
   rw[aB]
   simp only[Nd,List.map_cons,List.nodup_cons]at h
   rcases List.mem_cons.mp ht with rfl|ht
   ·simp
   ·have:u.n≠t.n:=λq=>h.1 (by rw[q];exact List.mem_map_of_mem ht)
    rw[dF this]
    exact ih h.2 ht
theorem AO{i:Int}(h:jK S s=some (t,i)):t∈S/\(i=0/\t.f=s\/i=1/\turn t.o=s):=by
 induction S with
 |nil=>injection h
 |cons u S ih=>
   unfold jK at h
   split at h
   ·cases h;exact⟨by simp,.inl ⟨rfl,by assumption⟩⟩
   split at h
   ·cases h;exact⟨by simp,.inr ⟨rfl,by assumption⟩⟩
   ·exact⟨by simp[(ih h).1],(ih h).2⟩
theorem i6(hn:1<=n){seed:Int}(hS:∀t∈S,t.Ok)(hl:S.length<=3)(hs:s.Ok)(hf:jK S s=none)(h:K .none (b4 seed:: .dct (b9 S)::h2::t)):R n "look_up" [.ref 0,.int 0,aI s,.int 5] (b4 seed:: .dct (b9 S)::h2::t) K:=by
 obtain⟨n,rfl⟩:=aU hn
 have dk:bW (.tup [.int 0,aI s]) (b9 S)=true:=sU s hl
 symm
 refine gm (dk) ?_
 symm
 rw[show b7 (.tup [.int 0,aI s]) (b9 S)=none by have:=jM hs hS;rw[hf]at this;exact this]
 exact h
theorem jH(hn:1<=n){seed:Int}{i:Int}(hS:∀t∈S,t.Ok)(hN:Nd S)(hl:S.length<=3)(hs:s.Ok)(hf:jK S s=some (tk,i))(h:K (.tup [DP tk,.int i]) (b4 seed:: .dct (b9 S):: .dct (cI S)::t)):R n "look_up" [.ref 0,.int 0,aI s,.int 5] (b4 seed:: .dct (b9 S):: .dct (cI S)::t) K:=by
 obtain⟨n,rfl⟩:=aU hn
 have dk:bW (.tup [.int 0,aI s]) (b9 S)=true:=sU s hl
 symm
 refine gm (dk) ?_
 symm
 rw[show b7 (.tup [.int 0,aI s]) (b9 S)=some (.tup [.int tk.n,.int i])by have:=jM hs hS;rw[hf]at this;exact this]
 symm
 refine gm (z5 _ hl) ?_
 symm
 rw[CG hN (AO hf).1]
 exact h
noncomputable def jR (S:List Tk) (s:Sd):Bool:=(jK S (turn s)).isSome
theorem nL(hn:3<=n){seed k u st:Int}(hS:∀t∈S,t.Ok)(hN:Nd S)(hl:S.length<=3)(hs:s.Ok)(hk:∀t∈S,t.n≠k)
 (h:K (.bool (jR S s)) [b4 seed,.dct (b9 S),.dct (cI S),h3,h4,h5,h6,h7,h8,fE k o r u st]):R n "is_used" [.ref 0,.ref 9,aI s,.int 5] [b4 seed,.dct (b9 S),.dct (cI S),h3,h4,h5,h6,h7,h8,fE k o r u st] K:=by
 obtain⟨n,rfl⟩:=aU hn
 unfold jR at h
 refine cL (by lia) hs ?_
 symm
 induction e:jK S (turn s)using Option.casesOn with
 |none=>
   rw[e]at h
   refine i6 (by lia) hS hl (bH hs) e ?_
   exact h
 |some p=>
   obtain⟨tk,i⟩:=p
   rw[e]at h
   refine jH (by lia) hS hN hl (bH hs) e ?_
   symm
   rw[oQ (hk tk (AO e).1)]
   exact h
noncomputable def mn (m:Bool):Str:=match m with|true=>"src"|false=>"dst"
noncomputable def po (m:Bool) (s:Sd):Int:=if m=true\/s.pr=1 then s.sp else s.dp
noncomputable def ad (m:Bool) (s:Sd):Int:=match m with|true=>s.so|false=>s.ta
noncomputable def bV (m:Bool) (s:Sd) (p:Int):Sd:=if m=true\/s.pr=1 then{ s with sp:=p }else{ s with dp:=p }
noncomputable def cK (m:Bool) (s:Sd) (a:Int):Sd:=match m with|true=>{ s with so:=a }|false=>{ s with ta:=a }
theorem AQ(hn:2<=n){m:Bool}(ho:s.Ok)(h:K (.int (po m s)) H):R n "port_of" [aI s,.str (mn m)] H K:=by
 obtain⟨n,rfl⟩:=DO hn
 obtain⟨pr,so,sp,ta,dp⟩:=s
 obtain⟨p1,-⟩:=ho
 rcases p1 with p1|p1|p1<;>simp only at p1<;>subst p1<;>rcases m<;>(conv=>whnf)<;>exact h
theorem yJ(hn:2<=n){m:Bool}(h:K (.int (ad m s)) H):R n "address_of" [aI s,.str (mn m)] H K:=by
 obtain⟨n,rfl⟩:=DO hn
 rcases m<;>(conv=>whnf)<;>exact h
theorem E2(hn:2<=n){m:Bool}{a:Int}(h:K (aI (cK m s a)) H):R n "with_address" [aI s,.str (mn m),.int a] H K:=by
 obtain⟨n,rfl⟩:=DO hn
 rcases m<;>(conv=>whnf)<;>exact h
theorem FT(hn:2<=n){m:Bool}{p:Int}(ho:s.Ok)(h:K (aI (bV m s p)) H):R n "with_port" [aI s,.str (mn m),.int p] H K:=by
 obtain⟨n,rfl⟩:=DO hn
 obtain⟨pr,so,sp,ta,dp⟩:=s
 obtain⟨p1,-⟩:=ho
 rcases p1 with p1|p1|p1<;>simp only at p1<;>subst p1<;>rcases m<;>(conv=>whnf)<;>exact h
theorem z7(hn:2<=n)(ho:s.Ok)(h:K (.bool true) H):R n "has_port" [aI s] H K:=by
 obtain⟨n,rfl⟩:=DO hn
 obtain⟨pr,so,sp,ta,dp⟩:=s
 obtain⟨p1,-⟩:=ho
 rcases p1 with p1|p1|p1<;>simp only at p1<;>subst p1<;>(conv=>whnf)<;>exact h
theorem fD(hn:1<=n){m:Bool}(h:K (.int (match m with|true=>128|false=>256)) H):R n "done_bit" [.str (mn m)] H K:=by
 obtain⟨n,rfl⟩:=aU hn
 rcases m<;>(conv=>whnf)<;>exact h
noncomputable def O2 (p q:Int):V:=.tup [.int p,.int q]
noncomputable def lT (p q x:Int):Bool:=decide (p<=x)&&decide (x<=q)
theorem oY(hn:3<=n){m:Bool}{p q:Int}(ho:s.Ok)(h:K (.bool (lT p q (po m s))) H):R n "port_fits" [aI s,.str (mn m),O2 p q] H K:=by
 obtain⟨n,rfl⟩:=aU hn
 unfold lT at h
 refine z7 (by lia) ho ?_
 refine AQ (by lia) ho ?_
 symm
 by_cases c:p<=po m s
 ·rw[dT c]at h
  refine gm (dT c) ?_
  exact h
 ·rw[dF c]at h
  with_reducible refine gL (dF c) ?_
  exact h
noncomputable def iF:Option (Int×Int)->V
 |none=>.none
 |some (p,q)=>O2 p q
noncomputable def QR:Option (Int×Int)->V
 |none=>.none
 |some (p,_)=>.int p
noncomputable def QQ:Option (Int×Int)->V
 |none=>.none
 |some (_,q)=>.int q
noncomputable def iE (kind:Str) (fam:Int) (sp po:Option (Int×Int)) (fl:List V):V:=.tup [.str kind,.int fam,QR sp,QQ sp,iF po,.tup fl]
structure Fl (fl:List V) (rnd per net:Bool):Prop where
 o1:dI (.str "random") fl=true
 o2:dI (.str "persistent") fl=true
 o3:dI (.str "netmap") fl=true
 i1:qM (.str "random") fl=rnd
 i2:qM (.str "persistent") fl=per
 i3:qM (.str "netmap") fl=net
theorem nV(hn:1<=n){kind:Str}{fam:Int}{sp po:Option (Int×Int)}{fl:List V}(h:K (iF sp) H):R n "span_of_request" [iE kind fam sp po fl] H K:=by
 obtain⟨n,rfl⟩:=aU hn
 rcases sp with _|⟨p,q⟩<;>(conv=>whnf)<;>exact h
noncomputable def d7 (m:Bool) (s:Sd):Option (Int×Int)->Option (Int×Int)
 |some p=>some p
 |none=>if s.pr=1 then some (0,65535)else match m with
   |false=>none
   |true=>if s.sp<512 then some (1,511)else if s.sp<1024 then some (600,1023)else some (1024,65535)
theorem FO(hn:3<=n){m:Bool}{s:Sd}{kind:Str}{fam:Int}{sp po:Option (Int×Int)}{fl:List V}(ho:s.Ok)(hp:∀p q,po=some (p,q)->p<=q)(h:K (iF (d7 m s po)) H):R n "port_span" [aI s,.str (mn m),iE kind fam sp po fl] H K:=by
 obtain⟨n,rfl⟩:=aU hn
 refine z7 (by lia) ho ?_
 symm
 rcases po with _|⟨p,q⟩
 ·symm
  obtain⟨n,rfl⟩:∃m,n=m+1:=⟨n-1,by lia⟩
  obtain⟨pr,so,sp,ta,dp⟩:=s
  obtain⟨p1,-⟩:=ho
  rcases p1 with p1|p1|p1<;>simp only at p1<;>subst p1<;>rcases m
  ·exact h
  ·symm
   simp only[d7]at h
   rw[if_neg (by decide)]at h
   by_cases c:sp<512
   ·rw[if_pos c]at h
    refine gm (dT c) ?_
    exact h
   rw[if_neg c]at h
   with_reducible refine gL (dF c) ?_
   symm
   by_cases c:sp<1024
   ·rw[if_pos c]at h
    refine gm (dT c) ?_
    exact h
   rw[if_neg c]at h
   with_reducible refine gL (dF c) ?_
   exact h
  ·exact h
  ·symm
   simp only[d7]at h
   rw[if_neg (by decide)]at h
   by_cases c:sp<512
   ·rw[if_pos c]at h
    refine gm (dT c) ?_
    exact h
   rw[if_neg c]at h
   with_reducible refine gL (dF c) ?_
   symm
   by_cases c:sp<1024
   ·rw[if_pos c]at h
    refine gm (dT c) ?_
    exact h
   rw[if_neg c]at h
   with_reducible refine gL (dF c) ?_
   exact h
  ·exact h
  ·exact h
 ·symm
  rw[dT (hp p q rfl)]
  exact h
theorem O5(hn:4<=n){m:Bool}{s:Sd}{kind:Str}{fam:Int}{sp pt:Option (Int×Int)}{fl:List V}(ho:s.Ok)(h:K (.bool ((match sp with|none=>true|some (a,b)=>lT a b (ad m s))&&(match pt with|none=>true|some (a,b)=>lT a b (po m s)))) H):R n "in_range" [aI s,.str (mn m),iE kind fam sp pt fl] H K:=by
 obtain⟨n,rfl⟩:=aU hn
 symm
 refine nV (by lia) ?_
 symm
 rcases sp with _|⟨a,b⟩
 ·rcases pt with _|⟨c,e⟩
  ·exact h
  ·refine oY (by lia) ho ?_
   exact h
 ·refine yJ (by lia) ?_
  symm
  by_cases c1:a<=ad m s
  ·by_cases c2:ad m s<=b
   ·rw[dT c1]
    symm
    rw[dT c2]
    symm
    have e:lT a b (ad m s)=true:=aG (dT c1) (dT c2)
    simp only[e]at h
    rcases pt with _|⟨c,e⟩
    ·exact h
    ·refine oY (by lia) ho ?_
     exact h
   ·rw[dT c1]
    symm
    rw[dF c2]
    symm
    have e:lT a b (ad m s)=false:=by unfold lT;rw[dF c2];simp
    simp only[e,Bool.false_and]at h
    exact h
  ·with_reducible refine gL (dF c1) ?_
   symm
   have e:lT a b (ad m s)=false:=by unfold lT;rw[dF c1];rfl
   simp only[e,Bool.false_and]at h
   exact h
theorem yU(x:Int):fB (o4 x):=by
 intro y hy;simp only[o4,List.mem_cons,List.not_mem_nil,or_false]at hy
 rcases hy with rfl|rfl|rfl|rfl<;>exact e6 _
theorem r6(hn:3<=n){m:Bool}{s:Sd}{kind:Str}{fam:Int}{pt:Option (Int×Int)}{fl:List V}{b:V}(h:K (.int (ad m s)) H):R n "pick_address" [b,aI s,.str (mn m),iE kind fam none pt fl] H K:=by
 obtain⟨n,rfl⟩:=aU hn
 symm
 refine nV (by lia) ?_
 refine yJ (by lia) ?_
 exact h
theorem JI(hn:4<=n){m:Bool}{s:Sd}{kind:Str}{fam lo hi seed:Int}{pt:Option (Int×Int)}{fl:List V}{rnd per:Bool}{t:Hp}(ho:s.Ok)(hf:Fl fl rnd per false)(hlo:lo<=hi/\hi-lo<90000)
  (h:∀a,lo<=a->a<=hi->K (.int a) (b4 seed::t)):R n "pick_address" [.ref 0,aI s,.str (mn m),iE kind fam (some (lo,hi)) pt fl] (b4 seed::t) K:=by
 obtain⟨n,rfl⟩:=aU hn
 symm
 refine nV (by lia) ?_
 symm
 refine gm (hf.o3) ?_
 symm
 rw[hf.i3]
 symm
 by_cases c:lo=hi
 ·rw[aB,dT c]
  exact h lo (by lia) (by lia)
 rw[aB,dF c]
 refine qJ (by lia) ho.so.1 ho.so.2 ?_
 symm
 refine gm (hf.o2) ?_
 symm
 rw[hf.i2]
 symm
 rcases per
 ·symm
  refine qJ (by lia) ho.ta.1 ho.ta.2 ?_
  refine pZ (l:=o4 s.so++o4 s.ta) (by lia) ⟨by simp[o4],by simp[o4]⟩ (by intro x hx;rcases List.mem_append.mp hx with q|q<;>exact yU _ _ q) λr hr=>?_
  symm
  refine lZ (by lia) hr ⟨by lia,by lia⟩ λa ha=>?_
  exact h _ (by lia) (by lia)
 ·symm
  refine pZ (l:=o4 s.so) (by lia) ⟨by simp[o4],by simp[o4]⟩ (yU _) λr hr=>?_
  symm
  refine lZ (by lia) hr ⟨by lia,by lia⟩ λa ha=>?_
  exact h _ (by lia) (by lia)
structure w5 (S:List Tk) (k:Int):Prop where
 ok:∀t∈S,t.Ok
 nd:Nd S
 len:S.length<=3
 ne:∀t∈S,t.n≠k
noncomputable abbrev HB (seed:Int) (S:List Tk) (h3 h4 h5 h6 h7 h8:V) (k:Int) (o r:V) (u st:Int):Hp:=[b4 seed,.dct (b9 S),.dct (cI S),h3,h4,h5,h6,h7,h8,fE k o r u st]
theorem nK{m:Bool}{p:Int}(ho:s.Ok)(hp:0<=p/\p<65536):(bV m s p).Ok:=by
 unfold bV;split
 ·exact⟨ho.1,ho.2,hp,ho.4,ho.5,ho.6⟩
 ·rename_i h
  exact⟨ho.1,ho.2,ho.3,ho.4,hp,λq=>absurd (.inr q) h⟩
theorem jB{m:Bool}{a:Int}(ho:s.Ok)(hp:0<=a/\a<4294967296):(cK m s a).Ok:=by
 rcases m
 ·exact⟨ho.1,ho.2,ho.3,hp,ho.5,ho.6⟩
 ·exact⟨ho.1,hp,ho.3,ho.4,ho.5,ho.6⟩
theorem jF(m:Bool)(s:Sd):bV m s (po m s)=s:=by unfold bV po;split<;>rfl
theorem nT(m:Bool)(s:Sd):cK m s (ad m s)=s:=by rcases m<;>rfl
theorem tF(m:Bool)(s:Sd)(a:Int):po m (cK m s a)=po m s:=by rcases m<;>rfl
noncomputable def kp (S:List Tk) (m:Bool) (s:Sd):Option (Int×Int)->Bool
 |none=> !jR S s
 |some (p,q)=>lT p q (po m s)&&(decide (p=q)|| !jR S s)
section
variable {m:Bool}{s:Sd}{kind:Str}{fam seed k u st:Int}{sp pt:Option (Int×Int)}{fl:List V}{S:List Tk}{h3 h4 h5 h6 h7 h8 o r:V}
theorem E9(hn:4<=n)(ho:s.Ok)(hS:w5 S k)(h:K (.bool (kp S m s pt)) (HB seed S h3 h4 h5 h6 h7 h8 k o r u st)):R n "keeps_port" [.ref 0,.ref 9,aI s,.str (mn m),iE kind fam sp pt fl,.int 5] (HB seed S h3 h4 h5 h6 h7 h8 k o r u st) K:=by
 obtain⟨n,rfl⟩:=aU hn
 rcases pt with _|⟨p,q⟩
 ·symm
  refine nL (by lia) hS.ok hS.nd hS.len ho hS.ne ?_
  exact h
 ·refine oY (by lia) ho ?_
  symm
  simp only[kp]at h
  rcases e:lT p q (po m s)
  ·rw[e]at h
   exact h
  rw[e,Bool.true_and]at h
  symm
  by_cases c:p=q
  ·rw[dT c]at h
   rw[aB,dT c]
   exact h
  rw[dF c,Bool.false_or]at h
  rw[aB,dF c]
  refine nL (by lia) hS.ok hS.nd hS.len ho hS.ne ?_
  exact h
theorem HH(hn:4<=n){lo hi:Int}{rnd:Bool}(ho:s.Ok)(hlh:lo<=hi/\hi-lo<90000)(h:∀b,0<=b->b<hi-lo+1->K (.int b) (b4 seed::t)):R n "first_place" [.ref 0,aI s,.str (mn m),O2 lo hi,.bool rnd] (b4 seed::t) K:=by
 obtain⟨n,rfl⟩:=aU hn
 rcases rnd
 ·symm
  refine AQ (by lia) ho ?_
  symm
  refine gm (dT (by lia)) ?_
  symm
  rw[fmod_eq (by lia)]
  exact h _ (Int.emod_nonneg _ (by lia)) (Int.emod_lt_of_pos _ (by lia))
 ·symm
  refine qJ (by lia) ho.so.1 ho.so.2 ?_
  refine qJ (by lia) ho.ta.1 ho.ta.2 ?_
  symm
  have hd:0<=wK s/\wK s<65536:=by
   unfold wK;split
   ·have:=ho.ic (by assumption);lia
   ·exact ho.dp
  refine jP (by lia) hd.1 hd.2 ?_
  refine pZ (l:=o4 s.so++o4 s.ta++o2 (wK s)) (by lia) ⟨by simp[o4],by simp[o4,o2]⟩ (by
   intro x hx
   rcases List.mem_append.mp hx with q|q
   ·rcases List.mem_append.mp q with q|q<;>exact yU _ _ q
   ·simp only[o2,List.mem_cons,List.not_mem_nil,or_false]at q
    rcases q with rfl|rfl<;>exact e6 _) λr hr=>?_
  refine lZ (by lia) hr ⟨by lia,by lia⟩ λa ha=>?_
  exact h _ ha.1 ha.2
end
noncomputable abbrev xC (s:Sd) (m rnd:Bool) (lo hi b:Int) (x:V) (j:Int):aR:=[("book",.ref 0),("talk",.ref 9),("t",aI s),("manip",.str (mn m)),("span",O2 lo hi),("is_random",.bool rnd),("now",.int 5),("low",.int lo),("high",.int hi),("many",.int (hi-lo+1)),("begin",.int b),("tried",x),("step",.int j)]
noncomputable abbrev NC:Stmt:=((fnX "free_port").body.drop 4).headD (.Pass default)
noncomputable abbrev yD:List Stmt:=match NC with| .For _ _ b _ _=>b|_=>[]
noncomputable abbrev SV:Expr:=match NC with| .For t _ _ _ _=>t|_=>.Constant .none 0 default
section
variable {m:Bool}{s:Sd}{seed k u st:Int}{S:List Tk}{h3 h4 h5 h6 h7 h8 o r:V}
theorem AJ(hn:4<=n){rnd:Bool}{lo hi b j:Int}{x:V}{kk:aR->Hp->Prop}(ho:s.Ok)(hS:w5 S k)(hlh:lo<=hi/\hi-lo<90000)(hlo:0<=lo/\hi<65536)
  (hr:jR S (bV m s (lo+(b+j)%(hi-lo+1)))=false->K (aI (bV m s (lo+(b+j)%(hi-lo+1)))) (HB seed S h3 h4 h5 h6 h7 h8 k o r u st))
  (hk:jR S (bV m s (lo+(b+j)%(hi-lo+1)))=true->kk (xC s m rnd lo hi b (aI (bV m s (lo+(b+j)%(hi-lo+1)))) j) (HB seed S h3 h4 h5 h6 h7 h8 k o r u st)):
  eO False And aN (run False And aN top n) yD ⟨(fnX "free_port").sc,xC s m rnd lo hi b x j,[]⟩ (HB seed S h3 h4 h5 h6 h7 h8 k o r u st) kk K:=by
 symm
 refine gm (dT (by lia)) ?_
 symm
 rw[fmod_eq (by lia)]
 have q1:=Int.emod_nonneg (b+j) (show hi-lo+1≠0 by lia)
 have q2:=Int.emod_lt_of_pos (b+j) (show 0<hi-lo+1 by lia)
 obtain⟨p,ep⟩:∃p,p=lo+(b+j)%(hi-lo+1):=⟨_,rfl⟩
 rw[<-ep]at hr hk ⊢
 refine FT (by lia) ho ?_
 symm
 refine nL (by lia) hS.ok hS.nd hS.len (nK ho (by lia)) hS.ne ?_
 symm
 rcases e:jR S (bV m s p)
 ·exact hr e
 ·exact hk e
end
section
variable {m:Bool}{s:Sd}{seed k u st:Int}{S:List Tk}{h3 h4 h5 h6 h7 h8 o r:V}
noncomputable abbrev PY (n:Nat) (vs:List V) (rho:aR) (H:Hp) (kk:aR->Hp->Prop) (K:V->Hp->Prop):Prop:=forL False (fnX "free_port").sc (λrho H k r=>eO False And aN (run False And aN top n) yD ⟨(fnX "free_port").sc,rho,[]⟩ H k r) SV (jT False none 10) vs rho H kk K
theorem JG(hn:4<=n){rnd:Bool}{lo hi b:Int}{kk:aR->Hp->Prop}(ho:s.Ok)(hS:w5 S k)(hlh:lo<=hi/\hi-lo<90000)(hlo:0<=lo/\hi<65536)(js:List Int)
  (hr:∀j∈js,jR S (bV m s (lo+(b+j)%(hi-lo+1)))=false->K (aI (bV m s (lo+(b+j)%(hi-lo+1)))) (HB seed S h3 h4 h5 h6 h7 h8 k o r u st)) (x:V) (j0:Int)
  (hk:(∀j∈js,jR S (bV m s (lo+(b+j)%(hi-lo+1)))=true)->∀y j,(js=[]->y=x)->(∀i:Int,js.getLast? =some i->y=aI (bV m s (lo+(b+i)%(hi-lo+1))))->kk (xC s m rnd lo hi b y j) (HB seed S h3 h4 h5 h6 h7 h8 k o r u st)):
  PY n (js.map .int) (xC s m rnd lo hi b x j0) (HB seed S h3 h4 h5 h6 h7 h8 k o r u st) kk K:=by
 induction js generalizing x j0 with
 |nil=>exact hk (by simp) x j0 (λ_=>rfl) (by simp)
 |cons j js ih=>
   have e:bL (fnX "free_port").sc (HB seed S h3 h4 h5 h6 h7 h8 k o r u st) (xC s m rnd lo hi b x j0) SV (.int j)=some (xC s m rnd lo hi b x j):=by kernel_rfl
   refine ob e ?_
   refine AJ hn ho hS hlh hlo (hr j (by simp)) λhu=>?_
   refine ih (λi hi=>hr i (by simp[hi])) _ j λhall y j' hy hy2=>?_
   refine hk ?_ y j' (by simp) ?_
   ·intro i hi
    rcases List.mem_cons.mp hi with rfl|hi
    ·exact hu
    ·exact hall i hi
   ·intro i hi
    induction js using List.casesOn with
    |nil=>simp at hi;subst hi;exact hy rfl
    |cons a b=>exact hy2 i (by simpa using hi)
theorem L1(hn:6<=n){rnd:Bool}{lo hi:Int}(ho:s.Ok)(hS:w5 S k)(hlh:lo<=hi/\hi-lo<90000)(hlo:0<=lo/\hi<65536)
  (h:∀p b,lo<=p->p<=hi->0<=b->b<hi-lo+1->(jR S (bV m s p)=false\/∀j:Int,0<=j->j<hi-lo+1->j<128->jR S (bV m s (lo+(b+j)%(hi-lo+1)))=true)->K (aI (bV m s p)) (HB seed S h3 h4 h5 h6 h7 h8 k o r u st)):
  R n "free_port" [.ref 0,.ref 9,aI s,.str (mn m),O2 lo hi,.bool rnd,.int 5] (HB seed S h3 h4 h5 h6 h7 h8 k o r u st) K:=by
 obtain⟨n,rfl⟩:=aU hn
 refine HH (by lia) ho hlh λb hb hb2=>?_
 have hb3:∀j:Int,0<=(b+j)%(hi-lo+1)/\(b+j)%(hi-lo+1)<hi-lo+1:=λj=>⟨Int.emod_nonneg _ (by lia),Int.emod_lt_of_pos _ (by lia)⟩
 obtain⟨N,hN⟩:∃N:Nat,(N:Int)=if 128<hi-lo+1 then 128 else hi-lo+1:=⟨(if 128<hi-lo+1 then 128 else hi-lo+1).toNat,by split<;>lia⟩
 have hN1:1<=N/\N<=128:=by split at hN<;>lia
 apply cN (B:=builtin False "min" [.int (hi-lo+1),.int 128] (HB seed S h3 h4 h5 h6 h7 h8 k o r u st) false λd H=>builtin False "range" [d] H false λd H=>opt False (tL d) λvs=>forL False (fnX "free_port").sc (λrho H k r=>eO False And aN (run False And aN top n) yD ⟨(fnX "free_port").sc,rho,[]⟩ H k r) SV (jT False none H.length) vs [("book",.ref 0),("talk",.ref 9),("t",aI s),("manip",.str (mn m)),("span",O2 lo hi),("is_random",.bool rnd),("now",.int 5),("low",.int lo),("high",.int hi),("many",.int (hi-lo+1)),("begin",.int b),("tried",aI s)] H (λrho H=>eO False And aN (run False And aN top n) ((fnX "free_port").body.drop 5) ⟨(fnX "free_port").sc,rho,[]⟩ H (λ_ H=>K .none H) K) K)
 ·kernel_rfl
 have e1:∀(H:Hp) (k:V->Hp->Prop),k (.int N) H->builtin False "min" [.int (hi-lo+1),.int 128] H false k:=by
  intro H k hk
  symm
  by_cases c:128<hi-lo+1
  ·rw[dT c];rw[if_pos c]at hN;rw[hN]at hk;exact hk
  ·rw[dF c];rw[if_neg c]at hN;rw[hN]at hk;exact hk
 refine e1 _ _ ?_
 have e2:∀(H:Hp) (k:V->Hp->Prop),k (.rng 0 N 1) H->builtin False "range" [.int N] H false k:=by
  intro H k hk
  exact gd (nJ (by lia) (by lia)) hk
 refine e2 _ _ ?_
 have e3:tL (.rng 0 N 1)=some (((List.range N).map λ(i:Nat)=>(i:Int)).map .int):=by
  show some ((cF 0 N 1).map V.int)=_
  rw[AB]
 refine ob e3 ?_
 obtain⟨M,rfl⟩:∃M,N=M+1:=⟨N-1,by lia⟩
 have e4:(List.range (M+1)).map (λ(i:Nat)=>(i:Int))=0::(List.range M).map λ(i:Nat)=>(i:Int)+1:=by
  rw[List.range_succ_eq_map];simp[Function.comp_def]
 have mem:∀j:Int,(j=0\/j∈(List.range M).map λ(i:Nat)=>(i:Int)+1)↔0<=j/\j<M+1:=by
  intro j
  simp only[List.mem_map,List.mem_range]
  constructor
  ·rintro(rfl|⟨i,hi,rfl⟩)<;>lia
  ·rintro⟨a1,a2⟩
   by_cases c:j=0
   ·exact .inl c
   ·exact .inr ⟨(j-1).toNat,by lia,by lia⟩
 rw[e4]
 have e:bL (fnX "free_port").sc (HB seed S h3 h4 h5 h6 h7 h8 k o r u st) [("book",.ref 0),("talk",.ref 9),("t",aI s),("manip",.str (mn m)),("span",O2 lo hi),("is_random",.bool rnd),("now",.int 5),("low",.int lo),("high",.int hi),("many",.int (hi-lo+1)),("begin",.int b),("tried",aI s)] SV (.int 0)=some (xC s m rnd lo hi b (aI s) 0):=by kernel_rfl
 refine ob e ?_
 have good:∀j:Int,jR S (bV m s (lo+(b+j)%(hi-lo+1)))=false->K (aI (bV m s (lo+(b+j)%(hi-lo+1)))) (HB seed S h3 h4 h5 h6 h7 h8 k o r u st):=by
  intro j hj
  have:=hb3 j
  exact h _ b (by lia) (by lia) hb hb2 (.inl hj)
 refine AJ (by lia) ho hS hlh hlo (good 0) λhu0=>?_
 refine JG (by lia) ho hS hlh hlo _ (λj _=>good j) _ 0 λhall y j' hy hy2=>?_
 have all:∀j:Int,0<=j->j<hi-lo+1->j<128->jR S (bV m s (lo+(b+j)%(hi-lo+1)))=true:=by
  intro j j0 j1 j2
  rcases(mem j).mpr ⟨j0,by split at hN<;>lia⟩with rfl|hj
  ·exact hu0
  ·exact hall j hj
 have fin:∃j:Int,y=aI (bV m s (lo+(b+j)%(hi-lo+1))):=by
  induction c:((List.range M).map λ(i:Nat)=>(i:Int)+1).getLast? using Option.casesOn with
  |none=>exact⟨0,hy (List.getLast?_eq_none_iff.mp c)⟩
  |some i=>exact⟨i,hy2 i c⟩
 obtain⟨j,rfl⟩:=fin
 symm
 have:=hb3 j
 exact h _ b (by lia) (by lia) hb hb2 (.inr all)
end
noncomputable def GV (m:Bool) (s:Sd) (sp pt:Option (Int×Int)):Bool:=(match sp with|none=>true|some (a,b)=>lT a b (ad m s))&&(match pt with|none=>true|some (a,b)=>lT a b (po m s))
theorem MJ(hn:4<=n){m:Bool}{s:Sd}{kind:Str}{fam:Int}{sp pt:Option (Int×Int)}{fl:List V}(ho:s.Ok)(h:K (.bool (GV m s sp pt)) H):R n "in_range" [aI s,.str (mn m),iE kind fam sp pt fl] H K:=by
 refine O5 hn ho ?_
 rcases sp with _|⟨a,b⟩<;>rcases pt with _|⟨c,e⟩<;>exact h
structure PP (m:Bool) (S:List Tk) (s:Sd) (pt:Option (Int×Int)) (rnd:Bool) (p:Int):Prop where
 ok:0<=p/\p<65536
 told:∀a b,pt=some (a,b)->a<=p/\p<=b
 free:pt=none->p=po m s\/∃lo hi,d7 m s none=some (lo,hi)/\lo<=p/\p<=hi
 kept:rnd=false->(∀a b,pt=some (a,b)->lT a b (po m s)=true)->jR S s=false->p=po m s
 full:m=true->jR S (bV m s p)=true->(∃a,pt=some (a,a))\/∃lo hi b,d7 m s pt=some (lo,hi)/\0<=b/\b<hi-lo+1/\∀j:Int,0<=j->j<hi-lo+1->j<128->jR S (bV m s (lo+(b+j)%(hi-lo+1)))=true
theorem A0{m:Bool}(ho:s.Ok):0<=po m s/\po m s<65536:=by unfold po;split;exact ho.sp;exact ho.dp
theorem DV{a b:Bool}(h:(a&&b)=true):a=true/\b=true:=Bool.and_eq_true_iff.mp h
theorem A2{p q x:Int}(h:lT p q x=true):p<=x/\x<=q:=⟨of_decide_eq_true (DV h).1,of_decide_eq_true (DV h).2⟩
theorem B7{m:Bool}{lo hi:Int}(h:d7 m s none=some (lo,hi)):lo<=hi/\0<=lo/\hi<65536:=by
 have g:∀a b:Int,(a<=b/\0<=a/\b<65536)->some (a,b)=some (lo,hi)->lo<=hi/\0<=lo/\hi<65536:=λa b g e=>by
  obtain⟨rfl,rfl⟩:=Prod.mk.inj (Option.some.inj e);exact g
 unfold d7 at h
 dsimp only at h
 by_cases c:s.pr=1
 ·rw[if_pos c]at h;exact g _ _ (by decide) h
 ·rw[if_neg c]at h
  rcases m
  ·exact iK h
  ·dsimp only at h
   by_cases c:s.sp<512
   ·rw[if_pos c]at h;exact g _ _ (by decide) h
   ·rw[if_neg c]at h
    by_cases c:s.sp<1024
    ·rw[if_pos c]at h;exact g _ _ (by decide) h
    ·rw[if_neg c]at h;exact g _ _ (by decide) h
theorem k7{m:Bool}(hpt:∀a b,pt=some (a,b)->a<=b/\0<=a/\b<65536){lo hi:Int}(h:d7 m s pt=some (lo,hi)):lo<=hi/\0<=lo/\hi<65536:=by
 rcases pt with _|p
 ·exact B7 h
 ·exact hpt lo hi h
theorem yE(s:Sd):d7 true s none≠none:=by
 unfold d7
 dsimp only
 by_cases c:s.pr=1
 ·rw[if_pos c];exact λq=>NL q
 ·rw[if_neg c]
  by_cases c:s.sp<512
  ·rw[if_pos c];exact λq=>NL q
  ·rw[if_neg c]
   by_cases c:s.sp<1024
   ·rw[if_pos c];exact λq=>NL q
   ·rw[if_neg c];exact λq=>NL q
section
variable {m:Bool}{s:Sd}{S:List Tk}{pt sp:Option (Int×Int)}{rnd:Bool}
theorem JY(ho:s.Ok)(e:d7 m s pt=none):PP m S s pt rnd (po m s):=by
 rcases pt with _|p
 ·exact⟨A0 ho,λa b q=>iK q,λ_=>.inl rfl,λ_ _ _=>rfl,λq _=>absurd (q▸e) (yE s)⟩
 ·exact NL e
theorem QK{b:Bool}(q:b=true\/kp S m s pt=false)(q1:b=false)(q2:∀a b,pt=some (a,b)->lT a b (po m s)=true)(q3:jR S s=false){P:Prop}:P:=by
 rcases q with q|q
 ·exact mN (q.symm.trans q1)
 ·rcases pt with _|⟨a,c⟩
  ·have:(!jR S s)=false:=q
   rw[q3]at this;exact mN this
  ·have:(lT a c (po m s)&&(decide (a=c)|| !jR S s))=false:=q
   rw[q2 a c rfl,q3,Bool.not_false,Bool.or_true]at this
   exact mN this
theorem I4{lo hi p b:Int}(hb:lo<=hi/\0<=lo/\hi<65536)(e:d7 m s pt=some (lo,hi))(p1:lo<=p)(p2:p<=hi)(b1:0<=b)(b2:b<hi-lo+1)(hnk:rnd=true\/kp S m s pt=false)
  (hu:jR S (bV m s p)=false\/∀j:Int,0<=j->j<hi-lo+1->j<128->jR S (bV m s (lo+(b+j)%(hi-lo+1)))=true):PP m S s pt rnd p:=by
 refine⟨⟨Int.le_trans hb.2.1 p1,Int.lt_of_le_of_lt p2 hb.2.2⟩,λa c q=>?_,λq=>?_,λq1 q2 q3=>QK hnk q1 q2 q3,λ_ q2=>?_⟩
 ·rw[q]at e
  obtain⟨rfl,rfl⟩:=Prod.mk.inj (Option.some.inj e);exact⟨p1,p2⟩
 ·rw[q]at e;exact .inr ⟨lo,hi,e,p1,p2⟩
 ·exact .inr ⟨lo,hi,b,e,b1,b2,hu.resolve_left λq=>mN (q2.symm.trans q)⟩
theorem LL(ho:s.Ok)(ek:kp S m s pt=true):PP m S s pt rnd (po m s):=by
 rcases pt with _|⟨a,b⟩
 ·refine⟨A0 ho,λa b q=>iK q,λ_=>.inl rfl,λ_ _ _=>rfl,λ_ q2=>?_⟩
  rw[jF]at q2
  have:(!jR S s)=true:=ek
  rw[q2]at this;exact nE this
 ·have ek:=DV (show(lT a b (po m s)&&(decide (a=b)|| !jR S s))=true from ek)
  refine⟨A0 ho,λa b q=>?_,λq=>NL q,λ_ _ _=>rfl,λ_ q2=>?_⟩
  ·obtain⟨rfl,rfl⟩:=Prod.mk.inj (Option.some.inj q);exact A2 ek.1
  ·rw[jF]at q2
   have e2:=ek.2
   rw[q2,Bool.not_true,Bool.or_false]at e2
   obtain rfl:=of_decide_eq_true e2
   exact .inl ⟨_,rfl⟩
theorem SF(ho:s.Ok)(e3:GV m s sp pt=true)(e4:jR S s=false):PP m S s pt rnd (po m s):=by
 refine⟨A0 ho,λa b q=>?_,λ_=>.inl rfl,λ_ _ _=>rfl,λ_ q2=>?_⟩
 ·have:=(DV e3).2
  rw[q]at this
  exact A2 this
 ·rw[jF,e4]at q2;exact nE q2
theorem QX(e3:GV m s sp pt=true):∀a b,sp=some (a,b)->lT a b (ad m s)=true:=λa b q=>by
 have:=(DV e3).1
 rw[q]at this
 exact this
end
section
variable {m:Bool}{s:Sd}{kind:Str}{fam seed k u st:Int}{sp pt:Option (Int×Int)}{fl:List V}{rnd per net:Bool}{S:List Tk}{h3 h4 h5 h6 h7 h8 o r:V}
theorem CW(hn:7<=n){A:Int->Prop}(ho:s.Ok)(hS:w5 S k)(hf:Fl fl rnd per net)(hpt:∀a b,pt=some (a,b)->a<=b/\0<=a/\b<65536)(hA:∀a,A a->0<=a/\a<4294967296)
  (hpa:∀(j:Nat) (K:V->Hp->Prop),6<=j->(∀a,A a->K (.int a) (HB seed S h3 h4 h5 h6 h7 h8 k o r u st))->R j "pick_address" [.ref 0,aI s,.str (mn m),iE kind fam sp pt fl] (HB seed S h3 h4 h5 h6 h7 h8 k o r u st) K)
  (h:∀a p,A a->PP m S (cK m s a) pt rnd p->K (aI (bV m (cK m s a) p)) (HB seed S h3 h4 h5 h6 h7 h8 k o r u st)):
  seg n "pick" 2 [("book",.ref 0),("talk",.ref 9),("t",aI s),("manip",.str (mn m)),("request",iE kind fam sp pt fl),("now",.int 5),("is_random",.bool rnd)] (HB seed S h3 h4 h5 h6 h7 h8 k o r u st) K:=by
 refine hpa n _ (by lia) λa ha=>?_
 refine E2 (by lia) ?_
 obtain⟨s1,e1⟩:∃s1,s1=cK m s a:=⟨_,rfl⟩
 have ho1:s1.Ok:=by rw[e1];exact jB ho (hA a ha)
 have h:=λp=>h a p ha
 rw[<-e1]at h ⊢
 apply cN (B:=seg n "pick" 3 [("book",.ref 0),("talk",.ref 9),("t",aI s1),("manip",.str (mn m)),("request",iE kind fam sp pt fl),("now",.int 5),("is_random",.bool rnd)] (HB seed S h3 h4 h5 h6 h7 h8 k o r u st) K)
 ·kernel_rfl
 have rest:(rnd=true\/kp S m s1 pt=false)->seg n "pick" 4 [("book",.ref 0),("talk",.ref 9),("t",aI s1),("manip",.str (mn m)),("request",iE kind fam sp pt fl),("now",.int 5),("is_random",.bool rnd)] (HB seed S h3 h4 h5 h6 h7 h8 k o r u st) K:=by
  intro hnk
  refine FO (by lia) ho1 (λa b e=>(hpt a b e).1) ?_
  symm
  rcases e:d7 m s1 pt with _|⟨lo,hi⟩
  ·symm
   have:=h (po m s1)
   rw[jF]at this
   exact this (JY ho1 e)
  ·symm
   have hb:=k7 hpt e
   exact L1 (by lia) ho1 hS ⟨hb.1,by lia⟩ hb.2 λp b p1 p2 b1 b2 hu=>h p (I4 hb e p1 p2 b1 b2 hnk hu)
 rcases er:rnd
 ·rw[er]at rest
  refine E9 (by lia) ho1 hS ?_
  symm
  rcases ek:kp S m s1 pt
  ·apply cN (B:=seg n "pick" 4 [("book",.ref 0),("talk",.ref 9),("t",aI s1),("manip",.str (mn m)),("request",iE kind fam sp pt fl),("now",.int 5),("is_random",.bool false)] (HB seed S h3 h4 h5 h6 h7 h8 k o r u st) K)
   ·kernel_rfl
   exact rest (.inr ek)
  ·symm
   have:=h (po m s1)
   rw[jF]at this
   exact this (LL ho1 ek)
 ·rw[er]at rest
  apply cN (B:=seg n "pick" 4 [("book",.ref 0),("talk",.ref 9),("t",aI s1),("manip",.str (mn m)),("request",iE kind fam sp pt fl),("now",.int 5),("is_random",.bool true)] (HB seed S h3 h4 h5 h6 h7 h8 k o r u st) K)
  ·kernel_rfl
  exact rest (.inl rfl)
theorem MR(hn:8<=n){A:Int->Prop}(ho:s.Ok)(hS:w5 S k)(hf:Fl fl rnd per net)(hpt:∀a b,pt=some (a,b)->a<=b/\0<=a/\b<65536)(hA:∀a,A a->0<=a/\a<4294967296)
  (hpa:∀(j:Nat) (K:V->Hp->Prop),6<=j->(∀a,A a->K (.int a) (HB seed S h3 h4 h5 h6 h7 h8 k o r u st))->R j "pick_address" [.ref 0,aI s,.str (mn m),iE kind fam sp pt fl] (HB seed S h3 h4 h5 h6 h7 h8 k o r u st) K)
  (hin:(∀a b,sp=some (a,b)->lT a b (ad m s)=true)->A (ad m s))
  (h:∀a p,A a->PP m S (cK m s a) pt rnd p->K (aI (bV m (cK m s a) p)) (HB seed S h3 h4 h5 h6 h7 h8 k o r u st)):
  R n "pick" [.ref 0,.ref 9,aI s,.str (mn m),iE kind fam sp pt fl,.int 5] (HB seed S h3 h4 h5 h6 h7 h8 k o r u st) K:=by
 obtain⟨n,rfl⟩:=aU hn
 have rest:=CW (n:=n) (by lia) ho hS hf hpt hA hpa h
 have hI:GV m s sp pt=true->jR S s=false->K (aI s) (HB seed S h3 h4 h5 h6 h7 h8 k o r u st):=by
  intro e3 e4
  have:=h (ad m s) (po m s) (hin (QX e3))
  rw[nT,jF]at this
  exact this (SF ho e3 e4)
 rcases m
 ·symm
  refine gm (hf.o1) ?_
  symm
  rw[hf.i1]
  apply cN (B:=seg n "pick" 2 [("book",.ref 0),("talk",.ref 9),("t",aI s),("manip",.str (mn false)),("request",iE kind fam sp pt fl),("now",.int 5),("is_random",.bool rnd)] (HB seed S h3 h4 h5 h6 h7 h8 k o r u st) K)
  ·kernel_rfl
  exact rest
 ·symm
  refine gm (hf.o1) ?_
  symm
  rw[hf.i1]
  rcases rnd
  ·refine MJ (by lia) ho ?_
   symm
   rcases e3:GV true s sp pt
   ·apply cN (B:=seg n "pick" 2 [("book",.ref 0),("talk",.ref 9),("t",aI s),("manip",.str (mn true)),("request",iE kind fam sp pt fl),("now",.int 5),("is_random",.bool false)] (HB seed S h3 h4 h5 h6 h7 h8 k o r u st) K)
    ·kernel_rfl
    exact rest
   ·refine nL (by lia) hS.ok hS.nd hS.len ho hS.ne ?_
    symm
    rcases e4:jR S s
    ·exact hI e3 e4
    ·apply cN (B:=seg n "pick" 2 [("book",.ref 0),("talk",.ref 9),("t",aI s),("manip",.str (mn true)),("request",iE kind fam sp pt fl),("now",.int 5),("is_random",.bool false)] (HB seed S h3 h4 h5 h6 h7 h8 k o r u st) K)
     ·kernel_rfl
     exact rest
  ·apply cN (B:=seg n "pick" 2 [("book",.ref 0),("talk",.ref 9),("t",aI s),("manip",.str (mn true)),("request",iE kind fam sp pt fl),("now",.int 5),("is_random",.bool true)] (HB seed S h3 h4 h5 h6 h7 h8 k o r u st) K)
   ·kernel_rfl
   exact rest
end
noncomputable def T8:Bool->Int|true=>16|false=>32
noncomputable def jW:Bool->Int|true=>128|false=>256
noncomputable def f9 (m ch:Bool) (st:Int):Int:=Builtin.bitOr (match ch with|true=>Builtin.bitOr st (T8 m)|false=>st) (jW m)
section
variable {m:Bool}{s:Sd}{kind:Str}{fam seed k u st:Int}{sp pt:Option (Int×Int)}{fl:List V}{rnd per net:Bool}{S:List Tk}{h3 h4 h5 h6 h7 h8 o r:V}
theorem lK(hn:9<=n){A:Int->Prop}(ho:s.Ok)(hS:w5 S k)(hf:Fl fl rnd per net)(hpt:∀a b,pt=some (a,b)->a<=b/\0<=a/\b<65536)(hA:∀a,A a->0<=a/\a<4294967296)
  (hpa:∀(j:Nat) (K:V->Hp->Prop),6<=j->(∀a,A a->K (.int a) (HB seed S h3 h4 h5 h6 h7 h8 k o (aI (turn s)) u st))->R j "pick_address" [.ref 0,aI s,.str (mn m),iE kind fam sp pt fl] (HB seed S h3 h4 h5 h6 h7 h8 k o (aI (turn s)) u st) K)
  (hin:(∀a b,sp=some (a,b)->lT a b (ad m s)=true)->A (ad m s))
  (h:∀a p,A a->PP m S (cK m s a) pt rnd p->K .none (HB seed S h3 h4 h5 h6 h7 h8 k o (aI (turn (bV m (cK m s a) p))) u (f9 m (!decide (bV m (cK m s a) p=s)) st))):
  R n "setup" [.ref 0,.ref 9,.str (mn m),iE kind fam sp pt fl,.int 5] (HB seed S h3 h4 h5 h6 h7 h8 k o (aI (turn s)) u st) K:=by
 obtain⟨n,rfl⟩:=aU hn
 refine cL (by lia) (bH ho) ?_
 symm
 rw[cV ho]
 refine MR (by lia) ho hS hf hpt hA hpa hin λa p ha hp=>?_
 have h:=h a p ha hp
 have ho':(bV m (cK m s a) p).Ok:=nK (jB ho (hA a ha)) hp.ok
 obtain⟨s',es⟩:∃s',s'=bV m (cK m s a) p:=⟨_,rfl⟩
 rw[<-es]at h ho' ⊢
 symm
 by_cases c:s'=s
 ·subst c
  rw[lD ho' ho',dT rfl]
  rw[dT rfl]at h
  refine fD (by lia) ?_
  symm
  rcases m<;>exact h
 ·rw[lD ho' ho,dF c]
  rw[dF c]at h
  refine cL (by lia) ho' ?_
  symm
  rcases m
  ·refine fD (m:=false) (by lia) ?_
   exact h
  ·refine fD (m:=true) (by lia) ?_
   exact h
end
theorem SR:Fl [] false false false:=⟨rfl,rfl,rfl,rfl,rfl,rfl⟩
section
variable {m:Bool}{s f:Sd}{kind:Str}{seed k u st pr:Int}{sp pt:Option (Int×Int)}{fl:List V}{rnd per net:Bool}{S:List Tk}{h3 h4 h5 h6 h7 h8 o r:V}
theorem LU(hn:10<=n)(ho:s.Ok)(hS:w5 S k)
  (h:∀p,PP m S s none false p->K .none (HB seed S h3 h4 h5 h6 h7 h8 k (aI f) (aI (turn (bV m s p))) u (f9 m (!decide (bV m s p=s)) st))):
  R n "null_bind" [.ref 0,.ref 9,.str (mn m),.int 5] (HB seed S h3 h4 h5 h6 h7 h8 k (aI f) (aI (turn s)) u st) K:=by
 obtain⟨n,rfl⟩:=aU hn
 have hA:∀a,a=ad m s->0<=a/\a<4294967296:=by
  intro a q;subst q;rcases m;exact ho.ta;exact ho.so
 have h':∀a p,a=ad m s->PP m S (cK m s a) none false p->K .none (HB seed S h3 h4 h5 h6 h7 h8 k (aI f) (aI (turn (bV m (cK m s a) p))) u (f9 m (!decide (bV m (cK m s a) p=s)) st)):=by
  intro a p q hp;subst q;rw[nT]at hp ⊢;exact h p hp
 rcases m
 ·symm
  refine lK (m:=false) (kind:="dnat") (fam:=2) (sp:=none) (pt:=none) (fl:=[]) (by lia) ho hS SR (by simp) hA (λj K hj hK=>r6 (by lia) (hK _ rfl)) (λ_=>rfl) λa p ha hp=>?_
  exact h' a p ha hp
 ·refine lK (m:=true) (kind:="snat") (fam:=2) (sp:=none) (pt:=none) (fl:=[]) (by lia) ho hS SR (by simp) hA (λj K hj hK=>r6 (by lia) (hK _ rfl)) (λ_=>rfl) λa p ha hp=>?_
  exact h' a p ha hp
noncomputable abbrev HR (seed:Int) (S:List Tk) (h3 h4:V) (pr:Int) (h6:V) (k:Int) (o r:V) (u st:Int):Hp:=HB seed S h3 h4 (aK pr) h6 (iG 1 2) (dQ (.ref 9) 8 0) k o r u st
noncomputable def acc:V:=.tup [.str "accept",.str ""]
noncomputable def brk:V:=.tup [.str "break",.str ""]
noncomputable def kindOf:Bool->Str|true=>"snat"|false=>"dnat"
theorem oJ(hn:2<=n){Q:Hp->Prop}(hst:Builtin.bitAnd st (Builtin.bitOr 8 (jW m))=0)
  (h:∀j (K:V->Hp->Prop),n=j+1->(∀H,Q H->K .none H)->R j "setup" [.ref 0,.ref 9,.str (mn m),iE (kindOf m) 2 sp pt fl,.int 5] (HR seed S h3 h4 pr h6 k (aI f) r u st) K) (hQ:∀H,Q H->K acc H):
  R n "nat_request" [.ref 8,iE (kindOf m) 2 sp pt fl] (HR seed S h3 h4 pr h6 k (aI f) r u st) K:=by
 obtain⟨n,rfl⟩:=aU hn
 rcases m
 ·symm
  refine fD (m:=false) (by lia) ?_
  symm
  rw[show(!bQ (V.int (Builtin.bitAnd st (Builtin.bitOr 8 256))) (V.int 0))=false from bN hst]
  refine dU (by lia) ?_
  symm
  refine h n _ rfl λH hH=>?_
  exact hQ H hH
 ·refine fD (m:=true) (by lia) ?_
  symm
  rw[show(!bQ (V.int (Builtin.bitAnd st (Builtin.bitOr 8 128))) (V.int 0))=false from bN hst]
  refine dU (by lia) ?_
  symm
  refine h n _ rfl λH hH=>?_
  exact hQ H hH
theorem R9(hn:2<=n)(h:K (.int 3405803785) (h0::h1::h2::h3::h4::aK pr::h6::iG 1 2::dQ (.ref 9) 8 0::t)):R n "own_address" [.ref 8,.str "masquerade",.int 2] (h0::h1::h2::h3::h4::aK pr::h6::iG 1 2::dQ (.ref 9) 8 0::t) K:=by
 obtain⟨n,rfl⟩:=DO hn
 symm
 exact h
theorem SJ(hn:2<=n)(h:K (.int 3232235529) (h0::h1::h2::h3::h4::aK pr::h6::iG 1 2::dQ (.ref 9) 8 0::t)):R n "own_address" [.ref 8,.str "redirect",.int 2] (h0::h1::h2::h3::h4::aK pr::h6::iG 1 2::dQ (.ref 9) 8 0::t) K:=by
 obtain⟨n,rfl⟩:=DO hn
 symm
 exact h
theorem M1(hn:3<=n){Q:Hp->Prop}(hst:Builtin.bitAnd st (Builtin.bitOr 8 (jW true))=0)(hf:f.so≠0)
  (h:∀j (K:V->Hp->Prop),n=j+1->(∀H,Q H->K .none H)->R j "setup" [.ref 0,.ref 9,.str (mn true),iE "masquerade" 0 (some (3405803785,3405803785)) pt fl,.int 5] (HR seed S h3 h4 pr h6 k (aI f) r u st) K) (hQ:∀H,Q H->K acc H):
  R n "nat_request" [.ref 8,iE "masquerade" 0 none pt fl] (HR seed S h3 h4 pr h6 k (aI f) r u st) K:=by
 obtain⟨n,rfl⟩:=aU hn
 symm
 refine fD (m:=true) (by lia) ?_
 symm
 rw[show(!bQ (V.int (Builtin.bitAnd st (Builtin.bitOr 8 128))) (V.int 0))=false from bN hst]
 refine dU (by lia) ?_
 symm
 rw[aB,dF hf]
 symm
 refine R9 (by lia) ?_
 symm
 refine h n _ rfl λH hH=>?_
 exact hQ H hH
theorem FI(hn:3<=n){Q:Hp->Prop}(hst:Builtin.bitAnd st (Builtin.bitOr 8 (jW false))=0)
  (h:∀j (K:V->Hp->Prop),n=j+1->(∀H,Q H->K .none H)->R j "setup" [.ref 0,.ref 9,.str (mn false),iE "redirect" 0 (some (3232235529,3232235529)) pt fl,.int 5] (HR seed S h3 h4 pr h6 k (aI f) r u st) K) (hQ:∀H,Q H->K acc H):
  R n "nat_request" [.ref 8,iE "redirect" 0 none pt fl] (HR seed S h3 h4 pr h6 k (aI f) r u st) K:=by
 obtain⟨n,rfl⟩:=aU hn
 symm
 refine fD (m:=false) (by lia) ?_
 symm
 rw[show(!bQ (V.int (Builtin.bitAnd st (Builtin.bitOr 8 256))) (V.int 0))=false from bN hst]
 refine dU (by lia) ?_
 symm
 refine SJ (by lia) ?_
 symm
 refine h n _ rfl λH hH=>?_
 exact hQ H hH
theorem P7(hn:2<=n)(hst:Builtin.bitAnd st (Builtin.bitOr 8 (jW true))=0)(h:K brk (HR seed S h3 h4 pr h6 k (aI f) r u st)):
  R n "nat_request" [.ref 8,iE "snat" 10 sp pt fl] (HR seed S h3 h4 pr h6 k (aI f) r u st) K:=by
 obtain⟨n,rfl⟩:=aU hn
 symm
 refine fD (m:=true) (by lia) ?_
 symm
 rw[show(!bQ (V.int (Builtin.bitAnd st (Builtin.bitOr 8 128))) (V.int 0))=false from bN hst]
 refine dU (by lia) ?_
 exact h
end
inductive Md where
 |non
 |fam
 |plain (sp:Option (Int×Int))
 |masq
 |redir
 |net
structure Ru where
 md:Md
 pt:Option (Int×Int)
 fl:List V
 rnd:Bool
 per:Bool
noncomputable def cH (m:Bool) (r:Ru):V:=match r.md with
 | .non=>.none
 | .fam=>iE "snat" 10 (some (5,5)) none r.fl
 | .plain sp=>iE (kindOf m) 2 sp r.pt r.fl
 | .masq=>iE "masquerade" 0 none r.pt r.fl
 | .redir=>iE "redirect" 0 none r.pt r.fl
 | .net=>iE "snat" 2 (some (3405803776,3405804031)) none [.str "netmap"]
noncomputable def iB (r:Ru) (a:Int):Int:=match r.md with
 | .non=>a
 | .fam=>a
 | .plain none=>a
 | .plain (some (x,_))=>x
 | .masq=>3405803785
 | .redir=>3232235529
 | .net=>3405803776+a%256
noncomputable def gF (r:Ru) (a:Int):Int:=match r.md with
 | .non=>a
 | .fam=>a
 | .plain none=>a
 | .plain (some (_,y))=>y
 | .masq=>3405803785
 | .redir=>3232235529
 | .net=>3405803776+a%256
noncomputable def iP (r:Ru):Option (Int×Int):=match r.md with
 | .non=>none
 | .fam=>none
 | .net=>none
 |_=>r.pt
noncomputable def w6 (r:Ru):Bool:=match r.md with
 | .non=>false
 | .fam=>false
 | .net=>false
 |_=>r.rnd
theorem mE(hn:1<=n){m:Bool}(hf:Fl r.fl r.rnd r.per false){a:Int}(h:K (.tup [.int (iB r a),.int (gF r a),iF (iP r),.bool (w6 r)]) H):R n "_law_bounds" [cH m r,.int a] H K:=by
 obtain⟨n,rfl⟩:=aU hn
 obtain⟨md,pt,fl,rnd,per⟩:=r
 simp only at hf
 obtain⟨o1,o2,o3,i1,i2,i3⟩:=hf
 induction md using Md.casesOn with
 |non=>
   exact h
 |fam=>
   exact h
 |plain sp=>
   rcases sp with _|⟨x,y⟩
   ·rcases m
    ·symm
     refine gm (o1) ?_
     symm
     rw[i1]
     exact h
    ·symm
     refine gm (o1) ?_
     symm
     rw[i1]
     exact h
   ·rcases m
    ·symm
     refine gm (o3) ?_
     symm
     rw[i3]
     symm
     refine gm (o1) ?_
     symm
     rw[i1]
     exact h
    ·symm
     refine gm (o3) ?_
     symm
     rw[i3]
     symm
     refine gm (o1) ?_
     symm
     rw[i1]
     exact h
 |masq=>
   symm
   refine gm (o1) ?_
   symm
   rw[i1]
   exact h
 |redir=>
   symm
   refine gm (o1) ?_
   symm
   rw[i1]
   exact h
 |net=>
   symm
   rw[fmod_eq (by decide)]
   exact h
noncomputable def cls (p:Int):Int:=if p<512 then 0 else if p<1024 then 1 else 2
theorem uW(hn:1<=n){p:Int}(h:K (.int (cls p)) H):R n "_law_class" [.int p] H K:=by
 obtain⟨n,rfl⟩:=aU hn
 unfold cls at h
 by_cases c:p<512
 ·rw[if_pos c]at h
  symm
  refine gm (dT c) ?_
  exact h
 rw[if_neg c]at h
 symm
 with_reducible refine gL (dF c) ?_
 symm
 by_cases c:p<1024
 ·rw[if_pos c]at h
  refine gm (dT c) ?_
  exact h
 rw[if_neg c]at h
 rw[dF c]
 exact h
theorem pT(a b:Sd):bQ (aF a) (aF b)=decide (a=b):=by
 obtain⟨a1,a2,a3,a4,a5⟩:=a
 obtain⟨c1,c2,c3,c4,c5⟩:=b
 show(decide (a1=c1)&&(decide (a2=c2)&&(decide (a3=c3)&&(decide (a4=c4)&&(decide (a5=c5)&&true)))))=_
 simp only[Sd.mk.injEq,Bool.and_true,Bool.decide_and]
noncomputable def kE (S:List Tk) (a:Sd):Bool:=S.any λt=>decide (t.o=a)
theorem jE(S:List Tk)(a:Sd):qM (aF a) (bG S)=kE S a:=by
 induction S with
 |nil=>rfl
 |cons t S ih=>
   show(bQ (aF t.o) (aF a)||qM (aF a) (bG S))=(decide (t.o=a)||kE S a)
   rw[pT,ih]
theorem fG(S:List Tk)(a:Sd):dI (aF a) (bG S)=true:=by
 unfold dI;rw[List.all_eq_true]
 intro x hx
 simp only[bG,List.mem_map]at hx
 refine aT hx λt _ e91=>?_
 clear hx
 subst e91
 rfl
theorem LH(hn:2<=n)(hf:Fl sn.fl sn.rnd sn.per false){p q:Int}(hp:iP sn=some (p,q))(hpq:q=p\/q=p+1)(hp0:0<=p/\p<65536)
  (hall:∀x,p<=x->x<=q->kE S { o with sp:=x }=true) (h:K (.bool true) (h0::h1::h2::.lst (bG S)::t)):R n "_law_is_full" [gE (.lst [cH false dn,cH true sn]),aF f,aF o] (h0::h1::h2::.lst (bG S)::t) K:=by
 obtain⟨n,rfl⟩:=aU hn
 symm
 refine mE (m:=true) (by lia) hf ?_
 rw[hp]
 symm
 refine gm (aG (nJ (by lia) (by lia)) (nJ (by lia) (by lia))) ?_
 symm
 rcases hpq with rfl|rfl
 ·have e:cF q (q+1) 1=[q]:=by
   unfold cF
   rw[show(q+1-q+(1-1))/1=(1:Int)by lia]
   show[q+1*((0:Nat):Int)]=[q]
   simp
  rw[e]
  have hx:=hall q (by lia) (by lia)
  have k1:dI (.tup [.int o.pr,.int o.so,.int q,.int o.ta,.int o.dp]) (bG S)=true:=fG S { o with sp:=q }
  have k2:qM (.tup [.int o.pr,.int o.so,.int q,.int o.ta,.int o.dp]) (bG S)=true:=(jE S { o with sp:=q }).trans hx
  symm
  refine gm (k1) ?_
  symm
  rw[k2]
  exact h
 ·have e:cF p (p+1+1) 1=[p,p+1]:=by
   unfold cF
   rw[show(p+1+1-p+(1-1))/1=(2:Int)by lia]
   show[p+1*((0:Nat):Int),p+1*((1:Nat):Int)]=[p,p+1]
   simp
  rw[e]
  have hx:=hall p (by lia) (by lia)
  have hy:=hall (p+1) (by lia) (by lia)
  have k1:dI (.tup [.int o.pr,.int o.so,.int p,.int o.ta,.int o.dp]) (bG S)=true:=fG S { o with sp:=p }
  have k2:qM (.tup [.int o.pr,.int o.so,.int p,.int o.ta,.int o.dp]) (bG S)=true:=(jE S { o with sp:=p }).trans hx
  have k3:dI (.tup [.int o.pr,.int o.so,.int (p+1),.int o.ta,.int o.dp]) (bG S)=true:=fG S { o with sp:=p+1 }
  have k4:qM (.tup [.int o.pr,.int o.so,.int (p+1),.int o.ta,.int o.dp]) (bG S)=true:=(jE S { o with sp:=p+1 }).trans hy
  symm
  refine gm (k1) ?_
  symm
  refine gm (k3) ?_
  symm
  rw[k2,k4]
  exact h
theorem ML(hn:2<=n)(hfd:Fl dn.fl dn.rnd dn.per false)(hfs:Fl sn.fl sn.rnd sn.per false)
  (c1:iB dn f.ta<=o.ta/\o.ta<=gF dn f.ta) (c2:f.pr=1\/iP dn=none->o.dp=f.dp) (c2':f.pr≠1->∀a b,iP dn=some (a,b)->a<=o.dp/\o.dp<=b)
  (c3:iB sn f.so<=o.so/\o.so<=gF sn f.so) (c4:∀a b,iP sn=some (a,b)->a<=o.sp/\o.sp<=b) (c5:iP sn=none->f.pr≠1->cls o.sp=cls f.sp)
  (c6:(∀a b,iP sn=some (a,b)->a<=f.sp/\f.sp<=b)->w6 sn=false->(f.pr=1->iP dn=none/\w6 dn=false)->kE S ⟨f.pr,o.so,f.sp,o.ta,o.dp⟩=false->o.sp=f.sp)
  (h:K (.bool true) (h0::h1::h2::.lst (bG S)::t)):R n "_law_fits" [gE (.lst [cH false dn,cH true sn]),aF f,aF o] (h0::h1::h2::.lst (bG S)::t) K:=by
 obtain⟨n,rfl⟩:=aU hn
 symm
 refine mE (m:=false) (by lia) hfd ?_
 symm
 try dsimp only
 refine gm (dT c1.1) ?_
 symm
 try dsimp only
 rw[dT c1.2]
 symm
 try dsimp only
 have seg4:seg n "_law_fits" 4 [("world",gE (.lst [cH false dn,cH true sn])),("side",aF f),("outer",aF o),("proto",.int f.pr),("source",.int f.so),("sport",.int f.sp),("target",.int f.ta),("dport",.int f.dp),("low",.int (iB dn f.ta)),("high",.int (gF dn f.ta)),("ports",iF (iP dn)),("is_random",.bool (w6 dn))] (h0::h1::h2::.lst (bG S)::t) K:=by
  have seg5:seg n "_law_fits" 5 [("world",gE (.lst [cH false dn,cH true sn])),("side",aF f),("outer",aF o),("proto",.int f.pr),("source",.int f.so),("sport",.int f.sp),("target",.int f.ta),("dport",.int f.dp),("low",.int (iB dn f.ta)),("high",.int (gF dn f.ta)),("ports",iF (iP dn)),("is_random",.bool (w6 dn)),("is_moved",.bool (decide (f.pr=1)&&((iP dn).isSome||w6 dn)))] (h0::h1::h2::.lst (bG S)::t) K:=by
   obtain⟨mv,emv⟩:∃mv,mv=(decide (f.pr=1)&&((iP dn).isSome||w6 dn)):=⟨_,rfl⟩
   rw[<-emv]
   have hmv:mv=false->f.pr=1->iP dn=none/\w6 dn=false:=by
    intro q1 q2
    rw[q1,dT q2,Bool.true_and]at emv
    induction e1:iP dn using Option.casesOn with
    |none=>rw[e1]at emv;exact⟨rfl,by simpa using emv.symm⟩
    |some p=>rw[e1]at emv;simp at emv
   have seg11:seg n "_law_fits" 11 [("world",gE (.lst [cH false dn,cH true sn])),("side",aF f),("outer",aF o),("proto",.int f.pr),("source",.int f.so),("sport",.int f.sp),("target",.int f.ta),("dport",.int f.dp),("low",.int (iB sn f.so)),("high",.int (gF sn f.so)),("ports",iF (iP sn)),("is_random",.bool (w6 sn)),("is_moved",.bool mv),("kept",.tup [.int f.pr,.int o.so,.int f.sp,.int o.ta,.int o.dp]),("may",.bool (match iP sn with|none=>true|some (a,b)=>lT a b f.sp))] (h0::h1::h2::.lst (bG S)::t) K:=by
    have k1:dI (.tup [.int f.pr,.int o.so,.int f.sp,.int o.ta,.int o.dp]) (bG S)=true:=fG S ⟨f.pr,o.so,f.sp,o.ta,o.dp⟩
    have k2:qM (.tup [.int f.pr,.int o.so,.int f.sp,.int o.ta,.int o.dp]) (bG S)=kE S ⟨f.pr,o.so,f.sp,o.ta,o.dp⟩:=jE S ⟨f.pr,o.so,f.sp,o.ta,o.dp⟩
    have c6':=λq=>c6 q
    obtain⟨may,emay⟩:∃may,may=(match iP sn with|none=>true|some (a,b)=>lT a b f.sp):=⟨_,rfl⟩
    rw[<-emay]
    rcases may
    ·exact h
    rcases er:w6 sn
    ·rcases mv
     ·symm
      try dsimp only
      refine gm (k1) ?_
      symm
      try dsimp only
      rw[k2]
      rcases ei:kE S ⟨f.pr,o.so,f.sp,o.ta,o.dp⟩
      ·have:=c6 (by
        intro a b q;rw[q]at emay
        simp only[lT]at emay
        have:=emay.symm
        simp only[Bool.and_eq_true,decide_eq_true_eq]at this
        exact this) er (hmv rfl) ei
       symm
       try dsimp only
       rw[show bQ (V.int o.sp) (V.int f.sp)=true from dT this]
       exact h
      ·exact h
     ·exact h
    ·exact h
   have seg9:seg n "_law_fits" 9 [("world",gE (.lst [cH false dn,cH true sn])),("side",aF f),("outer",aF o),("proto",.int f.pr),("source",.int f.so),("sport",.int f.sp),("target",.int f.ta),("dport",.int f.dp),("low",.int (iB sn f.so)),("high",.int (gF sn f.so)),("ports",iF (iP sn)),("is_random",.bool (w6 sn)),("is_moved",.bool mv)] (h0::h1::h2::.lst (bG S)::t) K:=by
    rcases e:iP sn with _|⟨a,b⟩
    ·rw[e]at seg11
     apply cN (b:=seg11);kernel_rfl
    ·rw[e]at seg11
     simp only[lT]at seg11
     symm
     try dsimp only
     by_cases d1:a<=f.sp
     ·rw[dT d1,Bool.true_and]at seg11
      rw[dT d1]
      apply cN (b:=seg11);kernel_rfl
     ·rw[dF d1,Bool.false_and]at seg11
      rw[dF d1]
      apply cN (b:=seg11);kernel_rfl
   refine mE (m:=true) (by lia) hfs ?_
   symm
   try dsimp only
   refine gm (dT c3.1) ?_
   symm
   try dsimp only
   rw[dT c3.2]
   symm
   try dsimp only
   rcases e:iP sn with _|⟨a,b⟩
   ·rw[e]at seg9
    by_cases cp:f.pr=1
    ·symm
     try dsimp only
     rw[bN cp]
     symm
     try dsimp only
     apply cN (b:=seg9);kernel_rfl
    ·symm
     try dsimp only
     rw[oQ cp]
     refine uW (by lia) ?_
     refine uW (by lia) ?_
     symm
     try dsimp only
     with_reducible refine gL (bN (c5 e cp)) ?_
     symm
     try dsimp only
     apply cN (b:=seg9);kernel_rfl
   ·rw[e]at seg9
    have c4:=c4 a b e
    symm
    try dsimp only
    rw[dT c4.1]
    symm
    try dsimp only
    rw[dT c4.2]
    symm
    try dsimp only
    apply cN (b:=seg9);kernel_rfl
  by_cases cp:f.pr=1
  ·rw[dT cp,Bool.true_and]at seg5
   symm
   try dsimp only
   rw[aB,dT cp]
   symm
   try dsimp only
   rcases e:iP dn with _|⟨a,b⟩
   ·rw[e]at seg5
    apply cN (b:=seg5);kernel_rfl
   ·rw[e]at seg5
    apply cN (b:=seg5);kernel_rfl
  ·rw[dF cp,Bool.false_and]at seg5
   symm
   try dsimp only
   rw[aB,dF cp]
   symm
   try dsimp only
   apply cN (b:=seg5);kernel_rfl
 by_cases cp:f.pr=1
 ·rw[aB,dT cp]
  symm
  try dsimp only
  rw[bN (c2 (.inl cp))]
  symm
  try dsimp only
  apply cN (b:=seg4);kernel_rfl
 ·rw[aB,dF cp]
  symm
  try dsimp only
  rcases e:iP dn with _|⟨a,b⟩
  ·rw[e]at seg4
   symm
   try dsimp only
   with_reducible refine gL (bN (c2 (.inr e))) ?_
   symm
   try dsimp only
   apply cN (b:=seg4);kernel_rfl
  ·rw[e]at seg4
   have c2':=c2' cp a b e
   symm
   try dsimp only
   refine gm (dT c2'.1) ?_
   symm
   try dsimp only
   rw[dT c2'.2]
   symm
   try dsimp only
   apply cN (b:=seg4);kernel_rfl
structure jQ (m:Bool) (r:Ru):Prop where
 fl:Fl r.fl r.rnd r.per false
 pt:∀a b,r.pt=some (a,b)->a<=b/\b<=a+1/\0<=a/\b<65536
 sp:∀a b,r.md= .plain (some (a,b))->a<=b/\b-a<90000/\0<=a/\b<4294967296
 md:match r.md,m with| .fam,false=>False| .masq,false=>False| .net,false=>False| .redir,true=>False|_,_=>True
theorem oN{β:Type}{g:β->V}{l:List β}(h:∀x∈l,∀H,fz 7 n H (g x)=some (g x)):w8 n (.lst (l.map g)):=by
 intro H
 show(cG (fz 7 n H) (l.map g)).map V.lst=_
 rw[jL (by intro v hv;simp only[List.mem_map]at hv;refine aT hv λx hx e91=>?_;clear hv;subst e91;exact h x hx H)];rfl
theorem oV(n:Nat)(S:List Tk):w8 n (.lst (bG S)):=oN λ_ _ _=>rfl
theorem n7(n:Nat)(S:List Tk):w8 n (.lst (cM S)):=oN λ_ _ _=>rfl
theorem GZ(h:∀p∈l,(aL p.1 != 0)=true/\∀H,fz 7 n H p.2=some p.2):w8 n (.dct l):=by
 intro H
 show(cG (λp=>match aL p.1 != 0 with|true=>(fz 7 n H p.2).map (p.1, ·)|false=>none) l).map V.dct=_
 rw[jL (by intro p hp;rw[(h p hp).1,(h p hp).2 H];rfl)];rfl
theorem tX(n:Nat)(S:List Tk):w8 n (.dct (cI S)):=GZ (by
 intro p hp;simp only[cI,List.mem_map]at hp;refine aT hp λt _ e92=>?_;clear hp;subst e92;exact⟨rfl,λ_=>rfl⟩)
theorem pF(n:Nat)(S:List Tk):w8 n (.dct (b9 S)):=by
 refine GZ ?_
 induction S with
 |nil=>intro p hp;rcases hp
 |cons t S ih=>
   intro p hp
   rcases List.mem_cons.mp hp with rfl|hp
   ·exact⟨rfl,λ_=>rfl⟩
   rcases List.mem_cons.mp hp with rfl|hp
   ·exact⟨rfl,λ_=>rfl⟩
   exact ih p hp
theorem NP(seed:Int)(S:List Tk)(pr:Int)(l:List Int)(k:Int)(f s:Sd)(st:Int):gC [b4 seed,.dct (b9 S),.dct (cI S),.lst (bG S),.lst (cM S),aK pr,.bar l,iG 1 2,dQ (.ref 9) 8 0,fE k (aI f) (aI s) 9 st]:=by
 simp only[gC,List.forall_mem_cons,List.not_mem_nil,false_implies,implies_true,and_true]
 exact⟨λ_=>rfl,pF _ _,tX _ _,oV _ _,n7 _ _,λ_=>rfl,λ_=>rfl,λ_=>rfl,λ_=>rfl,λ_=>rfl⟩
theorem KR(seed:Int)(S:List Tk)(pr:Int)(l:List Int)(t:Tk)(rep:Int):gC [b4 seed,.dct (b9 S),.dct (cI S),.lst (bG S),.lst (cM S),aK pr,.bar l,iG 1 2,dQ (DP t) 1 rep]:=by
 simp only[gC,List.forall_mem_cons,List.not_mem_nil,false_implies,implies_true,and_true]
 exact⟨λ_=>rfl,pF _ _,tX _ _,oV _ _,n7 _ _,λ_=>rfl,λ_=>rfl,λ_=>rfl,λ_=>rfl⟩
theorem OI(hn:4<=n){s:Sd}{kind:Str}{fam:Int}{pt:Option (Int×Int)}{b:V}(ho:s.Ok)(h:K (.int (3405803776+s.so%256)) H):R n "pick_address" [b,aI s,.str (mn true),iE kind fam (some (3405803776,3405804031)) pt [.str "netmap"]] H K:=by
 obtain⟨n,rfl⟩:=aU hn
 refine nV (by lia) ?_
 refine yJ (m:=true) (by lia) ?_
 symm
 have e1:Builtin.bitXor 3405803776 3405804031=255:=by kernel_rfl
 have e2:Builtin.bitOr 3405803776 (s.so%256)=3405803776+s.so%256:=by
  have:=PV (x:=13303921) (a:=s.so%256) (by decide) (by lia) (by lia)
  have e:(13303921*2 ^ (8:Int).toNat:Int)=3405803776:=by kernel_rfl
  rw[e]at this;rw[this];lia
 show K (.int (Builtin.bitOr 3405803776 (Builtin.bitAnd s.so (Builtin.bitXor 3405803776 3405804031)))) H
 rw[e1,G8 ho.so.1,e2]
 exact h
theorem VC:Fl [.str "netmap"] false false true:=⟨by kernel_rfl,by kernel_rfl,by kernel_rfl,by kernel_rfl,by kernel_rfl,by kernel_rfl⟩
noncomputable abbrev NV:Stmt:=((fnX "_law_new").body.drop 6).headD (.Pass default)
noncomputable abbrev sV:List Stmt:=match NV with| .For _ _ b _ _=>b|_=>[]
noncomputable abbrev QY:Expr:=match NV with| .For t _ _ _ _=>t|_=>.Constant .none 0 default
noncomputable abbrev rS (n i:Nat) (rho:aR) (H:Hp) (kk:aR->Hp->Prop) (K:V->Hp->Prop):Prop:=eO False And aN (run False And aN top n) (sV.drop i) ⟨(fnX "_law_new").sc,rho,[]⟩ H kk K
section
variable {m:Bool}{s f:Sd}{seed k st:Int}{S:List Tk}{dn sn:Ru}{d l:List Int}{bare:Bool}{kk:aR->Hp->Prop}
noncomputable def jS (m:Bool) (S:List Tk) (r:Ru) (s s':Sd):Prop:=∃a p,(iB r (ad m s)<=a/\a<=gF r (ad m s))/\PP m S (cK m s a) (iP r) (w6 r) p/\s'=bV m (cK m s a) p
noncomputable abbrev iD (dn sn:Ru) (k:Int) (f:Sd) (d:List Int) (bare:Bool):aR:=[("world",gE (.lst [cH false dn,cH true sn])),("number",.int k),("scene",.ref 8),("side",aF f),("data",.lst (d.map .int)),("is_bare",.bool bare),("book",.ref 0),("sent",aI f),("talk",.ref 9)]
noncomputable abbrev HL (seed:Int) (S:List Tk) (pr:Int) (l:List Int) (k:Int) (f s:Sd) (st:Int):Hp:=HR seed S (.lst (bG S)) (.lst (cM S)) pr (.bar l) k (aI f) (aI (turn s)) 9 st
end
section
variable {m:Bool}{s f:Sd}{seed k st pr:Int}{S:List Tk}{dn sn r:Ru}{d l:List Int}{bare:Bool}{kk:aR->Hp->Prop}
theorem nY(hn:9<=n){fam:Int}{rnd per:Bool}(ho:s.Ok)(hS:w5 S k)(hf:Fl fl rnd per false)
  (hpt:∀a b,pt=some (a,b)->a<=b/\0<=a/\b<65536) (hsp:∀a b,sp=some (a,b)->a<=b/\b-a<90000/\0<=a/\b<4294967296)
  (e1:sp=none->iB r (ad m s)=ad m s/\gF r (ad m s)=ad m s) (e2:∀a b,sp=some (a,b)->iB r (ad m s)=a/\gF r (ad m s)=b) (e3:iP r=pt) (e4:w6 r=rnd)
  (h:∀s',jS m S r s s'->K .none (HL seed S pr l k f s' (f9 m (!decide (s'=s)) st))):
  R n "setup" [.ref 0,.ref 9,.str (mn m),iE kind fam sp pt fl,.int 5] (HL seed S pr l k f s st) K:=by
 have had:0<=ad m s/\ad m s<4294967296:=by rcases m;exact ho.ta;exact ho.so
 refine lK (A:=λa=>iB r (ad m s)<=a/\a<=gF r (ad m s)) (by lia) ho hS hf hpt ?_ ?_ ?_ ?_
 ·intro a ha
  rcases sp with _|⟨x,y⟩
  ·have:=e1 rfl;lia
  ·have:=e2 x y rfl;have:=hsp x y rfl;lia
 ·intro j K hj hK
  rcases sp with _|⟨x,y⟩
  ·have:=e1 rfl
   exact r6 (by lia) (hK _ (by lia))
  ·have:=e2 x y rfl;have q:=hsp x y rfl
   exact JI (by lia) ho hf ⟨q.1,q.2.1⟩ λa a1 a2=>hK a (by lia)
 ·intro hin
  rcases sp with _|⟨x,y⟩
  ·have:=e1 rfl
   show iB r (ad m s)<=ad m s/\ad m s<=gF r (ad m s);lia
  ·have:=e2 x y rfl;have q:=hin x y rfl
   simp only[lT,Bool.and_eq_true,decide_eq_true_eq]at q
   show iB r (ad m s)<=ad m s/\ad m s<=gF r (ad m s);lia
 ·intro a p ha hp
  exact h _ ⟨a,p,ha,by rw[e3,e4];exact hp,rfl⟩
theorem xN(hn:10<=n)(ho:s.Ok)(hS:w5 S k)(e1:iB r (ad m s)=ad m s/\gF r (ad m s)=ad m s)(e3:iP r=none)(e4:w6 r=false)
  (h:∀s',jS m S r s s'->K .none (HL seed S pr l k f s' (f9 m (!decide (s'=s)) st))):
  R n "null_bind" [.ref 0,.ref 9,.str (mn m),.int 5] (HL seed S pr l k f s st) K:=
 LU hn ho hS λp hp=>h _ ⟨ad m s,p,by lia,by rw[nT,e3,e4];exact hp,by rw[nT]⟩
end
theorem HY{s f:Sd}{seed k st pr:Int}{S:List Tk}{dn sn:Ru}{d l:List Int}{bare:Bool}{kk:aR->Hp->Prop}{x1 x2 x3:V}(hn:12<=n)(ho:s.Ok)(hS:w5 S k)(hr:jQ false dn)(hst:Builtin.bitAnd st (Builtin.bitOr 8 (jW false))=0)
  (hk:∀s' E5,jS false S dn s s'->rS n 5 (iD dn sn k f d bare++([("place",.int 0),("manip",.str (mn false)),("rule",cH false dn),("said",E5)]:aR)) (HL seed S pr l k f s' (f9 false (!decide (s'=s)) st)) kk K):
  rS n 0 (iD dn sn k f d bare++(("place",.int 0)::[]:aR)) (HL seed S pr l k f s st) kk K:=by
 obtain⟨hfl,hpt,hsp,hmd⟩:=hr
 obtain⟨md,pt,fl,rnd,per⟩:=dn
 simp only at hfl hpt hsp hmd
 have hpt':∀a b,pt=some (a,b)->a<=b/\0<=a/\b<65536:=λa b q=>by have:=hpt a b q;lia
 induction md using Md.casesOn with
 |non=>
   symm
   refine xN (m:=false) (r:=⟨.non,pt,fl,rnd,per⟩) (by lia) ho hS ⟨rfl,rfl⟩ rfl rfl λs' hs'=>?_
   apply cN (b:=(hk s' brk hs'));kernel_rfl
 |fam=>exact absurd hmd (by simp)
 |plain sp=>
   refine oJ (m:=false) (sp:=sp) (Q:=λH=>∃s',jS false S ⟨.plain sp,pt,fl,rnd,per⟩ s s'/\H=HL seed S pr l k f s' (f9 false (!decide (s'=s)) st)) (by lia) hst (λj K hj hK=>?_) ?_
   ·exact nY (r:=⟨.plain sp,pt,fl,rnd,per⟩) (by lia) ho hS hfl hpt' (λa b q=>hsp a b (by rw[q])) (λq=>by subst q;exact⟨rfl,rfl⟩) (λa b q=>by subst q;exact⟨rfl,rfl⟩) rfl rfl λs' hs'=>hK _ ⟨s',hs',rfl⟩
   ·rintro H ⟨s',hs',rfl⟩
    apply cN (b:=(hk s' acc hs'));kernel_rfl
 |masq=>exact absurd hmd (by simp)
 |redir=>
   symm
   refine FI (Q:=λH=>∃s',jS false S ⟨.redir,pt,fl,rnd,per⟩ s s'/\H=HL seed S pr l k f s' (f9 false (!decide (s'=s)) st)) (by lia) hst (λj K hj hK=>?_) ?_
   ·exact nY (r:=⟨.redir,pt,fl,rnd,per⟩) (by lia) ho hS hfl hpt' (λa b q=>by cases q;decide) (λq=>by injection q) (λa b q=>by cases q;exact⟨rfl,rfl⟩) rfl rfl λs' hs'=>hK _ ⟨s',hs',rfl⟩
   ·rintro H ⟨s',hs',rfl⟩
    apply cN (b:=(hk s' acc hs'));kernel_rfl
 |net=>exact absurd hmd (by simp)
theorem HD{s f:Sd}{seed k st pr:Int}{S:List Tk}{dn sn:Ru}{d l:List Int}{bare:Bool}{kk:aR->Hp->Prop}{x1 x2 x3:V}(hn:12<=n)(ho:s.Ok)(hS:w5 S k)(hr:jQ true sn)(hst:Builtin.bitAnd st (Builtin.bitOr 8 (jW true))=0)(hf:f.so≠0)
  (hk:∀s' E5,jS true S sn s s'->rS n 5 (iD dn sn k f d bare++([("place",.int 1),("manip",.str (mn true)),("rule",cH true sn),("said",E5)]:aR)) (HL seed S pr l k f s' (f9 true (!decide (s'=s)) st)) kk K):
  rS n 0 (iD dn sn k f d bare++(("place",.int 1)::[("manip",x1),("rule",x2),("said",x3)]:aR)) (HL seed S pr l k f s st) kk K:=by
 obtain⟨hfl,hpt,hsp,hmd⟩:=hr
 obtain⟨md,pt,fl,rnd,per⟩:=sn
 simp only at hfl hpt hsp hmd
 have hpt':∀a b,pt=some (a,b)->a<=b/\0<=a/\b<65536:=λa b q=>by have:=hpt a b q;lia
 induction md using Md.casesOn with
 |non=>
   symm
   refine xN (m:=true) (r:=⟨.non,pt,fl,rnd,per⟩) (by lia) ho hS ⟨rfl,rfl⟩ rfl rfl λs' hs'=>?_
   apply cN (b:=(hk s' brk hs'));kernel_rfl
 |fam=>
   refine P7 (by lia) hst ?_
   symm
   refine xN (m:=true) (r:=⟨.fam,pt,fl,rnd,per⟩) (by lia) ho hS ⟨rfl,rfl⟩ rfl rfl λs' hs'=>?_
   apply cN (b:=(hk s' brk hs'));kernel_rfl
 |plain sp=>
   refine oJ (m:=true) (sp:=sp) (Q:=λH=>∃s',jS true S ⟨.plain sp,pt,fl,rnd,per⟩ s s'/\H=HL seed S pr l k f s' (f9 true (!decide (s'=s)) st)) (by lia) hst (λj K hj hK=>?_) ?_
   ·exact nY (r:=⟨.plain sp,pt,fl,rnd,per⟩) (by lia) ho hS hfl hpt' (λa b q=>hsp a b (by rw[q])) (λq=>by subst q;exact⟨rfl,rfl⟩) (λa b q=>by subst q;exact⟨rfl,rfl⟩) rfl rfl λs' hs'=>hK _ ⟨s',hs',rfl⟩
   ·rintro H ⟨s',hs',rfl⟩
    apply cN (b:=(hk s' acc hs'));kernel_rfl
 |masq=>
   refine M1 (Q:=λH=>∃s',jS true S ⟨.masq,pt,fl,rnd,per⟩ s s'/\H=HL seed S pr l k f s' (f9 true (!decide (s'=s)) st)) (by lia) hst hf (λj K hj hK=>?_) ?_
   ·exact nY (r:=⟨.masq,pt,fl,rnd,per⟩) (by lia) ho hS hfl hpt' (λa b q=>by cases q;decide) (λq=>by injection q) (λa b q=>by cases q;exact⟨rfl,rfl⟩) rfl rfl λs' hs'=>hK _ ⟨s',hs',rfl⟩
   ·rintro H ⟨s',hs',rfl⟩
    apply cN (b:=(hk s' acc hs'));kernel_rfl
 |redir=>exact absurd hmd (by simp)
 |net=>
   refine oJ (m:=true) (sp:=some (3405803776,3405804031)) (pt:=none) (fl:=[.str "netmap"]) (Q:=λH=>∃s',jS true S ⟨.net,pt,fl,rnd,per⟩ s s'/\H=HL seed S pr l k f s' (f9 true (!decide (s'=s)) st)) (by lia) hst (λj K hj hK=>?_) ?_
   ·refine lK (A:=λa=>a=3405803776+s.so%256) (by lia) ho hS VC (by simp) (λa ha=>by lia) (λj K hj hK=>OI (by lia) ho (hK _ rfl)) ?_ ?_
    ·intro hin
     have q:lT 3405803776 3405804031 s.so=true:=hin _ _ rfl
     simp only[lT,Bool.and_eq_true,decide_eq_true_eq]at q
     show s.so=3405803776+s.so%256
     lia
    ·intro a p ha hp
     exact hK _ ⟨_,⟨a,p,by subst ha;exact⟨Int.le_refl _,Int.le_refl _⟩,hp,rfl⟩,rfl⟩
   ·rintro H ⟨s',hs',rfl⟩
    apply cN (b:=(hk s' acc hs'));kernel_rfl
theorem LD{m:Bool}(hr:jQ m r)(ho:s.Ok){a:Int}(h:iB r (ad m s)<=a/\a<=gF r (ad m s)):0<=a/\a<4294967296:=by
 have had:0<=ad m s/\ad m s<4294967296:=by rcases m;exact ho.ta;exact ho.so
 obtain⟨-,-,hsp,-⟩:=hr
 obtain⟨md,pt,fl,rnd,per⟩:=r
 induction md using Md.casesOn with
 |non=>simp only[iB,gF]at h;lia
 |fam=>simp only[iB,gF]at h;lia
 |plain sp=>
   rcases sp with _|⟨x,y⟩
   ·simp only[iB,gF]at h;lia
   ·have:=hsp x y rfl
    simp only[iB,gF]at h;lia
 |masq=>simp only[iB,gF]at h;lia
 |redir=>simp only[iB,gF]at h;lia
 |net=>simp only[iB,gF]at h;lia
theorem iN{m:Bool}(hr:jQ m r)(ho:s.Ok)(h:jS m S r s s'):s'.Ok/\s'.pr=s.pr/\(match m with|true=>rP s s'|false=>nH s s')=s':=by
 refine aE h λa p ha hp e91=>?_
 subst e91
 have ha':=LD hr ho ha
 refine⟨nK (jB ho ha') hp.ok,?_,?_⟩
 ·rcases m<;>simp[bV,cK]<;>split<;>rfl
 ·rcases m
  ·by_cases c:s.pr=1
   ·simp[bV,cK,nH,c]
   ·simp[bV,cK,nH,c]
  ·simp[bV,cK,rP]
section
variable {s s' f:Sd}{seed k st:Int}{S:List Tk}{dn sn:Ru}{d l:List Int}{bare:Bool}{kk:aR->Hp->Prop}
theorem IG(hn:10<=n)(ho:s.Ok)(hd:d.length<=3)(hp:Pk bare s d l)(hr:jQ false dn)(hN:jS false S dn s s')
  (h:∀l,Pk bare s' d l->kk (iD dn sn k f d bare++([("place",.int 0),("manip",.str (mn false)),("rule",x1),("said",x2)]:aR)) (HL seed S s.pr l k f s' (f9 false (!decide (s'=s)) 0))):
  rS n 5 (iD dn sn k f d bare++([("place",.int 0),("manip",.str (mn false)),("rule",x1),("said",x2)]:aR)) (HL seed S s.pr l k f s' (f9 false (!decide (s'=s)) 0)) kk K:=by
 refine qC (iN hr ho hN) λho' hpr hw=>?_
 simp only at hw
 by_cases c:s'=s
 ·subst c
  rw[dT rfl]at h ⊢
  symm
  refine tA (by lia) (by decide+kernel) ?_
  apply cN (b:=(h l hp));kernel_rfl
 ·rw[dF c]at h ⊢
  symm
  refine sD (s:=s) (v:=turn s') (d:=d) (bare:=bare) (by lia) (λl=>NP _ _ _ _ _ _ _ _) (by decide+kernel) ho (bH ho') (by rw[cQ,hpr]) hd hp λl hl=>?_
  rw[cV ho',hw]at hl
  apply cN (b:=(h l hl));kernel_rfl
theorem GJ(hn:10<=n)(ho:s.Ok)(hd:d.length<=3)(hp:Pk bare s d l)(hr:jQ true sn)(hN:jS true S sn s s')(hst:st=288\/st=256)
  (h:∀l,Pk bare s' d l->kk (iD dn sn k f d bare++([("place",.int 1),("manip",.str (mn true)),("rule",x1),("said",x2)]:aR)) (HL seed S s.pr l k f s' (f9 true (!decide (s'=s)) st))):
  rS n 5 (iD dn sn k f d bare++([("place",.int 1),("manip",.str (mn true)),("rule",x1),("said",x2)]:aR)) (HL seed S s.pr l k f s' (f9 true (!decide (s'=s)) st)) kk K:=by
 refine qC (iN hr ho hN) λho' hpr hw=>?_
 simp only at hw
 by_cases c:s'=s
 ·subst c
  rw[dT rfl]at h ⊢
  refine tT (by lia) (by rcases hst with rfl|rfl<;>decide+kernel) ?_
  apply cN (b:=(h l hp));kernel_rfl
 ·rw[dF c]at h ⊢
  refine uC (s:=s) (v:=turn s') (d:=d) (bare:=bare) (by lia) (λl=>NP _ _ _ _ _ _ _ _) (by rcases hst with rfl|rfl<;>decide+kernel) ho (bH ho') (by rw[cQ,hpr]) hd hp λl hl=>?_
  rw[cV ho',hw]at hl
  apply cN (b:=(h l hl));kernel_rfl
theorem MN(hn:12<=n)(ho:f.Ok)(hf:f.so≠0)(hS:w5 S k)(hd:d.length<=3)(hp:Pk bare f d l)(hrd:jQ false dn)(hrs:jQ true sn)
  (h:∀s1 s2 l x2,jS false S dn f s1->jS true S sn s1 s2->Pk bare s2 d l->kk (iD dn sn k f d bare++([("place",.int 1),("manip",.str (mn true)),("rule",cH true sn),("said",x2)]:aR)) (HL seed S f.pr l k f s2 (f9 true (!decide (s2=s1)) (f9 false (!decide (s1=f)) 0)))):
  forL False (fnX "_law_new").sc (λrho H k r=>eO False And aN (run False And aN top n) sV ⟨(fnX "_law_new").sc,rho,[]⟩ H k r) QY (jT False none 10) [.int 0,.int 1] (iD dn sn k f d bare) (HL seed S f.pr l k f f 0) kk K:=by
 have e0:bL (fnX "_law_new").sc (HL seed S f.pr l k f f 0) (iD dn sn k f d bare) QY (.int 0)=some (iD dn sn k f d bare++([("place",.int 0)]:aR)):=by kernel_rfl
 refine ob e0 ?_
 refine HY (x1:=.none) (x2:=.none) (x3:=.none) (by lia) ho hS hrd (by decide+kernel) λs1 x2 hN1=>?_
 refine IG (by lia) ho hd hp hrd hN1 λl1 hl1=>?_
 refine qC (iN hrd ho hN1) λho1 hpr1 _=>?_
 obtain⟨st1,est⟩:∃st1,st1=f9 false (!decide (s1=f)) 0:=⟨_,rfl⟩
 have hst:st1=288\/st1=256:=by
  rw[est];rcases decide (s1=f)
  ·exact .inl (by decide+kernel)
  ·exact .inr (by decide+kernel)
 have h:=λs2 l x2=>h s1 s2 l x2 hN1
 rw[<-est]at h ⊢
 have e1:bL (fnX "_law_new").sc (HL seed S f.pr l1 k f s1 st1) (iD dn sn k f d bare++([("place",.int 0),("manip",.str (mn false)),("rule",cH false dn),("said",x2)]:aR)) QY (.int 1)=some (iD dn sn k f d bare++([("place",.int 1),("manip",.str (mn false)),("rule",cH false dn),("said",x2)]:aR)):=by kernel_rfl
 show forL False (fnX "_law_new").sc (λrho H k r=>eO False And aN (run False And aN top n) sV ⟨(fnX "_law_new").sc,rho,[]⟩ H k r) QY (jT False none 10) [.int 1] (iD dn sn k f d bare++([("place",.int 0),("manip",.str (mn false)),("rule",cH false dn),("said",x2)]:aR)) (HL seed S f.pr l1 k f s1 st1) kk K
 refine ob e1 ?_
 refine HD (by lia) ho1 hS hrs (by rcases hst with rfl|rfl<;>decide+kernel) hf λs2 x3 hN2=>?_
 rw[<-hpr1]at h ⊢
 refine GJ (by lia) ho1 hd hl1 hrs hN2 hst λl2 hl2=>?_
 exact h s2 l2 x3 hN2 hl2
end
noncomputable def vE (x:Int):Prop:=x=167772161\/x=167772162
noncomputable def wW (x:Int):Prop:=x≠3325256705/\x≠3325256706
structure r9 (sn:Ru):Prop where
 far:∀g x,vE g->iB sn g<=x->x<=gF sn g->wW x
 mix:∀f g a,vE f->vE g->iB sn g<=f->f<=gF sn g->iB sn f<=a->a<=gF sn f->a=f
noncomputable def I3 (dn:Ru):Prop:=∀a,a<=3325256706->gF dn a<4294967280
structure nF (sn:Ru) (t:Tk):Prop where
 f:t.f.Ok
 o:t.o.Ok
 fa:t.f.ta=3325256705\/t.f.ta=3325256706
 fs:vE t.f.so
 bd:iB sn t.f.so<=t.o.so/\t.o.so<=gF sn t.f.so
 pr:t.o.pr=t.f.pr
 ota:t.o.ta<4294967280
 dp:t.f.pr=1->t.o.dp=t.f.dp/\t.f.dp=8
 b16:Builtin.bitAnd t.st 16=0->t.o.so=t.f.so/\(t.f.pr≠1->t.o.sp=t.f.sp)
 b32:Builtin.bitAnd t.st 32=0->t.o.ta=t.f.ta/\(t.f.pr≠1->t.o.dp=t.f.dp)
 bb:Builtin.bitAnd t.st 16=0->Builtin.bitAnd t.st 32=0->t.o.sp=t.f.sp
section
variable {S:List Tk}{dn sn:Ru}{f s1 s2 s:Sd}
theorem nZ(hS:∀t∈S,nF sn t)(ho:s.Ok)(hf:wW s.so):jR S s=kE S s:=by
 have tt:∀t∈S,t.f≠turn s:=by
  intro t ht q
  have:=(hS t ht).fa
  rw[q]at this
  have e:(turn s).ta=s.so:=by unfold turn;split<;>rfl
  rw[e]at this
  rcases this with h|h
  ·exact hf.1 h
  ·exact hf.2 h
 unfold jR
 induction S with
 |nil=>rfl
 |cons t S ih=>
   have ih:=ih (λu hu=>hS u (by simp[hu])) (λu hu=>tt u (by simp[hu]))
   have h1:=tt t (by simp)
   have h2:(turn t.o=turn s)↔t.o=s:=by
    constructor
    ·intro q
     have:=congrArg turn q
     rwa [cV (hS t (by simp)).o,cV ho]at this
    ·intro q;rw[q]
   rw[show jK (t::S) (turn s)=if t.f=turn s then some (t,0)else if turn t.o=turn s then some (t,1)else jK S (turn s)from rfl,if_neg h1]
   show _=(decide (t.o=s)||kE S s)
   by_cases c:t.o=s
   ·rw[if_pos (h2.mpr c),dT c];rfl
   ·rw[if_neg (λq=>c (h2.mp q)),dF c,Bool.false_or];exact ih
theorem nW(h:kE S s=true):∃t∈S,t.o=s:=by
 simpa[kE]using h
theorem three(hl:S.length<=2)(ha:kE S a=true)(hb:kE S b=true)(hc:kE S c=true)(h1:a≠b)(h2:a≠c)(h3:b≠c):False:=by
 refine aT (nW ha) λx hx e91=>?_
 subst e91
 refine aT (nW hb) λy hy e92=>?_
 subst e92
 refine aT (nW hc) λz hz e93=>?_
 subst e93
 match S,hl with
 | [],_=>rcases hx
 | [p],_=>
   simp only[List.mem_singleton]at hx hy hz
   subst hx hy;exact h1 rfl
 | [p,q],_=>
   simp only[List.mem_cons,List.not_mem_nil,or_false]at hx hy hz
   rcases hx with rfl|rfl<;>rcases hy with rfl|rfl<;>rcases hz with rfl|rfl<;>first|exact h1 rfl|exact h2 rfl|exact h3 rfl
 |p::q::r::T,hl=>simp at hl
structure Made (S:List Tk) (dn sn:Ru) (f s1 s2:Sd):Prop where
 fo:f.Ok
 fa:f.ta=3325256705\/f.ta=3325256706
 fs:vE f.so
 dp:f.pr=1->f.dp=8
 hd:jQ false dn
 hs:jQ true sn
 sno:r9 sn
 dno:I3 dn
 St:∀t∈S,nF sn t
 len:S.length<=2
 n1:jS false S dn f s1
 n2:jS true S sn s1 s2
theorem KH{x:Int}(h:vE x):wW x:=by unfold vE wW at*;lia
structure MF (dn sn:Ru) (f s1 s2:Sd):Prop where
 o1:s1.Ok
 o2:s2.Ok
 p2:s2.pr=f.pr
 p1:s1.pr=f.pr
 so1:s1.so=f.so
 sp1:f.pr≠1->s1.sp=f.sp
 dp1:f.pr=1->s1.dp=f.dp
 ta2:s2.ta=s1.ta
 dp2:s2.dp=s1.dp
 bd1:iB dn f.ta<=s1.ta/\s1.ta<=gF dn f.ta
 bd2:iB sn f.so<=s2.so/\s2.so<=gF sn f.so
theorem dN(M:Made S dn sn f s1 s2):MF dn sn f s1 s2:=by
 refine qC (iN M.hd M.fo M.n1) λo1 p1 _=>?_
 refine qC (iN M.hs o1 M.n2) λo2 p2 _=>?_
 refine aE M.n1 λa p ha hp e=>?_
 refine aE M.n2 λa2 q ha2 hq e2=>?_
 have f1:s1.so=f.so/\(f.pr≠1->s1.sp=f.sp)/\(f.pr=1->s1.dp=f.dp)/\s1.ta=a:=by
  subst e
  by_cases c:f.pr=1<;>simp[bV,cK,c]
 have f2:s2.ta=s1.ta/\s2.dp=s1.dp/\s2.so=a2:=by subst e2;simp[bV,cK]
 refine⟨o1,o2,p2.trans p1,p1,f1.1,f1.2.1,f1.2.2.1,f2.1,f2.2.1,?_,?_⟩
 ·rw[f1.2.2.2];exact ha
 ·rw[f2.2.2, <-f1.1];exact ha2
theorem J3(M:Made S dn sn f s1 s2):(f.pr=1\/iP dn=none->s2.dp=f.dp)/\(f.pr≠1->∀a b,iP dn=some (a,b)->a<=s2.dp/\s2.dp<=b):=by
 have F:=dN M
 refine aE M.n1 λa p ha hp e=>?_
 have hdp:f.pr≠1->s1.dp=p:=by intro c;subst e;simp[bV,cK,c]
 have F9:=F.dp2
 refine⟨?_,λc x y q=>?_⟩
 ·intro h
  rw[F9]
  by_cases c:f.pr=1
  ·exact F.dp1 c
  ·have q:=h.resolve_left c
   rw[hdp c]
   rcases hp.free q with r|⟨lo,hi,r,-⟩
   ·rw[r];simp[po,cK,c]
   ·simp[d7,cK,c]at r
 ·rw[F9,hdp c]
  exact hp.told x y q
theorem GD(M:Made S dn sn f s1 s2):(∀a b,iP sn=some (a,b)->a<=s2.sp/\s2.sp<=b)/\(iP sn=none->f.pr≠1->cls s2.sp=cls f.sp):=by
 have F:=dN M
 refine aE M.n2 λa p ha hp e=>?_
 have hsp:s2.sp=p:=by subst e;simp[bV]
 refine⟨λx y q=>by rw[hsp];exact hp.told x y q,λq c=>?_⟩
 rw[hsp]
 have e1:s1.sp=f.sp:=F.sp1 c
 have c':s1.pr≠1:=by rw[F.p1];exact c
 rcases hp.free q with r|⟨lo,hi,r,r1,r2⟩
 ·rw[r,tF];simp[po,e1]
 ·have c'':(cK true s1 a).pr≠1:=c'
  have e1':(cK true s1 a).sp=f.sp:=e1
  simp only[d7]at r
  rw[if_neg c'',e1']at r
  unfold cls
  split at r
  ·cases r;rw[if_pos (by lia),if_pos (by lia)]
  ·rw[if_neg (by assumption:¬f.sp<512)]
   split at r
   ·cases r;rw[if_neg (by lia),if_pos (by lia),if_pos (by assumption)]
   ·cases r;rw[if_neg (by lia),if_neg (by lia),if_neg (by assumption)]
theorem I5(M:Made S dn sn f s1 s2):(∀a b,iP sn=some (a,b)->a<=f.sp/\f.sp<=b)->w6 sn=false->(f.pr=1->iP dn=none/\w6 dn=false)->kE S ⟨f.pr,s2.so,f.sp,s2.ta,s2.dp⟩=false->s2.sp=f.sp:=by
 intro h1 h2 h3 h4
 have F:=dN M
 obtain⟨o1,o2,p2,p1,so1,sp1,dp1,ta2,dp2,bd1,bd2⟩:=F
 have e1:s1.sp=f.sp:=by
  by_cases c:f.pr=1
  ·refine aE M.n1 λa p ha hp e=>?_
   have had:=LD M.hd M.fo ha
   have es:s1.sp=p/\s1.ta=a:=by subst e;simp[bV,cK,c]
   obtain⟨q1,q2⟩:=h3 c
   rw[q1,q2]at hp
   rcases eu:jR S (cK false f a)
   ·rw[es.1,hp.kept rfl (by simp) eu];simp[po,cK,c]
   ·exfalso
    rw[nZ (s:=cK false f a) M.St (jB M.fo had) (show wW f.so from KH M.fs)]at eu
    refine aT (nW eu) λu hu eo=>?_
    have U:=M.St u hu
    have b:=U.bd
    rw[eo]at b
    have:=M.sno.mix f.so u.f.so s2.so M.fs U.fs b.1 b.2 bd2.1 bd2.2
    have e3:(⟨f.pr,s2.so,f.sp,s2.ta,s2.dp⟩:Sd)=cK false f a:=by
     rw[this,ta2,es.2,dp2,dp1 c];rfl
    rw[e3,eu]at h4;injection h4
  ·exact sp1 c
 refine aE M.n2 λa p ha hp e=>?_
 have es:s2.sp=p/\s2.so=a:=by subst e;simp[bV,cK]
 have had:=LD M.hs o1 ha
 rw[es.1,hp.kept h2 ?_ ?_]
 ·rw[tF];simp[po,e1]
 ·intro x y q
  rw[tF]
  have:po true s1=f.sp:=by simp[po,e1]
  rw[this]
  exact aG (dT (h1 x y q).1) (dT (h1 x y q).2)
 ·have e3:cK true s1 a=⟨f.pr,s2.so,f.sp,s2.ta,s2.dp⟩:=by
   rw[es.2,ta2,dp2, <-e1, <-p1];rfl
  rw[nZ M.St (jB o1 had) ?_,e3]
  ·exact h4
  ·show wW a
   rw[<-es.2];exact M.sno.far f.so _ M.fs bd2.1 bd2.2
theorem NY{b w i j:Int}(h:i<j)(hw:j-i<w):(b+i)%w≠(b+j)%w:=λe=>by
 have:=Int.emod_eq_emod_iff_emod_sub_eq_zero.mp e.symm
 rw[show b+j-(b+i)=j-i by lia,Int.emod_eq_of_lt (by lia) hw]at this
 lia
theorem KA{lo hi b j:Int}(hw:lo+100<=hi)(hb:0<=lo/\hi<65536):0<=lo+(b+j)%(hi-lo+1)/\lo+(b+j)%(hi-lo+1)<65536:=by
 have m0:=Int.emod_nonneg (b+j) (show hi-lo+1≠0 by lia)
 have m1:=Int.emod_lt_of_pos (b+j) (show 0<hi-lo+1 by lia)
 generalize (b+j)%(hi-lo+1)=x at*
 lia
theorem SP{lo hi i j:Int}(hw:lo+100<=hi)(h:j<3+i):j-i<hi-lo+1:=by lia
theorem LQ{lo hi:Int}(hw:lo+100<=hi):0<hi-lo+1/\1<hi-lo+1/\2<hi-lo+1:=by lia
theorem x9{lo hi:Int}(q:d7 true s none=some (lo,hi)):lo+100<=hi:=by
 simp only[d7]at q
 split at q
 ·obtain⟨rfl,rfl⟩:=Prod.mk.inj (Option.some.inj q);decide
 ·split at q
  ·obtain⟨rfl,rfl⟩:=Prod.mk.inj (Option.some.inj q);decide
  ·split at q<;>(obtain⟨rfl,rfl⟩:=Prod.mk.inj (Option.some.inj q);decide)
theorem C6(M:Made S dn sn f s1 s2)(h:kE S s2=true):∃p q,iP sn=some (p,q)/\(q=p\/q=p+1)/\(0<=p/\p<65536)/\∀x,p<=x->x<=q->kE S { s2 with sp:=x }=true:=by
 have F:=dN M
 obtain⟨o1,o2,p2,p1,so1,sp1,dp1,ta2,dp2,bd1,bd2⟩:=F
 have far2:wW s2.so:=M.sno.far f.so _ M.fs bd2.1 bd2.2
 refine aE M.n2 λa p ha hp e=>?_
 have hu:jR S s2=true:=by rw[nZ M.St o2 far2];exact h
 have hpt:∀x y,iP sn=some (x,y)->x<=y/\y<=x+1/\0<=x/\y<65536:=by
  intro x y q
  have:=M.hs.pt x y
  obtain⟨md,pt,fl,rnd,per⟩:=sn
  rcases md<;>simp only[iP]at q<;>first|exact this q|injection q
 have had:=LD M.hs o1 ha
 have es:∀x,bV true (cK true s1 a) x={ s2 with sp:=x }:=by intro x;subst e;simp[bV,cK]
 have hi:∀x,0<=x/\x<65536->jR S (bV true (cK true s1 a) x)=true->kE S { s2 with sp:=x }=true:=by
  intro x hx q
  rw[nZ M.St (nK (jB o1 had) hx) (by rw[es];exact far2),es]at q
  exact q
 rcases hp.full rfl (by rw[<-e];exact hu)with⟨x,q⟩|⟨lo,hi',b,q,b0,b1,all⟩
 ·have t:=hp.told x x q
  have:=hpt x x q
  refine⟨x,x,q,.inl rfl,by lia,λy y1 y2=>?_⟩
  have:y=s2.sp:=by
   have:s2.sp=p:=by subst e;simp[bV]
   lia
  rw[this];exact h
 ·induction ept:iP sn using Option.casesOn with
  |none=>
    exfalso
    rw[ept]at q
    have hb:=k7 (m:=true) (s:=cK true s1 a) (pt:=none) (by simp) q
    have hw:=x9 q
    have rng:∀j,0<=lo+(b+j)%(hi'-lo+1)/\lo+(b+j)%(hi'-lo+1)<65536:=λj=>KA hw hb.2
    have ne:∀i j:Int,i<j->j<3+i->({ s2 with sp:=lo+(b+i)%(hi'-lo+1) }:Sd)≠{ s2 with sp:=lo+(b+j)%(hi'-lo+1) }:=λi j h1 h2 e=>NY h1 (SP hw h2) (Int.add_left_cancel (congrArg Sd.sp e))
    have H:=LQ hw
    exact three M.len (hi _ (rng 0) (all 0 (by decide) H.1 (by decide))) (hi _ (rng 1) (all 1 (by decide) H.2.1 (by decide))) (hi _ (rng 2) (all 2 (by decide) H.2.2 (by decide))) (ne 0 1 (by decide) (by decide)) (ne 0 2 (by decide) (by decide)) (ne 1 2 (by decide) (by decide))
  |some pq=>
    obtain⟨x,y⟩:=pq
    rw[ept]at q
    simp only[d7,Option.some.injEq,Prod.mk.injEq]at q
    obtain⟨rfl,rfl⟩:=q
    have:=hpt x y ept
    refine⟨x,y,rfl,by lia,by lia,λz z1 z2=>hi z (by lia) ?_⟩
    rcases(by lia:y=x\/y=x+1)with c|c
    ·have:=all 0 (by lia) (by lia) (by lia)
     have e:x+(b+0)%(y-x+1)=z:=by
      rw[c];rw[show x-x+1=(1:Int)by lia,Int.emod_one];lia
     rwa [e]at this
    ·rw[c]at all
     rw[show x+1-x+1=(2:Int)by lia]at all
     by_cases d:(b+0)%2=z-x
     ·have:=all 0 (by lia) (by lia) (by lia)
      rw[d,show x+(z-x)=z by lia]at this;exact this
     ·have:=all 1 (by lia) (by lia) (by lia)
      rw[show(b+1)%2=z-x by lia,show x+(z-x)=z by lia]at this;exact this
theorem JU(M:Made S dn sn f s1 s2)(k:Int):nF sn ⟨k,f,s2,Builtin.bitOr (f9 true (!decide (s2=s1)) (f9 false (!decide (s1=f)) 0)) 8⟩:=by
 have F:=dN M
 obtain⟨o1,o2,p2,p1,so1,sp1,dp1,ta2,dp2,bd1,bd2⟩:=F
 have z16:Builtin.bitAnd (Builtin.bitOr (f9 true (!decide (s2=s1)) (f9 false (!decide (s1=f)) 0)) 8) 16=0->s2=s1:=by
  by_cases c:s2=s1
  ·exact λ_=>c
  ·rw[dF c]
   rcases decide (s1=f)<;>(intro q;exact absurd q (by decide+kernel))
 have z32:Builtin.bitAnd (Builtin.bitOr (f9 true (!decide (s2=s1)) (f9 false (!decide (s1=f)) 0)) 8) 32=0->s1=f:=by
  by_cases c:s1=f
  ·exact λ_=>c
  ·rw[dF c]
   rcases decide (s2=s1)<;>(intro q;exact absurd q (by decide+kernel))
 constructor
 ·exact M.fo
 ·exact o2
 ·exact M.fa
 ·exact M.fs
 ·exact bd2
 ·exact p2
 ·have:=M.dno f.ta (by have:=M.fa;lia)
  show s2.ta<_
  rw[ta2];lia
 ·exact λc=>⟨dp2.trans (dp1 c),M.dp c⟩
 ·intro q
  have:=z16 q
  exact⟨by show s2.so=f.so;rw[this,so1],λc=>by show s2.sp=f.sp;rw[this,sp1 c]⟩
 ·intro q
  have:=z32 q
  exact⟨by show s2.ta=f.ta;rw[ta2,this],λc=>by show s2.dp=f.dp;rw[dp2,this]⟩
 ·intro q1 q2
  show s2.sp=f.sp
  rw[z16 q1,z32 q2]
end
theorem kI(h:b7 x l=none):dD x d l=l++[(x,d)]:=by
 induction l with
 |nil=>rfl
 |cons p l ih=>
   obtain⟨y,e⟩:=p
   have h':(match bQ y x with|true=>some e|false=>b7 x l)=none:=h
   show(match bQ y x with|true=>(y,d)::l|false=>(y,e)::dD x d l)=_
   rcases c:bQ y x
   ·rw[c]at h'
    simp only at h' ⊢
    rw[ih h'];rfl
   ·rw[c]at h';injection h'
theorem CK(h:b7 x l=none)(hy:bQ y x=false):b7 x (l++[(y,d)])=none:=by
 induction l with
 |nil=>show(match bQ y x with|true=>some d|false=>none)=none;rw[hy]
 |cons p l ih=>
   obtain⟨z,e⟩:=p
   have h':(match bQ z x with|true=>some e|false=>b7 x l)=none:=h
   show(match bQ z x with|true=>some e|false=>b7 x (l++[(y,d)]))=none
   rcases c:bQ z x
   ·rw[c]at h';exact ih h'
   ·rw[c]at h';injection h'
theorem PK(h:eS n l=true)(hp:(aL p.1==n)=true):eS n (l++[p])=true:=by
 induction l with
 |nil=>exact aG hp rfl
 |cons q l ih=>
   have h':(aL q.1==n&&eS n l)=true:=h
   rw[Bool.and_eq_true]at h'
   exact aG h'.1 (ih h'.2)
theorem L2(S:List Tk)(t:Tk):b9 (S++[t])=b9 S++[(fA t.f,.tup [.int t.n,.int 0])]++[(fA (turn t.o),.tup [.int t.n,.int 1])]:=by
 induction S with
 |nil=>rfl
 |cons u S ih=>simp only[List.cons_append,b9,ih]
theorem oE{k:Int}(h:∀t∈S,t.n≠k):b7 (.int k) (cI S)=none:=by
 induction S with
 |nil=>rfl
 |cons u S ih=>
   show(match bQ (.int u.n) (.int k)with|true=>_|false=>b7 (.int k) (cI S))=none
   rw[aB,dF (h u (by simp))]
   exact ih λt ht=>h t (by simp[ht])
theorem K3{k:Int}:R (n+1) "Talk" [.int k,a,b,.int 0] [h0,h1,h2,h3,h4,h5,h6,h7,h8] K=K (.ref 9) [h0,h1,h2,h3,h4,h5,h6,h7,h8,fE k a b 0 0]:=by kernel_rfl
theorem KP(hn:1<=n){k:Int}(h:K (.ref 9) [h0,h1,h2,h3,h4,h5,h6,h7,h8,fE k a b 0 0]):R n "Talk" [.int k,a,b,.int 0] [h0,h1,h2,h3,h4,h5,h6,h7,h8] K:=by
 obtain⟨m,rfl⟩:∃m,n=m+1:=⟨n-1,by lia⟩
 rw[K3];exact h
theorem IF(hn:2<=n){pr k u st:Int}(hst:Builtin.bitAnd st (Builtin.bitOr 8 (jW true))≠0)(h:K acc [h0,h1,h2,h3,h4,aK pr,h6,iG 1 2,dQ (.ref 9) 8 0,fE k o r u st]):
  R n "nat_request" [.ref 8,.tup [.str "snat",.int 2,.int 1,.int 1,.none,.tup []]] [h0,h1,h2,h3,h4,aK pr,h6,iG 1 2,dQ (.ref 9) 8 0,fE k o r u st] K:=by
 obtain⟨n,rfl⟩:=aU hn
 refine fD (m:=true) (by lia) ?_
 symm
 rw[show(!bQ (V.int (Builtin.bitAnd st (Builtin.bitOr 8 128))) (V.int 0))=true from oQ hst]
 exact h
section
variable {s s1 s2 f:Sd}{seed k st:Int}{S:List Tk}{dn sn:Ru}{d l:List Int}{bare:Bool}{kk:aR->Hp->Prop}
noncomputable abbrev R0 (dn sn:Ru) (k:Int) (f s:Sd) (d:List Int) (bare:Bool) (x2:V):aR:=iD dn sn k f d bare++([("place",.int 1),("manip",.str (mn true)),("rule",cH true sn),("said",x2),("outer",aF s)]:aR)
theorem L4(hn:6<=n)(M:Made S dn sn f s1 s2)(hS:w5 S k)(hd:d.length<=3)(hp:Pk bare s2 d l)(hf:jK S f=none)(hi:kE S s2=false)
  (hst:Builtin.bitAnd (Builtin.bitOr st 8) (Builtin.bitOr 8 (jW true))≠0)
  (h:K (.bool true) [b4 seed,.dct (b9 (S++[⟨k,f,s2,Builtin.bitOr st 8⟩])),.dct (cI S++[(.int k,.ref 9)]),.lst (bG (S++[⟨k,f,s2,Builtin.bitOr st 8⟩])),.lst (cM (S++[⟨k,f,s2,Builtin.bitOr st 8⟩])),aK f.pr,.bar l,iG 1 2,dQ (.ref 9) 8 0,fE k (aI f) (aI (turn s2)) 9 (Builtin.bitOr st 8)]):
  seg n "_law_new" 10 (R0 dn sn k f s2 d bare x2) (HL seed S f.pr l k f s2 st) K:=by
 have F:=dN M
 obtain⟨o1,o2,p2,p1,so1,sp1,dp1,ta2,dp2,bd1,bd2⟩:=F
 have far2:wW s2.so:=M.sno.far f.so _ M.fs bd2.1 bd2.2
 have hu:jR S s2=false:=by rw[nZ M.St o2 far2];exact hi
 have hfn:jK S (turn s2)=none:=by unfold jR at hu;induction e:jK S (turn s2)using Option.casesOn with|none=>rfl|some p=>rw[e]at hu;injection hu
 have ne:f≠turn s2:=by
  intro q
  have:=M.fa
  rw[q]at this
  have e:(turn s2).ta=s2.so:=by unfold turn;split<;>rfl
  rw[e]at this
  rcases this with h|h
  ·exact far2.1 h
  ·exact far2.2 h
 have l1:b7 (fA f) (b9 S)=none:=by rw[jM M.fo hS.ok,hf];rfl
 have l2:b7 (fA (turn s2)) (b9 S++[(fA f,.tup [.int k,.int 0])])=none:=by
  refine CK ?_ ?_
  ·rw[jM (bH o2) hS.ok,hfn];rfl
  ·rw[tI M.fo (bH o2),dF ne]
 have l3:b7 (.int k) (cI S)=none:=oE hS.ne
 have d1:bW (fA f) (b9 S)=true:=sU f hS.len
 have d2:bW (fA (turn s2)) (b9 S++[(fA f,.tup [.int k,.int 0])])=true:=aG (aG rfl (PK (FH S) rfl)) (fits_of (by have:=hS.len;simp[AI];lia))
 have d3:bW (.int k) (cI S)=true:=z5 k hS.len
 have fo:fits (bG S)=true:=fits_of (by have:=hS.len;simp[bG];lia)
 have fn:fits (cM S)=true:=fits_of (by have:=hS.len;simp[cM];lia)
 have l1':=kI (d:=.tup [.int k,.int 0]) l1
 have l2':=kI (d:=.tup [.int k,.int 1]) l2
 have l3':=kI (d:=.ref 9) l3
 unfold fA at l1 l2 l3 d1 d2 l1' l2' l3'
 symm
 refine gm (d1) ?_
 symm
 rw[l1']
 refine gm (d2) ?_
 symm
 rw[l2']
 refine gm (d3) ?_
 symm
 rw[l3']
 refine gm (fo) ?_
 symm
 refine gm (fn) ?_
 symm
 have eo:bG (S++[⟨k,f,s2,Builtin.bitOr st 8⟩])=bG S++[aF s2]:=by simp[bG]
 have en:cM (S++[⟨k,f,s2,Builtin.bitOr st 8⟩])=cM S++[.int k]:=by simp[cM]
 have et:b9 (S++[⟨k,f,s2,Builtin.bitOr st 8⟩])=b9 S++[(fA f,.tup [.int k,.int 0])]++[(fA (turn s2),.tup [.int k,.int 1])]:=L2 S _
 apply cN (B:=seg n "_law_new" 16 (R0 dn sn k f s2 d bare x2) [b4 seed,.dct (b9 S++[(fA f,.tup [.int k,.int 0])]++[(fA (turn s2),.tup [.int k,.int 1])]),.dct (cI S++[(.int k,.ref 9)]),.lst (bG S++[aF s2]),.lst (cM S++[.int k]),aK f.pr,.bar l,iG 1 2,dQ (.ref 9) 8 0,fE k (aI f) (aI (turn s2)) 9 (Builtin.bitOr st 8)] K)
 ·kernel_rfl
 rw[<-eo, <-en, <-et]
 refine IF (by lia) hst ?_
 symm
 rw[<-p2]at h ⊢
 refine fQ (by lia) o2 hd hp ?_
 refine cL (by lia) o2 ?_
 symm
 rw[lD (bH o2) (bH o2),dT rfl]
 exact h
end
section
variable {s s1 s2 f:Sd}{seed k st:Int}{S:List Tk}{dn sn:Ru}{d l:List Int}{bare:Bool}{kk:aR->Hp->Prop}
theorem PN(hn:6<=n)(M:Made S dn sn f s1 s2)(hS:w5 S k)(hd:d.length<=3)(hdo:fB d)(hp:Pk bare s2 d l)(hf:jK S f=none)
  (h1:kE S s2=false->nF sn ⟨k,f,s2,Builtin.bitOr (f9 true (!decide (s2=s1)) (f9 false (!decide (s1=f)) 0)) 8⟩->K (.bool true) [b4 seed,.dct (b9 (S++[⟨k,f,s2,Builtin.bitOr (f9 true (!decide (s2=s1)) (f9 false (!decide (s1=f)) 0)) 8⟩])),.dct (cI S++[(.int k,.ref 9)]),.lst (bG (S++[⟨k,f,s2,Builtin.bitOr (f9 true (!decide (s2=s1)) (f9 false (!decide (s1=f)) 0)) 8⟩])),.lst (cM (S++[⟨k,f,s2,Builtin.bitOr (f9 true (!decide (s2=s1)) (f9 false (!decide (s1=f)) 0)) 8⟩])),aK f.pr,.bar l,iG 1 2,dQ (.ref 9) 8 0,fE k (aI f) (aI (turn s2)) 9 (Builtin.bitOr (f9 true (!decide (s2=s1)) (f9 false (!decide (s1=f)) 0)) 8)])
  (h2:K (.bool true) (HL seed S f.pr l k f s2 (f9 true (!decide (s2=s1)) (f9 false (!decide (s1=f)) 0)))):
  seg n "_law_new" 7 (iD dn sn k f d bare++([("place",.int 1),("manip",.str (mn true)),("rule",cH true sn),("said",x2)]:aR)) (HL seed S f.pr l k f s2 (f9 true (!decide (s2=s1)) (f9 false (!decide (s1=f)) 0))) K:=by
 have F:=dN M
 obtain⟨o1,o2,p2,p1,so1,sp1,dp1,ta2,dp2,bd1,bd2⟩:=F
 have h1:=λq=>h1 q (JU M k)
 have hbit:Builtin.bitAnd (Builtin.bitOr (f9 true (!decide (s2=s1)) (f9 false (!decide (s1=f)) 0)) 8) (Builtin.bitOr 8 (jW true))≠0:=by
  rcases decide (s2=s1)<;>rcases decide (s1=f)<;>decide+kernel
 obtain⟨st,est⟩:∃st,st=f9 true (!decide (s2=s1)) (f9 false (!decide (s1=f)) 0):=⟨_,rfl⟩
 rw[<-est]at h1 h2 hbit ⊢
 refine KW (s:=s2) (by lia) o2 hd hp ?_
 symm
 have tail:=λ(q:kE S s2=false)=>L4 (x2:=x2) hn M hS hd hp hf q hbit (h1 q)
 clear h1
 rw[<-p2]at h2 tail ⊢
 refine zS (by lia) o2 hd hdo hp ?_
 symm
 have c2:=J3 M
 have c4:=GD M
 have bd1':iB dn f.ta<=s2.ta/\s2.ta<=gF dn f.ta:=by rw[ta2];exact bd1
 refine ML (by lia) M.hd.fl M.hs.fl bd1' c2.1 c2.2 bd2 c4.1 c4.2 (I5 M) ?_
 symm
 have k1:=fG S s2
 have k2:=jE S s2
 refine gm (k1) ?_
 symm
 rw[k2]
 rcases ei:kE S s2
 ·apply cN (b:=(tail ei));kernel_rfl
 ·refine j5 (C6 M ei) λp q e1 e2 e3 e4=>?_
  refine LH (by lia) M.hs.fl e1 e2 e3 e4 ?_
  exact h2
end
noncomputable def base (seed:Int) (S:List Tk):Hp:=[b4 seed,.dct (b9 S),.dct (cI S),.lst (bG S),.lst (cM S)]
theorem aC{β γ:Type}{f:β->Option γ}{x:β}{y:γ}{xs:List β}{ys:List γ}(h:f x=some y)(h2:cG f xs=some ys):cG f (x::xs)=some (y::ys):=by
 show(match f x with|none=>none|some y=>match cG f xs with|none=>none|some ys=>some (y::ys))=_
 rw[h,h2]
theorem FP{β γ:Type}{f:β->Option γ}{a b:List β}{a' b':List γ}(h:cG f a=some a')(h2:cG f b=some b'):cG f (a++b)=some (a'++b'):=by
 induction a generalizing a' with
 |nil=>obtain rfl:=Option.some.inj h;exact h2
 |cons x xs ih=>
   have h':(match f x with|none=>none|some y=>match cG f xs with|none=>none|some ys=>some (y::ys))=some a':=h
   induction e:f x using Option.casesOn with
   |none=>rw[e]at h';injection h'
   |some y=>
     rw[e]at h'
     induction e2:cG f xs using Option.casesOn with
     |none=>rw[e2]at h';injection h'
     |some ys=>
       rw[e2]at h';obtain rfl:=Option.some.inj h'
       exact aC e (ih e2)
theorem y6{S:List Tk}{k:Int}{v:V}(h:fz 7 9 H (.ref 9)=some v):fz 8 9 H (.dct (cI S++[(.int k,.ref 9)]))=some (.dct (cI S++[(.int k,v)])):=by
 show(cG (λp=>match aL p.1 != 0 with|true=>(fz 7 9 H p.2).map (p.1, ·)|false=>none) (cI S++[(.int k,.ref 9)])).map V.dct=_
 rw[FP (a':=cI S) (b':=[(.int k,v)]) (jL ?_) (aC ?_ rfl)];rfl
 ·intro p hp
  simp only[cI,List.mem_map]at hp
  refine aT hp λt _ e91=>?_
  clear hp
  subst e91
  rfl
 ·show(fz 7 9 H (.ref 9)).map _=_
  rw[h];rfl
section
variable {s s1 s2 f:Sd}{seed k st:Int}{S:List Tk}{dn sn:Ru}{d l:List Int}{bare:Bool}{kk:aR->Hp->Prop}
theorem drop_new{pr:Int}(f:Sd){t:Tk}(h:K (.bool true) (base seed (S++[t])++[aK pr,.bar l,iG 1 2,dQ (DP t) 8 0])):
  g8 False 9 (.bool true) [b4 seed,.dct (b9 (S++[t])),.dct (cI S++[(.int t.n,.ref 9)]),.lst (bG (S++[t])),.lst (cM (S++[t])),aK pr,.bar l,iG 1 2,dQ (.ref 9) 8 0,DP t] K:=by
 refine ob (x:=.bool true) rfl ?_
 refine ob (x:=base seed (S++[t])++[aK pr,.bar l,iG 1 2,dQ (DP t) 8 0]) ?_ h
 show cG (fz 8 9 _) [b4 seed,.dct (b9 (S++[t])),.dct (cI S++[(.int t.n,.ref 9)]),.lst (bG (S++[t])),.lst (cM (S++[t])),aK pr,.bar l,iG 1 2,dQ (.ref 9) 8 0]=_
 have e:cI (S++[t])=cI S++[(.int t.n,DP t)]:=by simp[cI]
 unfold base
 rw[e]
 refine aC rfl (aC (pF 9 _ _) (aC (y6 rfl) (aC (oV 9 _ _) (aC (n7 9 _ _) (aC rfl (aC rfl (aC rfl (aC rfl rfl))))))))
theorem IC{pr u st:Int}{o r:Sd}(h:K (.bool true) (base seed S++[aK pr,.bar l,iG 1 2,dQ (fE k (aI o) (aI r) u st) 8 0])):
  g8 False 9 (.bool true) (HR seed S (.lst (bG S)) (.lst (cM S)) pr (.bar l) k (aI o) (aI r) u st) K:=by
 refine ob (x:=.bool true) rfl ?_
 refine ob (x:=base seed S++[aK pr,.bar l,iG 1 2,dQ (fE k (aI o) (aI r) u st) 8 0]) ?_ h
 show cG (fz 8 9 _) [b4 seed,.dct (b9 S),.dct (cI S),.lst (bG S),.lst (cM S),aK pr,.bar l,iG 1 2,dQ (.ref 9) 8 0]=_
 refine aC rfl (aC (pF 9 _ _) (aC (tX 9 _ _) (aC (oV 9 _ _) (aC (n7 9 _ _) (aC rfl (aC rfl (aC rfl (aC rfl rfl))))))))
theorem QG:R (n+1) "_law_new" as H K=cD False And aN (run False And aN top n) (fnX "_law_new") as H (λd H'=>g8 False H.length d H' K):=by kernel_rfl
structure Pre (S:List Tk) (dn sn:Ru) (f:Sd) (k:Int):Prop where
 fo:f.Ok
 fa:f.ta=3325256705\/f.ta=3325256706
 fs:vE f.so
 dp:f.pr=1->f.dp=8
 hd:jQ false dn
 hs:jQ true sn
 sno:r9 sn
 dno:I3 dn
 St:∀t∈S,nF sn t
 len:S.length<=2
 nd:Nd S
 ne:∀t∈S,t.n≠k
theorem DU(hn:12<=n)(P:Pre S dn sn f k)(hd:d.length<=3)(hdo:fB d)(hp:Pk bare f d l)(hf:jK S f=none)
  (h1:∀s2 st l,kE S s2=false->nF sn ⟨k,f,s2,st⟩->K (.bool true) [b4 seed,.dct (b9 (S++[⟨k,f,s2,st⟩])),.dct (cI S++[(.int k,.ref 9)]),.lst (bG (S++[⟨k,f,s2,st⟩])),.lst (cM (S++[⟨k,f,s2,st⟩])),aK f.pr,.bar l,iG 1 2,dQ (.ref 9) 8 0,fE k (aI f) (aI (turn s2)) 9 st])
  (h2:∀s2 st l,K (.bool true) (HL seed S f.pr l k f s2 st)):
  cD False And aN (run False And aN top n) (fnX "_law_new") [gE (.lst [cH false dn,cH true sn]),.int k,.ref 8,aF f,.lst (d.map .int),.bool bare] [b4 seed,.dct (b9 S),.dct (cI S),.lst (bG S),.lst (cM S),aK f.pr,.bar l,iG 1 2,dQ .none 1 0] K:=by
 have hS:w5 S k:=⟨λt ht=>⟨(P.St t ht).f,(P.St t ht).o⟩,P.nd,by have:=P.len;lia,P.ne⟩
 have hso:f.so≠0:=by have:=P.fs;unfold vE at this;lia
 refine fQ (by lia) P.fo hd hp ?_
 refine cL (by lia) P.fo ?_
 refine KP (by lia) ?_
 symm
 apply cN (B:=forL False (fnX "_law_new").sc (λrho H k r=>eO False And aN (run False And aN top n) sV ⟨(fnX "_law_new").sc,rho,[]⟩ H k r) QY (jT False none 10) [.int 0,.int 1] (iD dn sn k f d bare) (HL seed S f.pr l k f f 0) (λrho H=>seg n "_law_new" 7 rho H K) K)
 ·kernel_rfl
 refine MN hn P.fo hso hS hd hp P.hd P.hs λs1 s2 l x2 N1 N2 hp=>?_
 exact PN (by lia) ⟨P.fo,P.fa,P.fs,P.dp,P.hd,P.hs,P.sno,P.dno,P.St,P.len,N1,N2⟩ hS hd hdo hp hf (λq T=>h1 _ _ _ q T) (h2 _ _ _)
theorem GC(hn:13<=n)(P:Pre S dn sn f k)(hd:d.length<=3)(hdo:fB d)(hp:Pk bare f d l)(hf:jK S f=none)
  (h1:∀s2 st l sc,kE S s2=false->nF sn ⟨k,f,s2,st⟩->K (.bool true) (base seed (S++[⟨k,f,s2,st⟩])++[aK f.pr,.bar l,iG 1 2,sc]))
  (h2:∀l sc,K (.bool true) (base seed S++[aK f.pr,.bar l,iG 1 2,sc])):
  R n "_law_new" [gE (.lst [cH false dn,cH true sn]),.int k,.ref 8,aF f,.lst (d.map .int),.bool bare] [b4 seed,.dct (b9 S),.dct (cI S),.lst (bG S),.lst (cM S),aK f.pr,.bar l,iG 1 2,dQ .none 1 0] K:=by
 obtain⟨n,rfl⟩:=aU hn
 rw[QG]
 refine DU (by lia) P hd hdo hp hf (λs2 st l q T=>?_) (λs2 st l=>?_)
 ·exact drop_new f (t:=⟨k,f,s2,st⟩) (h1 s2 st l _ q T)
 ·exact IC (h2 l _)
end
noncomputable def ES (S:List Tk):Prop:=∀t∈S,∀u∈S,t.f≠turn u.o
theorem R3(ht:t∈S)(hf:(S.map (·.f)).Nodup)(hc:ES S):jK S t.f=some (t,0):=by
 induction S with
 |nil=>rcases ht
 |cons u S ih=>
   rw[show jK (u::S) t.f=if u.f=t.f then some (u,0)else if turn u.o=t.f then some (u,1)else jK S t.f from rfl]
   simp only[List.map_cons,List.nodup_cons]at hf
   rcases List.mem_cons.mp ht with rfl|ht'
   ·rw[if_pos rfl]
   ·rw[if_neg (λq=>hf.1 (by rw[q];exact List.mem_map_of_mem ht')),if_neg (λq=>hc t ht u (by simp) q.symm)]
    exact ih ht' hf.2 λa ha b hb=>hc a (by simp[ha]) b (by simp[hb])
theorem SN(ht:t∈S)(hS:∀t∈S,t.Ok)(ho:(S.map (·.o)).Nodup)(hc:ES S):jK S (turn t.o)=some (t,1):=by
 induction S with
 |nil=>rcases ht
 |cons u S ih=>
   rw[show jK (u::S) (turn t.o)=if u.f=turn t.o then some (u,0)else if turn u.o=turn t.o then some (u,1)else jK S (turn t.o)from rfl]
   simp only[List.map_cons,List.nodup_cons]at ho
   rw[if_neg (hc u (by simp) t ht)]
   rcases List.mem_cons.mp ht with rfl|ht'
   ·rw[if_pos rfl]
   ·rw[if_neg ?_]
    ·exact ih ht' (λa ha=>hS a (by simp[ha])) ho.2 λa ha b hb=>hc a (by simp[ha]) b (by simp[hb])
    ·intro q
     have:=congrArg turn q
     rw[cV (hS u (by simp)).2,cV (hS t ht).2]at this
     exact ho.1 (by rw[this];exact List.mem_map_of_mem ht')
theorem rH(hS:∀t∈S,nF sn t)(hn:r9 sn):ES S:=by
 intro t ht u hu q
 have:=(hS t ht).fa
 rw[q]at this
 have e:(turn u.o).ta=u.o.so:=by unfold turn;split<;>rfl
 rw[e]at this
 have:=hn.far _ _ (hS u hu).fs (hS u hu).bd.1 (hS u hu).bd.2
 unfold wW at this;lia
structure Inv (sn:Ru) (S:List Tk):Prop where
 tk:∀t∈S,nF sn t
 nd:Nd S
 nf:(S.map (·.f)).Nodup
 no:(S.map (·.o)).Nodup
 len:S.length<=3
 sno:r9 sn
theorem Inv.ok(I:Inv sn S):∀t∈S,t.Ok:=λt ht=>⟨(I.tk t ht).f,(I.tk t ht).o⟩
theorem vR(seed:Int)(S:List Tk):gC (base seed S):=by
 simp only[base,gC,List.forall_mem_cons,List.not_mem_nil,false_implies,implies_true,and_true]
 exact⟨λ_=>rfl,pF _ _,tX _ _,oV _ _,n7 _ _⟩
theorem l4{seed:Int}{b:Bool}(h:K (.bool b) (base seed S)):g8 False 5 (.bool b) (base seed S++ext) K:=
 ob (x:=.bool b) rfl (ob (eF (vR seed S)) h)
theorem vM:R (n+1) "_law_known" as H K=cD False And aN (run False And aN top n) (fnX "_law_known") as H (λd H'=>g8 False H.length d H' K):=by kernel_rfl
theorem w9:R (n+1) "_law_strange" as H K=cD False And aN (run False And aN top n) (fnX "_law_strange") as H (λd H'=>g8 False H.length d H' K):=by kernel_rfl
theorem VN(T:nF sn t):(Builtin.bitAnd t.st 32=0->Builtin.bitAnd t.st 16=0->t.f=t.o)/\(Builtin.bitAnd t.st 32=0->rP t.f t.o=t.o)/\(Builtin.bitAnd t.st 16=0->nH t.f t.o=t.o)/\rP (nH t.f t.o) t.o=t.o:=by
 obtain⟨-,-,-,-,-,hpr,-,hdp,h16,h32,hbb⟩:=T
 obtain⟨k,⟨f1,f2,f3,f4,f5⟩,⟨o1,o2,o3,o4,o5⟩,st⟩:=t
 simp only at*
 subst hpr
 by_cases c:o1=1
 ·obtain⟨d1,d2⟩:=hdp c
  refine⟨λa b=>?_,λa=>?_,λa=>?_,?_⟩
  ·have:=h16 b;have:=h32 a;have:=hbb b a;rw[Sd.mk.injEq];refine⟨?_,?_,?_,?_,?_⟩<;>lia
  ·have:=h32 a;simp only[rP];rw[Sd.mk.injEq];refine⟨?_,?_,?_,?_,?_⟩<;>lia
  ·have:=h16 a;simp only[nH,c,if_true];rw[Sd.mk.injEq];refine⟨?_,?_,?_,?_,?_⟩<;>lia
  ·simp only[nH,rP,c,if_true];rw[Sd.mk.injEq];refine⟨?_,?_,?_,?_,?_⟩<;>lia
 ·refine⟨λa b=>?_,λa=>?_,λa=>?_,?_⟩
  ·have h1:=h16 b;have h2:=h32 a;have h3:=h1.2 c;have h4:=h2.2 c;rw[Sd.mk.injEq];refine⟨?_,?_,?_,?_,?_⟩<;>lia
  ·have h2:=h32 a;have h4:=h2.2 c;simp only[rP];rw[Sd.mk.injEq];refine⟨?_,?_,?_,?_,?_⟩<;>lia
  ·have h1:=h16 a;have h3:=h1.2 c;simp only[nH,c,if_false];rw[Sd.mk.injEq];refine⟨?_,?_,?_,?_,?_⟩<;>lia
  ·simp only[nH,rP,c,if_false]
theorem VM(T:nF sn t):(Builtin.bitAnd t.st 32=0->Builtin.bitAnd t.st 16=0->turn t.o=turn t.f)/\(Builtin.bitAnd t.st 16=0->rP (turn t.o) (turn t.f)=turn t.f)/\(Builtin.bitAnd t.st 32=0->nH (turn t.o) (turn t.f)=turn t.f)/\rP (nH (turn t.o) (turn t.f)) (turn t.f)=turn t.f:=by
 obtain⟨-,-,-,-,-,hpr,-,hdp,h16,h32,hbb⟩:=T
 obtain⟨k,⟨f1,f2,f3,f4,f5⟩,⟨o1,o2,o3,o4,o5⟩,st⟩:=t
 simp only at*
 subst hpr
 by_cases c:o1=1
 ·obtain⟨d1,d2⟩:=hdp c
  refine⟨λa b=>?_,λa=>?_,λa=>?_,?_⟩
  ·have:=h16 b;have:=h32 a;have:=hbb b a;simp only[turn,c,if_true];rw[Sd.mk.injEq];refine⟨?_,?_,?_,?_,?_⟩<;>lia
  ·have:=h16 a;simp only[turn,rP,c,if_true];rw[Sd.mk.injEq];refine⟨?_,?_,?_,?_,?_⟩<;>lia
  ·have:=h32 a;simp only[turn,nH,c,if_true];rw[Sd.mk.injEq];refine⟨?_,?_,?_,?_,?_⟩<;>lia
  ·simp only[turn,nH,rP,c,if_true];rw[Sd.mk.injEq];refine⟨?_,?_,?_,?_,?_⟩<;>lia
 ·refine⟨λa b=>?_,λa=>?_,λa=>?_,?_⟩
  ·have h1:=h16 b;have h2:=h32 a;have h3:=h1.2 c;have h4:=h2.2 c;simp only[turn,c,if_false];rw[Sd.mk.injEq];refine⟨?_,?_,?_,?_,?_⟩<;>lia
  ·have h2:=h16 a;have h4:=h2.2 c;simp only[turn,rP,c,if_false];rw[Sd.mk.injEq];refine⟨?_,?_,?_,?_,?_⟩<;>lia
  ·have h1:=h32 a;have h3:=h1.2 c;simp only[turn,nH,c,if_false];rw[Sd.mk.injEq];refine⟨?_,?_,?_,?_,?_⟩<;>lia
  ·simp only[turn,nH,rP,c,if_false]
section
variable {seed:Int}{S:List Tk}{sn:Ru}{t:Tk}{ru:V}{d:List Int}{bare:Bool}
theorem eR(ho:s.Ok)(hd:d.length<=3)(hdo:fB d):(bU s d bare).length<1000/\28<=(bU s d bare).length/\fB (bU s d bare)/\item (bU s d bare) 0=some 69/\item (bU s d bare) 9=some s.pr/\cut (bU s d bare) 6 8=[64,0]:=by
 have len:28<=(bU s d bare).length/\(bU s d bare).length<1000:=by
  unfold bU qT iH;simp;split<;>(try split)<;>simp<;>lia
 exact⟨len.2,len.1,JM ho hdo,rfl,rfl,rfl⟩
theorem u7(hn:11<=n)(I:Inv sn S)(ht:t∈S)(hd:d.length<=3)(hdo:fB d)(hb:bare=true->t.f.pr=17)
  (h:∀ext,K (.bool true) (base seed S++ext)):
  cD False And aN (run False And aN top n) (fnX "_law_known") [gE ru,.lst ((bU t.f d bare).map .int),.int t.n,.int 0,aF t.o,.lst (d.map .int),.bool bare] (base seed S) K:=by
 have T:=I.tk t ht
 have o0:Sd.Ok t.f:=T.f
 have o1:Sd.Ok t.o:=T.o
 have hp:Pk bare t.f d (bU t.f d bare):=iJ (by exact hb)
 refine kC (eR (bare:=bare) o0 hd hdo) λg1 g2 g3 g4 g5 g6=>?_
 have W:=VN T
 obtain⟨s0,es0⟩:∃s0,s0=t.f:=⟨_,rfl⟩
 obtain⟨s1,es1⟩:∃s1,s1=t.o:=⟨_,rfl⟩
 have hfn:jK S s0=some (t,0):=by rw[es0];exact R3 ht I.nf (rH I.tk I.sno)
 have ht2:turn (turn t.o)=s1:=by rw[es1];exact cV T.o
 have pr0:s0.pr=t.f.pr:=by rw[es0]
 have pr1:s1.pr=t.f.pr:=by rw[es1];exact T.pr
 rw[<-es0]at o0 hp g1 g2 g3 g4 g5 g6 W ⊢
 rw[<-es1]at o1 W ⊢
 obtain⟨l,el⟩:∃l,l=bU s0 d bare:=⟨_,rfl⟩
 rw[<-el]at g1 g2 g3 g4 g5 g6 hp ⊢
 have ov:Sd.Ok (turn t.o):=bH T.o
 have prv:Sd.pr (turn t.o)=t.f.pr:=by rw[cQ,T.pr]
 have fin:∀l',Pk bare s1 d l'->∀tl,R n "_law_is" [.ref 5,aF s1,.lst (d.map .int),.bool bare] (base seed S++aK t.f.pr:: .bar l'::tl) K:=by
  intro l' hl' tl
  have:=zS (n:=n) (h0:=b4 seed) (h1:=.dct (b9 S)) (h2:=.dct (cI S)) (h3:=.lst (bG S)) (h4:=.lst (cM S)) (t:=tl) (K:=K) (by lia) o1 hd hdo hl' (by rw[pr1];exact h _)
  rw[pr1]at this;exact this
 have st2:∀s l',Pk bare s d l'->s.Ok->s.pr=t.f.pr->(Builtin.bitAnd t.st 16=0->s=s1)->rP s s1=s1->∀(K':V->Hp->Prop),(∀l,Pk bare s1 d l->K' .none (base seed S++[aK t.f.pr,.bar l,iG 1 2,dQ (DP t) 1 0]))->R n "translate" [.ref 8,.str "src"] (base seed S++[aK t.f.pr,.bar l',iG 1 2,dQ (DP t) 1 0]) K':=by
  intro s l' hl' os ps h1 h2 K' hK
  by_cases c:Builtin.bitAnd t.st 16=0
  ·refine vB (by lia) c ?_
   rw[h1 c]at hl'
   exact hK _ hl'
  ·have:=u6 (n:=n) (s:=s) (v:=(turn t.o)) (bare:=bare) (h0:=b4 seed) (h1:=.dct (b9 S)) (h2:=.dct (cI S)) (h3:=.lst (bG S)) (h4:=.lst (cM S)) (h7:=iG 1 2) (o:=aI t.f) (k:=t.n) (u:=9) (st:=t.st) (sst:=1) (l:=l') (K:=K') (d:=d) (by lia) (by rw[ps];exact λl=>KR seed S t.f.pr l t 0) c os ov (by rw[prv,ps]) hd hl' (λl hl=>by rw[ht2,h2]at hl;rw[ps];exact hK l hl)
   rw[ps]at this;exact this
 symm
 apply cN (B:=R n "_law_scene" [gE ru,.lst (l.map .int)] (base seed S) λsc H=>seg n "_law_known" 1 [("world",gE ru),("octets",.lst (l.map .int)),("number",.int t.n),("direction",.int 0),("side",aF s1),("data",.lst (d.map .int)),("is_bare",.bool bare),("scene",sc)] H K)
 ·kernel_rfl
 refine gQ (by lia) g1 g2 g3 g4 g5 g6 ?_
 symm
 refine fQ (by lia) o0 hd hp ?_
 refine jH (by lia) I.ok I.nd I.len o0 hfn ?_
 symm
 with_reducible refine gL (bN rfl) ?_
 symm
 rw[pr0]
 by_cases c:Builtin.bitAnd t.st 32=0
 ·refine wZ (by lia) c ?_
  symm
  refine st2 s0 l hp o0 pr0 (λq=>W.1 c q) (W.2.1 c) _ λl' hl'=>?_
  exact fin l' hl' _
 ·have:=λK=>uT (n:=n) (s:=s0) (v:=(turn t.o)) (bare:=bare) (h0:=b4 seed) (h1:=.dct (b9 S)) (h2:=.dct (cI S)) (h3:=.lst (bG S)) (h4:=.lst (cM S)) (h7:=iG 1 2) (o:=aI t.f) (k:=t.n) (u:=9) (st:=t.st) (sst:=1) (l:=l) (d:=d) (K:=K) (by lia) (by rw[pr0];exact λl=>KR seed S t.f.pr l t 0) c o0 ov (by rw[prv,pr0]) hd hp
  rw[ht2,pr0]at this
  refine this _ λl' hl'=>?_
  refine st2 (nH s0 s1) l' hl' (EC o0 o1) (by rw[EW,pr0]) W.2.2.1 W.2.2.2 _ λl' hl'=>?_
  exact fin l' hl' _
theorem rO(hn:12<=n)(I:Inv sn S)(ht:t∈S)(hd:d.length<=3)(hdo:fB d)(hb:bare=true->t.f.pr=17)(h:K (.bool true) (base seed S)):
  R n "_law_known" [gE ru,.lst ((bU t.f d bare).map .int),.int t.n,.int 0,aF t.o,.lst (d.map .int),.bool bare] (base seed S) K:=by
 obtain⟨n,rfl⟩:=aU hn
 rw[vM]
 exact u7 (by lia) I ht hd hdo hb λext=>l4 h
theorem wD(hn:11<=n)(I:Inv sn S)(ht:t∈S)(hd:d.length<=3)(hdo:fB d)(hb:bare=true->t.f.pr=17)
  (h:∀ext,K (.bool true) (base seed S++ext)):
  cD False And aN (run False And aN top n) (fnX "_law_known") [gE ru,.lst ((bU (turn t.o) d bare).map .int),.int t.n,.int 1,aF (turn t.f),.lst (d.map .int),.bool bare] (base seed S) K:=by
 have T:=I.tk t ht
 have o0:Sd.Ok (turn t.o):=bH T.o
 have o1:Sd.Ok (turn t.f):=bH T.f
 have hp:Pk bare (turn t.o) d (bU (turn t.o) d bare):=iJ (by rw[cQ,T.pr];exact hb)
 refine kC (eR (bare:=bare) o0 hd hdo) λg1 g2 g3 g4 g5 g6=>?_
 have W:=VM T
 obtain⟨s0,es0⟩:∃s0,s0=(turn t.o):=⟨_,rfl⟩
 obtain⟨s1,es1⟩:∃s1,s1=(turn t.f):=⟨_,rfl⟩
 have hfn:jK S s0=some (t,1):=by rw[es0];exact SN ht I.ok I.no (rH I.tk I.sno)
 have ht2:turn t.f=s1:=by rw[es1]
 have pr0:s0.pr=t.f.pr:=by rw[es0];exact(cQ).trans T.pr
 have pr1:s1.pr=t.f.pr:=by rw[es1];exact cQ
 rw[<-es0]at o0 hp g1 g2 g3 g4 g5 g6 W ⊢
 rw[<-es1]at o1 W ⊢
 obtain⟨l,el⟩:∃l,l=bU s0 d bare:=⟨_,rfl⟩
 rw[<-el]at g1 g2 g3 g4 g5 g6 hp ⊢
 have ov:Sd.Ok t.f:=T.f
 have prv:Sd.pr t.f=t.f.pr:=rfl
 have fin:∀l',Pk bare s1 d l'->∀tl,R n "_law_is" [.ref 5,aF s1,.lst (d.map .int),.bool bare] (base seed S++aK t.f.pr:: .bar l'::tl) K:=by
  intro l' hl' tl
  have:=zS (n:=n) (h0:=b4 seed) (h1:=.dct (b9 S)) (h2:=.dct (cI S)) (h3:=.lst (bG S)) (h4:=.lst (cM S)) (t:=tl) (K:=K) (by lia) o1 hd hdo hl' (by rw[pr1];exact h _)
  rw[pr1]at this;exact this
 have st2:∀s l',Pk bare s d l'->s.Ok->s.pr=t.f.pr->(Builtin.bitAnd t.st 32=0->s=s1)->rP s s1=s1->∀(K':V->Hp->Prop),(∀l,Pk bare s1 d l->K' .none (base seed S++[aK t.f.pr,.bar l,iG 1 2,dQ (DP t) 1 1]))->R n "translate" [.ref 8,.str "src"] (base seed S++[aK t.f.pr,.bar l',iG 1 2,dQ (DP t) 1 1]) K':=by
  intro s l' hl' os ps h1 h2 K' hK
  by_cases c:Builtin.bitAnd t.st 32=0
  ·refine vX (by lia) c ?_
   rw[h1 c]at hl'
   exact hK _ hl'
  ·have:=w4 (n:=n) (s:=s) (v:=t.f) (bare:=bare) (h0:=b4 seed) (h1:=.dct (b9 S)) (h2:=.dct (cI S)) (h3:=.lst (bG S)) (h4:=.lst (cM S)) (h7:=iG 1 2) (rp:=aI (turn t.o)) (k:=t.n) (u:=9) (st:=t.st) (sst:=1) (l:=l') (K:=K') (d:=d) (by lia) (by rw[ps];exact λl=>KR seed S t.f.pr l t 1) c os ov (by rw[prv,ps]) hd hl' (λl hl=>by rw[ht2,h2]at hl;rw[ps];exact hK l hl)
   rw[ps]at this;exact this
 symm
 apply cN (B:=R n "_law_scene" [gE ru,.lst (l.map .int)] (base seed S) λsc H=>seg n "_law_known" 1 [("world",gE ru),("octets",.lst (l.map .int)),("number",.int t.n),("direction",.int 1),("side",aF s1),("data",.lst (d.map .int)),("is_bare",.bool bare),("scene",sc)] H K)
 ·kernel_rfl
 refine gQ (by lia) g1 g2 g3 g4 g5 g6 ?_
 symm
 refine fQ (by lia) o0 hd hp ?_
 refine jH (by lia) I.ok I.nd I.len o0 hfn ?_
 symm
 with_reducible refine gL (bN rfl) ?_
 symm
 rw[pr0]
 by_cases c:Builtin.bitAnd t.st 16=0
 ·refine uI (by lia) c ?_
  symm
  refine st2 s0 l hp o0 pr0 (λq=>W.1 q c) (W.2.1 c) _ λl' hl'=>?_
  exact fin l' hl' _
 ·have:=λK=>vT (n:=n) (s:=s0) (v:=t.f) (bare:=bare) (h0:=b4 seed) (h1:=.dct (b9 S)) (h2:=.dct (cI S)) (h3:=.lst (bG S)) (h4:=.lst (cM S)) (h7:=iG 1 2) (rp:=aI (turn t.o)) (k:=t.n) (u:=9) (st:=t.st) (sst:=1) (l:=l) (d:=d) (K:=K) (by lia) (by rw[pr0];exact λl=>KR seed S t.f.pr l t 1) c o0 ov (by rw[prv,pr0]) hd hp
  rw[ht2,pr0]at this
  refine this _ λl' hl'=>?_
  refine st2 (nH s0 s1) l' hl' (EC o0 o1) (by rw[EW,pr0]) W.2.2.1 W.2.2.2 _ λl' hl'=>?_
  exact fin l' hl' _
theorem rI(hn:12<=n)(I:Inv sn S)(ht:t∈S)(hd:d.length<=3)(hdo:fB d)(hb:bare=true->t.f.pr=17)(h:K (.bool true) (base seed S)):
  R n "_law_known" [gE ru,.lst ((bU (turn t.o) d bare).map .int),.int t.n,.int 1,aF (turn t.f),.lst (d.map .int),.bool bare] (base seed S) K:=by
 obtain⟨n,rfl⟩:=aU hn
 rw[vM]
 exact wD (by lia) I ht hd hdo hb λext=>l4 h
end
theorem JC(hv:v.Ok)(hS:∀t∈S,t.Ok)(hc:∀t∈S,t.f≠v):match kE S (turn v)with
  |false=>jK S v=none
  |true=>∃u i,jK S v=some (u,1)/\(bG S).findIdx? (λy=>bQ y (aF (turn v)))=some i/\(cM S)[i]? =some (.int u.n):=by
 induction S with
 |nil=>exact rfl
 |cons t S ih=>
   have ih:=ih (λu hu=>hS u (by simp[hu])) (λu hu=>hc u (by simp[hu]))
   have e0:jK (t::S) v=if t.f=v then some (t,0)else if turn t.o=v then some (t,1)else jK S v:=rfl
   rw[if_neg (hc t (by simp))]at e0
   have e1:(turn t.o=v)↔t.o=turn v:=by
    constructor
    ·intro q;rw[<-q,cV (hS t (by simp)).2]
    ·intro q;rw[q,cV hv]
   have e2:kE (t::S) (turn v)=(decide (t.o=turn v)||kE S (turn v)):=rfl
   have e3:(bG (t::S)).findIdx? (λy=>bQ y (aF (turn v)))=if bQ (aF t.o) (aF (turn v))=true then some 0 else((bG S).findIdx? (λy=>bQ y (aF (turn v)))).map (· +1):=by
    show(aF t.o::bG S).findIdx? _=_
    rw[List.findIdx?_cons]
   by_cases c:t.o=turn v
   ·rw[e2,dT c,Bool.true_or]
    refine⟨t,0,by rw[e0,if_pos (e1.mpr c)],by rw[e3,pT,dT c];rfl,rfl⟩
   ·rw[e2,dF c,Bool.false_or]
    rw[if_neg (λq=>c (e1.mp q))]at e0
    rw[pT,dF c]at e3
    rcases hb:kE S (turn v)
    ·rw[hb]at ih;exact e0.trans ih
    ·rw[hb]at ih
     refine aE ih λu i a1 a2 a3=>?_
     clear ih
     refine⟨u,i+1,e0.trans a1,by rw[e3,a2];rfl,?_⟩
     simpa[cM]using a3
section
variable {seed:Int}{S:List Tk}{sn:Ru}{t:Tk}{ru:V}{d:List Int}{bare:Bool}
theorem g0(hn:11<=n)(I:Inv sn S)(hd:d.length<=3)(hdo:fB d)(hb:bare=true->v.pr=17)(ov:v.Ok)(hc:∀t∈S,t.f≠v)
  (h:∀ext,K (.bool true) (base seed S++ext)):
  seg n "_law_strange" 2 [("world",gE ru),("side",aF v),("x",a1),("data",.lst (d.map .int)),("is_bare",.bool bare),("proto",a2),("source",a3),("sport",a4),("target",a5),("dport",a6)] (base seed S) K:=by
 have hp:Pk bare v d (bU v d bare):=iJ hb
 refine kC (eR (bare:=bare) ov hd hdo) λg1 g2 g3 g4 g5 g6=>?_
 have ix:=JC ov I.ok hc
 refine fN (by lia) ov hd hdo hb ?_
 obtain⟨l,el⟩:∃l,l=bU v d bare:=⟨_,rfl⟩
 rw[<-el]at g1 g2 g3 g4 g5 g6 hp ⊢
 apply cN (B:=R n "_law_scene" [gE ru,.lst (l.map .int)] (base seed S) λsc H=>seg n "_law_strange" 3 [("world",gE ru),("side",aF v),("x",a1),("data",.lst (d.map .int)),("is_bare",.bool bare),("proto",a2),("source",a3),("sport",a4),("target",a5),("dport",a6),("scene",sc)] H K)
 ·kernel_rfl
 refine gQ (by lia) g1 g2 g3 g4 g5 g6 ?_
 symm
 refine fQ (by lia) ov hd hp ?_
 symm
 have k1:=fG S (turn v)
 have k2:=jE S (turn v)
 rcases hi:kE S (turn v)
 ·rw[hi]at ix k2
  refine i6 (by lia) I.ok I.len ov ix ?_
  symm
  refine cR (by lia) ov ?_
  symm
  refine gm (k1) ?_
  symm
  rw[k2]
  refine xY (by lia) ?_
  refine yI (by lia) ?_
  refine zS (by lia) ov hd hdo hp ?_
  exact h _
 ·rw[hi]at ix k2
  refine aE ix λu i f1 f2 f3=>?_
  clear ix
  refine jH (by lia) I.ok I.nd I.len ov f1 ?_
  refine cR (by lia) ov ?_
  symm
  refine gm (k1) ?_
  symm
  rw[k2]
  refine cR (by lia) ov ?_
  symm
  refine gm (aG (fits_of (by have:=I.len;simp[bG];lia)) k1) ?_
  symm
  rw[f2]
  symm
  refine gm (fits_of (by have:=I.len;simp[cM];lia)) ?_
  symm
  rw[show item (cM S) (i:Int)=some (.int u.n)by unfold item;rw[if_pos (by lia)];exact f3]
  symm
  rw[show bQ (.tup [.int u.n,.int 1]) (.tup [.int u.n,.int 1])=true by
   show(decide (u.n=u.n)&&(decide ((1:Int)=1)&&true))=true;simp]
  exact h _
theorem tC(hn:11<=n){x:Int}(I:Inv sn S)(ht:t∈S)(hd:d.length<=3)(hdo:fB d)(hb:bare=true->t.f.pr=17)
  (h:∀ext,K (.bool true) (base seed S++ext)):
  cD False And aN (run False And aN top n) (fnX "_law_strange") [gE ru,aF (turn t.o),.int x,.lst (d.map .int),.bool bare] (base seed S) K:=by
 have T:=I.tk t ht
 have ow:(turn t.o).Ok:=bH T.o
 have prw:(turn t.o).pr=t.f.pr:=cQ.trans T.pr
 have sow:(turn t.o).so=t.o.ta:=by unfold turn;split<;>rfl
 have taw:(turn t.o).ta=t.o.so:=by unfold turn;split<;>rfl
 have far:wW (turn t.o).ta:=by rw[taw];exact I.sno.far _ _ T.fs T.bd.1 T.bd.2
 have hota:=T.ota
 obtain⟨w,ew⟩:∃w,w=turn t.o:=⟨_,rfl⟩
 rw[<-ew]at ow prw sow taw far ⊢
 have cr:∀v:Sd,v.ta=w.ta->∀u∈S,u.f≠v:=by
  intro v hv u hu q
  have:=(I.tk u hu).fa
  rw[q,hv]at this
  unfold wW at far;lia
 symm
 by_cases c:x%2=0
 ·rw[show bQ (V.int (Int.fmod x 2)) (V.int 0)=true from dT (by rw[fmod_eq (by decide)];exact c)]
  have ov:Sd.Ok { w with so:=w.so+7 }:=⟨ow.1,by have:=ow.so;show 0<=w.so+7/\w.so+7<4294967296;lia,ow.3,ow.4,ow.5,ow.6⟩
  apply cN (b:=(g0 (n:=n) (ru:=ru) (seed:=seed) (S:=S) (K:=K) (v:={ w with so:=w.so+7 }) (a1:=.int x) (a2:=.int w.pr) (a3:=.int w.so) (a4:=.int w.sp) (a5:=.int w.ta) (a6:=.int w.dp) hn I hd hdo (by rw[<-prw]at hb;exact hb) ov (cr _ rfl) h));kernel_rfl
 ·rw[show bQ (V.int (Int.fmod x 2)) (V.int 0)=false from dF (by rw[fmod_eq (by decide)];exact c)]
  symm
  by_cases c1:w.pr=1
  ·rw[aB,dT c1]
   have ov:Sd.Ok ⟨1,w.so,Builtin.bitXor w.sp 1,w.ta,w.dp⟩:=⟨.inr (.inr rfl),ow.so,by have q:=ow.sp;show 0<=Builtin.bitXor w.sp 1/\Builtin.bitXor w.sp 1<65536;rw[RO ow.sp.1];lia,ow.ta,ow.dp,λ_=>ow.ic c1⟩
   apply cN (b:=(g0 (n:=n) (ru:=ru) (seed:=seed) (S:=S) (K:=K) (v:=⟨1,w.so,Builtin.bitXor w.sp 1,w.ta,w.dp⟩) (a1:=.int x) (a2:=.int w.pr) (a3:=.int w.so) (a4:=.int w.sp) (a5:=.int w.ta) (a6:=.int w.dp) hn I hd hdo (by rw[<-prw,c1]at hb;exact hb) ov (cr _ rfl) h));kernel_rfl
  ·rw[aB,dF c1]
   have ov:Sd.Ok { w with dp:=Builtin.bitXor w.dp 1 }:=⟨ow.1,ow.so,ow.sp,ow.ta,by have q:=ow.dp;show 0<=Builtin.bitXor w.dp 1/\Builtin.bitXor w.dp 1<65536;rw[RO ow.dp.1];lia,λq=>absurd q c1⟩
   apply cN (b:=(g0 (n:=n) (ru:=ru) (seed:=seed) (S:=S) (K:=K) (v:={ w with dp:=Builtin.bitXor w.dp 1 }) (a1:=.int x) (a2:=.int w.pr) (a3:=.int w.so) (a4:=.int w.sp) (a5:=.int w.ta) (a6:=.int w.dp) hn I hd hdo (by rw[<-prw]at hb;exact hb) ov (cr _ rfl) h));kernel_rfl
theorem oL(hn:12<=n){x:Int}(I:Inv sn S)(ht:t∈S)(hd:d.length<=3)(hdo:fB d)(hb:bare=true->t.f.pr=17)(h:K (.bool true) (base seed S)):
  R n "_law_strange" [gE ru,aF (turn t.o),.int x,.lst (d.map .int),.bool bare] (base seed S) K:=by
 obtain⟨n,rfl⟩:=aU hn
 rw[w9]
 exact tC (by lia) I ht hd hdo hb λext=>l4 h
end
noncomputable def dg (ns:List Int) (p:Nat):Int:=ns.getD p 0
theorem fI(hn:1<=n){p:Int}(hl:ns.length<1000)(hp:0<=p)(h:K (.int (dg ns p.toNat)) H):R n "_law_digit" [.lst (ns.map .int),.int p] H K:=by
 obtain⟨n,rfl⟩:=aU hn
 have fl:fits (ns.map V.int)=true:=fits_of (by simpa using hl)
 symm
 refine gm fl ?_
 symm
 by_cases c:p<ns.length
 ·refine gm (dT (by simp;exact c:p<((ns.map V.int).length:Int))) ?_
  symm
  refine gm fl ?_
  symm
  rw[show item (ns.map V.int) p=some (.int (dg ns p.toNat))by
   unfold item;rw[if_pos hp]
   have:p.toNat<ns.length:=by lia
   simp[dg,this]]
  exact h
 ·with_reducible refine gL (dF (by simp;lia:¬p<((ns.map V.int).length:Int))) ?_
  symm
  rw[show dg ns p.toNat=0 by
   have:ns.length<=p.toNat:=by lia
   simp[dg,this]]at h
  exact h
theorem bB{x:Int}{m:Int}(hm:0<m):0<=Int.fmod x m/\Int.fmod x m<m:=by
 rw[fmod_eq (by lia)];exact⟨Int.emod_nonneg _ (by lia),Int.emod_lt_of_pos _ hm⟩
noncomputable def KI (fl:List V):Prop:=∀k H,cG (fz (k+1) 5 H) fl=some fl
structure jV (dn sn:Ru):Prop where
 hd:jQ false dn
 hs:jQ true sn
 sno:r9 sn
 dno:I3 dn
 zd:KI dn.fl
 zs:KI sn.fl
theorem GL(z:Int)(h:0<=z/\z<4):∃fl rnd per,Fl fl rnd per false/\KI fl/\item [V.tup [],V.tup [.str "random"],V.tup [.str "persistent"],V.tup [.str "random",.str "persistent"]] z=some (.tup fl):=by
 have:z=0\/z=1\/z=2\/z=3:=by lia
 rcases this with rfl|rfl|rfl|rfl
 ·exact⟨[],false,false,SR,λ_ _=>rfl,rfl⟩
 ·exact⟨[.str "random"],true,false,⟨by kernel_rfl,by kernel_rfl,by kernel_rfl,by kernel_rfl,by kernel_rfl,by kernel_rfl⟩,λ_ _=>rfl,rfl⟩
 ·exact⟨[.str "persistent"],false,true,⟨by kernel_rfl,by kernel_rfl,by kernel_rfl,by kernel_rfl,by kernel_rfl,by kernel_rfl⟩,λ_ _=>rfl,rfl⟩
 ·exact⟨[.str "random",.str "persistent"],true,true,⟨by kernel_rfl,by kernel_rfl,by kernel_rfl,by kernel_rfl,by kernel_rfl,by kernel_rfl⟩,λ_ _=>rfl,rfl⟩
noncomputable def OR (pt:Option (Int×Int)):Prop:=∀a b,pt=some (a,b)->a<=b/\b<=a+1/\0<=a/\b<65536
theorem EX(z:Int)(h:0<=z/\z<4):∃pt,OR pt/\item [V.none,V.tup [.int 5000,.int 5001],V.none,V.tup [.int 5000,.int 5000]] z=some (iF pt):=by
 have:z=0\/z=1\/z=2\/z=3:=by lia
 rcases this with rfl|rfl|rfl|rfl
 ·exact⟨none,λ_ _ q=>(by injection q),rfl⟩
 ·exact⟨some (5000,5001),λ_ _ q=>(by cases q;lia),rfl⟩
 ·exact⟨none,λ_ _ q=>(by injection q),rfl⟩
 ·exact⟨some (5000,5000),λ_ _ q=>(by cases q;lia),rfl⟩
theorem pY{a b:Int}(h:3405803777<=a/\b<=3405803779)(pt:Option (Int×Int))(fl:List V)(rnd per:Bool):r9 ⟨.plain (some (a,b)),pt,fl,rnd,per⟩:=by
 constructor
 ·intro g x hg h1 h2;simp only[iB,gF]at h1 h2;unfold wW;lia
 ·intro f g x hf hg h1 h2;simp only[iB,gF]at h1 h2;unfold vE at hf;lia
theorem mA(h:∀g,iB r g=g/\gF r g=g):r9 r:=by
 constructor
 ·intro g x hg h1 h2;have:=h g;unfold vE at hg;unfold wW;lia
 ·intro f g x hf hg h1 h2 h3 h4;have:=h g;have:=h f;lia
theorem LS(z:Int)(h:0<=z/\z<8){rnd per:Bool}(hf:Fl fl rnd per false)(hz:KI fl)(hp:OR pt):∃sn,jQ true sn/\r9 sn/\KI sn.fl/\
  item [V.tup [.str "snat",.int 2,.int 3405803777,.int 3405803777,iF pt,.tup fl],V.tup [.str "snat",.int 2,.int 3405803777,.int (3405803777+2),iF pt,.tup fl],V.tup [.str "masquerade",.int 0,.none,.none,iF pt,.tup fl],V.none,V.tup [.str "snat",.int 2,.int 167772161,.int 167772161,iF pt,.tup fl],V.tup [.str "snat",.int 10,.int 5,.int 5,.none,.tup fl],V.tup [.str "snat",.int 2,.int 3405803776,.int 3405804031,.none,.tup [.str "netmap"]],V.tup [.str "snat",.int 2,.none,.none,.tup [.int 5000,.int 5001],.tup fl]] z=some (cH true sn):=by
 have:z=0\/z=1\/z=2\/z=3\/z=4\/z=5\/z=6\/z=7:=by lia
 rcases this with rfl|rfl|rfl|rfl|rfl|rfl|rfl|rfl
 ·exact⟨⟨.plain (some (3405803777,3405803777)),pt,fl,rnd,per⟩,⟨hf,hp,λ_ _ q=>(by cases q;lia),trivial⟩,pY (by lia) _ _ _ _,hz,rfl⟩
 ·exact⟨⟨.plain (some (3405803777,3405803777+2)),pt,fl,rnd,per⟩,⟨hf,hp,λ_ _ q=>(by cases q;lia),trivial⟩,pY (by lia) _ _ _ _,hz,rfl⟩
 ·refine⟨⟨.masq,pt,fl,rnd,per⟩,⟨hf,hp,λ_ _ q=>(by injection q),trivial⟩,⟨?_,?_⟩,hz,rfl⟩
  ·intro g x hg h1 h2;simp only[iB,gF]at h1 h2;unfold wW;lia
  ·intro f g x hf hg h1 h2;simp only[iB,gF]at h1 h2;unfold vE at hf;lia
 ·exact⟨⟨.non,pt,fl,rnd,per⟩,⟨hf,hp,λ_ _ q=>(by injection q),trivial⟩,mA λ_=>⟨rfl,rfl⟩,hz,rfl⟩
 ·refine⟨⟨.plain (some (167772161,167772161)),pt,fl,rnd,per⟩,⟨hf,hp,λ_ _ q=>(by cases q;lia),trivial⟩,⟨?_,?_⟩,hz,rfl⟩
  ·intro g x hg h1 h2;simp only[iB,gF]at h1 h2;unfold wW;lia
  ·intro f g x hf hg h1 h2 h3 h4;simp only[iB,gF]at h1 h2 h3 h4;lia
 ·exact⟨⟨.fam,pt,fl,rnd,per⟩,⟨hf,hp,λ_ _ q=>(by injection q),trivial⟩,mA λ_=>⟨rfl,rfl⟩,hz,rfl⟩
 ·refine⟨⟨.net,pt,fl,rnd,per⟩,⟨hf,hp,λ_ _ q=>(by injection q),trivial⟩,⟨?_,?_⟩,hz,rfl⟩
  ·intro g x hg h1 h2;simp only[iB,gF]at h1 h2;unfold wW;lia
  ·intro f g x hf hg h1 h2;simp only[iB,gF]at h1 h2;unfold vE at hf;lia
 ·exact⟨⟨.plain none,some (5000,5001),fl,rnd,per⟩,⟨hf,λ_ _ q=>(by cases q;lia),λ_ _ q=>(by exact(nomatch q)),trivial⟩,mA λ_=>⟨rfl,rfl⟩,hz,rfl⟩
theorem L3(z y:Int)(h:0<=z/\z<4)(hy:y=0\/y=1){rnd per:Bool}(hf:Fl fl rnd per false)(hz:KI fl):∃dn,jQ false dn/\I3 dn/\KI dn.fl/\
  item [V.none,V.tup [.str "dnat",.int 2,.int 3232235521,.int 3232235521,.tup [.int 8080,.int (8080+y)],.tup fl],V.tup [.str "dnat",.int 2,.int 3232235521,.int 3232235522,.none,.tup fl],V.tup [.str "redirect",.int 0,.none,.none,.tup [.int 8080,.int (8080+y)],.tup []]] z=some (cH false dn):=by
 have:z=0\/z=1\/z=2\/z=3:=by lia
 have hp:OR (some (8080,8080+y)):=λa b q=>by cases q;lia
 rcases this with rfl|rfl|rfl|rfl
 ·exact⟨⟨.non,none,fl,rnd,per⟩,⟨hf,λ_ _ q=>(by injection q),λ_ _ q=>(by injection q),trivial⟩,λa ha=>by simp only[gF];lia,hz,rfl⟩
 ·exact⟨⟨.plain (some (3232235521,3232235521)),some (8080,8080+y),fl,rnd,per⟩,⟨hf,hp,λ_ _ q=>(by cases q;lia),trivial⟩,λa ha=>by simp only[gF];lia,hz,rfl⟩
 ·exact⟨⟨.plain (some (3232235521,3232235522)),none,fl,rnd,per⟩,⟨hf,λ_ _ q=>(by injection q),λ_ _ q=>(by cases q;lia),trivial⟩,λa ha=>by simp only[gF];lia,hz,rfl⟩
 ·exact⟨⟨.redir,some (8080,8080+y),[],false,false⟩,⟨SR,hp,λ_ _ q=>(by injection q),trivial⟩,λa ha=>by simp only[gF];lia,λ_ _=>rfl,rfl⟩
theorem HN(hn:2<=n){ns:List Int}(hl:ns.length<1000)(h:∀dn sn,jV dn sn->K (.lst [cH false dn,cH true sn]) H):R n "_law_rules" [.lst (ns.map .int)] H K:=by
 obtain⟨n,rfl⟩:=aU hn
 refine fI (by lia) hl (by decide) ?_
 symm
 obtain⟨x,ex⟩:∃x,x=dg ns (0:Int).toNat:=⟨_,rfl⟩
 rw[<-ex]
 refine fI (by lia) hl (by decide) ?_
 symm
 obtain⟨y,ey⟩:∃x,x=dg ns (1:Int).toNat:=⟨_,rfl⟩
 rw[<-ey]
 refine fI (by lia) hl (by decide) ?_
 symm
 obtain⟨z,ez⟩:∃x,x=dg ns (2:Int).toNat:=⟨_,rfl⟩
 rw[<-ez]
 refine FX (GL (Int.fmod z 4) (bB (by decide))) λfl rnd per hf hz e1=>?_
 rw[e1]
 symm
 refine aT (EX (Int.fmod (Int.fdiv x 8) 4) (bB (by decide))) λpt hp e2=>?_
 rw[e2]
 symm
 refine iY (LS (Int.fmod x 8) (bB (by decide)) hf hz hp) λsn s1 s2 s3 e3=>?_
 rw[e3]
 symm
 have hy:=bB (x:=Int.fdiv y 4) (m:=2) (by decide)
 refine iY (L3 (Int.fmod y 4) (Int.fmod (Int.fdiv y 4) 2) (bB (by decide)) (by lia) hf hz) λdn d1 d2 d3 e4=>?_
 rw[e4]
 exact h dn sn ⟨d1,s1,s2,d2,d3,s3⟩
theorem KX{seed:Int}:R (n+1) "TalkBook" [.int 8,.int seed] [] K=K (.ref 0) [b4 seed,.dct [],.dct []]:=by kernel_rfl
theorem L0(hn:1<=n){seed:Int}(h:K (.ref 0) [b4 seed,.dct [],.dct []]):R n "TalkBook" [.int 8,.int seed] [] K:=by
 obtain⟨m,rfl⟩:∃m,n=m+1:=⟨n-1,by lia⟩
 rw[KX];exact h
structure eY (f0 f1 f2:Sd):Prop where
 o0:f0.Ok
 o1:f1.Ok
 o2:f2.Ok
 t0:f0.ta=3325256705\/f0.ta=3325256706
 t1:f1.ta=3325256705\/f1.ta=3325256706
 t2:f2.ta=3325256705\/f2.ta=3325256706
 s0:vE f0.so
 s1:vE f1.so
 s2:vE f2.so
 d0:f0.pr=1->f0.dp=8
 d1:f1.pr=1->f1.dp=8
 d2:f2.pr=1->f2.dp=8
 n01:f0≠f1
 n02:f0≠f2
 n12:f1≠f2
noncomputable def cY (p so sp ta dp:Int):Sd:=⟨p,so,sp,ta,if p=1 then 8 else dp⟩
theorem yT{p so sp ta dp:Int}(hp:p=6\/p=17\/p=1)(h1:0<=so/\so<4294967296)(h2:0<=sp/\sp<65536)(h3:0<=ta/\ta<4294967296)(h4:0<=dp/\dp<65536):(cY p so sp ta dp).Ok/\((cY p so sp ta dp).pr=1->(cY p so sp ta dp).dp=8):=by
 refine⟨⟨hp,h1,h2,h3,?_,?_⟩,?_⟩
 ·show 0<=(if p=1 then 8 else dp)/\(if p=1 then 8 else dp)<65536;split<;>lia
 ·intro q;have q:p=1:=q;left;show(if p=1 then 8 else dp)=8;rw[if_pos q]
 ·intro q;have q:p=1:=q;show(if p=1 then 8 else dp)=8;rw[if_pos q]
theorem CP{a b c o:Int}(ha:a=6\/a=17\/a=1)(hb:b=6\/b=17\/b=1)(hc:c=6\/c=17\/c=1)(ho:o=0\/o=1):eY (cY a 167772161 40000 3325256705 80) (cY b 167772162 40000 3325256705 80) (cY c 167772161 53 (3325256705+o) 5000):=by
 have A:=yT (p:=a) (so:=167772161) (sp:=40000) (ta:=3325256705) (dp:=80) ha (by lia) (by lia) (by lia) (by lia)
 have B:=yT (p:=b) (so:=167772162) (sp:=40000) (ta:=3325256705) (dp:=80) hb (by lia) (by lia) (by lia) (by lia)
 have C:=yT (p:=c) (so:=167772161) (sp:=53) (ta:=3325256705+o) (dp:=5000) hc (by lia) (by lia) (by lia) (by lia)
 refine⟨A.1,B.1,C.1,.inl rfl,.inl rfl,?_,.inl rfl,.inr rfl,.inl rfl,A.2,B.2,C.2,?_,?_,?_⟩
 ·show 3325256705+o=3325256705\/3325256705+o=3325256706;lia
 ·intro q;have:=congrArg Sd.so q;simp[cY]at this
 ·intro q;have:=congrArg Sd.sp q;simp[cY]at this
 ·intro q;have:=congrArg Sd.sp q;simp[cY]at this
noncomputable abbrev NX:Stmt:=((fnX "law").body.drop 7).headD (.Pass default)
noncomputable abbrev t4:List Stmt:=match NX with| .For _ _ b _ _=>b|_=>[]
noncomputable abbrev TZ:Expr:=match NX with| .For t _ _ _ _=>t|_=>.Constant .none 0 default
noncomputable abbrev mZ (n i:Nat) (rho:aR) (H:Hp) (kk:aR->Hp->Prop) (K:V->Hp->Prop):Prop:=eO False And aN (run False And aN top n) (t4.drop i) ⟨(fnX "law").sc,rho,[]⟩ H kk K
noncomputable abbrev keeps:List Str:=["script","world","firsts"]
structure J (sn:Ru) (f0 f1 f2:Sd) (S:List Tk):Prop where
 inv:Inv sn S
 fs:∀t∈S,(t.n=1/\t.f=f0)\/(t.n=2/\t.f=f1)\/(t.n=3/\t.f=f2)
theorem G3(S:List Tk)(k:Int):dI (.int k) (cM S)=true/\qM (.int k) (cM S)=decide (∃t∈S,t.n=k):=by
 constructor
 ·unfold dI;rw[List.all_eq_true]
  intro x hx
  simp only[cM,List.mem_map]at hx
  refine aT hx λt _ e91=>?_
  clear hx
  subst e91
  rfl
 ·induction S with
  |nil=>simp[cM,qM]
  |cons t S ih=>
    show(bQ (.int t.n) (.int k)||qM (.int k) (cM S))=_
    rw[aB,ih];simp
theorem A8{k:Int}(h:∃t∈S,t.n=k):∃t∈S,t.n=k/\∃i:Nat,(cM S).findIdx? (λy=>bQ y (.int k))=some i/\(bG S)[i]? =some (aF t.o):=by
 induction S with
 |nil=>refine aT h λt ht _=>?_;clear h;rcases ht
 |cons u S ih=>
   have e3:(cM (u::S)).findIdx? (λy=>bQ y (.int k))=if bQ (.int u.n) (.int k)=true then some 0 else((cM S).findIdx? (λy=>bQ y (.int k))).map (· +1):=by
    show(V.int u.n::cM S).findIdx? _=_
    rw[List.findIdx?_cons]
   rw[aB]at e3
   by_cases c:u.n=k
   ·exact⟨u,by simp,c,0,by rw[e3,dT c];rfl,rfl⟩
   ·obtain⟨t,ht,hk,i,a1,a2⟩:=ih (by
     refine aT h λt ht hk=>?_
     clear h
     rcases List.mem_cons.mp ht with rfl|ht
     ·exact absurd hk c
     ·exact⟨t,ht,hk⟩)
    refine⟨t,by simp[ht],hk,i+1,by rw[e3,dF c,a1];rfl,?_⟩
    simpa[bG]using a2
theorem DR(h:∀t∈S,t.f≠v/\turn t.o≠v):jK S v=none:=by
 induction S with
 |nil=>rfl
 |cons t S ih=>
   rw[show jK (t::S) v=if t.f=v then some (t,0)else if turn t.o=v then some (t,1)else jK S v from rfl,if_neg (h t (by simp)).1,if_neg (h t (by simp)).2]
   exact ih λu hu=>h u (by simp[hu])
theorem short{k:Int}(hk:k=1\/k=2\/k=3)(h:∀t∈S,t.n=1\/t.n=2\/t.n=3)(hn:∀t∈S,t.n≠k)(nd:Nd S):S.length<=2:=by
 match S with
 | []=>simp
 | [_]=>simp
 | [_,_]=>simp
 |a::b::c::T=>
   exfalso
   simp only[Nd,List.map_cons,List.nodup_cons,List.mem_cons,not_or]at nd
   have ha:=h a (by simp);have hb:=h b (by simp);have hc:=h c (by simp)
   have na:=hn a (by simp);have nb:=hn b (by simp);have nc:=hn c (by simp)
   have:=nd.1.1;have:=nd.1.2.1;have:=nd.2.1.1
   lia
structure OV (f0 f1 f2 f:Sd) (k:Int):Prop where
 k3:(k=1/\f=f0)\/(k=2/\f=f1)\/(k=3/\f=f2)
theorem GB{k:Int}(N:OV f0 f1 f2 f k)(Jn:J sn f0 f1 f2 S)(ht:t∈S)(h:t.n=k):t.f=f:=by
 have:=Jn.fs t ht
 rcases N.k3 with⟨q,rfl⟩|⟨q,rfl⟩|⟨q,rfl⟩<;>rcases this with⟨p,r⟩|⟨p,r⟩|⟨p,r⟩<;>first|exact r|(exfalso;lia)
theorem FE{k:Int}(F:eY f0 f1 f2)(N:OV f0 f1 f2 f k)(Jn:J sn f0 f1 f2 S)(ht:t∈S)(h:t.n≠k):t.f≠f:=by
 have:=Jn.fs t ht
 rcases N.k3 with⟨q,rfl⟩|⟨q,rfl⟩|⟨q,rfl⟩<;>rcases this with⟨p,r⟩|⟨p,r⟩|⟨p,r⟩<;>rw[r]<;>first|(exfalso;lia)|exact F.n01|exact F.n02|exact F.n12|exact F.n01.symm|exact F.n02.symm|exact F.n12.symm
theorem AR{k:Int}(Ru':jV dn sn)(F:eY f0 f1 f2)(N:OV f0 f1 f2 f k)(Jn:J sn f0 f1 f2 S)(hn:∀t∈S,t.n≠k):Pre S dn sn f k/\jK S f=none:=by
 have fo:f.Ok/\(f.ta=3325256705\/f.ta=3325256706)/\vE f.so/\(f.pr=1->f.dp=8):=by
  rcases N.k3 with⟨q,rfl⟩|⟨q,rfl⟩|⟨q,rfl⟩
  ·exact⟨F.o0,F.t0,F.s0,F.d0⟩
  ·exact⟨F.o1,F.t1,F.s1,F.d1⟩
  ·exact⟨F.o2,F.t2,F.s2,F.d2⟩
 refine⟨⟨fo.1,fo.2.1,fo.2.2.1,fo.2.2.2,Ru'.hd,Ru'.hs,Ru'.sno,Ru'.dno,Jn.inv.tk,?_,Jn.inv.nd,hn⟩,DR λt ht=>⟨FE F N Jn ht (hn t ht),?_⟩⟩
 ·refine short (k:=k) ?_ ?_ hn Jn.inv.nd
  ·rcases N.k3 with⟨q,-⟩|⟨q,-⟩|⟨q,-⟩<;>lia
  ·intro t ht;rcases Jn.fs t ht with⟨q,-⟩|⟨q,-⟩|⟨q,-⟩<;>lia
 ·intro q
  have e:(turn t.o).ta=t.o.so:=by unfold turn;split<;>rfl
  have:=fo.2.1
  rw[<-q,e]at this
  have:=Jn.inv.sno.far _ _ (Jn.inv.tk t ht).fs (Jn.inv.tk t ht).bd.1 (Jn.inv.tk t ht).bd.2
  unfold wW at this;lia
theorem NG{k:Int}{st:Int}(F:eY f0 f1 f2)(N:OV f0 f1 f2 f k)(Jn:J sn f0 f1 f2 S)(P:Pre S dn sn f k)(hi:kE S s=false)(T:nF sn ⟨k,f,s,st⟩):J sn f0 f1 f2 (S++[⟨k,f,s,st⟩]):=by
 have mem:∀t∈S++[⟨k,f,s,st⟩],t∈S\/t=⟨k,f,s,st⟩:=by intro t ht;simpa using ht
 refine⟨⟨?_,?_,?_,?_,by have:=P.len;simp;lia,Jn.inv.sno⟩,?_⟩
 ·intro t ht;rcases mem t ht with h|rfl;exact Jn.inv.tk t h;exact T
 ·unfold Nd;rw[List.map_append,List.nodup_append]
  refine⟨Jn.inv.nd,by simp,?_⟩
  intro a ha b hb
  simp only[List.map_cons,List.map_nil,List.mem_singleton]at hb
  refine aT (List.mem_map.mp ha) λt ht e92=>?_
  subst e92
  rw[hb];exact P.ne t ht
 ·rw[List.map_append,List.nodup_append]
  refine⟨Jn.inv.nf,by simp,?_⟩
  intro a ha b hb
  simp only[List.map_cons,List.map_nil,List.mem_singleton]at hb
  refine aT (List.mem_map.mp ha) λt ht e93=>?_
  subst e93
  rw[hb];exact FE F N Jn ht (P.ne t ht)
 ·rw[List.map_append,List.nodup_append]
  refine⟨Jn.inv.no,by simp,?_⟩
  intro a ha b hb
  simp only[List.map_cons,List.map_nil,List.mem_singleton]at hb
  refine aT (List.mem_map.mp ha) λt ht e94=>?_
  subst e94
  rw[hb];intro q
  have:kE S s=true:=by simp only[kE,List.any_eq_true];exact⟨t,ht,dT q⟩
  rw[this]at hi;injection hi
 ·intro t ht;rcases mem t ht with h|rfl
  ·exact Jn.fs t h
  ·exact N.k3
theorem PB(hn:13<=n){f0 f1 f2 f:Sd}{k x pl seed:Int}{dn sn:Ru}{S:List Tk}{d:List Int}{bare:Bool}{sv pv ov fv:V}{kk:aR->Hp->Prop}(Ru':jV dn sn)(F:eY f0 f1 f2)(N:OV f0 f1 f2 f k)(Jn:J sn f0 f1 f2 S)(hd:d.length<=3)(hdo:fB d)(hb:bare=true->f.pr=17)
  (h:∀rho S' ext,J sn f0 f1 f2 S'->List.filter (λp=>keeps.contains p.1) rho=([("script",sv),("firsts",fv),("world",gE (.lst [cH false dn,cH true sn]))]:aR)->kk rho (base seed S'++ext)):
  mZ n 5 ([("script",sv),("x",.int x),("protos",pv),("other",ov),("firsts",fv),("world",gE (.lst [cH false dn,cH true sn])),("place",.int pl),("data",.lst (d.map .int)),("side",aF f),("is_bare",.bool bare),("number",.int k)]) (base seed S) kk K:=by
 have kn:=G3 S k
 symm
 refine gm (kn.1) ?_
 symm
 rw[kn.2]
 by_cases c:∃t∈S,t.n=k
 ·obtain⟨t,ht,hk,i,e1,e2⟩:=A8 c
  have hf:=GB N Jn ht hk
  rw[dT c]
  subst hk
  subst hf
  have I:=Jn.inv
  symm
  refine gm (aG (fits_of (by have:=I.len;simp[cM];lia)) kn.1) ?_
  symm
  rw[e1]
  symm
  refine gm (fits_of (by have:=I.len;simp[bG];lia)) ?_
  symm
  rw[show item (bG S) (i:Int)=some (aF t.o)by unfold item;rw[if_pos (by lia)];exact e2]
  symm
  by_cases c1:Int.fmod x 5<2
  ·refine gm (dT c1) ?_
   symm
   refine fN (by lia) (I.tk t ht).f hd hdo hb ?_
   symm
   refine rO (by lia) I ht hd hdo hb ?_
   symm
   exact h _ S [] Jn (by kernel_rfl)
  with_reducible refine gL (dF c1) ?_
  symm
  by_cases c2:Int.fmod x 5<4
  ·refine gm (dT c2) ?_
   symm
   refine cR (by lia) (I.tk t ht).o ?_
   refine fN (by lia) (bH (I.tk t ht).o) hd hdo (by rw[cQ,(I.tk t ht).pr];exact hb) ?_
   refine cR (by lia) (I.tk t ht).f ?_
   refine rI (by lia) I ht hd hdo hb ?_
   symm
   exact h _ S [] Jn (by kernel_rfl)
  ·with_reducible refine gL (dF c2) ?_
   refine cR (by lia) (I.tk t ht).o ?_
   refine oL (by lia) I ht hd hdo hb ?_
   exact h _ S [] Jn (by kernel_rfl)
 ·rw[dF c]
  have hne:∀t∈S,t.n≠k:=λt ht q=>c ⟨t,ht,q⟩
  obtain⟨P,hfn⟩:=AR Ru' F N Jn hne
  have hp:Pk bare f d (bU f d bare):=iJ hb
  refine kC (eR (bare:=bare) P.fo hd hdo) λg1 g2 g3 g4 g5 g6=>?_
  refine fN (by lia) P.fo hd hdo hb ?_
  symm
  obtain⟨l,el⟩:∃l,l=bU f d bare:=⟨_,rfl⟩
  rw[<-el]at g1 g2 g3 g4 g5 g6 hp ⊢
  apply cN (B:=R n "_law_scene" [gE (.lst [cH false dn,cH true sn]),.lst (l.map .int)] (base seed S) λsc H=>eO False And aN (run False And aN top n) (match(t4.drop 5).headD (.Pass default)with| .If _ _ o _=>o.drop 1|_=>[]) ⟨(fnX "law").sc,[("script",sv),("x",.int x),("protos",pv),("other",ov),("firsts",fv),("world",gE (.lst [cH false dn,cH true sn])),("place",.int pl),("data",.lst (d.map .int)),("side",aF f),("is_bare",.bool bare),("number",.int k),("scene",sc)],[]⟩ H (λrho H=>mZ n 6 rho H kk K) K)
  ·kernel_rfl
  refine gQ (by lia) g1 g2 g3 g4 g5 g6 ?_
  symm
  refine fQ (by lia) P.fo hd hp ?_
  refine i6 (by lia) Jn.inv.ok Jn.inv.len P.fo hfn ?_
  symm
  refine GC (by lia) P hd hdo hp hfn (λs2 st l' sc hi T=>?_) (λl' sc=>?_)
  ·exact h _ _ _ (NG F N Jn P hi T) (by kernel_rfl)
  ·exact h _ S _ Jn (by kernel_rfl)
theorem PJ(hn:13<=n){f0 f1 f2 f:Sd}{k x pl seed:Int}{dn sn:Ru}{S:List Tk}{d:List Int}{bare:Bool}{sv pv ov fv:V}{kk:aR->Hp->Prop}(Ru':jV dn sn)(F:eY f0 f1 f2)(N:OV f0 f1 f2 f k)(Jn:J sn f0 f1 f2 S)(hd:d.length<=3)(hdo:fB d)(hb:bare=true->f.pr=17)
  (h:∀rho S' ext,J sn f0 f1 f2 S'->List.filter (λp=>keeps.contains p.1) rho=([("script",sv),("firsts",fv),("world",gE (.lst [cH false dn,cH true sn]))]:aR)->kk rho (base seed S'++ext)):
  mZ n 5 ([("script",sv),("firsts",fv),("world",gE (.lst [cH false dn,cH true sn])),("x",.int x),("place",.int pl),("data",.lst (d.map .int)),("side",aF f),("is_bare",.bool bare),("number",.int k)]) (base seed S) kk K:=by
 have kn:=G3 S k
 symm
 refine gm (kn.1) ?_
 symm
 rw[kn.2]
 by_cases c:∃t∈S,t.n=k
 ·obtain⟨t,ht,hk,i,e1,e2⟩:=A8 c
  have hf:=GB N Jn ht hk
  rw[dT c]
  subst hk
  subst hf
  have I:=Jn.inv
  symm
  refine gm (aG (fits_of (by have:=I.len;simp[cM];lia)) kn.1) ?_
  symm
  rw[e1]
  symm
  refine gm (fits_of (by have:=I.len;simp[bG];lia)) ?_
  symm
  rw[show item (bG S) (i:Int)=some (aF t.o)by unfold item;rw[if_pos (by lia)];exact e2]
  symm
  by_cases c1:Int.fmod x 5<2
  ·refine gm (dT c1) ?_
   symm
   refine fN (by lia) (I.tk t ht).f hd hdo hb ?_
   refine rO (by lia) I ht hd hdo hb ?_
   symm
   exact h _ S [] Jn (by kernel_rfl)
  with_reducible refine gL (dF c1) ?_
  symm
  by_cases c2:Int.fmod x 5<4
  ·refine gm (dT c2) ?_
   symm
   refine cR (by lia) (I.tk t ht).o ?_
   refine fN (by lia) (bH (I.tk t ht).o) hd hdo (by rw[cQ,(I.tk t ht).pr];exact hb) ?_
   refine cR (by lia) (I.tk t ht).f ?_
   refine rI (by lia) I ht hd hdo hb ?_
   symm
   exact h _ S [] Jn (by kernel_rfl)
  ·with_reducible refine gL (dF c2) ?_
   refine cR (by lia) (I.tk t ht).o ?_
   refine oL (by lia) I ht hd hdo hb ?_
   exact h _ S [] Jn (by kernel_rfl)
 ·rw[dF c]
  have hne:∀t∈S,t.n≠k:=λt ht q=>c ⟨t,ht,q⟩
  obtain⟨P,hfn⟩:=AR Ru' F N Jn hne
  have hp:Pk bare f d (bU f d bare):=iJ hb
  refine kC (eR (bare:=bare) P.fo hd hdo) λg1 g2 g3 g4 g5 g6=>?_
  refine fN (by lia) P.fo hd hdo hb ?_
  symm
  obtain⟨l,el⟩:∃l,l=bU f d bare:=⟨_,rfl⟩
  rw[<-el]at g1 g2 g3 g4 g5 g6 hp ⊢
  apply cN (B:=R n "_law_scene" [gE (.lst [cH false dn,cH true sn]),.lst (l.map .int)] (base seed S) λsc H=>eO False And aN (run False And aN top n) (match(t4.drop 5).headD (.Pass default)with| .If _ _ o _=>o.drop 1|_=>[]) ⟨(fnX "law").sc,[("script",sv),("firsts",fv),("world",gE (.lst [cH false dn,cH true sn])),("x",.int x),("place",.int pl),("data",.lst (d.map .int)),("side",aF f),("is_bare",.bool bare),("number",.int k),("scene",sc)],[]⟩ H (λrho H=>mZ n 6 rho H kk K) K)
  ·kernel_rfl
  refine gQ (by lia) g1 g2 g3 g4 g5 g6 ?_
  refine fQ (by lia) P.fo hd hp ?_
  refine i6 (by lia) Jn.inv.ok Jn.inv.len P.fo hfn ?_
  refine GC (by lia) P hd hdo hp hfn (λs2 st l' sc hi T=>?_) (λl' sc=>?_)
  ·exact h _ _ _ (NG F N Jn P hi T) (by kernel_rfl)
  ·exact h _ S _ Jn (by kernel_rfl)
theorem M9(F:eY f0 f1 f2){z:Int}(h:0<=z/\z<3):∃f,item [aF f0,aF f1,aF f2] z=some (aF f)/\OV f0 f1 f2 f (z+1)/\f.Ok:=by
 have:z=0\/z=1\/z=2:=by lia
 rcases this with rfl|rfl|rfl
 ·exact⟨f0,rfl,⟨.inl ⟨rfl,rfl⟩⟩,F.o0⟩
 ·exact⟨f1,rfl,⟨.inr (.inl ⟨rfl,rfl⟩)⟩,F.o1⟩
 ·exact⟨f2,rfl,⟨.inr (.inr ⟨rfl,rfl⟩)⟩,F.o2⟩
theorem NN{m:Bool}(hz:KI r.fl)(H:Hp):fz 6 5 H (cH m r)=some (cH m r):=by
 have rq:∀(kind:Str) (fam:Int) (sp po:Option (Int×Int)) (fl:List V),KI fl->fz 6 5 H (iE kind fam sp po fl)=some (iE kind fam sp po fl):=by
  intro kind fam sp po fl hz
  have e1:fz 5 5 H (QR sp)=some (QR sp):=by rcases sp with _|⟨a,b⟩<;>rfl
  have e2:fz 5 5 H (QQ sp)=some (QQ sp):=by rcases sp with _|⟨a,b⟩<;>rfl
  have e3:fz 5 5 H (iF po)=some (iF po):=by rcases po with _|⟨a,b⟩<;>rfl
  have e4:fz 5 5 H (.tup fl)=some (.tup fl):=by
   show(cG (fz 4 5 H) fl).map V.tup=_
   rw[hz 3 H];rfl
  show(cG (fz 5 5 H) [.str kind,.int fam,QR sp,QQ sp,iF po,.tup fl]).map V.tup=_
  have q:cG (fz 5 5 H) [.str kind,.int fam,QR sp,QQ sp,iF po,.tup fl]=some [.str kind,.int fam,QR sp,QQ sp,iF po,.tup fl]:=aC rfl (aC rfl (aC e1 (aC e2 (aC e3 (aC e4 rfl)))))
  rw[q];rfl
 obtain⟨md,pt,fl,rnd,per⟩:=r
 simp only at hz
 induction md using Md.casesOn with
 |non=>rfl
 |fam=>exact rq _ _ _ _ _ hz
 |plain sp=>exact rq _ _ _ _ _ hz
 |masq=>exact rq _ _ _ _ _ hz
 |redir=>exact rq _ _ _ _ _ hz
 |net=>exact rq _ _ _ _ _ λ_ _=>rfl
theorem DZ(R':jV dn sn)(H:Hp):fz 8 5 H (gE (.lst [cH false dn,cH true sn]))=some (gE (.lst [cH false dn,cH true sn])):=by
 have e:fz 7 5 H (.lst [cH false dn,cH true sn])=some (.lst [cH false dn,cH true sn]):=by
  show(cG (fz 6 5 H) [cH false dn,cH true sn]).map V.lst=_
  rw[aC (NN R'.zd H) (aC (NN R'.zs H) rfl)];rfl
 have q:cG (λp:V×V=>match aL p.1 != 0 with|true=>(fz 7 5 H p.2).map (p.1, ·)|false=>none) [(V.str "rules",V.lst [cH false dn,cH true sn]),(V.str "book",V.ref 0),(V.str "outers",V.ref 3),(V.str "numbers",V.ref 4)]=some [(V.str "rules",V.lst [cH false dn,cH true sn]),(V.str "book",V.ref 0),(V.str "outers",V.ref 3),(V.str "numbers",V.ref 4)]:=
  aC (y:=(V.str "rules",V.lst [cH false dn,cH true sn])) (by show(fz 7 5 H (.lst [cH false dn,cH true sn])).map _=_;rw[e];rfl) (aC rfl (aC rfl (aC rfl rfl)))
 show Option.map V.dct _=_
 exact congrArg (Option.map V.dct) q
noncomputable abbrev DS (f0 f1 f2:Sd):V:=.lst [aF f0,aF f1,aF f2]
noncomputable abbrev xP (ns:List Int) (f0 f1 f2:Sd) (dn sn:Ru):aR:=[("script",.lst (ns.map .int)),("firsts",DS f0 f1 f2),("world",gE (.lst [cH false dn,cH true sn]))]
theorem NR{seed:Int}(R':jV dn sn)(hr:List.filter (λp=>keeps.contains p.1) rho=xP ns f0 f1 f2 dn sn)(h:k (xP ns f0 f1 f2 dn sn) (base seed S)):jT False (some keeps) 5 rho (base seed S++ext) k:=by
 show opt False (Q6 5 (base seed S++ext) (List.filter (λp=>keeps.contains p.1) rho)) _
 rw[hr]
 refine ob (x:=xP ns f0 f1 f2 dn sn) ?_ (ob (eF (vR seed S)) h)
 have e1:fz 8 5 (base seed S++ext) (.lst (ns.map .int))=some (.lst (ns.map .int)):=oN (n:=5) (g:=V.int) (l:=ns) (λ_ _ _=>rfl) _
 unfold Q6
 exact aC (by show(fz 8 5 _ _).map _=_;rw[e1];rfl) (aC rfl (aC (by show(fz 8 5 _ _).map _=_;rw[DZ R'];rfl) rfl))
theorem SD(hn:13<=n){f0 f1 f2:Sd}{x seed:Int}{dn sn:Ru}{S:List Tk}{ns:List Int}{pv ov:V}{kk:aR->Hp->Prop}(hl:ns.length<1000)(Ru':jV dn sn)(F:eY f0 f1 f2)(Jn:J sn f0 f1 f2 S)
  (h:∀S',J sn f0 f1 f2 S'->kk (xP ns f0 f1 f2 dn sn) (base seed S')):
  mZ n 0 [("script",.lst (ns.map .int)),("x",.int x),("protos",pv),("other",ov),("firsts",DS f0 f1 f2),("world",gE (.lst [cH false dn,cH true sn]))] (base seed S) (λrho H=>jT False (some keeps) 5 rho H kk) K:=by
 have h4:=bB (x:=x) (m:=4) (by decide)
 have h3:=bB (x:=Int.fdiv x 5) (m:=3) (by decide)
 have ha:=bB (x:=x) (m:=256) (by decide)
 have hb:=bB (x:=Int.fdiv x 256) (m:=256) (by decide)
 refine cB (M9 F h3) λf e1 N fo=>?_
 obtain⟨d,ed⟩:∃d,d=([Int.fmod x 256,Int.fmod (Int.fdiv x 256) 256,7]:List Int).take (Int.fmod x 4).toNat:=⟨_,rfl⟩
 have hd:d.length<=3:=by rw[ed];simp;lia
 have hdo:fB d:=by
  intro y hy
  rw[ed]at hy
  have hy:=List.mem_of_mem_take hy
  simp only[List.mem_cons,List.not_mem_nil,or_false]at hy
  rcases hy with rfl|rfl|rfl
  ·exact ha
  ·exact hb
  ·exact⟨by decide,by decide⟩
 have ec:cut [V.int (Int.fmod x 256),V.int (Int.fmod (Int.fdiv x 256) 256),V.int 7] 0 (Int.fmod x 4)=d.map V.int:=by rw[ed,List.map_take];rfl
 obtain⟨pl,epl⟩:∃pl,pl=Int.fmod (Int.fdiv x 5) 3:=⟨_,rfl⟩
 rw[<-epl]at e1 N h3
 have fin:∀bare,(bare=true->f.pr=17)->mZ n 5 ([("script",.lst (ns.map .int)),("x",.int x),("protos",pv),("other",ov),("firsts",DS f0 f1 f2),("world",gE (.lst [cH false dn,cH true sn])),("place",.int pl),("data",.lst (d.map .int)),("side",aF f),("is_bare",.bool bare),("number",.int (pl+1))]) (base seed S) (λrho H=>jT False (some keeps) 5 rho H kk) K:=by
  intro bare hb
  refine PB hn Ru' F N Jn hd hdo hb λrho S' ext J' hr=>?_
  exact NR Ru' hr (h S' J')
 symm
 rw[a9 h4.1]
 symm
 rw[ec, <-epl]
 rw[e1]
 symm
 by_cases c:f.pr=17
 ·rw[aB,dT c]
  refine fI (by lia) hl (by decide) ?_
  symm
  apply cN (b:=(fin (bQ (V.int (Int.fmod (Int.fdiv (dg ns (3:Int).toNat) 8) 2)) (V.int 1)) (λ_=>c)));kernel_rfl
 ·rw[aB,dF c]
  symm
  apply cN (b:=(fin false (λq=>by injection q)));kernel_rfl
theorem RT(hn:13<=n){f0 f1 f2:Sd}{x seed:Int}{dn sn:Ru}{S:List Tk}{ns:List Int}{kk:aR->Hp->Prop}(hl:ns.length<1000)(Ru':jV dn sn)(F:eY f0 f1 f2)(Jn:J sn f0 f1 f2 S)
  (h:∀S',J sn f0 f1 f2 S'->kk (xP ns f0 f1 f2 dn sn) (base seed S')):
  mZ n 0 [("script",.lst (ns.map .int)),("firsts",DS f0 f1 f2),("world",gE (.lst [cH false dn,cH true sn])),("x",.int x)] (base seed S) (λrho H=>jT False (some keeps) 5 rho H kk) K:=by
 have h4:=bB (x:=x) (m:=4) (by decide)
 have h3:=bB (x:=Int.fdiv x 5) (m:=3) (by decide)
 have ha:=bB (x:=x) (m:=256) (by decide)
 have hb:=bB (x:=Int.fdiv x 256) (m:=256) (by decide)
 refine cB (M9 F h3) λf e1 N fo=>?_
 obtain⟨d,ed⟩:∃d,d=([Int.fmod x 256,Int.fmod (Int.fdiv x 256) 256,7]:List Int).take (Int.fmod x 4).toNat:=⟨_,rfl⟩
 have hd:d.length<=3:=by rw[ed];simp;lia
 have hdo:fB d:=by
  intro y hy
  rw[ed]at hy
  have hy:=List.mem_of_mem_take hy
  simp only[List.mem_cons,List.not_mem_nil,or_false]at hy
  rcases hy with rfl|rfl|rfl
  ·exact ha
  ·exact hb
  ·exact⟨by decide,by decide⟩
 have ec:cut [V.int (Int.fmod x 256),V.int (Int.fmod (Int.fdiv x 256) 256),V.int 7] 0 (Int.fmod x 4)=d.map V.int:=by rw[ed,List.map_take];rfl
 obtain⟨pl,epl⟩:∃pl,pl=Int.fmod (Int.fdiv x 5) 3:=⟨_,rfl⟩
 rw[<-epl]at e1 N h3
 have fin:∀bare,(bare=true->f.pr=17)->mZ n 5 ([("script",.lst (ns.map .int)),("firsts",DS f0 f1 f2),("world",gE (.lst [cH false dn,cH true sn])),("x",.int x),("place",.int pl),("data",.lst (d.map .int)),("side",aF f),("is_bare",.bool bare),("number",.int (pl+1))]) (base seed S) (λrho H=>jT False (some keeps) 5 rho H kk) K:=by
  intro bare hb
  refine PJ (pv:=.none) (ov:=.none) hn Ru' F N Jn hd hdo hb λrho S' ext J' hr=>?_
  exact NR Ru' hr (h S' J')
 symm
 rw[a9 h4.1]
 symm
 rw[ec, <-epl]
 rw[e1]
 symm
 by_cases c:f.pr=17
 ·rw[aB,dT c]
  refine fI (by lia) hl (by decide) ?_
  symm
  apply cN (b:=(fin (bQ (V.int (Int.fmod (Int.fdiv (dg ns (3:Int).toNat) 8) 2)) (V.int 1)) (λ_=>c)));kernel_rfl
 ·rw[aB,dF c]
  symm
  apply cN (b:=(fin false (λq=>by injection q)));kernel_rfl
noncomputable abbrev yN (n:Nat) (vs:List V) (rho:aR) (H:Hp) (kk:aR->Hp->Prop) (K:V->Hp->Prop):Prop:=forL False (fnX "law").sc (λrho H k r=>eO False And aN (run False And aN top n) t4 ⟨(fnX "law").sc,rho,[]⟩ H k r) TZ (jT False (some keeps) 5) vs rho H kk K
theorem KQ(hn:13<=n){f0 f1 f2:Sd}{seed:Int}{dn sn:Ru}{ns:List Int}{kk:aR->Hp->Prop}(hl:ns.length<1000)(Ru':jV dn sn)(F:eY f0 f1 f2)(h:∀rho H,kk rho H)(xs:List Int){S:List Tk}(Jn:J sn f0 f1 f2 S):
  yN n (xs.map .int) (xP ns f0 f1 f2 dn sn) (base seed S) kk K:=by
 induction xs generalizing S with
 |nil=>exact h _ _
 |cons x xs ih=>
   have e:bL (fnX "law").sc (base seed S) (xP ns f0 f1 f2 dn sn) TZ (.int x)=some ([("script",.lst (ns.map .int)),("firsts",DS f0 f1 f2),("world",gE (.lst [cH false dn,cH true sn])),("x",.int x)]:aR):=by kernel_rfl
   refine ob e ?_
   exact RT hn hl Ru' F Jn λS' J'=>ih J'
theorem EM(hn:13<=n){f0 f1 f2:Sd}{seed:Int}{dn sn:Ru}{ns:List Int}{pv ov xv:V}{kk:aR->Hp->Prop}(hl:ns.length<1000)(Ru':jV dn sn)(F:eY f0 f1 f2)(h:∀rho H,kk rho H)(xs:List Int){S:List Tk}(Jn:J sn f0 f1 f2 S):
  yN n (xs.map .int) [("script",.lst (ns.map .int)),("x",xv),("protos",pv),("other",ov),("firsts",DS f0 f1 f2),("world",gE (.lst [cH false dn,cH true sn]))] (base seed S) kk K:=by
 induction xs using List.casesOn with
 |nil=>exact h _ _
 |cons x xs=>
   have e:bL (fnX "law").sc (base seed S) [("script",.lst (ns.map .int)),("x",xv),("protos",pv),("other",ov),("firsts",DS f0 f1 f2),("world",gE (.lst [cH false dn,cH true sn]))] TZ (.int x)=some ([("script",.lst (ns.map .int)),("x",.int x),("protos",pv),("other",ov),("firsts",DS f0 f1 f2),("world",gE (.lst [cH false dn,cH true sn]))]:aR):=by kernel_rfl
   refine ob e ?_
   exact SD hn hl Ru' F Jn λS' J'=>KQ hn hl Ru' F h xs J'
theorem R2(h:r9 sn):J sn f0 f1 f2 []:=
 ⟨⟨by simp,by simp[Nd],by simp,by simp,by simp,h⟩,by simp⟩
theorem CI(z:Int)(h:0<=z/\z<4):∃a b c:Int,(a=6\/a=17\/a=1)/\(b=6\/b=17\/b=1)/\(c=6\/c=17\/c=1)/\item [V.tup [.int 17,.int 17,.int 6],V.tup [.int 17,.int 1,.int 1],V.tup [.int 6,.int 6,.int 17],V.tup [.int 1,.int 1,.int 6]] z=some (.tup [.int a,.int b,.int c]):=by
 have:z=0\/z=1\/z=2\/z=3:=by lia
 rcases this with rfl|rfl|rfl|rfl
 ·exact⟨17,17,6,by lia,by lia,by lia,rfl⟩
 ·exact⟨17,1,1,by lia,by lia,by lia,rfl⟩
 ·exact⟨6,6,17,by lia,by lia,by lia,rfl⟩
 ·exact⟨1,1,6,by lia,by lia,by lia,rfl⟩
theorem FV(hn:13<=n){f0 f1 f2:Sd}{ns:List Int}{xv pv ov:V}(hl:ns.length<1000)(F:eY f0 f1 f2)(h:∀H,K (.bool true) H):
  seg n "law" 6 [("script",.lst (ns.map .int)),("x",xv),("protos",pv),("other",ov),("firsts",DS f0 f1 f2)] [] K:=by
 refine HN (by lia) hl λdn sn Ru'=>?_
 refine fI (by lia) hl (by decide) ?_
 symm
 obtain⟨seed,es⟩:∃s,s=Int.fmod (dg ns (4:Int).toNat) (2 ^ (32:Int).toNat):=⟨_,rfl⟩
 rw[<-es]
 refine L0 (by lia) ?_
 symm
 have fl:fits (ns.map V.int)=true:=fits_of (by simpa using hl)
 refine gm fl ?_
 symm
 have ecut:cut (ns.map V.int) 5 11=(cut ns 5 11).map V.int:=by simp[cut,List.map_take,List.map_drop]
 rw[ecut]
 refine gm (aG (fits_of (by unfold cut;simp;lia)) rfl) ?_
 symm
 refine cN (B:=yN n ((cut ns 5 11++[0,5,2,7,4]).map .int) [("script",.lst (ns.map .int)),("x",xv),("protos",pv),("other",ov),("firsts",DS f0 f1 f2),("world",gE (.lst [cH false dn,cH true sn]))] (base seed []) (λrho H=>eO False And aN (run False And aN top n) ((fnX "law").body.drop 8) ⟨(fnX "law").sc,rho,[]⟩ H (λ_ H=>K .none H) K) K) ?_ ?_
 ·rw[List.map_append];kernel_rfl
 refine EM hn hl Ru' F (λrho H=>?_) _ (R2 Ru'.sno)
 exact h H
theorem law_ok(hn:14<=n){ns:List Int}(hl:ns.length<=63)(h:∀H,K (.bool true) H):R n "law" [.lst (ns.map .int)] [] K:=by
 obtain⟨n,rfl⟩:=aU hn
 have fl:fits (ns.map V.int)=true:=fits_of (by simp;lia)
 have ecut:cut (ns.map V.int) 0 63=ns.map V.int:=by
  rw[A7];exact List.take_of_length_le (by simp;lia)
 symm
 refine gm fl ?_
 symm
 rw[ecut]
 refine fI (by lia) (by lia) (by decide) ?_
 symm
 obtain⟨x,ex⟩:∃x,x=dg ns (3:Int).toNat:=⟨_,rfl⟩
 rw[<-ex]
 refine fU (CI (Int.fmod x 4) (bB (by decide))) λa b c ha hb hc e1=>?_
 rw[e1]
 symm
 have ho:=bB (x:=Int.fdiv x 4) (m:=2) (by decide)
 obtain⟨o,eo⟩:∃o,o=Int.fmod (Int.fdiv x 4) 2:=⟨_,rfl⟩
 rw[<-eo]at ho ⊢
 have fin:=FV (n:=n) (ns:=ns) (xv:=.int x) (pv:=.tup [.int a,.int b,.int c]) (ov:=.int (3325256705+o)) (K:=K) (by lia) (by lia) (CP ha hb hc (o:=o) (by lia)) h
 by_cases c0:a=1
 ·rw[show cY a 167772161 40000 3325256705 80=⟨a,167772161,40000,3325256705,8⟩by unfold cY;rw[if_pos c0]]at fin
  rw[aB,dT c0]
  symm
  by_cases c1:b=1
  ·rw[show cY b 167772162 40000 3325256705 80=⟨b,167772162,40000,3325256705,8⟩by unfold cY;rw[if_pos c1]]at fin
   rw[aB,dT c1]
   symm
   by_cases c2:c=1
   ·rw[show cY c 167772161 53 (3325256705+o) 5000=⟨c,167772161,53,3325256705+o,8⟩by unfold cY;rw[if_pos c2]]at fin
    rw[aB,dT c2]
    symm
    apply cN (b:=fin);kernel_rfl
   ·rw[show cY c 167772161 53 (3325256705+o) 5000=⟨c,167772161,53,3325256705+o,5000⟩by unfold cY;rw[if_neg c2]]at fin
    rw[aB,dF c2]
    symm
    apply cN (b:=fin);kernel_rfl
  ·rw[show cY b 167772162 40000 3325256705 80=⟨b,167772162,40000,3325256705,80⟩by unfold cY;rw[if_neg c1]]at fin
   rw[aB,dF c1]
   symm
   by_cases c2:c=1
   ·rw[show cY c 167772161 53 (3325256705+o) 5000=⟨c,167772161,53,3325256705+o,8⟩by unfold cY;rw[if_pos c2]]at fin
    rw[aB,dT c2]
    symm
    apply cN (b:=fin);kernel_rfl
   ·rw[show cY c 167772161 53 (3325256705+o) 5000=⟨c,167772161,53,3325256705+o,5000⟩by unfold cY;rw[if_neg c2]]at fin
    rw[aB,dF c2]
    symm
    apply cN (b:=fin);kernel_rfl
 ·rw[show cY a 167772161 40000 3325256705 80=⟨a,167772161,40000,3325256705,80⟩by unfold cY;rw[if_neg c0]]at fin
  rw[aB,dF c0]
  symm
  by_cases c1:b=1
  ·rw[show cY b 167772162 40000 3325256705 80=⟨b,167772162,40000,3325256705,8⟩by unfold cY;rw[if_pos c1]]at fin
   rw[aB,dT c1]
   symm
   by_cases c2:c=1
   ·rw[show cY c 167772161 53 (3325256705+o) 5000=⟨c,167772161,53,3325256705+o,8⟩by unfold cY;rw[if_pos c2]]at fin
    rw[aB,dT c2]
    symm
    apply cN (b:=fin);kernel_rfl
   ·rw[show cY c 167772161 53 (3325256705+o) 5000=⟨c,167772161,53,3325256705+o,5000⟩by unfold cY;rw[if_neg c2]]at fin
    rw[aB,dF c2]
    symm
    apply cN (b:=fin);kernel_rfl
  ·rw[show cY b 167772162 40000 3325256705 80=⟨b,167772162,40000,3325256705,80⟩by unfold cY;rw[if_neg c1]]at fin
   rw[aB,dF c1]
   symm
   by_cases c2:c=1
   ·rw[show cY c 167772161 53 (3325256705+o) 5000=⟨c,167772161,53,3325256705+o,8⟩by unfold cY;rw[if_pos c2]]at fin
    rw[aB,dT c2]
    symm
    apply cN (b:=fin);kernel_rfl
   ·rw[show cY c 167772161 53 (3325256705+o) 5000=⟨c,167772161,53,3325256705+o,5000⟩by unfold cY;rw[if_neg c2]]at fin
    rw[aB,dF c2]
    symm
    apply cN (b:=fin);kernel_rfl
end Mine.B
end
theorem Mine.holds:PySem.Challenge.rw_pf0357_01.Holds:=Mine.holds_of_runs λ_ h=>Mine.B.law_ok (by decide) h λ_=>rfl
theorem PySem.Challenge.cw_pf0357_01_holds : PySem.Challenge.rw_pf0357_01.Holds :=
  Mine.holds
