import PyProof.Rows.All
import OpenK.KLine
import KE.KIntText
import PyProof.P3In
import PyProof.NeData
import KE.KMenu
import KE.KAssignIn
import KE.KIsNot
import PySem.Challenge.RW_nt0389_01
set_option maxRecDepth 100000
set_option Elab.async false
set_option autoImplicit false
set_option linter.all false
set_option genSizeOf false
set_option genInjectivity false
noncomputable section
section
namespace Mine
open PySem
inductive V where
 | none
 | bool (b:Bool)
 | int (i:Int)
 | str (s:Str)
 | tup (l:List V)
 | cl (l:List V)
 | cd (l:List (Int×V))
 | bo (x:Str)
 | ref (k:Nat)
 | qW
 | qQ
inductive af where
 | lst (l:List V)
 | bO (l:List (Int×V))
 | EJ (l:List (Str×V))
 | ins (l:List (Str×V))
structure St where
 n:Nat
 f:Nat->af
def St.alloc(Z:St)(o:af):St:=⟨Z.n+1,λa=>if a=Z.n then o else Z.f a⟩
def St.put(Z:St)(k:Nat)(o:af):St:=⟨Z.n,λa=>if a=k then o else Z.f a⟩
abbrev Ms:=List (Str×V)
abbrev aq:Nat:=1048576
abbrev R:=Option (V×St)
section
variable{α β δ:Type}
def bC(x:Option α)(f:α->Option δ):Option δ:=Option.casesOn x .none f
def dc(x:Option (α×β))(f:α->β->Option δ):Option δ:=Option.casesOn x .none λp=>Prod.casesOn p f
noncomputable def CT(v:V)(x:Option δ):Option δ:=V.casesOn v x (λ_=>.none) (λ_=>.none) (λ_=>.none) (λ_=>.none) (λ_=>.none) (λ_=>.none) (λ_=>.none) (λ_=>.none) .none .none
noncomputable def C0(v:V)(f:Bool->Option δ):Option δ:=V.casesOn v .none f (λ_=>.none) (λ_=>.none) (λ_=>.none) (λ_=>.none) (λ_=>.none) (λ_=>.none) (λ_=>.none) .none .none
noncomputable def jL(v:V)(f:Int->Option δ):Option δ:=V.casesOn v .none (λ_=>.none) f (λ_=>.none) (λ_=>.none) (λ_=>.none) (λ_=>.none) (λ_=>.none) (λ_=>.none) .none .none
noncomputable def Jh(v:V)(f:Str->Option δ):Option δ:=V.casesOn v .none (λ_=>.none) (λ_=>.none) f (λ_=>.none) (λ_=>.none) (λ_=>.none) (λ_=>.none) (λ_=>.none) .none .none
noncomputable def zQ(v:V)(f:List V->Option δ):Option δ:=V.casesOn v .none (λ_=>.none) (λ_=>.none) (λ_=>.none) f (λ_=>.none) (λ_=>.none) (λ_=>.none) (λ_=>.none) .none .none
noncomputable def FY(v:V)(f:Str->Option δ):Option δ:=V.casesOn v .none (λ_=>.none) (λ_=>.none) (λ_=>.none) (λ_=>.none) (λ_=>.none) (λ_=>.none) f (λ_=>.none) .none .none
noncomputable def qX(v:V)(f:Nat->Option δ):Option δ:=V.casesOn v .none (λ_=>.none) (λ_=>.none) (λ_=>.none) (λ_=>.none) (λ_=>.none) (λ_=>.none) (λ_=>.none) f .none .none
def oL(o:af)(f:List V->Option δ):Option δ:=af.casesOn o f (λ_=>.none) (λ_=>.none) (λ_=>.none)
noncomputable def oS(o:af)(f:List (Str×V)->Option δ):Option δ:=af.casesOn o (λ_=>.none) (λ_=>.none) f (λ_=>.none)
noncomputable def oI(o:af)(f:List (Str×V)->Option δ):Option δ:=af.casesOn o (λ_=>.none) (λ_=>.none) (λ_=>.none) f
def l0(l:List α)(x:Option δ):Option δ:=List.casesOn l x λ_ _=>.none
def l1(l:List α)(f:α->Option δ):Option δ:=List.casesOn l .none λa t=>l0 t (f a)
def l2(l:List α)(f:α->α->Option δ):Option δ:=List.casesOn l .none λa t=>l1 t (f a)
def JM(v:V)(f:V->V->Option δ):Option δ:=zQ v λl=>l2 l f
end
section
variable{α:Type}[DecidableEq α]
def aI(l:List (α×V))(x:α):Option V:=List.rec .none (λp _ r=>if x=p.1 then some p.2 else r) l
noncomputable def bA(l:List (α×V))(x:α)(v:V):List (α×V):=List.rec [(x,v)] (λp t r=>if x=p.1 then (p.1,v)::t else p::r) l
end
inductive Fl where
 | next | brk | ret (v:V)
section
variable(aj:Str->V)
def br:Str:="__debug__"
noncomputable def eJ(v:V):Bool:=V.casesOn v false (λ_=>false) (λ_=>false) (λ_=>false) (λ_=>false) (λ_=>false) (λ_=>false) (λ_=>false) (λ_=>false) false true
noncomputable def kg(v:V):Option V:=V.casesOn v (some v) (λ_=>some v) (λ_=>some v) (λ_=>some v) (λ_=>some v) (λ_=>some v) (λ_=>some v) (λ_=>some v) (λ_=>some v) .none (some v)
noncomputable def kh(m:Ms)(x:Str):Option V:=if x=br then .none else bC (aI m x) λv=>bif eJ v then kg (aj x) else kg v
noncomputable def setName(m:Ms)(x:Str)(v:V):Option Ms:=if x=br then .none else bC (aI m x) λu=>bif eJ u then .none else some (bA m x v)
end
noncomputable def ud(c:Const):Option V:=Const.casesOn c (some .none) (λb=>some (.bool b)) (λi=>some (.int i)) (λ_=>.none) (λ_ _=>.none) (λs=>some (.str s)) (λ_=>.none) .none
def fV:Nat:=2^4096
noncomputable def zR(op:Operator)(a b:Int):Option Int:=Operator.casesOn op (some (a+b)) (some (a-b)) (if a.natAbs<fV/\b.natAbs<fV then some (a*b) else .none) .none .none (if b≠0 then some (a.fmod b) else .none) .none (if 0<=b/\b<=4096/\a.natAbs<fV then some (a*2^b.toNat) else .none) (if 0<=b/\b<=4096 then some (a.fdiv (2^b.toNat)) else .none) (some (Builtin.bitOr a b)) (some (Builtin.bitXor a b)) (some (Builtin.bitAnd a b)) (if b≠0/\Builtin.divisionGoesByPylong a b=false then some (a.fdiv b) else .none)
noncomputable def isAdd(op:Operator):Bool:=Operator.casesOn op true false false false false false false false false false false false false
noncomputable def ue(op:Operator)(a b:V)(Z:St):R:=V.casesOn a .none (λ_=>.none) (λa=>jL b λb=>bC (zR op a b) λc=>some (.int c,Z)) (λ_=>.none) (λl=>zQ b λr=>bif isAdd op then if l.length+r.length<=aq/\l.isEmpty=false/\r.isEmpty=false then some (.tup (l++r),Z) else .none else .none) (λ_=>.none) (λ_=>.none) (λ_=>.none) (λi=>qX b λj=>bif isAdd op then oL (Z.f i) λl=>oL (Z.f j) λr=>if l.length+r.length<=aq then some (.ref Z.n,Z.alloc (.lst (l++r))) else .none else .none) .none .none
noncomputable def de{α β:Type}(f:α->Option β)(l:List α):Option (List β):=List.rec (some []) (λx _ r=>bC (f x) λy=>bC r λr=>some (y::r)) l
noncomputable def bw(Z:St)(n:Nat):V->Option PyData:=Nat.rec
 (λv=>V.casesOn v (some .none) (λb=>some (.bool b)) (λi=>some (.int i)) (λs=>some (.str s)) (λ_=>.none) (λ_=>.none) (λ_=>.none) (λ_=>.none) (λ_=>.none) .none .none)
 (λ_ r v=>V.casesOn v (some .none) (λb=>some (.bool b)) (λi=>some (.int i)) (λs=>some (.str s)) (λl=>(de r l).map .tuple) (λl=>(de r l).map .list) (λ_=>.none) (λ_=>.none) (λk=>oL (Z.f k) λl=>(de r l).map .list) .none .none) n
abbrev deep:Nat:=6
noncomputable def zL(Z:St)(a b:V):Option Bool:=bC (bw Z deep a) λx=>bC (bw Z deep b) λy=>if x.canLay0&&y.canLay0 then some (x.eqv y) else .none
noncomputable def Ji(l:List PyData)(d:PyData):Option Bool:=if PyData.canLayAll0 l&&d.canLay0 then some (l.any λy=>y.eqv d) else .none
noncomputable def inD(Z:St)(a c:V):Option Bool:=bC (bw Z deep c) λx=>bC (bw Z deep a) λd=>PyData.casesOn x .none (λ_=>.none) (λ_=>.none) (λ_=>.none) (λl=>Ji l d) (λl=>Ji l d) (λ_=>.none)
def EK(l:List (Int×V))(v:V):Option Bool:=jL v λk=>some (aI l k).isSome
def SX(x:Str)(v:V):Option Bool:=Jh v λy=>some (Txt.contains x y)
noncomputable def qR(Z:St)(a c:V):Option Bool:=V.casesOn c (inD Z a c) (λ_=>inD Z a c) (λ_=>inD Z a c) (λx=>SX x a) (λ_=>inD Z a c) (λ_=>inD Z a c) (λl=>EK l a) (λ_=>inD Z a c) (λk=>af.casesOn (Z.f k) (λ_=>inD Z a (.ref k)) (λl=>EK l a) (λ_=>inD Z a (.ref k)) (λ_=>inD Z a (.ref k))) (inD Z a c) (inD Z a c)
def EL(x:Str)(b:Bool):Option Bool:=if x="NULL" then some b else .none
noncomputable def FZ(a:V):Option Bool:=V.casesOn a (some true) (λ_=>some false) (λ_=>some false) (λ_=>some false) (λ_=>some false) (λ_=>.none) (λ_=>.none) (λx=>EL x false) (λ_=>some false) .none .none
noncomputable def bf(Z:St)(op:CmpOp)(a b:V):Option Bool:=CmpOp.casesOn op (zL Z a b) ((zL Z a b).map (!·)) (jL a λa=>jL b λb=>some (decide (a<b))) (jL a λa=>jL b λb=>some (decide (a<=b))) (jL a λa=>jL b λb=>some (decide (b<a))) (jL a λa=>jL b λb=>some (decide (b<=a))) (CT b (FZ a)) .none (qR Z a b) ((qR Z a b).map (!·))
noncomputable def dB(l:List V)(i:Int):Option V:=
 if i.natAbs<4611686018427387904 then (if 0<=i then l[i.toNat]? else if-(l.length:Int)<=i then l[(l.length+i).toNat]? else .none) else .none
noncomputable def zS(Z:St)(o:V)(i:Int):Option V:=V.casesOn o .none (λ_=>.none) (λ_=>.none) (λs=>if 0<=i/\i<4096 then bC (s.cps[i.toNat]?) λc=>some (.str ⟨#[c]⟩) else .none) (λl=>dB l i) (λl=>dB l i) (λl=>aI l i) (λ_=>.none) (λk=>af.casesOn (Z.f k) (λl=>dB l i) (λl=>aI l i) (λ_=>.none) (λ_=>.none)) .none .none
noncomputable def qY(Z:St)(o i:V):Option V:=V.casesOn i .none (λ_=>.none) (λi=>zS Z o i) (λx=>qX o λk=>oS (Z.f k) λl=>aI l x) (λ_=>.none) (λ_=>.none) (λ_=>.none) (λ_=>.none) (λ_=>.none) .none .none
noncomputable def dU{α:Type}(l:List α)(lo hi:Option Int):Option (List α):=
 if 0<=lo.getD 0/\0<=hi.getD l.length then some ((l.take (hi.getD l.length).toNat).drop (lo.getD 0).toNat) else .none
def lM(v:Option V):Option (Option Int):=Option.casesOn v (some .none) λv=>jL v λi=>some (some i)
noncomputable def zT(Z:St)(o:V)(lo hi:Option Int):R:=V.casesOn o .none (λ_=>.none) (λ_=>.none) (λs=>if s.length<=1048576 then bC (dU s.cps.toList lo hi) λl=>some (.str ⟨l.toArray⟩,Z) else .none) (λ_=>.none) (λl=>if l.length<=aq then bC (dU l lo hi) λl=>some (.ref Z.n,Z.alloc (.lst l)) else .none) (λ_=>.none) (λ_=>.none) (λk=>oL (Z.f k) λl=>bC (dU l lo hi) λl=>some (.ref Z.n,Z.alloc (.lst l))) .none .none
def C1(Z:St)(o:V)(lo hi:Option V):R:=bC (lM lo) λlo=>bC (lM hi) λhi=>zT Z o lo hi
noncomputable def EM(Z:St)(v:V):Option Str:=bC (bw Z deep v) λd=>if d.showable&&d.canLay0&&decide (d.shown.length<=aq) then some d.shown else .none
def intsOf(l:List V):Option (List Int):=de (λv=>jL v some) l
def boolsOf(l:List V):Option (List Bool):=de (λv=>C0 v some) l
def strsOf(l:List V):Option (List Str):=de (λv=>Jh v some) l
def jM(x:Int)(l:List Int):List Int:=List.rec [x] (λy t r=>if x<=y then x::y::t else y::r) l
def b7(l:List Int):List Int:=List.rec [] (λx _ r=>jM x r) l
def fW(a b:Int):List V:=(List.range (b-a).toNat).map λ(i:Nat)=>V.int (a+(i:Int))
def we(s:Str):Option Int:=if s.length<=640 then PySem.intText? s else .none
noncomputable def JN(v:V)(i b s n:Bool):Option Bool:=V.casesOn v (some false) (λ_=>some b) (λ_=>some i) (λ_=>some s) (λ_=>.none) (λ_=>.none) (λ_=>.none) (λy=>EL y n) (λ_=>.none) .none .none
noncomputable def JO(v:V)(x:Str):Option Bool:=
 if x="int" then JN v true true false false else if x="bool" then JN v false true false false else if x="str" then JN v false false true false else if x="Null" then JN v false false false true else .none
inductive BI where | len | list | abs | min | max | int | F3 | repr | sorted | all | unit
noncomputable def uf(x:Str):Option BI:=
 if x="len" then some .len else if x="list" then some .list else if x="abs" then some .abs else if x="min" then some .min
 else if x="max" then some .max else if x="int" then some .int else if x="isinstance" then some .F3 else if x="repr" then some .repr
 else if x="sorted" then some .sorted else if x="all" then some .all else if x="Unit" then some .unit else .none
noncomputable def JP(Z:St)(v:V):Option Nat:=V.casesOn v .none (λ_=>.none) (λ_=>.none) (λs=>if s.length<=1048576 then some s.length else .none) (λ_=>.none) (λ_=>.none) (λ_=>.none) (λ_=>.none) (λk=>oL (Z.f k) λl=>some l.length) .none .none
def zU(Z:St)(I:List V):R:=l1 I λv=>bC (JP Z v) λn=>some (.int (n:Int),Z)
def zV(Z:St)(I:List V):R:=l1 I λv=>qX v λk=>oL (Z.f k) λl=>some (.ref Z.n,Z.alloc (.lst l))
def JQ(Z:St)(I:List V):R:=l1 I λv=>jL v λi=>some (.int (if i<0 then-i else i),Z)
def JR(Z:St)(I:List V):R:=l2 I λv w=>jL v λa=>jL w λb=>some (.int (if b<a then b else a),Z)
def JS(Z:St)(I:List V):R:=l2 I λv w=>jL v λa=>jL w λb=>some (.int (if a<b then b else a),Z)
noncomputable def JT(Z:St)(I:List V):R:=l1 I λv=>V.casesOn v .none (λ_=>.none) (λa=>some (.int a,Z)) (λs=>bC (we s) λi=>some (.int i,Z)) (λ_=>.none) (λ_=>.none) (λ_=>.none) (λ_=>.none) (λ_=>.none) .none .none
def JU(Z:St)(I:List V):R:=l2 I λv w=>FY w λx=>bC (JO v x) λb=>some (.bool b,Z)
def oi(Z:St)(I:List V):R:=l1 I λv=>bC (EM Z v) λt=>some (.str t,Z)
noncomputable def pd(Z:St)(I:List V):R:=l1 I λv=>qX v λk=>oL (Z.f k) λl=>bC (intsOf l) λns=>if l.length<64 then some (.ref Z.n,Z.alloc (.lst ((b7 ns).map V.int))) else .none
noncomputable def zW(Z:St)(I:List V):R:=l1 I λv=>qX v λk=>oL (Z.f k) λl=>bC (boolsOf l) λbs=>some (.bool (bs.all id),Z)
noncomputable def gI(ak:Str->List V->St->R)(b:BI)(I:List V)(Z:St):R:=BI.casesOn b (zU Z I) (zV Z I) (JQ Z I) (JR Z I) (JS Z I) (JT Z I) (JU Z I) (oi Z I) (pd Z I) (zW Z I) (dc (ak "Unit.__init__" (.ref Z.n::I) (Z.alloc (.ins []))) λv J=>CT v (some (.ref Z.n,J)))
noncomputable def nameOf(b:BI):Str:=BI.casesOn b ("len") ("list") ("abs") ("min") ("max") ("int") ("isinstance") ("repr") ("sorted") ("all") ("Unit")
noncomputable def ip(x:Str)(k:Nat)(l I:List V)(Z:St):R:=
 if x="append" then l1 I λv=>if l.length<aq then some (.none,Z.put k (.lst (l++[v]))) else .none
 else if x="pop" then l0 I (bC l.getLast? λv=>some (v,Z.put k (.lst l.dropLast)))
 else if x="index" then l1 I λv=>Jh v λs=>bC (strsOf l) λts=>bC (ts.findIdx? (·==s)) λi=>some (.int ((i:Nat):Int),Z)
 else .none
noncomputable def JV(x:Str)(s:Str)(I:List V)(Z:St):R:=
 if x="split" then l1 I λv=>Jh v λy=>if s.length<=4096/\(y.length==0)=false/\(Builtin.Str.partsBetween s (Builtin.Str.occurrences s y 0 s.length (s.length+1)) y.length).length<=aq then some (.ref Z.n,Z.alloc (.lst ((Txt.split s y).map V.str))) else .none
 else .none
noncomputable def oj(x:Str)(o:V)(I:List V)(Z:St):R:=V.casesOn o .none (λ_=>.none) (λ_=>.none) (λs=>JV x s I Z) (λ_=>.none) (λ_=>.none) (λ_=>.none) (λ_=>.none) (λk=>oL (Z.f k) λl=>ip x k l I Z) .none .none
inductive Src where
 | lst (k:Nat) | items (l:List V) | kU (a b:Int) | kW (k:Nat)
noncomputable def Src.at(Z:St)(s:Src)(i:Nat):Option (Option V):=Src.casesOn s (λk=>oL (Z.f k) λl=>some l[i]?) (λl=>some l[i]?) (λa b=>some (if a+(i:Int)<b then some (.int (a+(i:Int))) else .none)) (λk=>oL (Z.f k) λl=>some ((l[i]?).map λv=>.tup [.int i,v]))
noncomputable def NY(v:V):Option Src:=V.casesOn v .none (λ_=>.none) (λ_=>.none) (λ_=>.none) (λl=>some (.items l)) (λ_=>.none) (λ_=>.none) (λ_=>.none) (λk=>some (.lst k)) .none .none
noncomputable def JW{δ:Type}(e:Expr)(d:δ)(f:List Expr->δ):δ:=(by induction e using Expr.casesOn with | Tuple es _ _=>exact f es | _=>exact d)
noncomputable def eName{δ:Type}(e:Expr)(d:δ)(f:Str->δ):δ:=(by induction e using Expr.casesOn with | Name x _=>exact f x | _=>exact d)
noncomputable def zX{δ:Type}(e:Expr)(d:δ)(f:Expr->List Expr->List Keyword->δ):δ:=(by induction e using Expr.casesOn with | Call g as ks _=>exact f g as ks | _=>exact d)
noncomputable def F4{δ:Type}(e:Expr)(d:δ)(f:Expr->Str->δ):δ:=(by induction e using Expr.casesOn with | Attribute o x _=>exact f o x | _=>exact d)
def isTup(t:Expr):Bool:=JW t false λ_=>true
def Src.ok(t:Expr)(s:Src):Bool:=Src.casesOn s (λ_=>true) (λ_=>true) (λ_ _=>true) (λ_=>isTup t)
abbrev aM:Nat:=4096
def iu{α:Type}(c:Fl)(x y:α)(r:V->α):α:=Fl.casesOn c x y r
noncomputable def cK(src:Src)(turn:V->Ms->St->Option (Fl×Ms×St))(n:Nat):Nat->Ms->St->Option (Fl×Ms×St):=Nat.rec (λ_ _ _=>.none)
 (λ_ r i m Z=>bC (src.at Z i) λo=>Option.casesOn o (some (.next,m,Z)) λv=>bC (turn v m Z) λp=>iu p.1 (r (i+1) p.2.1 p.2.2) (some (.next,p.2)) λ_=>some p) n
noncomputable def dn(test:Ms->St->Option (Bool×St))(body:Ms->St->Option (Fl×Ms×St))(n:Nat):Ms->St->Option (Fl×Ms×St):=Nat.rec (λ_ _=>.none)
 (λ_ r m Z=>dc (test m Z) λc Z=>bif c then bC (body m Z) λp=>iu p.1 (r p.2.1 p.2.2) (some (.next,p.2)) λ_=>some p else some (.next,m,Z)) n
noncomputable def cu(src:Src)(turn:V->St->Option (Option V×St))(n:Nat):Nat->List V->St->Option (List V×St):=Nat.rec (λ_ _ _=>.none)
 (λ_ r i acc Z=>bC (src.at Z i) λo=>Option.casesOn o (some (acc,Z)) λv=>dc (turn v Z) λx Z=>r (i+1) (Option.casesOn x acc λx=>acc++[x]) Z) n
noncomputable def dW(p:Str->Bool)(n:Nat):Expr->Bool:=Nat.rec (λ_=>false) (λ_ r e=>(by induction e using Expr.casesOn with | Name x _=>exact p x | Tuple es _ _=>exact es.all r | _=>exact false)) n
def dM(scope:Scope):Nat->Expr->Bool:=dW λx=>scope.names.lookup x==some .local
noncomputable def eM(B:Expr->V->Ms->Option Ms)(es:List Expr):List V->Ms->Option Ms:=List.rec (λI m=>l0 I (some m)) (λe _ r I m=>List.casesOn I .none λv I=>bC (B e v m) λm=>r I m) es
noncomputable def dy(n:Nat):Expr->V->Ms->Option Ms:=Nat.rec (λ_ _ _=>.none) (λ_ r e v m=>(by induction e using Expr.casesOn with | Name x _=>exact setName m x v | Tuple es _ _=>exact zQ v λI=>eM r es I m | _=>exact .none)) n
inductive Rs where
 | val (v:V)
 | src (s:Src)
abbrev RX:=Option (Rs×St)
noncomputable def bv{δ:Type}(x:RX)(f:V->St->Option δ):Option δ:=dc x λr Z=>Rs.casesOn r (λv=>f v Z) (λ_=>.none)
def val(v:V)(Z:St):RX:=some (.val v,Z)
def ye(x:R):RX:=dc x val
noncomputable def aG(x:RX):Option (Src×St):=dc x λr Z=>Rs.casesOn r (λv=>bC (NY v) λs=>some (s,Z)) (λs=>some (s,Z))
noncomputable def bY:List Str:=["name","params","code","consts","units","handlers","lines","local_count","cell_count","captures","is_strict","uses_arguments","self_slot","arguments_place","param_places"]
noncomputable def EN(v:V):Option V:=V.casesOn v (some v) (λ_=>some v) (λ_=>some v) (λ_=>some v) (λ_=>some v) (λ_=>some v) (λ_=>some v) (λ_=>.none) (λ_=>some v) (some v) (some v)
def qZ(o:af)(x:Str):Option V:=oI o λl=>if bY.contains x then bC (aI l x) EN else .none
def wh(Z:St)(o:V)(x:Str):Option V:=qX o λk=>qZ (Z.f k) x
noncomputable def lN(Z:St)(k:Nat)(x:Str)(v:V)(o:af):Option St:=oI o λl=>if l.length<64/\bY.contains x then some (Z.put k (.ins (bA l x v))) else .none
def gJ(Z:St)(o:V)(x:Str)(v:V):Option St:=qX o λk=>lN Z k x v (Z.f k)
noncomputable def lO(Z:St)(k:Nat)(i:Int)(v:V)(o:af):Option St:=af.casesOn o (λl=>if 0<=i/\i<l.length then some (Z.put k (.lst (l.set i.toNat v))) else .none) (λl=>if l.length<4096 then some (Z.put k (.bO (bA l i v))) else .none) (λ_=>.none) (λ_=>.none)
def lQ(Z:St)(o i v:V):Option St:=qX o λk=>jL i λi=>lO Z k i v (Z.f k)
noncomputable def dE(e:Expr):Bool:=zX e false λg as ks=>eName g false λid=>bif as.isEmpty&&ks.isEmpty then id==("super":Str) else false
noncomputable def iY(o:af)(x:Str):Bool:=af.casesOn o (λ_=>decide (x="append") || decide (x="pop") || decide (x="index")) (λ_=>false) (λ_=>false) (λ_=>false)
noncomputable def pf(Z:St)(o:V)(x:Str):Bool:=V.casesOn o false (λ_=>false) (λ_=>false) (λ_=>decide (x="split")) (λ_=>false) (λ_=>false) (λ_=>false) (λ_=>false) (λk=>iY (Z.f k) x) false false
def isFree(k:NameKind):Bool:=NameKind.casesOn k false false true false false
def lS(k:NameKind):Bool:=NameKind.casesOn k false true false false false
noncomputable def freeOf(scope:Scope):List Str:=scope.names.filterMap λp=>bif isFree p.2 then some p.1 else .none
def ph(m:Ms):List Str:=(bC (aI m br) λv=>zQ v strsOf).getD []
noncomputable def fz(scope:Scope)(m:Ms):Bool:=
 scope.kind==.function&&(scope.names.all λ(x,k)=>(k==.local || k==.free || k==.globalImplicit)&&x !=br)&&decide (scope.names.map (·.1)).Nodup&&((freeOf scope).all λx=>(ph m).contains x)
noncomputable def zY(m:Ms)(p:Str×NameKind):Option (Str×V):=NameKind.casesOn p.2 (some (p.1,.qW)) .none ((aI m p.1).map λv=>(p.1,v)) .none (some (p.1,.qQ))
def cX(scope:Scope)(m:Ms):Ms:=(br,.tup ((freeOf scope).map V.str))::scope.names.filterMap (zY m)
noncomputable def cM{α:Type}[DecidableEq α](l:List (α×V))(d:List (α×V)):List (α×V):=l.foldl (λd p=>bA d p.1 p.2) d
noncomputable def ff(ks I:List V):Option af:=Option.casesOn (intsOf ks)
 (bC (strsOf ks) λss=>if ss.length=I.length/\ss.length<16 then some (.EJ (cM (ss.zip I) [])) else .none)
 λis=>if is.length=I.length/\is.length<16 then some (.bO (cM (is.zip I) [])) else .none
def iZ(value:Expr):Bool:=JW value true λI=> !(I.all (constantsAlone 8))
section
variable(aj:Str->V)(ak:Str->List V->St->R)
def lT(x:Str)(I:List V)(Z:St):R:=Option.casesOn (uf x) (ak x I Z) λb=>gI ak b I Z
section
variable(X:Expr->Ms->St->RX)(T:Expr->Ms->St->Option (Bool×St))
noncomputable def Nc(e:Option Expr)(m:Ms)(Z:St):Option (Option V×St):=Option.casesOn e (some (.none,Z)) λe=>bv (X e m Z) λv Z=>some (some v,Z)
def lV(op:BoolOp)(b:Bool):Bool:=BoolOp.casesOn op b.not b
noncomputable def Jj(op:BoolOp)(m:Ms)(es:List Expr):St->Option (Bool×St):=List.rec (λ_=>.none)
 (λe es r Z=>bv (X e m Z) λv Z=>C0 v λb=>bif es.isEmpty || lV op b then some (b,Z) else r Z) es
noncomputable def yf(op:BoolOp)(m:Ms)(es:List Expr):St->Option (Bool×St):=List.rec (λZ=>some (op==.And,Z))
 (λe _ r Z=>dc (T e m Z) λb Z=>bif lV op b then some (b,Z) else r Z) es
noncomputable def Jk(m:Ms)(ops:List CmpOp):List Expr->V->St->Option (Bool×St):=List.rec (λ_ _ _=>.none)
 (λop ops r rs a Z=>List.casesOn rs .none λe rs=>bv (X e m Z) λb Z=>bC (bf Z op a b) λc=>bif ops.isEmpty then l0 rs (some (c,Z)) else bif rs.isEmpty then .none else bif c then r rs b Z else some (false,Z)) ops
noncomputable def om(m:Ms)(es:List Expr):St->Option (List V×St):=List.rec (λZ=>some ([],Z)) (λe _ r Z=>bv (X e m Z) λv Z=>dc (r Z) λI Z=>some (v::I,Z)) es
noncomputable def q8(m:Ms)(es:List Expr):St->Option (Bool×St):=List.rec (λZ=>some (true,Z)) (λe _ r Z=>dc (T e m Z) λb Z=>bif b then r Z else some (false,Z)) es
noncomputable def yg(m:Ms)(ks:List (Option Expr)):List Expr->St->Option ((List V×List V)×St):=List.rec (λI Z=>l0 I (some (([],[]),Z)))
 (λk _ r I Z=>bC k λk=>List.casesOn I .none λv I=>bv (X k m Z) λkv Z=>bv (X v m Z) λvv Z=>dc (r I Z) λp Z=>some ((kv::p.1,vv::p.2),Z)) ks
noncomputable def zZ(I:List V)(Z:St):RX:=List.casesOn I .none λv I=>jL v λa=>List.casesOn I (if a<=4096/\a.natAbs<2^60 then some (.src (.kU 0 a),Z) else .none) λw I=>l0 I (jL w λb=>if b-a<=4096/\a.natAbs<2^60/\b.natAbs<2^60 then some (.src (.kU a b),Z) else .none)
def z4(I:List V)(Z:St):RX:=l1 I λv=>qX v λk=>oL (Z.f k) λ_=>some (.src (.kW k),Z)
noncomputable def JX(Z:St)(s:Src):RX:=Src.casesOn s (λ_=>.none) (λ_=>.none) (λa b=>val (.ref Z.n) (Z.alloc (.lst (fW a b)))) (λ_=>.none)
def EO(r:Rs)(Z:St):RX:=Rs.casesOn r (λv=>ye (gI ak .list [v] Z)) (JX Z)
noncomputable def ug(x:Str)(args:List Expr)(m:Ms)(Z:St):RX:=bC (kh aj m x) λv=>FY v λg=>
  if g="range" then dc (om X m args Z) zZ
  else if g="enumerate" then dc (om X m args Z) z4
  else if g="list" then l1 args λa=>dc (X a m Z) (EO ak)
  else dc (om X m args Z) λI Z=>ye (lT ak g I Z)
noncomputable def compTurn(cb:Expr)(ifs:List Expr)(elt:Expr)(m:Ms)(v:V)(Z:St):Option (Option V×St):=
 bC (dy 4 cb v m) λm'=>dc (q8 T m' ifs Z) λb Z=>bif b then bv (X elt m' Z) λx Z=>some (some x,Z) else some (.none,Z)
noncomputable def NZ(op:UnaryOp)(v:V)(Z:St):RX:=UnaryOp.casesOn op .none (C0 v λb=>val (.bool !b) Z) .none (jL v λi=>val (.int (-i)) Z)
noncomputable def z7{δ:Type}(gens:List Comprehension)(f:Expr->Expr->List Expr->Option δ):Option δ:=l1 gens λg=>if g.is_async=0 then f g.target g.iter g.ifs else .none
noncomputable def rg(o:Expr)(x:Str)(args:List Expr)(m:Ms)(Z:St):RX:=bv (X o m Z) λov Z=>if pf Z ov x then dc (om X m args Z) λI Z=>ye (oj x ov I Z) else .none
noncomputable def i5(f:Expr)(args:List Expr)(pos:Pos)(m:Ms)(Z:St):RX:=(by induction f using Expr.casesOn with | Attribute o x apos=>exact bif dE o || !(apos.endLine==pos.line) || decide (20<args.length) then .none else rg X o x args m Z | Name x _=>exact ug aj ak X x args m Z | _=>exact .none)
noncomputable def i6(o i:Expr)(m:Ms)(Z:St):RX:=bv (X o m Z) λov Z=>bv (X i m Z) λiv Z=>bC (qY Z ov iv) λv=>val v Z
noncomputable def kY(o:Expr)(lo hi:Option Expr)(m:Ms)(Z:St):RX:=bv (X o m Z) λov Z=>dc (Nc X lo m Z) λlo Z=>dc (Nc X hi m Z) λhi Z=>ye (C1 Z ov lo hi)
noncomputable def iw{δ:Type}(e:Expr)(d:δ)(f:Option Expr->Option Expr->δ):δ:=(by induction e using Expr.casesOn with | Slice lo hi st _=>exact Option.casesOn st (f lo hi) λ_=>d | _=>exact d)
noncomputable def gK(elt:Expr)(scope:Scope)(cb iter:Expr)(ifs:List Expr)(m:Ms)(Z:St):RX:=dc (aG (X iter m Z)) λs Z=>if s.ok cb&&fz scope m&&dM scope 4 cb then dc (cu s (compTurn X T cb ifs elt (cX scope m)) aM 0 [] Z) λI Z=>val (.ref Z.n) (Z.alloc (.lst I)) else .none
noncomputable def i7(e:Expr)(m:Ms)(Z:St):RX:=(by induction e using Expr.casesOn with | Constant c _ _=>exact bC (ud c) λv=>val v Z | Name x _=>exact bC (kh aj m x) λv=>val v Z | BoolOp op I _=>exact dc (Jj X op m I Z) λb Z=>val (.bool b) Z | BinOp l op r _=>exact bv (X l m Z) λa Z=>bv (X r m Z) λb Z=>ye (ue op a b Z) | UnaryOp op x _=>exact bv (X x m Z) λv Z=>NZ op v Z | IfExp t b o _=>exact dc (T t m Z) λc Z=>bif c then X b m Z else X o m Z | Dict ks I _=>exact dc (yg X m ks I Z) λp Z=>bC (ff p.1 p.2) λo=>val (.ref Z.n) (Z.alloc o) | List es _=>exact dc (om X m es Z) λI Z=>if I.length<=aq then val (.ref Z.n) (Z.alloc (.lst I)) else .none | Tuple es _ _=>exact dc (om X m es Z) λI Z=>if I.length<=aq then val (.tup I) Z else .none | ListComp elt gens scope _=>exact z7 gens λcb iter ifs=>gK X T elt scope cb iter ifs m Z | Compare l ops rs _=>exact bif lastMarks ops rs then .none else bv (X l m Z) λa Z=>dc (Jk X m ops rs a Z) λb Z=>val (.bool b) Z | Call f args ks pos=>exact l0 ks (i5 aj ak X f args pos m Z) | Attribute o x _=>exact bif dE o then .none else bv (X o m Z) λov Z=>bC (wh Z ov x) λv=>val v Z | Subscript o i _=>exact iw i (i6 X o i m Z) λlo hi=>kY X o lo hi m Z | _=>exact .none)
def bZ(e:Expr)(m:Ms)(Z:St):Option (Bool×St):=bv (X e m Z) λv Z=>C0 v λb=>some (b,Z)
noncomputable def stepT(e:Expr)(m:Ms)(Z:St):Option (Bool×St):=Expr.casesOn e (λop I _=>yf T op m I Z) (λ_ _ _=>bZ X e m Z) (λ_ _ _ _=>bZ X e m Z) (λop x _=>UnaryOp.casesOn op (bZ X e m Z) (dc (T x m Z) λb Z=>some (!b,Z)) (bZ X e m Z) (bZ X e m Z)) (λ_ _ _ _=>bZ X e m Z) (λ_ _ _ _=>.none) (λ_ _ _=>bZ X e m Z) (λ_ _ _=>bZ X e m Z) (λ_ _ _ _=>bZ X e m Z) (λ_ _ _ _=>bZ X e m Z) (λ_ _ _ _ _=>bZ X e m Z) (λ_ _ _ _=>bZ X e m Z) (λ_ _=>bZ X e m Z) (λ_ _=>bZ X e m Z) (λ_ _=>bZ X e m Z) (λl ops rs _=>bif lastMarks ops rs then .none else bv (X l m Z) λa Z=>Jk X m ops rs a Z) (λ_ _ _ _=>bZ X e m Z) (λ_ _ _ _=>bZ X e m Z) (λ_ _=>bZ X e m Z) (λ_ _ _=>bZ X e m Z) (λ_ _ _=>bZ X e m Z) (λ_ _ _=>bZ X e m Z) (λ_ _=>bZ X e m Z) (λ_ _=>bZ X e m Z) (λ_ _=>bZ X e m Z) (λ_ _ _=>bZ X e m Z) (λ_ _ _ _=>bZ X e m Z)
end
noncomputable def JY(n:Nat):(Expr->Ms->St->RX)×(Expr->Ms->St->Option (Bool×St)):=Nat.rec (λ_ _ _=>.none,λ_ _ _=>.none) (λ_ r=>(i7 aj ak r.1 r.2,stepT r.1 r.2)) n
abbrev i8(n:Nat):Expr->Ms->St->RX:=(JY aj ak n).1
abbrev ki(n:Nat):Expr->Ms->St->Option (Bool×St):=(JY aj ak n).2
section
variable(X:Expr->Ms->St->RX)(T:Expr->Ms->St->Option (Bool×St))(Y:Stmt->Ms->St->Option (Fl×Ms×St))
noncomputable def fG(ss:List Stmt):Ms->St->Option (Fl×Ms×St):=List.rec (λm Z=>some (.next,m,Z)) (λs _ r m Z=>bC (Y s m Z) λp=>iu p.1 (r p.2.1 p.2.2) (some p) λ_=>some p) ss
noncomputable def hB(e:Expr):Option (Expr×Expr):=zX e .none λg as ks=>l0 ks (eName g .none λz=>if z="zip" then l2 as λa c=>some (a,c) else .none)
def wi(m:Ms):Bool:=(bC (kh aj m "zip") λv=>FY v λg=>some (decide (g="zip"))).getD false
noncomputable def F5(es:List Expr):Option (Expr×Str×Expr×Str):=l2 es λa b=>F4 a .none λo x=>F4 b .none λp y=>some (o,x,p,y)
noncomputable def pj(q:Expr×Str×Expr×Str)(v w:V)(m:Ms)(Z:St):Option (Fl×Ms×St):=
 bv (X q.1 m Z) λov Z=>bC (gJ Z ov q.2.1 v) λZ=>bv (X q.2.2.1 m Z) λow Z=>bC (gJ Z ow q.2.2.2 w) λZ=>some (.next,m,Z)
noncomputable def forTurn(t:Expr)(b:List Stmt)(v:V)(m:Ms)(Z:St):Option (Fl×Ms×St):=bC (dy 4 t v m) λm=>fG Y b m Z
noncomputable def pv(i j:Nat)(p:Ms×St):Option (Fl×Ms×St):=oL (p.2.f i) λl=>l1 l λ_=>oL (p.2.f j) λ_=>some (.next,p)
def px(i j:Nat)(p:Fl×Ms×St):Option (Fl×Ms×St):=iu p.1 (pv i j p.2) (some (.next,p.2)) λ_=>some p
noncomputable def uh(t:Expr)(b:List Stmt)(i j:Nat)(m:Ms)(Z:St):Option (Fl×Ms×St):=oL (Z.f i) λl=>l1 l λx=>oL (Z.f j) λr=>l1 r λy=>if i≠j/\isTup t=true then bC (forTurn Y t b (.tup [x,y]) m Z) (px i j) else .none
noncomputable def Aa(es:List Expr)(k:Nat)(p:Pos)(e:Expr)(m:Ms)(Z:St):Option (Fl×Ms×St):=Option.casesOn (F5 es)
 (if iZ e then bv (X e m Z) λv Z=>bC (dy 4 (.Tuple es k p) v m) λm=>some (.next,m,Z) else .none)
 λq=>bv (X e m Z) λu Z=>JM u λv w=>pj X q v w m Z
noncomputable def asg(t e:Expr)(m:Ms)(Z:St):Option (Fl×Ms×St):=(by induction t using Expr.casesOn with | Subscript o i _=>exact bv (X e m Z) λv Z=>bv (X o m Z) λov Z=>bv (X i m Z) λiv Z=>bC (lQ Z ov iv v) λZ=>some (.next,m,Z) | Name x _=>exact bv (X e m Z) λv Z=>bC (setName m x v) λm=>some (.next,m,Z) | Attribute o x _=>exact bv (X e m Z) λv Z=>bv (X o m Z) λov Z=>bC (gJ Z ov x v) λZ=>some (.next,m,Z) | Tuple es k p=>exact Aa X es k p e m Z | _=>exact .none)
noncomputable def jN(t:Expr)(p:Expr×Expr)(b:List Stmt)(m:Ms)(Z:St):Option (Fl×Ms×St):=if wi aj m then bv (X p.1 m Z) λv Z=>qX v λi=>bv (X p.2 m Z) λw Z=>qX w λj=>uh Y t b i j m Z else .none
noncomputable def lX(t e:Expr)(b:List Stmt)(m:Ms)(Z:St):Option (Fl×Ms×St):=dc (aG (X e m Z)) λs Z=>if s.ok t then cK s (forTurn Y t b) aM 0 m Z else .none
noncomputable def wj(s:Stmt)(m:Ms)(Z:St):Option (Fl×Ms×St):=(by induction s using Stmt.casesOn with | Assign ts e _=>exact l1 ts λt=>asg X t e m Z | Expr e _=>exact bv (X e m Z) λv Z=>CT v (some (.next,m,Z)) | Return e _=>exact bC e λe=>bv (X e m Z) λv Z=>some (.ret v,m,Z) | If t b o _=>exact dc (T t m Z) λc Z=>bif c then fG Y b m Z else fG Y o m Z | While t b o _=>exact l0 o (dn (T t) (fG Y b) aM m Z) | For t e b o _=>exact l0 o (Option.casesOn (hB e) (lX X Y t e b m Z) λp=>jN aj X Y t p b m Z) | Break _=>exact some (.brk,m,Z) | _=>exact .none)
end
noncomputable def cI(n:Nat):Stmt->Ms->St->Option (Fl×Ms×St):=Nat.rec (λ_ _ _=>.none) (λn r=>wj aj (i8 aj ak n) (ki aj ak n) r) n
end
structure Fn where
 params:List Str
 names:Ms
 body:List Stmt
def d9(f:Fn)(I:List V):Ms:=cM (f.params.zip I) f.names
def fg:Nat:=40
def rh(p:Fl×Ms×St):R:=iu p.1 (some (.none,p.2.2)) .none λv=>some (v,p.2.2)
noncomputable def fh(aj:Str->V)(F:Str->Option Fn)(d:Nat):Str->List V->St->R:=Nat.rec (λ_ _ _=>.none)
 (λ_ r x I Z=>bC (F x) λf=>if f.params.length=I.length then bC (fG (cI aj r fg) f.body (d9 f I) Z) rh else .none) d
noncomputable def i9(p:Str×NameKind):Option (Str×V):=NameKind.casesOn p.2 (some (p.1,.qW)) (some (p.1,.qW)) .none .none (some (p.1,.qQ))
noncomputable def namesOf(scope:Scope):Ms:=(br,.tup (scope.names.filterMap λp=>bif lS p.2 then some (V.str p.1) else .none))::scope.names.filterMap i9
noncomputable def fnOf(s:Stmt):Option Fn:=(by induction s using Stmt.casesOn with | FunctionDef _ args body _ _ _ scope _ _ _=>exact some ⟨args.args.map (·.arg),namesOf scope,body⟩ | _=>exact .none)
end Mine
end
section
namespace Mine
section
variable{α β γ δ:Type}{P:Prop}{r:δ}
theorem nN(q:(none:Option δ)=some r):P:=nomatch q
@[elab_as_elim] theorem kO{P:Option α->Prop}{x:Option α}{f:α->Option δ}(q:bC x f=some r)(k:∀a,f a=some r->P (some a)):P x:=by
 revert q;induction x using Option.casesOn<;>first | exact k _ | exact nN
theorem uO{x:Option α}{f:α->Option δ}(q:bC x f=some r)(k:∀a,x=some a->f a=some r->P):P:=kO (P:=λy=>x=y->P) q (λa q e=>k a e q) rfl
theorem uP{x:Option (α×β)}{f:α->β->Option δ}(q:dc x f=some r)(k:∀a b,x=some (a,b)->f a b=some r->P):P:=kO (P:=λy=>x=y->P) q (λa q e=>k a.1 a.2 e q) rfl
@[elab_as_elim] theorem kX{P:Rs->Prop}{z:Rs}{f:V->Option δ}(q:(Rs.casesOn z f (λ_=>none):Option δ)=some r)(k:∀v,f v=some r->P (.val v)):P z:=by
 revert q;induction z using Rs.casesOn<;>first | exact k _ | exact nN
theorem uV{x:RX}{f:V->St->Option δ}(q:bv x f=some r)(k:∀v Z,x=some (.val v,Z)->f v Z=some r->P):P:=
 uP q λz Z e q=>kX (P:=λz=>x=some (z,Z)->P) (f:=λv=>f v Z) q (λv q e=>k v Z e q) e
@[elab_as_elim] theorem kB{P:V->Prop}{v:V}{f:Bool->Option δ}(q:C0 v f=some r)(k:∀b,f b=some r->P (.bool b)):P v:=by
 revert q;induction v using V.casesOn<;>first | exact k _ | exact nN
theorem uB{v:V}{f:Bool->Option δ}(q:C0 v f=some r)(k:∀b,v=.bool b->f b=some r->P):P:=kB (P:=λy=>v=y->P) q (λa q e=>k a e q) rfl
@[elab_as_elim] theorem kI{P:V->Prop}{v:V}{f:Int->Option δ}(q:jL v f=some r)(k:∀b,f b=some r->P (.int b)):P v:=by
 revert q;induction v using V.casesOn<;>first | exact k _ | exact nN
theorem vI{v:V}{f:Int->Option δ}(q:jL v f=some r)(k:∀b,v=.int b->f b=some r->P):P:=kI (P:=λy=>v=y->P) q (λa q e=>k a e q) rfl
@[elab_as_elim] theorem kS{P:V->Prop}{v:V}{f:PySem.Str->Option δ}(q:Jh v f=some r)(k:∀b,f b=some r->P (.str b)):P v:=by
 revert q;induction v using V.casesOn<;>first | exact k _ | exact nN
theorem vS{v:V}{f:PySem.Str->Option δ}(q:Jh v f=some r)(k:∀b,v=.str b->f b=some r->P):P:=kS (P:=λy=>v=y->P) q (λa q e=>k a e q) rfl
@[elab_as_elim] theorem kT{P:V->Prop}{v:V}{f:List V->Option δ}(q:zQ v f=some r)(k:∀b,f b=some r->P (.tup b)):P v:=by
 revert q;induction v using V.casesOn<;>first | exact k _ | exact nN
theorem vT{v:V}{f:List V->Option δ}(q:zQ v f=some r)(k:∀b,v=.tup b->f b=some r->P):P:=kT (P:=λy=>v=y->P) q (λa q e=>k a e q) rfl
@[elab_as_elim] theorem kG{P:V->Prop}{v:V}{f:PySem.Str->Option δ}(q:FY v f=some r)(k:∀b,f b=some r->P (.bo b)):P v:=by
 revert q;induction v using V.casesOn<;>first | exact k _ | exact nN
theorem vG{v:V}{f:PySem.Str->Option δ}(q:FY v f=some r)(k:∀b,v=.bo b->f b=some r->P):P:=kG (P:=λy=>v=y->P) q (λa q e=>k a e q) rfl
@[elab_as_elim] theorem kR{P:V->Prop}{v:V}{f:Nat->Option δ}(q:qX v f=some r)(k:∀b,f b=some r->P (.ref b)):P v:=by
 revert q;induction v using V.casesOn<;>first | exact k _ | exact nN
theorem uR{v:V}{f:Nat->Option δ}(q:qX v f=some r)(k:∀b,v=.ref b->f b=some r->P):P:=kR (P:=λy=>v=y->P) q (λa q e=>k a e q) rfl
@[elab_as_elim] theorem kN{P:V->Prop}{v:V}{x:Option δ}(q:CT v x=some r)(k:x=some r->P .none):P v:=by
 revert q;induction v using V.casesOn<;>first | exact k | exact nN
theorem uN{v:V}{x:Option δ}(q:CT v x=some r)(k:v=.none->x=some r->P):P:=kN (P:=λy=>v=y->P) q (λq e=>k e q) rfl
theorem qL{o:af}{f:List V->Option δ}(q:oL o f=some r)(k:∀l,o=.lst l->f l=some r->P):P:=by
 revert q;induction o using af.casesOn<;>first | exact k _ rfl | exact nN
theorem qS{o:af}{f:List (PySem.Str×V)->Option δ}(q:oS o f=some r)(k:∀l,o=.EJ l->f l=some r->P):P:=by
 revert q;induction o using af.casesOn<;>first | exact k _ rfl | exact nN
theorem qI{o:af}{f:List (PySem.Str×V)->Option δ}(q:oI o f=some r)(k:∀l,o=.ins l->f l=some r->P):P:=by
 revert q;induction o using af.casesOn<;>first | exact k _ rfl | exact nN
@[elab_as_elim] theorem m0{P:List α->Prop}{l:List α}{x:Option δ}(q:l0 l x=some r)(k:x=some r->P []):P l:=by
 revert q;induction l using List.casesOn<;>first | exact k | exact nN
@[elab_as_elim] theorem m1{P:List α->Prop}{l:List α}{f:α->Option δ}(q:l1 l f=some r)(k:∀a,f a=some r->P [a]):P l:=by
 revert q;induction l using List.casesOn<;>first | exact λq=>m0 q (k _) | exact nN
@[elab_as_elim] theorem m2{P:List α->Prop}{l:List α}{f:α->α->Option δ}(q:l2 l f=some r)(k:∀a b,f a b=some r->P [a,b]):P l:=by
 revert q;induction l using List.casesOn<;>first | exact λq=>m1 q (k _) | exact nN
@[elab_as_elim] theorem kP{P:V->Prop}{u:V}{f:V->V->Option δ}(q:JM u f=some r)(k:∀v w,f v w=some r->P (.tup [v,w])):P u:=kT q λ_ q=>m2 q k
theorem uT{u:V}{f:V->V->Option δ}(q:JM u f=some r)(k:∀v w,u=.tup [v,w]->f v w=some r->P):P:=kP (P:=λy=>u=y->P) q (λv w q e=>k v w e q) rfl
theorem Rj{x:RX}{f:Bool->St->Option δ}(q:(bv x λv Z=>C0 v λb=>f b Z)=some r)(k:∀b Z,x=some (.val (.bool b),Z)->f b Z=some r->P):P:=
 uV q λv Z e q=>kB (P:=λv=>x=some (.val v,Z)->P) q (λb q e=>k b Z e q) e
theorem Rk{x:RX}{f:Nat->St->Option δ}(q:(bv x λv Z=>qX v λi=>f i Z)=some r)(k:∀i Z,x=some (.val (.ref i),Z)->f i Z=some r->P):P:=
 uV q λv Z e q=>kR (P:=λv=>x=some (.val v,Z)->P) q (λb q e=>k b Z e q) e
theorem SZ{x:RX}{f:St->Option δ}(q:(bv x λv Z=>CT v (f Z))=some r)(k:∀Z,x=some (.val .none,Z)->f Z=some r->P):P:=
 uV q λv Z e q=>kN (P:=λv=>x=some (.val v,Z)->P) q (λq e=>k Z e q) e
theorem S0{x:RX}{f:V->V->St->Option δ}(q:(bv x λu Z=>JM u λv w=>f v w Z)=some r)(k:∀v w Z,x=some (.val (.tup [v,w]),Z)->f v w Z=some r->P):P:=
 uV q λv Z e q=>kP (P:=λv=>x=some (.val v,Z)->P) q (λb c q e=>k b c Z e q) e
theorem uI{c:Prop}[d:Decidable c]{x:Option δ}(q:(if c then x else .none)=some r)(k:c->x=some r->P):P:=by
 revert q;induction d using Decidable.casesOn with
 | isTrue h=>exact k h
 | isFalse h=>exact nN
theorem uX{c:Bool}{x:Option δ}(q:(bif c then .none else x)=some r)(k:c=false->x=some r->P):P:=by
 revert q;induction c using Bool.casesOn<;>first | exact k rfl | exact nN
theorem uY{c:Bool}{x:Option δ}(q:(bif c then x else .none)=some r)(k:c=true->x=some r->P):P:=by
 revert q;induction c using Bool.casesOn<;>first | exact k rfl | exact nN
theorem uE{c:Prop}[d:Decidable c]{x y:Option δ}(q:(if c then x else y)=some r)(k:c->x=some r->P)(k':y=some r->P):P:=by
 revert q;induction d using Decidable.casesOn with
 | isTrue h=>exact k h
 | isFalse h=>exact k'
theorem uJ{c:Prop}[d:Decidable c]{x:Option δ}(q:(if c then .none else x)=some r)(k:¬c->x=some r->P):P:=by
 revert q;induction d using Decidable.casesOn with
 | isTrue h=>exact nN
 | isFalse h=>exact k h
theorem uC{c:Bool}{x y:Option δ}(q:(bif c then x else y)=some r)(k:c=true->x=some r->P)(k':c=false->y=some r->P):P:=by
 revert q;induction c using Bool.casesOn<;>first | exact k' rfl | exact k rfl
theorem uM{x:Option α}{f:α->δ}(q:x.map f=some r)(k:∀a,x=some a->f a=r->P):P:=by
 revert q;induction x using Option.casesOn<;>first | exact λq=>k _ rfl (Option.some.inj q) | exact nN
end
section
variable{α β γ:Type}{a a':α}{b b':β}{c c':γ}
@[elab_as_elim] theorem bG{P:α->Prop}(q:some a=some a')(k:P a):P a':=Option.some.inj q▸k
@[elab_as_elim] theorem dq{P:α->β->Prop}(q:some (a,b)=some (a',b'))(k:P a b):P a' b':=bG (P:=λp=>P p.1 p.2) q k
@[elab_as_elim] theorem rk{P:α->β->γ->Prop}(q:some (a,b,c)=some (a',b',c'))(k:P a b c):P a' b' c':=bG (P:=λp=>P p.1 p.2.1 p.2.2) q k
end
section
variable{P:Prop}{z:Rs}{Z J:St}
theorem uF{x:R}{z:Rs×St}(q:ye x=some z)(k:∀v,x=some (v,z.2)->z=(.val v,z.2)->P):P:=
 uP q λv Z e q=>bG (P:=λz=>(∀v,x=some (v,z.2)->z=(.val v,z.2)->P)->P) (a:=(Rs.val v,Z)) q (λk=>k v e rfl) k
@[elab_as_elim] theorem JZ{P:Rs->Prop}{x:R}{r:Rs}{Z:St}(q:ye x=some (r,Z))(k:∀v,x=some (v,Z)->P (.val v)):P r:=
 uP q λv s e q=>bG (P:=λz=>(∀v,x=some (v,z.2)->P (.val v))->P z.1) (a:=(Rs.val v,s)) q (λk=>k v e) k
end
end Mine
end
section
namespace Mine
open PySem
def eS(e:Expr):Bool:=iw e true λ_ _=>false
section
variable{δ:Type}{r:δ}{P:Expr->Prop}{e:Expr}
theorem F6{x:Option δ}{f:Option Expr->Option Expr->Option δ}(q:iw e x f=some r)(k:∀lo hi p,f lo hi=some r->P (.Slice lo hi none p))(k':x=some r->eS e=true->P e):P e:=by
 revert q k';induction e using Expr.casesOn with
 | Slice lo hi st p=>induction st using Option.casesOn<;>first | exact λq _=>k lo hi p q | exact λq k'=>k' q rfl
 | _=>exact λq k'=>k' q rfl
@[elab_as_elim] theorem J0{f:Str->Option δ}(q:eName e .none f=some r)(k:∀x p,f x=some r->P (.Name x p)):P e:=by
 revert q;induction e using Expr.casesOn<;>first | exact k _ _ | exact nN
@[elab_as_elim] theorem J1{f:Expr->Str->Option δ}(q:F4 e .none f=some r)(k:∀o x p,f o x=some r->P (.Attribute o x p)):P e:=by
 revert q;induction e using Expr.casesOn<;>first | exact k _ _ _ | exact nN
@[elab_as_elim] theorem J2{f:Expr->List Expr->List Keyword->Option δ}(q:zX e .none f=some r)(k:∀g as ks p,f g as ks=some r->P (.Call g as ks p)):P e:=by
 revert q;induction e using Expr.casesOn<;>first | exact k _ _ _ _ | exact nN
theorem bF{P:Prop}(q:false=true):P:=nomatch q
@[elab_as_elim] theorem J3(q:isTup e=true)(k:∀es k p,P (.Tuple es k p)):P e:=by
 revert q;induction e using Expr.casesOn<;>first | exact λ_=>k _ _ _ | exact bF
@[elab_as_elim] theorem J4{P:List Comprehension->Prop}{gens:List Comprehension}{f:Expr->Expr->List Expr->Option δ}(q:z7 gens f=some r)(k:∀t i c,f t i c=some r->P [⟨t,i,c,0⟩]):P gens:=
 m1 q λ⟨t,i,c,n⟩ q=>uI q λ(h:n=0) q=>h▸k t i c q
@[elab_as_elim] theorem C2{P:List Expr->Expr×Str×Expr×Str->Prop}{es:List Expr}{q:Expr×Str×Expr×Str}(e:F5 es=some q)(k:∀o x p o' x' p',P [.Attribute o x p,.Attribute o' x' p'] (o,x,o',x')):P es q:=
 m2 e λa b e=>J1 (P:=λa=>P [a,b] q) e λo x p e=>J1 (P:=λb=>P [_,b] q) e λo' x' p' e=>bG e (k o x p o' x' p')
@[elab_as_elim] theorem uj{P:Expr->Expr×Expr->Prop}{q:Expr×Expr}(h:hB e=some q)(k:∀a c p1 p2,P (.Call (.Name "zip" p1) [a,c] [] p2) (a,c)):P e q:=
 J2 (P:=λe=>P e q) h λg as ks p h=>m0 (P:=λks=>P (.Call g as ks p) q) h λh=>J0 (P:=λg=>P (.Call g as [] p) q) h λz p' h=>uI h λhz h=>m2 (P:=λas=>P (.Call (.Name z p') as [] p) q) h λa c h=>bG h (hz.symm▸k a c p' p)
end
end Mine
end
section
namespace Mine
section
variable{aj:Prop}
theorem ja{P0 P1 P2:Prop}(h:P0/\P1/\P2)(k:P0->P1->P2->aj):aj:=k h.1 h.2.1 h.2.2
theorem yh{P0 P1 P2 P3:Prop}(h:P0/\P1/\P2/\P3)(k:P0->P1->P2->P3->aj):aj:=k h.1 h.2.1 h.2.2.1 h.2.2.2
theorem J5{P0 P1 P2 P3 P4:Prop}(h:P0/\P1/\P2/\P3/\P4)(k:P0->P1->P2->P3->P4->aj):aj:=k h.1 h.2.1 h.2.2.1 h.2.2.2.1 h.2.2.2.2
theorem J6{P0 P1 P2 P3 P4 P5 P6 P7:Prop}(h:P0/\P1/\P2/\P3/\P4/\P5/\P6/\P7)(k:P0->P1->P2->P3->P4->P5->P6->P7->aj):aj:=k h.1 h.2.1 h.2.2.1 h.2.2.2.1 h.2.2.2.2.1 h.2.2.2.2.2.1 h.2.2.2.2.2.2.1 h.2.2.2.2.2.2.2
theorem yi{cY:Type}{P0:cY->Prop}(h:∃x0,P0 x0)(k:∀x0,P0 x0->aj):aj:=h.elim λx0 h=>k x0 h
theorem aO{cY:Type}{P0 P1:cY->Prop}(h:∃x0,P0 x0/\P1 x0)(k:∀x0,P0 x0->P1 x0->aj):aj:=h.elim λx0 h=>k x0 h.1 h.2
theorem bJ{cY:Type}{P0 P1 P2:cY->Prop}(h:∃x0,P0 x0/\P1 x0/\P2 x0)(k:∀x0,P0 x0->P1 x0->P2 x0->aj):aj:=h.elim λx0 h=>k x0 h.1 h.2.1 h.2.2
theorem Ab{cY:Type}{P0 P1 P2 P3:cY->Prop}(h:∃x0,P0 x0/\P1 x0/\P2 x0/\P3 x0)(k:∀x0,P0 x0->P1 x0->P2 x0->P3 x0->aj):aj:=h.elim λx0 h=>k x0 h.1 h.2.1 h.2.2.1 h.2.2.2
theorem N0{cY:Type}{P0 P1 P2 P3 P4:cY->Prop}(h:∃x0,P0 x0/\P1 x0/\P2 x0/\P3 x0/\P4 x0)(k:∀x0,P0 x0->P1 x0->P2 x0->P3 x0->P4 x0->aj):aj:=h.elim λx0 h=>k x0 h.1 h.2.1 h.2.2.1 h.2.2.2.1 h.2.2.2.2
theorem EP{cY:Type}{P0 P1 P2 P3 P4 P5 P6 P7 P8 P9 Ac ER:cY->Prop}(h:∃x0,P0 x0/\P1 x0/\P2 x0/\P3 x0/\P4 x0/\P5 x0/\P6 x0/\P7 x0/\P8 x0/\P9 x0/\Ac x0/\ER x0)(k:∀x0,P0 x0->P1 x0->P2 x0->P3 x0->P4 x0->P5 x0->P6 x0->P7 x0->P8 x0->P9 x0->Ac x0->ER x0->aj):aj:=h.elim λx0 h=>k x0 h.1 h.2.1 h.2.2.1 h.2.2.2.1 h.2.2.2.2.1 h.2.2.2.2.2.1 h.2.2.2.2.2.2.1 h.2.2.2.2.2.2.2.1 h.2.2.2.2.2.2.2.2.1 h.2.2.2.2.2.2.2.2.2.1 h.2.2.2.2.2.2.2.2.2.2.1 h.2.2.2.2.2.2.2.2.2.2.2
theorem J7{cY dF:Type}{P0:cY->dF->Prop}(h:∃x0 C,P0 x0 C)(k:∀x0 C,P0 x0 C->aj):aj:=h.elim λx0 h=>h.elim λC h=>k x0 C h
theorem bV{cY dF:Type}{P0 P1:cY->dF->Prop}(h:∃x0 C,P0 x0 C/\P1 x0 C)(k:∀x0 C,P0 x0 C->P1 x0 C->aj):aj:=h.elim λx0 h=>h.elim λC h=>k x0 C h.1 h.2
theorem lY{cY dF:Type}{P0 P1 P2:cY->dF->Prop}(h:∃x0 C,P0 x0 C/\P1 x0 C/\P2 x0 C)(k:∀x0 C,P0 x0 C->P1 x0 C->P2 x0 C->aj):aj:=h.elim λx0 h=>h.elim λC h=>k x0 C h.1 h.2.1 h.2.2
theorem fc{cY dF:Type}{P0 P1 P2 P3:cY->dF->Prop}(h:∃x0 C,P0 x0 C/\P1 x0 C/\P2 x0 C/\P3 x0 C)(k:∀x0 C,P0 x0 C->P1 x0 C->P2 x0 C->P3 x0 C->aj):aj:=h.elim λx0 h=>h.elim λC h=>k x0 C h.1 h.2.1 h.2.2.1 h.2.2.2
theorem Ae{cY dF:Type}{P0 P1 P2 P3 P4:cY->dF->Prop}(h:∃x0 C,P0 x0 C/\P1 x0 C/\P2 x0 C/\P3 x0 C/\P4 x0 C)(k:∀x0 C,P0 x0 C->P1 x0 C->P2 x0 C->P3 x0 C->P4 x0 C->aj):aj:=h.elim λx0 h=>h.elim λC h=>k x0 C h.1 h.2.1 h.2.2.1 h.2.2.2.1 h.2.2.2.2
theorem N1{cY dF:Type}{P0 P1 P2 P3 P4 P5:cY->dF->Prop}(h:∃x0 C,P0 x0 C/\P1 x0 C/\P2 x0 C/\P3 x0 C/\P4 x0 C/\P5 x0 C)(k:∀x0 C,P0 x0 C->P1 x0 C->P2 x0 C->P3 x0 C->P4 x0 C->P5 x0 C->aj):aj:=h.elim λx0 h=>h.elim λC h=>k x0 C h.1 h.2.1 h.2.2.1 h.2.2.2.1 h.2.2.2.2.1 h.2.2.2.2.2
theorem Af{cY dF:Type}{P0 P1 P2 P3 P4 P5 P6:cY->dF->Prop}(h:∃x0 C,P0 x0 C/\P1 x0 C/\P2 x0 C/\P3 x0 C/\P4 x0 C/\P5 x0 C/\P6 x0 C)(k:∀x0 C,P0 x0 C->P1 x0 C->P2 x0 C->P3 x0 C->P4 x0 C->P5 x0 C->P6 x0 C->aj):aj:=h.elim λx0 h=>h.elim λC h=>k x0 C h.1 h.2.1 h.2.2.1 h.2.2.2.1 h.2.2.2.2.1 h.2.2.2.2.2.1 h.2.2.2.2.2.2
theorem J8{cY dF:Type}{P0 P1 P2 P3 P4 P5 P6 P7 P8 P9 Ac ER Rl Rm:cY->dF->Prop}(h:∃x0 C,P0 x0 C/\P1 x0 C/\P2 x0 C/\P3 x0 C/\P4 x0 C/\P5 x0 C/\P6 x0 C/\P7 x0 C/\P8 x0 C/\P9 x0 C/\Ac x0 C/\ER x0 C/\Rl x0 C/\Rm x0 C)(k:∀x0 C,P0 x0 C->P1 x0 C->P2 x0 C->P3 x0 C->P4 x0 C->P5 x0 C->P6 x0 C->P7 x0 C->P8 x0 C->P9 x0 C->Ac x0 C->ER x0 C->Rl x0 C->Rm x0 C->aj):aj:=h.elim λx0 h=>h.elim λC h=>k x0 C h.1 h.2.1 h.2.2.1 h.2.2.2.1 h.2.2.2.2.1 h.2.2.2.2.2.1 h.2.2.2.2.2.2.1 h.2.2.2.2.2.2.2.1 h.2.2.2.2.2.2.2.2.1 h.2.2.2.2.2.2.2.2.2.1 h.2.2.2.2.2.2.2.2.2.2.1 h.2.2.2.2.2.2.2.2.2.2.2.1 h.2.2.2.2.2.2.2.2.2.2.2.2.1 h.2.2.2.2.2.2.2.2.2.2.2.2.2
theorem rp{cY dF fX:Type}{P0 P1:cY->dF->fX->Prop}(h:∃x0 C x2,P0 x0 C x2/\P1 x0 C x2)(k:∀x0 C x2,P0 x0 C x2->P1 x0 C x2->aj):aj:=h.elim λx0 h=>h.elim λC h=>h.elim λx2 h=>k x0 C x2 h.1 h.2
theorem pz{cY dF fX:Type}{P0 P1 P2:cY->dF->fX->Prop}(h:∃x0 C x2,P0 x0 C x2/\P1 x0 C x2/\P2 x0 C x2)(k:∀x0 C x2,P0 x0 C x2->P1 x0 C x2->P2 x0 C x2->aj):aj:=h.elim λx0 h=>h.elim λC h=>h.elim λx2 h=>k x0 C x2 h.1 h.2.1 h.2.2
theorem kF{cY dF fX:Type}{P0 P1 P2 P3:cY->dF->fX->Prop}(h:∃x0 C x2,P0 x0 C x2/\P1 x0 C x2/\P2 x0 C x2/\P3 x0 C x2)(k:∀x0 C x2,P0 x0 C x2->P1 x0 C x2->P2 x0 C x2->P3 x0 C x2->aj):aj:=h.elim λx0 h=>h.elim λC h=>h.elim λx2 h=>k x0 C x2 h.1 h.2.1 h.2.2.1 h.2.2.2
theorem lZ{cY dF fX:Type}{P0 P1 P2 P3 P4:cY->dF->fX->Prop}(h:∃x0 C x2,P0 x0 C x2/\P1 x0 C x2/\P2 x0 C x2/\P3 x0 C x2/\P4 x0 C x2)(k:∀x0 C x2,P0 x0 C x2->P1 x0 C x2->P2 x0 C x2->P3 x0 C x2->P4 x0 C x2->aj):aj:=h.elim λx0 h=>h.elim λC h=>h.elim λx2 h=>k x0 C x2 h.1 h.2.1 h.2.2.1 h.2.2.2.1 h.2.2.2.2
theorem F7{cY dF fX:Type}{P0 P1 P2 P3 P4 P5:cY->dF->fX->Prop}(h:∃x0 C x2,P0 x0 C x2/\P1 x0 C x2/\P2 x0 C x2/\P3 x0 C x2/\P4 x0 C x2/\P5 x0 C x2)(k:∀x0 C x2,P0 x0 C x2->P1 x0 C x2->P2 x0 C x2->P3 x0 C x2->P4 x0 C x2->P5 x0 C x2->aj):aj:=h.elim λx0 h=>h.elim λC h=>h.elim λx2 h=>k x0 C x2 h.1 h.2.1 h.2.2.1 h.2.2.2.1 h.2.2.2.2.1 h.2.2.2.2.2
theorem N4{cY dF fX:Type}{P0 P1 P2 P3 P4 P5 P6:cY->dF->fX->Prop}(h:∃x0 C x2,P0 x0 C x2/\P1 x0 C x2/\P2 x0 C x2/\P3 x0 C x2/\P4 x0 C x2/\P5 x0 C x2/\P6 x0 C x2)(k:∀x0 C x2,P0 x0 C x2->P1 x0 C x2->P2 x0 C x2->P3 x0 C x2->P4 x0 C x2->P5 x0 C x2->P6 x0 C x2->aj):aj:=h.elim λx0 h=>h.elim λC h=>h.elim λx2 h=>k x0 C x2 h.1 h.2.1 h.2.2.1 h.2.2.2.1 h.2.2.2.2.1 h.2.2.2.2.2.1 h.2.2.2.2.2.2
theorem J9{cY dF fX jO:Type}{P0:cY->dF->fX->jO->Prop}(h:∃x0 C x2 x3,P0 x0 C x2 x3)(k:∀x0 C x2 x3,P0 x0 C x2 x3->aj):aj:=h.elim λx0 h=>h.elim λC h=>h.elim λx2 h=>h.elim λx3 h=>k x0 C x2 x3 h
theorem F8{cY dF fX jO:Type}{P0 P1:cY->dF->fX->jO->Prop}(h:∃x0 C x2 x3,P0 x0 C x2 x3/\P1 x0 C x2 x3)(k:∀x0 C x2 x3,P0 x0 C x2 x3->P1 x0 C x2 x3->aj):aj:=h.elim λx0 h=>h.elim λC h=>h.elim λx2 h=>h.elim λx3 h=>k x0 C x2 x3 h.1 h.2
theorem N5{cY dF fX jO:Type}{P0 P1 P2 P3:cY->dF->fX->jO->Prop}(h:∃x0 C x2 x3,P0 x0 C x2 x3/\P1 x0 C x2 x3/\P2 x0 C x2 x3/\P3 x0 C x2 x3)(k:∀x0 C x2 x3,P0 x0 C x2 x3->P1 x0 C x2 x3->P2 x0 C x2 x3->P3 x0 C x2 x3->aj):aj:=h.elim λx0 h=>h.elim λC h=>h.elim λx2 h=>h.elim λx3 h=>k x0 C x2 x3 h.1 h.2.1 h.2.2.1 h.2.2.2
theorem ES{cY dF fX jO:Type}{P0 P1 P2 P3 P4 P5 P6 P7 P8 P9 Ac:cY->dF->fX->jO->Prop}(h:∃x0 C x2 x3,P0 x0 C x2 x3/\P1 x0 C x2 x3/\P2 x0 C x2 x3/\P3 x0 C x2 x3/\P4 x0 C x2 x3/\P5 x0 C x2 x3/\P6 x0 C x2 x3/\P7 x0 C x2 x3/\P8 x0 C x2 x3/\P9 x0 C x2 x3/\Ac x0 C x2 x3)(k:∀x0 C x2 x3,P0 x0 C x2 x3->P1 x0 C x2 x3->P2 x0 C x2 x3->P3 x0 C x2 x3->P4 x0 C x2 x3->P5 x0 C x2 x3->P6 x0 C x2 x3->P7 x0 C x2 x3->P8 x0 C x2 x3->P9 x0 C x2 x3->Ac x0 C x2 x3->aj):aj:=h.elim λx0 h=>h.elim λC h=>h.elim λx2 h=>h.elim λx3 h=>k x0 C x2 x3 h.1 h.2.1 h.2.2.1 h.2.2.2.1 h.2.2.2.2.1 h.2.2.2.2.2.1 h.2.2.2.2.2.2.1 h.2.2.2.2.2.2.2.1 h.2.2.2.2.2.2.2.2.1 h.2.2.2.2.2.2.2.2.2.1 h.2.2.2.2.2.2.2.2.2.2
theorem ET{cY dF fX jO:Type}{P0 P1 P2 P3 P4 P5 P6 P7 P8 P9 Ac ER:cY->dF->fX->jO->Prop}(h:∃x0 C x2 x3,P0 x0 C x2 x3/\P1 x0 C x2 x3/\P2 x0 C x2 x3/\P3 x0 C x2 x3/\P4 x0 C x2 x3/\P5 x0 C x2 x3/\P6 x0 C x2 x3/\P7 x0 C x2 x3/\P8 x0 C x2 x3/\P9 x0 C x2 x3/\Ac x0 C x2 x3/\ER x0 C x2 x3)(k:∀x0 C x2 x3,P0 x0 C x2 x3->P1 x0 C x2 x3->P2 x0 C x2 x3->P3 x0 C x2 x3->P4 x0 C x2 x3->P5 x0 C x2 x3->P6 x0 C x2 x3->P7 x0 C x2 x3->P8 x0 C x2 x3->P9 x0 C x2 x3->Ac x0 C x2 x3->ER x0 C x2 x3->aj):aj:=h.elim λx0 h=>h.elim λC h=>h.elim λx2 h=>h.elim λx3 h=>k x0 C x2 x3 h.1 h.2.1 h.2.2.1 h.2.2.2.1 h.2.2.2.2.1 h.2.2.2.2.2.1 h.2.2.2.2.2.2.1 h.2.2.2.2.2.2.2.1 h.2.2.2.2.2.2.2.2.1 h.2.2.2.2.2.2.2.2.2.1 h.2.2.2.2.2.2.2.2.2.2.1 h.2.2.2.2.2.2.2.2.2.2.2
theorem Ag{cY dF fX jO rq:Type}{P0 P1:cY->dF->fX->jO->rq->Prop}(h:∃x0 C x2 x3 x4,P0 x0 C x2 x3 x4/\P1 x0 C x2 x3 x4)(k:∀x0 C x2 x3 x4,P0 x0 C x2 x3 x4->P1 x0 C x2 x3 x4->aj):aj:=h.elim λx0 h=>h.elim λC h=>h.elim λx2 h=>h.elim λx3 h=>h.elim λx4 h=>k x0 C x2 x3 x4 h.1 h.2
theorem Ka{cY dF fX jO rq:Type}{P0 P1 P2 P3 P4:cY->dF->fX->jO->rq->Prop}(h:∃x0 C x2 x3 x4,P0 x0 C x2 x3 x4/\P1 x0 C x2 x3 x4/\P2 x0 C x2 x3 x4/\P3 x0 C x2 x3 x4/\P4 x0 C x2 x3 x4)(k:∀x0 C x2 x3 x4,P0 x0 C x2 x3 x4->P1 x0 C x2 x3 x4->P2 x0 C x2 x3 x4->P3 x0 C x2 x3 x4->P4 x0 C x2 x3 x4->aj):aj:=h.elim λx0 h=>h.elim λC h=>h.elim λx2 h=>h.elim λx3 h=>h.elim λx4 h=>k x0 C x2 x3 x4 h.1 h.2.1 h.2.2.1 h.2.2.2.1 h.2.2.2.2
theorem N6{cY dF fX jO rq:Type}{P0 P1 P2 P3 P4 P5 P6 P7 P8:cY->dF->fX->jO->rq->Prop}(h:∃x0 C x2 x3 x4,P0 x0 C x2 x3 x4/\P1 x0 C x2 x3 x4/\P2 x0 C x2 x3 x4/\P3 x0 C x2 x3 x4/\P4 x0 C x2 x3 x4/\P5 x0 C x2 x3 x4/\P6 x0 C x2 x3 x4/\P7 x0 C x2 x3 x4/\P8 x0 C x2 x3 x4)(k:∀x0 C x2 x3 x4,P0 x0 C x2 x3 x4->P1 x0 C x2 x3 x4->P2 x0 C x2 x3 x4->P3 x0 C x2 x3 x4->P4 x0 C x2 x3 x4->P5 x0 C x2 x3 x4->P6 x0 C x2 x3 x4->P7 x0 C x2 x3 x4->P8 x0 C x2 x3 x4->aj):aj:=h.elim λx0 h=>h.elim λC h=>h.elim λx2 h=>h.elim λx3 h=>h.elim λx4 h=>k x0 C x2 x3 x4 h.1 h.2.1 h.2.2.1 h.2.2.2.1 h.2.2.2.2.1 h.2.2.2.2.2.1 h.2.2.2.2.2.2.1 h.2.2.2.2.2.2.2.1 h.2.2.2.2.2.2.2.2
theorem oo{cY dF fX jO rq:Type}{P0 P1 P2 P3 P4 P5 P6 P7 P8 P9:cY->dF->fX->jO->rq->Prop}(h:∃x0 C x2 x3 x4,P0 x0 C x2 x3 x4/\P1 x0 C x2 x3 x4/\P2 x0 C x2 x3 x4/\P3 x0 C x2 x3 x4/\P4 x0 C x2 x3 x4/\P5 x0 C x2 x3 x4/\P6 x0 C x2 x3 x4/\P7 x0 C x2 x3 x4/\P8 x0 C x2 x3 x4/\P9 x0 C x2 x3 x4)(k:∀x0 C x2 x3 x4,P0 x0 C x2 x3 x4->P1 x0 C x2 x3 x4->P2 x0 C x2 x3 x4->P3 x0 C x2 x3 x4->P4 x0 C x2 x3 x4->P5 x0 C x2 x3 x4->P6 x0 C x2 x3 x4->P7 x0 C x2 x3 x4->P8 x0 C x2 x3 x4->P9 x0 C x2 x3 x4->aj):aj:=h.elim λx0 h=>h.elim λC h=>h.elim λx2 h=>h.elim λx3 h=>h.elim λx4 h=>k x0 C x2 x3 x4 h.1 h.2.1 h.2.2.1 h.2.2.2.1 h.2.2.2.2.1 h.2.2.2.2.2.1 h.2.2.2.2.2.2.1 h.2.2.2.2.2.2.2.1 h.2.2.2.2.2.2.2.2.1 h.2.2.2.2.2.2.2.2.2
theorem N7{cY dF fX jO rq C3:Type}{P0 P1 P2 P3 P4 P5:cY->dF->fX->jO->rq->C3->Prop}(h:∃x0 C x2 x3 x4 x5,P0 x0 C x2 x3 x4 x5/\P1 x0 C x2 x3 x4 x5/\P2 x0 C x2 x3 x4 x5/\P3 x0 C x2 x3 x4 x5/\P4 x0 C x2 x3 x4 x5/\P5 x0 C x2 x3 x4 x5)(k:∀x0 C x2 x3 x4 x5,P0 x0 C x2 x3 x4 x5->P1 x0 C x2 x3 x4 x5->P2 x0 C x2 x3 x4 x5->P3 x0 C x2 x3 x4 x5->P4 x0 C x2 x3 x4 x5->P5 x0 C x2 x3 x4 x5->aj):aj:=h.elim λx0 h=>h.elim λC h=>h.elim λx2 h=>h.elim λx3 h=>h.elim λx4 h=>h.elim λx5 h=>k x0 C x2 x3 x4 x5 h.1 h.2.1 h.2.2.1 h.2.2.2.1 h.2.2.2.2.1 h.2.2.2.2.2
theorem Kb{cY dF fX jO rq C3:Type}{P0 P1 P2 P3 P4:cY->dF->fX->jO->rq->C3->Prop}(h:∃x0 C x2 x3 x4 x5,P0 x0 C x2 x3 x4 x5/\P1 x0 C x2 x3 x4 x5/\P2 x0 C x2 x3 x4 x5/\P3 x0 C x2 x3 x4 x5/\P4 x0 C x2 x3 x4 x5)(k:∀x0 C x2 x3 x4 x5,P0 x0 C x2 x3 x4 x5->P1 x0 C x2 x3 x4 x5->P2 x0 C x2 x3 x4 x5->P3 x0 C x2 x3 x4 x5->P4 x0 C x2 x3 x4 x5->aj):aj:=h.elim λx0 h=>h.elim λC h=>h.elim λx2 h=>h.elim λx3 h=>h.elim λx4 h=>h.elim λx5 h=>k x0 C x2 x3 x4 x5 h.1 h.2.1 h.2.2.1 h.2.2.2.1 h.2.2.2.2
theorem N8{cY dF fX jO rq C3 Kc Kd Ke:Type}{P0 P1 P2 P3 P4:cY->dF->fX->jO->rq->C3->Kc->Kd->Ke->Prop}(h:∃x0 C x2 x3 x4 x5 x6 x7 x8,P0 x0 C x2 x3 x4 x5 x6 x7 x8/\P1 x0 C x2 x3 x4 x5 x6 x7 x8/\P2 x0 C x2 x3 x4 x5 x6 x7 x8/\P3 x0 C x2 x3 x4 x5 x6 x7 x8/\P4 x0 C x2 x3 x4 x5 x6 x7 x8)(k:∀x0 C x2 x3 x4 x5 x6 x7 x8,P0 x0 C x2 x3 x4 x5 x6 x7 x8->P1 x0 C x2 x3 x4 x5 x6 x7 x8->P2 x0 C x2 x3 x4 x5 x6 x7 x8->P3 x0 C x2 x3 x4 x5 x6 x7 x8->P4 x0 C x2 x3 x4 x5 x6 x7 x8->aj):aj:=h.elim λx0 h=>h.elim λC h=>h.elim λx2 h=>h.elim λx3 h=>h.elim λx4 h=>h.elim λx5 h=>h.elim λx6 h=>h.elim λx7 h=>h.elim λx8 h=>k x0 C x2 x3 x4 x5 x6 x7 x8 h.1 h.2.1 h.2.2.1 h.2.2.2.1 h.2.2.2.2
theorem EU{cY dF fX jO rq C3 Kc Kd Ke N9 F9:Type}{P0 P1 P2 P3 P4 P5 P6 P7 P8:cY->dF->fX->jO->rq->C3->Kc->Kd->Ke->N9->F9->Prop}(h:∃x0 C x2 x3 x4 x5 x6 x7 x8 x9 gz,P0 x0 C x2 x3 x4 x5 x6 x7 x8 x9 gz/\P1 x0 C x2 x3 x4 x5 x6 x7 x8 x9 gz/\P2 x0 C x2 x3 x4 x5 x6 x7 x8 x9 gz/\P3 x0 C x2 x3 x4 x5 x6 x7 x8 x9 gz/\P4 x0 C x2 x3 x4 x5 x6 x7 x8 x9 gz/\P5 x0 C x2 x3 x4 x5 x6 x7 x8 x9 gz/\P6 x0 C x2 x3 x4 x5 x6 x7 x8 x9 gz/\P7 x0 C x2 x3 x4 x5 x6 x7 x8 x9 gz/\P8 x0 C x2 x3 x4 x5 x6 x7 x8 x9 gz)(k:∀x0 C x2 x3 x4 x5 x6 x7 x8 x9 gz,P0 x0 C x2 x3 x4 x5 x6 x7 x8 x9 gz->P1 x0 C x2 x3 x4 x5 x6 x7 x8 x9 gz->P2 x0 C x2 x3 x4 x5 x6 x7 x8 x9 gz->P3 x0 C x2 x3 x4 x5 x6 x7 x8 x9 gz->P4 x0 C x2 x3 x4 x5 x6 x7 x8 x9 gz->P5 x0 C x2 x3 x4 x5 x6 x7 x8 x9 gz->P6 x0 C x2 x3 x4 x5 x6 x7 x8 x9 gz->P7 x0 C x2 x3 x4 x5 x6 x7 x8 x9 gz->P8 x0 C x2 x3 x4 x5 x6 x7 x8 x9 gz->aj):aj:=h.elim λx0 h=>h.elim λC h=>h.elim λx2 h=>h.elim λx3 h=>h.elim λx4 h=>h.elim λx5 h=>h.elim λx6 h=>h.elim λx7 h=>h.elim λx8 h=>h.elim λx9 h=>h.elim λgz h=>k x0 C x2 x3 x4 x5 x6 x7 x8 x9 gz h.1 h.2.1 h.2.2.1 h.2.2.2.1 h.2.2.2.2.1 h.2.2.2.2.2.1 h.2.2.2.2.2.2.1 h.2.2.2.2.2.2.2.1 h.2.2.2.2.2.2.2.2
theorem Ah{cY dF fX jO rq C3 Kc Kd Ke N9 F9 Oa:Type}{P0:cY->dF->fX->jO->rq->C3->Kc->Kd->Ke->N9->F9->Oa->Prop}(h:∃x0 C x2 x3 x4 x5 x6 x7 x8 x9 gz Kf,P0 x0 C x2 x3 x4 x5 x6 x7 x8 x9 gz Kf)(k:∀x0 C x2 x3 x4 x5 x6 x7 x8 x9 gz Kf,P0 x0 C x2 x3 x4 x5 x6 x7 x8 x9 gz Kf->aj):aj:=h.elim λx0 h=>h.elim λC h=>h.elim λx2 h=>h.elim λx3 h=>h.elim λx4 h=>h.elim λx5 h=>h.elim λx6 h=>h.elim λx7 h=>h.elim λx8 h=>h.elim λx9 h=>h.elim λgz h=>h.elim λKf h=>k x0 C x2 x3 x4 x5 x6 x7 x8 x9 gz Kf h
end
end Mine
end
section
namespace Mine
open PySem PySem.Calls
structure WC where
 pg:Program
 w:World
 aA:Heap
 ak:Addr
 gv:Str->Option Value
abbrev Mu:=Nat->Addr×Addr
abbrev bL(l:List Value)(e:Nat):Obj:=⟨.type "tuple",none,.seq l.toArray e,#[]⟩
abbrev fC(l:List Value)(e:Nat):Obj:=⟨.type "list",none,.seq l.toArray e,#[]⟩
section
variable(W:WC)(h:Heap)(O:Mu)(n:Nat)
noncomputable def VR(v:V):Value->Prop:=V.rec (motive_1:=λ_=>Value->Prop) (motive_2:=λ_=>List Value->Prop) (motive_3:=λ_=>(Int->Option Value)->Prop) (motive_4:=λ_=>Value->Prop)
  (λr=>r=.none) (λb r=>r=.bool b) (λi r=>∃t,r=.int i t) (λs r=>∃t,r=.str s t)
  (λ_ q r=>∃rs a e,r=.ref a/\h.get? a=some (bL rs e)/\q rs) (λ_ q r=>∃rs a e,r=.ref a/\W.aA.get? a=some (fC rs e)/\q rs)
  (λ_ q r=>∃a f,r=.ref a/\W.aA.MapOf (intKind W.pg W.w) a f/\(a==sysModules)=false/\q f) (λx r=>W.gv x=some r) (λk r=>r=.ref (O k).1/\k<n) (λ_=>False) (λ_=>False)
  (λrs=>rs=[]) (λ_ _ p q rs=>∃r t,rs=r::t/\p r/\q t) (λf=>∀k,f k=none) (λx _ p q f=>∃r g,f x.1=some r/\p r/\(∀j,j≠x.1->f j=g j)/\q g) (λ_ _ p=>p) v
noncomputable def bq(l:List V):List Value->Prop:=V.rec_1 (motive_1:=λ_=>Value->Prop) (motive_2:=λ_=>List Value->Prop) (motive_3:=λ_=>(Int->Option Value)->Prop) (motive_4:=λ_=>Value->Prop)
  (λr=>r=.none) (λb r=>r=.bool b) (λi r=>∃t,r=.int i t) (λs r=>∃t,r=.str s t)
  (λ_ q r=>∃rs a e,r=.ref a/\h.get? a=some (bL rs e)/\q rs) (λ_ q r=>∃rs a e,r=.ref a/\W.aA.get? a=some (fC rs e)/\q rs)
  (λ_ q r=>∃a f,r=.ref a/\W.aA.MapOf (intKind W.pg W.w) a f/\(a==sysModules)=false/\q f) (λx r=>W.gv x=some r) (λk r=>r=.ref (O k).1/\k<n) (λ_=>False) (λ_=>False)
  (λrs=>rs=[]) (λ_ _ p q rs=>∃r t,rs=r::t/\p r/\q t) (λf=>∀k,f k=none) (λx _ p q f=>∃r g,f x.1=some r/\p r/\(∀j,j≠x.1->f j=g j)/\q g) (λ_ _ p=>p) l
noncomputable def wk(l:List (Int×V)):(Int->Option Value)->Prop:=V.rec_2 (motive_1:=λ_=>Value->Prop) (motive_2:=λ_=>List Value->Prop) (motive_3:=λ_=>(Int->Option Value)->Prop) (motive_4:=λ_=>Value->Prop)
  (λr=>r=.none) (λb r=>r=.bool b) (λi r=>∃t,r=.int i t) (λs r=>∃t,r=.str s t)
  (λ_ q r=>∃rs a e,r=.ref a/\h.get? a=some (bL rs e)/\q rs) (λ_ q r=>∃rs a e,r=.ref a/\W.aA.get? a=some (fC rs e)/\q rs)
  (λ_ q r=>∃a f,r=.ref a/\W.aA.MapOf (intKind W.pg W.w) a f/\(a==sysModules)=false/\q f) (λx r=>W.gv x=some r) (λk r=>r=.ref (O k).1/\k<n) (λ_=>False) (λ_=>False)
  (λrs=>rs=[]) (λ_ _ p q rs=>∃r t,rs=r::t/\p r/\q t) (λf=>∀k,f k=none) (λx _ p q f=>∃r g,f x.1=some r/\p r/\(∀j,j≠x.1->f j=g j)/\q g) (λ_ _ p=>p) l
end
section
variable{W:WC}{h G:Heap}{O aN:Mu}{n n':Nat}
theorem VR.none:VR W h O n .none .none:=rfl
theorem VR.bool(b:Bool):VR W h O n (.bool b) (.bool b):=rfl
theorem VR.int(i:Int)(t:Tok):VR W h O n (.int i) (.int i t):=⟨t,rfl⟩
theorem VR.str(s:Str)(t:Tok):VR W h O n (.str s) (.str s t):=⟨t,rfl⟩
theorem VR.tup{I:List V}{rs:List Value}{a:Addr}{e:Nat}(p:h.get? a=some (bL rs e))(q:bq W h O n I rs):VR W h O n (.tup I) (.ref a):=⟨rs,a,e,rfl,p,q⟩
theorem VR.cl{I:List V}{rs:List Value}{a:Addr}{e:Nat}(p:W.aA.get? a=some (fC rs e))(q:bq W h O n I rs):VR W h O n (.cl I) (.ref a):=⟨rs,a,e,rfl,p,q⟩
theorem VR.cd{l:List (Int×V)}{a:Addr}{f:Int->Option Value}(p:W.aA.MapOf (intKind W.pg W.w) a f)(q:(a==sysModules)=false)(x:wk W h O n l f):VR W h O n (.cd l) (.ref a):=⟨a,f,rfl,p,q,x⟩
theorem VR.bo{x:Str}{v:Value}(e:W.gv x=some v):VR W h O n (.bo x) v:=e
theorem VR.ref{k:Nat}(q:k<n):VR W h O n (.ref k) (.ref (O k).1):=⟨rfl,q⟩
theorem bq.nil:bq W h O n [] []:=rfl
theorem bq.cons{v:V}{r:Value}{I:List V}{rs:List Value}(p:VR W h O n v r)(q:bq W h O n I rs):bq W h O n (v::I) (r::rs):=⟨r,rs,rfl,p,q⟩
theorem wk.nil{f:Int->Option Value}(e:∀k,f k=Option.none):wk W h O n [] f:=e
theorem wk.cons{k:Int}{v:V}{r:Value}{l:List (Int×V)}{f g:Int->Option Value}(e:f k=some r)(p:VR W h O n v r)(q:∀j,j≠k->f j=g j)(x:wk W h O n l g):wk W h O n ((k,v)::l) f:=⟨r,g,e,p,q,x⟩
section
variable{v w:V}{I:List V}
@[elab_as_elim] theorem VR.iI{P:Value->Prop}{i:Int}{r:Value}(x:VR W h O n (.int i) r)(k:∀t,P (.int i t)):P r:=x.elim λt e=>e▸k t
@[elab_as_elim] theorem VR.iS{P:Value->Prop}{i:Str}{r:Value}(x:VR W h O n (.str i) r)(k:∀t,P (.str i t)):P r:=x.elim λt e=>e▸k t
@[elab_as_elim] theorem VR.iB{P:Value->Prop}{b:Bool}{r:Value}(x:VR W h O n (.bool b) r)(k:P (.bool b)):P r:=(show r=.bool b from x)▸k
@[elab_as_elim] theorem VR.iN{P:Value->Prop}{r:Value}(x:VR W h O n .none r)(k:P .none):P r:=(show r=.none from x)▸k
@[elab_as_elim] theorem VR.iR{P:Value->Prop}{k:Nat}{r:Value}(x:VR W h O n (.ref k) r)(z:k<n->P (.ref (O k).1)):P r:=x.1▸z x.2
@[elab_as_elim] theorem VR.iT{P:Value->Prop}{r:Value}(x:VR W h O n (.tup I) r)(k:∀rs a e,h.get? a=some (bL rs e)->bq W h O n I rs->P (.ref a)):P r:=
 x.elim λrs x=>x.elim λa x=>x.elim λe x=>x.1▸k rs a e x.2.1 x.2.2
@[elab_as_elim] theorem VR.iC{P:Value->Prop}{r:Value}(x:VR W h O n (.cl I) r)(k:∀rs a e,W.aA.get? a=some (fC rs e)->bq W h O n I rs->P (.ref a)):P r:=
 x.elim λrs x=>x.elim λa x=>x.elim λe x=>x.1▸k rs a e x.2.1 x.2.2
@[elab_as_elim] theorem VR.iD{P:Value->Prop}{l:List (Int×V)}{r:Value}(x:VR W h O n (.cd l) r)(k:∀a f,W.aA.MapOf (intKind W.pg W.w) a f->(a==sysModules)=false->wk W h O n l f->P (.ref a)):P r:=
 x.elim λa x=>x.elim λf x=>x.1▸k a f x.2.1 x.2.2.1 x.2.2.2
@[elab_as_elim] theorem VR.jI{P:Value->Prop}{i:Int}{r:Value}(x:VR W h O n v r)(e:v=.int i)(k:∀t,P (.int i t)):P r:=VR.iI (P:=P) (e▸x) k
@[elab_as_elim] theorem VR.jS{P:Value->Prop}{i:Str}{r:Value}(x:VR W h O n v r)(e:v=.str i)(k:∀t,P (.str i t)):P r:=VR.iS (P:=P) (e▸x) k
@[elab_as_elim] theorem VR.jB{P:Value->Prop}{i:Bool}{r:Value}(x:VR W h O n v r)(e:v=.bool i)(k:P (.bool i)):P r:=VR.iB (P:=P) (e▸x) k
@[elab_as_elim] theorem VR.jR{P:Value->Prop}{i:Nat}{r:Value}(x:VR W h O n v r)(e:v=.ref i)(k:i<n->P (.ref (O i).1)):P r:=VR.iR (P:=P) (e▸x) k
@[elab_as_elim] theorem VR.jT{P:Value->Prop}{i:List V}{r:Value}(x:VR W h O n v r)(e:v=.tup i)(k:∀rs a e,h.get? a=some (bL rs e)->bq W h O n i rs->P (.ref a)):P r:=VR.iT (P:=P) (e▸x) k
@[elab_as_elim] theorem bq.i0{P:List Value->Prop}{rs:List Value}(x:bq W h O n [] rs)(k:P []):P rs:=(show rs=[] from x)▸k
@[elab_as_elim] theorem bq.ic{P:List Value->Prop}{rs:List Value}(x:bq W h O n (v::I) rs)(k:∀r t,VR W h O n v r->bq W h O n I t->P (r::t)):P rs:=
 x.elim λr x=>x.elim λt x=>x.1▸k r t x.2.1 x.2.2
@[elab_as_elim] theorem bq.i1{P:List Value->Prop}{rs:List Value}(x:bq W h O n [v] rs)(k:∀r,VR W h O n v r->P [r]):P rs:=x.ic λr _ p q=>q.i0 (k r p)
@[elab_as_elim] theorem bq.i2{P:List Value->Prop}{rs:List Value}(x:bq W h O n [v,w] rs)(k:∀r t,VR W h O n v r->VR W h O n w t->P [r,t]):P rs:=x.ic λr _ p q=>q.i1 (k r · p)
end
theorem VR.all(ht:∀a rs e,h.get? a=some (bL rs e)->G.get? a=some (bL rs e))(hm:∀k,k<n->aN k=O k)(hn:n<=n'){v:V}:∀{r:Value},VR W h O n v r->VR W G aN n' v r:=
 @V.rec (λv=>∀{r},VR W h O n v r->VR W G aN n' v r) (λv=>∀{r},bq W h O n v r->bq W G aN n' v r) (λv=>∀{r},wk W h O n v r->wk W G aN n' v r) (λv=>∀{r},VR W h O n v.2 r->VR W G aN n' v.2 r)
  id (λ_ _ x=>x) (λ_ _ x=>x) (λ_ _ x=>x) (λ_ q _ x=>x.iT λ_ _ _ e y=>.tup (ht _ _ _ e) (q y)) (λ_ q _ x=>x.iC λ_ _ _ e y=>.cl e (q y)) (λ_ q _ x=>x.iD λ_ _ e l y=>.cd e l (q y)) (λ_ _ x=>x)
  (λk _ x=>x.iR λq=>hm k q▸ .ref (Nat.lt_of_lt_of_le q hn)) id id id (λ_ _ p q _ x=>x.ic λ_ _ a b=>.cons (p a) (q b)) id (λ_ _ p q _ x=>x.elim λr x=>x.elim λg x=>⟨r,g,x.1,p x.2.1,x.2.2.1,q x.2.2.2⟩) (λ_ _ p=>p) v
theorem VR.mono(ht:∀a rs e,h.get? a=some (bL rs e)->G.get? a=some (bL rs e))(hm:∀k,k<n->aN k=O k)(hn:n<=n'){v:V}{r:Value}(x:VR W h O n v r):VR W G aN n' v r:=VR.all ht hm hn x
theorem bq.ind{P:List V->List Value->Prop}(h0:P [] [])(h1:∀v r I rs,VR W h O n v r->bq W h O n I rs->P I rs->P (v::I) (r::rs)){v:List V}:∀{r:List Value},bq W h O n v r->P v r:=
 List.rec (motive:=λv=>∀{r},bq W h O n v r->P v r) (λx=>x.i0 h0) (λ_ _ q _ x=>x.ic λ_ _ a b=>h1 _ _ _ _ a b (q b)) v
theorem bq.mono(ht:∀a rs e,h.get? a=some (bL rs e)->G.get? a=some (bL rs e))(hm:∀k,k<n->aN k=O k)(hn:n<=n'){v:List V}{r:List Value}(x:bq W h O n v r):bq W G aN n' v r:=
 x.ind (P:=λv r=>bq W G aN n' v r) .nil λ_ _ _ _ a _ q=>.cons (a.mono ht hm hn) q
theorem bq.length{v:List V}{r:List Value}(x:bq W h O n v r):r.length=v.length:=bq.ind (P:=λv r=>r.length=v.length) rfl (λ_ _ _ _ _ _ q=>congrArg (·+1) q) x
theorem bq.get{v:List V}{r:List Value}(x:bq W h O n v r):∀{i:Nat}{y:V},v[i]?=some y->∃z,r[i]?=some z/\VR W h O n y z:=
 bq.ind (P:=λv r=>∀{i:Nat}{y:V},v[i]?=some y->∃z,r[i]?=some z/\VR W h O n y z) nN (λv r I rs p _ q {i}=>Nat.casesOn i (λe=>bG e ⟨_,rfl,p⟩) λ_=>q) x
theorem bq.none{v:List V}{r:List Value}(q:bq W h O n v r){i:Nat}(e:v[i]?=none):r[i]?=none:=List.getElem?_eq_none_iff.mpr (q.length▸List.getElem?_eq_none_iff.mp e)
theorem bq.append{v v':List V}{r r':List Value}(x:bq W h O n v r)(y:bq W h O n v' r'):bq W h O n (v++v') (r++r'):=bq.ind (P:=λv r=>bq W h O n (v++v') (r++r')) y (λ_ _ _ _ p _ q=>.cons p q) x
theorem bq.take(k:Nat){v:List V}{r:List Value}(x:bq W h O n v r):bq W h O n (v.take k) (r.take k):=
 bq.ind (P:=λv r=>∀k,bq W h O n (v.take k) (r.take k)) (λk=>by rw [List.take_nil,List.take_nil];exact .nil) (λ_ _ _ _ p _ q k=>Nat.casesOn k .nil λk=>.cons p (q k)) x k
theorem bq.drop(k:Nat){v:List V}{r:List Value}(x:bq W h O n v r):bq W h O n (v.drop k) (r.drop k):=
 bq.ind (P:=λv r=>∀k,bq W h O n (v.drop k) (r.drop k)) (λk=>by rw [List.drop_nil,List.drop_nil];exact .nil) (λ_ _ _ _ p x q k=>Nat.casesOn k (.cons p x) q) x k
theorem bq.set(k:Nat){v:List V}{r:List Value}{a:V}{b:Value}(x:bq W h O n v r)(y:VR W h O n a b):bq W h O n (v.set k a) (r.set k b):=
 bq.ind (P:=λv r=>∀k,bq W h O n (v.set k a) (r.set k b)) (λ_=>.nil) (λ_ _ _ _ p x q k=>Nat.casesOn k (.cons y x) λk=>.cons p (q k)) x k
theorem dv{α:Type}{P:α->Prop}{c:Prop}[d:Decidable c]{x y:α}(h:c->P x)(k:¬c->P y):P (if c then x else y):=Decidable.casesOn d k h
noncomputable def VG(W:WC)(h:Heap)(O:Mu)(n:Nat)(x:Option V)(y:Option Value):Prop:=(∀v,x=some v->∃r,y=some r/\VR W h O n v r)/\(x=none->y=none)
theorem VG.some{v:V}{r:Value}(x:VR W h O n v r):VG W h O n (some v) (some r):=⟨λ_ e=>bG e ⟨r,rfl,x⟩,λe=>nomatch e⟩
theorem VG.none:VG W h O n none none:=⟨λ_=>nN,λ_=>rfl⟩
theorem wk.get{l:List (Int×V)}:∀{f:Int->Option Value},wk W h O n l f->∀(k:Int),VG W h O n (aI l k) (f k):=
 List.rec (motive:=λl=>∀{f:Int->Option Value},wk W h O n l f->∀(k:Int),VG W h O n (aI l k) (f k)) (λ{f} x k=>(show∀k,f k=Option.none from x) k▸ .none) (λp l q {f} x k=>x.elim λr x=>x.elim λg x=>dv (P:=λy=>VG W h O n y (f k)) (λe=>e▸x.1▸ .some x.2.1) λe=>x.2.2.1 k e▸q x.2.2.2 k) l
end
noncomputable def fb(W:WC)(h:Heap)(O:Mu)(n:Nat){α:Type}(l:List (α×V)):List (α×Value)->Prop:=List.rec (λk=>k=[]) (λp _ q k=>∃r t,k=(p.1,r)::t/\VR W h O n p.2 r/\q t) l
section
variable{W:WC}{h G:Heap}{O aN:Mu}{n n':Nat}{α:Type}
theorem fb.nil:fb W h O n (α:=α) [] []:=rfl
theorem fb.cons{k:α}{v:V}{r:Value}{l:List (α×V)}{bH:List (α×Value)}(p:VR W h O n v r)(q:fb W h O n l bH):fb W h O n ((k,v)::l) ((k,r)::bH):=⟨r,bH,rfl,p,q⟩
theorem fb.ind{P:List (α×V)->List (α×Value)->Prop}(h0:P [] [])(h1:∀k v r l bH,VR W h O n v r->fb W h O n l bH->P l bH->P ((k,v)::l) ((k,r)::bH)){l:List (α×V)}:∀{bH:List (α×Value)},fb W h O n l bH->P l bH:=
 List.rec (motive:=λl=>∀{bH:List (α×Value)},fb W h O n l bH->P l bH) (λ{k} x=>(show k=[] from x)▸h0) (λp _ q _ x=>x.elim λr x=>x.elim λt x=>x.1▸h1 _ _ _ _ _ x.2.1 x.2.2 (q x.2.2)) l
theorem fb.mono(ht:∀a rs e,h.get? a=some (bL rs e)->G.get? a=some (bL rs e))(hm:∀k,k<n->aN k=O k)(hn:n<=n'){l:List (α×V)}{bH:List (α×Value)}(x:fb W h O n l bH):fb W G aN n' l bH:=
 x.ind (P:=fb W G aN n') .nil λ_ _ _ _ _ a _ q=>.cons (a.mono ht hm hn) q
theorem fb.length{l:List (α×V)}{bH:List (α×Value)}(x:fb W h O n l bH):bH.length=l.length:=x.ind (P:=λl k=>k.length=l.length) rfl λ_ _ _ _ _ _ _ q=>congrArg (·+1) q
theorem fb.map{l:List (α×V)}{bH:List (α×Value)}(x:fb W h O n l bH):l.map (·.1)=bH.map (·.1):=x.ind (P:=λ(l:List (α×V)) (k:List (α×Value))=>l.map (·.1)=k.map (·.1)) rfl λk _ _ _ _ _ _ q=>congrArg (k::·) q
variable[DecidableEq α]
theorem fb.get{l:List (α×V)}{bH:List (α×Value)}(x:fb W h O n l bH)(k:α):VG W h O n (aI l k) (valueAt bH k):=
 x.ind (P:=λl bH=>VG W h O n (aI l k) (valueAt bH k)) .none λj v r l bH a _ q=>dv (P:=λy=>VG W h O n y (valueAt ((j,r)::bH) k))
  (λe=>by unfold valueAt;rw [List.find?_cons,show decide ((j,r).1=k)=true from decide_eq_true e.symm];exact .some a)
  λe=>by unfold valueAt;rw [List.find?_cons,show decide ((j,r).1=k)=false from decide_eq_false λz=>e z.symm];exact q
theorem l5{bH:List (α×Value)}{j k:α}{r v:Value}(q:k≠j):stored ((j,r)::bH) k v=(j,r)::stored bH k v:=by
 unfold stored
 rw [List.any_cons,show decide ((j,r).1=k)=false from decide_eq_false (λz=>q z.symm),Bool.false_or]
 refine dv (P:=λy=>_=(j,r)::y) (λe=>?_) λe=>?_
 ·rw [if_pos e,List.map_cons,if_neg (λz=>q z.symm)]
 ·rw [if_neg e];rfl
theorem rz{bH:List (α×Value)}{k:α}{w r:Value}(nd:k∉bH.map (·.1)):stored ((k,w)::bH) k r=(k,r)::bH:=by
 unfold stored
 rw [List.any_cons,decide_eq_true rfl,Bool.true_or,if_pos rfl,List.map_cons,if_pos rfl]
 exact congrArg _ ((List.map_congr_left λp hp=>if_neg λ(z:p.1=k)=>nd (z▸List.mem_map.mpr ⟨p,hp,rfl⟩)).trans (List.map_id bH))
theorem fb.set{l:List (α×V)}{bH:List (α×Value)}(x:fb W h O n l bH){k:α}{v:V}{r:Value}(z:VR W h O n v r):(bH.map (·.1)).Nodup->fb W h O n (bA l k v) (stored bH k r):=
 x.ind (P:=λl bH=>(bH.map (·.1)).Nodup->fb W h O n (bA l k v) (stored bH k r)) (λ_=>.cons z .nil) λj u w l bH a b q nd=>by
  rw [List.map_cons,List.nodup_cons] at nd
  refine dv (P:=λy=>fb W h O n y (stored ((j,w)::bH) k r)) (λe=>?_) λe=>?_
  ·subst e;rw [rz nd.1];exact .cons z b
  ·rw [l5 e];exact .cons a (q nd.2)
theorem yj(l:List (α×V))(k:α)(v:V)(x:α)(hx:x∈(bA l k v).map (·.1)):x=k\/x∈l.map (·.1):=by
 induction l with
 | nil=>exact .inl (List.mem_singleton.mp hx)
 | cons p l ih=>
  revert hx
  refine dv (c:=k=p.1) (x:=(p.1,v)::l) (y:=p::bA l k v) (P:=λ(y:List (α×V))=>x∈y.map (·.1)->x=k\/x∈(p::l).map (·.1)) (λe hx=>.inr hx) λe hx=>?_
  exact (List.mem_cons.mp hx).elim (λa=>.inr (List.mem_cons.mpr (.inl a))) λa=>(ih a).imp id (List.mem_cons_of_mem _)
theorem uk(l:List (α×V))(k:α)(v:V):(l.map (·.1)).Nodup->((bA l k v).map (·.1)).Nodup:=by
 induction l with
 | nil=>exact λ_=>List.nodup_cons.mpr ⟨List.not_mem_nil,List.nodup_nil⟩
 | cons p l ih=>
  intro nd
  have Rn:=List.nodup_cons.mp nd
  refine dv (c:=k=p.1) (x:=(p.1,v)::l) (y:=p::bA l k v) (P:=λ(y:List (α×V))=>(y.map (·.1)).Nodup) (λe=>nd) λe=>?_
  exact List.nodup_cons.mpr ⟨λz=>(yj l k v p.1 z).elim (λa=>e a.symm) Rn.1,ih Rn.2⟩
theorem fj(l:List (α×V))(k:α)(v:V):(bA l k v).length<=l.length+1:=by
 induction l with
 | nil=>exact Nat.le_refl _
 | cons p l ih=>exact dv (c:=k=p.1) (x:=(p.1,v)::l) (y:=p::bA l k v) (P:=λy=>y.length<=_) (λ_=>Nat.le_succ _) λ_=>Nat.succ_le_succ ih
theorem fb.merge{more:List (α×V)}{Aj:List (α×Value)}(y:fb W h O n more Aj):∀{l:List (α×V)}{bH:List (α×Value)},fb W h O n l bH->(bH.map (·.1)).Nodup->fb W h O n (cM more l) (merged bH Aj):=
 y.ind (P:=λmore Aj=>∀{l:List (α×V)}{bH:List (α×Value)},fb W h O n l bH->(bH.map (·.1)).Nodup->fb W h O n (cM more l) (merged bH Aj)) (λx _=>x)
  λk v r more Aj a _ q l bH x nd=>have y:=x.set (k:=k) a nd;q y (y.map▸uk _ _ _ (x.map.symm▸nd))
end
noncomputable def OR(W:WC)(h:Heap)(O:Mu)(n:Nat)(p:Addr×Addr)(o:af):Prop:=af.casesOn o
 (λI=>p.2=p.1/\I.length<=aq+aq/\∃rs e,h.get? p.1=some (fC rs e)/\bq W h O n I rs)
 (λl=>p.2=p.1/\(p.1==sysModules)=false/\l.length<=4096/\∃bH,h.DictOf (intKind W.pg W.w) p.1 bH/\fb W h O n l bH)
 (λl=>p.2=p.1/\(p.1==sysModules)=false/\l.length<=4096/\∃bH,h.DictOf (strKind W.pg W.w) p.1 bH/\fb W h O n l bH)
 (λl=>p.2≠p.1/\∃o mA,h.get? p.1=some o/\o.cls=.ref W.ak/\(∀c,o.data≠ .cls c)/\o.dict=some p.2/\h.Ns1 p.2 mA/\l.length<=64/\∀k,VG W h O n (aI l k) (mA k))
structure Rel (W:WC) (O:Mu) (Z:St) (h:Heap):Prop where
 old:∀a o,W.aA.get? a=some o->h.get? a=some o
 obj:∀k,k<Z.n->OR W h O Z.n (O k) (Z.f k)
 own:∀k,k<Z.n->W.aA.get? (O k).1=none/\W.aA.get? (O k).2=none
 apart:∀i j,i<Z.n->j<Z.n->i≠j->(O i).1≠(O j).1/\(O i).1≠(O j).2/\(O i).2≠(O j).1/\(O i).2≠(O j).2
def aU(O:Mu)(n:Nat)(a:Addr):Prop:=∀k,k<n->a≠(O k).1/\a≠(O k).2
theorem bk{h:Heap}{a b:Addr}{o:Obj}(e:h.get? a=some o)(e':h.get? b=none):a≠b:=λz=>by rw [z,e'] at e;exact nN e
structure Step (X:Addr->Prop) (O aN:Mu) (n n':Nat) (h G:Heap):Prop where
 le:n<=n'
 same:∀k,k<n->aN k=O k
 keep:∀a o,h.get? a=some o->aU O n a->¬X a->G.get? a=some o
 fresh:∀k,n<=k->k<n'->h.get? (aN k).1=none/\h.get? (aN k).2=none
 jP:∀a o,h.get? a=some o->∃o',G.get? a=some o'
theorem Step.refl(X:Addr->Prop)(O:Mu)(n:Nat)(h:Heap):Step X O O n n h h:=⟨Nat.le_refl _,λ_ _=>rfl,λ_ _ e _ _=>e,λk a b=>absurd b (Nat.not_lt.mpr a),λ_ o e=>⟨o,e⟩⟩
theorem Step.trans{X:Addr->Prop}{O aN Kg:Mu}{n n' Ro:Nat}{h G Ob:Heap}(a:Step X O aN n n' h G)(b:Step X aN Kg n' Ro G Ob):Step X O Kg n Ro h Ob where
 le:=Nat.le_trans a.le b.le
 same:=λk q=>(b.same k (Nat.lt_of_lt_of_le q a.le)).trans (a.same k q)
 keep:=λx o e no nx=>b.keep x o (a.keep x o e no nx) (λk q=>by
  rcases Nat.lt_or_ge k n with z | z
  ·rw [a.same k z];exact no k z
  ·have f:=a.fresh k z q
   exact ⟨bk e f.1,bk e f.2⟩) nx
 fresh:=λk q q'=>by
  rcases Nat.lt_or_ge k n' with z | z
  ·rw [b.same k z];exact a.fresh k q z
  ·have f:=b.fresh k z q'
   have up:∀x,G.get? x=none->h.get? x=none:=λx e=>by
    cases e1:h.get? x with
    | none=>rfl
    | some o=>obtain ⟨o',e2⟩:=a.jP x o e1;rw [e] at e2;exact nN e2
   exact ⟨up _ f.1,up _ f.2⟩
 jP:=λx o e=>let ⟨_,e1⟩:=a.jP x o e;b.jP x _ e1
theorem Step.widen{X Y:Addr->Prop}{O aN:Mu}{n n':Nat}{h G:Heap}(a:Step X O aN n n' h G)(xy:∀a,X a->Y a):Step Y O aN n n' h G:=
 ⟨a.le,a.same,λx o e no ny=>a.keep x o e no λq=>ny (xy x q),a.fresh,a.jP⟩
theorem Step.of_keeps(X:Addr->Prop)(O:Mu)(n:Nat){h G:Heap}(k:∀a o,h.get? a=some o->G.get? a=some o):Step X O O n n h G:=
 ⟨Nat.le_refl _,λ_ _=>rfl,λa o e _ _=>k a o e,λk a b=>absurd b (Nat.not_lt.mpr a),λa o e=>⟨o,k a o e⟩⟩
section
variable{W:WC}{O aN:Mu}{Z J:St}{h G:Heap}
theorem Ak{o:Obj}(hc:(o.cls==.type "tuple")=false){rs:List Value}{e:Nat}:some o≠some (bL rs e):=λz=>by
 rw [Option.some.inj z] at hc
 have q:((Value.type "tuple")==Value.type "tuple")=false:=hc
 exact absurd q (by decide)
theorem pA{o:Obj}{c:Value}(hc:o.cls=c)(q:(c==.type "tuple")=false):(o.cls==.type "tuple")=false:=by rw [hc];exact q
def TT(h:Heap)(a:Addr):Prop:=(∃o,h.get? a=some o)/\∀rs e,h.get? a≠some (bL rs e)
theorem cP{a:Addr}{o:Obj}(q:h.get? a=some o)(c:(o.cls==.type "tuple")=false):TT h a:=⟨⟨o,q⟩,λ_ _=>q▸Ak c⟩
theorem wm{a:Addr}{o:Obj}{es:Array DictEntry}{ep:Nat}(q:h.get? a=some o)(d:o.data=.dict es ep):TT h a:=⟨⟨o,q⟩,λ_ _ w=>nomatch (congrArg Obj.data (Option.some.inj (q.symm.trans w))).symm.trans d⟩
theorem Ns.tt{a:Addr}{m:Str->Option Value}(x:h.Ns a m):TT h a:=x.elim λ_ x=>x.elim λ_ x=>x.elim λ_ x=>wm x.1 x.2.1
theorem TT.to{G:Heap}{a:Addr}(x:TT h a)(k:∀o,h.get? a=some o->G.get? a=some o):TT G a:=x.1.elim λo e=>⟨⟨o,k o e⟩,λrs e' w=>x.2 rs e' (e.trans ((k o e).symm.trans w))⟩
theorem DictOf.tt{K:Type}[DecidableEq K]{pg:Program}{w:World}{knd:KeyKind pg w K}{a:Addr}{bH:List (K×Value)}(x:h.DictOf knd a bH):TT h a:=
 x.elim λ_ x=>x.elim λ_ x=>x.elim λ_ x=>cP x.1 (pA x.2.1.1 rfl)
theorem OR.both{p:Addr×Addr}{n:Nat}{o:af}(x:OR W h O n p o):TT h p.1/\TT h p.2:=by
 induction o using af.casesOn with
 | lst I=>exact x.2.2.elim λ_ y=>y.elim λ_ y=>have z:=cP y.1 rfl;⟨z,x.1.symm▸z⟩
 | bO l=>exact x.2.2.2.elim λ_ y=>have z:=DictOf.tt y.1;⟨z,x.1.symm▸z⟩
 | EJ l=>exact x.2.2.2.elim λ_ y=>have z:=DictOf.tt y.1;⟨z,x.1.symm▸z⟩
 | ins l=>exact x.2.elim λ_ y=>y.elim λ_ y=>⟨cP y.1 (pA y.2.1 rfl),y.2.2.2.2.1.elim λ_ z=>z.elim λ_ z=>z.elim λ_ z=>wm z.1 z.2.1⟩
theorem OR.pB{p:Addr×Addr}{n:Nat}{o:af}(x:OR W h O n p o){rs:List Value}{e:Nat}:h.get? p.1≠some (bL rs e)/\h.get? p.2≠some (bL rs e):=⟨x.both.1.2 rs e,x.both.2.2 rs e⟩
theorem OR.there{p:Addr×Addr}{n:Nat}{o:af}(x:OR W h O n p o):(∃o,h.get? p.1=some o)/\(∃o,h.get? p.2=some o):=⟨x.both.1.1,x.both.2.1⟩
theorem Rel.df(R:Rel W O Z h){a:Addr}{rs:List Value}{e:Nat}(q:h.get? a=some (bL rs e)):aU O Z.n a:=λk hk=>by
 have z:=(R.obj k hk).pB (rs:=rs) (e:=e)
 exact ⟨λy=>z.1 (y▸q),λy=>z.2 (y▸q)⟩
theorem Rel.Al(R:Rel W O Z h){a:Addr}{o:Obj}(q:W.aA.get? a=some o):aU O Z.n a:=λk hk=>by
 have z:=R.own k hk
 exact ⟨bk q z.1,bk q z.2⟩
theorem VR.step{X:Addr->Prop}{v:V}{r:Value}(x:VR W h O Z.n v r)(R:Rel W O Z h)(S:Step X O aN Z.n J.n h G)(nx:∀a rs e,X a->h.get? a≠some (bL rs e)):VR W G aN J.n v r:=
 x.mono (λa rs e q=>S.keep a _ q (R.df q) λz=>nx a rs e z q) S.same S.le
theorem bq.step{X:Addr->Prop}{v:List V}{r:List Value}(x:bq W h O Z.n v r)(R:Rel W O Z h)(S:Step X O aN Z.n J.n h G)(nx:∀a rs e,X a->h.get? a≠some (bL rs e)):bq W G aN J.n v r:=
 x.mono (λa rs e q=>S.keep a _ q (R.df q) λz=>nx a rs e z q) S.same S.le
end
theorem MapOf.at_{K:Type}[DecidableEq K]{pg:Program}{w:World}{knd:KeyKind pg w K}{h G:Heap}{a:Addr}{f:K->Option Value}(x:h.MapOf knd a f)(k:∀o,h.get? a=some o->G.get? a=some o):G.MapOf knd a f:=
 x.elim λo x=>x.elim λes x=>x.elim λep x=>⟨o,es,ep,k o x.1,x.2⟩
theorem cT{α:Type}[DecidableEq α](l:List (α×V))(x y:α)(v:V):aI (bA l x v) y=if y=x then some v else aI l y:=by
 induction l with
 | nil=>rfl
 | cons p l ih=>
  refine dv (c:=x=p.1) (x:=(p.1,v)::l) (y:=p::bA l x v) (P:=λz=>aI z y=if y=x then some v else aI (p::l) y) (λe=>?_) λe=>?_
  ·rw [e];exact dv (c:=y=p.1) (P:=λz=>z=if y=p.1 then some v else aI (p::l) y) (λe=>(if_pos e).symm) λe=>((if_neg e).trans (if_neg e)).symm
  ·refine dv (c:=y=p.1) (P:=λz=>z=if y=x then some v else aI (p::l) y) (λe'=>?_) λe'=>?_
   ·exact ((if_neg λw=>e (w.symm.trans e')).trans (if_pos e')).symm
   ·exact ih.trans (congrArg (λz=>if y=x then some v else z) (if_neg e').symm)
section
variable{W:WC}{O aN:Mu}{Z J:St}{h G:Heap}
theorem VG.to{n n':Nat}{x:Option V}{y:Option Value}(up:∀{v r},VR W h O n v r->VR W G aN n' v r)(a:VG W h O n x y):VG W G aN n' x y:=⟨λv e=>(a.1 v e).elim λr z=>⟨r,z.1,up z.2⟩,a.2⟩
theorem OR.mono{n n':Nat}{p:Addr×Addr}(hk:∀a o,(a=p.1\/a=p.2)->h.get? a=some o->G.get? a=some o)
  (ht:∀a rs e,h.get? a=some (bL rs e)->G.get? a=some (bL rs e)) (hm:∀k,k<n->aN k=O k) (hn:n<=n') {o:af} (x:OR W h O n p o):OR W G aN n' p o:=by
 induction o using af.casesOn with
 | lst I=>exact ⟨x.1,x.2.1,x.2.2.elim λrs y=>y.elim λe y=>⟨rs,e,hk _ _ (.inl rfl) y.1,y.2.mono ht hm hn⟩⟩
 | bO l=>exact ⟨x.1,x.2.1,x.2.2.1,x.2.2.2.elim λf y=>⟨f,y.1.at λo=>hk _ o (.inl rfl),y.2.mono ht hm hn⟩⟩
 | EJ l=>exact ⟨x.1,x.2.1,x.2.2.1,x.2.2.2.elim λf y=>⟨f,y.1.at λo=>hk _ o (.inl rfl),y.2.mono ht hm hn⟩⟩
 | ins l=>exact ⟨x.1,x.2.elim λo y=>y.elim λmA y=>⟨o,mA,hk _ _ (.inl rfl) y.1,y.2.1,y.2.2.1,y.2.2.2.1,y.2.2.2.2.1.at λo=>hk _ o (.inr rfl),y.2.2.2.2.2.1,λk=>(y.2.2.2.2.2.2 k).to (.mono ht hm hn)⟩⟩
theorem Rel.but(X:Addr->Prop)(R:Rel W O Z h)(hk:∀a o,¬X a->h.get? a=some o->G.get? a=some o)
  (hx:∀a,X a->aU O Z.n a/\W.aA.get? a=none) (ht:∀a rs e,X a->h.get? a≠some (bL rs e)) (hs:∀a o,X a->h.get? a=some o->∃o',G.get? a=some o'):Rel W O Z G/\Step X O O Z.n Z.n h G:=by
 have tk:∀a rs e,h.get? a=some (bL rs e)->G.get? a=some (bL rs e):=λa rs e q=>hk a _ (λx=>ht a rs e x q) q
 refine ⟨⟨λa o e=>hk a o (λx=>?_) (R.old a o e),λk q=>?_,R.own,R.apart⟩,⟨Nat.le_refl _,λ_ _=>rfl,λa o e _ nx=>hk a o nx e,λk a b=>absurd b (Nat.not_lt.mpr a),λa o e=>?_⟩⟩
 ·rw [(hx a x).2] at e;exact nN e
 ·refine (R.obj k q).mono (λa o x e=>hk a o (λy=>?_) e) tk (λ_ _=>rfl) (Nat.le_refl _)
  have z:=(hx a y).1 k q
  rcases x with x | x
  ·exact z.1 x
  ·exact z.2 x
 ·rcases Classical.em (X a) with x | x
  ·exact hs a o x e
  ·exact ⟨o,hk a o x e⟩
theorem Rel.keeps(R:Rel W O Z h)(hk:∀a o,h.get? a=some o->G.get? a=some o):Rel W O Z G/\Step (λ_=>False) O O Z.n Z.n h G:=
 R.but _ (λa o _ e=>hk a o e) (λ_ f=>f.elim) (λ_ _ _ f=>f.elim) (λ_ _ f=>f.elim)
theorem Step.jQ{X:Addr->Prop}{n n':Nat}(S:Step X O aN n n' h G)(hx:∀a,X a->h.get? a=none):Step (λ_=>False) O aN n n' h G:=
 ⟨S.le,S.same,λa o e no _=>S.keep a o e no λx=>(by rw [hx a x] at e;cases e),S.fresh,S.jP⟩
abbrev cy(O:Mu)(n:Nat)(p:Addr×Addr):Mu:=λk=>if k=n then p else O k
theorem aL(h:Heap):h.get? h.objs.size=none:=by
 cases e:h.get? h.objs.size with
 | none=>rfl
 | some o=>exact absurd (Heap.lt_size e) (Nat.lt_irrefl _)
theorem bK{h:Heap}{a:Addr}(q:h.objs.size<=a):h.get? a=none:=by
 cases e:h.get? a with
 | none=>rfl
 | some o=>exact absurd (Heap.lt_size e) (Nat.not_lt.mpr q)
theorem Rel.cB(R:Rel W O Z h){a:Addr}(q:h.get? a=none):W.aA.get? a=none:=by
 cases e:W.aA.get? a with
 | none=>rfl
 | some o=>rw [R.old a o e] at q;cases q
theorem aU.fresh(R:Rel W O Z h){a:Addr}(e:h.get? a=none):aU O Z.n a:=λk q=>have z:=(R.obj k q).there;⟨z.1.elim λ_ y=>(bk y e).symm,z.2.elim λ_ y=>(bk y e).symm⟩
theorem Rel.adopt{p:Addr×Addr}{o:af}(R:Rel W O Z h)(n1:aU O Z.n p.1)(n2:aU O Z.n p.2)(w1:W.aA.get? p.1=none)(w2:W.aA.get? p.2=none)(x:OR W h (cy O Z.n p) (Z.n+1) p o):Rel W (cy O Z.n p) (Z.alloc o) h:=by
 have hm:∀k,k<Z.n->cy O Z.n p k=O k:=λk q=>if_neg (Nat.ne_of_lt q)
 have Nd:cy O Z.n p Z.n=p:=if_pos rfl
 have lt:∀{k},k<(Z.alloc o).n->k≠Z.n->k<Z.n:=λq z=>Nat.lt_of_le_of_ne (Nat.le_of_lt_succ q) z
 refine ⟨R.old,λk q=>?_,λk q=>?_,λi j a b c=>?_⟩
 ·show OR W h (cy O Z.n p) (Z.n+1) (cy O Z.n p k) (if k=Z.n then o else Z.f k)
  by_cases z:k=Z.n
  ·subst z;rw [if_pos rfl,Nd];exact x
  ·rw [if_neg z,hm k (lt q z)]
   exact (R.obj k (lt q z)).mono (λa o _ e=>e) (λa rs e=>id) hm (Nat.le_succ _)
 ·by_cases z:k=Z.n
  ·subst z;rw [Nd];exact ⟨w1,w2⟩
  ·rw [hm k (lt q z)];exact R.own k (lt q z)
 ·by_cases zi:i=Z.n
  ·subst zi
   rw [Nd,hm j (lt b c.symm)]
   exact ⟨(n1 j (lt b c.symm)).1,(n1 j (lt b c.symm)).2,(n2 j (lt b c.symm)).1,(n2 j (lt b c.symm)).2⟩
  ·rw [hm i (lt a zi)]
   by_cases zj:j=Z.n
   ·subst zj
    rw [Nd]
    exact ⟨(n1 i (lt a zi)).1.symm,(n2 i (lt a zi)).1.symm,(n1 i (lt a zi)).2.symm,(n2 i (lt a zi)).2.symm⟩
   ·rw [hm j (lt b zj)];exact R.apart i j (lt a zi) (lt b zj) c
theorem Step.adopt{Y:Addr->Prop}{p:Addr×Addr}{n n':Nat}(S:Step Y O aN n n' h G)(hp:h.get? p.1=none/\h.get? p.2=none):Step Y O (cy aN n' p) n (n'+1) h G where
 le:=Nat.le_succ_of_le S.le
 same:=λk q=>(if_neg (Nat.ne_of_lt (Nat.lt_of_lt_of_le q S.le))).trans (S.same k q)
 keep:=S.keep
 fresh:=λk a b=>dv (c:=k=n') (P:=λz:Addr×Addr=>h.get? z.1=none/\h.get? z.2=none) (λ_=>hp) λz=>S.fresh k a (Nat.lt_of_le_of_ne (Nat.le_of_lt_succ b) z)
 jP:=S.jP
theorem Rel.alloc{p:Addr×Addr}{o:af}(R:Rel W O Z h)(hk:∀a o,h.get? a=some o->G.get? a=some o)(hp:h.get? p.1=none/\h.get? p.2=none)
  (x:OR W G (cy O Z.n p) (Z.n+1) p o):Rel W (cy O Z.n p) (Z.alloc o) G/\Step (λ_=>False) O (cy O Z.n p) Z.n (Z.n+1) h G:=
 have z:=R.keeps hk
 ⟨z.1.adopt (aU.fresh R hp.1) (aU.fresh R hp.2) (R.cB hp.1) (R.cB hp.2) x,z.2.adopt hp⟩
theorem Rel.put{k:Nat}{o:af}(R:Rel W O Z h)(q:k<Z.n)(hk:∀a o,a≠(O k).1->a≠(O k).2->h.get? a=some o->G.get? a=some o)
  (x:OR W G O Z.n (O k) o):Rel W O (Z.put k o) G/\Step (λ_=>False) O O Z.n Z.n h G:=by
 refine ⟨⟨λa o e=>?_,λj qj=>?_,R.own,R.apart⟩,⟨Nat.le_refl _,λ_ _=>rfl,λa o e no _=>hk a o (no k q).1 (no k q).2 e,λk a b=>absurd b (Nat.not_lt.mpr a),λa o e=>?_⟩⟩
 ·have z:=R.Al e k q
  exact hk a o z.1 z.2 (R.old a o e)
 ·show OR W G O Z.n (O j) (if j=k then o else Z.f j)
  by_cases z:j=k
  ·subst z;rw [if_pos rfl];exact x
  ·rw [if_neg z]
   have ap:=R.apart j k qj q z
   refine (R.obj j qj).mono (λa o y e=>?_) (λa rs e y=>?_) (λ_ _=>rfl) (Nat.le_refl _)
   ·rcases y with y | y
    ·subst y;exact hk _ o ap.1 ap.2.1 e
    ·subst y;exact hk _ o ap.2.2.1 ap.2.2.2 e
   ·have f:=R.df y k q
    exact hk a _ f.1 f.2 y
 ·by_cases z1:a=(O k).1
  ·rw [z1];exact x.there.1
  ·by_cases z2:a=(O k).2
   ·rw [z2];exact x.there.2
   ·exact ⟨o,hk a o z1 z2 e⟩
end
structure bD (A:Around) (d:Nat):Prop where
 handled:A.handled=none
 guards:A.guards=some []
 depth:A.depth+8*d+16<recursionLimit
 units:A.units+40*d+80<cLine
theorem bD.Oc{A:Around}{d k:Nat}(x:bD A d)(h:k<=80):A.units+k<cLine:=Nat.lt_of_le_of_lt (Nat.add_le_add (Nat.le_add_right _ _) h) x.units
theorem bD.less{A:Around}{d d':Nat}(x:bD A d)(q:d'<=d):bD A d':=⟨x.handled,x.guards,Nat.lt_of_le_of_lt (Nat.add_le_add_right (Nat.add_le_add_left (Nat.mul_le_mul_left 8 q) _) _) x.depth,Nat.lt_of_le_of_lt (Nat.add_le_add_right (Nat.add_le_add_left (Nat.mul_le_mul_left 40 q) _) _) x.units⟩
def FR.X(env:Env):Addr->Prop:=λa=>a=env.locals\/∃x,env.cells.lookup x=some a
noncomputable def PV(env:Env)(h:Heap)(x:Str)(l y:Option Value):Prop:=(env.kindOf x=some .local/\y=l)\/(env.kindOf x=some .cell/\∃c,env.cells.lookup x=some c/\h.IsCell c y)
noncomputable def NV(W:WC)(env:Env)(O:Mu)(n:Nat)(h:Heap)(x:Str)(v:V)(l:Option Value):Prop:=
 (eJ v=true/\env.kindOf x=some .globalImplicit)\/(eJ v=false/\∃y,PV env h x l y/\∀w,kg v=some w->∃r,y=some r/\VR W h O n w r)
structure FR (W:WC) (ga ba:Addr) (env:Env) (f:Str->Option V) (O:Mu) (n:Nat) (h:Heap):Prop where
 kind:env.scope.kind=.function
 ga:env.globals=ga
 ba:env.builtins=ba
 EV:∀l ks,f br=some (.tup l)->strsOf l=some ks->∀x,x∈ks->env.kindOf x=some .cell/\∃c,env.cells.lookup x=some c
 ns:∃mL,h.Ns env.locals mL/\∀x v,x≠br->f x=some v->NV W env O n h x v (mL x)
 own:∀a,FR.X env a->aU O n a/\W.aA.get? a=none/\TT h a
 apart:(∀x c,env.cells.lookup x=some c->c≠env.locals)/\∀x y c,env.cells.lookup x=some c->env.cells.lookup y=some c->x=y
section
variable{W:WC}{ga ba:Addr}{O aN:Mu}{Z J:St}{h G:Heap}{env:Env}{f:Str->Option V}
theorem bW{X:Addr->Prop}{n n':Nat}(S:Step X O aN n n' h G){a:Addr}(o:aU O n a){ob:Obj}(l:h.get? a=some ob):aU aN n' a:=λk q=>
 (Nat.lt_or_ge k n).elim (λz=>S.same k z▸o k z) λz=>have y:=S.fresh k z q;⟨bk l y.1,bk l y.2⟩
theorem NV.to{n n':Nat}{x:Str}{v:V}{l:Option Value}(a:NV W env O n h x v l)(up:∀{v r},VR W h O n v r->VR W G aN n' v r)(keep:∀c y,env.cells.lookup x=some c->h.IsCell c y->G.IsCell c y):NV W env aN n' G x v l:=
 a.imp id λa=>⟨a.1,a.2.elim λy b=>⟨y,b.1.imp id λc=>⟨c.1,c.2.elim λd e=>⟨d,e.1,keep d y e.1 e.2⟩⟩,λw e=>(b.2 w e).elim λr z=>⟨r,z.1,up z.2⟩⟩⟩
theorem wq{c:Addr}{y:Option Value}(i:h.IsCell c y)(k:∀o,h.get? c=some o->G.get? c=some o):G.IsCell c y:=i.elim λo z=>⟨o,k o z.1,z.2⟩
theorem FR.to{n n':Nat}(F:FR W ga ba env f O n h)(up:∀{v r},VR W h O n v r->VR W G aN n' v r)(keep:∀a o,FR.X env a->h.get? a=some o->G.get? a=some o)(no:∀a o,FR.X env a->h.get? a=some o->aU aN n' a):FR W ga ba env f aN n' G:=
 ⟨F.kind,F.ga,F.ba,F.EV,F.ns.elim λmL z=>⟨mL,z.1.at' λo=>keep _ o (.inl rfl),λx v ne e=>(z.2 x v ne e).to up λc y l i=>wq i λo=>keep _ o (.inr ⟨x,l⟩)⟩,
  λa xa=>have z:=F.own a xa;⟨z.2.2.1.elim λo=>no a o xa,z.2.1,z.2.2.to λo=>keep a o xa⟩,F.apart⟩
theorem FR.i7{X:Addr->Prop}(F:FR W ga ba env f O Z.n h)(R:Rel W O Z h)(S:Step X O aN Z.n J.n h G)(nx:∀a rs e,X a->h.get? a≠some (bL rs e))(hx:∀a,FR.X env a->¬X a):FR W ga ba env f aN J.n G:=
 F.to (λx=>x.step R S nx) (λa o xa e=>S.keep a o e (F.own a xa).1 (hx a xa)) λa _ xa=>bW S (F.own a xa).1
theorem FR.step(F:FR W ga ba env f O Z.n h)(R:Rel W O Z h)(S:Step (λ_=>False) O aN Z.n J.n h G):FR W ga ba env f aN J.n G:=F.i7 R S (λ_ _ _ q=>q.elim) λ_ _=>id
theorem FR.at{n:Nat}(F:FR W ga ba env f O n h)(up:∀{v:V}{r:Value},VR W h O n v r->VR W G O n v r)(keep:∀a o,FR.X env a->h.get? a=some o->G.get? a=some o):FR W ga ba env f O n G:=F.to up keep λa _ xa _=>(F.own a xa).1
theorem FR.congr{f':Str->Option V}{n:Nat}(F:FR W ga ba env f O n h)(q:∀x,f' x=f x):FR W ga ba env f' O n h:=(funext q:f'=f)▸F
theorem FR.set{m:Ms}{n:Nat}{x:Str}{v:V}{mL C4:Str->Option Value}(F:FR W ga ba env (aI m) O n h)(hx:x≠br)(up:∀{v r},VR W h O n v r->VR W G O n v r)(hv:∀x v,x≠br->aI m x=some v->NV W env O n h x v (mL x))(hn:G.Ns env.locals C4)
  (hL:∀y,y≠x->C4 y=mL y) (hc:∀y c o,y≠x->env.cells.lookup y=some c->h.IsCell c o->G.IsCell c o) (nx:NV W env O n G x v (C4 x)) (tt:∀y c,env.cells.lookup y=some c->TT G c):FR W ga ba env (aI (bA m x v)) O n G:=
 ⟨F.kind,F.ga,F.ba,λl ks e=>F.EV l ks (((cT ..).trans (if_neg hx.symm)).symm.trans e),⟨C4,hn,λy w ne e=>by
   by_cases q:y=x
   ·have e2:=((cT ..).trans (if_pos q)).symm.trans e
    exact bG (P:=λw=>NV W env O n G y w (C4 y)) e2 (q▸nx)
   ·exact hL y q▸(hv y w ne (((cT ..).trans (if_neg q)).symm.trans e)).to up λc o l=>hc y c o q l⟩,
  λa xa=>have z:=F.own a xa;⟨z.1,z.2.1,xa.elim (λe=>e▸Ns.tt hn) λe=>e.elim λy e=>tt y a e⟩,F.apart⟩
noncomputable def az(W:WC)(A:Around)(X:Addr->Prop){α:Type}(t:Sem α)(O:Mu)(Z:St)(s:Shared)(J:St)(K:Mu->Heap->α->Prop):Prop:=
 ∀(Q:α->Shared->Prop)(E:Value->Shared->Prop),(∀a aN G tk,Rel W aN J G->Step X O aN Z.n J.n s.heap G->K aN G a->Q a {s with heap:=G,toks:=tk})->wpAny (model W.pg W.w) A t Q E s
abbrev bQ:Addr->Prop:=λ_=>False
theorem az.wt{A:Around}{X:Addr->Prop}{α:Type}{a:α}{s:Shared}{K:Mu->Heap->α->Prop}(R:Rel W O Z s.heap)(k:K O s.heap a):az W A X (pure a) O Z s Z K:=
 λQ E q=>wpAny_pure (q a O s.heap s.toks R (Step.refl _ _ _ _) k)
theorem az.tok{A:Around}{X:Addr->Prop}{α:Type}{t:Sem α}{s:Shared}{K:Mu->Heap->α->Prop}(R:Rel W O Z s.heap)(a:α)(tk:Nat)
  (x:∀Q E,Q a {s with toks:=tk}->wpAny (model W.pg W.w) A t Q E s) (k:K O s.heap a):az W A X t O Z s Z K:=
 λQ E q=>x Q E (q a O s.heap tk R (Step.refl _ _ _ _) k)
theorem az.mono{A:Around}{X:Addr->Prop}{α:Type}{t:Sem α}{s:Shared}{K K':Mu->Heap->α->Prop}(x:az W A X t O Z s J K)(k:∀aN G a,K aN G a->K' aN G a):az W A X t O Z s J K':=
 λQ E q=>x Q E λa aN G tk R S z=>q a aN G tk R S (k _ _ _ z)
theorem az.new{A:Around}{X:Addr->Prop}{t:Sem Value}{s:Shared}{o:af}(ob:Obj)(R:Rel W O Z s.heap)
  (x:∀Q E,Q (.ref s.heap.objs.size) {s with heap:=s.heap.push ob}->wpAny (model W.pg W.w) A t Q E s)
  (k:OR W (s.heap.push ob) (cy O Z.n (s.heap.objs.size,s.heap.objs.size)) (Z.n+1) (s.heap.objs.size,s.heap.objs.size) o):
  az W A X t O Z s (Z.alloc o) λaN G r=>VR W G aN (Z.alloc o).n (.ref Z.n) r:=λQ E q=>by
 have z:=R.alloc (p:=(s.heap.objs.size,s.heap.objs.size)) (λa o e=>Heap.get?_push_of_some _ e) ⟨aL _,aL _⟩ k
 refine x Q E (q _ _ _ s.toks z.1 (z.2.widen λ_ f=>f.elim) ?_)
 have e:(cy O Z.n (s.heap.objs.size,s.heap.objs.size) Z.n).1=s.heap.objs.size:=by rw [show cy O Z.n (s.heap.objs.size,s.heap.objs.size) Z.n=_ from if_pos rfl]
 have:=VR.ref (W:=W) (h:=s.heap.push ob) (O:=cy O Z.n (s.heap.objs.size,s.heap.objs.size)) (n:=(Z.alloc o).n) (k:=Z.n) (Nat.lt_succ_self _)
 rw [e] at this;exact this
end
variable{W:WC}{aj:Str->V}{ak:Str->List V->St->R}{ga ba:Addr}{O aN:Mu}{Z J:St}{h G:Heap}{env:Env}{A:Around}{s:Shared}{m m':Ms}{D:Nat}{f:Str->Option V}{fl:Fl}{X:Expr->Ms->St->RX}{T:Expr->Ms->St->Option (Bool×St)}{Y:Stmt->Ms->St->Option (Fl×Ms×St)}
section
theorem iy{g:V->Option PyData}{n:Nat}(ih:∀v rv d,g v=some d->VR W h O Z.n v rv->∃as,Reads h rv d as/\d.depth<=n)
  {l:List V} {rs:List Value} (x:bq W h O Z.n l rs):∀ds,de g l=some ds->∃as,ReadsAll h rs ds as/\PyData.depthAll ds<=n:=
 x.ind (P:=λl rs=>∀ds,de g l=some ds->∃as,ReadsAll h rs ds as/\PyData.depthAll ds<=n) (λ_ e=>bG e ⟨[],.nil,Nat.zero_le _⟩) λv r I rs p _ q ds e=>
  uO e λy e1 e=>uO e λt e2 e=>bG e (aO (ih v r y e1 p) λas a a'=>aO (q t e2) λbs b b'=>⟨_,.cons a b,Nat.max_le.mpr ⟨a',b'⟩⟩)
theorem dN(R:Rel W O Z h)(n:Nat):∀(v:V)(rv:Value)(d:PyData),bw Z n v=some d->VR W h O Z.n v rv->∃as,Reads h rv d as/\d.depth<=n:=by
 induction n with
 | zero=>
  intro v rv d
  induction v using V.casesOn with
  | none=>exact λe x=>bG e (x.iN ⟨_,.none,Nat.zero_le _⟩)
  | bool b=>exact λe x=>bG e (x.iB ⟨_,.bool b,Nat.zero_le _⟩)
  | int i=>exact λe x=>bG e (x.iI λt=>⟨_,.int i t,Nat.zero_le _⟩)
  | str y=>exact λe x=>bG e (x.iS λt=>⟨_,.str y t,Nat.zero_le _⟩)
  | _=>exact nN
 | succ n ih=>
  intro v rv d
  induction v using V.casesOn with
  | none=>exact λe x=>bG e (x.iN ⟨_,.none,Nat.zero_le _⟩)
  | bool b=>exact λe x=>bG e (x.iB ⟨_,.bool b,Nat.zero_le _⟩)
  | int i=>exact λe x=>bG e (x.iI λt=>⟨_,.int i t,Nat.zero_le _⟩)
  | str y=>exact λe x=>bG e (x.iS λt=>⟨_,.str y t,Nat.zero_le _⟩)
  | tup l=>exact λe x=>uM e λds e2 e=>e▸x.iT λrs a ep q p=>aO (iy ih p ds e2) λbs b b'=>⟨_,.tuple q rfl rfl b,Nat.succ_le_succ b'⟩
  | cl l=>exact λe x=>uM e λds e2 e=>e▸x.iC λrs a ep q p=>aO (iy ih p ds e2) λbs b b'=>⟨_,.list (R.old _ _ q) rfl rfl b,Nat.succ_le_succ b'⟩
  | ref k=>exact λe x=>qL e λl e0 e=>uM e λds e2 e=>e▸x.iR λq=>bV ((e0▸R.obj k q:OR W h O Z.n (O k) (.lst l)).2.2) λrs ep o3 o4=>aO (iy ih o4 ds e2) λbs b b'=>⟨_,.list o3 rfl rfl b,Nat.succ_le_succ b'⟩
  | _=>exact nN
abbrev S6(b:Bool):Mu->Heap->Value->Prop:=λ_ _ r=>r=.bool b
noncomputable def Am(W:WC)(A:Around)(X:Addr->Prop)(t:Sem Value)(O:Mu)(Z:St)(s:Shared)(c:Bool):Prop:=az W A X t O Z s Z (S6 c)
theorem az.b{X:Addr->Prop}{t:Sem Value}{c:Bool}(R:Rel W O Z s.heap)(tk:Nat)(x:∀Q E,Q (.bool c) {s with toks:=tk}->wpAny (model W.pg W.w) A t Q E s):Am W A X t O Z s c:=az.tok R _ tk x rfl
section
variable(R:Rel W O Z s.heap){a b:V}{ra rb:Value}{c:Bool}(va:VR W s.heap O Z.n a ra)(vb:VR W s.heap O Z.n b rb){d:Nat}(rm:bD A d)(X:Addr->Prop)
include R va vb rm
theorem oq(e:zL Z a b=some c):Am W A X (compareOp .Eq ra rb) O Z s c/\Am W A X (compareOp .NotEq ra rb) O Z s !c:=
 uO e λx e1 e=>uO e λy e2 e=>uI e λhc e=>bG e (aO (dN R _ _ _ _ e1 va) λas CU da=>aO (dN R _ _ _ _ e2 vb) λbs Ga _=>
  have hc:=Bool.and_eq_true_iff.mp hc
  have hu:A.units+min x.depth y.depth<cLine:=rm.Oc (Nat.le_trans (Nat.le_trans (Nat.min_le_left _ _) da) (by decide))
  ⟨.b R s.toks λQ E q=>SeqAt.compareEq_reads CU Ga hc.1 hc.2 hu q,.b R s.toks λQ E q=>SeqAt.compareNe_reads CU Ga hc.1 hc.2 hu q⟩)
theorem C5(e:inD Z a b=some c):Am W A X (compareOp .In ra rb) O Z s c/\Am W A X (compareOp .NotIn ra rb) O Z s !c:=
 uO e λx e1 e=>uO e λy e2 e=>aO (dN R _ _ _ _ e1 vb) λas CU _=>aO (dN R _ _ _ _ e2 va) λbs Ga db=>by
  have hu:∀k,A.units+1+min k y.depth<cLine:=λk=>Nat.add_assoc A.units 1 (min k y.depth)▸rm.Oc (Nat.le_trans (Nat.add_le_add_left (Nat.le_trans (Nat.min_le_right _ _) db) 1) (by decide))
  clear e1
  revert e CU
  induction x using PyData.casesOn with
  | tuple l=>exact λe CU=>uI e λhc e=>have hc:=Bool.and_eq_true_iff.mp hc;bG e ⟨.b R s.toks λQ E q=>SeqAt.in_tuple_reads CU Ga hc.1 hc.2 (hu _) q,.b R s.toks λQ E q=>SeqAt.notIn_tuple_reads CU Ga hc.1 hc.2 (hu _) q⟩
  | list l=>exact λe CU=>uI e λhc e=>have hc:=Bool.and_eq_true_iff.mp hc;bG e ⟨.b R s.toks λQ E q=>SeqAt.in_list_reads CU Ga hc.1 hc.2 (hu _) q,.b R s.toks λQ E q=>SeqAt.notIn_list_reads CU Ga hc.1 hc.2 (hu _) q⟩
  | _=>exact nN
end
theorem in_dict{l:List (Int×V)}{v:V}{rv:Value}{ad:Addr}{g:Int->Option Value}{c:Bool}(e:EK l v=some c)(va:VR W s.heap O Z.n v rv)(hm:s.heap.MapOf (intKind W.pg W.w) ad g)(hs:(ad==sysModules)=false)(hg:∀k,VG W s.heap O Z.n (aI l k) (g k))(R:Rel W O Z s.heap)(X:Addr->Prop):
  Am W A X (compareOp .In rv (.ref ad)) O Z s c/\Am W A X (compareOp .NotIn rv (.ref ad)) O Z s !c:=
 vI e λk ek e=>bG e (va.jI ek λt=>by
  have h:(aI l k).isSome=(g k).isSome:=by
   cases q:aI l k with
   | none=>rw [(hg k).2 q];rfl
   | some x=>exact ((hg k).1 x q).elim λy z=>z.1▸rfl
  rw [h]
  exact ⟨.b R (s.toks+1) λQ E q=>wpAny_in_of (intKind_is _ _ k t) hs hm q,.b R (s.toks+1) λQ E q=>wpAny_notIn_of (intKind_is _ _ k t) hs hm q⟩)
theorem ot{a b:V}{ra rb:Value}{c:Bool}(R:Rel W O Z s.heap)(va:VR W s.heap O Z.n a ra)(vb:VR W s.heap O Z.n b rb){d:Nat}(rm:bD A d)(X:Addr->Prop)(e:qR Z a b=some c):
  Am W A X (compareOp .In ra rb) O Z s c/\Am W A X (compareOp .NotIn ra rb) O Z s !c:=by
 have go:=C5 R va vb rm X (c:=c)
 revert e vb go
 induction b using V.casesOn with
 | str x=>exact λvb e _=>vb.iS λt=>vS e λy ey e=>bG e (va.jS ey λu=>⟨.b R s.toks λQ E q=>SB.contains q,.b R s.toks λQ E q=>SB.notContains q⟩)
 | cd l=>exact λvb e _=>vb.iD λad f hm hs hd=>in_dict e va (MapOf.at_ hm λo=>R.old _ o) hs hd.get R X
 | ref k=>
  intro vb e go
  cases e0:Z.f k with
  | bO l=>exact vb.iR λq=>have o:OR W s.heap O Z.n (O k) (.bO l):=e0▸R.obj k q;aO o.2.2.2 λg o4 o5=>in_dict ((show qR Z a (.ref k)=EK l a by unfold qR;dsimp only;rw [e0])▸e) va o4.mapOf o.2.1 o5.get R X
  | _=>exact go ((show qR Z a (.ref k)=inD Z a (.ref k) by unfold qR;dsimp only;rw [e0])▸e)
 | _=>exact λ_ e go=>go e
end
abbrev cJ(W:WC)(J:St)(v:V):Mu->Heap->Value->Prop:=λaN G r=>VR W G aN J.n v r
section
theorem pC{x:Int}(q:x.natAbs<fV):Builtin.Int.intBits x<=4097:=by
 unfold Builtin.Int.intBits
 split
 ·exact Nat.zero_le _
 ·rename_i z
  have h0:x.natAbs≠0:=λe=>z (by rw [Int.natAbs_eq_zero.mp e];rfl)
  have:=(Nat.log2_lt h0).mpr q
  lia
theorem pD{t:Sem Value}{i:Int}(R:Rel W O Z s.heap)(X:Addr->Prop)(x:∀(Q:Value->Shared->Prop)(E:Value->Shared->Prop),Q (.int i s.toks) {s with toks:=s.toks+1}->wpAny (model W.pg W.w) A t Q E s):
  az W A X t O Z s Z (cJ W Z (.int i)):=az.tok R _ (s.toks+1) x (VR.int i s.toks)
theorem pE{op:Operator}{a b c:Int}{t u:Tok}(R:Rel W O Z s.heap)(X:Addr->Prop):zR op a b=some c->az W A X (binaryOp op (.int a t) (.int b u)) O Z s Z (cJ W Z (.int c)):=by
 have nt:=λ{t} {c}=>pD (A:=A) (t:=t) (i:=c) R X
 induction op using Operator.casesOn with
 | Add=>exact λe=>bG e (nt λQ E q=>P.add_int q)
 | Sub=>exact λe=>bG e (nt λQ E q=>P.sub_int q)
 | Mult=>exact λ(e:(if a.natAbs<fV/\b.natAbs<fV then some (a*b) else none)=some c)=>uI e λz e=>bG e (nt λQ E q=>P.mul_int q (IntMulOk.of_bits (by have:=pC z.1;lia) (by have:=pC z.2;lia)))
 | FloorDiv=>exact λe=>uI e λz e=>bG e (nt λQ E q=>PyProof.Rows.floordiv_int z.1 q (.inl z.2))
 | Mod=>exact λe=>uI e λz e=>bG e (nt λQ E q=>PyProof.Rows.mod_int' z q)
 | LShift=>exact λ(e:(if 0<=b/\b<=4096/\a.natAbs<fV then some (a*2^b.toNat) else none)=some c)=>uI e λz e=>bG e (nt λQ E q=>PyProof.Rows.lshift_int z.1 (by have:=pC z.2.2;lia) q)
 | RShift=>exact λe=>uI e λz e=>bG e (nt λQ E q=>PyProof.Rows.rshift_int z.1 q)
 | BitAnd=>exact λe=>bG e (nt λQ E q=>PyProof.Rows.and_int q)
 | BitOr=>exact λe=>bG e (nt λQ E q=>PyProof.Rows.or_int q)
 | BitXor=>exact λe=>bG e (nt λQ E q=>PyProof.Rows.xor_int q)
 | _=>exact nN
theorem bP{k:Nat}{l:List V}(R:Rel W O Z h)(q:k<Z.n)(e:Z.f k=.lst l):(O k).2=(O k).1/\l.length<=aq+aq/\∃rs ep,h.get? (O k).1=some (fC rs ep)/\bq W h O Z.n l rs:=(e▸R.obj k q:OR W h O Z.n (O k) (.lst l))
theorem Gb{k:Nat}{l:List (Int×V)}(R:Rel W O Z h)(q:k<Z.n)(e:Z.f k=.bO l):(O k).2=(O k).1/\((O k).1==sysModules)=false/\l.length<=4096/\∃bH,h.DictOf (intKind W.pg W.w) (O k).1 bH/\fb W h O Z.n l bH:=(e▸R.obj k q:OR W h O Z.n (O k) (.bO l))
theorem Ge{k:Nat}{l:List (Str×V)}(R:Rel W O Z h)(q:k<Z.n)(e:Z.f k=.EJ l):(O k).2=(O k).1/\((O k).1==sysModules)=false/\l.length<=4096/\∃bH,h.DictOf (strKind W.pg W.w) (O k).1 bH/\fb W h O Z.n l bH:=(e▸R.obj k q:OR W h O Z.n (O k) (.EJ l))
theorem Ao{k:Nat}{l:List (Str×V)}(R:Rel W O Z h)(q:k<Z.n)(e:Z.f k=.ins l):(O k).2≠(O k).1/\∃o mA,h.get? (O k).1=some o/\o.cls=.ref W.ak/\(∀c,o.data≠ .cls c)/\o.dict=some (O k).2/\h.Ns1 (O k).2 mA/\l.length<=64/\∀k,VG W h O Z.n (aI l k) (mA k):=(e▸R.obj k q:OR W h O Z.n (O k) (.ins l))
theorem yk{I:List V}{rs:List Value}(x:bq W h O Z.n I rs)(ob:Obj)(p:Addr×Addr):bq W (h.push ob) (cy O Z.n p) (Z.n+1) I rs:=
 x.mono (λa rs e q=>Heap.get?_push_of_some _ q) (λk q=>if_neg (Nat.ne_of_lt q)) (Nat.le_succ _)
theorem kZ{I:List V}{rs:List Value}(q:I.length<=aq+aq)(x:bq W h O Z.n I rs):
  OR W (h.push {cls:=.type "list",data:=.seq rs.toArray}) (cy O Z.n (h.objs.size,h.objs.size)) (Z.n+1) (h.objs.size,h.objs.size) (.lst I):=
 ⟨rfl,q,rs,0,Heap.get?_push_size _ rfl,yk x _ _⟩
theorem az.newList{t:Sem Value}{I:List V}{rs:List Value}{X:Addr->Prop}(R:Rel W O Z s.heap)(q:I.length<=aq+aq)(x:bq W s.heap O Z.n I rs)
  (y:∀(Q:Value->Shared->Prop)(E:Value->Shared->Prop),Q (.ref s.heap.objs.size) {s with heap:=s.heap.push {cls:=.type "list",data:=.seq rs.toArray}}->wpAny (model W.pg W.w) A t Q E s):
  az W A X t O Z s (Z.alloc (.lst I)) (cJ W (Z.alloc (.lst I)) (.ref Z.n)):=az.new _ R y (kZ q x)
theorem az.Gf{t:Sem Value}{I:List V}{rs:List Value}{X:Addr->Prop}(R:Rel W O Z s.heap)(x:bq W s.heap O Z.n I rs)
  (y:∀(Q:Value->Shared->Prop)(E:Value->Shared->Prop),Q (.ref s.heap.objs.size) {s with heap:=s.heap.push {cls:=.type "tuple",data:=.seq rs.toArray}}->wpAny (model W.pg W.w) A t Q E s):
  az W A X t O Z s Z (cJ W Z (.tup I)):=λQ E q=>by
 have z:=R.keeps (G:=s.heap.push {cls:=.type "tuple",data:=.seq rs.toArray}) (λa o e=>Heap.get?_push_of_some _ e)
 refine y Q E (q _ _ _ s.toks z.1 (z.2.widen λ_ f=>f.elim) (VR.tup (e:=0) (Heap.get?_push_size _ rfl) (x.mono (λa rs e q=>Heap.get?_push_of_some _ q) (λ_ _=>rfl) (Nat.le_refl _))))
theorem ou{I:List V}{rs:List Value}(x:bq W h O Z.n I rs)(e:I.isEmpty=false):¬rs.toArray.isEmpty=true:=by
 revert e
 exact x.ind (P:=λI rs=>I.isEmpty=false->¬rs.toArray.isEmpty=true) (λe=>nomatch e) λ_ _ _ _ _ _ _ _ e=>absurd (congrArg List.isEmpty (congrArg Array.toList (Array.isEmpty_iff.mp e))) Bool.false_ne_true
theorem fY:aq+aq<=sizeLine:=by decide
@[elab_as_elim] theorem rB{op:Operator}{P:Operator->Prop}(q:isAdd op=true)(k:P .Add):P op:=by revert q;induction op using Operator.casesOn<;>first | exact λ_=>k | exact bF
theorem um{op:Operator}{a b v:V}{ra rb:Value}(e:ue op a b Z=some (v,J))(R:Rel W O Z s.heap)(va:VR W s.heap O Z.n a ra)(vb:VR W s.heap O Z.n b rb)(X:Addr->Prop):
  az W A X (binaryOp op ra rb) O Z s J (cJ W J v):=by
 revert e va
 induction a using V.casesOn with
 | int a=>exact λe va=>va.iI λt=>vI e λb eb e=>uO e λc e1 e=>vb.jI eb λu=>dq e (pE R X e1)
 | ref i=>
  exact λe va=>va.iR λqi=>uR e λj ej e=>uY e λea e=>qL e λl e1 e=>qL e λr e2 e=>uI e λz e=>vb.jR ej λqj=>dq e (rB ea (bV (bP R qi e1).2.2 λrs ep h1 h2=>bV (bP R qj e2).2.2 λwu Jl Jm Rp=>by
   have hz:rs.length+wu.length<=aq:=by rw [h2.length,Rp.length];exact z
   exact az.newList R (List.length_append▸Nat.le_trans z (by decide)) (h2.append Rp) λQ E q=>P.add_list h1 Jm (List.append_toArray ..▸q) (Nat.le_trans hz (by decide))))
 | tup l=>
  exact λe va=>va.iT λrs a ep p q=>vT e λr er e=>uY e λea e=>uI e λz e=>vb.jT er λwu a' Jl p' q'=>dq e (rB ea (by
   have hz:rs.length+wu.length<=aq:=by rw [q.length,q'.length];exact z.1
   exact az.Gf R (q.append q') λQ E x=>P.add_tuple p p' (ou q z.2.1) (ou q' z.2.2) (List.append_toArray ..▸x) (Nat.le_trans hz (by decide))))
 | _=>exact nN
end
section
def rC(W:WC):Prop:=∀v,W.gv "NULL"=some v->(v==Value.none)=false
theorem C6(nn:rC W){a:V}{ra:Value}{c:Bool}(va:VR W h O Z.n a ra):FZ a=some c->(ra==Value.none)=c:=by
 revert va
 induction a using V.casesOn with
 | none=>exact λva e=>bG e (va.iN rfl)
 | bool b=>exact λva e=>bG e (va.iB rfl)
 | int i=>exact λva e=>bG e (va.iI λ_=>rfl)
 | str i=>exact λva e=>bG e (va.iS λ_=>rfl)
 | tup l=>exact λva e=>bG e (va.iT λ_ _ _ _ _=>rfl)
 | ref k=>exact λva e=>bG e (va.iR λ_=>rfl)
 | bo x=>exact λva e=>uI e λhx e=>bG e (nn _ (hx▸va))
 | _=>exact λ_=>nN
theorem uo(nn:rC W){op:CmpOp}{a b:V}{ra rb:Value}{c:Bool}(R:Rel W O Z s.heap)(va:VR W s.heap O Z.n a ra)(vb:VR W s.heap O Z.n b rb){d:Nat}(rm:bD A d)(X:Addr->Prop):
  bf Z op a b=some c->Am W A X (compareOp op ra rb) O Z s c:=by
 have two:∀{f:Int->Int->Bool}{op:CmpOp},(∀{a b:Int}{t u:Tok}(Q:Value->Shared->Prop)(E:Value->Shared->Prop),Q (.bool (f a b)) s->wpAny (model W.pg W.w) A (compareOp op (.int a t) (.int b u)) Q E s)->
   (jL a λa=>jL b λb=>some (f a b))=some c->Am W A X (compareOp op ra rb) O Z s c:=λh e=>vI e λa ea e=>vI e λb eb e=>bG e (va.jI ea λt=>vb.jI eb λu=>.b R s.toks λQ E q=>h Q E q)
 induction op using CmpOp.casesOn with
 | Eq=>exact λe=>(oq R va vb rm X e).1
 | NotEq=>exact λe=>uM e λd e1 e2=>e2▸(oq R va vb rm X e1).2
 | Lt=>exact two (f:=λa b=>decide (a<b)) λ_ _ q=>P.lt_int q
 | LtE=>exact two (f:=λa b=>decide (a<=b)) λ_ _ q=>P.le_int q
 | Gt=>exact two (f:=λa b=>decide (b<a)) λ_ _ q=>P.gt_int q
 | GtE=>exact two (f:=λa b=>decide (b<=a)) λ_ _ q=>P.ge_int q
 | Is=>
  refine λe=>uN e λeb e=>?_
  exact VR.iN (eb▸vb:VR W s.heap O Z.n .none rb) (.b R s.toks λQ E q=>is_none (by rw [C6 nn va e];exact q))
 | IsNot=>exact nN
 | In=>exact λe=>(ot R va vb rm X e).1
 | NotIn=>exact λe=>uM e λd e1 e2=>e2▸(ot R va vb rm X e1).2
theorem bq.get'{I:List V}{rs:List Value}(x:bq W h O Z.n I rs){i:Nat}{v:V}(e:I[i]?=some v):∃r,rs[i]?=some r/\i<rs.length/\VR W h O Z.n v r:=aO (x.get e) λr a b=>⟨r,a,(List.getElem?_eq_some_iff.mp a).1,b⟩
theorem ym{I:List V}{rs:List Value}(x:bq W h O Z.n I rs){i:Int}{v:V}(e:dB I i=some v):-(2^63)<=i/\i<2^63/\
  ∃j r,seqIndex? i rs.length=some j/\rs[j]?=some r/\VR W h O Z.n v r/\((0<=i/\j=i.toNat)\/(i<0/\-(rs.length:Int)<=i/\j=(i+rs.length).toNat)):=by
 refine uI e λhs e=>⟨by lia,by lia,?_⟩
 by_cases h0:0<=i
 ·rw [if_pos h0] at e
  refine bJ (x.get' e) λr a b c=>⟨_,r,?_,a,c,.inl ⟨h0,rfl⟩⟩
  unfold seqIndex?
  have:¬(i<0):=Int.not_lt.mpr h0
  rw [if_neg this,if_pos (Bool.and_eq_true_iff.mpr ⟨decide_eq_true h0,decide_eq_true (by lia)⟩)]
 ·rw [if_neg h0] at e
  refine uI e λh2 e=>?_
  rw [<-x.length] at h2 e
  refine bJ (x.get' e) λr a b c=>?_
  have e3:(i+(rs.length:Int))=(rs.length:Int)+i:=Int.add_comm _ _
  refine ⟨_,r,?_,a,c,.inr ⟨Int.not_le.mp h0,h2,e3▸rfl⟩⟩
  unfold seqIndex?
  rw [if_pos (Int.not_le.mp h0),e3,if_pos (Bool.and_eq_true_iff.mpr ⟨decide_eq_true (by lia),decide_eq_true (by lia)⟩)]
theorem cF{slice:Expr}(o i:Value):eS slice=true->subscripted slice false o i=operate [o,i] (getItem o i):=by
 induction slice using Expr.casesOn with
 | Slice l u st p=>induction st using Option.casesOn<;>first | exact bF | exact λ_=>rfl
 | _=>exact λ_=>rfl
section
variable{value slice:Expr}(q:eS slice=true)(R:Rel W O Z s.heap)(X:Addr->Prop)
include q R
theorem l9{a:Addr}{rs:List Value}{I:List V}{i:Int}{v:V}{ri:Value}(vi:VR W s.heap O Z.n (.int i) ri)(hl:s.heap.IsList a rs.toArray\/PyProof.Rows.IsTup s.heap a rs.toArray)
  (x:bq W s.heap O Z.n I rs) (e:dB I i=some v):az W A X (PyProof.Rows.subscriptTail value slice (.ref a) ri) O Z s Z (cJ W Z v):=
 vi.iI λu=>ja (ym x e) λh1 h2 h3=>fc h3 λj r h3 h4 h5 h6=>az.tok R r s.toks (λQ E q'=>hl.elim
  (λhl=>PyProof.Rows.tail_any hl.typeIs PySem.slot_list_getitem.lookup (h6.elim (λh6=>wpAny_getItem_list hl h6.1 h2 (h6.2▸(List.getElem?_toArray ..).trans h4) q') λh6=>wpAny_getItem_list_neg hl h6.1 h6.2.1 h1 (h6.2.2▸(List.getElem?_toArray ..).trans h4) q') (cF _ _ q))
  λhl=>PyProof.Rows.tail_any hl.typeIs F.slot_tuple_getitem.lookup (PyProof.Rows.getItem_tuple hl h1 h2 h3 ((List.getElem?_toArray ..).trans h4) q') (cF _ _ q)) h5
theorem jU{K:Type}[DecidableEq K]{knd:KeyKind W.pg W.w K}{k:K}{key:Value}{a:Addr}{g:K->Option Value}{v:V}(hk:knd.is k key=true)(hm:s.heap.MapOf knd a g)
  (hv:∃r,g k=some r/\VR W s.heap O Z.n v r):az W A X (PyProof.Rows.subscriptTail value slice (.ref a) key) O Z s Z (cJ W Z v):=
 aO hv λr h1 h2=>az.tok R r (s.toks+1) (λQ E q'=>PyProof.Rows.tail_any hm.typeIs F.slot_dict_getitem.lookup (wpAny_getItem_of hk hm h1 q') (cF _ _ q)) h2
end
theorem aW{a:Addr}{rs:List Value}{ep:Nat}(e:h.get? a=some (fC rs ep)):h.IsList a rs.toArray:=⟨_,e,rfl,_,rfl⟩
theorem iz{a:Addr}{rs:List Value}{ep:Nat}(e:h.get? a=some (bL rs ep)):PyProof.Rows.IsTup h a rs.toArray:=⟨_,e,rfl,_,rfl⟩
section
variable{value slice:Expr}(q:eS slice=true){o v:V}{ro ri:Value}(R:Rel W O Z s.heap)(X:Addr->Prop)
include q R
theorem Ap{x:Str}{i:Int}(vo:VR W s.heap O Z.n (.str x) ro)(vi:VR W s.heap O Z.n (.int i) ri)(e:zS Z (.str x) i=some v):az W A X (PyProof.Rows.subscriptTail value slice ro ri) O Z s Z (cJ W Z v):=
 vo.iS λt=>vi.iI λu=>uI e λhi e=>uO e λc e1 e=>bG e (az.tok R _ (s.toks+1) (λQ E q'=>PyProof.Rows.tail_any (typeIs_str s x t) F.slot_str_getitem.lookup (P.getItem_str (c:=c) (by
    rw [decide_eq_false (by lia:¬(i< -(2^63))),decide_eq_false (by lia:¬(i>=2^63))];rfl) (by
    have h3:seqIndex? i x.length=some i.toNat:=by
     unfold seqIndex?
     have yn:i.toNat<x.length:=(Array.getElem?_eq_some_iff.mp e1).1
     rw [if_neg (Int.not_lt.mpr hi.1),if_pos (Bool.and_eq_true_iff.mpr ⟨decide_eq_true hi.1,decide_eq_true (by lia)⟩)]
    rw [h3];exact e1) q') (cF _ _ q)) (VR.str _ s.toks))
theorem rD{i:Int}(vo:VR W s.heap O Z.n o ro)(vi:VR W s.heap O Z.n (.int i) ri):zS Z o i=some v->az W A X (PyProof.Rows.subscriptTail value slice ro ri) O Z s Z (cJ W Z v):=by
 revert vo
 induction o using V.casesOn with
 | ref k=>
  intro vo
  have e':(af.casesOn (motive:=λ_=>Option V) (Z.f k) (λl=>dB l i) (λl=>aI l i) (λ_=>none) λ_=>none)=some v->az W A X (PyProof.Rows.subscriptTail value slice ro ri) O Z s Z (cJ W Z v):=vo.iR λqk=>by
   have ob:=R.obj k qk
   revert ob
   induction Z.f k using af.casesOn with
   | lst l=>exact λob e=>bV ob.2.2 λrs ep h1 h2=>l9 q R X vi (.inl (aW h1)) h2 e
   | bO l=>exact λob e=>aO ob.2.2.2 λg h1 h2=>vi.iI λt=>jU q R X (intKind_is _ _ i t) h1.mapOf ((h2.get i).1 v e)
   | _=>exact λ_=>nN
  exact e'
 | tup l=>exact λvo e=>vo.iT λrs a ep p x=>l9 q R X vi (.inr (iz p)) x e
 | cl l=>exact λvo e=>vo.iC λrs a ep p x=>l9 q R X vi (.inl (aW (R.old _ _ p))) x e
 | cd l=>exact λvo e=>vo.iD λa g p x y=>vi.iI λt=>jU q R X (intKind_is _ _ i t) (MapOf.at_ p λo=>R.old _ o) ((y.get i).1 v e)
 | str x=>exact λvo e=>Ap q R X vo vi e
 | _=>exact λ_=>nN
theorem rE{i:V}(vo:VR W s.heap O Z.n o ro)(vi:VR W s.heap O Z.n i ri):qY Z o i=some v->az W A X (PyProof.Rows.subscriptTail value slice ro ri) O Z s Z (cJ W Z v):=by
 revert vi
 induction i using V.casesOn with
 | int i=>exact λvi e=>rD q R X vo vi e
 | str x=>exact λvi e=>uR e λk ek e=>qS e λl e0 e=>vo.jR ek λqk=>aO (Ge R qk e0).2.2.2 λg h1 h2=>vi.iS λt=>jU q R X (strKind_is _ _ x t) h1.mapOf ((h2.get x).1 v e)
 | _=>exact λ_=>nN
end
theorem yo{b:Bool}(R:Rel W O Z s.heap)(X:Addr->Prop):az W A X (unaryOp .Not (.bool b)) O Z s Z (cJ W Z (.bool !b)):=
 az.tok R _ s.toks (λQ E q=>not_value (wpAny_truthy_bool q)) (VR.bool _)
theorem yp{i:Int}{t:Tok}(R:Rel W O Z s.heap)(X:Addr->Prop):az W A X (unaryOp .USub (.int i t)) O Z s Z (cJ W Z (.int (-i))):=
 pD R X λQ E q=>P.neg_int q
end
section
theorem az.grow{X:Addr->Prop}{t:Sem Value}{v:V}(R:Rel W O Z s.heap)
  (x:∀(Q:Value->Shared->Prop)(E:Value->Shared->Prop),(∀r G tk,(∀a o,s.heap.get? a=some o->G.get? a=some o)->VR W G O Z.n v r->Q r {s with heap:=G,toks:=tk})->wpAny (model W.pg W.w) A t Q E s):
  az W A X t O Z s Z (cJ W Z v):=λQ E q=>x Q E λr G tk k z=>
 have y:=R.keeps k
 q r O G tk y.1 (y.2.widen λ_ f=>f.elim) z
theorem fZ(h:Heap)(n:Nat)(a:Addr):VR W h (cy O n (a,a)) (n+1) (.ref n) (.ref a):=⟨congrArg (λp:Addr×Addr=>Value.ref p.1) (show (a,a)=cy O n (a,a) n from (if_pos rfl).symm),Nat.lt_succ_self _⟩
theorem az.Aq{X:Addr->Prop}{t:Sem Value}{o:af}(R:Rel W O Z s.heap)
  (x:∀(Q:Value->Shared->Prop)(E:Value->Shared->Prop),(∀a G tk,s.heap.get? a=none->(∀a o,s.heap.get? a=some o->G.get? a=some o)->OR W G (cy O Z.n (a,a)) (Z.n+1) (a,a) o->Q (.ref a) {s with heap:=G,toks:=tk})->wpAny (model W.pg W.w) A t Q E s):
  az W A X t O Z s (Z.alloc o) (cJ W (Z.alloc o) (.ref Z.n)):=λQ E q=>x Q E λa G tk e k z=>
 have y:=R.alloc (p:=(a,a)) k ⟨e,e⟩ z
 q _ _ G tk y.1 (y.2.widen λ_ f=>f.elim) (fZ ..)
theorem uq{a:Addr}{I:List V}{rs:List Value}{ep:Nat}(R:Rel W O Z h)(k:∀a o,h.get? a=some o->G.get? a=some o)(q:I.length<=aq+aq)(x:bq W h O Z.n I rs)(e:G.get? a=some (fC rs ep)):
  OR W G (cy O Z.n (a,a)) (Z.n+1) (a,a) (.lst I):=
 ⟨rfl,q,rs,ep,e,x.mono (λa rs e q=>k _ _ q) (λk q=>if_neg (Nat.ne_of_lt q)) (Nat.le_succ _)⟩
theorem C7{α:Type}(l:List α)(n:Nat):∀a,a+n<=l.length->((List.range n).map (a+·)).filterMap (l[·]?)=(l.drop a).take n:=by
 induction n with
 | zero=>exact λa _=>rfl
 | succ n ih=>
  intro a h
  have ha:a<l.length:=Nat.lt_of_lt_of_le (Nat.lt_add_of_pos_right (Nat.succ_pos n)) h
  rw [List.range_succ_eq_map,List.map_cons,List.filterMap_cons,Nat.add_zero,List.getElem?_eq_getElem ha,List.drop_eq_getElem_cons ha,List.take_succ_cons]
  show _::_=_
  rw [<-ih (a+1) (Nat.succ_add a n▸h),List.map_map]
  exact congrArg (λf=>_::List.filterMap (l[·]?) (List.map f (List.range n))) (funext λx=>(Nat.succ_add a x).symm)
theorem rF{α:Type}(l:List α)(a b:Nat)(hb:b<=l.length):((List.range (b-a)).map (a+·)).filterMap (l[·]?)=(l.take b).drop a:=by
 rw [List.drop_take]
 rcases Nat.le_total a b with h | h
 ·exact C7 l (b-a) a (Nat.le_trans (Nat.le_of_eq (Nat.add_sub_cancel' h)) hb)
 ·rw [Nat.sub_eq_zero_of_le h];rfl
theorem md(lo hi:Option Int)(n:Nat)(h0:0<=lo.getD 0)(h1:0<=hi.getD n):sliceBounds lo hi none n=(((min (lo.getD 0).toNat n:Nat):Int),((min (hi.getD n).toNat n:Nat):Int),1):=by
 have c:∀i:Int,0<=i->max 0 (min (if i<0 then i+n else i) (n:Int))=((min i.toNat n:Nat):Int):=λi h=>by rw [if_neg (Int.not_lt.mpr h)];obtain ⟨k,rfl⟩:=Int.eq_ofNat_of_zero_le h;exact (Nat.le_total k n).elim (λz=>by rw [Int.toNat_natCast,Nat.min_eq_left z,Int.min_eq_left (Int.ofNat_le.mpr z)];exact Int.max_eq_right h) λz=>by rw [Int.toNat_natCast,Nat.min_eq_right z,Int.min_eq_right (Int.ofNat_le.mpr z)];exact Int.max_eq_right (Int.natCast_nonneg n)
 refine Prod.ext ?_ (Prod.ext ?_ rfl)
 ·induction lo using Option.casesOn with
  | none=>exact congrArg Int.ofNat (Nat.zero_min n).symm
  | some i=>exact c i h0
 ·induction hi using Option.casesOn with
  | none=>exact congrArg Int.ofNat (Nat.min_self n).symm
  | some i=>exact c i h1
theorem fD{α:Type}(l:List α)(a b:Nat):(l.take (min b l.length)).drop (min a l.length)=(l.take b).drop a:=by
 have h1:l.take (min b l.length)=l.take b:=(Nat.le_total b l.length).elim (λh=>by rw [Nat.min_eq_left h]) λh=>by rw [Nat.min_eq_right h,List.take_length,List.take_of_length_le h]
 rw [h1]
 refine (Nat.le_total a l.length).elim (λh=>by rw [Nat.min_eq_left h]) λh=>?_
 have ht:=List.length_take_le b l
 have EW:(l.take b).length<=l.length:=List.length_take_le' b l
 rw [Nat.min_eq_right h,List.drop_eq_nil_of_le EW,List.drop_eq_nil_of_le (Nat.le_trans EW h)]
theorem yq(rs:List Value)(lo hi:Option Int)(h0:0<=lo.getD 0)(h1:0<=hi.getD rs.length):slicePick rs.toArray lo hi none=((rs.take (hi.getD rs.length).toNat).drop (lo.getD 0).toNat).toArray:=by
 unfold slicePick
 rw [List.size_toArray,md lo hi rs.length h0 h1,<-fD,<-rF rs _ _ (Nat.min_le_right _ _)]
 dsimp only
 rw [sliceRange_one]
 exact congrArg (λf=>List.toArray (List.filterMap f _)) (funext λi=>List.getElem?_toArray ..)
theorem idx_eq(x:Str)(lo hi:Option Int)(h0:0<=lo.getD 0)(h1:0<=hi.getD x.length):Builtin.Str.strSliceIndices lo hi 1 x.length=(List.range (min (hi.getD x.length).toNat x.length-min (lo.getD 0).toNat x.length)).map (min (lo.getD 0).toNat x.length+·):=by
 have e0:Builtin.Str.strSliceIndices lo hi 1 x.length=sliceRange (sliceBounds lo hi none x.length).1 (sliceBounds lo hi none x.length).2.1 1:=rfl
 rw [e0,md lo hi _ h0 h1]
 exact sliceRange_one _ _
theorem C8{α:Type}{l:List α}{a b:Nat}(h:min b l.length-min a l.length=l.length):(l.take b).drop a=l:=
 fD l a b▸((List.drop_sublist _ _).trans (List.take_sublist _ _)).eq_of_length (by rw [List.length_drop,List.length_take,Nat.min_eq_left (Nat.min_le_right _ _)];exact h)
theorem bq.cut{I:List V}{rs:List Value}{n:Nat}(x:bq W h O n I rs)(a b:Nat):bq W h O n ((I.take b).drop a) ((rs.take b).drop a):=bq.drop a (bq.take b x)
noncomputable def OV(W:WC)(h:Heap)(O:Mu)(n:Nat)(v:Option V)(r:Value):Prop:=Option.casesOn v (r=.none) λv=>VR W h O n v r
def Bd(r:Value)(p:Option (Int×Tok)):Prop:=IsPart r (p.map Prod.fst)/\r=partValue p
theorem Bd.of{n:Nat}{v:Option V}{r:Value}{lo:Option Int}:lM v=some lo->OV W h O n v r->∃p,Bd r p/\p.map Prod.fst=lo:=by
 induction v using Option.casesOn with
 | none=>exact λe x=>bG e ⟨none,(show r=.none from x)▸⟨.none,rfl⟩,rfl⟩
 | some v=>exact λe x=>vI e λi ei e=>bG e (VR.jI (P:=λr=>∃p,Bd r p/\p.map Prod.fst=some i) x ei λt=>⟨some (i,t),⟨.int i t,rfl⟩,rfl⟩)
abbrev gM(l u:Value):Obj:={cls:=.type "slice",data:=.fields #[l,u,.none]}
section
variable{value:Expr}{lower upper:Option Expr}{p:Pos}{ro rl ru:Value}{pl pu:Option (Int×Tok)}(R:Rel W O Z s.heap)(bl:Bd rl pl)(bu:Bd ru pu){Q:Value->Shared->Prop}{E:Value->Shared->Prop}
include R bl bu
theorem rG{a:Addr}{I Jn:List V}{rs:List Value}(hl:s.heap.IsList a rs.toArray)(Gg:I.length<=aq+aq)
  (x:bq W s.heap O Z.n I rs) (e:dU I (pl.map Prod.fst) (pu.map Prod.fst)=some Jn)
  (q:∀r aN G tk,Rel W aN (Z.alloc (.lst Jn)) G->Step bQ O aN Z.n (Z.n+1) s.heap G->VR W G aN (Z.n+1) (.ref Z.n) r->Q r {s with heap:=G,toks:=tk}):
  wpAny (model W.pg W.w) A (PyProof.Rows.subscriptTail value (.Slice lower upper none p) (.ref a) (.ref s.heap.objs.size)) Q E {s with heap:=s.heap.push (gM rl ru)}:=by
 have k0:∀a o,s.heap.get? a=some o->(s.heap.push (gM rl ru)).get? a=some o:=λa o e=>Heap.get?_push_of_some _ e
 have R0:=R.keeps k0
 refine uI e λhc e=>bG e (P:=λJn=>(∀r aN G tk,Rel W aN (Z.alloc (.lst Jn)) G->Step bQ O aN Z.n (Z.n+1) s.heap G->VR W G aN (Z.n+1) (.ref Z.n) r->Q r {s with heap:=G,toks:=tk})->_) (λq=>?_) q
 have Od:0<=(pu.map Prod.fst).getD (rs.length:Int):=x.length▸hc.2
 have hz:rs.length<=sizeLine:=Nat.le_trans (x.length▸Gg) fY
 refine PyProof.Rows.tail_any (hl.push _).typeIs list_getitem_lookup (wpAny_getItem_list_slice (hl.push _) (Heap.IsSliceOf.new ..) bl.1 bu.1 .none (by simp) ?_ hz) rfl
 rw [yq rs _ _ hc.1 Od,x.length]
 have y:=R0.1.alloc (p:=((s.heap.push (gM rl ru)).objs.size,(s.heap.push (gM rl ru)).objs.size)) (G:=(s.heap.push (gM rl ru)).push _) (λa o e=>Heap.get?_push_of_some _ e) ⟨aL _,aL _⟩
  (kZ (I:=(I.take ((pu.map Prod.fst).getD (I.length:Int)).toNat).drop ((pl.map Prod.fst).getD 0).toNat) (rs:=(rs.take ((pu.map Prod.fst).getD (I.length:Int)).toNat).drop ((pl.map Prod.fst).getD 0).toNat) (Nat.le_trans (((List.drop_sublist _ _).trans (List.take_sublist _ I)).length_le) Gg) ((bq.mono (λa rs e q=>k0 _ _ q) (λ_ _=>rfl) (Nat.le_refl _) x).cut _ _))
 exact q _ _ _ s.toks y.1 ((R0.2.trans y.2)) (fZ _ _ _)
theorem C9{v:V}{x:Str}{t:Tok}(e:zT Z (.str x) (pl.map Prod.fst) (pu.map Prod.fst)=some (v,J))(q:∀r aN G tk,Rel W aN J G->Step bQ O aN Z.n J.n s.heap G->VR W G aN J.n v r->Q r {s with heap:=G,toks:=tk}):
  wpAny (model W.pg W.w) A (PyProof.Rows.subscriptTail value (.Slice lower upper none p) (.str x t) (.ref s.heap.objs.size)) Q E {s with heap:=s.heap.push (gM rl ru)}:=by
 revert q
 refine uI e λS7 e=>uO e λl' e1 e=>dq (P:=λv J=>(∀r aN G tk,Rel W aN J G->Step bQ O aN Z.n J.n s.heap G->VR W G aN J.n v r->Q r {s with heap:=G,toks:=tk})->_) e λq=>?_
 have hx:x.cps.toList.length=x.length:=x.cps.length_toList
 have R0:=R.keeps (G:=s.heap.push (gM rl ru)) λa o e=>Heap.get?_push_of_some _ e
 refine PyProof.Rows.tail_any (typeIs_str _ x t) F.slot_str_getitem.lookup (wpAny_getItem_str_slice (l:=pl) (u:=pu) (st:=none) ⟨_,Heap.get?_push_size _ rfl,rfl,by rw [bl.2,bu.2];rfl⟩ rfl ?_) rfl
 revert q
 refine uI e1 λhc e1=>bG e1 λq=>?_
 rw [hx] at hc q
 have ei:slicePicked x pl pu none=_:=idx_eq x (pl.map Prod.fst) (pu.map Prod.fst) hc.1 hc.2
 unfold sliceMade
 refine dv (P:=λ(z:Made)=>z.post Q _) (λhw=>?_) λhw=>?_
 ·have Rq:=eq_of_beq (Bool.and_eq_true_iff.mp hw).2
  rw [ei,List.length_map,List.length_range,<-hx] at Rq
  exact q _ O _ s.toks R0.1 R0.2 (show VR _ _ _ _ (.str ⟨_⟩) (.str x t) by rw [<-hx,C8 Rq];exact VR.str x t)
 ·have ey:(slicePicked x pl pu none).filterMap (x.cps[·]?)=(x.cps.toList.take ((pu.map Prod.fst).getD (x.length:Int)).toNat).drop ((pl.map Prod.fst).getD 0).toNat:=by
   rw [ei,show (λi:Nat=>x.cps[i]?)=(x.cps.toList[·]?) from funext λi=>(Array.getElem?_toList ..).symm,<-hx,rF _ _ _ (Nat.min_le_right _ _),fD]
  rw [ey]
  refine ⟨?_,q _ O _ (s.toks+1) R0.1 R0.2 (VR.str _ s.toks)⟩
  show (List.toArray _).size<=sizeLine
  exact Nat.le_trans (Nat.le_trans ((List.drop_sublist _ _).trans (List.take_sublist _ _)).length_le (hx.symm▸S7)) (by decide)
theorem yr{o v:V}(e:zT Z o (pl.map Prod.fst) (pu.map Prod.fst)=some (v,J))(vo:VR W s.heap O Z.n o ro)(q:∀r aN G tk,Rel W aN J G->Step bQ O aN Z.n J.n s.heap G->VR W G aN J.n v r->Q r {s with heap:=G,toks:=tk}):
  wpAny (model W.pg W.w) A (PyProof.Rows.subscriptTail value (.Slice lower upper none p) ro (.ref s.heap.objs.size)) Q E {s with heap:=s.heap.push (gM rl ru)}:=by
 revert e vo q
 induction o using V.casesOn with
 | ref k=>exact λe vo q=>vo.iR λqk=>qL e λl e0 e=>uO e λl' e1 e=>bV (bP R qk e0).2.2 λrs ep h3 h4=>rG R bl bu (aW h3) (bP R qk e0).2.1 h4 e1 (dq (P:=λv J=>(∀r aN G tk,Rel W aN J G->Step bQ O aN Z.n J.n s.heap G->VR W G aN J.n v r->Q r {s with heap:=G,toks:=tk})->∀r aN G tk,Rel W aN (Z.alloc (.lst l')) G->Step bQ O aN Z.n (Z.n+1) s.heap G->VR W G aN (Z.n+1) (.ref Z.n) r->Q r {s with heap:=G,toks:=tk}) e (λq=>q) q)
 | cl l=>exact λe vo q=>vo.iC λrs a ep p1 x=>uI e λhz e=>uO e λl' e1 e=>rG R bl bu (aW (R.old _ _ p1)) (Nat.le_trans hz (Nat.le_add_right _ _)) x e1 (dq (P:=λv J=>(∀r aN G tk,Rel W aN J G->Step bQ O aN Z.n J.n s.heap G->VR W G aN J.n v r->Q r {s with heap:=G,toks:=tk})->∀r aN G tk,Rel W aN (Z.alloc (.lst l')) G->Step bQ O aN Z.n (Z.n+1) s.heap G->VR W G aN (Z.n+1) (.ref Z.n) r->Q r {s with heap:=G,toks:=tk}) e (λq=>q) q)
 | str x=>exact λe vo q=>vo.iS λt=>C9 R bl bu e q
 | _=>exact nN
end
end
section
theorem gN{g:V->Option PyData}(ih:∀v d,g v=some d->d.hasDict=false)(l:List V):∀{ds:List PyData},de g l=some ds->PyData.hasDictAll ds=false:=by
 induction l with
 | nil=>exact λe=>bG e rfl
 | cons v l q=>exact λe=>uO e λy e1 e=>uO e λr e2 e=>bG e (by show (PyData.hasDict y || PyData.hasDictAll r)=false;rw [ih v y e1,q e2];rfl)
theorem pF(n:Nat):∀(v:V)(d:PyData),bw Z n v=some d->d.hasDict=false:=by
 induction n with
 | zero=>intro v d;induction v using V.casesOn<;>first | exact nN | exact λe=>bG e rfl
 | succ n ih=>
  intro v d
  induction v using V.casesOn with
  | tup l=>exact λe=>uM e λds e1 e2=>e2▸gN ih l e1
  | cl l=>exact λe=>uM e λds e1 e2=>e2▸gN ih l e1
  | ref k=>exact λe=>qL e λl _ e=>uM e λds e1 e2=>e2▸gN ih l e1
  | _=>first | exact nN | exact λe=>bG e rfl
theorem ur{v:V}{r:Value}{t:Str}(e:EM Z v=some t)(R:Rel W O Z s.heap)(x:VR W s.heap O Z.n v r){d:Nat}(rm:bD A d)(X:Addr->Prop):
  az W A X (call (.builtin "repr") [r]) O Z s Z (cJ W Z (.str t)):=
 uO e λd e0 e=>uI e λhc e=>bG e (by
  have hc:=Bool.and_eq_true_iff.mp hc
  have Jo:=Bool.and_eq_true_iff.mp hc.1
  have hz:d.shown.length<=sizeLine:=Nat.le_trans (of_decide_eq_true hc.2) (by decide)
  refine aO (dN R _ _ _ _ e0 x) λas rd hd=>?_
  have Kh:∀a,r=.ref a->az W A X (call (.builtin "repr") [r]) O Z s Z (cJ W Z (.str d.shown)):=λa er=>
   er▸az.grow R λQ E q=>repr_of_reads' (er▸rd) Jo.1 (λz=>absurd (z.symm.trans (pF _ _ _ e0)) (λw=>nomatch w)) rm.guards (rm.Oc (Nat.le_trans (Nat.succ_le_succ hd) (by decide))) (λ_ _ e=>e) (λG u tk k=>q _ G tk k (VR.str _ u)) hz
  clear rd
  revert e0 x Kh
  induction v using V.casesOn with
  | none=>exact λx e0 _=>x.iN (bG e0 (az.tok R _ (s.toks+1) (λQ E q=>P.repr_of_none q) (VR.str _ s.toks)))
  | bool b=>exact λx e0 _=>x.iB (bG e0 (az.tok R _ (s.toks+1) (λQ E q=>P.repr_of_bool q) (by induction b using Bool.casesOn<;>exact VR.str _ s.toks)))
  | int i=>exact λx e0 _=>x.iI λt=>bG (P:=λd=>d.showable=true->az W A X (call (.builtin "repr") [.int i t]) O Z s Z (cJ W Z (.str d.shown))) e0 (λh=>az.tok R _ (s.toks+1) (λQ E q=>P.repr_of_int (of_decide_eq_true h) q) (VR.str _ s.toks)) Jo.1
  | str y=>exact λx e0 _=>x.iS λt=>bG (P:=λd=>d.shown.length<=sizeLine->az W A X (call (.builtin "repr") [.str y t]) O Z s Z (cJ W Z (.str d.shown))) e0 (λhz=>az.tok R _ (s.toks+1) (λQ E q=>P.repr_of_str q hz) (VR.str _ s.toks)) hz
  | tup _=>exact λx _ k=>x.elim λ_ x=>x.elim λa x=>k a (x.elim λ_ x=>x.1)
  | cl _=>exact λx _ k=>x.elim λ_ x=>x.elim λa x=>k a (x.elim λ_ x=>x.1)
  | ref _=>exact λx _ k=>k _ x.1
  | _=>exact λ_ e0 _=>nN e0)
theorem yt{v:V}{r:Value}{n:Nat}(R:Rel W O Z s.heap)(x:VR W s.heap O Z.n v r)(X:Addr->Prop):JP Z v=some n->az W A X (call (.builtin "len") [r]) O Z s Z (cJ W Z (.int n)):=by
 revert x
 induction v using V.casesOn with
 | str y=>exact λx e=>x.iS λt=>uI e λh e=>bG e (az.tok R _ (s.toks+1+1) (λQ E q=>PyProof.Rows.SBL.len (by lia) q) (VR.int _ _))
 | ref k=>exact λx e=>x.iR λq=>qL e λl e0 e=>bG e (bV (bP R q e0).2.2 λrs ep h3 h4=>az.tok R _ (s.toks+1+1) (λQ E q'=>call_len_list (aW h3) (by have:rs.length<=2097152:=h4.length▸(bP R q e0).2.1;rw [List.size_toArray];omega) q') (h4.length.symm▸VR.int _ _))
 | _=>exact λ_=>nN
theorem uu{k:Nat}{l:List V}(e0:Z.f k=.lst l)(qk:k<Z.n)(R:Rel W O Z s.heap)(X:Addr->Prop):
  az W A X (call (.type "list") [.ref (O k).1]) O Z s (Z.alloc (.lst l)) (cJ W (Z.alloc (.lst l)) (.ref Z.n)):=
 have z:=bP R qk e0
 bV z.2.2 λrs ep h3 h4=>az.Aq R λQ E q=>call_list_seq _ (.inl rfl) h3 rfl rfl (λG c' k h5=>q _ G s.toks (aL _) k (uq R k z.2.1 h4 h5)) (Nat.le_trans (h4.length▸z.2.1:rs.length<=_) fY)
section
variable(R:Rel W O Z s.heap)(X:Addr->Prop){a b:Int}{t u:Tok}{d:Nat}
include R
theorem yu:az W A X (call (.builtin "abs") [.int a t]) O Z s Z (cJ W Z (.int (if a<0 then-a else a))):=
 az.grow R λQ E q=>PyProof.Rows.call_abs_int λu tk=>q _ s.heap tk (λ_ _ e=>e) (VR.int _ u)
theorem yv(rm:bD A d):az W A X (call (.builtin "min") [.int a t,.int b u]) O Z s Z (cJ W Z (.int (if b<a then b else a))):=
 az.grow R λQ E q=>min_two_ints rm.handled λG tk k=>dv (c:=b<a) (P:=λr=>Q r _) (λz=>q _ G tk k (by rw [if_pos z];exact VR.int _ _)) λz=>q _ G tk k (by rw [if_neg z];exact VR.int _ _)
theorem yw(rm:bD A d):az W A X (call (.builtin "max") [.int a t,.int b u]) O Z s Z (cJ W Z (.int (if a<b then b else a))):=
 az.grow R λQ E q=>max_two_ints rm.handled λG tk k=>dv (c:=a<b) (P:=λr=>Q r _) (λz=>q _ G tk k (by rw [if_pos z];exact VR.int _ _)) λz=>q _ G tk k (by rw [if_neg z];exact VR.int _ _)
theorem yx:az W A X (call (.type "int") [.int a t]) O Z s Z (cJ W Z (.int a)):=az.tok R _ s.toks (λQ E q=>call_int_int q) (VR.int _ _)
theorem nJ{x:Str}{i:Int}(e:we x=some i):az W A X (call (.type "int") [.str x t]) O Z s Z (cJ W Z (.int i)):=
 uI e λz e=>az.tok R _ (s.toks+1) (λQ E q=>PySem.W.KIN.call_text e z q) (VR.int _ _)
end
theorem uv{I:List V}{rs:List Value}(x:bq W h O Z.n I rs):∀{is:List Int},intsOf I=some is->PyProof.Rows.IntsAre rs is:=
 x.ind (P:=λI rs=>∀{is:List Int},intsOf I=some is->PyProof.Rows.IntsAre rs is) (λe=>bG e .nil) λv r I rs p _ q is e=>uO e λi e1 e=>uO e λjs e2 e=>bG e (vI e1 λj ej e1=>bG e1 (p.jI ej λt=>.cons _ _ (q e2)))
theorem As{is:List Int}{rs:List Value}{n:Nat}(x:PyProof.Rows.IntsAre rs is):bq W h O n (is.map V.int) rs:=by
 induction x with
 | nil=>exact .nil
 | cons n t _ ih=>exact .cons (VR.int _ _) ih
theorem kj(x:Int)(l:List Int):(jM x l).Perm (x::l):=by
 induction l with
 | nil=>exact .refl _
 | cons y l ih=>exact dv (c:=x<=y) (x:=x::y::l) (y:=y::jM x l) (P:=λz=>z.Perm (x::y::l)) (λ_=>.refl _) λ_=>(ih.cons y).trans (List.Perm.swap x y l)
theorem iq(l:List Int):(b7 l).Perm l:=by
 induction l with
 | nil=>exact .refl _
 | cons x l ih=>exact (kj x _).trans (ih.cons x)
theorem nK(x:Int)(l:List Int):l.Pairwise (·<=·)->(jM x l).Pairwise (·<=·):=by
 induction l with
 | nil=>exact λ_=>List.pairwise_singleton _ _
 | cons y l ih=>
  intro h
  have G:=List.pairwise_cons.mp h
  refine dv (c:=x<=y) (x:=x::y::l) (y:=y::jM x l) (P:=List.Pairwise (·<=·)) (λz=>List.pairwise_cons.mpr ⟨λw hw=>?_,h⟩) λz=>List.pairwise_cons.mpr ⟨λw hw=>?_,ih G.2⟩
  ·exact (List.mem_cons.mp hw).elim (λe=>e▸z) λhw=>Int.le_trans z (G.1 w hw)
  ·exact (List.mem_cons.mp ((kj x l).mem_iff.mp hw)).elim (λe=>e▸Int.le_of_lt (Int.not_le.mp z)) (G.1 w)
theorem kH(l:List Int):(b7 l).Pairwise (·<=·):=by
 induction l with
 | nil=>exact List.Pairwise.nil
 | cons x l ih=>exact nK x _ ih
theorem yy{l l':List Int}(p:l.Perm l')(h:l.Pairwise (·<=·))(G:l'.Pairwise (·<=·)):l=l':=
 p.eq_of_pairwise (λa b _ _ x y=>Int.le_antisymm x y) h G
theorem pG{k:Nat}{l:List V}{ns:List Int}(e0:Z.f k=.lst l)(qk:k<Z.n)(e:intsOf l=some ns)(hz:l.length<64)(R:Rel W O Z s.heap)(X:Addr->Prop):
  az W A X (call (.builtin "sorted") [.ref (O k).1]) O Z s (Z.alloc (.lst ((b7 ns).map V.int))) (cJ W (Z.alloc (.lst ((b7 ns).map V.int))) (.ref Z.n)):=by
 have z:=bP R qk e0
 refine bV z.2.2 λrs ep h3 h4=>?_
 have h6:=uv h4 e
 refine az.Aq R λQ E q=>PyProof.Rows.sorted_ints (aW h3) h6 (h4.length.symm▸hz) λout Gh a1 a2 a3=>(PyProof.Rows.sortedAll_at s.heap rs out).elim λJl he=>?_
 have e1:Gh=b7 ns:=yy (a2.trans (iq ns).symm) a3 (kH ns)
 subst e1
 refine q _ _ s.toks (bK (Nat.le_succ _)) (λ_ _=>PyProof.Rows.sortedAll_old) (uq (rs:=out.toList) (ep:=Jl) R (λ_ _=>PyProof.Rows.sortedAll_old) ?_ (As a1) he)
 rw [List.length_map,(iq ns).length_eq,<-h6.length,h4.length];exact z.2.1
theorem rH{I:List V}{rs:List Value}(x:bq W h O Z.n I rs):∀{bs:List Bool},boolsOf I=some bs->rs=bs.map Value.bool:=
 x.ind (P:=λI rs=>∀{bs:List Bool},boolsOf I=some bs->rs=bs.map Value.bool) (λe=>bG e rfl) λv r I rs p _ q is e=>uO e λi e1 e=>uO e λjs e2 e=>bG e (uB e1 λj ej e1=>bG e1 (p.jB ej (congrArg _ (q e2))))
theorem Dd(bs:List Bool):(List.range bs.length).all (λi=>(bs[i]?).getD true)=bs.all id:=by
 induction bs with
 | nil=>rfl
 | cons b bs ih=>
  rw [List.length_cons,List.range_succ_eq_map,List.all_cons,List.all_map]
  exact congrArg (b&&·) ih
theorem yz{k:Nat}{l:List V}{bs:List Bool}(e0:Z.f k=.lst l)(qk:k<Z.n)(e:boolsOf l=some bs)(R:Rel W O Z s.heap){d:Nat}(rm:bD A d)(X:Addr->Prop):
  az W A X (call (.builtin "all") [.ref (O k).1]) O Z s Z (cJ W Z (.bool (bs.all id))):=by
 refine bV (bP R qk e0).2.2 λrs ep h3 h4=>?_
 have h5:=rH h4 e
 subst h5
 have uw:(O k).1≠s.heap.objs.size:=Nat.ne_of_lt (Heap.lt_size h3)
 refine az.grow R λQ E q=>call_all_walk (wpAny_pyIter_list (aW h3) ⟨_,_,_,_,_,_,λi=>(bs[i]?).getD true,rfl,Walks.list (A:=A.in1) rm.handled _ (O k).1 uw (bs.map Value.bool).toArray,⟨⟨_,Heap.get?_push_size _ rfl,rfl,rfl⟩,(aW h3).push _⟩,λi v s' Q' E' hv hq=>?_,λG tk hk=>?_⟩)
 ·exact uM (((List.getElem?_toArray ..).trans (List.getElem?_map ..)).symm.trans hv) λb e1 e2=>e2▸wpAny_truthy_bool ((show bs[i]?.getD true=b from congrArg (λx:Option Bool=>x.getD true) e1)▸(hq:Q' (bs[i]?.getD true) s'))
 ·rw [List.size_toArray,List.length_map,Dd]
  exact q _ G tk (λa o e=>hk a o (λz=>absurd (Heap.lt_size e) (List.mem_singleton.mp z▸Nat.lt_irrefl _)) (Heap.get?_push_of_some _ e)) (VR.bool _)
end
section
theorem Rel.jb{k:Nat}{I:List V}{rs wu:List Value}{ep:Nat}{g:Array Value->Array Value}(R:Rel W O Z h)(qk:k<Z.n)(hp:(O k).2=(O k).1)(hl:h.get? (O k).1=some (fC rs ep))
  (hg:g rs.toArray=wu.toArray) (hz:I.length<=aq+aq) (x:bq W h O Z.n I wu):
  Rel W O (Z.put k (.lst I)) (h.update (O k).1 (Obj.mapSeq g))/\Step (λ_=>False) O O Z.n Z.n h (h.update (O k).1 (Obj.mapSeq g))/\∀{v r},VR W h O Z.n v r->VR W (h.update (O k).1 (Obj.mapSeq g)) O Z.n v r:=by
 have hk:∀a o,a≠(O k).1->h.get? a=some o->(h.update (O k).1 (Obj.mapSeq g)).get? a=some o:=λa o ne e=>(Heap.get?_update_other _ _ (Ne.symm ne)).trans e
 have tk:∀a rs e,h.get? a=some (bL rs e)->(h.update (O k).1 (Obj.mapSeq g)).get? a=some (bL rs e):=λa rs e z=>hk a _ ((R.df z k qk).1) z
 have z:=R.put (o:=.lst I) (G:=h.update (O k).1 (Obj.mapSeq g)) qk (λa o n1 _ e=>hk a o n1 e) ⟨hp,hz,wu,_,hg▸IsL.update (show IsL h (O k).1 rs.toArray ep from hl) g,x.mono tk (λ_ _=>rfl) (Nat.le_refl _)⟩
 exact ⟨z.1,z.2,.mono tk (λ_ _=>rfl) (Nat.le_refl _)⟩
theorem az.jb{X:Addr->Prop}{t:Sem Value}{v:V}{k:Nat}{I:List V}{rs wu:List Value}{ep:Nat}{g:Array Value->Array Value}(R:Rel W O Z s.heap)(qk:k<Z.n)(hp:(O k).2=(O k).1)(hl:s.heap.get? (O k).1=some (fC rs ep))
  (hg:g rs.toArray=wu.toArray) (hz:I.length<=aq+aq) (x:bq W s.heap O Z.n I wu) (r:Value) (hr:VR W s.heap O Z.n v r)
  (y:∀(Q:Value->Shared->Prop)(E:Value->Shared->Prop),Q r {s with heap:=s.heap.update (O k).1 (Obj.mapSeq g)}->wpAny (model W.pg W.w) A t Q E s):
  az W A X t O Z s (Z.put k (.lst I)) (cJ W (Z.put k (.lst I)) v):=λQ E q=>have z:=R.jb qk hp hl hg hz x;y Q E (q r O _ s.toks z.1 (z.2.1.widen λ_ f=>f.elim) (z.2.2 hr))
theorem pH{k:Nat}{l:List V}{v:V}{r:Value}(e0:Z.f k=.lst l)(qk:k<Z.n)(hz:l.length<aq)(R:Rel W O Z s.heap)(x:VR W s.heap O Z.n v r)(X:Addr->Prop):
  az W A X (call (.builtin "list.append") [.ref (O k).1,r]) O Z s (Z.put k (.lst (l++[v]))) (cJ W (Z.put k (.lst (l++[v]))) .none):=
 have z:=bP R qk e0
 bV z.2.2 λrs ep h3 h4=>az.jb (wu:=rs++[r]) (g:=λxs=>xs.push r) R qk z.1 h3 (by simp) (List.length_append▸Nat.le_trans (Nat.succ_le_of_lt hz) (Nat.le_add_right _ _)) (h4.append (.cons x .nil)) .none .none
  λQ E q=>call_meets F.slot_list_append ⟨_,h3,rfl⟩ F.entry_list_append (F.args_list_append_2 _ _) (list_append _ rs.toArray ep r (Nat.le_trans (Nat.le_of_lt (h4.length.symm▸hz:rs.length<aq)) (by decide:aq<=sizeLine))) ⟨h3,q⟩
theorem bq.dropLast{I:List V}{rs:List Value}(x:bq W h O Z.n I rs):bq W h O Z.n I.dropLast rs.dropLast:=by
 rw [List.dropLast_eq_take,List.dropLast_eq_take,<-x.length];exact bq.take _ x
theorem ux(rs:List Value)(yn:rs.length-1<rs.length):rs.toArray.eraseIdxIfInBounds (rs.toArray.size-1)=rs.dropLast.toArray:=by
 rw [Array.eraseIdxIfInBounds,dif_pos (show rs.toArray.size-1<rs.toArray.size from yn),List.eraseIdx_toArray,List.dropLast_eq_take]
 show List.toArray (rs.eraseIdx (rs.length-1))=_
 rw [List.eraseIdx_eq_take_drop_succ,List.drop_eq_nil_of_le (Nat.le_of_eq (Nat.sub_add_cancel (Nat.one_le_of_lt yn)).symm),List.append_nil]
theorem yA{k:Nat}{l:List V}{v:V}(e0:Z.f k=.lst l)(qk:k<Z.n)(e:l.getLast?=some v)(R:Rel W O Z s.heap)(X:Addr->Prop):
  az W A X (call (.builtin "list.pop") [.ref (O k).1]) O Z s (Z.put k (.lst l.dropLast)) (cJ W (Z.put k (.lst l.dropLast)) v):=by
 have z:=bP R qk e0
 refine bV z.2.2 λrs ep h3 h4=>?_
 rw [List.getLast?_eq_getElem?,<-h4.length] at e
 refine bJ (h4.get' e) λr e1 yn e2=>?_
 have hl:rs.length<=aq+aq:=h4.length▸z.2.1
 exact az.jb (wu:=rs.dropLast) (g:=λxs=>xs.eraseIdxIfInBounds (rs.toArray.size-1)) R qk z.1 h3 (ux rs yn) (List.length_dropLast▸Nat.le_trans (Nat.sub_le _ _) z.2.1) h4.dropLast r e2
  λQ E q=>call_meets F.slot_list_pop ⟨_,h3,rfl⟩ F.entry_list_pop (F.args_list_pop_1 _) (MeetsSeq.list_pop_last _ rs.toArray ep r ((List.getElem?_toArray ..).trans e1) (Nat.le_trans hl fY)) ⟨h3,q⟩
theorem uy{I:List V}{rs:List Value}(x:bq W h O Z.n I rs):∀{ts:List Str},strsOf I=some ts->rs.length=ts.length/\∀(i:Nat)(v:Value),rs[i]?=some v->∃t u,v=Value.str t u/\ts[i]?=some t:=
 x.ind (P:=λI rs=>∀{ts:List Str},strsOf I=some ts->rs.length=ts.length/\∀(i:Nat)(v:Value),rs[i]?=some v->∃t u,v=Value.str t u/\ts[i]?=some t) (λe=>bG e ⟨rfl,λi v e=>nN e⟩) λv r I rs p _ q ts e=>
  uO e λt e1 e=>uO e λjs e2 e=>bG e (vS e1 λt' et e1=>bG e1 (p.jS et λu=>⟨congrArg (·+1) (q e2).1,λi=>Nat.casesOn i (λv e=>bG e ⟨t',u,rfl,rfl⟩) λi=>(q e2).2 i⟩))
def wx(x:Str)(v:Value):Bool:=match v with
 | .str y _=>y==x
 | _=>false
theorem rJ{k:Nat}{l:List V}{x:Str}{t:Tok}{ts:List Str}{j:Nat}(e0:Z.f k=.lst l)(qk:k<Z.n)(e:strsOf l=some ts)(ej:ts.findIdx? (·==x)=some j)(R:Rel W O Z s.heap)(X:Addr->Prop):
  az W A X (call (.builtin "list.index") [.ref (O k).1,.str x t]) O Z s Z (cJ W Z (.int j)):=by
 have z:=bP R qk e0
 refine bV z.2.2 λrs ep h3 h4=>?_
 have hg:=uy h4 e
 rw [List.findIdx?_eq_some_iff_getElem] at ej
 refine ej.elim λh7 h8=>?_
 have at_:∀m (hm:m<ts.length),∃t u,rs.toArray[m]?=some (.str t u)/\ts[m]=t:=λm hm=>bV (hg.2 m _ (List.getElem?_eq_getElem (hg.1▸hm))) λt u e1 e2=>⟨t,u,(List.getElem?_toArray ..).trans (e1▸List.getElem?_eq_getElem (hg.1▸hm)),Option.some.inj ((List.getElem?_eq_getElem hm).symm.trans e2)⟩
 have gt:∀m (hm:m<ts.length) (Rr:m<rs.toArray.size),wx x rs.toArray[m]=(ts[m]==x):=λm hm Rr=>bV (at_ m hm) λt u e1 e2=>by
  rw [Option.some.inj ((Array.getElem?_eq_getElem Rr).symm.trans e1),e2];rfl
 have hs:rs.toArray.size=ts.length:=hg.1
 refine pD R X λQ E q=>call_meets F.slot_list_index ⟨_,h3,rfl⟩ F.entry_list_index (F.args_list_index_2 _ _) (MeetsSeq.list_index _ rs.toArray ep (.str x t) (wx x) (λy hy=>?_) j (hs.symm▸h7) ?_ ((gt j h7 _).trans h8.1) (λm hm yn=>(gt m (hs▸hm) hm).trans (Bool.eq_false_iff.mpr (h8.2 m yn)))) ⟨h3,q⟩
 ·exact (List.mem_iff_getElem?.mp (List.mem_toArray.mp hy)).elim λi hi=>bV (hg.2 i _ hi) λt' u e1 _=>e1▸PyProof.Rows.eqGives_str t' x u t
 ·have:rs.length<=2097152:=h4.length▸z.2.1
  have h:j<rs.length:=hg.1.symm▸h7
  clear hs hg z
  lia
theorem Au{n:Nat}(l:List (Str×Tok)):bq W h O n ((l.map (·.1)).map V.str) (strValues l):=by
 induction l with
 | nil=>exact .nil
 | cons p l ih=>exact .cons (VR.str p.1 p.2) ih
theorem rK{x y:Str}{t u:Tok}(hx:x.length<=4096)(hy:(y.length==0)=false)(hn:(Builtin.Str.partsBetween x (Builtin.Str.occurrences x y 0 x.length (x.length+1)) y.length).length<=aq)(R:Rel W O Z s.heap)(X:Addr->Prop):
  az W A X (call (.builtin "str.split") [.str x t,.str y u]) O Z s (Z.alloc (.lst ((Txt.split x y).map V.str))) (cJ W (Z.alloc (.lst ((Txt.split x y).map V.str))) (.ref Z.n)):=by
 have hb:aq=1048576:=rfl
 have Wq:sizeLine=16777216:=rfl
 have key:∀(l:List (Str×Tok)),l.map (·.1)=Txt.split x y->(Txt.split x y).length<=aq+aq->
   OR W (s.heap.push {cls:=.type "list",data:=.seq (strValues l).toArray}) (cy O Z.n (s.heap.objs.size,s.heap.objs.size)) (Z.n+1) (s.heap.objs.size,s.heap.objs.size) (.lst ((Txt.split x y).map V.str)):=λl e hz=>by
  refine kZ (by rw [List.length_map];exact hz) ?_
  rw [<-e];exact Au l
 have one:∀tk:Tok,[(x,tk)].map (·.1)=[x]:=λ_=>rfl
 refine az.Aq R λQ E q=>?_
 cases h1:(decide (x.length<y.length) || decide (Builtin.Str.strKind x<Builtin.Str.strKind y))
 ·cases hf:(Builtin.Str.occurrences x y 0 x.length (x.length+1)).isEmpty
  ·have es:Txt.split x y=Builtin.Str.partsBetween x (Builtin.Str.occurrences x y 0 x.length (x.length+1)) y.length:=(if_neg (ne_true_of_eq_false h1)).trans (if_neg (ne_true_of_eq_false hf))
   refine call_meets F.slot_str_split (typeIs_str _ _ _) F.entry_str_split (F.args_str_split_2 _ _) (meets_str_split_sep x y t u h1 hy hf (by lia) (by lia)) ?_
   refine q s.heap.objs.size _ (s.toks+(Builtin.Str.partsBetween x (Builtin.Str.occurrences x y 0 x.length (x.length+1)) y.length).length) (aL _) (λ_ _ e=>Heap.get?_push_of_some _ e) ?_
   rw [strsFrom_eq]
   exact key _ ((numbered_texts _ _).trans es.symm) (by rw [es];lia)
  ·have es:Txt.split x y=[x]:=(if_neg (ne_true_of_eq_false h1)).trans (if_pos hf)
   exact call_meets F.slot_str_split (typeIs_str _ _ _) F.entry_str_split (F.args_str_split_2 _ _) (meets_str_split_not_found x y t u h1 hy hf)
    (q s.heap.objs.size _ s.toks (aL _) (λ_ _ e=>Heap.get?_push_of_some _ e) (key [(x,t)] es.symm (by rw [es,List.length_singleton];lia)))
 ·have es:Txt.split x y=[x]:=if_pos h1
  exact call_meets F.slot_str_split (typeIs_str _ _ _) F.entry_str_split (F.args_str_split_2 _ _) (meets_str_split_cannot_occur x y t u h1)
   (q s.heap.objs.size _ s.toks (aL _) (λ_ _ e=>Heap.get?_push_of_some _ e) (key [(x,t)] es.symm (by rw [es,List.length_singleton];lia)))
noncomputable def uz(v:V)(x:Str):String:=V.casesOn v (if x="append" then "list.append" else if x="pop" then "list.pop" else "list.index") (λ_=>if x="append" then "list.append" else if x="pop" then "list.pop" else "list.index") (λ_=>if x="append" then "list.append" else if x="pop" then "list.pop" else "list.index") (λ_=>"str.split") (λ_=>if x="append" then "list.append" else if x="pop" then "list.pop" else "list.index") (λ_=>if x="append" then "list.append" else if x="pop" then "list.pop" else "list.index") (λ_=>if x="append" then "list.append" else if x="pop" then "list.pop" else "list.index") (λ_=>if x="append" then "list.append" else if x="pop" then "list.pop" else "list.index") (λ_=>if x="append" then "list.append" else if x="pop" then "list.pop" else "list.index") (if x="append" then "list.append" else if x="pop" then "list.pop" else "list.index") (if x="append" then "list.append" else if x="pop" then "list.pop" else "list.index")
theorem rM{x:Str}{o v:V}{I:List V}{ro:Value}{rs:List Value}(R:Rel W O Z s.heap)(vo:VR W s.heap O Z.n o ro)(vr:bq W s.heap O Z.n I rs)(X:Addr->Prop):
  oj x o I Z=some (v,J)->az W A X (call (.builtin (uz o x)) (ro::rs)) O Z s J (cJ W J v):=by
 revert vo
 induction o using V.casesOn with
 | ref k=>
  refine λvo e=>vo.iR λqk=>qL e λl e0 e=>?_
  show az W A X (call (.builtin (if x="append" then "list.append" else if x="pop" then "list.pop" else "list.index")) _) O Z s J (cJ W J v)
  have e:ip x k l I Z=some (v,J):=e
  unfold ip at e
  by_cases h1:x="append"
  ·rw [if_pos h1] at e⊢
   exact m1 (P:=λI=>bq W s.heap O Z.n I rs->_) e (λw e vr=>uI e λhz e=>vr.i1 λr p=>dq e (pH e0 qk hz R p X)) vr
  rw [if_neg h1] at e⊢
  by_cases h2:x="pop"
  ·rw [if_pos h2] at e⊢
   exact m0 (P:=λI=>bq W s.heap O Z.n I rs->_) e (λe vr=>uO e λw e1 e=>vr.i0 (dq e (yA e0 qk e1 R X))) vr
  rw [if_neg h2] at e⊢
  exact uI e λ_ e=>m1 (P:=λI=>bq W s.heap O Z.n I rs->_) e (λw e vr=>vS e λt et e=>uO e λts e1 e=>uO e λj e2 e=>vr.i1 λr p=>p.jS et λu=>dq e (rJ e0 qk e1 e2 R X)) vr
 | str y=>exact λvo e=>vo.iS λt=>uI e λ_ e=>m1 (P:=λI=>bq W s.heap O Z.n I rs->_) e (λw e vr=>vS e λz ez e=>uI e λhc e=>vr.i1 λr p=>p.jS ez λu=>dq e (rK hc.1 hc.2.1 hc.2.2 R X)) vr
 | _=>exact λ_=>nN
end
structure Jp (W:WC):Prop where
 nn:rC W
 len:W.gv "len"=some (.builtin "len")
 lst:W.gv "list"=some (.type "list")
 abs:W.gv "abs"=some (.builtin "abs")
 min:W.gv "min"=some (.builtin "min")
 max:W.gv "max"=some (.builtin "max")
 int:W.gv "int"=some (.type "int")
 F3:W.gv "isinstance"=some (.builtin "isinstance")
 repr:W.gv "repr"=some (.builtin "repr")
 sorted:W.gv "sorted"=some (.builtin "sorted")
 all:W.gv "all"=some (.builtin "all")
 bool:W.gv "bool"=some (.type "bool")
 str:W.gv "str"=some (.type "str")
 nul:∃c n,W.gv "Null"=some c/\W.gv "NULL"=some n/\∀(A:Around)(s:Shared)(Q:Value->Shared->Prop)(E:Value->Shared->Prop),(∀a o,W.aA.get? a=some o->s.heap.get? a=some o)->
  (∀T,T="int"\/T="bool"\/T="str"->(∀tk,Q (.bool false) {s with toks:=tk})->wpAny (model W.pg W.w) A (call (.builtin "isinstance") [n,.type T]) Q E s)/\
  ((∀tk,Q (.bool true) {s with toks:=tk})->wpAny (model W.pg W.w) A (call (.builtin "isinstance") [n,c]) Q E s)/\
  ∀v,(v=.none\/(∃b,v=.bool b)\/(∃i t,v=.int i t)\/∃x t,v=.str x t)->(∀tk,Q (.bool false) {s with toks:=tk})->wpAny (model W.pg W.w) A (call (.builtin "isinstance") [v,c]) Q E s
section
theorem iA{x:Str}{r v:Value}(e:VR W h O Z.n (.bo x) r)(e':W.gv x=some v):r=v:=Option.some.inj ((show W.gv x=some r from e).symm.trans e')
theorem az.Kj{X:Addr->Prop}{t:Sem Value}{b:Bool}(R:Rel W O Z s.heap)(x:∀(Q:Value->Shared->Prop)(E:Value->Shared->Prop),(∀tk,Q (.bool b) {s with toks:=tk})->wpAny (model W.pg W.w) A t Q E s):
  az W A X t O Z s Z (cJ W Z (.bool b)):=az.grow R λQ E q=>x Q E λtk=>q _ s.heap tk (λ_ _ e=>e) (VR.bool b)
noncomputable def Gi(W:WC)(A:Around)(s:Shared)(rx:Value)(c:Bool)(r:Value):Prop:=∀(Q:Value->Shared->Prop)(E:Value->Shared->Prop),(∀tk,Q (.bool c) {s with toks:=tk})->wpAny (model W.pg W.w) A (call (.builtin "isinstance") [r,rx]) Q E s
theorem hG{v:V}{r rx:Value}{c i b t n:Bool}(hi:∀y z,Gi W A s rx i (.int y z))(hb:∀y,Gi W A s rx b (.bool y))(ht:∀y z,Gi W A s rx t (.str y z))(hn:Gi W A s rx false .none)(hg:∀y,W.gv "NULL"=some y->Gi W A s rx n y)
  (xv:VR W s.heap O Z.n v r):JN v i b t n=some c->Gi W A s rx c r:=by
 revert xv
 induction v using V.casesOn with
 | none=>exact λxv e=>bG e (xv.iN hn)
 | bool y=>exact λxv e=>bG e (xv.iB (hb y))
 | int y=>exact λxv e=>bG e (xv.iI (hi y))
 | str y=>exact λxv e=>bG e (xv.iS (ht y))
 | bo y=>exact λxv e=>uI e λhy e=>bG e (hg _ (hy▸xv))
 | _=>exact λ_=>nN
theorem yB(B:Jp W){v:V}{x:Str}{b:Bool}{r rx:Value}(e:JO v x=some b)(R:Rel W O Z s.heap)(xv:VR W s.heap O Z.n v r)(xx:VR W s.heap O Z.n (.bo x) rx)(X:Addr->Prop):
  az W A X (call (.builtin "isinstance") [r,rx]) O Z s Z (cJ W Z (.bool b)):=
 lY B.nul λc nv n1 n2 n3=>az.Kj R<| by
  have nul:∀{T},(T="int"\/T="bool"\/T="str")->∀y,W.gv "NULL"=some y->Gi W A s (.type T) false y:=λhT y hy Q E q=>Option.some.inj (n2.symm.trans hy)▸(n3 A s Q E R.old).1 _ hT q
  exact uE e (λhx e=>iA (hx▸xx) B.int▸hG (λ_ _ Q E q=>IsiPair.int_int (q s.toks)) (λ_ Q E q=>IsiPair.bool_int (q s.toks)) (λ_ _ Q E q=>IsiPair.str_int (q _)) (λQ E q=>IsiPair.NoneType_int (q _)) (nul (.inl rfl)) xv e)
   λe=>uE e (λhx e=>iA (hx▸xx) B.bool▸hG (λ_ _ Q E q=>IsiPair.int_bool (q _)) (λ_ Q E q=>IsiPair.bool_bool (q s.toks)) (λ_ _ Q E q=>IsiPair.str_bool (q _)) (λQ E q=>IsiPair.NoneType_bool (q _)) (nul (.inr (.inl rfl))) xv e)
   λe=>uE e (λhx e=>iA (hx▸xx) B.str▸hG (λ_ _ Q E q=>IsiPair.int_str (q _)) (λ_ Q E q=>IsiPair.bool_str (q _)) (λ_ _ Q E q=>IsiPair.str_str (q s.toks)) (λQ E q=>IsiPair.NoneType_str (q _)) (nul (.inr (.inr rfl))) xv e)
   λe=>uI e λhx e=>iA (hx▸xx) n1▸hG (λ_ _ Q E q=>(n3 A s Q E R.old).2.2 _ (.inr (.inr (.inl ⟨_,_,rfl⟩))) q) (λ_ Q E q=>(n3 A s Q E R.old).2.2 _ (.inr (.inl ⟨_,rfl⟩)) q) (λ_ _ Q E q=>(n3 A s Q E R.old).2.2 _ (.inr (.inr (.inr ⟨_,_,rfl⟩))) q) (λQ E q=>(n3 A s Q E R.old).2.2 _ (.inl rfl) q)
    (λy hy Q E q=>Option.some.inj (n2.symm.trans hy)▸(n3 A s Q E R.old).2.1 q) xv e
theorem jV{x:Str}{b:BI}(e:uf x=some b):x=nameOf b:=by
 iterate 10 refine uE e (λh e=>bG e h) λe=>?_
 exact uI e λh e=>bG e h
section
variable{v:V}{I:List V}{rs:List Value}(R:Rel W O Z s.heap)(xs:bq W s.heap O Z.n I rs){d:Nat}(rm:bD A d)(X:Addr->Prop)
include R
theorem Gj{f:Value}{g:V->Mine.R}(k:∀w r,VR W s.heap O Z.n w r->g w=some (v,J)->az W A X (call f [r]) O Z s J (cJ W J v))(xs:bq W s.heap O Z.n I rs)(e:l1 I g=some (v,J)):az W A X (call f rs) O Z s J (cJ W J v):=
 m1 (P:=λI=>bq W s.heap O Z.n I rs->_) e (λw e xs=>xs.i1 λr p=>k w r p e) xs
theorem go2{f:Value}{g:V->V->Mine.R}(k:∀w u r t,VR W s.heap O Z.n w r->VR W s.heap O Z.n u t->g w u=some (v,J)->az W A X (call f [r,t]) O Z s J (cJ W J v))(xs:bq W s.heap O Z.n I rs)(e:l2 I g=some (v,J)):az W A X (call f rs) O Z s J (cJ W J v):=
 m2 (P:=λI=>bq W s.heap O Z.n I rs->_) e (λw u e xs=>xs.i2 λr t p q=>k w u r t p q e) xs
include xs
theorem uA:zU Z I=some (v,J)->az W A X (call (.builtin "len") rs) O Z s J (cJ W J v):=Gj R X (λw r p e=>uO e λn e1 e=>dq e (yt R p X e1)) xs
theorem rQ:zV Z I=some (v,J)->az W A X (call (.type "list") rs) O Z s J (cJ W J v):=Gj R X (λw r p e=>uR e λk ek e=>qL e λl e0 e=>p.jR ek λqk=>dq e (uu e0 qk R X)) xs
theorem uD:JQ Z I=some (v,J)->az W A X (call (.builtin "abs") rs) O Z s J (cJ W J v):=Gj R X (λw r p e=>vI e λi ei e=>p.jI ei λt=>dq e (yu R X)) xs
theorem uG:JT Z I=some (v,J)->az W A X (call (.type "int") rs) O Z s J (cJ W J v):=Gj R X (λw r p=>by
 revert p
 induction w using V.casesOn with
 | int i=>exact λp e=>p.iI λt=>dq e (yx R X)
 | str x=>exact λp e=>p.iS λt=>uO e λi e1 e=>dq e (nJ R X e1)
 | _=>exact λ_=>nN) xs
theorem uH(B:Jp W):JU Z I=some (v,J)->az W A X (call (.builtin "isinstance") rs) O Z s J (cJ W J v):=go2 R X (λw u r t p q e=>vG e λx ex e=>uO e λb e1 e=>dq e (yB B e1 R p (ex▸q) X)) xs
theorem nL:pd Z I=some (v,J)->az W A X (call (.builtin "sorted") rs) O Z s J (cJ W J v):=Gj R X (λw r p e=>uR e λk ek e=>qL e λl e0 e=>uO e λns e1 e=>uI e λhz e=>p.jR ek λqk=>dq e (pG e0 qk e1 hz R X)) xs
include rm
theorem uK:JR Z I=some (v,J)->az W A X (call (.builtin "min") rs) O Z s J (cJ W J v):=go2 R X (λw u r t p q e=>vI e λa ea e=>vI e λb eb e=>p.jI ea λt1=>q.jI eb λt2=>dq e (yv R X rm)) xs
theorem uL:JS Z I=some (v,J)->az W A X (call (.builtin "max") rs) O Z s J (cJ W J v):=go2 R X (λw u r t p q e=>vI e λa ea e=>vI e λb eb e=>p.jI ea λt1=>q.jI eb λt2=>dq e (yw R X rm)) xs
theorem rT:oi Z I=some (v,J)->az W A X (call (.builtin "repr") rs) O Z s J (cJ W J v):=Gj R X (λw r p e=>uO e λt e1 e=>dq e (ur e1 R p rm X)) xs
theorem uQ:zW Z I=some (v,J)->az W A X (call (.builtin "all") rs) O Z s J (cJ W J v):=Gj R X (λw r p e=>uR e λk ek e=>qL e λl e0 e=>uO e λbs e1 e=>p.jR ek λqk=>dq e (yz e0 qk e1 R rm X)) xs
end
theorem rU(B:Jp W){ak:Str->List V->St->R}{b:BI}(hb:b≠ .unit){x:Str}(ex:uf x=some b){v:V}{I:List V}{rf:Value}{rs:List Value}(R:Rel W O Z s.heap)(xf:VR W s.heap O Z.n (.bo x) rf)(xs:bq W s.heap O Z.n I rs)
  {d:Nat} (rm:bD A d) (X:Addr->Prop):gI ak b I Z=some (v,J)->az W A X (call rf rs) O Z s J (cJ W J v):=by
 have go:∀{f:Value},W.gv (nameOf b)=some f->az W A X (call f rs) O Z s J (cJ W J v)->az W A X (call rf rs) O Z s J (cJ W J v):=λg k=>iA (jV ex▸xf) g▸k
 revert go hb
 induction b using BI.casesOn with
 | len=>exact λ_ go e=>go B.len (uA R xs X e)
 | list=>exact λ_ go e=>go B.lst (rQ R xs X e)
 | abs=>exact λ_ go e=>go B.abs (uD R xs X e)
 | min=>exact λ_ go e=>go B.min (uK R xs rm X e)
 | max=>exact λ_ go e=>go B.max (uL R xs rm X e)
 | int=>exact λ_ go e=>go B.int (uG R xs X e)
 | F3=>exact λ_ go e=>go B.F3 (uH R xs X B e)
 | repr=>exact λ_ go e=>go B.repr (rT R xs rm X e)
 | sorted=>exact λ_ go e=>go B.sorted (nL R xs X e)
 | all=>exact λ_ go e=>go B.all (uQ R xs rm X e)
 | unit=>exact λhb=>absurd rfl hb
end
structure Oe (W:WC) (aj:Str->V) (ga ba:Addr):Prop where
 ns:∃mg mb,W.aA.Ns ga mg/\W.aA.Ns ba mb/\∀x,aj x≠ .qW->∃r,(mg x=some r\/(mg x=none/\mb x=some r))/\VR W W.aA (λ_=>(0,0)) 0 (aj x) r
section
theorem VR.Gk{v:V}{r:Value}(x:VR W W.aA (λ_=>(0,0)) 0 v r)(R:Rel W O Z h):VR W h O Z.n v r:=
 x.mono (λa rs e q=>R.old _ _ q) (λk q=>absurd q (Nat.not_lt_zero _)) (Nat.zero_le _)
theorem jc{u v:V}:kg u=some v->u≠ .qW/\u=v:=by
 induction u using V.casesOn<;>first | exact nN | exact λe=>⟨(λz=>V.noConfusion z),Option.some.inj e⟩
theorem fk(g:Oe W aj ga ba){m:Ms}{x:Str}{v:V}(e:kh aj m x=some v)(F:FR W ga ba env (aI m) O Z.n s.heap)(R:Rel W O Z s.heap)(X:Addr->Prop)(pos:Pos):
  az W A X (eval (.Name x pos) env) O Z s Z (cJ W Z v):=uJ e λuw e=>uO e λu e1 e=>aO F.ns λmL hn hv=>by
 have hd:(x==("__debug__":Str))=false:=beq_eq_false_iff_ne.mpr uw
 refine (hv x u uw e1).elim (λz=>?_) λz=>?_
 ·rw [z.1] at e
  have w:=jc e
  refine lY g.ns λmg mb h1 h2 h3=>(h3 x w.1).elim λr h4=>az.tok R r s.toks (λQ E q=>Name_function_global F.kind z.2 (h4.1.elim (λh=>loadGlobal_global (F.ga▸h1.keeps R.old) h q) λh=>loadGlobal_builtin (F.ga▸h1.keeps R.old) h.1 (F.ba▸h2.keeps R.old) h.2 q) hd) ((w.2▸h4.2:VR W W.aA (λ_=>(0,0)) 0 v r).Gk R)
 ·rw [z.1] at e
  refine aO z.2 λy p k=>aO (k v e) λr ey xv=>?_
  subst ey
  exact p.elim (λp=>az.tok R r s.toks (λQ E q=>wpAny_Name (wpAny_loadName_local F.kind p.1 hn p.2.symm q) hd) xv) λp=>aO p.2 λc l i=>az.tok R r s.toks (λQ E q=>wpAny_Name (wpAny_loadName_cell F.kind p.1 l i q) hd) xv
@[elab_as_elim] theorem iE{m m':Ms}{x:Str}{v:V}{P:Ms->Prop}(e:setName m x v=some m')(k:∀u,x≠br->aI m x=some u->eJ u=false->P (bA m x v)):P m':=
 uJ e λhx e=>uO e λu e1 e=>uX e λg e=>bG e (k u hx e1 g)
theorem kl{m:Ms}{x:Str}{v:V}{r:Value}{Y:Addr->Prop}{b:Addr}{mL C4:Str->Option Value}(hb:Y b)(hY:∀a,Y a->FR.X env a)(hx:x≠br)(hg:eJ v=false)(F:FR W ga ba env (aI m) O Z.n h)(R:Rel W O Z h)(xv:VR W h O Z.n v r)
  (hv:∀x v,x≠br->aI m x=some v->NV W env O Z.n h x v (mL x)) (hs:Heap.SameBut b h G) (tt:TT G b) (hn:G.Ns env.locals C4) (hL:∀y,y≠x->C4 y=mL y) (hp:PV env G x (C4 x) (some r)) (hc:∀y c,y≠x->env.cells.lookup y=some c->c≠b):
  Rel W O Z G/\Step Y O O Z.n Z.n h G/\FR W ga ba env (aI (bA m x v)) O Z.n G:=by
 have z:=R.but Y (G:=G) (λa o na ea=>hs.extBut a o (λw=>na (w▸hb)) ea) (λa ya=>have o:=F.own a (hY a ya);⟨o.1,o.2.1⟩) (λa rs e ya=>(F.own a (hY a ya)).2.2.2 rs e) λa o _ ea=>by
  by_cases w:a=b
  ·exact w▸tt.1
  ·exact ⟨o,hs.extBut a o w ea⟩
 have up:∀{v r},VR W h O Z.n v r->VR W G O Z.n v r:=λx=>x.step R z.2 λa rs e ya=>(F.own a (hY a ya)).2.2.2 rs e
 exact ⟨z.1,z.2,F.set hx up hv hn hL (λy c o q l i=>wq i λo=>hs.extBut _ o (hc y c q l)) (.inr ⟨hg,_,hp,λw e=>⟨r,rfl,up ((jc e).2▸xv)⟩⟩) λy c l=>by
  by_cases w:c=b
  ·exact w▸tt
  ·exact (F.own c (.inr ⟨y,l⟩)).2.2.to λo=>hs.extBut _ o w⟩
theorem VR.jf{v:V}{r:Value}{n:Nat}:VR W h O n v r->eJ v=false:=by induction v using V.casesOn<;>first | exact λ_=>rfl | exact False.elim
theorem gO{m m':Ms}{x:Str}{v:V}{r:Value}{Y:Addr->Prop}(hb:Y env.locals)(hY:∀a,Y a->FR.X env a)(e:setName m x v=some m')(b:env.kindOf x=some .local)(F:FR W ga ba env (aI m) O Z.n s.heap)(R:Rel W O Z s.heap)(xv:VR W s.heap O Z.n v r):
  az W A Y (storeName env x r) O Z s Z (λaN G _=>FR W ga ba env (aI m') aN Z.n G):=iE e λu hx e1 hu Q E q=>aO F.ns λmL hn Nf=>
 wpAny_storeName_local b hn (λG Ru hs=>ja (kl hb hY hx xv.jf F R xv Nf hs (Ns.tt Ru) Ru (λy q=>if_neg q) (.inl ⟨b,(if_pos rfl).symm⟩) λy c _ l=>F.apart.1 y c l) (q () O G (s.toks+1))) (by rw [F.kind];rfl)
theorem dJ{m m':Ms}{x:Str}{v:V}{r:Value}(e:setName m x v=some m')(F:FR W ga ba env (aI m) O Z.n s.heap)(R:Rel W O Z s.heap)(xv:VR W s.heap O Z.n v r):
  az W A (FR.X env) (storeName env x r) O Z s Z (λaN G _=>FR W ga ba env (aI m') aN Z.n G):=by
 have loc:=λb=>gO (A:=A) (Y:=FR.X env) (.inl rfl) (λ_ z=>z) e b F R xv
 revert loc
 exact iE e λu hx e1 hu loc=>aO F.ns λmL hn Nf=>(Nf x u hx e1).elim (λz=>bF (hu.symm.trans z.1)) λz=>z.2.elim λy w=>w.1.elim (λp=>loc p.1) λp=>aO p.2 λc l i Q E q=>
  wpAny_storeName_cell F.kind p.1 l i λG zM hs=>ja (kl (.inr ⟨x,l⟩) (λ_ z=>z) hx xv.jf F R xv Nf hs (aO zM λo ho hd=>⟨⟨o,ho⟩,λrs e w=>nomatch (congrArg Obj.data (Option.some.inj (ho.symm.trans w))).symm.trans hd⟩) (hn.sameBut hs (F.apart.1 x c l).symm) (λ_ _=>rfl) (.inr ⟨p.1,c,l,zM⟩) λy c' q l' w=>q (F.apart.2 y x c' l' (w▸l))) (q () O G s.toks)
end
noncomputable def eU(W:WC){β:Type}(T:(β->Shared->Prop)->(Value->Shared->Prop)->Prop)(X:Addr->Prop)(O:Mu)(Z:St)(s:Shared)(J:St)(K:Mu->Heap->β->Prop):Prop:=
 ∀(Q:β->Shared->Prop)(E:Value->Shared->Prop),(∀b aN G tk,Rel W aN J G->Step X O aN Z.n J.n s.heap G->K aN G b->Q b {s with heap:=G,toks:=tk})->T Q E
theorem az.S9{W:WC}{A:Around}{X:Addr->Prop}{α:Type}{t:Sem α}{O:Mu}{Z:St}{s:Shared}{J:St}{K:Mu->Heap->α->Prop}(d:az W A X t O Z s J K):eU W (λQ E=>wpAny (model W.pg W.w) A t Q E s) X O Z s J K:=d
theorem eU.Rv{W:WC}{A:Around}{X:Addr->Prop}{α:Type}{t:Sem α}{O:Mu}{Z:St}{s:Shared}{J:St}{K:Mu->Heap->α->Prop}(d:eU W (λQ E=>wpAny (model W.pg W.w) A t Q E s) X O Z s J K):az W A X t O Z s J K:=d
theorem eU.seq{W:WC}{A:Around}{X:Addr->Prop}{α β:Type}{t:Sem α}{T:α->Shared->(β->Shared->Prop)->(Value->Shared->Prop)->Prop}{O:Mu}{Z ao aF:St}{s:Shared}{aJ:Mu->Heap->α->Prop}{cq:Mu->Heap->β->Prop}
  (d:az W A X t O Z s ao aJ)
  (k:∀a aE (s₁:Shared),Rel W aE ao s₁.heap->Step X O aE Z.n ao.n s.heap s₁.heap->aJ aE s₁.heap a->eU W (T a s₁) X aE ao s₁ aF cq):
  eU W (λQ E=>wpAny (model W.pg W.w) A t (λa s₁=>T a s₁ Q E) E s) X O Z s aF cq:=λQ E q=>
 d _ E λa aE aA tk R S z=>k a aE {s with heap:=aA,toks:=tk} R S z Q E λb aX aZ aS aY aV Of=>q b aX aZ aS aY (S.trans aV) Of
theorem eU.ret{W:WC}{X:Addr->Prop}{β:Type}{O:Mu}{Z:St}{s:Shared}{K:Mu->Heap->β->Prop}(b:β)(R:Rel W O Z s.heap)(k:K O s.heap b):eU W (λQ _=>Q b s) X O Z s Z K:=
 λQ E q=>q b O s.heap s.toks R (Step.refl _ _ _ _) k
theorem eU.by{W:WC}{β:Type}{T T':(β->Shared->Prop)->(Value->Shared->Prop)->Prop}{X:Addr->Prop}{O:Mu}{Z:St}{s:Shared}{J:St}{K:Mu->Heap->β->Prop}(d:eU W T X O Z s J K)(r:∀Q E,T Q E->T' Q E):eU W T' X O Z s J K:=
 λQ E q=>r Q E (d Q E q)
section
noncomputable def wy(W:WC)(bM:Heap)(O:Mu)(n:Nat)(h:Heap)(s:Src)(r:Value):Prop:=Src.casesOn s (λk=>VR W h O n (.ref k) r) (λl=>VR W h O n (.tup l) r)
 (λa b=>(∃p t u v,r=.ref p/\IsRange h p a b 1 t u v)/\b-a<=4096/\a.natAbs<2^60/\b.natAbs<2^60)
 (λk=>k<n/\∃e it,r=.ref e/\e≠it/\IsEnum h e it 0 .none/\h.IsListIter it (O k).1 0/\(aU O n e/\aU O n it)/\(W.aA.get? e=none/\W.aA.get? it=none)/\bM.get? e=none/\bM.get? it=none)
structure iV (W:WC) (ga ba:Addr) (D:Nat) (X:Expr->Ms->St->RX) (T:Expr->Ms->St->Option (Bool×St)):Prop where
 val:∀{e:Expr}{m:Ms}{Z J:St}{v:V}{A:Around}{env:Env}{O:Mu}{s:Shared},X e m Z=some (.val v,J)->bD A D->FR W ga ba env (aI m) O Z.n s.heap->Rel W O Z s.heap->az W A bQ (eval e env) O Z s J (cJ W J v)
 src:∀{e:Expr}{m:Ms}{Z J:St}{sr:Src}{A:Around}{env:Env}{O:Mu}{s:Shared},X e m Z=some (.src sr,J)->bD A D->FR W ga ba env (aI m) O Z.n s.heap->Rel W O Z s.heap->az W A bQ (eval e env) O Z s J (λaN G r=>wy W s.heap aN J.n G sr r)
 Gl:∀{e:Expr}{m:Ms}{Z J:St}{b:Bool}{A:Around}{env:Env}{O:Mu}{s:Shared},T e m Z=some (b,J)->bD A D->FR W ga ba env (aI m) O Z.n s.heap->Rel W O Z s.heap->az W A bQ (isTrue e env (eval e env)) O Z s J (λ_ _ r=>r=b)
 EX:∀{es:List Expr}{k:Nat}{p:Pos}{m:Ms}{Z:St},X (.Set es k p) m Z=none
 noStar:∀{e:Expr}{p:Pos}{m:Ms}{Z:St},X (.Starred e p) m Z=none
theorem Ng{x:R}{r:Rs}(e:ye x=some (r,Z)):∃v,r=.val v/\x=some (v,Z):=JZ e λv e=>⟨v,rfl,e⟩
@[elab_as_elim] theorem dG{v:V}{r:Rs}{P:Rs->St->Prop}(e:val v Z=some (r,J))(k:P (.val v) Z):P r J:=dq e k
noncomputable abbrev dP{h:Heap}:∀(a:Addr)(rs:List Value)(e:Nat),bQ a->h.get? a≠some (bL rs e):=λ_ _ _ q=>q.elim
theorem bD.in1{d:Nat}(x:bD A (d+1)):bD A.in1 d:=⟨x.handled,x.guards,Nat.lt_of_le_of_lt (Nat.add_le_add_right (Nat.add_le_add_left (Nat.mul_le_mul_left 8 (Nat.le_succ d)) _) _) x.depth,Nat.lt_of_le_of_lt (by show A.units+1+40*d+80<=A.units+40*(d+1)+80;omega) x.units⟩
theorem gP(ah:iV W ga ba D X T){r:Rs×St}{e:Expr}(es:List Expr):X e m Z=some r->starEach (e::es) env=(false,eval e env)::starEach es env:=by
 induction e using Expr.casesOn with
 | Starred _ _=>exact λe=>nN (ah.noStar.symm.trans e)
 | _=>exact λ_=>rfl
theorem fH(ah:iV W ga ba D X T){pos:Pos}{A:Around}{env:Env}(rm:bD A D){m:Ms}{es:List Expr}:∀{Z J:St}{I:List V}{O:Mu}{s:Shared},om X m es Z=some (I,J)->FR W ga ba env (aI m) O Z.n s.heap->Rel W O Z s.heap->
  az W A bQ (spliced (backTo pos (starEach es env))) O Z s J (λaN G rs=>bq W G aN J.n I rs):=by
 induction es with
 | nil=>exact λ{Z J I O s} e F R=>dq e λQ E q=>wpAny_items_nil (q [] O s.heap s.toks R (Step.refl _ _ _ _) .nil)
 | cons e es ih=>
  exact λ{Z J I O s} he F R=>uV he λv ao e1 he=>uP he λJn aF e2 he=>dq he (eU.by (eU.seq (ah.val e1 rm F R) λr aE s₁ aK aH aJ=>eU.by (eU.seq (T:=λrs ie Q _=>Q (r::rs) ie) (ih e2 (F.step R aH) aK) λrs aX ie aY aV cq=>eU.ret _ aY (.cons (aJ.step aK aV dP) cq)) λQ E z=>z)
   λQ E z=>wpAny_items_cons z (gP ah es e1))
theorem Gm{m:Ms}{es:List Expr}:∀{Z J:St}{I:List V},om X m es Z=some (I,J)->I.length=es.length:=by
 induction es with
 | nil=>exact λe=>dq e rfl
 | cons e es ih=>exact λhe=>uV he λ_ _ _ he=>uP he λ_ _ e2 he=>dq he (congrArg (·+1) (ih e2))
theorem lg(ah:iV W ga ba D X T){pos:Pos}{env:Env}{m:Ms}{es:List Expr}:∀{Z J:St}{I:List V},om X m es Z=some (I,J)->(backTo pos (starEach es env)).any (·.1)=false/\(backTo pos (starEach es env)).all (λx=> !x.1)=true:=by
 induction es with
 | nil=>exact λ_=>⟨rfl,rfl⟩
 | cons e es ih=>
  exact λhe=>uV he λv ao e1 he=>uP he λJn aF e2 he=>gP (env:=env) ah es e1▸⟨congrArg (false || ·) (ih e2).1,congrArg (true&&·) (ih e2).2⟩
theorem ee{M:Model}{E:Value->Shared->Prop}{f:Value}{args:List (Bool×Sem Value)}{Q:Args->Shared->Prop}(Av:args.any (·.1)=false)(h:wpAny M A (spliced args) (λI s'=>Q ⟨I,[]⟩ s') E s):wpAny M A (evalArgs f true args []) Q E s:=by
 induction args using List.casesOn with
 | nil=>
  unfold evalArgs
  show wpAny M A (spliced []>>=_) Q E s
  refine wpAny_bind (wpAny_mono h (λI s' G=>?_) λ_ _ x=>x)
  refine wpAny_bind (wpAny_pure ?_)
  refine wpAny_holding ?_
  exact wpAny_bind (wpAny_pure (wpAny_bind (wpAny_pure (wpAny_pure G))))
 | cons x rest=>
  obtain ⟨st,t⟩:=x
  have:st=false:=by
   rw [List.any_cons] at Av
   cases st
   ·rfl
   ·cases Av
  subst this
  exact evalArgs_plain h
end
structure CF (W:WC):Prop where
 obj:∃nm q N bs sn sub ab col dd k0 k1 k2 k3 k5 newId mN,W.aA.get? W.ak=some (excClassObj nm q W.ak N bs [.type "object"] true sn sub ab col dd k0 k1 k2 k3 k5 newId)/\W.aA.Ns N mN/\
  mN "__getattribute__"=none/\mN "__setattr__"=none/\∀x,x∈bY->mN x=none
theorem me:∀x,x∈bY->typeLookup (.type "object") x=pure none:=λx hx=>by
 have h:(bY.all λx=>(fastLookup "object" x).any λr=>r.isNone)=true:=by decide+kernel
 have Ta:=List.all_eq_true.mp h x hx
 rw [typeLookup_type,builtinLookup_eq_fast]
 revert Ta
 induction fastLookup "object" x using Option.casesOn with
 | none=>exact bF
 | some r=>induction r using Option.casesOn<;>first | exact bF | exact λ_=>rfl
section
noncomputable def EY(v:V):Bool:=V.casesOn v false (λ_=>false) (λ_=>false) (λ_=>false) (λ_=>false) (λ_=>false) (λ_=>false) (λ_=>true) (λ_=>false) false false
theorem pI{v:V}{r:Value}:VR W h O Z.n v r->EY v=false->handedOut r=pure r:=by
 induction v using V.casesOn with
 | none=>exact λx _=>x.iN rfl
 | bool _=>exact λx _=>x.iB rfl
 | int _=>exact λx _=>x.iI λ_=>rfl
 | str _=>exact λx _=>x.iS λ_=>rfl
 | tup _=>exact λx _=>x.iT λ_ _ _ _ _=>rfl
 | cl _=>exact λx _=>x.iC λ_ _ _ _ _=>rfl
 | cd _=>exact λx _=>x.iD λ_ _ _ _ _=>rfl
 | bo _=>exact λ_=>λe=>nomatch e
 | ref _=>exact λx _=>x.iR λ_=>rfl
 | _=>exact False.elim
theorem Ax{u v:V}:EN u=some v->EY v=false/\u=v:=by induction u using V.casesOn<;>first | exact nN | exact λe=>bG e ⟨rfl,rfl⟩
theorem CF.on(cf:CF W){P:Prop}(k:∀{nm q N bs sn sub ab col dd k0 k1 k2 k3 k5 newId mN},W.aA.get? W.ak=some (excClassObj nm q W.ak N bs [.type "object"] true sn sub ab col dd k0 k1 k2 k3 k5 newId)->W.aA.Ns N mN->mN "__getattribute__"=none->mN "__setattr__"=none->(∀x,x∈bY->mN x=none)->P):P:=
 Ah cf.obj λ_ _ _ _ _ _ _ _ _ _ _ _ z=>z.elim λ_ z=>z.elim λ_ z=>z.elim λ_ z=>z.elim λ_ z=>k z.1 z.2.1 z.2.2.1 z.2.2.2.1 z.2.2.2.2
theorem uS(cf:CF W){o v:V}{x:Str}{ro:Value}(e:wh Z o x=some v)(R:Rel W O Z s.heap)(vo:VR W s.heap O Z.n o ro)(X:Addr->Prop):az W A X (getAttr ro x true) O Z s Z (cJ W Z v):=
 uR e λk ek e=>qI e λl e0 e=>uI e λhc e=>uO e λu e1 e=>vo.jR ek λqk=>cf.on λc1 c2 c3 c4 c5=>have z:=Ao R qk e0;Af z.2 λo mA h1 h2 h3 h4 h5 h7 h8=>by
  have hx:x∈bY:=List.contains_iff_mem.mp hc
  have n:=Ax e
  exact aO ((h8 x).1 v (n.2▸e1)) λr h9 Rw=>az.tok R r (s.toks+1) (λQ E q=>PySem.load_attr (R.old _ _ c1) (c2.keeps R.old) c3 (c5 x hx) (me x hx) ⟨o,h1,h2,h3,.inr ⟨_,h4,z.1,h5⟩⟩ h9 (pI Rw n.1) q) Rw
theorem Ay{α:Type}[DecidableEq α]{y:α}{u:V}(l:List (α×V)):aI l y=some u->y∈l.map (·.1):=by
 induction l with
 | nil=>exact nN
 | cons p l ih=>exact dv (c:=y=p.1) (P:=λz=>z=some u->y∈(p::l).map (·.1)) (λe _=>e▸ .head _) λ_ e=>.tail _ (ih e)
theorem fE(cf:CF W){o v:V}{x:Str}{ro r:Value}(e:gJ Z o x v=some J)(R:Rel W O Z s.heap)(vo:VR W s.heap O Z.n o ro)(xv:VR W s.heap O Z.n v r)(X:Addr->Prop):az W A X (setAttr ro x r) O Z s J (λ_ _ _=>True):=
 uR e λk ek e=>qI e λl e0 e=>uI e λhc e=>bG e (vo.jR ek λqk=>cf.on λc1 c2 c3 c4 c5=>have z:=Ao R qk e0;Af z.2 λo mA h1 h2 h3 h4 h5 h7 h8=>by
  have hx:x∈bY:=List.contains_iff_mem.mp hc.2
  have ag:s.heap.Inst (O k).1 W.ak mA:=⟨o,h1,h2,h3,.inr ⟨_,h4,z.1,h5⟩⟩
  have Tb:(O k).1≠W.ak:=λw=>nN ((R.own k qk).1.symm.trans (w▸c1))
  have hw:Within mA (l.map (·.1)):=λy hy=>by
   cases e1:aI l y with
   | none=>exact absurd ((h8 y).2 e1) hy
   | some u=>exact Ay l e1
  have sz:(l.map (·.1)).length<=64:=by rw [List.length_map];exact Nat.le_of_lt hc.1
  refine λQ E q=>PySem.store_attr PySem.F.store_object (R.old _ _ c1) (c2.keeps R.old) c4 (c5 x hx) (me x hx) Tb ag (λG Tc I' hk Kk=>?_) hw (Nat.le_trans sz (by decide:64<=sizeLine))
  have Kl:∀a o,a≠(O k).1->a≠(O k).2->s.heap.get? a=some o->G.get? a=some o:=λa o' n1 n2 ea=>hk a o' n1 (λTd dx e1 e2=>bG (P:=λo=>o.dict=some dx->a≠dx) (h1.symm.trans e1) (λe2=>bG (P:=λd=>a≠d) (h4.symm.trans e2) n2) e2) ea
  have tk:∀a rs e,s.heap.get? a=some (bL rs e)->G.get? a=some (bL rs e):=λa rs e z=>Kl a _ ((R.df z k qk).1) ((R.df z k qk).2) z
  have up:∀{v r},VR W s.heap O Z.n v r->VR W G O Z.n v r:=.mono tk (λ_ _=>rfl) (Nat.le_refl _)
  have y:=R.put (o:=.ins (bA l x v)) (G:=G) qk Kl (N0 (Kk o h1) λo1 g1 g2 g3 g4 g5=>Ab I' λo2 i1 i2 i3 i4=>by
   have eo:=Option.some.inj (g1.symm.trans i1)
   have gd:=g5 _ h4
   have Av:G.Ns1 (O k).2 (λy=>if y=x then some r else mA y):=i4.elim (λi4=>nN (i4.1.symm.trans (eo▸gd))) λi4=>bJ i4 λd2 j1 j2 j3=>Option.some.inj ((eo▸gd).symm.trans j1)▸j3
   refine ⟨z.1,o1,_,g1,eo▸i2,eo▸i3,gd,Av,Nat.le_trans (fj l x v) hc.1,λy=>?_⟩
   rw [cT]
   by_cases q2:y=x
   ·rw [if_pos q2,if_pos q2];exact .some (up xv)
   ·rw [if_neg q2,if_neg q2];exact (h8 y).to up)
  exact q () O G Tc y.1 (y.2.widen λ_ f=>f.elim) trivial)
end
section
theorem uU{E:Value->Shared->Prop}{prog:Program}{w:World}{l:Addr}{items:List Value}{n:Nat}{k:Int}{t:Tok}{v:Value}{Q:Unit->Shared->Prop}(hl:s.heap.get? l=some (fC items n))(h0:0<=k)(Og:k<2^63)(hn:k<items.length)
  (hQ:Q () {s with heap:=s.heap.update l (Obj.mapSeq (·.setIfInBounds k.toNat v))}):wpAny (model prog w) A (setItem (.ref l) (.int k t) v) Q E s:=by
 have hT:s.TypeIs (.ref l) "list":=⟨_,hl,rfl⟩
 unfold setItem
 refine wpAny_holding ?_
 refine wpAny_bind (wpAny_sequenceKey hT (by decide) ?_)
 refine wpAny_bind (wpAny_callSpecial?_slot (name:=Str.ofString "__setitem__") hT PySem.slot_list_setitem (wpAny_call_entry PySem.slot_list_setitem hT PySem.entry_list_setitem ?_ (PySem.args_list_setitem _ _ _)))
 show wpAny _ _ (Builtin.List.listSubscript? (.int k t)>>=_) _ _ s
 refine wpAny_bind (wpAny_listSubscript_int (fitsIndex_of h0 Og) ?_)
 obtain ⟨j,rfl⟩:=Int.eq_ofNat_of_zero_le h0
 have hj:j<items.toArray.size:=Int.ofNat_lt.mp hn
 have hx:items.toArray[j]?=some items.toArray[j]:=Array.getElem?_eq_getElem hj
 show wpAny _ _ ((seqItemAt l j>>=λr=>pure (r.map (j,·)))>>=_) _ _ s
 refine wpAny_bind (wpAny_bind (wpAny_seqItemAt hl rfl (wpAny_pure ?_)))
 rw [hx]
 show wpAny _ _ (setSeqItemAt l j v>>=_) _ _ s
 refine wpAny_bind (wpAny_setSeqItemAt hl rfl ?_)
 first
  | exact wpAny_bind (wpAny_pure (wpAny_pure ⟨.none,rfl,wpAny_pure hQ⟩))
  | exact wpAny_pure ⟨.none,rfl,wpAny_pure hQ⟩
theorem rV{k:Nat}{l:List V}{i:Int}{v:V}{r:Value}{t:Tok}(qk:k<Z.n)(e0:Z.f k=.lst l)(hz:0<=i/\i<l.length)(R:Rel W O Z s.heap)(xv:VR W s.heap O Z.n v r)(X:Addr->Prop):
  az W A X (setItem (.ref (O k).1) (.int i t) r) O Z s (Z.put k (.lst (l.set i.toNat v))) (λ_ _ _=>True):=λQ E q=>have z:=bP R qk e0;bV z.2.2 λrs ep h3 h4=>
 have y:=R.jb (g:=λxs=>xs.setIfInBounds i.toNat r) (wu:=rs.set i.toNat r) (I:=l.set i.toNat v) qk z.1 h3 (List.setIfInBounds_toArray ..) (by rw [List.length_set];exact z.2.1) (bq.set _ h4 xv)
 uU h3 hz.1 (by have:=z.2.1;have:=hz.2;have:aq+aq=2097152:=rfl;lia) (h4.length.symm▸hz.2) (q () O _ s.toks y.1 (y.2.1.widen λ_ f=>f.elim) trivial)
theorem rW{k:Nat}{l:List (Int×V)}{i:Int}{v:V}{r:Value}{t:Tok}(qk:k<Z.n)(e0:Z.f k=.bO l)(hz:l.length<4096)(R:Rel W O Z s.heap)(xv:VR W s.heap O Z.n v r)(X:Addr->Prop):
  az W A X (setItem (.ref (O k).1) (.int i t) r) O Z s (Z.put k (.bO (bA l i v))) (λ_ _ _=>True):=λQ E q=>have z:=Gb R qk e0;aO z.2.2.2 λbH h4 h5=>
 wpAny_setItem_pairs (intKind_is _ _ i t) h4 (λG hd hs=>
  have Kl:∀a o,a≠(O k).1->a≠(O k).2->s.heap.get? a=some o->G.get? a=some o:=λa o' n1 n2 ea=>hs.extBut a o' n1 ea
  have tk:∀a rs e,s.heap.get? a=some (bL rs e)->G.get? a=some (bL rs e):=λa rs e z=>Kl a _ ((R.df z k qk).1) ((R.df z k qk).2) z
  have nd:(bH.map (·.1)).Nodup:=h4.elim λ_ x=>x.elim λ_ x=>x.elim λ_ x=>x.2.2.2.2.2
  have y:=R.put (o:=.bO (bA l i v)) (G:=G) qk Kl ⟨z.1,z.2.1,Nat.le_trans (fj l i v) hz,_,hd,(h5.set xv nd).mono tk (λ_ _=>rfl) (Nat.le_refl _)⟩
  q () O G (s.toks+1) y.1 (y.2.widen λ_ f=>f.elim) trivial) (Nat.le_trans (Nat.le_of_lt (h5.length.symm▸hz:bH.length<4096)) (by decide:4096<=sizeLine))
theorem nM{o i v:V}{ro ri r:Value}(e:lQ Z o i v=some J)(R:Rel W O Z s.heap)(vo:VR W s.heap O Z.n o ro)(vi:VR W s.heap O Z.n i ri)(xv:VR W s.heap O Z.n v r)(X:Addr->Prop):
  az W A X (setItem ro ri r) O Z s J (λ_ _ _=>True):=uR e λk ek e=>vI e λi ei e=>vo.jR ek λqk=>vi.jI ei λt=>by
 have key:∀o,Z.f k=o->lO Z k i v o=some J->az W A X (setItem (.ref (O k).1) (.int i t) r) O Z s J (λ_ _ _=>True):=λo=>by
  induction o using af.casesOn with
  | bO l=>exact λe0 e=>uI e λhz e=>bG e (rW qk e0 hz R xv X)
  | lst l=>exact λe0 e=>uI e λhz e=>bG e (rV qk e0 hz R xv X)
  | _=>exact λ_=>nN
 exact key _ rfl e
noncomputable def pairTrees(pos:Pos)(env:Env)(ks:List (Option Expr)):List Expr->List (Sem Value×Sem Value):=List.rec (λ_=>[])
 (λk _ r I=>Option.casesOn k [] λk=>List.casesOn I [] λv I=>(eval k env,do let x<-eval v env;standAt pos;pure x)::r I) ks
@[elab_as_elim] theorem jg{k:Option Expr}{ks:List (Option Expr)}{I:List Expr}{m:Ms}{r:List V×List V}{P:Option Expr->List Expr->List V×List V->Prop}(e:yg X m (k::ks) I Z=some (r,J))
  (q:∀k v I kv ao vv aF p,X k m Z=some (.val kv,ao)->X v m ao=some (.val vv,aF)->yg X m ks I aF=some (p,J)->P (some k) (v::I) (kv::p.1,vv::p.2)):P k I r:=by
 refine kO (P:=λk=>P k I r) e λk e=>?_
 revert e
 induction I using List.casesOn with
 | nil=>exact nN
 | cons v I=>exact λe=>uV e λkv ao e1 e=>uV e λvv aF e2 e=>uP e λp aT e3 e=>have h:=Prod.mk.inj (Option.some.inj e);h.1▸q k v I kv ao vv aF p e1 e2 (h.2▸e3)
@[elab_as_elim] theorem lx{I:List Expr}{m:Ms}{r:List V×List V}{P:List Expr->List V×List V->St->Prop}(e:yg X m [] I Z=some (r,J))(q:P [] ([],[]) Z):P I r J:=m0 (P:=λI=>P I r J) e λe=>dq e q
theorem yC(pos:Pos)(env:Env){m:Ms}{ks:List (Option Expr)}:∀{I:List Expr}{Z J:St}{r:List V×List V},yg X m ks I Z=some (r,J)->
  (evalEachOpt ks env).zip ((evalEach I env).map λv=>do let x<-v;standAt pos;pure x)=(pairTrees pos env ks I).map λp=>(some p.1,p.2):=by
 induction ks with
 | nil=>exact λe=>lx (P:=λI _ _=>(evalEachOpt [] env).zip ((evalEach I env).map λv=>do let x<-v;standAt pos;pure x)=(pairTrees pos env [] I).map λp=>(some p.1,p.2)) e rfl
 | cons k ks ih=>
  exact λe=>jg (P:=λk I _=>(evalEachOpt (k::ks) env).zip ((evalEach I env).map λv=>do let x<-v;standAt pos;pure x)=(pairTrees pos env (k::ks) I).map λp=>(some p.1,p.2)) e λk v I kv ao vv aF p _ _ e3=>congrArg (_::·) (ih e3)
noncomputable def wz(W:WC)(h:Heap)(O:Mu)(n:Nat)(ks:List V):List V->List (Value×Value)->Prop:=List.rec (λI l=>I=[]/\l=[]) (λk _ q I l=>∃v t a b r,I=v::t/\l=(a,b)::r/\VR W h O n k a/\VR W h O n v b/\q t r) ks
theorem wz.nil{n:Nat}:wz W h O n [] [] []:=⟨rfl,rfl⟩
theorem wz.cons{n:Nat}{k v:V}{a b:Value}{ks I:List V}{l:List (Value×Value)}(p:VR W h O n k a)(q:VR W h O n v b)(x:wz W h O n ks I l):wz W h O n (k::ks) (v::I) ((a,b)::l):=⟨v,I,a,b,l,rfl,rfl,p,q,x⟩
theorem wz.ind{n:Nat}{P:List V->List V->List (Value×Value)->Prop}(h0:P [] [] [])(h1:∀{k v a b ks I l},VR W h O n k a->VR W h O n v b->P ks I l->P (k::ks) (v::I) ((a,b)::l)){ks:List V}:∀{I:List V}{l:List (Value×Value)},wz W h O n ks I l->P ks I l:=
 List.rec (motive:=λks=>∀{I:List V}{l:List (Value×Value)},wz W h O n ks I l->P ks I l) (λ{I l} x=>by rw [x.1,x.2];exact h0) (λ_ _ q _ _ x=>x.elim λ_ x=>x.elim λ_ x=>x.elim λ_ x=>x.elim λ_ x=>x.elim λ_ x=>x.1▸x.2.1▸h1 x.2.2.1 x.2.2.2.1 (q x.2.2.2.2)) ks
theorem yD(ah:iV W ga ba D X T){pos:Pos}{A:Around}{env:Env}(rm:bD A D){m:Ms}{ks:List (Option Expr)}:∀{I:List Expr}{Z J:St}{r:List V×List V}{O:Mu}{s:Shared},yg X m ks I Z=some (r,J)->FR W ga ba env (aI m) O Z.n s.heap->Rel W O Z s.heap->
  az W A bQ (evalPairs (pairTrees pos env ks I)) O Z s J (λaN G l=>wz W G aN J.n r.1 r.2 l):=by
 induction ks with
 | nil=>exact λ{I Z J r O s} e F R=>lx (P:=λI r J=>az W A bQ (evalPairs (pairTrees pos env [] I)) O Z s J (λaN G l=>wz W G aN J.n r.1 r.2 l)) e λQ E q=>evalPairs_nil (q [] O s.heap s.toks R (Step.refl _ _ _ _) .nil)
 | cons k ks ih=>
  exact λ{I Z J r O s} e F R=>jg (P:=λk I r=>az W A bQ (evalPairs (pairTrees pos env (k::ks) I)) O Z s J (λaN G l=>wz W G aN J.n r.1 r.2 l)) e λk v I kv ao vv aF p e1 e2 e3=>
   eU.by (eU.seq (ah.val e1 rm F R) λa aE s₁ aK aH aJ=>by
    have F1:=F.step R aH
    have d2:az W A bQ (do let x<-eval v env;standAt pos;pure x) aE ao s₁ aF (cJ W aF vv):=λQ E q=>
     wpAny_bind (wpAny_mono (ah.val e2 rm F1 aK Q E q) (λx s' z=>wpAny_bind (wpAny_standAt (wpAny_pure z))) λ_ _ z=>z)
    exact eU.seq d2 λb aX ie aY aV cq=>eU.seq (T:=λl pJ Q _=>Q ((a,b)::l) pJ) (ih e3 (F1.step aK aV) aY) λl cz pJ cH b0 dX=>eU.ret _ cH (.cons ((aJ.step aK aV dP).step aY b0 dP) (cq.step aY b0 dP) dX))
   λQ E z=>evalPairs_cons z
end
section
theorem yE{n:Nat}{ks I:List V}{l:List (Value×Value)}(x:wz W h O n ks I l):∀{is:List Int},intsOf ks=some is->∃bH,Carries (intKind W.pg W.w) l bH/\fb W h O n (is.zip I) bH:=
 x.ind (P:=λks I l=>∀{is:List Int},intsOf ks=some is->∃bH,Carries (intKind W.pg W.w) l bH/\fb W h O n (is.zip I) bH) (λe=>bG e ⟨[],trivial,rfl⟩) λ{k v a b ks I l} p q ih is e=>uO e λi e1 e=>uO e λjs e2 e=>bG e (vI e1 λi' ei e1=>bG e1 (p.jI ei λt=>aO (ih e2) λbH h1 h2=>⟨_::bH,⟨intKind_is _ _ i' t,rfl,h1⟩,.cons q h2⟩))
theorem yF{n:Nat}{ks I:List V}{l:List (Value×Value)}(x:wz W h O n ks I l):∀{is:List Str},strsOf ks=some is->∃bH,Carries (strKind W.pg W.w) l bH/\fb W h O n (is.zip I) bH:=
 x.ind (P:=λks I l=>∀{is:List Str},strsOf ks=some is->∃bH,Carries (strKind W.pg W.w) l bH/\fb W h O n (is.zip I) bH) (λe=>bG e ⟨[],trivial,rfl⟩) λ{k v a b ks I l} p q ih is e=>uO e λi e1 e=>uO e λjs e2 e=>bG e (vS e1 λi' ei e1=>bG e1 (p.jS ei λt=>aO (ih e2) λbH h1 h2=>⟨_::bH,⟨strKind_is _ _ i' t,rfl,h1⟩,.cons q h2⟩))
theorem mh(W:WC)(e:(W.aA.get? sysModules).isSome){a:Addr}(z:W.aA.get? a=none):(a==sysModules)=false:=beq_eq_false_iff_ne.mpr λq=>bF ((congrArg Option.isSome (show W.aA.get? sysModules=none from q▸z)).symm.trans e)
abbrev newD:Obj:={cls:=.type "dict",data:=.dict #[]}
theorem kq{rs:List Value}{e:Nat}:some newD≠some (bL rs e):=λq=>nomatch congrArg Obj.data (Option.some.inj q)
theorem rX{K:Type}[DecidableEq K]{knd:KeyKind W.pg W.w K}{dH:Shared}{bN:Mu}{bH:List (K×Value)}{ps:List (K×V)}{o:af}{G:Heap}(hd:G.DictOf knd dH.heap.objs.size (merged [] bH))(hs:Heap.SameBut dH.heap.objs.size h G)
  (R0:Rel W bN Z dH.heap) (R:Rel W O J h) (S:Step bQ bN O Z.n J.n (dH.heap.push newD) h)
  (hz:ps.length<=4096) (hv:fb W h O J.n ps bH)
  (ho:∀{p:Addr×Addr}{n:Nat}{ν:Mu},p=(dH.heap.objs.size,dH.heap.objs.size)->fb W G ν n (cM ps []) (merged [] bH)->OR W G ν n p o):
  Rel W (cy O J.n (dH.heap.objs.size,dH.heap.objs.size)) (J.alloc o) G/\Step bQ bN (cy O J.n (dH.heap.objs.size,dH.heap.objs.size)) Z.n (J.n+1) dH.heap G:=by
 have fr:dH.heap.get? dH.heap.objs.size=none:=aL _
 have kp:∀a o,dH.heap.get? a=some o->(dH.heap.push newD).get? a=some o:=λa o e=>Heap.get?_push_of_some _ e
 have h0:(dH.heap.push newD).get? dH.heap.objs.size=some newD:=Heap.get?_push_size _ rfl
 have wA:aU bN Z.n dH.heap.objs.size:=aU.fresh R0 fr
 have Rx:h.get? dH.heap.objs.size=some newD:=S.keep _ _ h0 wA id
 have Gn:aU O J.n dH.heap.objs.size:=bW S wA h0
 have w1:W.aA.get? dH.heap.objs.size=none:=R0.cB fr
 have z:=R.but (G:=G) (·=dH.heap.objs.size) (λa o na e=>hs.extBut a o na e) (λa xa=>by subst xa;exact ⟨Gn,w1⟩) (λa rs e xa=>by subst xa;rw [Rx];exact kq)
  (λa o xa e=>by subst xa;obtain ⟨o',_,_,g,_⟩:=hd;exact ⟨o',g⟩)
 have S':Step bQ bN O Z.n J.n dH.heap G:=by
  have a:=(Step.of_keeps (·=dH.heap.objs.size) bN Z.n kp).trans ((S.widen λ_ f=>f.elim).trans z.2)
  exact a.jQ λa xa=>by subst xa;exact fr
 have Te:fb W G (cy O J.n (dH.heap.objs.size,dH.heap.objs.size)) (J.n+1) ps bH:=hv.mono (λa rs e q=>z.2.keep a _ q (R.df q) λxa=>by subst xa;rw [Rx] at q;exact kq q) (λk q=>if_neg (Nat.ne_of_lt q)) (Nat.le_succ _)
 exact ⟨z.1.adopt Gn Gn w1 w1 (ho rfl (fb.merge Te .nil List.nodup_nil)),S'.adopt ⟨fr,fr⟩⟩
theorem mi{α:Type}[DecidableEq α](more:List (α×V)):∀(l:List (α×V)),(cM more l).length<=l.length+more.length:=by
 induction more with
 | nil=>exact λl=>Nat.le_refl _
 | cons p more ih=>exact λl=>Nat.le_trans (ih (bA l p.1 p.2)) (Nat.le_trans (Nat.add_le_add_right (fj l p.1 p.2) _) (Nat.le_of_eq (by rw [List.length_cons,Nat.add_assoc,Nat.add_comm 1])))
theorem nO{pos:Pos}{m:Ms}{ks:List (Option Expr)}:∀{I:List Expr}{Z J:St}{r:List V×List V},yg X m ks I Z=some (r,J)->(pairTrees pos env ks I).length=r.1.length:=by
 induction ks with
 | nil=>exact λe=>lx (P:=λI r _=>(pairTrees pos env [] I).length=r.1.length) e rfl
 | cons k ks ih=>exact λe=>jg (P:=λk I r=>(pairTrees pos env (k::ks) I).length=r.1.length) e λk v I kv ao vv aF p _ _ e3=>congrArg (·+1) (ih e3)
theorem mj{α β:Type}{f:α->Option β}{l:List α}:∀{r:List β},de f l=some r->r.length=l.length:=by
 induction l with
 | nil=>exact λe=>bG e rfl
 | cons x l ih=>exact λe=>uO e λy _ e=>uO e λr e2 e=>bG e (congrArg (·+1) (ih e2))
theorem Km{α β:Type}{f:α->Option β}{l:List α}(e:de f l=some []):l=[]:=List.eq_nil_of_length_eq_zero (mj e).symm
theorem wH{K:Type}[DecidableEq K]{knd:KeyKind W.pg W.w K}(ah:iV W ga ba D X T){pos:Pos}(rm:bD A D){ks:List (Option Expr)}{I:List Expr}{r:List V×List V}{o:af}{ps:List (K×V)}(e:yg X m ks I Z=some (r,J))(ne:r.1≠[])
  (F:FR W ga ba env (aI m) O Z.n s.heap) (R:Rel W O Z s.heap) (hz:r.1.length<16) (hp:ps.length<=4096) (hq:∀{O:Mu}{h:Heap}{n:Nat}{l:List (Value×Value)},wz W h O n r.1 r.2 l->∃bH,Carries knd l bH/\fb W h O n ps bH)
  (mk:∀{h:Heap}{ν:Mu}{n:Nat}{bH:List (K×Value)},h.DictOf knd s.heap.objs.size bH->fb W h ν n (cM ps []) bH->OR W h ν n (s.heap.objs.size,s.heap.objs.size) o):
  az W A bQ (eval (.Dict ks I pos) env) O Z s (J.alloc o) (cJ W (J.alloc o) (.ref J.n)):=λQ E q=>by
 have R0:=R.keeps (G:=s.heap.push newD) λa o e=>Heap.get?_push_of_some _ e
 have F0:=F.step R R0.2
 have hl:=nO (env:=env) (pos:=pos) e
 have wA:aU O Z.n s.heap.objs.size:=aU.fresh R (aL _)
 refine wpAny_Dict_pairs (knd:=knd) (yC pos env e) (λz=>ne (List.eq_nil_of_length_eq_zero (hl.symm.trans (congrArg List.length z)))) (Nat.le_of_lt_succ (hl.symm▸hz:_<16)) (yD ah (pos:=pos) rm e F0 R0.1 _ E λl aE aA tk aK aH aJ=>aO (hq aJ) λbH g1 g2=>
  ⟨bH,g1,(Heap.DictOf.new s.heap).at (λo eo=>aH.keep _ _ eo wA id),λG hd Jq=>?_⟩)
 have z:=rX (o:=o) hd Jq R aK aH hp g2 λ{p n ν} ep hv=>ep.symm▸mk hd hv
 exact q _ _ G (tk+l.length) z.1 z.2 (fZ _ _ _)
theorem yG(sm:(W.aA.get? sysModules).isSome=true){pos:Pos}(F:FR W ga ba env (aI m) O Z.n s.heap)(R:Rel W O Z s.heap):az W A bQ (eval (.Dict [] [] pos) env) O Z s (Z.alloc (.bO [])) (cJ W (Z.alloc (.bO [])) (.ref Z.n)):=λQ E q=>
 wpAny_Dict_empty (have z:=R.alloc (p:=(s.heap.objs.size,s.heap.objs.size)) (o:=.bO []) (λa o e=>Heap.get?_push_of_some _ e) ⟨aL _,aL _⟩ ⟨rfl,mh W sm (R.cB (aL _)),Nat.zero_le _,[],Heap.DictOf.new s.heap,rfl⟩
  q _ _ _ s.toks z.1 (z.2.widen λ_ f=>f.elim) (fZ _ _ _))
theorem yH{ks:List (Option Expr)}{I:List Expr}{r:List V×List V}(e:yg X m ks I Z=some (r,J))(h:r.1=[]):ks=[]/\I=[]/\J=Z:=by
 revert e h
 induction ks with
 | nil=>exact λe _=>lx (P:=λI _ J=>[]=[]/\I=[]/\J=Z) e ⟨rfl,rfl,rfl⟩
 | cons k ks _=>exact λe=>jg (P:=λk I r=>r.1=[]->k::ks=[]/\I=[]/\J=Z) e λ_ _ _ _ _ _ _ _ _ _ _ z=>nomatch z
theorem uW(ah:iV W ga ba D X T)(sm:(W.aA.get? sysModules).isSome=true){pos:Pos}(rm:bD A D){ks:List (Option Expr)}{I:List Expr}{r:List V×List V}{o:af}(e:yg X m ks I Z=some (r,J))(eo:ff r.1 r.2=some o)(F:FR W ga ba env (aI m) O Z.n s.heap)(R:Rel W O Z s.heap):
  az W A bQ (eval (.Dict ks I pos) env) O Z s (J.alloc o) (cJ W (J.alloc o) (.ref J.n)):=by
 have w1:=mh W sm (R.cB (aL s.heap))
 have lz:∀{n:Nat},n<16->n<=4096:=λh=>Nat.le_trans (Nat.le_of_lt h) (by decide)
 have zl:∀{α:Type}{l:List α}(l':List V),(l.zip l').length<=l.length:=λ{α l} l'=>by rw [List.length_zip];exact Nat.min_le_left _ _
 have op:∀{α:Type}[DecidableEq α]{l:List α}{l':List V},l.length<16->(cM (l.zip l') []).length<=4096:=λh=>Nat.le_trans (mi _ _) (Nat.zero_add _▸Nat.le_trans (zl _) (lz h))
 cases ei:intsOf r.1 with
 | some is=>
  refine uI (show (if is.length=r.2.length/\is.length<16 then some (af.bO (cM (is.zip r.2) [])) else none)=some o by rw [<-eo];unfold ff;rw [ei]) λhc eo=>bG eo ?_
  by_cases h:r.1=[]
  ·have z:=yH e h
   obtain ⟨rfl,rfl,rfl⟩:=z
   rw [h] at ei
   exact bG ei (yG sm F R)
  ·exact wH (knd:=intKind W.pg W.w) ah rm e h F R (mj ei▸hc.2) (Nat.le_trans (zl _) (lz hc.2)) (λx=>yE x ei) λhd hv=>⟨rfl,w1,op hc.2,_,hd,hv⟩
 | none=>
  refine uO (show (bC (strsOf r.1) λss=>if ss.length=r.2.length/\ss.length<16 then some (af.EJ (cM (ss.zip r.2) [])) else none)=some o by rw [<-eo];unfold ff;rw [ei]) λss es eo=>uI eo λhc eo=>bG eo ?_
  exact wH (knd:=strKind W.pg W.w) ah rm e (λh=>by rw [h] at ei;cases ei) F R (mj es▸hc.2) (Nat.le_trans (zl _) (lz hc.2)) (λx=>yF x es) λhd hv=>⟨rfl,w1,op hc.2,_,hd,hv⟩
end
noncomputable def pK:List String:=["enumerate","zip","dict_itemiterator","dict_reverseitemiterator","odict_iterator","itertools.zip_longest","itertools.pairwise"]
theorem in1{P:Addr->Prop}{ag:Addr}(p:P ag):∀a,a∈[ag]->P a:=λa h=>List.mem_singleton.mp h▸p
theorem Az{P:Addr->Prop}{ag ae:Addr}(p:P ag)(q:P ae):∀a,a∈[ag,ae]->P a:=λa h=>(List.mem_cons.mp h).elim (λe=>e▸p) (in1 q a)
section
theorem ml{M:Model}{E:Value->Shared->Prop}{ag:Addr}{o:Obj}{N:String}{cb:Expr}{v:Value}{Q:Unit->Shared->Prop}(ho:s.heap.get? ag=some o)(hc:o.cls=.type N)(hN:pK.contains N=false)(q:Q () s):
  wpAny M A (letOwnedTupleGo cb (.ref ag) v) Q E s:=by
 have key:∀es k p,wpAny M A (letOwnedTupleGo (.Tuple es k p) (.ref ag) v) Q E s:=λes k p=>by
  unfold letOwnedTupleGo
  induction v using Value.casesOn with
  | ref a=>
   refine wpAny_bind (wpAny_load ho ?_)
   rw [hc]
   cases o.data with
   | fields I=>
    show wpAny M A (if (pK.contains N&&I[0]?==some (rawInt a))=true then _ else _) Q E s
    rw [hN,Bool.false_and]
    exact wpAny_pure q
   | _=>exact wpAny_pure q
  | _=>exact wpAny_pure q
 induction cb using Expr.casesOn with
 | Tuple es k p=>exact key es k p
 | List es p=>exact key es 0 p
 | _=>exact wpAny_pure q
noncomputable def yI(W:WC)(O:Mu)(n:Nat)(h:Heap)(s:Src)(i:Nat)(ag:Addr)(fp:List Addr):Prop:=Src.casesOn s
 (λk=>fp=[ag]/\k<n/\h.IsListIter ag (O k).1 i)
 (λI=>fp=[ag]/\∃rs t e,h.get? t=some (bL rs e)/\bq W h O n I rs/\h.IsTupleIter ag t i)
 (λa b=>fp=[ag]/\∃l,IsRangeIter h ag (a+(i:Int)) l 1/\(a+(i:Int)<b->l=b-a-i)/\(¬a+(i:Int)<b->l<=0))
 (λk=>∃it old,fp=[ag,it]/\k<n/\IsEnum h ag it (i:Int) old/\h.IsListIter it (O k).1 i/\ag≠it)
structure rY (W:WC) (O:Mu) (n:Nat) (h:Heap) (sr:Src) (i:Nat) (ag:Addr) (fp:List Addr):Prop where
 is:yI W O n h sr i ag fp
 own:∀a,a∈fp->aU O n a/\W.aA.get? a=none
theorem pL{a:Addr}{c:Value}{d:Data}(x:∃o,h.get? a=some o/\o.cls=c/\o.data=d)(k:(c==.type "tuple")=false):TT h a:=x.elim λ_ x=>cP x.1 (pA x.2.1 k)
theorem yI.tt{sr:Src}{i:Nat}{ag:Addr}{fp:List Addr}{n:Nat}:yI W O n h sr i ag fp->∀a,a∈fp->TT h a:=by
 induction sr using Src.casesOn with
 | lst k=>exact λx=>x.1▸in1 (pL x.2.2 rfl)
 | items I=>exact λx=>yi x.2 λ_ y=>y.elim λ_ y=>y.elim λ_ y=>x.1▸in1 (pL y.2.2 rfl)
 | kU a b=>exact λx=>yi x.2 λ_ y=>x.1▸in1 (cP y.1 rfl)
 | kW k=>exact λx=>x.elim λit x=>x.elim λold x=>x.1▸Az (cP x.2.2.1 rfl) (pL x.2.2.2.1 rfl)
theorem rY.tt{sr:Src}{i:Nat}{ag:Addr}{fp:List Addr}{n:Nat}(x:rY W O n h sr i ag fp){a:Addr}(ha:a∈fp):TT h a:=x.is.tt a ha
theorem rY.step{X:Addr->Prop}{sr:Src}{i:Nat}{ag:Addr}{fp:List Addr}(x:rY W O Z.n h sr i ag fp)(R:Rel W O Z h)(S:Step X O aN Z.n J.n h G)(nx:∀a rs e,X a->h.get? a≠some (bL rs e))(hf:∀a,a∈fp->¬X a):rY W aN J.n G sr i ag fp:=by
 have kp:∀a,a∈fp->∀o,h.get? a=some o->G.get? a=some o:=λa ha o e=>S.keep a o e (x.own a ha).1 (hf a ha)
 refine ⟨?_,λa ha=>(x.tt ha).1.elim λo e=>⟨bW S (x.own a ha).1 e,(x.own a ha).2⟩⟩
 have is:=x.is
 clear x
 revert is
 induction sr using Src.casesOn with
 | lst k=>exact λx=>⟨x.1,Nat.lt_of_lt_of_le x.2.1 S.le,(S.same k x.2.1).symm▸x.2.2.at λo=>kp _ (x.1▸ .head _) o⟩
 | items I=>exact λx=>⟨x.1,pz x.2 λrs t e y1 y2 y3=>⟨rs,t,e,S.keep _ _ y1 (R.df y1) λz=>nx _ _ _ z y1,y2.step R S nx,y3.elim λo y=>⟨o,kp _ (x.1▸ .head _) o y.1,y.2⟩⟩⟩
 | kU a b=>exact λx=>⟨x.1,x.2.elim λl y=>⟨l,kp _ (x.1▸ .head _) _ y.1,y.2⟩⟩
 | kW k=>exact λx=>x.elim λit x=>x.elim λold x=>⟨it,old,x.1,Nat.lt_of_lt_of_le x.2.1 S.le,kp _ (x.1▸ .head _) _ x.2.2.1,(S.same k x.2.1).symm▸x.2.2.2.1.at λo=>kp _ (x.1▸ .tail _ (.head _)) o,x.2.2.2.2⟩
theorem AA{i:Int}(h:i.natAbs<4611686018427387904):Builtin.Range.rangeFitsLong i=true:=Bool.and_eq_true_iff.mpr ⟨decide_eq_true (by omega),decide_eq_true (by omega)⟩
theorem kr{a b:Int}(h1:b-a<=4096)(h2:a.natAbs<2^60)(h3:b.natAbs<2^60):Builtin.Range.small a b 1=true/\Builtin.Range.rangeSize a b 1=((b-a).toNat:Nat):=by
 have e1:Builtin.Range.rangeSize a b 1=((b-a).toNat:Nat):=by
  refine dv (c:=a<b) (P:=λz=>z=(((b-a).toNat:Nat):Int)) (λh=>?_) λh=>?_
  ·rw [Int.ediv_one,Int.sub_add_cancel,Int.toNat_of_nonneg (Int.sub_nonneg_of_le (Int.le_of_lt h))]
  ·rw [Int.toNat_of_nonpos (Int.sub_nonpos_of_le (Int.not_lt.mp h))];rfl
 refine ⟨?_,e1⟩
 have l:(2:Nat)^60<=4611686018427387904:=by decide
 have ha:=AA (Nat.lt_of_lt_of_le h2 l)
 have hb:=AA (Nat.lt_of_lt_of_le h3 l)
 have hn:Builtin.Range.rangeFitsLong (((b-a).toNat:Nat):Int)=true:=AA (Nat.lt_of_le_of_lt (show (((b-a).toNat:Nat):Int).natAbs<=4096 from Int.toNat_le.mpr h1) (by decide))
 unfold Builtin.Range.small
 rw [e1,ha,hb,hn,if_pos (show (1:Int)>0 by decide),Int.sub_self,Int.add_zero,hb,Bool.or_true]
 rfl
theorem bq.up{n n':Nat}(up:∀{v r},VR W h O n v r->VR W G aN n' v r){I:List V}{rs:List Value}(x:bq W h O n I rs):bq W G aN n' I rs:=x.ind (P:=bq W G aN n') .nil λ_ _ _ _ a _ q=>.cons (up a) q
noncomputable def KI(W:WC)(bM:Heap)(n:Nat)(sr:Src):Mu->Heap->Value->Prop:=λaN G it=>∃ag fp,it=.ref ag/\rY W aN n G sr 0 ag fp/\∀a,a∈fp->bM.get? a=none
theorem mn{sr:Src}{r:Value}{bM:Heap}(kp:∀a o,bM.get? a=some o->∃o',s.heap.get? a=some o')(R:Rel W O Z s.heap):
  wy W bM O Z.n s.heap sr r->sr.at Z 0≠none->az W A bQ (pyIter r) O Z s Z (KI W bM Z.n sr):=by
 have fr:s.heap.get? s.heap.objs.size=none:=aL _
 have zN:bM.get? s.heap.objs.size=none:=by
  cases e:bM.get? s.heap.objs.size with
  | none=>rfl
  | some o=>exact (kp _ _ e).elim λo' e'=>nN (fr.symm.trans e')
 have own:=in1 (P:=λa=>aU O Z.n a/\W.aA.get? a=none) ⟨aU.fresh R fr,R.cB fr⟩
 have go:∀{o:Obj}{Q:Value->Shared->Prop},(∀a aN G tk,Rel W aN Z G->Step bQ O aN Z.n Z.n s.heap G->KI W bM Z.n sr aN G a->Q a {s with heap:=G,toks:=tk})->((∀{v r},VR W s.heap O Z.n v r->VR W (s.heap.push o) O Z.n v r)->yI W O Z.n (s.heap.push o) sr 0 s.heap.objs.size [s.heap.objs.size])->
   Q (.ref s.heap.objs.size) {s with heap:=s.heap.push o}:=λ{o Q} q is=>
  have z:=R.keeps (G:=s.heap.push o) λa o e=>Heap.get?_push_of_some _ e
  q _ O _ s.toks z.1 z.2 ⟨_,_,rfl,⟨is λx=>x.step R z.2 dP,own⟩,in1 zN⟩
 revert go
 induction sr using Src.casesOn with
 | lst k=>
  refine λgo f Tf Q E q=>VR.iR (P:=λr=>wpAny (model W.pg W.w) A (pyIter r) Q E s) (show VR W s.heap O Z.n (.ref k) r from f) λqk=>?_
  cases e0:Z.f k with
  | lst l=>exact bV (bP R qk e0).2.2 λrs ep h3 _=>wpAny_pyIter_list (aW h3) (go q λ_=>⟨rfl,qk,_,Heap.get?_push_size _ rfl,rfl,rfl⟩)
  | _=>exact absurd (show oL (Z.f k) _=none by rw [e0];rfl) Tf
 | items l=>exact λgo f _ Q E q=>VR.iT (P:=λr=>wpAny (model W.pg W.w) A (pyIter r) Q E s) (show VR W s.heap O Z.n (.tup l) r from f) λrs a e p x=>wpAny_pyIter_tuple (items:=_) ⟨_,p,rfl,_,rfl⟩ (go q λup=>⟨rfl,rs,a,e,Heap.get?_push_of_some _ p,x.up up,_,Heap.get?_push_size _ rfl,rfl,rfl⟩)
 | kU a b=>
  refine λgo f _ Q E q=>yh f λz h1 h2 h3=>F8 z λp t u v er hr=>er▸?_
  have hs:=kr h1 h2 h3
  refine wpAny_pyIter_range hr hs.1 (go q λ_=>⟨rfl,((b-a).toNat:Nat),?_,λyn=>?_,λyn=>?_⟩)
  ·rw [hs.2,show a+((0:Nat):Int)=a from Int.add_zero a];exact Heap.get?_push_size _ rfl
  ·lia
  ·lia
 | kW k=>
  exact λ_ f _ Q E q=>Af f.2 λe it er uw he hi o w f0=>er▸wpAny_pyIter_enum he (q _ O s.heap s.toks R (Step.refl _ _ _ _) ⟨e,[e,it],rfl,⟨⟨it,.none,rfl,f.1,he,hi,uw⟩,Az ⟨o.1,w.1⟩ ⟨o.2,w.2⟩⟩,Az f0.1 f0.2⟩)
noncomputable def NX(W:WC)(A:Around)(cb:Expr)(ag:Addr)(N:Shared->Prop)(P:Value->Shared->Prop)(E:Value->Shared->Prop)(r:Option Value)(s₁:Shared):Prop:=Option.casesOn r (N s₁) λrv=>wpAny (model W.pg W.w) A (letOwnedTupleGo cb (.ref ag) rv) (λ_ ie=>P rv ie) E s₁
theorem rY.moved{sr:Src}{i:Nat}{ag:Addr}{fp:List Addr}(x:rY W O Z.n h sr i ag fp)(R:Rel W O Z h)(k:∀a o,¬a∈fp->h.get? a=some o->G.get? a=some o)(th:∀a,a∈fp->∃o,G.get? a=some o):
  Rel W O Z G/\Step (·∈fp) O O Z.n Z.n h G/\∀{v r},VR W h O Z.n v r->VR W G O Z.n v r:=
 have z:=R.but (·∈fp) k x.own (λa rs e ha=>(x.tt ha).2 rs e) λa o ha _=>th a ha
 ⟨z.1,z.2,λy=>y.step R z.2 λa rs e ha=>(x.tt ha).2 rs e⟩
theorem ox{sr:Src}{i:Nat}{ag:Addr}{fp:List Addr}{cb:Expr}{v:V}(x:rY W O Z.n s.heap sr i ag fp)(R:Rel W O Z s.heap)(ok:sr.ok cb=true)(e:sr.at Z i=some (some v)){E:Value->Shared->Prop}{N:Shared->Prop}{P:Value->Shared->Prop}
  (q:∀rv G tk,Rel W O Z G->Step (·∈fp) O O Z.n Z.n s.heap G->VR W G O Z.n v rv->rY W O Z.n G sr (i+1) ag fp->P rv {s with heap:=G,toks:=tk}):
  wpAny (model W.pg W.w) A (pyNext (.ref ag)) (NX W A cb ag N P E) E s:=by
 have one:∀{G:Heap}{o:Obj}{n:String}{rv:Value}{tk:Nat},fp=[ag]->G.get? ag=some o->o.cls=.type n->pK.contains n=false->Heap.SameBut ag s.heap G->((∀{v r},VR W s.heap O Z.n v r->VR W G O Z.n v r)->VR W G O Z.n v rv/\yI W O Z.n G sr (i+1) ag fp)->
   NX W A cb ag N P E (some rv) {s with heap:=G,toks:=tk}:=λ{G o n rv tk} ef ho hc hn hs is=>
  have z:=x.moved R (G:=G) (λa o na ea=>hs.extBut a o (λw=>na (ef▸w▸ .head _)) ea) (ef▸in1 ⟨o,ho⟩)
  have y:=is z.2.2
  ml (s:={s with heap:=G,toks:=tk}) ho hc hn (q rv G tk z.1 z.2.1 y.1 ⟨y.2,x.own⟩)
 have is:=x.is
 revert is one x e ok
 induction sr using Src.casesOn with
 | lst k=>exact λx _ e one is=>qL e λl e0 e=>bV (bP R is.2.1 e0).2.2 λrs ep h3 h4=>bJ (h4.get' (Option.some.inj e)) λr g1 _ g3=>wpAny_pyNext_list_item is.2.2 (aW h3) ((List.getElem?_toArray ..).trans g1) λG EZ hs=>bJ EZ λo ho hc hd=>one is.1 ho hc (by decide) hs λup=>⟨up g3,is.1,is.2.1,EZ⟩
 | items I=>exact λx _ e one is=>pz is.2 λrs t ep p C p2=>bJ (C.get' (Option.some.inj e)) λr g1 _ g3=>wpAny_pyNext_tuple_item p2 ⟨_,p,rfl,_,rfl⟩ ((List.getElem?_toArray ..).trans g1) λG EZ hs=>bJ EZ λo ho hc hd=>one is.1 ho hc (by decide) hs λup=>⟨up g3,is.1,rs,t,ep,hs.extBut _ _ (λw=>(pL p2 rfl).2 rs ep (w▸p)) p,C.up up,EZ⟩
 | kU a b=>
  refine λx _ e one is=>bJ is.2 λl p h1 h2=>uI (Option.some.inj e) λyn e=>?_
  have hl:=h1 yn
  refine wpAny_pyNext_range_item p (by lia) λG EZ hs=>one is.1 EZ rfl (by decide) hs λup=>⟨Option.some.inj e▸VR.int _ _,is.1,l-1,?_,?_,?_⟩
  ·rw [show a+((i+1:Nat):Int)=a+(i:Int)+1 by push_cast;lia];exact EZ
  ·intro w;push_cast at w⊢;lia
  ·intro w;push_cast at w;lia
 | kW k=>
  refine λx ok e _ is=>J3 ok λes c pos=>qL e λl e0 e=>uM (Option.some.inj e) λu e3 e4=>Ae is λit old ef hk p p2 ne=>bV (bP R hk e0).2.2 λrs ep h3 h4=>bJ (h4.get' e3) λr g1 _ g3=>?_
  refine wpAny_pyNext_enum_item p p2 (aW h3) ((List.getElem?_toArray ..).trans g1) ne λaA Tg Th Ti _ Go=>wpAny_letOwnedTupleGo_enum (s:={s with heap:=aA,toks:=_}) Tg λG Ry hs=>?_
  have Rz:G.IsListIter it (O k).1 (i+1):=Th.extBut hs.extBut ne.symm
  have z:=x.moved R (G:=G) (λa o na ea=>hs.extBut a o (λw=>na (ef▸w▸ .head _)) (Go a o (λw=>na (ef▸w▸ .head _)) (λw=>na (ef▸w▸ .tail _ (.head _))) ea)) (ef▸Az ⟨_,Ry⟩ (Rz.elim λo w=>⟨o,w.1⟩))
  refine q _ G (s.toks+1) z.1 z.2.1 (e4▸VR.tup ((hs.2 _ (bk p (aL _)).symm).trans Ti) (.cons (VR.int _ _) (.cons (z.2.2 g3) .nil))) ⟨⟨it,r,ef,hk,?_,Rz,ne⟩,x.own⟩
  rw [show ((i+1:Nat):Int)=(i:Int)+1 from rfl];exact Ry
theorem Rel.Gp(X:Addr->Prop)(R:Rel W O Z h)(hk:∀a o,¬X a->h.get? a=some o->G.get? a=some o)
  (hx:∀a,X a->aU O Z.n a/\W.aA.get? a=none) (ht:∀a rs e,X a->h.get? a≠some (bL rs e)):Rel W O Z G:=by
 have tk:∀a rs e,h.get? a=some (bL rs e)->G.get? a=some (bL rs e):=λa rs e q=>hk a _ (λx=>ht a rs e x q) q
 exact ⟨λa o e=>hk a o (λx=>nN ((hx a x).2.symm.trans e)) (R.old a o e),λk q=>(R.obj k q).mono (λa o x e=>hk a o (λy=>have z:=(hx a y).1 k q;x.elim z.1 z.2) e) tk (λ_ _=>rfl) (Nat.le_refl _),R.own,R.apart⟩
theorem Step.ends{Y:Addr->Prop}{n n':Nat}{bM:Heap}{fp:List Addr}(S:Step Y O aN n n' bM h)(k:∀a o,¬a∈fp->h.get? a=some o->G.get? a=some o)(fr:∀a,a∈fp->bM.get? a=none):Step Y O aN n n' bM G:=by
 have nf:∀a o,bM.get? a=some o->¬a∈fp:=λa o e w=>nN ((fr a w).symm.trans e)
 exact ⟨S.le,S.same,λa o e no nx=>k a o (nf a o e) (S.keep a o e no nx),S.fresh,λa o e=>(S.jP a o e).elim λo' e'=>⟨o',k a o' (nf a o e) e'⟩⟩
theorem rZ{sr:Src}{i:Nat}{ag:Addr}{fp:List Addr}{cb:Expr}(x:rY W O Z.n s.heap sr i ag fp)(R:Rel W O Z s.heap){d:Nat}(rm:bD A d)(e:sr.at Z i=some none){E:Value->Shared->Prop}{N:Shared->Prop}{P:Value->Shared->Prop}
  (q:∀G tk,Rel W O Z G->(∀a o,¬a∈fp->s.heap.get? a=some o->G.get? a=some o)->N {s with heap:=G,toks:=tk}):
  wpAny (model W.pg W.w) A (pyNext (.ref ag)) (NX W A cb ag N P E) E s:=by
 have fin:∀{c G},c∈fp->Heap.ExtBut c s.heap G->N {s with heap:=G}:=λ{c G} hc hs=>
  have k:∀a o,¬a∈fp->s.heap.get? a=some o->G.get? a=some o:=λa o na=>hs a o λw=>na (w▸hc)
  q G s.toks (R.Gp (·∈fp) k x.own (λa rs e ha=>(x.tt ha).2 rs e)) k
 have is:=x.is
 clear x
 revert is fin e
 induction sr using Src.casesOn with
 | lst k=>exact λe fin is=>qL e λl e0 e=>bV (bP R is.2.1 e0).2.2 λrs ep h3 h4=>wpAny_pyNext_list_end rm.handled is.2.2 (aW h3) ((List.getElem?_toArray ..).trans (h4.none (Option.some.inj e))) λG hs=>fin (is.1▸ .head _) hs
 | items I=>exact λe fin is=>pz is.2 λrs t ep p C p2=>wpAny_pyNext_tuple_end rm.handled p2 ⟨_,p,rfl,_,rfl⟩ ((List.getElem?_toArray ..).trans (C.none (Option.some.inj e))) λG hs=>fin (is.1▸ .head _) hs
 | kU a b=>exact λe fin is=>bJ is.2 λl p h1 h2=>wpAny_pyNext_range_end rm.handled p (h2 λyn=>nN ((Option.some.inj e).symm.trans (if_pos yn))) λG hs=>fin (is.1▸ .head _) hs
 | kW k=>exact λe fin is=>qL e λl e0 e=>Ae is λit old ef hk p p2 ne=>bV (bP R hk e0).2.2 λrs ep h3 h4=>wpAny_pyNext_enum_end rm.handled p p2 (aW h3) ((List.getElem?_toArray ..).trans (h4.none (Option.map_eq_none_iff.mp (Option.some.inj e)))) λG hs=>fin (ef▸ .tail _ (.head _)) hs
end
section
theorem jW{n:Nat}{t:Expr}{v:V}{m m':Ms}{P:Expr->Prop}(e:dy n t v m=some m')(h1:∀k x p,n=k+1->setName m x v=some m'->P (.Name x p))(h2:∀k es j p I,n=k+1->v=.tup I->eM (dy k) es I m=some m'->P (.Tuple es j p)):P t:=by
 revert e
 induction n using Nat.casesOn with
 | zero=>exact nN
 | succ n=>
  induction t using Expr.casesOn with
  | Name x p=>exact h1 n x p rfl
  | Tuple es j p=>exact λe=>vT e λI ev e=>h2 n es j p I rfl ev e
  | _=>exact nN
theorem fu{B:Expr->V->Ms->Option Ms}{t:Expr}{es:List Expr}{I:List V}{m m':Ms}{P:List V->Prop}(e:eM B (t::es) I m=some m')(k:∀v I m₁,B t v m=some m₁->eM B es I m₁=some m'->P (v::I)):P I:=by
 revert e
 induction I using List.casesOn with
 | nil=>exact nN
 | cons v I=>exact λe=>uO e λm₁ e1 e=>k v I m₁ e1 e
theorem oy{n:Nat}{t:Expr}{es:List Expr}{v:V}{m m':Ms}(e:dy n t v m=some m'):assignEach (t::es) env=(false,assign t env)::assignEach es env:=
 jW (P:=λt=>assignEach (t::es) env=(false,assign t env)::assignEach es env) e (λ_ _ _ _ _=>rfl) λ_ _ _ _ _ _ _ _=>rfl
theorem pM{n:Nat}(es:List Expr):∀{I:List V}{m m':Ms},eM (dy n) es I m=some m'->(assignEach es env).length=I.length/\(assignEach es env).findIdx? (·.1)=none:=by
 induction es with
 | nil=>exact λe=>m0 (P:=λI=>(assignEach [] env).length=I.length/\(assignEach [] env).findIdx? (·.1)=none) e λ_=>⟨rfl,rfl⟩
 | cons t es ih=>
  exact λe=>fu (P:=λI=>(assignEach (t::es) env).length=I.length/\(assignEach (t::es) env).findIdx? (·.1)=none) e λv I m₁ e1 e=>by
   rw [oy e1,List.findIdx?_cons,(ih e).2]
   exact ⟨congrArg (·+1) (ih e).1,rfl⟩
theorem yJ(n:Nat):∀{t:Expr}{v:V}{m m':Ms},dy n t v m=some m'->dW (λ_=>true) n t=true:=by
 induction n with
 | zero=>exact nN
 | succ n ih=>
  have list:∀(es:List Expr){I:List V}{m m':Ms},eM (dy n) es I m=some m'->es.all (dW (λ_=>true) n)=true:=λes=>by
   induction es with
   | nil=>exact λ_=>rfl
   | cons t es Tj=>exact λe=>fu (P:=λ_=>(t::es).all (dW (λ_=>true) n)=true) e λv I m₁ e1 e=>by rw [List.all_cons,ih e1,Tj e];rfl
  exact λ{t v m m'} e=>jW (P:=λt=>dW (λ_=>true) (n+1) t=true) e (λ_ _ _ _ _=>rfl) λk es _ _ I ek _ e=>list es (Nat.succ.inj ek▸e)
noncomputable def Stores(W:WC)(ga ba:Addr)(env:Env)(A:Around)(Y:Addr->Prop)(ok:Str->Bool):Prop:=∀{m m':Ms}{x:Str}{v:V}{r:Value}{Z:St}{O:Mu}{s:Shared},ok x=true->setName m x v=some m'->FR W ga ba env (aI m) O Z.n s.heap->Rel W O Z s.heap->VR W s.heap O Z.n v r->az W A Y (storeName env x r) O Z s Z (λaN G _=>FR W ga ba env (aI m') aN Z.n G)
theorem oz{Y:Addr->Prop}{ok:Str->Bool}(ny:∀a,Y a->FR.X env a)(st:Stores W ga ba env A Y ok){d:Nat}(rm:bD A d)(n:Nat):∀{t:Expr}{v:V}{r:Value}{m m':Ms}{Z:St}{O:Mu}{s:Shared},dW ok n t=true->
   dy n t v m=some m'->FR W ga ba env (aI m) O Z.n s.heap->Rel W O Z s.heap->VR W s.heap O Z.n v r->az W A Y (assign t env r) O Z s Z (λaN G _=>FR W ga ba env (aI m') aN Z.n G):=by
 induction n with
 | zero=>exact λ_=>nN
 | succ n Tl=>
  have list:∀{es:List Expr}{I:List V}{rs:List Value}{m m':Ms}{Z:St}{O:Mu}{s:Shared},es.all (dW ok n)=true->eM (dy n) es I m=some m'->FR W ga ba env (aI m) O Z.n s.heap->Rel W O Z s.heap->bq W s.heap O Z.n I rs->
    az W A Y (assignInOrder ((assignEach es env).map (·.2)) rs) O Z s Z (λaN G _=>FR W ga ba env (aI m') aN Z.n G):=λ{es}=>by
   induction es with
   | nil=>exact λ{I rs m m' Z O s} _ e F R x=>m0 (P:=λI=>bq W s.heap O Z.n I rs->_) e (λe x=>x.i0 (bG e λQ E q=>wpAny_pure (q () O s.heap s.toks R (Step.refl _ _ _ _) F))) x
   | cons t es ih=>
    refine λ{I rs m m' Z O s} k e F R x=>fu (P:=λI=>bq W s.heap O Z.n I rs->_) e (λv I m₁ e1 e x=>x.ic λr rs p x=>?_) x
    have k:=Bool.and_eq_true_iff.mp ((List.all_cons ..).symm.trans k)
    rw [oy e1]
    exact eU.by (T':=λQ E=>wpAny (model W.pg W.w) A (do holding rs (assign t env r);assignInOrder ((assignEach es env).map (·.2)) rs) Q E s) (eU.seq (Tl k.1 e1 F R p) λ_ Wr s1 R1 S1 F1=>ih k.2 e F1 R1 (x.step R S1 λa rs e ya=>(F.own a (ny a ya)).2.2.2 rs e)) λQ E z=>wpAny_bind (wpAny_holding z)
  intro t v r m m' Z O s k e F R x
  revert k
  refine jW (P:=λt=>dW ok (n+1) t=true->az W A Y (assign t env r) O Z s Z (λaN G _=>FR W ga ba env (aI m') aN Z.n G)) e (λ_ y p _ e k Q E q=>wpAny_assign_Name (st k e F R x Q E q)) λj es kk p I ej ev e k Q E q=>?_
  cases ej
  refine x.jT ev λrs a ep ha xs=>?_
  have g:=pM (env:=env) es e
  refine wpAny_assign_Tuple rm.handled ⟨_,ha,rfl,_,rfl⟩ (g.1.trans xs.length.symm) g.2 λG hx=>?_
  have z:=R.keeps λa o ea=>hx a o (Nat.ne_of_lt (Heap.lt_size ea)) ea
  exact list (s:={s with heap:=G}) k e (F.step R z.2) z.1 (xs.step R z.2 dP) Q E λb Tn h2 To R2 S2 K2=>q b Tn h2 To R2 ((z.2.widen λ_ f=>f.elim).trans S2) K2
theorem gc{t:Expr}{v:V}{r:Value}{m m':Ms}{n:Nat}{d:Nat}(rm:bD A d)(e:dy n t v m=some m')(F:FR W ga ba env (aI m) O Z.n s.heap)(R:Rel W O Z s.heap)(x:VR W s.heap O Z.n v r):
  az W A (FR.X env) (assign t env r) O Z s Z (λaN G _=>FR W ga ba env (aI m') aN Z.n G):=
 oz (ok:=λ_=>true) (λ_ y=>y) (λ_ e F R x=>dJ e F R x) rm n (yJ n e) e F R x
theorem nQ{t:Expr}{v:V}{r:Value}{m m':Ms}{n:Nat}{d:Nat}(rm:bD A d)(k:dW (λx=>env.kindOf x==some .local) n t=true)(e:dy n t v m=some m')(F:FR W ga ba env (aI m) O Z.n s.heap)(R:Rel W O Z s.heap)(x:VR W s.heap O Z.n v r):
  az W A (·=env.locals) (assign t env r) O Z s Z (λaN G _=>FR W ga ba env (aI m') aN Z.n G):=
 oz (ok:=λx=>env.kindOf x==some .local) (λ_ y=>.inl y) (λk e F R x=>gO rfl (λ_ y=>.inl y) e (eq_of_beq k) F R x) rm n k e F R x
end
section
theorem yK{x:Str}{c:Addr}(e:env.cells.lookup x=some c):cellOf env x=pure c:=by unfold cellOf;rw [e]
noncomputable def jh(env:Env)(x:Str×NameKind)(cs:List (Str×Addr)):Sem (ForInStep (List (Str×Addr))):=match x with
 | (name,kind)=>if (kind==NameKind.free)=true then do let a<-cellOf env name;pure (ForInStep.yield ((name,a)::cs)) else pure (ForInStep.yield cs)
theorem pN{x:Str}{c:Addr}{l:List (Str×Addr)}:((x,c)::l).lookup x=some c:=by rw [List.lookup_cons,beq_self_eq_true]
theorem wJ{x y:Str}{c:Addr}{l:List (Str×Addr)}(q:x≠y):((y,c)::l).lookup x=l.lookup x:=by rw [List.lookup_cons,beq_eq_false_iff_ne.mpr q]
noncomputable def De(env:Env)(l:List (Str×NameKind))(acc cl:List (Str×Addr)):Prop:=(∀x c,cl.lookup x=some c->env.cells.lookup x=some c)/\(∀x,(x,NameKind.free)∈l->cl.lookup x=env.cells.lookup x)/\∀x c,acc.lookup x=some c->cl.lookup x=env.cells.lookup x
theorem AB(l:List (Str×NameKind)):∀(acc:List (Str×Addr)),(∀x,(x,NameKind.free)∈l->∃c,env.cells.lookup x=some c)->(∀x c,acc.lookup x=some c->env.cells.lookup x=some c)->∃cl,forIn l acc (jh env)=pure cl/\De env l acc cl:=by
 induction l with
 | nil=>exact λacc _ ha=>⟨acc,rfl,ha,λx hm=>absurd hm List.not_mem_nil,λx c e=>e.trans (ha x c e).symm⟩
 | cons p l ih=>
  intro acc hl ha
  rw [List.forIn_cons]
  by_cases hk:p.2=.free
  ·refine yi (hl p.1 (hk▸ .head _)) λc ec=>?_
   have Tq:∀x c',((p.1,c)::acc).lookup x=some c'->env.cells.lookup x=some c':=λx c' e=>by
    by_cases q:x=p.1
    ·subst q;exact bG (pN.symm.trans e) ec
    ·exact ha x c' ((wJ q).symm.trans e)
   refine aO (ih ((p.1,c)::acc) (λx hm=>hl x (.tail _ hm)) Tq) λcl e1 e2=>⟨cl,?_,e2.1,λx hm=>?_,λx c' ea=>?_⟩
   ·have e:jh env p acc=pure (ForInStep.yield ((p.1,c)::acc)):=by unfold jh;dsimp only;rw [hk,if_pos (by decide),yK ec];rfl
    rw [e];exact e1
   ·exact (List.mem_cons.mp hm).elim (λq=>(show p.1=x from congrArg Prod.fst q.symm)▸e2.2.2 p.1 c pN) (e2.2.1 x)
   ·by_cases q:x=p.1
    ·subst q;exact e2.2.2 p.1 c pN
    ·exact e2.2.2 x c' ((wJ q).trans ea)
  ·refine aO (ih acc (λx hm=>hl x (.tail _ hm)) ha) λcl e1 e2=>⟨cl,?_,e2.1,λx hm=>(List.mem_cons.mp hm).elim (λq=>absurd (congrArg Prod.snd q.symm) hk) (e2.2.1 x),e2.2.2⟩
   have e:jh env p acc=pure (ForInStep.yield acc):=by unfold jh;dsimp only;rw [if_neg (λw=>hk (eq_of_beq w))]
   rw [e];exact e1
theorem u0(scope:Scope)(hc:∀x,(x,NameKind.free)∈scope.names->∃c,env.cells.lookup x=some c):∃cl,closureFor scope env=pure cl/\De env scope.names [] cl:=
 aO (AB scope.names [] hc λ_ _=>nN) λcl e1 e2=>⟨cl,congrArg (λt=>t>>=λr=>(pure r:Sem (List (Str×Addr)))) e1,e2⟩
theorem ji{scope:Scope}(e:fz scope m=true):scope.kind=.function/\(∀x k,(x,k)∈scope.names->lS k=false/\x≠br)/\(scope.names.map (·.1)).Nodup/\∀x,x∈freeOf scope->x∈ph m:=by
 have h:=Bool.and_eq_true_iff.mp e
 have h1:=Bool.and_eq_true_iff.mp h.1
 have h2:=Bool.and_eq_true_iff.mp h1.1
 refine ⟨eq_of_beq h2.1,λx k hm=>?_,of_decide_eq_true h1.2,λx hm=>List.contains_iff_mem.mp (List.all_eq_true.mp h.2 _ hm)⟩
 have w:=Bool.and_eq_true_iff.mp (List.all_eq_true.mp h2.2 _ hm)
 have w1:(k==.local || k==.free || k==.globalImplicit)=true:=w.1
 exact ⟨by revert w1;induction k using NameKind.casesOn<;>first | exact λ_=>rfl | exact bF,bne_iff_ne.mp w.2⟩
theorem dg{α β:Type}[BEq α][LawfulBEq α]{x:α}{k:β}{l:List (α×β)}:(l.map (·.1)).Nodup->(x,k)∈l->l.lookup x=some k:=by
 induction l with
 | nil=>exact λ_ h=>absurd h List.not_mem_nil
 | cons p l ih=>
  intro nd hm
  have nd:=List.nodup_cons.mp nd
  rw [List.lookup_cons]
  refine (List.mem_cons.mp hm).elim (λq=>?_) λq=>?_
  ·rw [<-q,beq_self_eq_true]
  ·rw [beq_eq_false_iff_ne.mpr (λ(z:x=p.1)=>nd.1 (show p.1∈l.map (·.1) from z▸(List.mem_map.mpr ⟨_,q,rfl⟩:x∈l.map (·.1))))]
   exact ih nd.2 q
theorem mq{scope:Scope}{x:Str}:x∈freeOf scope↔(x,NameKind.free)∈scope.names:=by
 refine List.mem_filterMap.trans ⟨λh=>h.elim λp h=>?_,λhm=>⟨_,hm,rfl⟩⟩
 refine uY h.2 λhk e=>bG e ?_
 have e:p.2=.free:=by revert hk;induction p.2 using NameKind.casesOn<;>first | exact λ_=>rfl | exact bF
 exact e▸h.1
noncomputable def wK(env:Env)(x:Str×NameKind):Str×NameKind:=match x with | (n,k)=>if (k==NameKind.free&&env.scope.kind==.function&&env.kindOf n==some .cell) then (n,NameKind.cell) else (n,k)
theorem eA{scope:Scope}{ak:Addr}{cl:List (Str×Addr)}(nd:(scope.names.map (·.1)).Nodup){x:Str}{k:NameKind}(hm:(x,k)∈scope.names):
  (compEnvC scope cl ak env).kindOf x=some (if (k==.free&&env.scope.kind==.function&&env.kindOf x==some .cell)=true then .cell else k):=by
 show (scope.names.map (wK env)).lookup x=_
 have e:∀p:Str×NameKind,wK env p=(p.1,if (p.2==.free&&env.scope.kind==.function&&env.kindOf p.1==some .cell)=true then .cell else p.2):=λp=>by unfold wK;dsimp only;split<;>rfl
 refine dg ?_ (List.mem_map.mpr ⟨(x,k),hm,e _⟩)
 rw [List.map_map,show ((λx:Str×NameKind=>x.1)∘wK env)=(λx=>x.1) from funext λp=>by rw [Function.comp,e p]];exact nd
theorem gR(F:FR W ga ba env (aI m) O Z.n h){x:Str}(hm:x∈ph m):env.kindOf x=some .cell/\∃c,env.cells.lookup x=some c:=by
 unfold ph at hm
 cases e:(bC (aI m br) λv=>zQ v strsOf) with
 | none=>rw [e] at hm;exact absurd hm List.not_mem_nil
 | some ks=>rw [e] at hm;exact uO e λv e1 e=>vT e λl el e=>F.EV l ks (e1.trans (congrArg some el)) e x hm
theorem yL{p:Str×NameKind}{y:Str×V}:zY m p=some y->y.1=p.1:=by
 obtain ⟨x,k⟩:=p
 induction k using NameKind.casesOn with
 | «local»=>exact λe=>bG e rfl
 | free=>exact λe=>uM e λ_ _ e=>e▸rfl
 | globalImplicit=>exact λe=>bG e rfl
 | _=>exact nN
theorem mr{α:Type}{f:α->Option (Str×V)}{x:Str}{v:V}(l:List α):aI (l.filterMap f) x=some v->∃p,p∈l/\f p=some (x,v):=by
 induction l with
 | nil=>exact nN
 | cons p l ih=>
  have up:(∃q,q∈l/\f q=some (x,v))->∃q,q∈p::l/\f q=some (x,v):=λh=>h.elim λq h=>⟨q,.tail _ h.1,h.2⟩
  rw [List.filterMap_cons]
  cases e:f p with
  | none=>exact λh=>up (ih h)
  | some y=>exact dv (c:=x=y.1) (P:=λz=>z=some v->_) (λq h=>⟨p,.head _,e.trans (congrArg some (Prod.ext q.symm (Option.some.inj h)))⟩) λ_ h=>up (ih h)
theorem u3{scope:Scope}{x:Str}{v:V}(uw:x≠br)(e:aI (cX scope m) x=some v):
  ((x,NameKind.local)∈scope.names/\v=.qW)\/((x,NameKind.free)∈scope.names/\aI m x=some v)\/((x,NameKind.globalImplicit)∈scope.names/\v=.qQ):=
 aO (mr scope.names ((if_neg uw).symm.trans e)) λp hm e=>by
  have e1:x=p.1:=yL e
  obtain ⟨y,k⟩:=p
  revert hm e
  cases e1
  induction k using NameKind.casesOn with
  | «local»=>exact λhm e=>.inl ⟨hm,(congrArg Prod.snd (Option.some.inj e)).symm⟩
  | free=>exact λhm e=>uM e λu e1 e=>.inr (.inl ⟨hm,e1.trans (congrArg some (congrArg Prod.snd e))⟩)
  | globalImplicit=>exact λhm e=>.inr (.inr ⟨hm,(congrArg Prod.snd (Option.some.inj e)).symm⟩)
  | _=>exact λ_=>nN
theorem u4(l:List Str):strsOf (l.map V.str)=some l:=by
 induction l with
 | nil=>rfl
 | cons a l ih=>exact congrArg (λx=>bC x λr=>some (a::r)) ih
theorem FR.comp{scope:Scope}{cl:List (Str×Addr)}{ak:Addr}{mC:Str->Option Value}(ok:fz scope m=true)(F:FR W ga ba env (aI m) O Z.n h)(cp:De env scope.names [] cl)
  (hC:h.Ns ak mC) (nC:aU O Z.n ak) (wC:W.aA.get? ak=none) (aC:∀x c,env.cells.lookup x=some c->c≠ak):FR W ga ba (compEnvC scope cl ak env) (aI (cX scope m)) O Z.n h:=
 yh (ji ok) λk1 k2 k3 k4=>aO F.ns λmL hn hv=>
 ⟨k1,F.ga,F.ba,λl ks e1 e2 x hx=>by
   have e3:=Option.some.inj ((if_pos rfl:(if br=br then some (V.tup ((freeOf scope).map V.str)) else aI (scope.names.filterMap (zY m)) br)=_).symm.trans e1)
   have e4:freeOf scope=ks:=Option.some.inj ((u4 _).symm.trans ((congrArg (λv=>zQ v strsOf) e3).trans e2))
   have hm:=mq.mp (e4▸hx)
   have q:=gR F (k4 x (e4▸hx))
   rw [eA k3 hm,q.1,F.kind]
   exact ⟨rfl,q.2.elim λc q2=>⟨c,(cp.2.1 x hm).trans q2⟩⟩,
  ⟨mC,hC,λx v uw e=>(u3 uw e).elim (λz=>z.2▸ .inr ⟨rfl,_,.inl ⟨by rw [eA k3 z.1];rfl,rfl⟩,λ_=>nN⟩) λz=>z.elim (λz=>by
   have hk:=(gR F (k4 x (mq.mpr z.1))).1
   refine (hv x v uw z.2).elim (λy=>nomatch Option.some.inj (hk.symm.trans y.2)) λy=>.inr ⟨y.1,y.2.elim λo y=>⟨o,y.1.elim (λp=>nomatch Option.some.inj (hk.symm.trans p.1)) λp=>.inr ⟨?_,p.2.elim λc p=>⟨c,(cp.2.1 x z.1).trans p.1,p.2⟩⟩,y.2⟩⟩
   rw [eA k3 z.1,hk,F.kind];rfl) λz=>.inl ⟨z.2▸rfl,by rw [eA k3 z.1];rfl⟩⟩,
  λa xa=>xa.elim (λe=>e▸⟨nC,wC,Ns.tt hC⟩) λe=>e.elim λx e=>F.own a (.inr ⟨x,cp.1 x a e⟩),
  ⟨λx c e=>aC x c (cp.1 x c e),λx y c e1 e2=>F.apart.2 x y c (cp.1 x c e1) (cp.1 y c e2)⟩⟩
end
section
theorem ku(ah:iV W ga ba D X T){e:Expr}{sr:Src}(q:aG (X e m Z)=some (sr,J))(rm:bD A D)(F:FR W ga ba env (aI m) O Z.n s.heap)(R:Rel W O Z s.heap):
  az W A bQ (eval e env) O Z s J (λaN G r=>wy W s.heap aN J.n G sr r):=uP q λz ao e1 q=>by
 revert q e1
 induction z using Rs.casesOn with
 | val v=>
  refine λe1 q=>uO q λTr e2 q=>dq q ((ah.val e1 rm F R).mono λaN G a=>?_)
  revert e2
  induction v using V.casesOn with
  | ref k=>exact λe2 x=>bG e2 x
  | tup l=>exact λe2 x=>bG e2 x
  | _=>exact nN
 | src Tr=>exact λe1 q=>dq q (ah.src e1 rm F R)
theorem kx(ah:iV W ga ba D X T){e:Expr}{r:Src×St}(env:Env)(x:Value):aG (X e m Z)=some r->foldedSetIterable e env x=pure x:=by
 induction e using Expr.casesOn with
 | Set es k p=>rw [ah.EX];exact nN
 | _=>exact λ_=>rfl
theorem rY.again{sr:Src}{i:Nat}{ag:Addr}{fp:List Addr}{n:Nat}{Q:Value->Shared->Prop}{E:Value->Shared->Prop}(q:Q (.ref ag) s):yI W O n s.heap sr i ag fp->wpAny (model W.pg W.w) A (pyIter (.ref ag)) Q E s:=by
 induction sr using Src.casesOn with
 | lst _=>exact λx=>wpAny_pyIter_listiter x.2.2 q
 | items _=>exact λx=>pz x.2 λ_ _ _ _ _ p=>wpAny_pyIter_tupleiter p q
 | kU _ _=>exact λx=>aO x.2 λ_ p _=>wpAny_pyIter_rangeiter p q
 | kW _=>exact λx=>fc x λ_ _ _ _ p _=>wpAny_pyIter_enum p q
noncomputable def Dg(W:WC)(h:Heap)(O:Mu)(n:Nat)(D:Addr)(acc:List V):Prop:=∃rs e,h.get? D=some (fC rs e)/\bq W h O n acc rs
theorem Dg.step{Y:Addr->Prop}{D:Addr}{acc:List V}(x:Dg W h O Z.n D acc)(R:Rel W O Z h)(S:Step Y O aN Z.n J.n h G)(nx:∀a rs e,Y a->h.get? a≠some (bL rs e))(no:aU O Z.n D)(hD:¬Y D):Dg W G aN J.n D acc:=
 bV x λrs e h1 h2=>⟨rs,e,S.keep _ _ h1 no hD,h2.step R S nx⟩
noncomputable def mv(env:Env)(c:Expr)(r:Bool):Sem (ForInStep Bool):=if r=true then do let ok<-isTrue c env (eval c env);pure (ForInStep.yield ok) else pure (ForInStep.yield r)
theorem AD(l:List Expr){Q:Bool->Shared->Prop}{E:Value->Shared->Prop}{s:Shared}(z:Q false s):wpAny (model W.pg W.w) A (forIn l false (mv env)) Q E s:=by
 induction l with
 | nil=>exact wpAny_pure z
 | cons c l ih=>rw [List.forIn_cons];exact wpAny_bind (wpAny_pure ih)
theorem r0(ah:iV W ga ba D X T)(rm:bD A D){m:Ms}{es:List Expr}:∀{Z J:St}{b:Bool}{O:Mu}{s:Shared},q8 T m es Z=some (b,J)->FR W ga ba env (aI m) O Z.n s.heap->Rel W O Z s.heap->
  az W A bQ (forIn es true (mv env)) O Z s J (λ_ _ r=>r=b):=by
 induction es with
 | nil=>exact λe F R=>dq e (az.wt R rfl)
 | cons e es ih=>
  refine λ{Z J b O s} q F R=>uP (show dc (T e m Z) (λb Z=>bif b then q8 T m es Z else some (false,Z))=some (b,J) from q) λTs ao e1 q Q E z=>?_
  rw [List.forIn_cons]
  refine wpAny_bind (wpAny_bind (ah.Gl e1 rm F R _ E λa aE aA aD aK aH k=>?_))
  subst k
  refine wpAny_pure ?_
  revert q
  induction a using Bool.casesOn with
  | true=>exact λq=>ih q (F.step R aH) aK Q E λa aX aZ aS aY aV k=>z a aX aZ aS aY (aH.trans aV) k
  | false=>exact λq=>AD es (dq (P:=λb J=>(∀a aN G tk,Rel W aN J G->Step bQ O aN Z.n J.n s.heap G->a=b->Q a {s with heap:=G,toks:=tk})->Q false {s with heap:=aA,toks:=aD}) q (λz=>z false aE aA aD aK aH rfl) z)
structure CI (W:WC) (ga ba:Addr) (env:Env) (m:Ms) (ak D ag:Addr) (fp:List Addr) (sr:Src) (O:Mu) (Z:St) (h:Heap) (i:Nat) (acc:List V):Prop where
 rel:Rel W O Z h
 fr:FR W ga ba env (aI m) O Z.n h
 Dh:rY W O Z.n h sr i ag fp
 dl:Dg W h O Z.n D acc
 nD:aU O Z.n D
 ns:∃mC,h.Ns ak mC
 nC:aU O Z.n ak
structure CS (W:WC) (env:Env) (ak D:Addr) (fp:List Addr):Prop where
 wC:W.aA.get? ak=none
 wD:W.aA.get? D=none
 CD:D≠ak
 Cf:ak∉fp
 Df:D∉fp
 eC:¬FR.X env ak
 eD:¬FR.X env D
 ef:∀a,a∈fp->¬FR.X env a
def CS.Yy(ak D:Addr)(fp:List Addr):Addr->Prop:=λa=>a∈fp\/a=ak\/a=D
theorem Ns.pB{ak:Addr}{mC:Str->Option Value}(x:h.Ns ak mC){rs:List Value}{e:Nat}:h.get? ak≠some (bL rs e):=(Ns.tt x).2 rs e
theorem Dg.tt{D:Addr}{acc:List V}{n:Nat}(x:Dg W h O n D acc):TT h D:=bV x λwu e' h1 _=>cP h1 rfl
section
variable{ak D' ag:Addr}{fp:List Addr}{sr:Src}{i i':Nat}{acc nR:List V}
theorem CI.move{Y:Addr->Prop}(x:CI W ga ba env m ak D' ag fp sr O Z h i acc)(R':Rel W aN J G)(S:Step Y O aN Z.n J.n h G)(nx:∀a rs e,Y a->h.get? a≠some (bL rs e))(hF:∀a,FR.X env a->¬Y a)
  (Dh:rY W aN J.n G sr i' ag fp) (dl:Dg W G aN J.n D' nR) (ns:∃mC,G.Ns ak mC):CI W ga ba env m ak D' ag fp sr aN J G i' nR:=
 ⟨R',x.fr.i7 x.rel S nx hF,Dh,dl,x.dl.tt.1.elim λ_ h1=>bW S x.nD h1,ns,x.ns.elim λ_ h1=>(Ns.tt h1).1.elim λ_ h1=>bW S x.nC h1⟩
theorem CI.bQ(x:CI W ga ba env m ak D' ag fp sr O Z h i acc)(R':Rel W aN J G)(S:Step Mine.bQ O aN Z.n J.n h G):CI W ga ba env m ak D' ag fp sr aN J G i acc:=
 x.move R' S dP (λ_ _=>id) (x.Dh.step x.rel S dP λ_ _=>id) (x.dl.step x.rel S dP x.nD id) (x.ns.elim λmC h1=>⟨mC,h1.at' λo e=>S.keep _ _ e x.nC id⟩)
theorem mw{E:Value->Shared->Prop}{rs:List Value}{ep:Nat}{r:Value}(hl:s.heap.get? D'=some (fC rs ep))(hz:rs.length<aq){Q:Value->Shared->Prop}
  (q:Q .none {s with heap:=s.heap.update D' (Obj.mapSeq (·.push r))}):wpAny (model W.pg W.w) A (call (.builtin "list.append") [.ref D',r]) Q E s:=
 call_meets F.slot_list_append ⟨_,hl,rfl⟩ F.entry_list_append (F.args_list_append_2 _ _) (list_append _ rs.toArray ep r (Nat.le_trans (Nat.le_of_lt hz) (by decide:aq<=sizeLine))) ⟨hl,q⟩
theorem CI.push{v:V}{r:Value}(st:CS W env ak D' fp)(x:CI W ga ba env m ak D' ag fp sr O Z s.heap i acc)(xv:VR W s.heap O Z.n v r)(hz:acc.length<aq){E:Value->Shared->Prop}{Q:Value->Shared->Prop}
  (q:∀G,CI W ga ba env m ak D' ag fp sr O Z G i (acc++[v])->Step (·=D') O O Z.n Z.n s.heap G->Q .none {s with heap:=G}):
  wpAny (model W.pg W.w) A (call (.builtin "list.append") [.ref D',r]) Q E s:=bV x.dl λrs ep h1 h2=>by
 refine mw h1 (h2.length.symm▸hz) ?_
 have hk:∀a o,a≠D'->s.heap.get? a=some o->(s.heap.update D' (Obj.mapSeq (·.push r))).get? a=some o:=λa o ne e=>(Heap.get?_update_other _ _ (Ne.symm ne)).trans e
 refine yi (show∃ep,(s.heap.update D' (Obj.mapSeq (·.push r))).get? D'=some (fC (rs++[r]) ep) from ⟨_,List.push_toArray ..▸IsL.update (show IsL s.heap D' rs.toArray ep from h1) (·.push r)⟩) λJl u=>?_
 have nt:∀a rs e,a=D'->s.heap.get? a≠some (bL rs e):=λa rs e q=>q▸x.dl.tt.2 rs e
 have z:=x.rel.but (·=D') (G:=s.heap.update D' (Obj.mapSeq (·.push r))) hk (λa q=>q▸⟨x.nD,st.wD⟩) nt (λa o q e=>⟨_,(congrArg (s.heap.update D' (Obj.mapSeq (·.push r))).get? q).trans u⟩)
 exact q _ (x.move z.1 z.2 nt (λa fa q=>st.eD (q▸fa)) (x.Dh.step x.rel z.2 nt λa ha q=>st.Df (q▸ha)) ⟨_,_,u,(h2.step x.rel z.2 nt).append (.cons (xv.step x.rel z.2 nt) .nil)⟩ (x.ns.elim λmC h3=>⟨mC,h3.at' λo e=>hk _ o (Ne.symm st.CD) e⟩)) z.2
end
theorem r4{p q:Str->Bool}(pq:∀x,p x=true->q x=true)(n:Nat):∀{t:Expr},dW p n t=true->dW q n t=true:=by
 induction n with
 | zero=>exact bF
 | succ n ih=>
  intro t
  induction t using Expr.casesOn with
  | Name x _=>exact pq x
  | Tuple es _ _=>exact λe=>List.all_eq_true.mpr λx hx=>ih (List.all_eq_true.mp e x hx)
  | _=>exact bF
theorem pO{sr:Src}{turn:V->St->Option (Option V×St)}(n:Nat):∀{i:Nat}{acc I:List V}{Z J:St},cu sr turn n i acc Z=some (I,J)->I.length<=acc.length+n:=by
 induction n with
 | zero=>exact nN
 | succ n ih=>
  refine λ{i acc I Z J} e=>uO e λo e1 e=>?_
  revert e
  induction o using Option.casesOn with
  | none=>exact λe=>dq (P:=λI _=>List.length I<=acc.length+(n+1)) e (Nat.le_add_right _ _)
  | some v=>
   refine λe=>uP e λx ao e2 e=>Nat.le_trans (ih e) ?_
   induction x using Option.casesOn with
   | none=>exact Nat.le_succ _
   | some y=>exact Nat.le_of_eq (by rw [List.length_append,Nat.add_assoc];exact congrArg _ (Nat.add_comm 1 n))
noncomputable def CP(W:WC)(A:Around)(cb:Expr)(ifs:List Expr)(elt:Expr)(env:Env)(D':Addr)(nE:Value->Shared->Prop)(again:Shared->Prop)(rv:Value)(s:Shared):Prop:=
 wpAny (model W.pg W.w) A (assign cb env rv) (λ_ s=>wpAny (model W.pg W.w) A (forIn ifs true (mv env)) (λok s=>if ok=true then wpAny (model W.pg W.w) A (eval elt env) (λy s=>wpAny (model W.pg W.w) A (call (.builtin "list.append") [.ref D',y]) (λ_=>again) nE s) nE s else again s) nE s) nE s
theorem yM{elt cb iter:Expr}{ifs:List Expr}{scope:Scope}{pos:Pos}{D' ag:Addr}{R:Result->Shared->Prop}
  (h:wpAny (model W.pg W.w) A (pyNext (.ref ag)) (NX W A cb ag (R (.ok .next)) (CP W A cb ifs elt env D' (notedBy (model W.pg W.w) A env λe s'=>R (.error e) s') λs'=>codeAny (model W.pg W.w) A (.compLoop (.ListComp elt [⟨cb,iter,ifs,0⟩] scope pos) 0 (.ref ag) (.ref D') env) R s') (notedBy (model W.pg W.w) A env λe s'=>R (.error e) s')) (notedBy (model W.pg W.w) A env λe s'=>R (.error e) s') s):
  codeAny (model W.pg W.w) A (.compLoop (.ListComp elt [⟨cb,iter,ifs,0⟩] scope pos) 0 (.ref ag) (.ref D') env) R s:=by
 refine codeAny_of_tree ?_
 show wpAny _ A ((PySem.compTurn (.ListComp elt [⟨cb,iter,ifs,0⟩] scope pos) 0 (.ref ag) (.ref D') env).onRaise (λx=>do noteFrame x env;theTreesLotGoes x)) _ _ s
 refine wpAny_noted ?_
 rw [compTurn_list]
 refine wpAny_bind (wpAny_standAt (wpAny_bind (wpAny_mono h (λr s₁ aA=>?_) λ_ _ z=>z)))
 revert aA
 induction r using Option.casesOn with
 | none=>exact λaA=>wpAny_pure aA
 | some rv=>
  refine λaA=>wpAny_bind (wpAny_mono aA (λ_ ie aZ=>wpAny_bind (wpAny_mono aZ (λ_ pJ ct=>wpAny_bind (wpAny_mono ct (λRA Oh fe=>?_) λ_ _ G=>G)) λ_ _ G=>G)) λ_ _ z=>z)
  induction RA using Bool.casesOn with
  | false=>exact wpAny_pure ⟨rfl,fe⟩
  | true=>exact wpAny_bind (wpAny_bind (wpAny_mono fe (λx Oh fe=>wpAny_bind (wpAny_mono fe (λ_ Tt pP=>wpAny_pure (wpAny_pure ⟨rfl,pP⟩)) λ_ _ G=>G)) λ_ _ G=>G))
theorem mx(ah:iV W ga ba D X T){elt cb iter:Expr}{ifs:List Expr}{scope:Scope}{pos:Pos}{cl:List (Str×Addr)}{ak D' ag:Addr}{fp:List Addr}{sr:Src}{I:List V}{bN:Mu}{dY:Nat}{bM:Heap}{R:Result->Shared->Prop}
  (ok:fz scope m=true) (tl:dM scope 4 cb=true) (AE:sr.ok cb=true) (rm:bD A D) (cp:De env scope.names [] cl) (st:CS W env ak D' fp) (zN:∀a,CS.Yy ak D' fp a->bM.get? a=none) (n:Nat):
  ∀{i:Nat}{acc:List V}{Z:St}{O:Mu}{s:Shared},cu sr (compTurn X T cb ifs elt (cX scope m)) n i acc Z=some (I,J)->acc.length+n<=aq->CI W ga ba env m ak D' ag fp sr O Z s.heap i acc->Step (CS.Yy ak D' fp) bN O dY Z.n bM s.heap->
   (∀aN G tk,Rel W aN J G->Step (CS.Yy ak D' fp) bN aN dY J.n bM G->Dg W G aN J.n D' I->aU aN J.n D'->aU aN J.n ak->(∃mC,G.Ns ak mC)->R (.ok .next) {s with heap:=G,toks:=tk})->
   codeAny (model W.pg W.w) A (.compLoop (.ListComp elt [⟨cb,iter,ifs,0⟩] scope pos) 0 (.ref ag) (.ref D') (compEnvC scope cl ak env)) R s:=by
 have Tu:dW (λx=>(compEnvC scope cl ak env).kindOf x==some .local) 4 cb=true:=r4 (λx hx=>beq_iff_eq.mpr (lookup_relabel_local (env:=env) (eq_of_beq hx))) 4 tl
 induction n with
 | zero=>exact nN
 | succ n ih=>
  refine λ{i acc Z O s} e hlen x S q=>yM (uO e λo e1 e=>?_)
  revert e e1
  induction o using Option.casesOn with
  | none=>
   refine λe1 e=>rZ x.Dh x.rel rm e1 λG tk R' k=>dq (P:=λI J=>(∀aN G tk,Rel W aN J G->Step (CS.Yy ak D' fp) bN aN dY J.n bM G->Dg W G aN J.n D' I->aU aN J.n D'->aU aN J.n ak->(∃mC,G.Ns ak mC)->R (.ok .next) {s with heap:=G,toks:=tk})->R (.ok .next) {s with heap:=G,toks:=tk}) e (λq=>?_) q
   refine q O G tk R' (S.ends (fp:=fp) k λa ha=>zN a (.inl ha)) (bV x.dl λrs ep h1 h2=>⟨rs,ep,k _ _ st.Df h1,h2.mono (λa rs e z=>k a _ (λw=>(x.Dh.tt w).2 rs e z) z) (λ_ _=>rfl) (Nat.le_refl _)⟩) x.nD x.nC (x.ns.elim λmC h1=>⟨mC,h1.at' λo e=>k _ o st.Cf e⟩)
  | some v=>
   refine λe1 e=>ox x.Dh x.rel AE e1 λrv aA aD aK aH xv Oi=>?_
   have RB:∀a rs e,a∈fp->s.heap.get? a≠some (bL rs e):=λa rs e ha=>(x.Dh.tt ha).2 rs e
   have C:CI W ga ba env m ak D' ag fp sr O Z aA (i+1) acc:=x.move aK aH RB (λa fa ha=>st.ef a ha fa) Oi (x.dl.step x.rel aH RB x.nD st.Df) (x.ns.elim λmC h1=>⟨mC,h1.at' λo e=>aH.keep _ _ e x.nC st.Cf⟩)
   have Tv:=S.trans (aH.widen (Y:=CS.Yy ak D' fp) λa ha=>.inl ha)
   refine yi C.ns λmC hC=>uP e λres aF e2 e=>uO e2 λm₁ e3 e2=>?_
   have F1:=FR.comp ok C.fr cp hC C.nC st.wC (λy c ec w=>st.eC (.inr ⟨y,w▸ec⟩))
   refine nQ (s:={s with heap:=aA,toks:=aD}) rm Tu e3 F1 aK xv _ _ λ_ aX aZ aS aY aV F2=>?_
   have Oj:∀a rs e,a=ak->aA.get? a≠some (bL rs e):=λa rs e q=>q▸Ns.pB hC
   have x2:CI W ga ba env m ak D' ag fp sr aX Z aZ (i+1) acc:=C.move aY aV Oj (λa fa (w:a=ak)=>st.eC (w▸fa)) (C.Dh.step aK aV Oj λa ha (w:a=ak)=>st.Cf (w▸ha)) (C.dl.step aK aV Oj C.nD st.CD) (aO F2.ns λmL h3 _=>⟨mL,h3⟩)
   have Tz:=Tv.trans (aV.widen (Y:=CS.Yy ak D' fp) λa ha=>.inr (.inl ha))
   refine uP e2 λRA aT e4 e2=>r0 ah rm e4 F2 aY _ _ λb' cz ct bR cH b0 k3=>?_
   subst k3
   have x3:=x2.bQ cH b0
   have RC:=Tz.trans (b0.widen (Y:=CS.Yy ak D' fp) λa ha=>ha.elim)
   have hl:acc.length+1+n<=aq:=Nat.succ_add_eq_add_succ acc.length n▸hlen
   revert e2
   induction b' using Bool.casesOn with
   | false=>exact λe2=>dq (P:=λres aF=>cu sr (compTurn X T cb ifs elt (cX scope m)) n (i+1) (Option.casesOn res acc λx=>acc++[x]) aF=some (I,J)->_) e2 (λe=>ih e (Nat.le_trans (Nat.le_succ _) hlen) x3 RC q) e
   | true=>
    refine λe2=>uV e2 λy wM e5 e2=>dq (P:=λres aF=>cu sr (compTurn X T cb ifs elt (cX scope m)) n (i+1) (Option.casesOn res acc λx=>acc++[x]) aF=some (I,J)->_) e2 (λe=>?_) e
    refine ah.val e5 rm (F2.step aY b0) cH _ _ λry gx fe eW iF gU k4=>?_
    exact (x3.bQ iF gU).push (s:={s with heap:=fe,toks:=eW}) st k4 (Nat.lt_of_lt_of_le (Nat.lt_succ_self _) (Nat.le_trans (Nat.le_add_right _ n) hl)) λpP x5 Dj=>ih e (by rw [List.length_append];exact hl) x5 ((RC.trans (gU.widen (Y:=CS.Yy ak D' fp) λa ha=>ha.elim)).trans (Dj.widen (Y:=CS.Yy ak D' fp) λa ha=>.inr (.inr ha))) q
end
section
theorem FR.there{n:Nat}(F:FR W ga ba env f O n h){a:Addr}(x:FR.X env a):∃o,h.get? a=some o:=(F.own a x).2.2.1
theorem FR.u5{n:Nat}(F:FR W ga ba env f O n h){a:Addr}{rs:List Value}{e:Nat}(x:FR.X env a):h.get? a≠some (bL rs e):=(F.own a x).2.2.2 rs e
theorem Step.back{Y:Addr->Prop}{n n':Nat}(S:Step Y O aN n n' h G){a:Addr}(e:G.get? a=none):h.get? a=none:=by
 cases q:h.get? a with
 | none=>rfl
 | some o=>exact (S.jP _ _ q).elim λo' q'=>nN (e.symm.trans q')
theorem AF{sr:Src}{turn:V->St->Option (Option V×St)}{n i:Nat}{acc:List V}{r:List V×St}(e:cu sr turn (n+1) i acc Z=some r):sr.at Z i≠none:=λz=>uO e λ_ q _=>nN (z.symm.trans q)
noncomputable def CQ(W:WC)(env:Env)(O:Mu)(Z:St)(s:Shared)(J:St)(I:List V)(R:Value->Addr->Shared->Prop):Prop:=∀D' ak aN G tk,Rel W aN (J.alloc (.lst I)) G->Step bQ O aN Z.n (J.n+1) s.heap G->VR W G aN (J.n+1) (.ref J.n) (.ref D')->(∃mC,G.Ns ak mC)->aU aN (J.n+1) ak->W.aA.get? ak=none->¬FR.X env ak->s.heap.get? ak=none->R (.ref D') ak {s with heap:=G,toks:=tk}
theorem oA(ah:iV W ga ba D X T){elt cb iter:Expr}{ifs:List Expr}{scope:Scope}{pos:Pos}{sr:Src}{ao:St}{I:List V}
  (e1:aG (X iter m Z)=some (sr,ao)) (AE:sr.ok cb=true) (ok:fz scope m=true) (tl:dM scope 4 cb=true) (e2:cu sr (Mine.compTurn X T cb ifs elt (cX scope m)) aM 0 [] ao=some (I,J))
  (rm:bD A D) (F:FR W ga ba env (aI m) O Z.n s.heap) (R:Rel W O Z s.heap) (use:Option (Value->Sem Unit)) {Q:Value->Shared->Prop} {E:Value->Shared->Prop}
  (q:CQ W env O Z s J I λr ak=>compPost (model W.pg W.w) A E use Q r ak (.ok .next)):
  wpAny (model W.pg W.w) A (comprehension (.ListComp elt [⟨cb,iter,ifs,0⟩] scope pos) scope env (firstIterPos [⟨cb,iter,ifs,0⟩] pos) (newList []) false (eval iter env) use) Q E s:=by
 refine yh (ji ok) λk1 k2 k3 k4=>?_
 refine aO (u0 (env:=env) scope (λx hm=>(gR F (k4 x (mq.mpr hm))).2)) λcl Jr cp=>?_
 refine wpAny_comprehension_free (use:=use) rfl (kx ah env · e1) Jr k1 (λx hx hl=>dg k3 (by rw [<-hl];exact hx)) ?_
 refine ku ah e1 rm F R _ _ λr aE aA aD aK aH f=>?_
 refine mn (s:={s with heap:=aA,toks:=aD}) (λa o e=>aH.jP a o e) aK f (AF (n:=4095) e2) _ _ λit aX aZ aS aY aV z=>lY z λag fp ei u6 fr=>?_
 subst ei
 have S2:=aH.trans aV
 refine wpAny_newObj_type (wpAny_newFunctionEnv (λx hx w=>?_) (λy hy=>absurd hy List.not_mem_nil) (λct Av Jq=>?_) k1)
 ·have:=(k2 x.1 x.2 hx).1
  rw [w] at this
  exact nomatch this
 dsimp only at Av Jq⊢
 generalize Ol:aZ.push {cls:=.type "list",dict:=none,data:=.seq ([]:List Value).toArray}=H2 at Av Jq⊢
 have hC:H2.objs.size=aZ.objs.size+1:=Ol▸Heap.size_push ..
 generalize Om:aZ.objs.size=D' at*
 generalize Ws:H2.objs.size=ak at*
 have Nh:aZ.get? D'=none:=bK (Nat.le_of_eq Om)
 have Kn:aZ.get? ak=none:=bK (hC▸Om▸Nat.le_succ _)
 have old:∀b o,aZ.get? b=some o->ct.get? b=some o:=λb o e=>Jq.extBut b o (bk e Kn) (Heap.get?_push_of_some _ (Ol▸Heap.get?_push_of_some _ e))
 have Ni:D'≠ak:=hC▸(Nat.succ_ne_self _).symm
 have Oo:ct.get? D'=some (fC [] 0):=Jq.extBut _ _ Ni (Heap.get?_push_of_some _ (Ol▸Om▸Heap.get?_push_size _ rfl))
 have z3:=aY.keeps old
 have Dk:=u6.step aY z3.2 dP (λ_ _=>id)
 have S3:=S2.trans z3.2
 have Nj:=S2.back Nh
 have Oq:=S2.back Kn
 have no:∀{a:Addr}{h:Heap}{P:Prop},(∃o,h.get? a=some o)->h.get? a=none->P:=λx e=>x.elim λo q=>nN (e.symm.trans q)
 have st:CS W env ak D' fp:=⟨aY.cB Kn,aY.cB Nh,Ni,λw=>no (u6.tt w).1 Kn,λw=>no (u6.tt w).1 Nh,λw=>no (F.there w) Oq,λw=>no (F.there w) Nj,λa ha w=>no (F.there w) (fr a ha)⟩
 have zN:∀a,CS.Yy ak D' fp a->s.heap.get? a=none:=λa w=>w.elim (fr a) λw=>w.elim (λw=>w▸Oq) λw=>w▸Nj
 have ci:CI W ga ba env m ak D' ag fp sr aX ao ct 0 []:=⟨z3.1,F.step R S3,Dk,⟨[],0,Oo,.nil⟩,aU.fresh aY Nh,⟨_,Av⟩,aU.fresh aY Kn⟩
 have loop:=mx (R:=compPost (model W.pg W.w) A E use Q (.ref D') ak) (iter:=iter) (pos:=pos) (s:={s with heap:=ct,toks:=aS+([]:List (Str×Value)).length}) ah ok tl AE rm cp st zN aM e2 (by decide) ci (S3.widen λ_ f=>f.elim)
  λaN G tk R' S' dl nD nC ns=>bV dl λrs ep d1 d2=>by
   have hm:∀k,k<J.n->cy aN J.n (D',D') k=aN k:=λk q=>if_neg (Nat.ne_of_lt q)
   have TA:=Rel.adopt (p:=(D',D')) (o:=.lst I) R' nD nD st.wD st.wD ⟨rfl,Nat.le_trans (pO _ e2) (by decide),rs,ep,d1,d2.mono (λ_ _ _ z=>z) hm (Nat.le_succ _)⟩
   exact q D' ak _ G tk TA ((S'.jQ zN).adopt ⟨Nj,Nj⟩) (fZ _ _ _) ns (λk hk=>dv (c:=k=J.n) (P:=λz:Addr×Addr=>ak≠z.1/\ak≠z.2) (λ_=>⟨Ni.symm,Ni.symm⟩) λw=>nC k (Nat.lt_of_le_of_ne (Nat.le_of_lt_succ hk) w)) st.wC st.eC Oq
 exact codeAny_compStart_list loop (rY.again loop Dk.is)
theorem my{ak:Addr}(R:Rel W O Z h)(hs:Heap.SameBut ak h G)(ns:TT h ak)(nC:aU O Z.n ak)(wC:W.aA.get? ak=none){dY:Nat}{bM:Heap}{bN:Mu}{Y:Addr->Prop}(S:Step Y bN O dY Z.n bM h)(f0:bM.get? ak=none):
  Rel W O Z G/\Step Y bN O dY Z.n bM G/\∀{v:V}{r:Value},VR W h O Z.n v r->VR W G O Z.n v r:=
 have nt:∀a rs e,a=ak->h.get? a≠some (bL rs e):=λa rs e q=>q▸ns.2 rs e
 ⟨R.Gp (·=ak) (λa o ne e=>hs.extBut a o ne e) (λa q=>q▸⟨nC,wC⟩) nt,S.ends (fp:=[ak]) (λa o ne e=>hs.extBut a o (λw=>ne (w▸ .head _)) e) (in1 f0),.mono (λa rs e z=>hs.extBut a _ (λw=>nt a rs e w z) z) (λ_ _=>rfl) (Nat.le_refl _)⟩
theorem u9(ah:iV W ga ba D X T){elt cb iter:Expr}{ifs:List Expr}{scope:Scope}{pos:Pos}{sr:Src}{ao:St}{I:List V}
  (e1:aG (X iter m Z)=some (sr,ao)) (AE:sr.ok cb=true) (ok:fz scope m=true) (tl:dM scope 4 cb=true) (e2:cu sr (Mine.compTurn X T cb ifs elt (cX scope m)) aM 0 [] ao=some (I,J))
  (rm:bD A D) (F:FR W ga ba env (aI m) O Z.n s.heap) (R:Rel W O Z s.heap):
  az W A bQ (eval (.ListComp elt [⟨cb,iter,ifs,0⟩] scope pos) env) O Z s (J.alloc (.lst I)) (cJ W (J.alloc (.lst I)) (.ref J.n)):=λQ E q=>by
 rw [eval_ListComp]
 exact oA ah e1 AE ok tl e2 rm F R none λD' ak aN G tk R' S' xv ns nC wC eC f0=>ns.elim λmC Gh=>⟨mC,Gh,λOb hs=>ja (my R' hs (Ns.tt Gh) nC wC S' f0) λR2 S2 up=>q _ _ _ tk R2 S2 (up xv)⟩
theorem yN(ah:iV W ga ba D X T){elt cb iter:Expr}{ifs:List Expr}{scope:Scope}{pos pQ py:Pos}{sr:Src}{ao:St}{I:List V}{y:Str}{m':Ms}
  (Ko:swapsWith (.ListComp elt [⟨cb,iter,ifs,0⟩] scope pos) (some (.Name y py)) pQ.line env=pure true)
  (e1:aG (X iter m Z)=some (sr,ao)) (AE:sr.ok cb=true) (ok:fz scope m=true) (tl:dM scope 4 cb=true) (e2:cu sr (Mine.compTurn X T cb ifs elt (cX scope m)) aM 0 [] ao=some (I,J))
  (e3:setName m y (.ref J.n)=some m')
  (rm:bD A D) (F:FR W ga ba env (aI m) O Z.n s.heap) (R:Rel W O Z s.heap):
  az W A (FR.X env) (exec (.Assign [.Name y py] (.ListComp elt [⟨cb,iter,ifs,0⟩] scope pos) pQ) env) O Z s (J.alloc (.lst I)) (λaN G r=>r=.next/\FR W ga ba env (aI m') aN (J.n+1) G):=λQ E q=>by
 rw [exec_Assign_Name_used _ _ _ _ Ko]
 refine wpAny_bind (wpAny_standAt (wpAny_bind ?_))
 show wpAny _ A (do let _<-comprehension (.ListComp elt [⟨cb,iter,ifs,0⟩] scope pos) scope env _ (newList []) false (eval iter env) (some (assign (.Name y py) env))) _ _ s
 refine wpAny_bind (wpAny_mono (oA (Q:=λ_ s'=>Q .next s') ah e1 AE ok tl e2 rm F R (some (assign (.Name y py) env)) λD' ak aN G tk R' S' xv ns nC wC eC f0=>?_) (λ_ s' hq=>wpAny_pure (wpAny_pure hq)) λ_ _ e=>e)
 show wpAny _ A (assign (.Name y py) env (.ref D')) _ _ _
 refine wpAny_assign_Name (dJ (s:={s with heap:=G,toks:=tk}) e3 (F.step R S') R' xv _ _ λ_ aX aZ aS aY aV gA=>ns.elim λmC Gh=>?_)
 have RD:aZ.Ns ak mC:=Gh.at' λo e=>aV.keep _ _ e nC eC
 have TB:aU aX (J.n+1) ak:=(Ns.tt Gh).1.elim λ_ h1=>bW aV nC h1
 exact ⟨mC,RD,λct hs=>ja (my aY hs (Ns.tt RD) TB wC ((S'.widen λ_ f=>f.elim).trans aV) f0) λR3 S3 up=>q _ _ _ aS R3 S3 ⟨rfl,gA.at up λa o fa e=>hs.extBut a o (λw=>eC (w▸fa)) e⟩⟩
end
structure CW (W:WC) (rf:Value):Prop where
 go:∀{A:Around}{s:Shared}{pos:Pos}{args:List (Bool×Sem Value)}{Q:Value->Shared->Prop}{E:Value->Shared->Prop},args.any (·.1)=false->
 wpAny (model W.pg W.w) A (evalArgs rf true args []) (λa s₁=>a.kw=[]/\(∀a o,W.aA.get? a=some o->s₁.heap.get? a=some o)/\wpAny (model W.pg W.w) A (call rf a.pos []) Q E s₁) E s->
 wpAny (model W.pg W.w) A (callWith pos rf [] args []) Q E s
structure AG (W:WC) (ak:Str->List V->St->R) (D:Nat):Prop where
 cw:∀{g:Str}{I:List V}{Z:St}{r:V×St}{rf:Value},lT ak g I Z=some r->W.gv g=some rf->CW W rf
 cl:∀{g:Str}{I:List V}{Z J:St}{v:V}{A:Around}{O:Mu}{s:Shared}{rf:Value}{rs:List Value},lT ak g I Z=some (v,J)->bD A D->Rel W O Z s.heap->VR W s.heap O Z.n (.bo g) rf->bq W s.heap O Z.n I rs->az W A bQ (call rf rs []) O Z s J (cJ W J v)
structure Fix (W:WC) (aj:Str->V) (ga ba:Addr):Prop where
 Gq:Oe W aj ga ba
 E0:Jp W
 cf:CF W
 sm:(W.aA.get? sysModules).isSome=true
 kU:W.gv "range"=some (.type "range")
 kW:W.gv "enumerate"=some (.type "enumerate")
 zip:W.gv "zip"=some (.type "zip")
theorem CW.builtin(W:WC)(id:String):CW W (.builtin id) where
 go:=λhp h=>callWith_builtin hp (wpAny_mono h (λa s₁ aA=>by rw [aA.1];exact aA.2.2) λ_ _ e=>e)
theorem CW.type(W:WC)(T:String):CW W (.type T) where
 go:=λhp h=>PySem.callWith_type hp (wpAny_mono h (λa s₁ aA=>by rw [aA.1];exact aA.2.2) λ_ _ e=>e)
theorem CW.func{W:WC}{a:Addr}{o:Obj}{fd:FuncData}(e:W.aA.get? a=some o)(d:o.data=.func fd):CW W (.ref a) where
 go:=λhp h=>callWith_function (o:=o) (fd:=fd) (wpAny_mono h (λx s₁ aA=>⟨⟨aA.2.1 _ _ e,d⟩,by rw [aA.1];exact aA.2.2⟩) λ_ _ e=>e)
noncomputable def KR(W:WC)(bM:Heap)(r:Rs)(n:Nat)(aN:Mu)(G:Heap)(a:Value):Prop:=Rs.casesOn r (λv=>VR W G aN n v a) λsr=>wy W bM aN n G sr a
section
theorem KR.back{Y:Addr->Prop}{r:Rs}{n dY Dl:Nat}{bN aE:Mu}{bM aA:Heap}{a:Value}(S:Step Y bN aE dY Dl bM aA):KR W aA r n aN G a->KR W bM r n aN G a:=by
 induction r using Rs.casesOn with
 | val v=>exact id
 | src sr=>induction sr using Src.casesOn with
  | kW k=>exact λx=>⟨x.1,Af x.2 λe it a1 a2 a3 a4 a5 a6 a7=>⟨e,it,a1,a2,a3,a4,a5,a6,S.back a7.1,S.back a7.2⟩⟩
  | _=>exact id
theorem iV.any(ah:iV W ga ba D X T){e:Expr}{r:Rs}(rm:bD A D)(F:FR W ga ba env (aI m) O Z.n s.heap)(R:Rel W O Z s.heap):X e m Z=some (r,J)->az W A bQ (eval e env) O Z s J (KR W s.heap r J.n):=by
 induction r using Rs.casesOn with
 | val v=>exact λq=>ah.val q rm F R
 | src sr=>exact λq=>ah.src q rm F R
theorem yO(ah:iV W ga ba D X T){pos:Pos}{op:BoolOp}(rm:bD A D){es:List Expr}:∀{Z J:St}{b:Bool}{O:Mu}{s:Shared},Jj X op m es Z=some (b,J)->FR W ga ba env (aI m) O Z.n s.heap->Rel W O Z s.heap->
  az W A bQ (boolOp pos op (evalEach es env)) O Z s J (cJ W J (.bool b)):=by
 induction es with
 | nil=>exact nN
 | cons e es ih=>
  refine λ{Z J b O s} q F R=>Rj q λb' ao e1 q=>?_
  revert q ih
  induction es using List.casesOn with
  | nil=>exact λ_ q=>dq (P:=λb J=>az W A bQ (eval e env) O Z s J (cJ W J (.bool b))) q (ah.val e1 rm F R)
  | cons e' es=>
   refine λih q Q E z=>?_
   have go:∀Q E,(∀aE aA aD,Rel W aE ao aA->Step bQ O aE Z.n ao.n s.heap aA->wpAny (model W.pg W.w) A (match op,b' with | .And,false | .Or,true=>pure (.bool b') | _,_=>boolOp pos op (evalEach (e'::es) env)) Q E {s with heap:=aA,toks:=aD})->wpAny (model W.pg W.w) A (boolOp pos op (evalEach (e::e'::es) env)) Q E s:=λQ E k=>
    wpAny_bind (ah.val e1 rm F R _ E λv aE aA aD aK aH aJ=>VR.iB (show VR W aA aE ao.n (.bool b') v from aJ) (wpAny_bind (wpAny_standAt (wpAny_bind (wpAny_holding (wpAny_truthy_bool (k aE aA aD aK aH)))))))
   have on:Jj X op m (e'::es) ao=some (b,J)->∀aE aA aD,Rel W aE ao aA->Step bQ O aE Z.n ao.n s.heap aA->wpAny (model W.pg W.w) A (boolOp pos op (evalEach (e'::es) env)) Q E {s with heap:=aA,toks:=aD}:=λq aE aA aD aK aH=>
    ih (s:={s with heap:=aA,toks:=aD}) q (F.step R aH) aK Q E λa aX aZ aS aY aV k=>z a aX aZ aS aY (aH.trans aV) k
   have off:some (b',ao)=some (b,J)->∀aE aA aD,Rel W aE ao aA->Step bQ O aE Z.n ao.n s.heap aA->wpAny (model W.pg W.w) A (pure (.bool b')) Q E {s with heap:=aA,toks:=aD}:=λq aE aA aD aK aH=>
    have y:=Prod.mk.inj (Option.some.inj q)
    wpAny_pure (z _ aE aA aD (y.2▸aK) (y.2▸aH) (congrArg Value.bool y.1))
   refine go Q E ?_
   revert q on off
   clear go e1
   induction op using BoolOp.casesOn<;>induction b' using Bool.casesOn<;>intro q on off<;>first | exact on q | exact off q
theorem vc(ah:iV W ga ba D X T){op:BoolOp}(rm:bD A D){es:List Expr}:∀{Z J:St}{b:Bool}{O:Mu}{s:Shared},yf T op m es Z=some (b,J)->FR W ga ba env (aI m) O Z.n s.heap->Rel W O Z s.heap->
  az W A bQ (allTrue op es env) O Z s J (λ_ _ r=>r=b):=by
 induction es with
 | nil=>exact λe F R=>dq e (az.wt R rfl)
 | cons e es ih=>
  refine λ{Z J b O s} q F R=>uP (show dc (T e m Z) (λb Z=>bif lV op b then some (b,Z) else yf T op m es Z)=some (b,J) from q) λb' ao e1 q Q E z=>?_
  refine wpAny_bind (ah.Gl e1 rm F R _ E λv aE aA aD aK aH aJ=>?_)
  subst aJ
  have on:yf T op m es ao=some (b,J)->wpAny (model W.pg W.w) A (allTrue op es env) Q E {s with heap:=aA,toks:=aD}:=λq=>
   ih (s:={s with heap:=aA,toks:=aD}) q (F.step R aH) aK Q E λa aX aZ aS aY aV k=>z a aX aZ aS aY (aH.trans aV) k
  have off:some (v,ao)=some (b,J)->wpAny (model W.pg W.w) A (pure v) Q E {s with heap:=aA,toks:=aD}:=λq=>
   have y:=Prod.mk.inj (Option.some.inj q)
   wpAny_pure (z _ aE aA aD (y.2▸aK) (y.2▸aH) y.1)
  revert q on off
  clear e1
  induction op using BoolOp.casesOn<;>induction v using Bool.casesOn<;>intro q on off<;>first | exact on q | exact off q
noncomputable def AH(W:WC)(env:Env)(A:Around)(pos:Pos)(O:Mu)(Z:St)(s:Shared)(ra:Value)(ops:List CmpOp)(rs:List Expr)(b:Bool)(J:St):Prop:=
 az W A bQ (compareChain pos ra ops (evalEach rs env)) O Z s J (cJ W J (.bool b))/\az W A bQ (testChain pos ra ops (evalEach rs env)) O Z s J (λ_ _ r=>r=b)
theorem oB(nn:rC W)(ah:iV W ga ba D X T){pos:Pos}(rm:bD A D){ops:List CmpOp}:∀{rs:List Expr}{a:V}{ra:Value}{Z J:St}{b:Bool}{O:Mu}{s:Shared},Jk X m ops rs a Z=some (b,J)->FR W ga ba env (aI m) O Z.n s.heap->Rel W O Z s.heap->VR W s.heap O Z.n a ra->
  AH W env A pos O Z s ra ops rs b J:=by
 induction ops with
 | nil=>exact nN
 | cons op ops ih=>
  intro rs a ra Z J b O s e F R x
  revert e
  induction rs using List.casesOn with
  | nil=>exact nN
  | cons r rs=>
   refine λe=>uV e λbv ao e1 e=>uO e λc e2 e=>?_
   have go:∀{P:Value->Value->Shared->Prop}{E:Value->Shared->Prop},(∀rb aE aA aD,Rel W aE ao aA->Step bQ O aE Z.n ao.n s.heap aA->VR W aA aE ao.n bv rb->P rb (.bool c) {s with heap:=aA,toks:=aD})->
     wpAny (model W.pg W.w) A (eval r env) (λrb s₁=>wpAny (model W.pg W.w) A (compareOp op ra rb) (λcv ie=>P rb cv ie) E s₁) E s:=λz=>
    ah.val e1 rm F R _ _ λrb aE aA aD aK aH aJ=>uo nn (s:={s with heap:=aA,toks:=aD}) (A:=A) aK (x.step R aH dP) aJ rm bQ e2 _ _ λcv aX aZ aS aY aV cq=>
     (show cv=.bool c from cq)▸z rb aX aZ aS aY (aH.trans aV) (aJ.step aK aV dP)
   clear e1 e2
   revert e ih
   induction ops using List.casesOn with
   | nil=>
    exact λ_ e=>m0 (P:=λrs=>AH W env A pos O Z s ra [op] (r::rs) b J) e λe=>dq e ⟨λQ E z=>PyProof.Rows.chain_last (go (P:=λ_ cv ie=>Q cv ie) λrb aE aA aD aK aH aJ=>z _ _ _ _ aK aH rfl),
     λQ E z=>PyProof.Rows.test_last (go (P:=λ_ cv ie=>wpAny (model W.pg W.w) A (truthy cv) Q E ie) λrb aE aA aD aK aH aJ=>wpAny_truthy_bool (z _ _ _ _ aK aH rfl))⟩
   | cons Nk ops=>
    induction rs using List.casesOn with
    | nil=>exact λ_=>nN
    | cons r' rs=>
     refine λih e=>⟨λQ E z=>PyProof.Rows.chain_link (go (P:=λb' cv ie=>wpAny (model W.pg W.w) A (truthy cv) (λt pJ=>if t then wpAny (model W.pg W.w) A (compareChain pos b' (Nk::ops) (evalEach (r'::rs) env)) Q E pJ else Q cv pJ) E ie) λrb aE aA aD aK aH aJ=>wpAny_truthy_bool ?_),
      λQ E z=>PyProof.Rows.test_link (go (P:=λb' cv ie=>wpAny (model W.pg W.w) A (truthy cv) (λt pJ=>if t then wpAny (model W.pg W.w) A (testChain pos b' (Nk::ops) (evalEach (r'::rs) env)) Q E pJ else Q false pJ) E ie) λrb aE aA aD aK aH aJ=>wpAny_truthy_bool ?_)⟩
     ·revert e
      induction c using Bool.casesOn with
      | false=>exact λe=>have y:=Prod.mk.inj (Option.some.inj e);z _ _ _ _ (y.2▸aK) (y.2▸aH) (congrArg Value.bool y.1)
      | true=>exact λ(e:Jk X m (Nk::ops) (r'::rs) bv ao=some (b,J))=>(ih (s:={s with heap:=aA,toks:=aD}) e (F.step R aH) aK aJ).1 Q E λa aX aZ aS aY aV k=>z a aX aZ aS aY (aH.trans aV) k
     ·revert e
      induction c using Bool.casesOn with
      | false=>exact λe=>have y:=Prod.mk.inj (Option.some.inj e);z _ _ _ _ (y.2▸aK) (y.2▸aH) y.1
      | true=>exact λ(e:Jk X m (Nk::ops) (r'::rs) bv ao=some (b,J))=>(ih (s:={s with heap:=aA,toks:=aD}) e (F.step R aH) aK aJ).2 Q E λa aX aZ aS aY aV k=>z a aX aZ aS aY (aH.trans aV) k
end
section
theorem yP{a b:Int}{xs:List Value}(hx:ItemsOf (λi v=>∃t,v=Value.int (a+(i:Int)*1) t) xs.toArray (b-a).toNat):bq W h O Z.n (fW a b) xs:=by
 have key:∀(l:List Nat)(xs:List Value),xs.length=l.length->(∀(j n:Nat)(v:Value),l[j]?=some n->xs[j]?=some v->∃t,v=Value.int (a+(n:Int)) t)->bq W h O Z.n (l.map λ(i:Nat)=>V.int (a+(i:Int))) xs:=λl=>by
  induction l with
  | nil=>exact λxs hl _=>(List.eq_nil_of_length_eq_zero hl)▸ .nil
  | cons n l ih=>
   intro xs
   induction xs using List.casesOn with
   | nil=>exact λhl=>nomatch hl
   | cons v xs=>exact λhl hv=>.cons ((hv 0 n v rfl rfl).elim λt e=>e▸ .int _ t) (ih xs (Nat.succ.inj hl) λj=>hv (j+1))
 refine key (List.range (b-a).toNat) xs (hx.1.trans (List.length_range).symm) λj n v e1 e2=>(hx.2 j v ((List.getElem?_toArray ..).trans e2)).elim λt ht=>?_
 have lt:j<(b-a).toNat:=Nat.lt_of_lt_of_le (List.getElem?_eq_some_iff.mp e1).1 (Nat.le_of_eq List.length_range)
 exact ⟨t,ht.trans (by rw [Int.mul_one,Option.some.inj ((List.getElem?_range lt).symm.trans e1)])⟩
section
variable(ah:iV W ga ba D X T)(K:Fix W aj ga ba){x g:Str}(hg:kh aj m x=some (.bo g)){args:List Expr}{p pos:Pos}{r:Rs}(rm:bD A D)(F:FR W ga ba env (aI m) O Z.n s.heap)(R:Rel W O Z s.heap){I:List V}{ao:St}
noncomputable def Told(W:WC)(A:Around)(rf:Value)(I:List V)(O:Mu)(Z:St)(s:Shared)(ao J:St)(r:Rs):Prop:=∀rs aE (s₁:Shared),Rel W aE ao s₁.heap->Step bQ O aE Z.n ao.n s.heap s₁.heap->bq W s₁.heap aE ao.n I rs->az W A bQ (call rf rs []) aE ao s₁ J (KR W s.heap r J.n)
include ah K hg rm F R
theorem mz(e1:om X m args Z=some (I,ao))(d:∀rf,W.gv g=some rf->CW W rf/\Told W A rf I O Z s ao J r):az W A bQ (eval (.Call (.Name x p) args [] pos) env) O Z s J (KR W s.heap r J.n):=λQ E z=>
 wpAny_Call_NameR (fk K.Gq hg F R bQ p _ _ λfv aE aA aD aK aH aJ=>have d:=d fv aJ;d.1.go (lg ah (pos:=pos) (env:=env) e1).1 (ee (lg ah (pos:=pos) (env:=env) e1).1
  (fH (s:={s with heap:=aA,toks:=aD}) ah (pos:=pos) rm e1 (F.step R aH) aK _ _ λrs aX aZ aS aY aV cq=>⟨rfl,aY.old,d.2 rs aX {s with heap:=aZ,toks:=aS} aY (aH.trans aV) cq _ _ λa cz ct bR cH b0 dX=>z a cz ct bR cH ((aH.trans aV).trans b0) dX⟩)))
theorem AI{a0:Expr}{a b:Int}(gv:W.gv g=some (.type "list"))(e1:X a0 m Z=some (.src (.kU a b),ao)):az W A bQ (eval (.Call (.Name x p) [a0] [] pos) env) O Z s (ao.alloc (.lst (fW a b))) (KR W s.heap (.val (.ref ao.n)) (ao.n+1)):=λQ E z=>by
 have hs:starEach [a0] env=[(false,eval a0 env)]:=gP ah [] e1
 have Av:(backTo pos (starEach [a0] env)).any (·.1)=false:=by rw [hs];rfl
 refine wpAny_Call_NameR (fk K.Gq hg F R bQ p _ _ λfv aE aA aD aK aH aJ=>(iA aJ gv).symm▸PySem.callWith_type Av (ee Av (wpAny_items_cons ?_ hs)))
 refine ah.src (s:={s with heap:=aA,toks:=aD}) e1 rm (F.step R aH) aK _ _ λra aX aZ aS aY aV cq=>wpAny_items_nil (yh cq λzq b1 b2 b3=>F8 zq λp t u v er hr=>er▸?_)
 have RE:=kr b1 b2 b3
 have RF:(b-a).toNat<=4096:=Int.toNat_le.mpr b1
 refine call_list_range rm.handled hr RE.1 RE.2 (Nat.le_trans RF (by decide)) λG tk nR c' hk hl hi=>?_
 have n2:aZ.get? aZ.objs.size=none:=aL _
 have hlen:(fW a b).length=(b-a).toNat:=(List.length_map _).trans List.length_range
 have y:=aY.alloc (p:=(aZ.objs.size,aZ.objs.size)) (o:=.lst (fW a b)) hk ⟨n2,n2⟩ (uq (rs:=nR.toList) aY hk (hlen▸Nat.le_trans RF (by decide)) (yP hi) hl)
 exact z _ _ _ tk y.1 ((aH.trans aV).trans y.2) (fZ (W:=W) G _ _)
omit ah K hg rm F R
theorem AJ(e:zZ I ao=some (r,J)):Told W A (.type "range") I O Z s ao J r:=λrs aE s₁ aK aH aJ Q E z=>by
 have go:∀{a b:Int}{x y w:Tok}{G:Heap}{tk:Nat},b-a<=4096->a.natAbs<2^60->b.natAbs<2^60->(some (Rs.src (.kU a b),ao):RX)=some (r,J)->G=s₁.heap.push {cls:=.type "range",data:=.fields #[.int a x,.int b y,.int 1 w]}->Q (.ref s₁.heap.objs.size) {s₁ with heap:=G,toks:=tk}:=λ{a b x y w G tk} h1 h2 h3 e eh=>by
  have k:=aK.keeps (G:=G) (λa o e=>eh▸Heap.get?_push_of_some _ e)
  exact dq (P:=λr J=>(∀a aN G tk,Rel W aN J G->Step bQ aE aN ao.n J.n s₁.heap G->KR W s.heap r J.n aN G a->Q a {s₁ with heap:=G,toks:=tk})->Q (.ref s₁.heap.objs.size) {s₁ with heap:=G,toks:=tk}) e (λz=>z _ aE G tk k.1 k.2 ⟨⟨_,_,_,_,rfl,eh▸IsRange.new _ _ _ _ _ _ _⟩,h1,h2,h3⟩) z
 revert e aJ
 induction I using List.casesOn with
 | nil=>exact λe _=>nN e
 | cons v I=>
  refine λe aJ=>vI e λa ea e=>aJ.ic λr t p q=>p.jI ea λta=>?_
  revert e q
  induction I using List.casesOn with
  | nil=>exact λe q=>q.i0 (uI e λhb e=>call_range_1 (go (Int.le_trans (Int.le_of_eq (Int.sub_zero a)) hb.1) (by decide) hb.2 e rfl))
  | cons w I=>exact λe q=>m0 (P:=λI=>bq W s₁.heap aE ao.n (w::I) t->_) e (λe q=>vI e λb eb e=>uI e λhb e=>q.i1 λr p=>p.jI eb λtb=>call_range_2 (go hb.1 hb.2.1 hb.2.2 e rfl)) q
theorem AK(e:z4 I ao=some (r,J)):Told W A (.type "enumerate") I O Z s ao J r:=λrs aE s₁ aK aH aJ=>m1 (P:=λI=>bq W s₁.heap aE ao.n I rs->_) e (λv e aJ=>uR e λk ek e=>qL e λl e0 e=>aJ.i1 λr p=>p.jR ek λqk=>dq e λQ E z=>
 bV (bP aK qk e0).2.2 λrs ep h3 _=>call_enumerate_list (aW h3) λG he hi hz hk=>
  have y:=aK.keeps (G:=G) hk
  have n1:=bK (Nat.le_succ s₁.heap.objs.size)
  have n2:=aL s₁.heap
  z _ _ _ s₁.toks y.1 y.2 ⟨qk,_,_,rfl,Nat.succ_ne_self _,he,hi,⟨aU.fresh aK n1,aU.fresh aK n2⟩,⟨aK.cB n1,aK.cB n2⟩,aH.back n1,aH.back n2⟩) aJ
include ah K rm F R
theorem pR(CS:AG W ak D)(e:ug aj ak X x args m Z=some (r,J)):az W A bQ (eval (.Call (.Name x p) args [] pos) env) O Z s J (KR W s.heap r J.n):=uO e λv hg e=>vG e λg ev e=>by
 subst ev
 have gen:∀{I:List V}{ao:St},om X m args Z=some (I,ao)->ye (lT ak g I ao)=some (r,J)->az W A bQ (eval (.Call (.Name x p) args [] pos) env) O Z s J (KR W s.heap r J.n):=λ{I ao} e1 e2=>
  JZ e2 λv e3=>mz (r:=.val v) ah K hg rm F R e1 λrf gv=>⟨CS.cw e3 gv,λrs aE s₁ aK aH aJ=>CS.cl (s:=s₁) e3 rm aK (.bo gv) aJ⟩
 exact uE e (λeg e=>uP e λI ao e1 e=>mz ah K hg rm F R e1 λrf gv=>Option.some.inj (K.kU.symm.trans (eg▸gv))▸⟨CW.type W _,AJ e⟩)
  λe=>uE e (λeg e=>uP e λI ao e1 e=>mz ah K hg rm F R e1 λrf gv=>Option.some.inj (K.kW.symm.trans (eg▸gv))▸⟨CW.type W _,AK e⟩)
  λe=>uE e (λeg e=>m1 (P:=λargs=>(∀{I:List V}{ao:St},om X m args Z=some (I,ao)->ye (lT ak g I ao)=some (r,J)->az W A bQ (eval (.Call (.Name x p) args [] pos) env) O Z s J (KR W s.heap r J.n))->az W A bQ (eval (.Call (.Name x p) args [] pos) env) O Z s J (KR W s.heap r J.n)) e (λa e gen=>uP e λrr ao e1 e=>by
   revert e e1
   induction rr using Rs.casesOn with
   | val v=>exact λe1 e=>gen (I:=[v]) (ao:=ao) (show bv (X a m Z) _=_ by rw [e1];rfl) (eg▸e)
   | src sr=>
    induction sr using Src.casesOn with
    | kU a b=>exact λe1 e=>dG e (AI ah K hg rm F R (eg▸K.E0.lst) e1)
    | _=>exact λ_=>nN) gen)
  λe=>uP e λI ao e1 e=>gen e1 e
end
end
section
theorem r9{c:Const}{k:Nat}{p:Pos}{v:V}(R:Rel W O Z s.heap):ud c=some v->az W A bQ (eval (.Constant c k p) env) O Z s Z (cJ W Z v):=by
 induction c using Const.casesOn with
 | none=>exact λe=>bG e (az.tok R _ s.toks (λQ E q=>wpAny_Constant_none q) .none)
 | bool b=>exact λe=>bG e (az.tok R _ s.toks (λQ E q=>wpAny_Constant_bool q) (.bool b))
 | int i=>exact λe=>bG e (pD R bQ λQ E q=>wpAny_Constant_int q)
 | str x=>exact λe=>bG e (az.tok R _ (s.toks+1) (λQ E q=>wpAny_Constant_str q) (.str x s.toks))
 | _=>exact nN
theorem d3{o:Expr}{x:Str}(t:Sem Value):dE o=false->attributeBase o x env t=t:=by
 induction o using Expr.casesOn with
 | Call g as ks p=>
  induction g using Expr.casesOn with
  | Name id p'=>
   induction as using List.casesOn with
   | nil=>induction ks using List.casesOn with
    | nil=>
     intro q
     have q:(id==("super":Str))=false:=q
     show (if (id !="super" || _ || _ || _)=true then t else _)=t
     rw [bne,q];rfl
    | cons _ _=>exact λ_=>(rfl:t=t)
   | cons _ _=>exact λ_=>(rfl:t=t)
  | _=>exact λ(_:false=false)=>(rfl:t=t)
 | _=>exact λ(_:false=false)=>(rfl:t=t)
theorem oC(ah:iV W ga ba D X T){e:Option Expr}{v:Option V}(rm:bD A D)(F:FR W ga ba env (aI m) O Z.n s.heap)(R:Rel W O Z s.heap):Nc X e m Z=some (v,J)->
  az W A bQ (evalPart e env) O Z s J (λaN G a=>OV W G aN J.n v a):=by
 induction e using Option.casesOn with
 | none=>exact λq=>dq q (az.wt R rfl)
 | some e=>exact λq=>uV q λv' ao e1 q=>dq q (ah.val e1 rm F R)
theorem vd(ah:iV W ga ba D X T){o:Expr}{x:Str}{apos pos:Pos}{args:List Expr}{ov v:V}{I:List V}{ao aF:St}(h1:dE o=false)(h2:(apos.endLine==pos.line)=true)(h3:args.length<=20)
  (e1:X o m Z=some (.val ov,ao)) (ty:pf ao ov x=true) (e2:om X m args ao=some (I,aF)) (e3:oj x ov I aF=some (v,J)) (rm:bD A D) (F:FR W ga ba env (aI m) O Z.n s.heap) (R:Rel W O Z s.heap):
  az W A bQ (eval (.Call (.Attribute o x apos) args [] pos) env) O Z s J (cJ W J v):=λQ E z=>by
 have ns:=lg ah (pos:=pos) (env:=env) e2
 refine wpAny_Call_method_late (d3 _ h1) (Bool.and_eq_true_iff.mpr ⟨Bool.and_eq_true_iff.mpr ⟨ns.2,rfl⟩,decide_eq_true (Nat.lt_of_le_of_lt h3 (by decide))⟩) h2 rfl (ah.val e1 rm F R _ _ λro aE aA aD aK aH aJ=>?_)
 have aJ:VR W aA aE ao.n ov ro:=aJ
 have fin:∀{id:String},uz ov x=id->wpAny (model W.pg W.w) A (callWith pos (.builtin id) [ro] (backTo pos (starEach args env)) []) Q E {s with heap:=aA,toks:=aD}:=λTC=>
  callWith_builtin ns.1 (ee ns.1 (fH (s:={s with heap:=aA,toks:=aD}) ah (pos:=pos) rm e2 (F.step R aH) aK _ _ λrs aX aZ aS aY aV cq=>TC▸
   rM (s:={s with heap:=aZ,toks:=aS}) aY (aJ.step aK aV dP) cq bQ e3 _ _ λa cz ct bR cH b0 dX=>z a cz ct bR cH ((aH.trans aV).trans b0) dX))
 clear e3 z e1 e2
 revert ty aJ fin
 induction ov using V.casesOn with
 | ref k=>
  refine λty aJ=>aJ.iR λqk fin=>?_
  cases e0:ao.f k with
  | lst l=>
   have ty:(decide (x="append") || decide (x="pop") || decide (x="index"))=true:=(congrArg (λo=>iY o x) e0).symm.trans ty
   refine bV (bP aK qk e0).2.2 λrs ep g3 _=>?_
   have go:∀{id:String},Slot "list" x id->typeOf (.builtin id)=pure (.type "method_descriptor")->uz (.ref k) x=id->MethodOn W.pg W.w A x pos (.ref (aE k).1) (backTo pos (starEach args env)) Q E {s with heap:=aA,toks:=aD}:=λ{id} a b c=>
    ⟨"list",id,PySem.F.plainAttrs_list,a,b,⟨_,g3,rfl⟩,(λa ha=>Value.ref.inj ha▸⟨_,g3,rfl⟩),fin c⟩
   clear fin
   exact (Bool.or_eq_true_iff.mp ty).elim (λty=>(Bool.or_eq_true_iff.mp ty).elim
    (λty=>by have ty:=of_decide_eq_true ty;subst ty;exact go PySem.F.slot_list_append (by show builtinType _=_;rw [builtinType_eq_fast];kernel_rfl) rfl)
    λty=>by have ty:=of_decide_eq_true ty;subst ty;exact go PySem.F.slot_list_pop (by show builtinType _=_;rw [builtinType_eq_fast];kernel_rfl) rfl)
    λty=>by have ty:=of_decide_eq_true ty;subst ty;exact go PySem.F.slot_list_index (by show builtinType _=_;rw [builtinType_eq_fast];kernel_rfl) rfl
  | _=>exact bF ((congrArg (λo=>iY o x) e0).symm.trans ty)
 | str y=>
  refine λty aJ=>aJ.iS λt fin=>?_
  have ty:x="split":=of_decide_eq_true ty
  subst ty
  exact ⟨"str","str.split",PySem.F.plainAttrs_str,PySem.F.slot_str_split,(by show builtinType _=_;rw [builtinType_eq_fast];kernel_rfl),rfl,(λa ha=>nomatch ha),fin rfl⟩
 | _=>exact λty=>bF ty
end
section
section
variable(ah:iV W ga ba D X T)(rm:bD A D)(F:FR W ga ba env (aI m) O Z.n s.heap)(R:Rel W O Z s.heap)
include ah rm F R
theorem sa{o:Expr}{lo hi:Option Expr}{p pos:Pos}{r:Rs}(q:kY X o lo hi m Z=some (r,J)):az W A bQ (eval (.Subscript o (.Slice lo hi none p) pos) env) O Z s J (KR W s.heap r J.n):=
 uV q λov ao e1 q=>uP q λl aF e2 q=>uP q λu aT e3 q=>JZ q λv e4=>uO e4 λq1 b1 e4=>uO e4 λq2 b2 e4=>λQ E z=>by
 refine PyProof.Rows.Subscript_ (ah.val e1 rm F R _ _ λro aE aA aD aK aH aJ=>?_)
 have jX:=F.step R aH
 refine wpAny_Slice (oC (s:={s with heap:=aA,toks:=aD}) ah rm jX aK e2 _ _ λrl aX aZ aS aY aV cq=>?_)
 refine oC (s:={s with heap:=aZ,toks:=aS}) ah rm (jX.step aK aV) aY e3 _ _ λru cz ct bR cH b0 dX=>wpAny_pure ?_
 refine aO (Bd.of b1 cq) λpl p1 e5=>aO (Bd.of b2 dX) λpu p2 e6=>?_
 subst e5
 subst e6
 exact yr (s:={s with heap:=ct,toks:=bR}) cH p1 p2 e4 ((aJ.step aK aV dP).step aY b0 dP) λr gx fe eW iF gU mB=>z r gx fe eW iF (((aH.trans aV).trans b0).trans gU) mB
theorem ve{o i:Expr}{pos:Pos}{r:Rs}(ps:eS i=true)(q:i6 X o i m Z=some (r,J)):az W A bQ (eval (.Subscript o i pos) env) O Z s J (KR W s.heap r J.n):=
 uV q λov ao e1 q=>uV q λiv aF e2 q=>uO q λv e4 q=>dG q λQ E z=>
 PyProof.Rows.Subscript_ (ah.val e1 rm F R _ _ λro aE aA aD aK aH aJ=>ah.val (s:={s with heap:=aA,toks:=aD}) e2 rm (F.step R aH) aK _ _ λri aX aZ aS aY aV cq=>
  rE (s:={s with heap:=aZ,toks:=aS}) ps aY bQ (aJ.step aK aV dP) cq e4 Q E λr gx fe eW iF gU mB=>z r gx fe eW iF ((aH.trans aV).trans gU) mB)
theorem sd(cf:CF W){o:Expr}{x:Str}{pos:Pos}{ov v:V}(sb:dE o=false)(e1:X o m Z=some (.val ov,J))(e2:wh J ov x=some v):az W A bQ (eval (.Attribute o x pos) env) O Z s J (cJ W J v):=λQ E z=>
 PyProof.Rows.Attribute_any_ (ah.val e1 rm F R _ _ λro aE aA aD aK aH aJ=>uS (s:={s with heap:=aA,toks:=aD}) cf e2 aK aJ bQ Q E λr gx fe eW iF gU mB=>z r gx fe eW iF (aH.trans gU) mB) (by rw [arm_eval_Attribute,d3 _ sb])
theorem AL{op:UnaryOp}{x:Expr}{p:Pos}{v:V}{ao:St}{r:Rs}(e1:X x m Z=some (.val v,ao))(q:NZ op v ao=some (r,J)):az W A bQ (eval (.UnaryOp op x p) env) O Z s J (KR W s.heap r J.n):=λQ E z=>by
 refine wpAny_UnaryOp (ah.val e1 rm F R _ _ λra aE aA aD aK aH aJ=>?_)
 have aJ:VR W aA aE ao.n v ra:=aJ
 clear e1
 revert q
 induction op using UnaryOp.casesOn with
 | Not=>exact λq=>uB q λb eb q=>aJ.jB eb (dG (P:=λr J=>(∀a aN G tk,Rel W aN J G->Step bQ O aN Z.n J.n s.heap G->KR W s.heap r J.n aN G a->Q a {s with heap:=G,toks:=tk})->_) q (λz=>yo (s:={s with heap:=aA,toks:=aD}) aK bQ _ _ λa cz ct bR cH b0 dX=>z a cz ct bR cH (aH.trans b0) dX) z)
 | USub=>exact λq=>vI q λb eb q=>aJ.jI eb λt=>dG (P:=λr J=>(∀a aN G tk,Rel W aN J G->Step bQ O aN Z.n J.n s.heap G->KR W s.heap r J.n aN G a->Q a {s with heap:=G,toks:=tk})->_) q (λz=>yp (s:={s with heap:=aA,toks:=aD}) aK bQ _ _ λa cz ct bR cH b0 dX=>z a cz ct bR cH (aH.trans b0) dX) z
 | _=>exact nN
theorem vf(K:Fix W aj ga ba)(CS:AG W ak D){f:Expr}{args:List Expr}{pos:Pos}{r:Rs}:i5 aj ak X f args pos m Z=some (r,J)->az W A bQ (eval (.Call f args [] pos) env) O Z s J (KR W s.heap r J.n):=by
 induction f using Expr.casesOn with
 | Attribute o x apos=>
  refine λq=>uX q λhk q=>uV q λov ao e1 q=>uI q λty q=>uP q λI aF e2 q=>JZ q λv e3=>?_
  have hk:=Bool.or_eq_false_iff.mp hk
  have Go:=Bool.or_eq_false_iff.mp hk.1
  exact vd ah Go.1 (Bool.not_inj (Go.2.trans rfl):(apos.endLine==pos.line)=true) (Nat.le_of_not_lt (of_decide_eq_false hk.2)) e1 ty e2 e3 rm F R
 | Name x p'=>exact λq=>pR ah K rm F R CS q
 | _=>exact nN
theorem ky(K:Fix W aj ga ba)(CS:AG W ak D){e:Expr}{r:Rs}:i7 aj ak X T e m Z=some (r,J)->az W A bQ (eval e env) O Z s J (KR W s.heap r J.n):=by
 induction e using Expr.casesOn with
 | Constant c k p=>exact λq=>uO q λv e1 q=>dG q (r9 R e1)
 | Name x p=>exact λq=>uO q λv e1 q=>dG q (fk K.Gq e1 F R bQ p)
 | BoolOp op I p=>exact λq=>uP (show dc (Jj X op m I Z) (λb Z=>val (.bool b) Z)=some (r,J) from q) λb ao e1 q=>dG q (by rw [arm_eval_BoolOp];exact yO ah rm e1 F R)
 | BinOp l op r' p=>
  exact λq=>uV q λa ao e1 q=>uV q λb aF e2 q=>JZ q λv e3 Q E z=>
   wpAny_BinOp (ah.val e1 rm F R _ _ λra aE aA aD aK aH aJ=>ah.val (s:={s with heap:=aA,toks:=aD}) e2 rm (F.step R aH) aK _ _ λrb aX aZ aS aY aV cq=>
    um (s:={s with heap:=aZ,toks:=aS}) e3 aY (aJ.step aK aV dP) cq bQ _ _ λa cz ct bR cH b0 dX=>z a cz ct bR cH ((aH.trans aV).trans b0) dX)
 | UnaryOp op x p=>exact λq=>uV q λv ao e1 q=>AL ah rm F R e1 q
 | IfExp t b o p=>
  refine λq=>uP (show dc (T t m Z) (λc Z=>bif c then X b m Z else X o m Z)=some (r,J) from q) λOt ao e1 q Q E z=>wpAny_IfExp (ah.Gl e1 rm F R _ _ λc aE aA aD aK aH aJ=>?_)
  subst aJ
  have go:=λ{x:Expr} (q:X x m ao=some (r,J))=>ah.any (s:={s with heap:=aA,toks:=aD}) rm (F.step R aH) aK q Q E λa cz ct bR cH b0 dX=>z a cz ct bR cH (aH.trans b0) (KR.back aH dX)
  clear e1
  revert q
  induction c using Bool.casesOn<;>exact go
 | Dict ks I p=>exact λq=>uP (show dc (yg X m ks I Z) (λp Z=>bC (ff p.1 p.2) λo=>val (.ref Z.n) (Z.alloc o))=some (r,J) from q) λp' ao e1 q=>uO q λo e2 q=>dG q (uW ah K.sm rm e1 e2 F R)
 | List es p=>
  exact λq=>uP (show dc (om X m es Z) (λI Z=>if I.length<=aq then val (.ref Z.n) (Z.alloc (.lst I)) else .none)=some (r,J) from q) λI ao e1 q=>uI q λhl q=>dG q λQ E z=>wpAny_List (fH ah (pos:=p) rm e1 F R _ _ λrs aE aA aD aK aH aJ=>⟨aJ.length▸Nat.le_trans hl (by decide:aq<=sizeLine),
   have y:=aK.alloc (G:=aA.push {cls:=.type "list",data:=.seq rs.toArray}) (p:=(aA.objs.size,aA.objs.size)) (o:=.lst I) (λa o e=>Heap.get?_push_of_some _ e) ⟨aL _,aL _⟩ (kZ (Nat.le_trans hl (Nat.le_add_right _ _)) aJ)
   z _ _ _ aD y.1 (aH.trans y.2) (fZ (W:=W) aA _ _)⟩)
 | Tuple es k p=>
  exact λq=>uP (show dc (om X m es Z) (λI Z=>if I.length<=aq then val (.tup I) Z else .none)=some (r,J) from q) λI ao e1 q=>uI q λhl q=>dG q λQ E z=>wpAny_Tuple (fH ah (pos:=p) rm e1 F R _ _ λrs aE aA aD aK aH aJ=>⟨aJ.length▸Nat.le_trans hl (by decide:aq<=sizeLine),
   have y:=aK.keeps (G:=aA.push {cls:=.type "tuple",data:=.seq rs.toArray}) (λa o e=>Heap.get?_push_of_some _ e)
   z _ _ _ aD y.1 (aH.trans y.2) (VR.tup (e:=0) (Heap.get?_push_size _ rfl) (aJ.up λx=>x.step aK y.2 dP))⟩)
 | ListComp elt gens scope p=>
  exact λq=>J4 (P:=λgens=>az W A bQ (eval (.ListComp elt gens scope p) env) O Z s J (KR W s.heap r J.n)) (show z7 gens (λcb iter ifs=>gK X T elt scope cb iter ifs m Z)=some (r,J) from q) λcb iter ifs q=>uP q λsr ao e1 q=>uI q λhk q=>uP q λI aF e2 q=>
   have hk:=Bool.and_eq_true_iff.mp hk
   have Go:=Bool.and_eq_true_iff.mp hk.1
   dG q (u9 ah e1 Go.1 Go.2 hk.2 e2 rm F R)
 | Compare l ops rs p=>
  exact λq=>uX q λhm q=>uV q λa ao e1 q=>uP q λb aF e2 q=>dG q λQ E z=>by
   rw [arm_eval_Compare,PyProof.Rows.markedEach_of_false _ _ _ hm]
   exact wpAny_bind (ah.val e1 rm F R _ _ λra aE aA aD aK aH aJ=>(oB (s:={s with heap:=aA,toks:=aD}) K.E0.nn ah rm e2 (F.step R aH) aK aJ).1 _ _ λa cz ct bR cH b0 dX=>z a cz ct bR cH (aH.trans b0) dX)
 | Call f args ks pos=>exact λq=>m0 (P:=λks=>az W A bQ (eval (.Call f args ks pos) env) O Z s J (KR W s.heap r J.n)) (show l0 ks (i5 aj ak X f args pos m Z)=some (r,J) from q) λq=>vf ah rm F R K CS q
 | Attribute o x p=>exact λq=>uX q λsb q=>uV q λov ao e1 q=>uO q λv e2 q=>dG q (sd ah rm F R K.cf sb e1 e2)
 | Subscript o i p=>exact λq=>F6 (P:=λi=>az W A bQ (eval (.Subscript o i p) env) O Z s J (KR W s.heap r J.n)) (show iw i (i6 X o i m Z) (λlo hi=>kY X o lo hi m Z)=some (r,J) from q) (λlo hi p' q=>sa ah rm F R q) λq ps=>ve ah rm F R ps q
 | _=>exact nN
end
end
section
section
variable(nn:rC W)(ah:iV W ga ba D X T)(rm:bD A D)(F:FR W ga ba env (aI m) O Z.n s.heap)(R:Rel W O Z s.heap){b:Bool}
include ah rm F R
theorem kz{e:Expr}(he:PySem.isTrue e env (eval e env)=(do let v<-eval e env;standAt e.pos;holding [v] (truthy v)))(q:bZ X e m Z=some (b,J)):az W A bQ (PySem.isTrue e env (eval e env)) O Z s J (λ_ _ r=>r=b):=Rj q λb' ao e1 q=>dq q λQ E z=>
 wpAny_isTrue_value (ah.val e1 rm F R _ _ λra aE aA aD aK aH aJ=>VR.iB (show VR W aA aE ao.n (.bool b') ra from aJ) (wpAny_truthy_bool (z _ _ _ _ aK aH rfl))) he
include nn
theorem se{e:Expr}:stepT X T e m Z=some (b,J)->az W A bQ (PySem.isTrue e env (eval e env)) O Z s J (λ_ _ r=>r=b):=by
 induction e using Expr.casesOn with
 | UnaryOp op x p=>
  induction op using UnaryOp.casesOn with
  | Not=>
   exact λq=>uP (show dc (T x m Z) (λb Z=>some (!b,Z))=some (b,J) from q) λb' ao e1 q=>dq q λQ E z=>wpAny_isTrue_Not (ah.Gl e1 rm F R _ _ λc aE aA aD aK aH aJ=>z _ _ _ _ aK aH (congrArg _ aJ))
  | _=>exact kz ah rm F R rfl
 | BoolOp op I p=>exact λq Q E z=>wpAny_isTrue_BoolOp (vc ah rm q F R Q E z)
 | Compare l ops rs p=>
  refine λq=>uX q λhm q=>uV q λa ao e1 q Q E z=>?_
  rw [arm_isTrue_Compare,PyProof.Rows.markedEach_of_false _ _ _ hm]
  exact wpAny_bind (ah.val e1 rm F R _ _ λra aE aA aD aK aH aJ=>(oB (s:={s with heap:=aA,toks:=aD}) nn ah rm q (F.step R aH) aK aJ).2 _ _ λa cz ct bR cH b0 dX=>z a cz ct bR cH (aH.trans b0) dX)
 | IfExp t b o p=>exact nN
 | _=>exact kz ah rm F R rfl
end
theorem mD(K:Fix W aj ga ba)(CS:AG W ak D)(n:Nat):iV W ga ba D (i8 aj ak n) (ki aj ak n):=by
 induction n with
 | zero=>exact ⟨nN,nN,nN,rfl,rfl⟩
 | succ n ah=>exact
  {val:=λe rm F R=>ky ah rm F R K CS (r:=.val _) e
   src:=λe rm F R=>ky ah rm F R K CS (r:=.src _) e
   Gl:=λe rm F R=>se K.E0.nn ah rm F R e
   EX:=λ{_ _ _ _ _}=>rfl
   noStar:=λ{_ _ _ _}=>rfl}
end
noncomputable def Js(W:WC)(h:Heap)(O:Mu)(n:Nat)(c:Fl)(r:Flow):Prop:=Fl.casesOn c (r=.next) (r=.brk) λv=>∃a,r=.ret a/\VR W h O n v a
noncomputable def SK(W:WC)(ga ba:Addr)(env:Env)(fl:Fl)(m':Ms)(J:St):Mu->Heap->Flow->Prop:=λaN G r=>Js W G aN J.n fl r/\FR W ga ba env (aI m') aN J.n G
structure SY (W:WC) (ga ba:Addr) (D:Nat) (Y:Stmt->Ms->St->Option (Fl×Ms×St)):Prop where
 ok:∀{st:Stmt}{m m':Ms}{Z J:St}{fl:Fl}{A:Around}{env:Env}{O:Mu}{s:Shared},Y st m Z=some (fl,m',J)->bD A D->FR W ga ba env (aI m) O Z.n s.heap->Rel W O Z s.heap->az W A (FR.X env) (exec st env) O Z s J (SK W ga ba env fl m' J)
section
section
variable(HY:SY W ga ba D Y)(rm:bD A D)
include HY rm
theorem fJ{ss:List Stmt}:∀{m m':Ms}{Z J:St}{fl:Fl}{O:Mu}{s:Shared},fG Y ss m Z=some (fl,m',J)->FR W ga ba env (aI m) O Z.n s.heap->Rel W O Z s.heap->
  az W A (FR.X env) (execs ss env) O Z s J (SK W ga ba env fl m' J):=by
 induction ss with
 | nil=>exact λ{m m' Z J fl O s} e F R=>rk e λQ E z=>wpAny_execs_nil (z _ O s.heap s.toks R (Step.refl _ _ _ _) ⟨rfl,F⟩)
 | cons st ss ih=>
  refine λ{m m' Z J fl O s} e F R=>uO e λp e1 e Q E z=>?_
  rw [execs_cons]
  refine wpAny_bind (HY.ok e1 rm F R _ E λr aE aA aD aK aH aJ=>?_)
  obtain ⟨c,m₁,ao⟩:=p
  clear e1
  revert e aJ
  induction c using Fl.casesOn with
  | next=>exact λe aJ=>(show r=.next from aJ.1)▸ih (s:={s with heap:=aA,toks:=aD}) e aJ.2 aK Q E λr aX aZ aS aY aV cq=>z r aX aZ aS aY (aH.trans aV) cq
  | brk=>exact λe aJ=>(show r=.brk from aJ.1)▸wpAny_pure (rk (P:=λc m' J=>(∀a aN G tk,Rel W aN J G->Step (FR.X env) O aN Z.n J.n s.heap G->SK W ga ba env c m' J aN G a->Q a {s with heap:=G,toks:=tk})->Q .brk {s with heap:=aA,toks:=aD}) e (λz=>z _ aE aA aD aK aH ⟨rfl,aJ.2⟩) z)
  | ret v=>exact λe aJ=>aO aJ.1 λa er xv=>er▸wpAny_pure (rk (P:=λc m' J=>(∀a aN G tk,Rel W aN J G->Step (FR.X env) O aN Z.n J.n s.heap G->SK W ga ba env c m' J aN G a->Q a {s with heap:=G,toks:=tk})->Q (.ret a) {s with heap:=aA,toks:=aD}) e (λz=>z _ aE aA aD aK aH ⟨⟨a,rfl,xv⟩,aJ.2⟩) z)
omit HY rm
noncomputable def RG(again:Prop)(RR:Flow->Prop)(f:Flow):Prop:=match f with
 | .next | .cont=>again
 | .brk=>RR .next
 | .ret v=>RR (.ret v)
theorem mE{c:Fl}{m₁:Ms}{ao:St}{rec:Option (Fl×Ms×St)}{again:Prop}{RR:Flow->Prop}{r:Flow}(f:Js W h O ao.n c r)(g:rec=some (fl,m',J)->again)(z:∀r,m₁=m'->ao=J->Js W h O ao.n fl r->RR r):
  iu c rec (some (.next,m₁,ao)) (λ_=>some (c,m₁,ao))=some (fl,m',J)->RG again RR r:=by
 revert f
 induction c using Fl.casesOn with
 | next=>exact λf e=>(show r=.next from f)▸g e
 | brk=>exact λf e=>(show r=.brk from f)▸rk (P:=λc m' J=>(∀r,m₁=m'->ao=J->Js W h O ao.n c r->RR r)->RR .next) e (λz=>z _ rfl rfl rfl) z
 | ret v=>exact λf e=>aO f λa er x=>er▸rk (P:=λc m' J=>(∀r,m₁=m'->ao=J->Js W h O ao.n c r->RR r)->RR (.ret a)) e (λz=>z _ rfl rfl ⟨a,rfl,x⟩) z
noncomputable def ZE(W:WC)(ga ba:Addr)(env:Env)(O:Mu)(n:Nat)(h:Heap)(fl:Fl)(m':Ms)(J:St)(RR:Result->Shared->Prop)(s:Shared):Prop:=∀r aN G tk,Rel W aN J G->Step (FR.X env) O aN n J.n h G->SK W ga ba env fl m' J aN G r->RR (.ok r) {s with heap:=G,toks:=tk}
include HY rm
theorem pS(ah:iV W ga ba D X T){t:Expr}{b:List Stmt}{n:Nat}(e:dn (T t) (fG Y b) n m Z=some (fl,m',J))(F:FR W ga ba env (aI m) O Z.n s.heap)(R:Rel W O Z s.heap){RR:Result->Shared->Prop}
  (z:ZE W ga ba env O Z.n s.heap fl m' J RR s):codeAny (model W.pg W.w) A (.whileLoop t b [] env) RR s:=by
 refine codeAny_whileLoop (λk s'=>∃mm ao aE aA aD,s'={s with heap:=aA,toks:=aD}/\dn (T t) (fG Y b) k mm ao=some (fl,m',J)/\FR W ga ba env (aI mm) aE ao.n aA/\Rel W aE ao aA/\Step (FR.X env) O aE Z.n ao.n s.heap aA) (λk s' i=>Ka i λmm ao aE aA aD es e F R S=>?_) n ⟨m,Z,O,s.heap,s.toks,rfl,e,F,R,Step.refl _ _ _ _⟩
 subst es
 revert e
 induction k using Nat.casesOn with
 | zero=>exact nN
 | succ k=>
  refine λe=>uP (show dc (T t mm ao) (λc Z=>bif c then bC (fG Y b mm Z) (λp=>iu p.1 (dn (T t) (fG Y b) k p.2.1 p.2.2) (some (.next,p.2)) λ_=>some p) else some (.next,mm,Z))=some (fl,m',J) from e) λc aF e1 e=>?_
  refine ah.Gl (s:={s with heap:=aA,toks:=aD}) e1 rm F R _ _ λc' aX aZ aS aY aV cq=>?_
  subst cq
  have gA:=F.step R aV
  have S2:=S.trans (aV.widen (Y:=FR.X env) λ_ f=>f.elim)
  clear e1
  revert e
  induction c' using Bool.casesOn with
  | false=>exact λe=>wpAny_execs_nil (rk (P:=λfl m' J=>ZE W ga ba env O Z.n s.heap fl m' J RR s->RR (.ok .next) {s with heap:=aZ,toks:=aS}) e (λz=>z _ aX aZ aS aY S2 ⟨rfl,gA⟩) z)
  | true=>
   exact λe=>uO e λp e2 e=>fJ (s:={s with heap:=aZ,toks:=aS}) HY rm e2 gA aY _ _ λr cz ct bR cH b0 dX=>
    mE (again:=∃j,j<k+1/\_) (RR:=λf=>RR (.ok f) {s with heap:=ct,toks:=bR}) dX.1 (λe=>⟨k,Nat.lt_succ_self _,p.2.1,p.2.2,cz,ct,bR,rfl,e,dX.2,cH,S2.trans b0⟩)
     (λr em es f=>z r cz ct bR (es▸cH) (es▸S2.trans b0) ⟨es▸f,em▸es▸dX.2⟩) e
omit HY rm
theorem Step.narrow{aa U:Addr->Prop}{n n':Nat}(S:Step aa O aN n n' h G)(x:∀a,aa a->¬U a->h.get? a=none):Step U O aN n n' h G:=
 ⟨S.le,S.same,λa o e no nu=>S.keep a o e no λza=>nN ((x a za nu).symm.trans e),S.fresh,S.jP⟩
noncomputable def FP(W:WC)(A:Around)(env:Env)(t:Expr)(b:List Stmt)(nE:Value->Shared->Prop)(again:Shared->Prop)(RR:Flow->Shared->Prop)(rv:Value)(s:Shared):Prop:=
 wpAny (model W.pg W.w) A (assign t env rv) (λ_ s=>wpAny (model W.pg W.w) A (execs b env) (λf s=>RG (again s) (λf=>RR f s) f) nE s) nE s
theorem sj{t:Expr}{b:List Stmt}{ag:Addr}{R:Result->Shared->Prop}(Inv:Nat->Shared->Prop)
  (turn:∀n s,Inv n s->wpAny (model W.pg W.w) A (pyNext (.ref ag)) (NX W A t ag (R (.ok .next)) (FP W A env t b (notedBy (model W.pg W.w) A env λe s'=>R (.error e) s') (λs=>∃j,j<n/\Inv j s) λf=>R (.ok f)) (notedBy (model W.pg W.w) A env λe s'=>R (.error e) s')) (notedBy (model W.pg W.w) A env λe s'=>R (.error e) s') s)
  (n:Nat) (h:Inv n s):codeAny (model W.pg W.w) A (.forLoop t (.ref ag) b [] env) R s:=
 codeAny_forLoop_any Inv (λn s i=>wpAny_mono (turn n s i) (λr s₁=>by
  induction r using Option.casesOn with
  | none=>exact λh=>wpAny_execs_nil (show R (.ok .next) s₁ from h)
  | some rv=>exact λh=>h) λ_ _ f=>f) n h
include HY rm
theorem vg{t:Expr}{b:List Stmt}{sr:Src}{n i:Nat}{ag:Addr}{fp:List Addr}{bM:Heap}{bN:Mu}{dY:Nat}(AE:sr.ok t=true)(e:cK sr (Mine.forTurn Y t b) n i m Z=some (fl,m',J))
  (F:FR W ga ba env (aI m) O Z.n s.heap) (R:Rel W O Z s.heap) (Ou:rY W O Z.n s.heap sr i ag fp) (Ov:Step bQ bN O dY Z.n bM s.heap) (zN:∀a,a∈fp->bM.get? a=none) (nf:∀a,a∈fp->¬FR.X env a) {RR:Result->Shared->Prop}
  (z:ZE W ga ba env bN dY bM fl m' J RR s):codeAny (model W.pg W.w) A (.forLoop t (.ref ag) b [] env) RR s:=by
 refine sj (λk s'=>∃j mm ao aE aA aD,s'={s with heap:=aA,toks:=aD}/\cK sr (Mine.forTurn Y t b) k j mm ao=some (fl,m',J)/\FR W ga ba env (aI mm) aE ao.n aA/\Rel W aE ao aA/\rY W aE ao.n aA sr j ag fp/\Step (λa=>FR.X env a\/a∈fp) bN aE dY ao.n bM aA)
  (λk s' i=>N7 i λj mm ao aE aA aD es e F R IT S=>?_) n ⟨i,m,Z,O,s.heap,s.toks,rfl,e,F,R,Ou,Ov.widen λ_ f=>f.elim⟩
 subst es
 have RH:∀{aN:Mu}{n':Nat}{G:Heap},Step (λa=>FR.X env a\/a∈fp) bN aN dY n' bM G->Step (FR.X env) bN aN dY n' bM G:=λS=>S.narrow λa za nu=>za.elim (λza=>absurd za nu) (zN a)
 revert e
 induction k using Nat.casesOn with
 | zero=>exact nN
 | succ k=>
  refine λe=>uO e λo e1 e=>?_
  revert e1 e
  induction o using Option.casesOn with
  | none=>
   exact λe1 e=>rZ (s:={s with heap:=aA,toks:=aD}) IT R rm e1 λG tk R' k=>rk (P:=λfl m' J=>ZE W ga ba env bN dY bM fl m' J RR s->RR (.ok .next) {s with heap:=G,toks:=tk}) e (λz=>z _ aE G tk R' ((RH S).ends (fp:=fp) k zN)
    ⟨rfl,F.at (λx=>x.mono (λa rs e z=>k a _ (λw=>(IT.tt w).2 rs e z) z) (λ_ _=>rfl) (Nat.le_refl _)) λa o fa ea=>k a o (λw=>nf a w fa) ea⟩) z
  | some v=>
   refine λe1 e=>ox (s:={s with heap:=aA,toks:=aD}) IT R AE e1 λrv aZ aS aY aV xv u6=>uO e λp e2 e=>uO e2 λAM e3 e2=>?_
   have gA:=F.i7 R aV (λa rs e ha=>(IT.tt ha).2 rs e) (λa fa ha=>nf a ha fa)
   have S2:=S.trans (aV.widen (Y:=λa=>FR.X env a\/a∈fp) λa ha=>.inr ha)
   have fw:∀{aE aX:Mu}{Dl Kq:Nat}{aA aZ:Heap},Step (FR.X env) aE aX Dl Kq aA aZ->Step (λa=>FR.X env a\/a∈fp) aE aX Dl Kq aA aZ:=λS=>S.widen λa ha=>.inl ha
   refine gc (s:={s with heap:=aZ,toks:=aS}) rm e3 gA aY xv _ _ λ_ cz ct bR cH b0 AN=>?_
   have Dk:=u6.step aY b0 (λa rs e fa=>gA.u5 fa) nf
   refine fJ (s:={s with heap:=ct,toks:=bR}) HY rm e2 AN cH _ _ λr gx fe eW iF gU mB=>?_
   have S4:=(S2.trans (fw b0)).trans (fw gU)
   exact mE (again:=∃j,j<k+1/\_) (RR:=λf=>RR (.ok f) {s with heap:=fe,toks:=eW}) mB.1 (λe=>⟨k,Nat.lt_succ_self _,j+1,p.2.1,p.2.2,gx,fe,eW,rfl,e,mB.2,iF,Dk.step cH gU (λa rs e fa=>AN.u5 fa) nf,S4⟩)
    (λr em es f=>z r gx fe eW (es▸iF) (es▸RH S4) ⟨es▸f,em▸es▸mB.2⟩) e
end
end
noncomputable def ly(es:List Expr):List Str->Prop:=List.rec (λns=>ns=[]) (λe _ q ns=>∃x p t,e=.Name x p/\ns=x::t/\q t) es
noncomputable def mF(g:Str->Pos->Bool)(e:Expr):Option Str:=match e with | .Name id pos=>if g id pos=true then some id else none | _=>none
theorem yQ{g:Str->Pos->Bool}{e:Expr}{x:Str}:mF g e=some x->∃p,e=.Name x p:=by
 induction e using Expr.casesOn<;>first | exact λq=>uI q λ_ q=>bG q ⟨_,rfl⟩ | exact nN
theorem mG{g:Str->Pos->Bool}{es:List Expr}:(es.filterMap (mF g)).length=es.length->ly es (es.filterMap (mF g)):=by
 induction es with
 | nil=>exact λ_=>rfl
 | cons e es ih=>
  rw [List.filterMap_cons]
  cases h:mF g e with
  | none=>exact λhl=>absurd (hl▸List.length_filterMap_le (mF g) es) (Nat.not_succ_le_self _)
  | some x=>exact λhl=>(yQ h).elim λp e=>⟨x,p,_,e,rfl,ih (Nat.succ.inj hl)⟩
theorem pT(n:Nat):∀(l:List Str),l.length<=n->l.eraseDups.length<=l.length:=by
 induction n with
 | zero=>exact λl h=>List.eq_nil_of_length_eq_zero (Nat.le_zero.mp h)▸Nat.le_refl _
 | succ n ih=>
  intro l
  induction l using List.casesOn with
  | nil=>exact λ_=>Nat.le_refl _
  | cons a l=>
   intro hl
   rw [List.eraseDups_cons]
   have h1:=List.length_filter_le (λb=> !b==a) l
   exact Nat.succ_le_succ (Nat.le_trans (ih _ (Nat.le_trans h1 (Nat.le_of_succ_le_succ hl))) h1)
theorem kJ(l:List Str):l.eraseDups.length=l.length->l.Nodup:=by
 induction l with
 | nil=>exact λ_=>.nil
 | cons a l ih=>
  intro hl
  rw [List.eraseDups_cons] at hl
  have hl:=Nat.succ.inj hl
  have h1:=List.length_filter_le (λb=> !b==a) l
  have h2:=pT _ (l.filter λb=> !b==a) (Nat.le_refl _)
  have h3:=List.length_filter_eq_length_iff.mp (Nat.le_antisymm h1 (hl▸h2))
  rw [List.filter_eq_self.mpr h3] at hl
  exact List.nodup_cons.mpr ⟨λw=>bF ((by rw [beq_self_eq_true];rfl:(!a==a)=false).symm.trans (h3 a w)),ih hl⟩
noncomputable def Jt(es:List Expr)(x:Sem (Option (List Str))):Prop:=x=pure none\/∃names:List Str,x=pure (some names)/\names.Nodup/\ly es names
theorem nS{es:List Expr}{k:Nat}{p:Pos}{e:Expr}{env:Env}:iZ e=true->Jt es (swappedStores [.Tuple es k p] e env):=by
 induction e using Expr.casesOn with
 | Tuple I k' p'=>
  intro sf
  have TF:I.all (constantsAlone 8)=false:=(Bool.not_not (I.all _)).symm.trans (congrArg Bool.not sf)
  refine dv (P:=Jt es) (λ_=>.inl rfl) λ_=>dv (P:=Jt es) (λ_=>.inl rfl) λ_=>dv (P:=Jt es) (λ_=>.inl rfl) λh3=>dv (P:=Jt es) (λ_=>.inl rfl) λ_=>dv (P:=Jt es) (λh=>bF (TF.symm.trans h)) λ_=>?_
  have h:=Bool.or_eq_false_iff.mp (Bool.eq_false_iff.mpr h3)
  exact .inr ⟨_,rfl,kJ _ (bne_eq_false_iff_eq.mp h.2),mG (bne_eq_false_iff_eq.mp h.1)⟩
 | _=>exact λ_=>.inl rfl
section
abbrev T3:=Str×V×Value
def gf(m:Ms)(l:List T3):Ms:=l.foldl (λm p=>bA m p.1 p.2.1) m
theorem eZ{y:Str}(l:List T3):∀{m:Ms},y∉l.map (·.1)->aI (gf m l) y=aI m y:=by
 induction l with
 | nil=>exact λ_=>rfl
 | cons p l ih=>exact λhn=>(ih λw=>hn (.tail _ w)).trans ((cT ..).trans (if_neg λ(e:y=p.1)=>hn (e▸ .head _)))
theorem iG{p:T3}(l:List T3):∀{m:Ms},(l.map (·.1)).Nodup->p∈l->aI (gf m l) p.1=some p.2.1:=by
 induction l with
 | nil=>exact λ_ hz=>absurd hz List.not_mem_nil
 | cons q l ih=>
  intro m nd hm
  have nd:=List.nodup_cons.mp nd
  exact (List.mem_cons.mp hm).elim (λe=>by subst e;exact (eZ l nd.1).trans ((cT ..).trans (if_pos rfl))) λhm=>ih nd.2 hm
theorem mH{l:List T3}(nd:(l.map (·.1)).Nodup)(m:Ms)(y:Str):aI (gf m l.reverse) y=aI (gf m l) y:=by
 have er:l.reverse.map (·.1)=(l.map (·.1)).reverse:=List.map_reverse
 by_cases q:y∈l.map (·.1)
 ·exact (List.mem_map.mp q).elim λp hp=>hp.2▸(iG _ (er▸(List.reverse_perm _).nodup_iff.mpr nd) (List.mem_reverse.mpr hp.1)).trans (iG _ nd hp.1).symm
 ·exact (eZ _ λw=>q (List.mem_reverse.mp (er▸w))).trans (eZ _ q).symm
def jY(m:Ms)(x:Str):Prop:=x≠br/\∃u,aI m x=some u/\eJ u=false
theorem sq{x:Str}{v:V}(c:jY m x):setName m x v=some (bA m x v):=
 aO c.2 λu e1 hu=>by
  unfold setName
  rw [if_neg c.1,e1]
  exact congrArg (λb=>bif b then Option.none else some (bA m x v)) hu
theorem jY.bA{x y:Str}{v:V}(c:jY m x)(hv:eJ v=false):jY (Mine.bA m y v) x:=
 ⟨c.1,(cT m y x v).symm▸dv (P:=λo=>∃u,o=some u/\eJ u=false) (λ_=>⟨v,rfl,hv⟩) λ_=>c.2⟩
noncomputable def NB(W:WC)(h:Heap)(O:Mu)(k:Nat)(m m':Ms)(ns:List Str)(rs:List Value):Prop:=∃l:List T3,ns=l.map (·.1)/\rs=l.map (·.2.2)/\(∀p,p∈l->VR W h O k p.2.1 p.2.2/\jY m p.1)/\m'=gf m l
theorem vh{n k:Nat}(es:List Expr):∀{ns:List Str}{I:List V}{rs:List Value}{m m':Ms},ly es ns->bq W h O k I rs->eM (dy (n+1)) es I m=some m'->NB W h O k m m' ns rs:=by
 induction es with
 | nil=>exact λ{ns I rs m m'} en x e=>m0 (P:=λI=>bq W h O k I rs->NB W h O k m m' ns rs) e (λe x=>bG e (x.i0 ⟨[],en,rfl,λp hp=>absurd hp List.not_mem_nil,rfl⟩)) x
 | cons t es ih=>
  refine λ{ns I rs m m'} en x eb=>fu (P:=λI=>bq W h O k I rs->NB W h O k m m' ns rs) eb (λv I m₁ e1 e x=>x.ic λr rs p x=>pz (show∃x p r,t=.Name x p/\ns=x::r/\ly es r from en) λy q ns et TG hn=>?_) x
  subst et TG
  refine iE (P:=λm₁=>eM (dy (n+1)) es I m₁=some m'->NB W h O k m m' (y::ns) (r::rs)) e1 (λu hy e1 hu e=>Ab (ih hn x e) λl h1 h2 h3 h4=>?_) e
  refine ⟨(y,v,r)::l,congrArg _ h1,congrArg _ h2,λp' hq=>(List.mem_cons.mp hq).elim (λe=>e▸⟨p,hy,u,e1,hu⟩) λhq=>⟨(h3 p' hq).1,(h3 p' hq).2.1,aO (h3 p' hq).2.2 λw g2 g3=>?_⟩,h4⟩
  by_cases z:p'.1=y
  ·exact ⟨u,z▸e1,hu⟩
  ·exact ⟨w,((cT ..).trans (if_neg z)).symm.trans g2,g3⟩
theorem pU(l:List T3):∀{m:Ms}{O:Mu}{s:Shared},(∀p,p∈l->VR W s.heap O Z.n p.2.1 p.2.2/\jY m p.1)->FR W ga ba env (aI m) O Z.n s.heap->Rel W O Z s.heap->
  az W A (FR.X env) (assignInOrder (l.map λp=>bindName env p.1) (l.map (·.2.2))) O Z s Z (λaN G _=>FR W ga ba env (aI (gf m l)) aN Z.n G):=by
 induction l with
 | nil=>exact λc F R=>az.wt R F
 | cons p l ih=>
  refine λ{m O s} c F R Q E z=>?_
  have c1:=c p (.head _)
  show wpAny _ _ (do holding (l.map (·.2.2)) (bindName env p.1 p.2.2);assignInOrder (l.map λp=>bindName env p.1) (l.map (·.2.2))) Q E s
  exact wpAny_bind (wpAny_holding (wpAny_bindName (dJ (sq c1.2) F R c1.1 _ _ λ_ aE aA aD aK aH jX=>ih (s:={s with heap:=aA,toks:=aD}) (m:=bA m p.1 p.2.1) (λq hq=>⟨(c q (.tail _ hq)).1.step R aH λa rs e fa=>F.u5 fa,(c q (.tail _ hq)).2.bA c1.1.jf⟩) jX aK Q E λ_ aX aZ aS aY aV gA=>z _ aX aZ aS aY (aH.trans aV) gA)))
theorem mI(ah:iV W ga ba D X T){es:List Expr}{k:Nat}{p pos:Pos}{e:Expr}{v:V}(sf:iZ e=true)(e1:X e m Z=some (.val v,J))(e2:dy 4 (.Tuple es k p) v m=some m')
  (rm:bD A D) (F:FR W ga ba env (aI m) O Z.n s.heap) (R:Rel W O Z s.heap):az W A (FR.X env) (exec (.Assign [.Tuple es k p] e pos) env) O Z s J (SK W ga ba env .next m' J):=λQ E z=>by
 have sw:swapsWithSole [.Tuple es k p] e pos.line env=pure false:=by induction e using Expr.casesOn<;>rfl
 refine (nS (env:=env) (es:=es) (k:=k) (p:=p) sf).elim (λh1=>PyProof.Rows.Assign_Tuple (ah.val e1 rm F R _ _ λr aE aA aD aK aH aJ=>?_) sw h1) λhh=>bJ hh λnames h1 nd hn=>PyProof.Rows.Assign_Tuple_swapped (ah.val e1 rm F R _ _ λr aE aA aD aK aH aJ=>?_) sw h1
 ·exact gc (s:={s with heap:=aA,toks:=aD}) rm e2 (F.step R aH) aK aJ _ _ λ_ aX aZ aS aY aV gA=>z _ aX aZ aS aY ((aH.widen λ_ f=>f.elim).trans aV) ⟨rfl,gA⟩
 ·refine kT (P:=λv=>VR W aA aE J.n v r->_) e2 (λI e2 aJ=>aJ.iT λrs a ep ha xs=>Ab (vh es hn xs (show eM (dy 3) es I m=some m' from e2)) λl l1 l2 l3 l4=>?_) aJ
  subst l1 l2
  rw [(by rw [List.length_map];exact (List.length_map ..).symm:(l.map (·.1)).length=(l.map (·.2.2)).toArray.size)]
  refine PyProof.Rows.unpackItems_tuple (s:={s with heap:=aA,toks:=aD}) rm.handled (iz ha) λG hx=>?_
  have kp:∀a o,aA.get? a=some o->G.get? a=some o:=λa o ea=>hx a o (Nat.ne_of_lt (Heap.lt_size ea)) ea
  have y:=aK.keeps kp
  have S1:=aH.trans y.2
  rw [(by rw [<-List.map_reverse,List.map_map];rfl:((l.map (·.1)).reverse.map λn=>bindName env n)=l.reverse.map λp=>bindName env p.1),(List.map_reverse.symm:(l.map (·.2.2)).toArray.toList.reverse=l.reverse.map (·.2.2))]
  exact pU (s:={s with heap:=G,toks:=aD}) (m:=m) l.reverse (λq hq=>⟨(l3 q (List.mem_reverse.mp hq)).1.mono (λa rs e q=>kp _ _ q) (λ_ _=>rfl) (Nat.le_refl _),(l3 q (List.mem_reverse.mp hq)).2⟩) (F.step R S1) y.1 _ _
   λ_ aX aZ aS aY aV gA=>z _ aX aZ aS aY ((S1.widen λ_ f=>f.elim).trans aV) ⟨rfl,l4▸gA.congr λx=>(mH nd m x).symm⟩
end
theorem AO{prog:Program}{w:World}{A:Around}{E:Value->Shared->Prop}{s:Shared}{z TI TO i1 l1:Addr}{x2:Value}{k1:Nat}{xs:Array Value}{Q:Option Value->Shared->Prop}(hh:A.handled=none)
  (d1:i1≠z) (d2:l1≠z) (hz:IsZip s.heap z TI TO .none) (Ju:IsPair s.heap TI (.ref i1) x2) (h1:s.heap.IsListIter i1 l1 k1) (AP:s.heap.IsList l1 xs) (hx:xs[k1]?=none)
  (hQ:∀G,(∀c o,c≠z->c≠i1->s.heap.get? c=some o->G.get? c=some o)->Q none {s with heap:=G}):wpAny (model prog w) A (pyNext (.ref z)) Q E s:=by
 have hT:s.TypeIs (.ref z) "zip":=⟨_,hz,rfl⟩
 have body:wpAny (model prog w) A.in1 (Builtin.«zip.__next__» ⟨[.ref z],[]⟩) (λ_ _=>False) (λe s'=>∃G ad o,e=.ref ad/\s'={s with heap:=G}/\(∀c o,c≠z->c≠i1->s.heap.get? c=some o->G.get? c=some o)/\G.get? ad=some o/\o.cls=.type "StopIteration") s:=by
  show wpAny _ _ (field (.ref z) 2>>=_) _ _ _
  refine wpAny_bind (wpAny_field hz rfl (x:=.bool false) rfl ?_)
  show wpAny _ _ (field (.ref z) 3>>=_) _ _ _
  refine wpAny_bind (wpAny_field hz rfl (x:=.ref TI) rfl (wpAny_bind (wpAny_seqItems Ju rfl ?_)))
  show wpAny _ _ (Builtin.SmallTypes.ownedTupleIsFree (.ref z)>>=_) _ _ _
  unfold Builtin.SmallTypes.ownedTupleIsFree
  refine wpAny_bind (wpAny_bind (wpAny_field hz rfl (x:=.none) rfl (wpAny_pure ?_)))
  simp only [if_true]
  refine wpAny_bind (wpAny_rule (wpAny_bind (wpAny_field hz rfl (x:=.ref TO) rfl (wpAny_bind (wpAny_setField_rec hz (by simp) λg Ow hs=>?_)))))
  replace Ow:IsZip g z TI TO .ellipsis:=Ow
  refine wpAny_bind ?_
  simp only [List.zipIdx_cons,List.zipIdx_nil,List.forIn_cons,List.forIn_nil]
  refine wpAny_bind (wpAny_bind (wpAny_onRaise ?_))
  show wpAny _ _ (Builtin.SmallTypes.nextOf (.ref i1)>>=_) _ _ _
  refine wpAny_bind (wpAny_nextOf_list_end (show A.in1.handled=none from hh) (h1.extBut hs.extBut d1) (AP.extBut hs.extBut d2) hx λg2 e Ox he=>?_)
  refine aO he λo ho hc=>?_
  have RJ:IsZip g2 z TI TO .ellipsis:=Ox _ _ d1.symm Ow
  refine wpAny_setField_rec RJ (by simp) λg3 _ Nl=>⟨g3,e,o,rfl,rfl,λc o' c1 c2 q=>Nl.extBut _ _ c1 (Ox _ _ c2 (hs.extBut _ _ c1 q)),Nl.extBut _ _ (λw=>?_) ho,hc⟩
  subst w
  exact bF ((congrArg (λo:Obj=>o.cls==.type "StopIteration") (Option.some.inj (RJ.symm.trans ho))).trans (congrArg (·==.type "StopIteration") hc))
 unfold pyNext
 refine wpAny_bind (wpAny_attempt (wpAny_callSpecial?_slot (name:=Str.ofString "__next__") hT F.slot_zip_next (wpAny_call_entry F.slot_zip_next hT F.entry_zip_next (wpAny_mono body (λ_ _ f=>f.elim) λe s' q=>?_) (F.args_zip_next_1 _))))
 refine lZ q λG ad o su Dm k ho hc=>?_
 subst su Dm
 exact wpAny_bind (wpAny_isInstance (T:="StopIteration") (b:=true) ⟨o,ho,hc⟩ isSubtype_stop (wpAny_pure (hQ _ k)))
theorem jj{a N:Nat}(k:Nat)(h:a<N):a≠N+k:=Nat.ne_of_lt (Nat.lt_add_right k h)
theorem wQ{N i j:Nat}(h:i≠j):N+i≠N+j:=λw=>h (Nat.add_left_cancel w)
theorem yR{N ag ae:Nat}(hI:ag<N)(hJ:ae<N):ZipApart (N+4) (N+2) (N+3) N (N+1) ag ae:=
 have n:∀k,N+(k+1)≠N+0:=λk=>wQ (Nat.succ_ne_zero k)
 ⟨wQ (by decide),wQ (by decide),(n 3).symm,wQ (by decide),wQ (by decide),n 1,wQ (by decide),n 2,wQ (by decide),(n 0).symm,jj 4 hI,jj 3 hI,jj 0 hI,jj 1 hI,jj 4 hJ,jj 3 hJ,jj 0 hJ,jj 1 hJ⟩
section
noncomputable def ZI(env:Env)(bN:Mu)(dY:Nat)(bM:Heap)(N ag:Addr)(i:Nat)(O:Mu)(Z:St)(h:Heap):Prop:=Step (FR.X env) bN O dY Z.n bM h/\IsZip h (N+4) (N+2) (N+3) .none/\IsPair h (N+2) (.ref N) (.ref (N+1))/\h.IsListIter N ag 1/\
 (O i).1=ag/\i<Z.n/\aU O Z.n (N+4)/\aU O Z.n N
theorem AQ{t:Expr}{N ag:Addr}{i j:Nat}{bN:Mu}{dY:Nat}{bM:Heap}(zi:ZI env bN dY bM N ag i O Z s.heap)(hI:ag<N)(zN:∀k,bM.get? (N+k)=none)(RK:∀k,W.aA.get? (N+k)=none)(nX:∀k,¬FR.X env (N+k))
  (rm:bD A D) (F:FR W ga ba env (aI m) O Z.n s.heap) (R:Rel W O Z s.heap) (zn:pv i j (m,Z)=some (fl,m',J)) {RR:Result->Shared->Prop} (z:ZE W ga ba env bN dY bM fl m' J RR s) {P:Value->Shared->Prop} {E:Value->Shared->Prop}:
  wpAny (model W.pg W.w) A (pyNext (.ref (N+4))) (NX W A t (N+4) (RR (.ok .next)) P E) E s:=
 J6 zi λS z6 p6 l6 eI qi n6 TH=>qL zn λl ei zn=>m1 (P:=λl=>Z.f i=.lst l->_) zn (λx' zn ei=>qL zn λl' ej zn=>bV (bP R qi ei).2.2 λrs ep li vi=>vi.i1 (P:=λrs=>s.heap.get? (O i).1=some (fC rs ep)->_) (λr _ li=>
  AO rm.handled (wQ (i:=0) (j:=4) (by decide)) (jj 4 hI) z6 p6 l6 (aW (eI▸li)) rfl λAR k7=>
   have Nm:∀a o,¬a∈[N+4,N]->s.heap.get? a=some o->AR.get? a=some o:=λa o na e=>k7 a o (λw=>na (w▸ .head _)) (λw=>na (w▸ .tail _ (.head _))) e
   have nt:∀a,a∈[N+4,N]->TT s.heap a:=Az (cP z6 rfl) (bJ l6 λo e1 e2 _=>cP e1 (e2▸rfl))
   rk (P:=λfl m' J=>ZE W ga ba env bN dY bM fl m' J RR s->RR (.ok .next) {s with heap:=AR}) zn (λz=>z _ O AR s.toks (R.Gp (·∈[N+4,N]) Nm (Az ⟨n6,RK 4⟩ ⟨TH,RK 0⟩) λa rs e w=>(nt a w).2 rs e) (S.ends (fp:=[N+4,N]) Nm (Az (zN 4) (zN 0)))
    ⟨rfl,F.at (λx=>x.mono (λa rs e z=>Nm a _ (λw=>(nt a w).2 rs e z) z) (λ_ _=>rfl) (Nat.le_refl _)) λa o fa ea=>Nm a o (λw=>Az (P:=λa=>¬FR.X env a) (nX 4) (nX 0) a w fa) ea⟩) z) li) ei
theorem AS(HY:SY W ga ba D Y){t:Expr}{b:List Stmt}{N:Addr}{i j:Nat}{x y:V}{rx ry:Value}{ep Jl:Nat}{p:Fl×Ms×St}{AM:Ms}{bN:Mu}{dY:Nat}{bM:Heap}(nt:i≠j/\isTup t=true)(hN:h.objs.size=N)
  (hz:IsZip s.heap (N+4) (N+2) (N+3) .none) (Ju:IsPair s.heap (N+2) (.ref N) (.ref (N+1))) (Oy:IsPair s.heap (N+3) .none .none) (g1:s.heap.IsListIter N (O i).1 0) (g2:s.heap.IsListIter (N+1) (O j).1 0) (Gg:s.heap.objs.size=N+5) (k3:∀c o,h.get? c=some o->s.heap.get? c=some o)
  (qi:i<Z.n) (li:h.get? (O i).1=some (fC [rx] ep)) (lj:h.get? (O j).1=some (fC [ry] Jl)) (xx:VR W h O Z.n x rx) (xy:VR W h O Z.n y ry) (e5:dy 4 t (.tup [x,y]) m=some AM) (e3:fG Y b AM Z=some p) (e4:px i j p=some (fl,m',J))
  (S2:Step bQ bN O dY Z.n bM h) (rm:bD A D) (F:FR W ga ba env (aI m) O Z.n h) (R:Rel W O Z h) {RR:Result->Shared->Prop} (z:ZE W ga ba env bN dY bM fl m' J RR s):codeAny (model W.pg W.w) A (.forLoop t (.ref (N+4)) b [] env) RR s:=by
 have lt:∀a o,h.get? a=some o->a<N:=λa o e=>hN▸Heap.lt_size e
 have fresh:∀k,h.get? (N+k)=none:=λk=>bK (hN▸Nat.le_add_right N k)
 have nX:∀k,¬FR.X env (N+k):=λk fa=>(F.there fa).elim λo e=>nN ((fresh k).symm.trans e)
 have Oz:∀k,aU O Z.n (N+k):=λk=>aU.fresh R (fresh k)
 refine sj (λn s'=>(n=2/\s'=s)\/(n=1/\∃wU yS AU,s'={s with heap:=yS,toks:=AU}/\ZI env bN dY bM N (O i).1 i wU p.2.2 yS/\Rel W wU p.2.2 yS/\FR W ga ba env (aI p.2.1) wU p.2.2.n yS/\pv i j p.2=some (fl,m',J)))
  (λn s' hi=>hi.elim (λhi=>?_) λhi=>lZ hi.2 λwU yS AU es zi OA OB zn=>es▸AQ (s:={s with heap:=yS,toks:=AU}) zi (lt _ _ li) (λk=>S2.back (fresh k)) (λk=>R.cB (fresh k)) nX rm OB OA zn z) 2 (.inl ⟨rfl,rfl⟩)
 rw [hi.1,hi.2]
 refine J3 (P:=λt=>dy 4 t (.tup [x,y]) m=some AM->wpAny _ _ _ (NX W A t _ _ (FP W A env t b _ _ _) _) _ _) nt.2 (λes kt pt e5=>?_) e5
 refine wpAny_pyNext_zip_item (yR (lt _ _ li) (lt _ _ lj)) hz Ju Oy g1 g2 ((aW li).at λo=>k3 _ o) ((aW lj).at λo=>k3 _ o) (x:=rx) (y:=ry) rfl rfl λfe a1 a2 a3 a4 a5 a6 k4=>wpAny_letOwnedTupleGo_zip a1 λpP b1 bs=>?_
 have y5:=R.keeps (G:=pP) λa o e=>have l:=lt a o e;bs.extBut _ _ (jj 4 l) (k4 _ _ (jj 4 l) (jj 3 l) (jj 0 l) (jj 1 l) (k3 _ _ e))
 have S5:=S2.trans y5.2
 have k5:∀k,k≠4->∀o,fe.get? (N+k)=some o->pP.get? (N+k)=some o:=λk n o e=>bs.extBut _ _ (wQ n) e
 refine gc (s:={s with heap:=pP}) rm e5 (F.step R y5.2) y5.1 (VR.tup (rs:=[rx,ry]) (e:=0) (Gg.symm▸k5 5 (by decide) _ (Gg▸a5)) (.cons (xx.step R y5.2 dP) (.cons (xy.step R y5.2 dP) .nil))) _ _ λ_ RL AR Kr OC OD OE=>?_
 refine fJ (s:={s with heap:=AR,toks:=Kr}) HY rm e3 OE OC _ _ λr E3 Dn AW Ks OF Gs=>?_
 have Jv:=OD.trans OF
 have S8:=(S5.widen (Y:=FR.X env) λ_ f=>f.elim).trans Jv
 have kp:∀k o,pP.get? (N+k)=some o->Dn.get? (N+k)=some o:=λk o e=>Jv.keep _ o e (Oz k) (nX k)
 have RM:=a3.extBut bs.extBut (wQ (i:=0) (j:=4) (by decide))
 exact mE (again:=∃j,j<2/\_) (RR:=λf=>RR (.ok f) {s with heap:=Dn,toks:=AW}) Gs.1 (λe=>⟨1,Nat.lt_succ_self _,.inr ⟨rfl,E3,Dn,AW,rfl,⟨S8,kp 4 _ b1,kp 2 _ (k5 2 (by decide) _ (k4 _ _ (wQ (by decide)) (wQ (by decide)) (wQ (j:=0) (by decide)) (wQ (by decide)) Ju)),RM.at λo=>kp 0 o,congrArg Prod.fst (Jv.same i qi),Nat.lt_of_lt_of_le qi Jv.le,bW Jv (Oz 4) b1,aO RM λo e _=>bW Jv (Oz 0) e⟩,Ks,Gs.2,e⟩⟩)
  (λr em es f=>z r E3 Dn AW (es▸Ks) (es▸S8) ⟨es▸f,em▸es▸Gs.2⟩) e4
theorem pV(ah:iV W ga ba D X T)(HY:SY W ga ba D Y)(K:Fix W aj ga ba){a c t:Expr}{b:List Stmt}{p1 p2 pos:Pos}{i j:Nat}{ao aF:St}(zf:kh aj m "zip"=some (.bo "zip"))
  (e1:X a m Z=some (.val (.ref i),ao)) (e2:X c m ao=some (.val (.ref j),aF)) (e3:uh Y t b i j m aF=some (fl,m',J))
  (rm:bD A D) (F:FR W ga ba env (aI m) O Z.n s.heap) (R:Rel W O Z s.heap):
  az W A (FR.X env) (exec (.For t (.Call (.Name "zip" p1) [a,c] [] p2) b [] pos) env) O Z s J (SK W ga ba env fl m' J):=λQ E z=>by
 refine wpAny_For ?_ (by intro _;rfl)
 refine wpAny_Call_NameR (fk K.Gq zf F R bQ p1 _ _ λfv aE aA aD aK aH aJ=>?_)
 rw [iA aJ K.zip]
 have jX:=F.step R aH
 have ev:om X m [a,c] Z=some ([.ref i,.ref j],aF):=by
  show (bv (X a m Z) λv Z=>dc (bv (X c m Z) λw Z=>some ([w],Z)) λI Z=>some (v::I,Z))=_
  rw [e1]
  show (dc (bv (X c m ao) λw Z=>some ([w],Z)) λI Z=>some (V.ref i::I,Z))=_
  rw [e2];rfl
 have ns:=lg ah (pos:=p2) (env:=env) ev
 refine PySem.callWith_type ns.1 (ee ns.1 (fH (s:={s with heap:=aA,toks:=aD}) ah (pos:=p2) rm ev jX aK _ _ λrs aX aZ aS aY aV cq=>?_))
 refine bq.i2 (P:=λrs=>wpAny _ _ (call (.type "zip") rs []) _ _ _) cq λri rj vi vj=>vi.iR λqi=>vj.iR λqj=>qL e3 λl ei e3=>m1 (P:=λl=>aF.f i=.lst l->_) e3 (λx e3 ei=>qL e3 λl' ej e3=>m1 (P:=λl=>aF.f j=.lst l->_) e3 (λy e3 ej=>uI e3 λnt e3=>?_) ej) ei
 refine bV (bP aY qi ei).2.2 λWt TJ li vi=>vi.i1 (P:=λrs=>aZ.get? (aX i).1=some (fC rs TJ)->_) (λrx xx li=>bV (bP aY qj ej).2.2 λWu TK lj vj=>vj.i1 (P:=λrs=>aZ.get? (aX j).1=some (fC rs TK)->_) (λry xy lj=>uO e3 λp e3 e4=>uO e3 λAM e5 e3=>?_) lj) li
 exact call_zip_2 (aW li) (aW lj) λct hz Ju Oy g1 g2 Gg k3=>wpAny_pyIter_zip hz (AS (s:={s with heap:=ct,toks:=aS}) (h:=aZ) HY nt rfl hz Ju Oy g1 g2 Gg k3 qi li lj xx xy e5 e3 e4 (aH.trans aV) rm (jX.step aK aV) aY z)
end
noncomputable def SU(W:WC)(ga ba:Addr)(D:Nat)(X:Expr->Ms->St->RX):Prop:=
 (∀{e:Expr}{y:Str}{py pQ:Pos}{m m':Ms}{Z J:St}{v:V}{A:Around}{env:Env}{O:Mu}{s:Shared},swapsWith e (some (.Name y py)) pQ.line env=pure true->X e m Z=some (.val v,J)->setName m y v=some m'->bD A D->FR W ga ba env (aI m) O Z.n s.heap->Rel W O Z s.heap->
  az W A (FR.X env) (exec (.Assign [.Name y py] e pQ) env) O Z s J (SK W ga ba env .next m' J))/\
 ∀{e:Expr}{m:Ms}{Z J:St}{l:Nat}{env:Env},X e m Z=some (.val .none,J)->swapsWith e none l env=pure false
@[elab_as_elim] theorem RN{P:V->St->Prop}{v v':V}{Z J:St}(q:some (Rs.val v,Z)=some (Rs.val v',J))(k:P v Z):P v' J:=dq (P:=λr Z=>Rs.casesOn r (λv=>P v Z) λ_=>True) q k
theorem TL{P:Prop}(h:(pure false:Sem Bool)=pure true):P:=nomatch h
theorem uZ{α δ:Type}{x:Option α}{a:Option δ}{f:α->Option δ}{r:δ}{P:Prop}(q:(Option.casesOn x a f:Option δ)=some r)(k:x=none->a=some r->P)(k':∀p,x=some p->f p=some r->P):P:=by
 revert q;induction x using Option.casesOn with
 | none=>exact k rfl
 | some p=>exact k' p rfl
theorem gD{x:Option Bool}:x.getD false=true->x=some true:=by
 induction x using Option.casesOn with
 | none=>exact bF
 | some b=>exact congrArg some
section
theorem vk(ah:iV W ga ba D X T):SU W ga ba D (i7 aj ak X T):=
 ⟨λ{e y py pQ m m' Z J v A env O s}=>by
  induction e using Expr.casesOn with
  | ListComp elt gens scope p=>
   exact λKo q e3 rm F R=>J4 (P:=λgens=>swapsWith (.ListComp elt gens scope p) (some (.Name y py)) pQ.line env=pure true->az W A (FR.X env) (exec (.Assign [.Name y py] (.ListComp elt gens scope p) pQ) env) O Z s J (SK W ga ba env .next m' J))
    (show z7 gens (λcb iter ifs=>gK X T elt scope cb iter ifs m Z)=some (.val v,J) from q) (λcb iter ifs q Ko=>uP q λsr ao e1 q=>uI q λhk q=>uP q λI aF e2 q=>
     have k:=Bool.and_eq_true_iff.mp hk
     have k1:=Bool.and_eq_true_iff.mp k.1
     RN (P:=λv J=>setName m y v=some m'->az W A (FR.X env) (exec (.Assign [.Name y py] (.ListComp elt [⟨cb,iter,ifs,0⟩] scope p) pQ) env) O Z s J (SK W ga ba env .next m' J)) q (λe3=>(yN ah Ko e1 k1.1 k1.2 k.2 e2 e3 rm F R).mono λaN G r k=>k) e3) Ko
  | SetComp _ _ _ _=>exact λ_=>nN
  | DictComp _ _ _ _ _=>exact λ_=>nN
  | _=>exact TL,
 λ{e m Z J l env}=>by
  induction e using Expr.casesOn with
  | ListComp elt gens scope p=>
   exact λq=>m1 (P:=λgens=>swapsWith (.ListComp elt gens scope p) none l env=pure false) (show z7 gens (λcb iter ifs=>gK X T elt scope cb iter ifs m Z)=some (.val .none,J) from q) λg q=>uI q λ_ q=>uP q λsr ao e1 q=>uI q λhk q=>uP q λI aF e2 q=>bF (Option.some.inj (RN (P:=λv _=>some false=FZ v) q rfl))
  | SetComp _ _ _ _=>exact nN
  | DictComp _ _ _ _ _=>exact nN
  | _=>exact λ_=>rfl⟩
theorem sv{o1 o2:Expr}{x y:Str}{p1 p2 p:Pos}{k:Nat}{e:Expr}:swappedStores [.Tuple [.Attribute o1 x p1,.Attribute o2 y p2] k p] e env=pure none:=by
 induction e using Expr.casesOn with
 | Tuple I _ _=>exact dv (P:=λx=>x=pure none) (λ_=>rfl) λ_=>dv (P:=λx=>x=pure none) (λ_=>rfl) λ_=>rfl
 | _=>rfl
theorem pW(ah:iV W ga ba D X T)(cf:CF W){o1 o2:Expr}{x y:Str}{p1 p2 p pos:Pos}{k:Nat}{e:Expr}{v w:V}{ao:St}(e1:X e m Z=some (.val (.tup [v,w]),ao))(e2:pj X (o1,x,o2,y) v w m ao=some (fl,m',J))
  (rm:bD A D) (F:FR W ga ba env (aI m) O Z.n s.heap) (R:Rel W O Z s.heap):az W A (FR.X env) (exec (.Assign [.Tuple [.Attribute o1 x p1,.Attribute o2 y p2] k p] e pos) env) O Z s J (SK W ga ba env fl m' J):=by
 refine uV e2 λov aF e3 e2=>uO e2 λaT e4 e2=>uV e2 λow wM e5 e2=>uO e2 λRO e6 e2=>rk e2 λQ E z=>?_
 refine PyProof.Rows.Assign_Tuple (ah.val e1 rm F R _ _ λr aE aA aD aK aH aJ=>?_) (by induction e using Expr.casesOn<;>rfl) sv
 refine aJ.iT λrs a ep ha xs=>xs.i2 (P:=λrs=>aA.get? a=some (bL rs ep)->_) (λr1 r2 C x2 ha=>?_) ha
 refine wpAny_assign_Tuple (s:={s with heap:=aA,toks:=aD}) rm.handled (iz ha) rfl rfl λG hx=>?_
 have kk:=aK.keeps (G:=G) λa o ea=>hx a o (Nat.ne_of_lt (Heap.lt_size ea)) ea
 have F':=(F.step R aH).step aK kk.2
 show wpAny _ _ (do holding [r2] (assign (.Attribute o1 x p1) env r1);assignInOrder [assign (.Attribute o2 y p2) env] [r2]) _ _ _
 refine wpAny_bind (wpAny_holding (PySem.W.kas_attr (ah.val (s:={s with heap:=G,toks:=aD}) e3 rm F' kk.1 _ _ λro aX aZ aS aY aV cq=>?_)))
 refine fE (s:={s with heap:=aZ,toks:=aS}) cf e4 aY cq ((C.step aK kk.2 dP).step kk.1 aV dP) bQ _ _ λ_ cz ct bR cH b0 _=>?_
 have AN:=(F'.step kk.1 aV).step aY b0
 show wpAny _ _ (do holding [] (assign (.Attribute o2 y p2) env r2);assignInOrder [] []) _ _ _
 refine wpAny_bind (wpAny_holding (PySem.W.kas_attr (ah.val (s:={s with heap:=ct,toks:=bR}) e5 rm AN cH _ _ λWv gx fe eW iF gU mB=>?_)))
 have S4:=(kk.2.trans aV).trans (b0.trans gU)
 exact fE (s:={s with heap:=fe,toks:=eW}) cf e6 iF mB (x2.step aK S4 dP) bQ _ _ λ_ Kt pP Ku OG Dj _=>wpAny_pure (z _ Kt pP Ku OG (((aH.trans S4).trans Dj).widen λ_ f=>f.elim) ⟨rfl,(AN.step cH gU).step iF Dj⟩)
section
variable(ah:iV W ga ba D X T)(HY:SY W ga ba D Y)(K:Fix W aj ga ba)(U:SU W ga ba D X)(rm:bD A D)(F:FR W ga ba env (aI m) O Z.n s.heap)(R:Rel W O Z s.heap){pos:Pos}{e:Expr}
include ah K rm F R
theorem pX{es:List Expr}{k:Nat}{p:Pos}(q:Aa X es k p e m Z=some (fl,m',J)):az W A (FR.X env) (exec (.Assign [.Tuple es k p] e pos) env) O Z s J (SK W ga ba env fl m' J):=
 uZ q (λ_ q=>uI q λsf q=>uV q λv ao e1 q=>uO q λm₁ e2 q=>rk q (mI ah sf e1 e2 rm F R)) λp' h q=>
  C2 (P:=λes p'=>(bv (X e m Z) λu Z=>JM u λv w=>pj X p' v w m Z)=some (fl,m',J)->az W A (FR.X env) (exec (.Assign [.Tuple es k p] e pos) env) O Z s J (SK W ga ba env fl m' J)) h (λo1 C p1 o2 x2 p2 q=>S0 q λv w ao e1 q=>pW ah K.cf e1 q rm F R) q
include U in
theorem yT{t:Expr}:asg X t e m Z=some (fl,m',J)->az W A (FR.X env) (exec (.Assign [t] e pos) env) O Z s J (SK W ga ba env fl m' J):=by
 induction t using Expr.casesOn with
 | Subscript o i p=>
  refine λq=>uV q λv ao e1 q=>uV q λov aF e2 q=>uV q λiv aT e3 q=>uO q λwM e4 q=>rk q λQ E z=>?_
  refine wpAny_Assign_Subscript (ah.val e1 rm F R _ _ λrv aE aA aD aK aH aJ=>?_) (by induction e using Expr.casesOn<;>rfl)
  have jX:=F.step R aH
  refine ah.val (s:={s with heap:=aA,toks:=aD}) e2 rm jX aK _ _ λro aX aZ aS aY aV cq=>?_
  have gA:=jX.step aK aV
  refine ah.val (s:={s with heap:=aZ,toks:=aS}) e3 rm gA aY _ _ λri cz ct bR cH b0 dX=>?_
  exact nM (s:={s with heap:=ct,toks:=bR}) e4 cH (cq.step aY b0 dP) dX (aJ.step aK (aV.trans b0) dP) bQ _ _ λ_ gx fe eW iF gU _=>
   z _ gx fe eW iF ((((aH.trans aV).trans b0).trans gU).widen λ_ f=>f.elim) ⟨rfl,(gA.step aY b0).step cH gU⟩
 | Name x p=>
  refine λq=>uV q λv ao e1 q=>uO q λm₁ e2 q=>rk q ?_
  refine yi (show∃bb,swapsWith e (some (.Name x p)) pos.line env=pure bb by induction e using Expr.casesOn<;>exact ⟨_,rfl⟩) λbb hb=>?_
  revert hb
  induction bb using Bool.casesOn with
  | true=>exact λhb=>U.1 hb e1 e2 rm F R
  | false=>
   exact λhb Q E z=>wpAny_Assign_Name (ah.val e1 rm F R _ _ λrv aE aA aD aK aH aJ=>
    dJ (s:={s with heap:=aA,toks:=aD}) e2 (F.step R aH) aK aJ _ _ λ_ aX aZ aS aY aV gA=>z _ aX aZ aS aY ((aH.widen λ_ f=>f.elim).trans aV) ⟨rfl,gA⟩) hb
 | Attribute o x p=>
  refine λq=>uV q λv ao e1 q=>uV q λov aF e2 q=>uO q λaT e3 q=>rk q λQ E z=>?_
  refine plainObj_wpAny_Assign_Attribute (ah.val e1 rm F R _ _ λrv aE aA aD aK aH aJ=>?_) (by induction e using Expr.casesOn<;>rfl)
  have jX:=F.step R aH
  refine ah.val (s:={s with heap:=aA,toks:=aD}) e2 rm jX aK _ _ λro aX aZ aS aY aV cq=>?_
  exact fE (s:={s with heap:=aZ,toks:=aS}) K.cf e3 aY cq (aJ.step aK aV dP) bQ _ _ λ_ cz ct bR cH b0 _=>
   z _ cz ct bR cH (((aH.trans aV).trans b0).widen λ_ f=>f.elim) ⟨rfl,(jX.step aK aV).step aY b0⟩
 | Tuple es k p=>exact pX ah K rm F R
 | _=>exact nN
include HY
theorem pY{t a c:Expr}{b:List Stmt}{p1 p2:Pos}(q:jN aj X Y t (a,c) b m Z=some (fl,m',J)):az W A (FR.X env) (exec (.For t (.Call (.Name "zip" p1) [a,c] [] p2) b [] pos) env) O Z s J (SK W ga ba env fl m' J):=
 uI q λzf q=>Rk q λi ao e1 q=>Rk q λj aF e2 q=>pV ah HY K (uO (gD zf) λv e q=>e▸vG q λg eg q=>eg▸of_decide_eq_true (Option.some.inj q)▸rfl) e1 e2 q rm F R
omit K
theorem pZ{t:Expr}{b:List Stmt}(q:lX X Y t e b m Z=some (fl,m',J)):az W A (FR.X env) (exec (.For t e b [] pos) env) O Z s J (SK W ga ba env fl m' J):=uP q λsr ao e1 q=>uI q λAE q Q E z=>by
 refine wpAny_For (ku ah e1 rm F R _ _ λrv aE aA aD aK aH aJ=>?_) λx=>kx ah env x e1
 have q':cK sr (Mine.forTurn Y t b) (4095+1) 0 m ao=some (fl,m',J):=q
 refine mn (s:={s with heap:=aA,toks:=aD}) (λa o e=>aH.jP a o e) aK aJ (uO q' λ_ e _ w=>nN (w.symm.trans e)) _ _ λit aX aZ aS aY aV w=>lY w λag fp ei u6 fr=>?_
 have S2:=aH.trans aV
 exact ei▸vg (s:={s with heap:=aZ,toks:=aS}) HY rm AE q (F.step R S2) aY u6 S2 fr (λa ha fa=>(F.there fa).elim λo e=>nN ((fr a ha).symm.trans e)) z
include K U
theorem sx{st:Stmt}:wj aj X T Y st m Z=some (fl,m',J)->az W A (FR.X env) (exec st env) O Z s J (SK W ga ba env fl m' J):=by
 induction st using Stmt.casesOn with
 | Assign ts e p=>exact λq=>m1 (P:=λts=>az W A (FR.X env) (exec (.Assign ts e p) env) O Z s J (SK W ga ba env fl m' J)) (show l1 ts (λt=>asg X t e m Z)=some (fl,m',J) from q) λt q=>yT ah K U rm F R q
 | Expr e p=>
  exact λq=>SZ q λao e1 q=>rk q λQ E z=>wpAny_Expr (ah.val e1 rm F R _ _ λrv aE aA aD aK aH aJ=>VR.iN (show VR W aA aE ao.n .none rv from aJ) (z _ aE aA aD aK (aH.widen λ_ f=>f.elim) ⟨rfl,F.step R aH⟩)) (by unfold interactive;rw [F.kind];rfl) (U.2 e1)
 | Return e p=>exact λq=>kO (P:=λe=>az W A (FR.X env) (exec (.Return e p) env) O Z s J (SK W ga ba env fl m' J)) (show bC e (λe=>bv (X e m Z) λv Z=>some (.ret v,m,Z))=some (fl,m',J) from q) λe q=>uV q λv ao e1 q=>rk q λQ E z=>wpAny_Return_some (ah.val e1 rm F R _ _ λrv aE aA aD aK aH aJ=>z _ aE aA aD aK (aH.widen λ_ f=>f.elim) ⟨⟨rv,rfl,aJ⟩,F.step R aH⟩)
 | If t b o p=>
  refine λq=>uP (show dc (T t m Z) (λc Z=>bif c then fG Y b m Z else fG Y o m Z)=some (fl,m',J) from q) λOt ao e1 q Q E z=>wpAny_If (ah.Gl e1 rm F R _ _ λc aE aA aD aK aH aJ=>?_)
  subst aJ
  have go:=λ{ss:List Stmt} (q:fG Y ss m ao=some (fl,m',J))=>fJ (s:={s with heap:=aA,toks:=aD}) HY rm q (F.step R aH) aK Q E λr aX aZ aS aY aV cq=>z r aX aZ aS aY ((aH.widen λ_ f=>f.elim).trans aV) cq
  clear e1
  revert q
  induction c using Bool.casesOn<;>exact go
 | While t b o p=>exact λq=>m0 (P:=λo=>az W A (FR.X env) (exec (.While t b o p) env) O Z s J (SK W ga ba env fl m' J)) (show l0 o (dn (T t) (fG Y b) aM m Z)=some (fl,m',J) from q) λq Q E z=>wpAny_While (pS HY rm ah q F R z)
 | For t e b o p=>exact λq=>m0 (P:=λo=>az W A (FR.X env) (exec (.For t e b o p) env) O Z s J (SK W ga ba env fl m' J)) (show l0 o (Option.casesOn (hB e) (lX X Y t e b m Z) λp=>jN aj X Y t p b m Z)=some (fl,m',J) from q) λq=>uZ q (λ_ q=>pZ ah HY rm F R q) λp' h q=>uj (P:=λe p'=>jN aj X Y t p' b m Z=some (fl,m',J)->az W A (FR.X env) (exec (.For t e b [] p) env) O Z s J (SK W ga ba env fl m' J)) h (λa c p1 p2 q=>pY ah HY K rm F R q) q
 | Break p=>exact λq=>rk q λQ E z=>wpAny_Break (z _ O s.heap s.toks R (Step.refl _ _ _ _) ⟨rfl,F⟩)
 | _=>exact nN
end
theorem AX(K:Fix W aj ga ba)(CS:AG W ak D)(n:Nat):SU W ga ba D (i8 aj ak n):=by
 induction n using Nat.casesOn with
 | zero=>exact ⟨λ_=>nN,nN⟩
 | succ n=>exact vk (mD K CS n)
theorem yU(K:Fix W aj ga ba)(CS:AG W ak D)(n:Nat):SY W ga ba D (cI aj ak n):=by
 induction n with
 | zero=>exact ⟨nN⟩
 | succ n ih=>exact ⟨λe rm F R=>sx (mD K CS n) ih K (AX K CS n) rm F R e⟩
end
noncomputable def yV(W:WC)(ga ba:Addr)(fn:Fn)(a:Addr):Prop:=
 ∃o fd,W.aA.get? a=some o/\o.data=.func fd/\fd.body=.stmts fn.body/\fd.closure=[]/\fd.globals=ga/\fd.builtins=ba/\W.aA.CodeRec fd.code fd.qualname/\fn.names=namesOf fd.scope/\
  (∀vals:List Value,vals.length=fn.params.length->bindArgs fd ⟨vals,[]⟩=pure (fn.params.zip vals))/\fd.scope.isCoroutine=false/\fd.scope.isGenerator=false/\fd.scope.kind=.function/\(fd.scope.names.map (·.1)).Nodup/\
  (∀x,x∈fn.params->(x,NameKind.local)∈fd.scope.names\/(x,NameKind.cell)∈fd.scope.names)/\(∀p,p∈fd.scope.names->p.1≠br)/\fn.params.Nodup
noncomputable def sy(A:Around)(d:Nat):Prop:=A.handled=none/\A.guards=some []/\A.depth+1+8*d+16<recursionLimit/\A.units+3+40*d+80<cLine
theorem sy.in{A:Around}{d:Nat}(x:sy A d)(env:Env):bD (A.deeper env) d:=⟨x.1,x.2.1,x.2.2.1,x.2.2.2⟩
theorem r1{a b c d e n:Nat}(h:c<=e)(w:a+(b+e)+d<n):a+c+b+d<n:=by
 rw [Nat.add_right_comm a c b,Nat.add_assoc a b c]
 exact Nat.lt_of_le_of_lt (Nat.add_le_add_right (Nat.add_le_add_left (Nat.add_le_add_left h b) a) d) w
theorem bD.one{A:Around}{d:Nat}(x:bD A (d+1)):sy A d:=⟨x.handled,x.guards,r1 (by decide:1<=8) x.depth,r1 (by decide:3<=40) x.units⟩
theorem yW{k:Str->Option NameKind}{x:Str}(l:List (Str×Value)):∀{m:Str->Option Value},x∉l.map (·.1)->bindL k l m x=m x:=by
 induction l with
 | nil=>exact λ_=>rfl
 | cons p l ih=>exact λ{m} hn=>(ih λw=>hn (.tail _ w)).trans (dv (P:=λf:Str->Option Value=>f x=m x) (λ_=>if_neg λe:x=p.1=>hn (e▸ .head _)) λ_=>rfl)
theorem oD{k:Str->Option NameKind}{x:Str}{v:Value}(l:List (Str×Value)):∀{m:Str->Option Value},(l.map (·.1)).Nodup->(x,v)∈l->k x=some .local->bindL k l m x=some v:=by
 induction l with
 | nil=>exact λ_ hz _=>absurd hz List.not_mem_nil
 | cons p l ih=>
  intro m nd hm hk
  have nd:=List.nodup_cons.mp nd
  refine (List.mem_cons.mp hm).elim (λe=>?_) λq=>ih nd.2 q hk
  subst e
  exact (yW l nd.1).trans ((congrFun (if_pos hk) x).trans (if_pos rfl))
theorem Dp{k:Str->Option NameKind}(l:List (Str×Value)):∀{m:Str->Option Value},bindC k l m=bindL (λx=>if k x=some .local then none else some .local) l m:=by
 induction l with
 | nil=>exact rfl
 | cons p l ih=>exact ih.trans (congrArg (bindL _ l) (by by_cases q:k p.1=some .local<;>simp only [q,if_true,if_false];rfl))
theorem lk{x y:Str}{n:Addr}{acc:List (Str×Addr)}(h:x=y\/(acc.lookup x).isSome=true):(((y,n)::acc).lookup x).isSome=true:=by
 rw [List.lookup_cons]
 cases q:x==y with
 | true=>rfl
 | false=>exact h.elim (λe=>bF (q.symm.trans (beq_iff_eq.mpr e))) id
theorem cellsFrom_some{x:Str}(l:List (Str×NameKind)):∀(n:Nat)(acc:List (Str×Addr)),((x,NameKind.cell)∈l\/(acc.lookup x).isSome=true)->((cellsFrom n l acc).lookup x).isSome=true:=by
 induction l with
 | nil=>exact λn acc h=>h.elim (λh=>absurd h List.not_mem_nil) id
 | cons p l ih=>exact λn acc h=>dv (P:=λc:List (Str×Addr)=>(c.lookup x).isSome=true) (λhk=>ih _ _ (h.elim (λw=>(List.mem_cons.mp w).elim (λe=>.inr (lk (.inl (congrArg Prod.fst e)))) .inl) λh=>.inr (lk (.inr h)))) λhk=>ih _ _ (h.imp (λw=>(List.mem_cons.mp w).elim (λe=>absurd (beq_iff_eq.mpr (congrArg Prod.snd e).symm) hk) id) id)
theorem yX{p:Str×NameKind}{q:Str×V}:i9 p=some q->q.1=p.1:=by
 obtain ⟨x,k⟩:=p
 induction k using NameKind.casesOn<;>first | exact λe=>bG e rfl | exact nN
theorem yY{x:Str}{v:V}(l:List (Str×NameKind)):aI (l.filterMap i9) x=some v->∃k,(x,k)∈l/\i9 (x,k)=some (x,v):=by
 induction l with
 | nil=>exact nN
 | cons p l ih=>
  have up:(∃k,(x,k)∈l/\i9 (x,k)=some (x,v))->∃k,(x,k)∈p::l/\i9 (x,k)=some (x,v):=λz=>aO z λk a b=>⟨k,.tail _ a,b⟩
  rw [List.filterMap_cons]
  cases h:i9 p with
  | none=>exact λe=>up (ih e)
  | some q=>exact λe=>uE e (λhx e=>by
    obtain ⟨y,k⟩:=p
    obtain ⟨z,u⟩:=q
    subst hx
    have hy:x=y:=yX h
    subst hy
    exact bG e ⟨k,.head _,h⟩) λe=>up (ih e)
theorem Dq{x:Str}(l:List (Str×NameKind)):∀{ks:List Str},strsOf (l.filterMap λp=>bif lS p.2 then some (V.str p.1) else none)=some ks->x∈ks->(x,NameKind.cell)∈l:=by
 induction l with
 | nil=>exact λe=>bG e λhx=>absurd hx List.not_mem_nil
 | cons p l ih=>
  obtain ⟨y,k⟩:=p
  intro ks
  induction k using NameKind.casesOn with
  | cell=>exact λe=>uO (show bC (strsOf (l.filterMap λp=>bif lS p.2 then some (V.str p.1) else none)) (λr=>some (y::r))=some ks from e) λjs e1 e=>bG e λhx=>(List.mem_cons.mp hx).elim (λe=>e▸ .head _) λhx=>.tail _ (ih e1 hx)
  | _=>exact λe hx=>.tail _ (ih e hx)
section
theorem triples{n:Nat}(ps:List Str):∀{I:List V}{rs:List Value},ps.length=I.length->bq W h O n I rs->∃l:List T3,ps=l.map (·.1)/\rs=l.map (·.2.2)/\I=l.map (·.2.1)/\∀p,p∈l->VR W h O n p.2.1 p.2.2:=by
 induction ps with
 | nil=>
   intro I rs hl x
   have ev:=List.eq_nil_of_length_eq_zero hl.symm
   subst ev
   exact x.i0 ⟨[],rfl,rfl,rfl,λp hp=>absurd hp List.not_mem_nil⟩
 | cons p ps ih=>
  intro I rs
  induction I using List.casesOn with
  | nil=>exact λhl=>absurd hl (Nat.succ_ne_zero _)
  | cons v I=>exact λhl x=>x.ic λr t a b=>Ab (ih (Nat.succ.inj hl) b) λl h1 h2 h3 h4=>⟨(p,v,r)::l,congrArg _ h1,congrArg _ h2,congrArg _ h3,λq hq=>(List.mem_cons.mp hq).elim (λe=>e▸a) (h4 q)⟩
theorem sA{α β γ:Type}(f:α->β)(g:α->γ)(l:List α):(l.map f).zip (l.map g)=l.map λp=>(f p,g p):=by
 induction l with
 | nil=>rfl
 | cons p l ih=>exact congrArg _ ih
theorem sD(l:List T3)(m:Ms):cM (l.map λp=>(p.1,p.2.1)) m=gf m l:=List.foldl_map
theorem Dr{c:Addr}{y:Option Value}(x:h.IsCell c y):TT h c:=x.elim λo x=>⟨⟨o,x.1⟩,λrs ep w=>nomatch (congrArg Obj.data (Option.some.inj (x.1.symm.trans w))).symm.trans x.2⟩
theorem FR.start{fn:Fn}{fd:FuncData}{a:Addr}{l:List T3}{s₁:Shared}(hg:fd.globals=ga)(hb:fd.builtins=ba)(hn:fn.names=namesOf fd.scope)(hk:fd.scope.kind=.function)(nd:(fd.scope.names.map (·.1)).Nodup)
  (hp:∀x,x∈l.map (·.1)->(x,NameKind.local)∈fd.scope.names\/(x,NameKind.cell)∈fd.scope.names) (hc:∀p,p∈fd.scope.names->p.1≠br) (pn:(l.map (·.1)).Nodup) (hv:∀p,p∈l->VR W s₁.heap O Z.n p.2.1 p.2.2) (R:Rel W O Z s.heap)
  (X:InCallC s (callEnvC fd s.heap.objs.size a).locals (bindL (callEnvC fd s.heap.objs.size a).kindOf (l.map λp=>(p.1,p.2.2)) λ_=>none) (callEnvC fd s.heap.objs.size a).cells (bindC (callEnvC fd s.heap.objs.size a).kindOf (l.map λp=>(p.1,p.2.2)) λ_=>none) s₁):
  FR W ga ba (callEnvC fd s.heap.objs.size a) (aI (gf fn.names l)) O Z.n s₁.heap:=by
 have ks:∀{x:Str}{k:NameKind},(x,k)∈fd.scope.names->(callEnvC fd s.heap.objs.size a).kindOf x=some k:=λhm=>dg nd hm
 have Jr:∀{x:Str},(x,NameKind.cell)∈fd.scope.names->∃c,(callEnvC fd s.heap.objs.size a).cells.lookup x=some c:=λhm=>Option.isSome_iff_exists.mp (cellsFrom_some fd.scope.names (s.heap.objs.size+1) [] (.inl hm))
 have keys:(l.map λp=>(p.1,p.2.2)).map (·.1)=l.map (·.1):=List.map_map
 have fresh:∀b,s.heap.objs.size<=b->aU O Z.n b/\W.aA.get? b=none:=λb hb=>have z:=bK hb;⟨aU.fresh R z,R.cB z⟩
 have ab:∀x c,(callEnvC fd s.heap.objs.size a).cells.lookup x=some c->s.heap.objs.size<c:=λx c e=>X.above x c (mem_of_lookup e)
 refine ⟨hk,hg,hb,λl' Ww e1 e2 x hx=>?_,⟨_,X.toInCall.ns,λx v uw e=>?_⟩,λb xb=>xb.elim (λe=>e▸⟨(fresh _ (Nat.le_refl _)).1,(fresh _ (Nat.le_refl _)).2,Ns.tt X.toInCall.ns⟩) λxb=>xb.elim λx e=>have z:=fresh b (Nat.le_of_lt (ab x b e));⟨z.1,z.2,Dr (X.cell x b e)⟩,
  λx c e=>Nat.ne_of_gt (ab x c e),λx y c e1 e2=>name_of_addr X.apart (mem_of_lookup e1) (mem_of_lookup e2)⟩
 ·have TM:br∉l.map (·.1):=λw=>(hp _ w).elim (λw=>hc _ w rfl) λw=>hc _ w rfl
  have e3:=(eZ l TM).symm.trans e1
  rw [hn] at e3
  have ck:aI (namesOf fd.scope) br=some (.tup (fd.scope.names.filterMap λp=>bif lS p.2 then some (V.str p.1) else none)):=@if_pos (br=br) _ rfl (Option V) _ (aI (fd.scope.names.filterMap i9) br)
  have hm:=Dq fd.scope.names ((congrArg (λv=>zQ v strsOf) (Option.some.inj (ck.symm.trans e3))).trans e2) hx
  exact ⟨ks hm,Jr hm⟩
 ·have loc:(x,NameKind.local)∈fd.scope.names->eJ v=false->(∀w,kg v=some w->∃r,bindL (callEnvC fd s.heap.objs.size a).kindOf (l.map λp=>(p.1,p.2.2)) (λ_=>none) x=some r/\VR W s₁.heap O Z.n w r)->NV W (callEnvC fd s.heap.objs.size a) O Z.n s₁.heap x v (bindL (callEnvC fd s.heap.objs.size a).kindOf (l.map λp=>(p.1,p.2.2)) (λ_=>none) x):=λm g q=>.inr ⟨g,_,.inl ⟨ks m,rfl⟩,q⟩
  have EV:(x,NameKind.cell)∈fd.scope.names->eJ v=false->(∀w,kg v=some w->∃r,bindC (callEnvC fd s.heap.objs.size a).kindOf (l.map λp=>(p.1,p.2.2)) (λ_=>none) x=some r/\VR W s₁.heap O Z.n w r)->NV W (callEnvC fd s.heap.objs.size a) O Z.n s₁.heap x v (bindL (callEnvC fd s.heap.objs.size a).kindOf (l.map λp=>(p.1,p.2.2)) (λ_=>none) x):=λm g q=>(Jr m).elim λc ec=>.inr ⟨g,_,.inr ⟨ks m,c,ec,X.cell _ c ec⟩,q⟩
  by_cases q:x∈l.map (·.1)
  ·refine (List.mem_map.mp q).elim λp Jw=>?_
   have hx:=Jw.2
   subst hx
   have ev:=Option.some.inj ((iG l pn Jw.1).symm.trans e)
   subst ev
   have RP:(p.1,p.2.2)∈l.map λp=>(p.1,p.2.2):=List.mem_map.mpr ⟨p,Jw.1,rfl⟩
   have xv:=hv p Jw.1
   exact (hp _ q).elim (λw=>loc w xv.jf λw' e=>⟨p.2.2,oD _ (keys▸pn) RP (ks w),(jc e).2▸xv⟩) λw=>EV w xv.jf λw' e=>⟨p.2.2,(congrFun (Dp _) _).trans (oD _ (keys▸pn) RP (if_neg (ks w▸(λz=>nomatch z:some NameKind.cell≠some .local)))),(jc e).2▸xv⟩
  ·have e':=(eZ l q).symm.trans e
   rw [hn] at e'
   refine (yY fd.scope.names ((@if_neg (x=br) _ uw (Option V) _ (aI (fd.scope.names.filterMap i9) x)).symm.trans e')).elim λk z=>?_
   revert z loc EV
   induction k using NameKind.casesOn with
   | «local»=>exact λloc _ z=>loc z.1 (dq (P:=λ_ v=>eJ v=false) z.2 rfl) λw e'=>nN ((dq (P:=λ_ v=>none=kg v) z.2 rfl).trans e')
   | cell=>exact λ_ EV z=>EV z.1 (dq (P:=λ_ v=>eJ v=false) z.2 rfl) λw e'=>nN ((dq (P:=λ_ v=>none=kg v) z.2 rfl).trans e')
   | globalImplicit=>exact λ_ _ z=>.inl ⟨dq (P:=λ_ v=>eJ v=true) z.2 rfl,ks z.1⟩
   | _=>exact λ_ _ z=>nN z.2
end
structure Kw (W:WC) (F:Str->Option Fn) (ga ba:Addr) (fI:Addr):Prop where
 nl:W.aA.NoLimit
 fn:∀x fn,F x=some fn->uf x=none->∀r,W.gv x=some r->∃a,r=.ref a/\yV W ga ba fn a
 RQ:∀fn,F "Unit.__init__"=some fn->yV W ga ba fn fI
 unit:W.gv "Unit"=some (.ref W.ak)
 made:PySem.W.Makes (model W.pg W.w) W.aA W.ak
 E4:PySem.W.Looks (model W.pg W.w) W.aA (typeLookup (.ref W.ak) "__init__") (some (.ref fI))
 E5:∀self,PySem.W.Looks (model W.pg W.w) W.aA (bindSpecial (.ref fI) self) (.ref fI,[self])
 keep:PySem.W.Looks (model W.pg W.w) W.aA (keeperOf (.ref W.ak)) .machine
section
variable{F:Str->Option Fn}{fI:Addr}{d:Nat}
theorem end_is{p:Fl×Ms×St}{v:V}{r:Flow}{P:Flow->Prop}(e:rh p=some (v,J))(f:Js W h O p.2.2.n p.1 r)(k:p.2.2=J->∀r,VR W h O p.2.2.n v r->P (.ret r))(k':p.2.2=J->VR W h O p.2.2.n v .none->P .next):P r:=by
 obtain ⟨c,m₁,ao⟩:=p
 revert f e
 induction c using Fl.casesOn with
 | next=>exact λe f=>(show r=.next from f)▸k' (dq (P:=λ_ J=>ao=J) e rfl) (dq (P:=λv _=>VR W h O ao.n v .none) e VR.none)
 | brk=>exact nN
 | ret u=>exact λe f=>aO f λa er x=>er▸k (dq (P:=λ_ J=>ao=J) e rfl) a (dq (P:=λv _=>VR W h O ao.n v a) e x)
theorem wW(K:Fix W aj ga ba){ak:Str->List V->St->R}(CS:AG W ak d)(nl:W.aA.NoLimit){fn:Fn}{a:Addr}(FO:yV W ga ba fn a){I:List V}{rs:List Value}{v:V}{p:Fl×Ms×St}(e:fG (cI aj ak fg) fn.body (d9 fn I) Z=some p)
  (hv:rh p=some (v,J)) (len:fn.params.length=I.length) (rm:sy A d) (R:Rel W O Z s.heap) (xs:bq W s.heap O Z.n I rs) {RR:Result->Shared->Prop}
  (z:∀r aN G tk,Rel W aN J G->Step bQ O aN Z.n J.n s.heap G->VR W G aN J.n v r->RR (.ok (.ret r)) {s with heap:=G,toks:=tk}):codeAny (model W.pg W.w) A (.call (.ref a) ⟨rs,[]⟩) RR s:=by
 refine J8 FO λo fd f1 f2 f3 f4 f5 f6 f7 f8 f9 OH TN RS OI Kx=>?_
 refine Ab (triples fn.params len xs) λl l1 l2 l3 l4=>?_
 have TP:gf fn.names l=d9 fn I:=by
  unfold d9;rw [l1,l3,sA];exact (sD l fn.names).symm
 have hb:=f9 rs (by rw [l1,l2,List.length_map,List.length_map])
 rw [(by rw [l1,l2,sA]:fn.params.zip rs=l.map λp=>(p.1,p.2.2))] at hb
 rw [l1] at Kx
 refine codeAny_call_cells (fd:=fd) (Nat.lt_of_le_of_lt (Nat.le_trans (Nat.le_add_right _ _) (Nat.le_trans (Nat.le_add_right _ _) (Nat.le_add_right _ _))) rm.2.2.1) (R.old _ _ f1) f2 (nl.keeps R.old) (f7.keeps R.old) f3 hb f4 (λx hx=>(List.mem_map.mp hx).elim λp hp=>hp.2▸
  (Kx.1 p.1 (List.mem_map.mpr ⟨p,hp.1,rfl⟩)).imp (dg OI) λw=>⟨dg OI w,cellsFrom_some _ _ _ (.inl w)⟩) (λs₁ X=>?_) OH TN RS
 have vl:=TP▸FR.start (ga:=ga) (ba:=ba) (fn:=fn) (a:=a) f5 f6 f8 RS OI Kx.1 Kx.2.1 Kx.2.2 (s₁:=s₁) (O:=O) (Z:=Z) (λp hp=>(l4 p hp).mono (λa rs e q=>X.toInCall.keep _ _ q) (λ_ _=>rfl) (Nat.le_refl _)) R X
 refine bV X.done λaA aD es keep=>?_
 subst es
 have y:=R.keeps keep
 have fresh:∀b,FR.X (callEnvC fd s.heap.objs.size a) b->s.heap.get? b=none:=λb hb=>bK (hb.elim (λe=>e▸Nat.le_refl _) λhb=>hb.elim λx hb=>Nat.le_of_lt (X.above x b (mem_of_lookup hb)))
 refine fJ (s:={s with heap:=aA,toks:=aD}) (yU K CS fg) (rm.in _) e vl y.1 _ _ λr aX aZ aS aY aV cq=>?_
 have S2:=((y.2.widen (Y:=FR.X (callEnvC fd s.heap.objs.size a)) λ_ f=>f.elim).trans aV).jQ fresh
 exact end_is (P:=λf=>RR (.ok (.ret (match f with | .ret v=>v | _=>.none))) {s with heap:=aZ,toks:=aS}) hv cq.1 (λes r x=>z _ aX aZ aS (es▸aY) (es▸S2) (es▸x)) λes x=>z _ aX aZ aS (es▸aY) (es▸S2) (es▸x)
theorem sE{M:Model}{ak:Addr}(x:PySem.W.Makes M h ak)(k:∀b o,h.get? b=some o->G.get? b=some o):PySem.W.Makes M G ak:=
 ⟨F8 x.obj λoc od cd sl e r=>⟨oc,od,cd,sl,k _ _ e,r⟩,x.made.keeps k,x.base.keeps k,x.self.keeps k,x.top.keeps k,x.call.keeps k,x.typ.keeps k⟩
theorem mJ{x:Str}{I:List V}{r:V×St}{P:Prop}(e:fh aj F d x I Z=some r)(k:∀fn p d',d=d'+1->F x=some fn->fn.params.length=I.length->fG (cI aj (fh aj F d') fg) fn.body (d9 fn I) Z=some p->rh p=some r->P):P:=by
 revert e k
 induction d using Nat.casesOn with
 | zero=>exact nN
 | succ d=>exact λe k=>uO e λfn h1 e=>uI e λh2 e=>uO e λp h3 e=>k fn p d rfl h1 h2 h3 e
theorem yZ(K:Fix W aj ga ba)(CS:AG W (fh aj F d) d)(FO:Kw W F ga ba fI){fn:Fn}{p:Fl×Ms×St}{I:List V}{rs:List Value}(g1:F "Unit.__init__"=some fn)(g2:fn.params.length=(V.ref Z.n::I).length)
  (g3:fG (cI aj (fh aj F d) fg) fn.body (d9 fn (.ref Z.n::I)) (Z.alloc (.ins []))=some p) (g4:rh p=some (.none,J)) (rm:bD A (d+1)) (R:Rel W O Z s.heap) (xs:bq W s.heap O Z.n I rs):
  az W A bQ (call (.ref W.ak) rs []) O Z s J (cJ W J (.ref Z.n)):=λQ E z=>by
 obtain ⟨hp,g,dr,tk,os⟩:=s
 have k:∀a o,hp.get? a=some o->((hp.push PySem.W.emptyDict).push (PySem.W.instObj W.ak hp.objs.size)).get? a=some o:=λa o e=>Heap.get?_push_of_some _ (Heap.get?_push_of_some _ e)
 have gi:((hp.push PySem.W.emptyDict).push (PySem.W.instObj W.ak hp.objs.size)).get? (hp.objs.size+1)=some (PySem.W.instObj W.ak hp.objs.size):=(Heap.size_push ..:(hp.push PySem.W.emptyDict).objs.size=hp.objs.size+1)▸Heap.get?_push_size (hp.push PySem.W.emptyDict) (o:=PySem.W.instObj W.ak hp.objs.size) rfl
 have gd:((hp.push PySem.W.emptyDict).push (PySem.W.instObj W.ak hp.objs.size)).get? hp.objs.size=some PySem.W.emptyDict:=Heap.get?_push_of_some _ (Heap.get?_push_size _ rfl)
 have y:=R.alloc (p:=(hp.objs.size+1,hp.objs.size)) (o:=.ins []) k ⟨bK (Nat.le_succ _),aL _⟩ ⟨Nat.ne_of_lt (Nat.lt_succ_self _),_,λ_=>none,gi,rfl,(λc w=>nomatch w),rfl,
  Heap.Ns1.of_empty ⟨_,#[],0,gd,rfl,(λb hb=>absurd hb (Array.not_mem_empty b)),λ_=>rfl⟩,(by decide),λk=>.none⟩
 have mu:cy O Z.n (hp.objs.size+1,hp.objs.size) Z.n=(hp.objs.size+1,hp.objs.size):=if_pos rfl
 have TQ:sy (A.under (.builtin "type.__call__" ⟨.ref W.ak::rs,[]⟩)) d:=⟨rm.handled,(congrArg (pushGuards []) rm.guards:_),r1 (c:=2) (by decide:2<=8) rm.depth,r1 (c:=4) (by decide:4<=40) rm.units⟩
 refine wpAny_call (PySem.W.make_core (init:=.ref fI) (sE FO.made R.old) (FO.E4.keeps R.old) (λself=>(FO.E5 self).keeps R.old) (.inl rfl) ?_)
 refine wW (s:=⟨_,g,dr,tk,os⟩) (RR:=PySem.W.InitBack (hp.objs.size+1) _) (I:=.ref Z.n::I) K CS FO.nl (FO.RQ fn g1) g3 g4 g2 TQ y.1 (.cons (And.intro (congrArg (λp:Addr×Addr=>Value.ref p.1) mu.symm) (Nat.lt_succ_self _)) (xs.mono (λa rs e q=>k _ _ q) (λj q=>if_neg (Nat.ne_of_lt q)) (Nat.le_succ _))) λr aX aZ aS aY aV cq=>?_
 exact ⟨cq,z _ aX aZ aS aY ((y.2.widen (Y:=bQ) λ_ f=>f.elim).trans aV) (And.intro (congrArg (λp:Addr×Addr=>Value.ref p.1) ((aV.same Z.n (Nat.lt_succ_self _)).trans mu).symm) (Nat.lt_of_lt_of_le (Nat.lt_succ_self _) aV.le))⟩
theorem Ky(B:Jp W){x:Str}{b:BI}(hb:b≠ .unit)(e:uf x=some b){rf:Value}(g:W.gv x=some rf):CW W rf:=by
 have fin:∀{r:Value},W.gv x=some r->CW W r->CW W rf:=λh c=>Option.some.inj (h.symm.trans g)▸c
 rw [jV e] at fin
 clear e
 revert hb fin
 induction b using BI.casesOn with
 | len=>exact λ_ fin=>fin B.len (CW.builtin _ _)
 | list=>exact λ_ fin=>fin B.lst (CW.type _ _)
 | abs=>exact λ_ fin=>fin B.abs (CW.builtin _ _)
 | min=>exact λ_ fin=>fin B.min (CW.builtin _ _)
 | max=>exact λ_ fin=>fin B.max (CW.builtin _ _)
 | int=>exact λ_ fin=>fin B.int (CW.type _ _)
 | F3=>exact λ_ fin=>fin B.F3 (CW.builtin _ _)
 | repr=>exact λ_ fin=>fin B.repr (CW.builtin _ _)
 | sorted=>exact λ_ fin=>fin B.sorted (CW.builtin _ _)
 | all=>exact λ_ fin=>fin B.all (CW.builtin _ _)
 | unit=>exact λhb _=>absurd rfl hb
theorem Gu(FO:Kw W F ga ba fI):CW W (.ref W.ak) where
 go:=λ{A s pos args Q E} hp h=>
 PySem.W.callWith_of (P:=λh=>∀a o,W.aA.get? a=some o->h.get? a=some o) (by rw [hp];rfl) (λh k=>⟨.machine,.inr (.inl rfl),FO.keep.keeps k⟩)
  (wpAny_mono h (λa s₁ aA=>⟨aA.2.1,by rw [aA.1];exact aA.2.2⟩) λ_ _ e=>e)
theorem mK(K:Fix W aj ga ba)(FO:Kw W F ga ba fI)(sub:∀d',d=d'+1->AG W (fh aj F d') d'):AG W (fh aj F d) d:=by
 have un:∀{g:Str}{b:BI}{rf:Value},uf g=some b->b=.unit->W.gv g=some rf->.ref W.ak=rf:=λ{g b rf} hb eb=>by
  subst eb
  rw [jV hb]
  exact λhg=>Option.some.inj (FO.unit.symm.trans hg)
 refine ⟨λ{g I Z r rf} e hg=>uZ e (λhb e=>mJ e λfn p d' _ g1 _ _ _=>aO (FO.fn g fn g1 hb rf hg) λa ea FN=>ea▸bV FN λo fd f1 f2=>CW.func f1 f2.1) λb hb e=>(Classical.em (b=.unit)).elim (λeb=>un hb eb hg▸Gu FO) λnb=>Ky K.E0 nb hb hg,
  λ{g I Z J v A O s rf rs} e rm R xf xs=>uZ e (λhb e=>mJ e λfn p d' ed g1 g2 g3 g4=>?_) λb hb e=>(Classical.em (b=.unit)).elim (λeb=>?_) λnb=>rU K.E0 nb hb R xf xs rm bQ e⟩
 ·subst ed
  exact aO (FO.fn g fn g1 hb rf xf) λa ea FN Q E z=>ea▸wpAny_call (wW K (sub d' rfl) FO.nl FN g3 g4 g2 rm.one R xs λr aX aZ aS aY aV cq=>z r aX aZ aS aY aV cq)
 ·rw [<-un hb eb xf]
  subst eb
  refine uP (show dc (fh aj F d "Unit.__init__" (.ref Z.n::I) (Z.alloc (.ins []))) (λv J=>CT v (some (.ref Z.n,J)))=some (v,J) from e) λu ao e1 e=>uN e λeu e2=>?_
  subst eu
  refine mJ e1 λfn p d' ed g1 g2 g3 g4=>?_
  subst ed
  exact dq (P:=λv J=>az W A bQ (call (.ref W.ak) rs []) O Z s J (cJ W J v)) e2 (yZ K (sub d' rfl) FO g1 g2 g3 g4 rm R xs)
theorem sF(K:Fix W aj ga ba)(FO:Kw W F ga ba fI)(d:Nat):AG W (fh aj F d) d:=by
 induction d with
 | zero=>exact mK K FO λd' e=>absurd e.symm (Nat.succ_ne_zero d')
 | succ d ih=>exact mK K FO λd' e=>Nat.succ.inj e▸ih
end
end Mine
end
section
set_option maxHeartbeats 4000000
namespace Mine
open PySem
noncomputable def Dt:List (String×V):=[("OP_UNDEF",.int (0)),("OP_NULL",.int (1)),("OP_TRUE",.int (2)),("OP_FALSE",.int (3)),("OP_CONST",.int (4)),("OP_POP",.int (6)),("OP_DUP",.int (7)),("OP_DUP2",.int (8)),("OP_SWAP",.int (9)),("OP_ADD",.int (30)),("OP_SUB",.int (31)),("OP_MUL",.int (32)),("OP_DIV",.int (33)),("OP_MOD",.int (34)),("OP_SHL",.int (35)),("OP_SHR",.int (36)),("OP_USHR",.int (37)),("OP_AND",.int (38)),("OP_OR",.int (39)),("OP_XOR",.int (40)),("OP_SEQ",.int (43)),("OP_SNE",.int (44)),("OP_LT",.int (45)),("OP_GT",.int (46)),("OP_LE",.int (47)),("OP_GE",.int (48)),("OP_NEG",.int (51)),("OP_TONUM",.int (52)),("OP_NOT",.int (53)),("OP_BITNOT",.int (54)),("OP_TYPEOF",.int (55)),("OP_INC",.int (56)),("OP_DEC",.int (57)),("OP_JMP",.int (58)),("OP_JF",.int (59)),("OP_JT",.int (60)),("OP_JFK",.int (61)),("OP_JTK",.int (62)),("OP_RET",.int (65)),("OP_THROW",.int (66)),("OP_NEXTIN",.int (77)),("OP_GOSUB",.int (78)),("OP_RETSUB",.int (79)),("OP_FAILSET",.int (83)),("SIGN_BIT",.int (9223372036854775808)),("FRACTION_BITS",.int (52)),("FRACTION_MASK",.int (4503599627370495)),("HIDDEN_BIT",.int (4503599627370496)),("EXPONENT_MASK",.int (2047)),("EXPONENT_SHIFT",.int (1075)),("LEAST_POWER",.int (-1074)),("ZERO",.int (0)),("ONE",.int (4607182418800017408)),("INF",.int (9218868437227405312)),("NAN",.int (9221120237041090560)),("TWO_32",.int (4294967296)),("TWO_31",.int (2147483648)),("ARITHMETIC",.tup [.int (31),.int (32),.int (33),.int (34)]),("SHIFTS",.tup [.int (35),.int (36),.int (37)]),("BITS",.tup [.int (38),.int (39),.int (40)]),("ORDERS",.tup [.int (45),.int (46),.int (47),.int (48)]),("LITERALS",.tup [.int (0),.int (1),.int (2),.int (3),.int (4)]),("TESTS",.tup [.int (59),.int (60),.int (61),.int (62)]),("MOVES",.tup [.int (6),.int (7),.int (8),.int (9)]),("OPERATIONS",.cl [.tup [.str "UNDEF",.str "",.int (0),.int (1)],.tup [.str "NULL",.str "",.int (0),.int (1)],.tup [.str "TRUE",.str "",.int (0),.int (1)],.tup [.str "FALSE",.str "",.int (0),.int (1)],.tup [.str "CONST",.str "k",.int (0),.int (1)],.tup [.str "THIS",.str "",.int (0),.int (1)],.tup [.str "POP",.str "",.int (1),.int (0)],.tup [.str "DUP",.str "",.int (1),.int (2)],.tup [.str "DUP2",.str "",.int (2),.int (4)],.tup [.str "SWAP",.str "",.int (2),.int (2)],.tup [.str "ROT3",.str "",.int (3),.int (3)],.tup [.str "GETLOC",.str "l",.int (0),.int (1)],.tup [.str "SETLOC",.str "l",.int (1),.int (1)],.tup [.str "GETCELL",.str "c",.int (0),.int (1)],.tup [.str "SETCELL",.str "c",.int (1),.int (1)],.tup [.str "GETUP",.str "u",.int (0),.int (1)],.tup [.str "SETUP",.str "u",.int (1),.int (1)],.tup [.str "FRESH",.str "c",.int (0),.int (0)],.tup [.str "GETGLOB",.str "s",.int (0),.int (1)],.tup [.str "TYPEGLOB",.str "s",.int (0),.int (1)],.tup [.str "SETGLOB",.str "s",.int (1),.int (1)],.tup [.str "DECLVAR",.str "s",.int (0),.int (0)],.tup [.str "DECLFUN",.str "s",.int (1),.int (0)],.tup [.str "GETPROP",.str "s",.int (1),.int (1)],.tup [.str "SETPROP",.str "s",.int (2),.int (1)],.tup [.str "GETELEM",.str "",.int (2),.int (1)],.tup [.str "SETELEM",.str "",.int (3),.int (1)],.tup [.str "DELPROP",.str "s",.int (1),.int (1)],.tup [.str "DELELEM",.str "",.int (2),.int (1)],.tup [.str "DELNAME",.str "s",.int (0),.int (1)],.tup [.str "ADD",.str "",.int (2),.int (1)],.tup [.str "SUB",.str "",.int (2),.int (1)],.tup [.str "MUL",.str "",.int (2),.int (1)],.tup [.str "DIV",.str "",.int (2),.int (1)],.tup [.str "MOD",.str "",.int (2),.int (1)],.tup [.str "SHL",.str "",.int (2),.int (1)],.tup [.str "SHR",.str "",.int (2),.int (1)],.tup [.str "USHR",.str "",.int (2),.int (1)],.tup [.str "AND",.str "",.int (2),.int (1)],.tup [.str "OR",.str "",.int (2),.int (1)],.tup [.str "XOR",.str "",.int (2),.int (1)],.tup [.str "EQ",.str "",.int (2),.int (1)],.tup [.str "NE",.str "",.int (2),.int (1)],.tup [.str "SEQ",.str "",.int (2),.int (1)],.tup [.str "SNE",.str "",.int (2),.int (1)],.tup [.str "LT",.str "",.int (2),.int (1)],.tup [.str "GT",.str "",.int (2),.int (1)],.tup [.str "LE",.str "",.int (2),.int (1)],.tup [.str "GE",.str "",.int (2),.int (1)],.tup [.str "IN",.str "",.int (2),.int (1)],.tup [.str "INSTANCEOF",.str "",.int (2),.int (1)],.tup [.str "NEG",.str "",.int (1),.int (1)],.tup [.str "TONUM",.str "",.int (1),.int (1)],.tup [.str "NOT",.str "",.int (1),.int (1)],.tup [.str "BITNOT",.str "",.int (1),.int (1)],.tup [.str "TYPEOF",.str "",.int (1),.int (1)],.tup [.str "INC",.str "",.int (1),.int (1)],.tup [.str "DEC",.str "",.int (1),.int (1)],.tup [.str "JMP",.str "t",.int (0),.int (0)],.tup [.str "JF",.str "t",.int (1),.int (0)],.tup [.str "JT",.str "t",.int (1),.int (0)],.tup [.str "JFK",.str "t",.int (1),.int (0)],.tup [.str "JTK",.str "t",.int (1),.int (0)],.tup [.str "CALL",.str "n",.int (2),.int (1)],.tup [.str "NEW",.str "n",.int (1),.int (1)],.tup [.str "RET",.str "",.int (1),.int (0)],.tup [.str "THROW",.str "",.int (1),.int (0)],.tup [.str "CLOSURE",.str "f",.int (0),.int (1)],.tup [.str "NEWOBJ",.str "",.int (0),.int (1)],.tup [.str "NEWARR",.str "n",.int (0),.int (1)],.tup [.str "HOLE",.str "",.int (0),.int (1)],.tup [.str "INITPROP",.str "s",.int (2),.int (1)],.tup [.str "INITGET",.str "s",.int (2),.int (1)],.tup [.str "INITSET",.str "s",.int (2),.int (1)],.tup [.str "METHOD",.str "s",.int (1),.int (2)],.tup [.str "METHODEL",.str "",.int (2),.int (2)],.tup [.str "FORIN",.str "",.int (1),.int (1)],.tup [.str "NEXTIN",.str "t",.int (1),.int (2)],.tup [.str "GOSUB",.str "t",.int (0),.int (0)],.tup [.str "RETSUB",.str "",.int (2),.int (0)],.tup [.str "CHECKOBJ",.str "",.int (1),.int (1)],.tup [.str "TOKEY",.str "",.int (2),.int (2)],.tup [.str "ROT4",.str "",.int (4),.int (4)],.tup [.str "FAILSET",.str "s",.int (1),.int (0)],.tup [.str "REGEXP",.str "",.int (2),.int (1)]]),("LAST_OPS",.cl [.int (58),.int (65),.int (66),.int (79),.int (83)]),("PLAIN_OPS",.cd [(0,.none),(1,.bo "NULL"),(2,.bool true),(3,.bool false)]),("PLAIN_TEST",.cd [(61,.int (59)),(62,.int (60))]),("SAME_TESTS",.cd [(61,.tup [.int (59),.int (61)]),(62,.tup [.int (60),.int (62)])]),("arg_kind",.bo "arg_kind"),("taken_count",.bo "taken_count"),("is_last",.bo "is_last"),("width",.bo "width"),("pack",.bo "pack"),("is_negative",.bo "is_negative"),("is_nan",.bo "is_nan"),("is_inf",.bo "is_inf"),("is_finite",.bo "is_finite"),("is_zero",.bo "is_zero"),("signed",.bo "signed"),("signed_dbits",.bo "signed_dbits"),("parts",.bo "parts"),("quotient",.bo "quotient"),("round_ratio",.bo "round_ratio"),("assembled",.bo "assembled"),("round_scaled",.bo "round_scaled"),("from_int",.bo "from_int"),("to_int",.bo "to_int"),("is_null",.bo "is_null"),("is_number",.bo "is_number"),("is_text",.bo "is_text"),("truthy",.bo "truthy"),("neg",.bo "neg"),("add",.bo "add"),("summed",.bo "summed"),("sub",.bo "sub"),("mul",.bo "mul"),("div",.bo "div"),("rem",.bo "rem"),("order_key",.bo "order_key"),("compare",.bo "compare"),("to_uint32",.bo "to_uint32"),("to_int32",.bo "to_int32"),("reckon",.bo "reckon"),("signed_ops_math",.bo "signed_ops_math"),("shift",.bo "shift"),("join_bits",.bo "join_bits"),("is_literal",.bo "is_literal"),("literal_value",.bo "literal_value"),("same_literal",.bo "same_literal"),("literal_row",.bo "literal_row"),("kind_text",.bo "kind_text"),("is_plain_number",.bo "is_plain_number"),("strictly_equal",.bo "strictly_equal"),("number_order",.bo "number_order"),("known_unary",.bo "known_unary"),("known_binary",.bo "known_binary"),("copy_head",.bo "copy_head"),("joints",.bo "joints"),("line_at",.bo "line_at"),("rebuilt",.bo "rebuilt"),("with_code",.bo "with_code"),("for_all",.bo "for_all"),("moved",.bo "moved"),("tested",.bo "tested"),("turned_test",.bo "turned_test"),("shorter",.bo "shorter"),("folded_rows",.bo "folded_rows"),("fold_one",.bo "fold_one"),("fold_unit",.bo "fold_unit"),("later_places",.bo "later_places"),("live_places",.bo "live_places"),("is_idle",.bo "is_idle"),("clean_once",.bo "clean_once"),("clean_one",.bo "clean_one"),("clean_unit",.bo "clean_unit"),("end_of",.bo "end_of"),("kept_step",.bo "kept_step"),("threaded",.bo "threaded"),("thread_one",.bo "thread_one"),("thread_unit",.bo "thread_unit"),("_law_pieces",.bo "_law_pieces"),("_law_take",.bo "_law_take"),("_law_rows",.bo "_law_rows"),("_law_coded",.bo "_law_coded"),("_law_valued",.bo "_law_valued"),("_law_head",.bo "_law_head"),("_law_unit",.bo "_law_unit"),("_law_shown",.bo "_law_shown"),("_law_passes_right",.bo "_law_passes_right"),("_law_small_right",.bo "_law_small_right"),("law",.bo "law"),("len",.bo "len"),("list",.bo "list"),("abs",.bo "abs"),("min",.bo "min"),("max",.bo "max"),("int",.bo "int"),("isinstance",.bo "isinstance"),("repr",.bo "repr"),("sorted",.bo "sorted"),("all",.bo "all"),("range",.bo "range"),("enumerate",.bo "enumerate"),("zip",.bo "zip"),("Unit",.bo "Unit"),("Null",.bo "Null"),("NULL",.bo "NULL"),("bool",.bo "bool"),("str",.bo "str")]
noncomputable def Gv:List (String×Nat):=[("arg_kind",48),("taken_count",49),("is_last",50),("width",63),("pack",64),("is_negative",65),("is_nan",66),("is_inf",67),("is_finite",68),("is_zero",69),("signed",108),("signed_dbits",70),("parts",72),("quotient",73),("round_ratio",74),("assembled",75),("round_scaled",76),("from_int",77),("to_int",78),("is_null",82),("is_number",83),("is_text",84),("truthy",86),("neg",88),("add",89),("summed",90),("sub",91),("mul",92),("div",93),("rem",94),("order_key",95),("compare",96),("to_uint32",100),("to_int32",101),("reckon",107),("signed_ops_math",108),("shift",110),("join_bits",111),("is_literal",115),("literal_value",116),("same_literal",117),("literal_row",118),("kind_text",119),("is_plain_number",120),("strictly_equal",121),("number_order",122),("known_unary",123),("known_binary",124),("copy_head",126),("joints",127),("line_at",128),("rebuilt",129),("with_code",130),("for_all",131),("moved",135),("tested",136),("turned_test",137),("shorter",138),("folded_rows",139),("fold_one",140),("fold_unit",141),("later_places",143),("live_places",144),("is_idle",145),("clean_once",146),("clean_one",147),("clean_unit",148),("end_of",152),("kept_step",153),("threaded",154),("thread_one",155),("thread_unit",156),("_law_pieces",158),("_law_take",159),("_law_rows",160),("_law_coded",161),("_law_valued",162),("_law_head",163),("_law_unit",164),("_law_shown",165),("_law_passes_right",166),("_law_small_right",167),("law",168)]
def gL(x:Str):V:=Option.casesOn (Dt.find? λp=>Str.ofString p.1==x) .qW (·.2)
def OJ(i:Nat):Stmt:=PySem.Challenge.pw_nt0389_01.main.body.getD i (.Pass default)
noncomputable def fL(x:Str):Option Fn:=if x="Unit.__init__" then Stmt.casesOn (OJ 47) (λ_ _ _ _ _ _ _ _ _ _=>.none) (λ_ _ _ _ _ _ _ _ _ _=>.none) (λ_ _ _ b _ _ _ _ _ _ _=>fnOf (b.getD 0 (.Pass default))) (λ_ _=>.none) (λ_ _=>.none) (λ_ _ _=>.none) (λ_ _ _ _ _ _ _=>.none) (λ_ _ _ _=>.none) (λ_ _ _ _ _=>.none) (λ_ _ _ _ _=>.none) (λ_ _ _ _ _=>.none) (λ_ _ _ _=>.none) (λ_ _ _ _=>.none) (λ_ _ _=>.none) (λ_ _ _=>.none) (λ_ _ _=>.none) (λ_ _ _=>.none) (λ_ _ _ _ _=>.none) (λ_ _ _ _ _=>.none) (λ_ _ _=>.none) (λ_ _=>.none) (λ_ _ _ _=>.none) (λ_ _=>.none) (λ_ _=>.none) (λ_ _=>.none) (λ_=>.none) (λ_=>.none) (λ_=>.none) else
 bC (Gv.find? λp=>Str.ofString p.1==x) λp=>fnOf (OJ p.2)
abbrev run(d:Nat)(x:Str)(I:List V)(Z:St):R:=fh gL fL d x I Z
end Mine
end
section
namespace Mine
open PySem PySem.Calls
theorem mM:∀(ns:List Str)(I:List Value),I.length=ns.length->∀n,n∈ns->((ns.zip I).lookup n).isNone=false
 | n'::ns,v::I,hl,n,hm=>by
  rw [List.zip_cons_cons,List.lookup_cons]
  by_cases q:n=n'
  ·subst q;rw [beq_self_eq_true];rfl
  ·rw [beq_eq_false_iff_ne.mpr q]
   rcases List.mem_cons.mp hm with w | w
   ·exact absurd w q
   ·exact mM ns I (Nat.succ.inj hl) n w
theorem oE:∀(ns:List Str)(I:List Value)(more:List (Str×Value)),I.length=ns.length->ns.Nodup->(∀n,n∈ns->more.lookup n=none)->(ns.filterMap λn=>((more++ns.zip I).lookup n).map (n,·))=ns.zip I
 | [],[],_,_,_,_=>rfl
 | n::ns,v::I,more,hl,nd,hm=>by
  rw [List.nodup_cons] at nd
  have l1:∀(m:List (Str×Value))(r:List (Str×Value))(x:Str),m.lookup x=none->(m++r).lookup x=r.lookup x:=by
   intro m
   induction m with
   | nil=>intro r x _;rfl
   | cons p m ih=>
    intro r x e
    rw [List.lookup_cons] at e
    rw [List.cons_append,List.lookup_cons]
    cases h:x==p.1 with
    | true=>rw [h] at e;cases e
    | false=>rw [h] at e;exact ih r x e
  rw [List.zip_cons_cons,List.filterMap_cons,l1 more _ n (hm n (.head _)),List.lookup_cons,beq_self_eq_true]
  show (n,v)::_=_
  congr 1
  have e:more++(n,v)::ns.zip I=(more++[(n,v)])++ns.zip I:=by simp
  rw [e]
  refine oE ns I _ (Nat.succ.inj hl) nd.2 λx hx=>?_
  have uw:x≠n:=λw=>nd.1 (by rw [<-w];exact hx)
  rw [l1 more _ x (hm x (.tail _ hx)),List.lookup_cons,beq_eq_false_iff_ne.mpr uw]
  rfl
theorem vn{fd:FuncData}(RT:fd.params.posonlyargs=[])(RU:fd.params.vararg=none)(RY:fd.params.kwonlyargs=[])(RZ:fd.params.kwarg=none)(hd:fd.defaults=.none)(nd:(fd.params.args.map (·.arg)).Nodup){vals:List Value}(hl:vals.length=(fd.params.args.map (·.arg)).length):
  bindArgs fd ⟨vals,[]⟩=pure ((fd.params.args.map (·.arg)).zip vals):=by
 have h1:=mM _ vals hl
 have h2:=oE _ vals [] hl nd (λ_ _=>rfl)
 obtain ⟨nm,qn,params,body,scope,gl,Jx,Wx⟩:=fd
 obtain ⟨po,as,va,ko,kd,kw,ds⟩:=params
 dsimp only at RT RU RY RZ hd nd hl h1 h2⊢
 subst RT RU RY RZ hd
 have h3:((as.map (·.arg)).take (as.map (·.arg)).length).filter (λn=>(((as.map (·.arg)).zip vals).lookup n).isNone)=[]:=by
  rw [List.take_length,List.filter_eq_nil_iff]
  intro n hn w
  rw [h1 n hn] at w;cases w
 have h4:(as.map (·.arg)).drop (as.map (·.arg)).length=[]:=List.drop_length
 rw [List.nil_append] at h2
 show (if (decide (vals.length>(as.map (·.arg)).length)&&true)=true then _ else _:Sem _)=_
 rw [hl,show decide ((as.map (·.arg)).length>(as.map (·.arg)).length)=false from decide_eq_false (Nat.lt_irrefl _)]
 rw [if_neg (by decide)]
 have h5:List.drop (0-(as.map (·.arg)).length) ([]:List Value)=[]:=List.drop_nil
 show (if (!(((as.map (·.arg)).take ((as.map (·.arg)).length-(List.drop (0-(as.map (·.arg)).length) ([]:List Value)).length)).filter λn=>(((as.map (·.arg)).zip vals).lookup n).isNone).isEmpty)=true then _ else _:Sem _)=_
 rw [h5]
 show (if (!(((as.map (·.arg)).take (as.map (·.arg)).length).filter λn=>(((as.map (·.arg)).zip vals).lookup n).isNone).isEmpty)=true then _ else _:Sem _)=_
 rw [h3,if_neg (by decide)]
 show (do
  let s<-forIn (((as.map λx:Arg=>x.arg).drop ((as.map λx:Arg=>x.arg).length-(List.drop (0-(as.map λx:Arg=>x.arg).length) ([]:List Value)).length)).zip (List.drop (0-(as.map λx:Arg=>x.arg).length) ([]:List Value))) ((as.map λx:Arg=>x.arg).zip vals) λx s=>if (s.lookup x.1).isNone=true then pure (ForInStep.yield (s++[(x.1,x.2)])) else pure (ForInStep.yield s)
  pure (((as.map λx:Arg=>x.arg)++[]).filterMap λn=>(s.lookup n).map (n,·)):Sem (List (Str×Value)))=_
 rw [h5,List.append_nil,List.zip_nil_right]
 show (pure ((as.map λx:Arg=>x.arg).filterMap λn=>(((as.map λx:Arg=>x.arg).zip vals).lookup n).map (n,·)):Sem (List (Str×Value)))=_
 rw [h2]
noncomputable def qa(o:Obj)(nm:String)(f:Data->Bool):Bool:=decide (o.cls=.type nm)&&(o.dict.isNone&&(o.slots.isEmpty&&f o.data))
def sG(K:PySem.W.Frag)(a:Addr)(f:Obj->Bool):Bool:=Option.casesOn (K.lookup a) false f
noncomputable def AY(K:PySem.W.Frag)(nm:String)(a:Addr)(f:List Value->Bool):Bool:=sG K a λo=>qa o nm λd=>Data.casesOn d false (λ_=>false) (λrs _=>f rs.toList) (λ_ _=>false) (λ_ _ _=>false) (λ_ _=>false) (λ_=>false) (λ_=>false) (λ_=>false) (λ_=>false) false
noncomputable def dictAt(K:PySem.W.Frag)(a:Addr)(f:List DictEntry->Bool):Bool:=sG K a λo=>qa o "dict" λd=>Data.casesOn d false (λ_=>false) (λ_ _=>false) (λes _=>f es.toList) (λ_ _ _=>false) (λ_ _=>false) (λ_=>false) (λ_=>false) (λ_=>false) (λ_=>false) false
noncomputable def rI(v:Value)(f:Int->Bool):Bool:=Value.casesOn v false false false (λ_=>false) (λi _=>f i) (λ_ _=>false) (λ_ _=>false) (λ_ _=>false) (λ_=>false) (λ_=>false) (λ_=>false)
noncomputable def rS(v:Value)(f:Str->Bool):Bool:=Value.casesOn v false false false (λ_=>false) (λ_ _=>false) (λ_ _=>false) (λi _=>f i) (λ_ _=>false) (λ_=>false) (λ_=>false) (λ_=>false)
noncomputable def rR(v:Value)(f:Addr->Bool):Bool:=Value.casesOn v false false false (λ_=>false) (λ_ _=>false) (λ_ _=>false) (λ_ _=>false) (λ_ _=>false) (λ_=>false) (λ_=>false) f
noncomputable def all2{α β:Type}(f:α->β->Bool)(l:List α):List β->Bool:=List.rec (λk=>k.isEmpty) (λx _ r k=>List.casesOn k false λy ys=>f x y&&r ys) l
noncomputable def OK(K:PySem.W.Frag)(gv:Str->Option Value)(r:V->Value->Bool)(v:V)(x:Value):Bool:=V.casesOn v (decide (x=.none)) (λb=>decide (x=.bool b)) (λi=>rI x λj=>decide (i=j)) (λs=>rS x λt=>decide (s=t)) (λI=>rR x λa=>AY K "tuple" a (all2 r I)) (λI=>rR x λa=>AY K "list" a (all2 r I)) (λl=>rR x λa=>dictAt K a λes=> !(a==sysModules)&&(decide (l.map (·.1)).Nodup&&all2 (λp e=>rI e.key (λk=>decide (p.1=k))&&(decide (e.hash=hashInt p.1)&&r p.2 e.val)) l es)) (λg=>decide (gv g=some x)) (λ_=>false) false false
noncomputable def R4(K:PySem.W.Frag)(gv:Str->Option Value)(n:Nat):V->Value->Bool:=Nat.rec (λ_ _=>false) (λ_ r=>OK K gv r) n
theorem aB{a b:Bool}{P:Prop}(e:(a&&b)=true)(k:a=true->b=true->P):P:=have z:=Bool.and_eq_true_iff.mp e;k z.1 z.2
theorem sH{o:Obj}{nm:String}{f:Data->Bool}(e:qa o nm f=true):o=⟨.type nm,none,o.data,#[]⟩/\f o.data=true:=by
 obtain ⟨c,d,t,s⟩:=o
 refine aB e λe1 e=>aB e λe2 e=>aB e λe3 e=>⟨?_,e⟩
 have h1:c=.type nm:=of_decide_eq_true e1
 have h2:d=none:=Option.isNone_iff_eq_none.mp e2
 have h3:s=#[]:=Array.isEmpty_iff.mp e3
 subst h1 h2 h3;rfl
section
variable{K:PySem.W.Frag}{a:Addr}{nm:String}{P:Prop}
theorem vp{f:Obj->Bool}(e:sG K a f=true)(k:∀o,K.lookup a=some o->f o=true->P):P:=by
 unfold sG at e
 revert e k
 cases K.lookup a with
 | none=>exact λe=>bF e
 | some o=>exact λe k=>k o rfl e
theorem sI{f:List Value->Bool}(e:AY K nm a f=true)(k:∀rs ep,K.lookup a=some ⟨.type nm,none,.seq rs.toArray ep,#[]⟩->f rs=true->P):P:=vp e λo h e=>by
 have z:=sH e
 revert z h
 obtain ⟨c,d,t,s⟩:=o
 induction t using Data.casesOn with
 | seq rs ep=>exact λh z=>k rs.toList ep (h.trans (congrArg some z.1)) z.2
 | _=>exact λh z=>bF z.2
theorem y0{f:List DictEntry->Bool}(e:dictAt K a f=true)(k:∀es ep,K.lookup a=some ⟨.type "dict",none,.dict es.toArray ep,#[]⟩->f es=true->P):P:=vp e λo h e=>by
 have z:=sH e
 revert z h
 obtain ⟨c,d,t,s⟩:=o
 induction t using Data.casesOn with
 | dict rs ep=>exact λh z=>k rs.toList ep (h.trans (congrArg some z.1)) z.2
 | _=>exact λh z=>bF z.2
end
section
variable{P:Value->Prop}{v:Value}
@[elab_as_elim] theorem E6{f:Int->Bool}(e:rI v f=true)(k:∀i t,f i=true->P (.int i t)):P v:=by
 revert e;induction v using Value.casesOn<;>first | exact k _ _ | exact bF
@[elab_as_elim] theorem AZ{f:Str->Bool}(e:rS v f=true)(k:∀i t,f i=true->P (.str i t)):P v:=by
 revert e;induction v using Value.casesOn<;>first | exact k _ _ | exact bF
@[elab_as_elim] theorem A0{f:Addr->Bool}(e:rR v f=true)(k:∀i,f i=true->P (.ref i)):P v:=by
 revert e;induction v using Value.casesOn<;>first | exact k _ | exact bF
end
section
variable{W:WC}{K:PySem.W.Frag}{gv:Str->Option Value}{O:Mu}{r:V->Value->Bool}
section
variable(ih:∀v x,r v x=true->VR W W.aA O 0 v x)
include ih
theorem sJ{I:List V}:∀{rs:List Value},all2 r I rs=true->bq W W.aA O 0 I rs:=by
 induction I with
 | nil=>exact λ{rs} e=>List.isEmpty_iff.mp e
 | cons v I q=>
  intro rs
  induction rs using List.casesOn with
  | nil=>exact bF
  | cons x rs=>exact λe=>aB e λe1 e2=>.cons (ih _ _ e1) (q e2)
theorem Du{l:List (Int×V)}:∀{es:List DictEntry},all2 (λp e=>rI e.key (λk=>decide (p.1=k))&&(decide (e.hash=hashInt p.1)&&r p.2 e.val)) l es=true->
  ∃bH:List (Int×Value),Pairs (intKind W.pg W.w) es bH/\(∀e,e∈es->∃k,(intKind W.pg W.w).is k e.key=true/\e.hash=(intKind W.pg W.w).hash k)/\fb W W.aA O 0 l bH:=by
 induction l with
 | nil=>exact λ{es} e=>(List.isEmpty_iff.mp e:es=[])▸⟨[],.nil,(λe h=>absurd h List.not_mem_nil),.nil⟩
 | cons p l q=>
  intro es
  induction es using List.casesOn with
  | nil=>exact bF
  | cons e es=>
   exact λw=>aB w λw1 w=>aB w1 λw1 w2=>aB w2 λw2 w3=>bJ (q w) λbH h1 h2 h3=>
    have hk:(intKind W.pg W.w).is p.1 e.key=true:=E6 (P:=λv=>(intKind W.pg W.w).is p.1 v=true) w1 λi t z=>(of_decide_eq_true z:p.1=i)▸intKind_is _ _ _ t
    ⟨(p.1,e.val)::bH,.cons hk rfl h1,λx hx=>(List.mem_cons.mp hx).elim (λex=>ex▸⟨p.1,hk,of_decide_eq_true w2⟩) (h2 x),.cons (k:=p.1) (v:=p.2) (ih _ _ w3) h3⟩
end
theorem Dv{l:List (Int×V)}{bH:List (Int×Value)}(x:fb W W.aA O 0 l bH):(l.map (·.1)).Nodup->wk W W.aA O 0 l (valueAt bH):=
 x.ind (P:=λ(l:List (Int×V)) (bH:List (Int×Value))=>(l.map λp:Int×V=>p.1).Nodup->wk W W.aA O 0 l (valueAt bH)) (λ_=>.nil λk=>rfl) λk v r l bH a b q nd=>
  .cons (g:=valueAt bH) (by unfold valueAt;rw [List.find?_cons,decide_eq_true rfl];rfl) a (λj hj=>by unfold valueAt;rw [List.find?_cons,decide_eq_false (λw=>hj w.symm)]) (q (List.nodup_cons.mp (show (k::l.map λp:Int×V=>p.1).Nodup from nd)).2)
theorem y6(X:K.In W.aA)(hg:∀x,gv x=W.gv x)(n:Nat):∀(v:V)(x:Value),R4 K gv n v x=true->VR W W.aA O 0 v x:=by
 induction n with
 | zero=>exact λv x e=>bF e
 | succ n ih=>
  intro v x
  induction v using V.casesOn with
  | none=>exact λe=>of_decide_eq_true (p:=x=.none) e
  | bool b=>exact λe=>of_decide_eq_true (p:=x=.bool b) e
  | int i=>exact λe=>E6 (P:=λx=>VR W W.aA O 0 (.int i) x) e λj t z=>(of_decide_eq_true z:i=j)▸VR.int i t
  | str s=>exact λe=>AZ (P:=λx=>VR W W.aA O 0 (.str s) x) e λj t z=>(of_decide_eq_true z:s=j)▸VR.str s t
  | bo g=>exact λe=>VR.bo ((hg g).symm.trans (of_decide_eq_true e))
  | tup I=>exact λe=>A0 (P:=λx=>VR W W.aA O 0 (.tup I) x) e λa e=>sI e λrs ep hl e=>.tup (e:=ep) (X _ _ hl) (sJ ih e)
  | cl I=>exact λe=>A0 (P:=λx=>VR W W.aA O 0 (.cl I) x) e λa e=>sI e λrs ep hl e=>.cl (e:=ep) (X _ _ hl) (sJ ih e)
  | cd l=>
   exact λe=>A0 (P:=λx=>VR W W.aA O 0 (.cd l) x) e λa e=>y0 e λes ep hl e=>aB e λe1 e=>aB e λe2 e3=>bJ (Du ih e3) λbH h1 h2 h3=>
    have nd:=of_decide_eq_true e2
    have D:W.aA.DictOf (intKind W.pg W.w) a bH:=⟨_,_,ep,X _ _ hl,⟨rfl,rfl,rfl⟩,rfl,λe he=>h2 e (Array.mem_toList_iff.mpr he),h1,h3.map▸nd⟩
    .cd D.mapOf (Bool.not_eq_true' _▸e1) (Dv h3 nd)
  | _=>exact λe=>bF e
end
end Mine
end
section
set_option maxHeartbeats 8000000
namespace Mine.Head
section
open PySem PySem.W
abbrev pw:Program:=PySem.Challenge.pw_nt0389_01
abbrev bS:Life:={}
def kK(i:Nat):Stmt:=pw.main.body.getD i (.Pass default)
noncomputable def A3(s:Stmt)(j:Nat):Stmt:=match s with | .ClassDef _ _ _ b _ _ _ _ _ _ _=>b.getD j (.Pass default) | s=>s
noncomputable def E7(s:Stmt)(qual:Str)(g b:Nat)(doc pm code:Value):FuncData:=match s with
 | .FunctionDef name args body _ _ _ scope _ _ _=>{name:=name,qualname:=qual,params:=args,body:=.stmts body,scope:=scope,globals:=g,closure:=[],defaults:=.none,kwdefaults:=.none,doc:=doc,pyModule:=pm,annotations:=none,code:=code,closureTuple:=.none,builtins:=b}
 | _=>default
noncomputable def R5(name:Str)(bases mro:List Value)(ns:Nat)(qual:Str)(hd:Bool)(sub:List Value)(abs del:Bool):ClassData:=
 {name:=name,bases:=bases,mro:=mro,ns:=ns,qualname:=qual,hasDict:=hd,slotNames:=[],subclasses:=sub,abstract:=abs,collection:=none,hasDel:=del}
noncomputable abbrev iH:Env:={scope:=pw.main.scope,locals:=mainNs,globals:=mainNs,cells:=[],code:=.ref 13,frame:=some 14}
abbrev bE:List Stmt:=behindTheImports pw
abbrev cE:Code:=.body bE iH
abbrev fB:List Frame:=[topFrame ⟨0,0,0,0⟩]
def gg(i n:Nat):List Stmt:=(pw.main.body.drop i).take n
noncomputable def E(P:Params)(x:String)(k:Nat)(v:Value):DictEntry:=⟨PyData.keyHash P (Str.ofString x),.str (Str.ofString x) k,v⟩
def eT:Obj:=⟨.type "tuple",none,.seq #[] 0,#[]⟩
def eF:Obj:=⟨.none,none,.fields #[],#[]⟩
def n:Value:=.none
def r(k:Nat):Value:=.ref k
noncomputable def fN(i:Nat)(x:String):Obj:=⟨.none,none,.func (E7 (kK i) (Str.ofString x) 0 0 .none .none .none),#[]⟩
noncomputable def fU(i:Nat)(x y:String)(k a:Nat):Obj:=⟨.type "function",none,.func (E7 (kK i) (Str.ofString x) 3 0 .none (.str (Str.ofString y) k) (.ref a)),#[]⟩
def sK:Nat->List String->List Value
 | _,[]=>[]
 | k,x::l=>.str (Str.ofString x) k::sK (k+1) l
def tS(k:Nat)(l:List String):Obj:=⟨.type "tuple",none,.seq (sK k l).toArray 0,#[]⟩
noncomputable def tO(k:Nat)(x y:String)(a b:Int):Obj:=⟨.type "tuple",none,.seq #[.str (Str.ofString x) k,.str (Str.ofString y) (k+1),.int a (k+2),.int b (k+3)] 0,#[]⟩
noncomputable def cO(x y:String)(k:Nat)(l a b c d:Int)(p q:Nat)(u v w:Value)(z:Nat)(t:Nat):Obj:=⟨.type "code",none,.fields #[.str (Str.ofString x) k,.str (Str.ofString y) (k+1),.str (Str.ofString "/claim/cut.py") (k+2),.int l 0,.int a 0,.int b 0,.int c 0,.int d 0,.ref p,.bool true,.int 181 0,.ref q,u,v,w,.ref z,.int (t:Nat) 0,.int l 0,.str (Str.ofString "/claim/cut.py") (t+1)],#[]⟩
noncomputable def bt:Nat->List Obj->BT
 | 0,_=>.nil
 | _,[]=>.nil
 | n+1,o::l=>.node o (bt n (ev l)) (bt n (od l))
where
 ev:List Obj->List Obj
  | []=>[]
  | [a]=>[a]
  | a::_::l=>a::ev l
 od:List Obj->List Obj
  | []=>[]
  | [_]=>[]
  | _::b::l=>b::od l
def sets(l:List Obj):List (Nat×Obj)->List Obj
 | []=>l
 | (i,o)::r=>sets (l.set i o) r
noncomputable def TR(P:Params):List DictEntry:=[E P "__name__" 165 (.str "js.codes" 187),E P "__doc__" 166 (.none),E P "__package__" 167 (.none),E P "__loader__" 168 (.builtin "__main__.__loader__#opaque"),E P "__spec__" 169 (.none),E P "__annotations__" 170 (.ref 6),E P "__builtins__" 171 (.ref 4),E P "__file__" 173 (.str "/claim/cut.py" 172),E P "__cached__" 174 (.none),E P "OP_UNDEF" 190 (.int (0) 189),E P "OP_NULL" 192 (.int (1) 191),E P "OP_TRUE" 194 (.int (2) 193),E P "OP_FALSE" 196 (.int (3) 195),E P "OP_CONST" 198 (.int (4) 197),E P "OP_POP" 200 (.int (6) 199),E P "OP_DUP" 202 (.int (7) 201),E P "OP_DUP2" 204 (.int (8) 203),E P "OP_SWAP" 206 (.int (9) 205),E P "OP_ADD" 208 (.int (30) 207),E P "OP_SUB" 210 (.int (31) 209),E P "OP_MUL" 212 (.int (32) 211),E P "OP_DIV" 214 (.int (33) 213),E P "OP_MOD" 216 (.int (34) 215),E P "OP_SHL" 218 (.int (35) 217),E P "OP_SHR" 220 (.int (36) 219),E P "OP_USHR" 222 (.int (37) 221),E P "OP_AND" 224 (.int (38) 223),E P "OP_OR" 226 (.int (39) 225),E P "OP_XOR" 228 (.int (40) 227),E P "OP_SEQ" 230 (.int (43) 229),E P "OP_SNE" 232 (.int (44) 231),E P "OP_LT" 234 (.int (45) 233),E P "OP_GT" 236 (.int (46) 235),E P "OP_LE" 238 (.int (47) 237),E P "OP_GE" 240 (.int (48) 239),E P "OP_NEG" 242 (.int (51) 241),E P "OP_TONUM" 244 (.int (52) 243),E P "OP_NOT" 246 (.int (53) 245),E P "OP_BITNOT" 248 (.int (54) 247),E P "OP_TYPEOF" 250 (.int (55) 249)]
noncomputable def TS(P:Params):List DictEntry:=[E P "OP_INC" 252 (.int (56) 251),E P "OP_DEC" 254 (.int (57) 253),E P "OP_JMP" 256 (.int (58) 255),E P "OP_JF" 258 (.int (59) 257),E P "OP_JT" 260 (.int (60) 259),E P "OP_JFK" 262 (.int (61) 261),E P "OP_JTK" 264 (.int (62) 263),E P "OP_RET" 266 (.int (65) 265),E P "OP_THROW" 268 (.int (66) 267),E P "OP_NEXTIN" 270 (.int (77) 269),E P "OP_GOSUB" 272 (.int (78) 271),E P "OP_RETSUB" 274 (.int (79) 273),E P "OP_FAILSET" 276 (.int (83) 275),E P "OPERATIONS" 617 (.ref 100),E P "__name__" 165 (.str "js.dbits" 685),E P "LAST_OPS" 618 (.ref 101),E P "Unit" 662 (.ref 118),E P "arg_kind" 669 (.ref 129),E P "taken_count" 677 (.ref 136),E P "is_last" 684 (.ref 143),E P "SIGN_BIT" 690 (.int (9223372036854775808) 689),E P "FRACTION_BITS" 692 (.int (52) 691),E P "FRACTION_MASK" 698 (.int (4503599627370495) 697),E P "__module__" 626 (.str "js.codes" 187),E P "__qualname__" 628 (.str "Unit" 627),E P "__firstlineno__" 630 (.int (48) 629),E P "__init__" 639 (.ref 115),E P "__static_attributes__" 655 (.ref 116),E P "__dict__" 657 (.ref 119),E P "__weakref__" 659 (.ref 120),E P "__doc__" 660 (.none),E P "HIDDEN_BIT" 702 (.int (4503599627370496) 701),E P "EXPONENT_MASK" 704 (.int (2047) 703),E P "EXPONENT_SHIFT" 706 (.int (1075) 705),E P "LEAST_POWER" 709 (.int (-1074) 708),E P "ZERO" 711 (.int (0) 710),E P "ONE" 715 (.int (4607182418800017408) 714),E P "INF" 719 (.int (9218868437227405312) 718),E P "NAN" 723 (.int (9221120237041090560) 722),E P "width" 732 (.ref 150)]
noncomputable def TU(P:Params):List DictEntry:=[E P "pack" 741 (.ref 157),E P "is_negative" 748 (.ref 164),E P "is_nan" 755 (.ref 171),E P "is_inf" 762 (.ref 178),E P "is_finite" 769 (.ref 185),E P "is_zero" 776 (.ref 192),E P "signed" 784 (.ref 199),E P "signed_dbits" 785 (.ref 199),E P "parts" 795 (.ref 206),E P "__name__" 165 (.str "js.values" 856),E P "quotient" 804 (.ref 213),E P "round_ratio" 817 (.ref 220),E P "assembled" 827 (.ref 227),E P "round_scaled" 837 (.ref 234),E P "from_int" 844 (.ref 241),E P "to_int" 855 (.ref 248),E P "Null" 877 (.ref 258),E P "__module__" 865 (.str "js.values" 856),E P "__qualname__" 867 (.str "Null" 866),E P "__firstlineno__" 869 (.int (158) 868),E P "__static_attributes__" 870 (.ref 256),E P "__dict__" 872 (.ref 259),E P "__weakref__" 874 (.ref 260),E P "__doc__" 875 (.none),E P "__name__" 165 (.str "js.darith" 909),E P "NULL" 878 (.ref 264),E P "is_null" 885 (.ref 271),E P "is_number" 892 (.ref 278),E P "is_text" 899 (.ref 285),E P "truthy" 908 (.ref 292),E P "neg" 917 (.ref 299),E P "add" 927 (.ref 306),E P "summed" 938 (.ref 313),E P "sub" 946 (.ref 320),E P "mul" 957 (.ref 327),E P "div" 969 (.ref 334),E P "__name__" 165 (.str "js.ops_math" 1023),E P "signed" 784 (.ref 387),E P "rem" 980 (.ref 341),E P "order_key" 987 (.ref 348)]
noncomputable def TV(P:Params):List DictEntry:=[E P "compare" 997 (.ref 355),E P "TWO_32" 1003 (.int (4294967296) 1002),E P "TWO_31" 1007 (.int (2147483648) 1006),E P "to_uint32" 1014 (.ref 362),E P "to_int32" 1022 (.ref 369),E P "ARITHMETIC" 1025 (.ref 370),E P "SHIFTS" 1026 (.ref 371),E P "BITS" 1027 (.ref 372),E P "ORDERS" 1028 (.ref 373),E P "reckon" 1037 (.ref 380),E P "signed_ops_math" 1045 (.ref 387),E P "shift" 1055 (.ref 394),E P "__name__" 165 (.str "js.foldvalues" 1067),E P "join_bits" 1066 (.ref 401),E P "PLAIN_OPS" 1073 (.ref 402),E P "LITERALS" 1074 (.ref 403),E P "is_literal" 1081 (.ref 410),E P "literal_value" 1089 (.ref 417),E P "same_literal" 1097 (.ref 424),E P "literal_row" 1108 (.ref 431),E P "kind_text" 1115 (.ref 438),E P "is_plain_number" 1122 (.ref 445),E P "strictly_equal" 1130 (.ref 452),E P "number_order" 1140 (.ref 459),E P "known_unary" 1148 (.ref 466),E P "__name__" 165 (.str "js.fold" 1226),E P "known_binary" 1157 (.ref 473),E P "copy_head" 1167 (.ref 480),E P "joints" 1183 (.ref 487),E P "line_at" 1191 (.ref 494),E P "rebuilt" 1210 (.ref 501),E P "with_code" 1219 (.ref 508),E P "for_all" 1225 (.ref 513),E P "TESTS" 1228 (.ref 514),E P "MOVES" 1229 (.ref 515),E P "moved" 1237 (.ref 522),E P "tested" 1250 (.ref 529),E P "turned_test" 1261 (.ref 536),E P "__name__" 165 (.str "js.threads" 1358),E P "shorter" 1267 (.ref 541)]
noncomputable def TX(P:Params):List DictEntry:=[E P "folded_rows" 1284 (.ref 548),E P "fold_one" 1295 (.ref 555),E P "fold_unit" 1302 (.ref 562),E P "later_places" 1320 (.ref 569),E P "live_places" 1330 (.ref 576),E P "is_idle" 1336 (.ref 581),E P "clean_once" 1342 (.ref 586),E P "clean_one" 1350 (.ref 593),E P "clean_unit" 1357 (.ref 600),E P "PLAIN_TEST" 1362 (.ref 601),E P "__name__" 165 (.str "law_nt0389_01" 1415),E P "SAME_TESTS" 1365 (.ref 602),E P "end_of" 1374 (.ref 611),E P "kept_step" 1385 (.ref 618),E P "threaded" 1397 (.ref 625),E P "thread_one" 1407 (.ref 632),E P "thread_unit" 1414 (.ref 639),E P "_law_pieces" 1422 (.ref 646),E P "_law_take" 1430 (.ref 653),E P "_law_rows" 1445 (.ref 660),E P "_law_coded" 1451 (.ref 665),E P "_law_valued" 1457 (.ref 670),E P "_law_head" 1465 (.ref 677),E P "_law_unit" 1487 (.ref 684),E P "_law_shown" 1493 (.ref 689),E P "_law_passes_right" 1499 (.ref 694),E P "_law_small_right" 1508 (.ref 701),E P "law" 1514 (.ref 706)]
def gE(P:Params):List DictEntry:=TR P++(TS P++(TU P++(TV P++(TX P))))
noncomputable def sl(P:Params):List (Nat×Nat)->List DictEntry
 | []=>[]
 | (a,k)::r=>((gE P).drop a).take k++sl P r
def dO(P:Params)(l:List (Nat×Nat))(k:Nat):Obj:=⟨.type "dict",none,.dict (sl P l).toArray k,#[]⟩
noncomputable def hL:List (Int×Nat):=[(48,107),(66,128),(68,135),(70,142),(84,149),(94,156),(96,163),(98,170),(100,177),(102,184),(104,191),(106,198),(109,205),(114,212),(120,219),(131,226),(140,233),(149,240),(151,247),(158,254),(161,270),(163,277),(165,284),(168,291),(177,298),(179,305),(190,312),(194,319),(196,326),(204,333),(217,340),(225,347),(227,354),(237,361),(239,368),(247,379),(253,386),(257,393),(264,400),(272,409),(274,416),(276,423),(282,430),(292,437),(300,444),(302,451),(306,458),(313,465),(329,472),(348,479),(361,486),(370,493),(372,500),(382,507),(388,512),(395,521),(399,528),(405,535),(410,540),(428,547),(442,554),(448,561),(451,568),(461,575),(469,580),(474,585),(482,592),(488,599),(493,610),(499,617),(510,624),(519,631),(529,638),(532,645),(534,652),(537,659),(552,664),(561,669),(563,676),(566,683),(591,688),(593,693),(610,700),(621,705)]
def h3:List (Int×Nat)->List Value
 | []=>[]
 | (a,c)::l=>.int a 0::.int 0 0::.ref c::h3 l
def hO(k:Nat):Obj:=⟨.none,none,.fields (h3 (hL.take k)).toArray,#[]⟩
def Kz(P:Params):Obj:=eF
def OL(P:Params):Obj:=dO P [(0,52)] 52
def OM(P:Params):Obj:=dO P [(0,53)] 53
def ON(P:Params):Obj:=dO P [(0,54)] 54
def OO(P:Params):Obj:=dO P [(54,1),(1,53),(55,8)] 62
def KA(P:Params):Obj:=hO 4
def vq(P:Params):Obj:=dO P [(63,1),(65,6)] 4
noncomputable def vt(P:Params):Obj:=⟨.type "type",none,.cls (R5 "Unit" [.type "object"] [.ref 118,.type "object"] 117 "Unit" true [] false false),#[none,none,(some (.str "Unit" 619)),(some (.str "Unit" 627)),(some (.builtin "object.__new__")),(some (.bool true))]⟩
def OP(P:Params):Obj:=dO P [(54,1),(1,53),(55,8),(71,18)] 80
def KB(P:Params):Obj:=hO 13
def OQ(P:Params):Obj:=dO P [(89,1),(1,53),(55,8),(71,18),(90,7)] 87
def KC(P:Params):Obj:=hO 20
def OS(P:Params):Obj:=dO P [(104,1),(1,53),(55,8),(71,18),(90,7),(105,11)] 98
def KD(P:Params):Obj:=hO 30
def vu(P:Params):Obj:=⟨.type "dict",none,.dict #[] 0,#[]⟩
def vw(P:Params):Obj:=⟨.ref 258,(some (263)),.plain,#[]⟩
noncomputable def OT(P:Params):Obj:=dO P [(116,1),(1,53),(55,8),(71,15),(117,1),(87,2),(90,7),(105,11),(118,14)] 112
def KG(P:Params):Obj:=hO 38
noncomputable def KH(P:Params):Obj:=dO P [(132,1),(1,53),(55,8),(71,15),(117,1),(87,2),(90,7),(105,11),(118,14),(133,12)] 124
def Gw(P:Params):Obj:=hO 48
noncomputable def KJ(P:Params):Obj:=dO P [(145,1),(1,53),(55,8),(71,15),(117,1),(87,2),(90,7),(105,11),(118,14),(133,12),(146,12)] 136
def Gx(P:Params):Obj:=hO 58
noncomputable def KL(P:Params):Obj:=dO P [(158,1),(1,53),(55,8),(71,15),(117,1),(87,2),(90,7),(105,11),(118,14),(133,12),(146,12),(159,11)] 147
def Gy(P:Params):Obj:=hO 68
noncomputable def KM(P:Params):Obj:=dO P [(170,1),(1,53),(55,8),(71,15),(117,1),(87,2),(90,7),(105,11),(118,14),(133,12),(146,12),(159,11),(171,12)] 159
def Gz(P:Params):Obj:=hO 79
noncomputable def A4(P:Params):Obj:=dO P [(170,1),(1,53),(55,8),(71,15),(117,1),(87,2),(90,7),(105,11),(118,14),(133,12),(146,12),(159,11),(171,17)] 164
def GA(P:Params):Obj:=hO 84
noncomputable def TY(P:Params):List Obj:=[PySem.W.boot_o_0 P,PySem.W.boot_o_1 P,PySem.W.boot_o_2 P,PySem.W.boot_o_3 P,PySem.W.boot_o_4 P,PySem.W.boot_o_5 P,PySem.W.boot_o_6 P,PySem.W.boot_o_7 P,PySem.W.boot_o_8 P,PySem.W.boot_o_9 P,PySem.W.boot_o_10 P,eT,Kz P,⟨.type "code",none,.fields #[.str "<module>" 182,.str "<module>" 183,.str "/claim/cut.py" 184,.int (1) 0,.int (0) 0,.int (0) 0,.int (0) 0,.int (0) 0,.ref 11,.bool false,.int (181) 0,.ref 12,.none,.none,.none,.none,.int (185) 0,.int (1) 0,.str "/claim/cut.py" 186],#[]⟩,⟨.type "frame",none,.plain,#[(some (.ref 13)),(some (.ref 3)),(some (.ref 3)),none,(some (.str "__main__" 164)),none,(some (.ref 0))]⟩,tO 277 "UNDEF" "" 0 1,tO 281 "NULL" "" 0 1,tO 285 "TRUE" "" 0 1,tO 289 "FALSE" "" 0 1,tO 293 "CONST" "k" 0 1,tO 297 "THIS" "" 0 1,tO 301 "POP" "" 1 0,tO 305 "DUP" "" 1 2,tO 309 "DUP2" "" 2 4,tO 313 "SWAP" "" 2 2,tO 317 "ROT3" "" 3 3,tO 321 "GETLOC" "l" 0 1,tO 325 "SETLOC" "l" 1 1,tO 329 "GETCELL" "c" 0 1,tO 333 "SETCELL" "c" 1 1,tO 337 "GETUP" "u" 0 1,tO 341 "SETUP" "u" 1 1,tO 345 "FRESH" "c" 0 0,tO 349 "GETGLOB" "s" 0 1,tO 353 "TYPEGLOB" "s" 0 1,tO 357 "SETGLOB" "s" 1 1,tO 361 "DECLVAR" "s" 0 0,tO 365 "DECLFUN" "s" 1 0,tO 369 "GETPROP" "s" 1 1,tO 373 "SETPROP" "s" 2 1]
noncomputable def TZ(P:Params):List Obj:=[tO 377 "GETELEM" "" 2 1,tO 381 "SETELEM" "" 3 1,tO 385 "DELPROP" "s" 1 1,tO 389 "DELELEM" "" 2 1,tO 393 "DELNAME" "s" 0 1,tO 397 "ADD" "" 2 1,tO 401 "SUB" "" 2 1,tO 405 "MUL" "" 2 1,tO 409 "DIV" "" 2 1,tO 413 "MOD" "" 2 1,tO 417 "SHL" "" 2 1,tO 421 "SHR" "" 2 1,tO 425 "USHR" "" 2 1,tO 429 "AND" "" 2 1,tO 433 "OR" "" 2 1,tO 437 "XOR" "" 2 1,tO 441 "EQ" "" 2 1,tO 445 "NE" "" 2 1,tO 449 "SEQ" "" 2 1,tO 453 "SNE" "" 2 1,tO 457 "LT" "" 2 1,tO 461 "GT" "" 2 1,tO 465 "LE" "" 2 1,tO 469 "GE" "" 2 1,tO 473 "IN" "" 2 1,tO 477 "INSTANCEOF" "" 2 1,tO 481 "NEG" "" 1 1,tO 485 "TONUM" "" 1 1,tO 489 "NOT" "" 1 1,tO 493 "BITNOT" "" 1 1,tO 497 "TYPEOF" "" 1 1,tO 501 "INC" "" 1 1,tO 505 "DEC" "" 1 1,tO 509 "JMP" "t" 0 0,tO 513 "JF" "t" 1 0,tO 517 "JT" "t" 1 0,tO 521 "JFK" "t" 1 0,tO 525 "JTK" "t" 1 0,tO 529 "CALL" "n" 2 1,tO 533 "NEW" "n" 1 1]
noncomputable def T1(P:Params):List Obj:=[tO 537 "RET" "" 1 0,tO 541 "THROW" "" 1 0,tO 545 "CLOSURE" "f" 0 1,tO 549 "NEWOBJ" "" 0 1,tO 553 "NEWARR" "n" 0 1,tO 557 "HOLE" "" 0 1,tO 561 "INITPROP" "s" 2 1,tO 565 "INITGET" "s" 2 1,tO 569 "INITSET" "s" 2 1,tO 573 "METHOD" "s" 1 2,tO 577 "METHODEL" "" 2 2,tO 581 "FORIN" "" 1 1,tO 585 "NEXTIN" "t" 1 2,tO 589 "GOSUB" "t" 0 0,tO 593 "RETSUB" "" 2 0,tO 597 "CHECKOBJ" "" 1 1,tO 601 "TOKEY" "" 2 2,tO 605 "ROT4" "" 4 4,tO 609 "FAILSET" "s" 1 0,tO 613 "REGEXP" "" 2 1,⟨.type "list",none,.seq #[.ref 15,.ref 16,.ref 17,.ref 18,.ref 19,.ref 20,.ref 21,.ref 22,.ref 23,.ref 24,.ref 25,.ref 26,.ref 27,.ref 28,.ref 29,.ref 30,.ref 31,.ref 32,.ref 33,.ref 34,.ref 35,.ref 36,.ref 37,.ref 38,.ref 39,.ref 40,.ref 41,.ref 42,.ref 43,.ref 44,.ref 45,.ref 46,.ref 47,.ref 48,.ref 49,.ref 50,.ref 51,.ref 52,.ref 53,.ref 54,.ref 55,.ref 56,.ref 57,.ref 58,.ref 59,.ref 60,.ref 61,.ref 62,.ref 63,.ref 64,.ref 65,.ref 66,.ref 67,.ref 68,.ref 69,.ref 70,.ref 71,.ref 72,.ref 73,.ref 74,.ref 75,.ref 76,.ref 77,.ref 78,.ref 79,.ref 80,.ref 81,.ref 82,.ref 83,.ref 84,.ref 85,.ref 86,.ref 87,.ref 88,.ref 89,.ref 90,.ref 91,.ref 92,.ref 93,.ref 94,.ref 95,.ref 96,.ref 97,.ref 98,.ref 99] 0,#[]⟩,⟨.type "list",none,.seq #[.int (58) 255,.int (65) 265,.int (66) 267,.int (79) 273,.int (83) 275] 0,#[]⟩,eT,⟨.type "builtin_function_or_method",none,.fields #[.builtin "type.__prepare__",.type "type"],#[]⟩,dO P [(63,5)] 5,eT,⟨.none,none,.fields #[.int (50) 0,.int (4) 0,.ref 114],#[]⟩,⟨.type "code",none,.fields #[.str "Unit" 621,.str "Unit" 622,.str "/claim/cut.py" 623,.int (48) 0,.int (0) 0,.int (0) 0,.int (0) 0,.int (0) 0,.ref 105,.bool false,.int (181) 0,.ref 106,.none,.none,.none,.none,.int (624) 0,.int (48) 0,.str "/claim/cut.py" 625],#[]⟩,⟨.type "frame",none,.plain,#[(some (.ref 107)),(some (.ref 3)),(some (.ref 104)),none,(some (.str "js.codes" 187)),none,(some (.ref 0))]⟩,eT,eF,tS 634 ["self","name","params"],eT,⟨.none,none,.func (E7 (A3 (kK 47) 0) "Unit.__init__" 0 0 (.none) (.none) (.none)),#[]⟩,cO "__init__" "Unit.__init__" 631 50 3 0 0 3 109 110 n (r 111) (r 112) 113 637,⟨.type "function",none,.func (E7 (A3 (kK 47) 0) "Unit.__init__" 3 0 (.none) (.str "js.codes" 187) (.ref 114)),#[]⟩,tS 640 ["arguments_place","captures","cell_count","code","consts","handlers","is_strict","lines","local_count","name","param_places","params","self_slot","units","uses_arguments"],vq P,vt P,⟨.type "getset_descriptor",none,.fields #[.str "__dict__" 656,.ref 118,.builtin "function.__dict__",.builtin "function.__dict__#set"],#[]⟩]
noncomputable def T2(P:Params):List Obj:=[⟨.type "getset_descriptor",none,.fields #[.str "__weakref__" 658,.ref 118,.builtin "ExceptionGroup.__weakref__",.none],#[]⟩,⟨.type "super",none,.fields #[.ref 118,.ref 118,.ref 118],#[]⟩,⟨.type "builtin_function_or_method",none,.fields #[.builtin "object.__init_subclass__",.ref 118],#[]⟩,eT,eF,tS 666 ["op"],eT,fN 48 "arg_kind",cO "arg_kind" "arg_kind" 663 66 1 0 0 3 123 124 n (r 125) (r 126) 127 667,fU 48 "arg_kind" "js.codes" 187 128,eT,eF,tS 673 ["op","arg"],eT,fN 49 "taken_count",cO "taken_count" "taken_count" 670 68 2 0 0 3 130 131 n (r 132) (r 133) 134 675,fU 49 "taken_count" "js.codes" 187 135,eT,eF,tS 681 ["op"],eT,fN 50 "is_last",cO "is_last" "is_last" 678 70 1 0 0 3 137 138 n (r 139) (r 140) 141 682,fU 50 "is_last" "js.codes" 187 142,eT,eF,tS 727 ["n","many","step"],eT,fN 63 "width",cO "width" "width" 724 84 1 0 0 3 144 145 n (r 146) (r 147) 148 730,fU 63 "width" "js.dbits" 685 149,eT,eF,tS 736 ["sign","exponent","fraction"],eT,fN 64 "pack",cO "pack" "pack" 733 94 3 0 0 3 151 152 n (r 153) (r 154) 155 739,fU 64 "pack" "js.dbits" 685 156,eT,eF]
noncomputable def T4(P:Params):List Obj:=[tS 745 ["bits"],eT,fN 65 "is_negative",cO "is_negative" "is_negative" 742 96 1 0 0 3 158 159 n (r 160) (r 161) 162 746,fU 65 "is_negative" "js.dbits" 685 163,eT,eF,tS 752 ["bits"],eT,fN 66 "is_nan",cO "is_nan" "is_nan" 749 98 1 0 0 3 165 166 n (r 167) (r 168) 169 753,fU 66 "is_nan" "js.dbits" 685 170,eT,eF,tS 759 ["bits"],eT,fN 67 "is_inf",cO "is_inf" "is_inf" 756 100 1 0 0 3 172 173 n (r 174) (r 175) 176 760,fU 67 "is_inf" "js.dbits" 685 177,eT,eF,tS 766 ["bits"],eT,fN 68 "is_finite",cO "is_finite" "is_finite" 763 102 1 0 0 3 179 180 n (r 181) (r 182) 183 767,fU 68 "is_finite" "js.dbits" 685 184,eT,eF,tS 773 ["bits"],eT,fN 69 "is_zero",cO "is_zero" "is_zero" 770 104 1 0 0 3 186 187 n (r 188) (r 189) 190 774,fU 69 "is_zero" "js.dbits" 685 191,eT,eF,tS 780 ["sign","bits"],eT,fN 70 "signed",cO "signed" "signed" 777 106 2 0 0 3 193 194 n (r 195) (r 196) 197 782,fU 70 "signed" "js.dbits" 685 198]
noncomputable def T5(P:Params):List Obj:=[eT,eF,tS 789 ["bits","sign","exponent","fraction"],eT,fN 72 "parts",cO "parts" "parts" 786 109 1 0 0 3 200 201 n (r 202) (r 203) 204 793,fU 72 "parts" "js.dbits" 685 205,eT,eF,tS 799 ["top","bottom","power"],eT,fN 73 "quotient",cO "quotient" "quotient" 796 114 3 0 0 3 207 208 n (r 209) (r 210) 211 802,fU 73 "quotient" "js.dbits" 685 212,eT,eF,tS 808 ["sign","top","bottom","power","whole","rest","unit"],eT,fN 74 "round_ratio",cO "round_ratio" "round_ratio" 805 120 3 0 0 3 214 215 n (r 216) (r 217) 218 815,fU 74 "round_ratio" "js.dbits" 685 219,eT,eF,tS 821 ["sign","whole","power","exponent"],eT,fN 75 "assembled",cO "assembled" "assembled" 818 131 3 0 0 3 221 222 n (r 223) (r 224) 225 825,fU 75 "assembled" "js.dbits" 685 226,eT,eF,tS 831 ["sign","mantissa","power","size"],eT,fN 76 "round_scaled",cO "round_scaled" "round_scaled" 828 140 3 0 0 3 228 229 n (r 230) (r 231) 232 835,fU 76 "round_scaled" "js.dbits" 685 233,eT,eF,tS 841 ["n"],eT,fN 77 "from_int"]
noncomputable def T6(P:Params):List Obj:=[cO "from_int" "from_int" 838 149 1 0 0 3 235 236 n (r 237) (r 238) 239 842,fU 77 "from_int" "js.dbits" 685 240,eT,eF,tS 848 ["bits","sign","mantissa","power","size"],eT,fN 78 "to_int",cO "to_int" "to_int" 845 151 1 0 0 3 242 243 n (r 244) (r 245) 246 853,fU 78 "to_int" "js.dbits" 685 247,eT,⟨.type "builtin_function_or_method",none,.fields #[.builtin "type.__prepare__",.type "type"],#[]⟩,dO P [(97,4)] 4,eT,eF,⟨.type "code",none,.fields #[.str "Null" 860,.str "Null" 861,.str "/claim/cut.py" 862,.int (158) 0,.int (0) 0,.int (0) 0,.int (0) 0,.int (0) 0,.ref 252,.bool false,.int (181) 0,.ref 253,.none,.none,.none,.none,.int (863) 0,.int (158) 0,.str "/claim/cut.py" 864],#[]⟩,⟨.type "frame",none,.plain,#[(some (.ref 254)),(some (.ref 3)),(some (.ref 251)),none,(some (.str "js.values" 856)),none,(some (.ref 0))]⟩,eT,dO P [(97,1),(99,5)] 4,⟨.type "type",none,.cls (R5 "Null" [.type "object"] [.ref 258,.type "object"] 257 "Null" true [] false false),#[none,none,(some (.str "Null" 858)),(some (.str "Null" 866)),(some (.builtin "object.__new__")),(some (.bool true))]⟩,⟨.type "getset_descriptor",none,.fields #[.str "__dict__" 871,.ref 258,.builtin "function.__dict__",.builtin "function.__dict__#set"],#[]⟩,⟨.type "getset_descriptor",none,.fields #[.str "__weakref__" 873,.ref 258,.builtin "ExceptionGroup.__weakref__",.none],#[]⟩,⟨.type "super",none,.fields #[.ref 258,.ref 258,.ref 258],#[]⟩,⟨.type "builtin_function_or_method",none,.fields #[.builtin "object.__init_subclass__",.ref 258],#[]⟩,vu P,vw P,eT,eF,tS 882 ["value"],eT,fN 82 "is_null",cO "is_null" "is_null" 879 161 1 0 0 3 265 266 n (r 267) (r 268) 269 883,fU 82 "is_null" "js.values" 856 270,eT,eF,tS 889 ["value"],eT,fN 83 "is_number",cO "is_number" "is_number" 886 163 1 0 0 3 272 273 n (r 274) (r 275) 276 890,fU 83 "is_number" "js.values" 856 277,eT]
noncomputable def T7(P:Params):List Obj:=[eF,tS 896 ["value"],eT,fN 84 "is_text",cO "is_text" "is_text" 893 165 1 0 0 3 279 280 n (r 281) (r 282) 283 897,fU 84 "is_text" "js.values" 856 284,eT,eF,tS 905 ["value"],eT,fN 86 "truthy",cO "truthy" "truthy" 902 168 1 0 0 3 286 287 n (r 288) (r 289) 290 906,fU 86 "truthy" "js.convert" 900 291,eT,eF,tS 914 ["a"],eT,fN 88 "neg",cO "neg" "neg" 911 177 1 0 0 3 293 294 n (r 295) (r 296) 297 915,fU 88 "neg" "js.darith" 909 298,eT,eF,tS 921 ["a","b","total","step"],eT,fN 89 "add",cO "add" "add" 918 179 2 0 0 3 300 301 n (r 302) (r 303) 304 925,fU 89 "add" "js.darith" 909 305,eT,eF,tS 931 ["one","other","step","left","right"],eT,fN 90 "summed",cO "summed" "summed" 928 190 2 0 0 3 307 308 n (r 309) (r 310) 311 936,fU 90 "summed" "js.darith" 909 312,eT,eF,tS 942 ["a","b"],eT,fN 91 "sub",cO "sub" "sub" 939 194 2 0 0 3 314 315 n (r 316) (r 317) 318 944]
noncomputable def T8(P:Params):List Obj:=[fU 91 "sub" "js.darith" 909 319,eT,eF,tS 950 ["a","b","sign","one","other"],eT,fN 92 "mul",cO "mul" "mul" 947 196 2 0 0 3 321 322 n (r 323) (r 324) 325 955,fU 92 "mul" "js.darith" 909 326,eT,eF,tS 961 ["a","b","sign","one","other","step"],eT,fN 93 "div",cO "div" "div" 958 204 2 0 0 3 328 329 n (r 330) (r 331) 332 967,fU 93 "div" "js.darith" 909 333,eT,eF,tS 973 ["a","b","one","other","step"],eT,fN 94 "rem",cO "rem" "rem" 970 217 2 0 0 3 335 336 n (r 337) (r 338) 339 978,fU 94 "rem" "js.darith" 909 340,eT,eF,tS 984 ["a"],eT,fN 95 "order_key",cO "order_key" "order_key" 981 225 1 0 0 3 342 343 n (r 344) (r 345) 346 985,fU 95 "order_key" "js.darith" 909 347,eT,eF,tS 991 ["a","b","one","other"],eT,fN 96 "compare",cO "compare" "compare" 988 227 2 0 0 3 349 350 n (r 351) (r 352) 353 995,fU 96 "compare" "js.darith" 909 354,eT,eF,tS 1011 ["bits"],eT]
noncomputable def T9(P:Params):List Obj:=[fN 100 "to_uint32",cO "to_uint32" "to_uint32" 1008 237 1 0 0 3 356 357 n (r 358) (r 359) 360 1012,fU 100 "to_uint32" "js.dround" 998 361,eT,eF,tS 1018 ["bits","found"],eT,fN 101 "to_int32",cO "to_int32" "to_int32" 1015 239 1 0 0 3 363 364 n (r 365) (r 366) 367 1020,fU 101 "to_int32" "js.dround" 998 368,⟨.type "tuple",none,.seq #[.int (31) 209,.int (32) 211,.int (33) 213,.int (34) 215] 0,#[]⟩,⟨.type "tuple",none,.seq #[.int (35) 217,.int (36) 219,.int (37) 221] 0,#[]⟩,⟨.type "tuple",none,.seq #[.int (38) 223,.int (39) 225,.int (40) 227] 0,#[]⟩,⟨.type "tuple",none,.seq #[.int (45) 233,.int (46) 235,.int (47) 237,.int (48) 239] 0,#[]⟩,eT,eF,tS 1032 ["op","a","b"],eT,fN 107 "reckon",cO "reckon" "reckon" 1029 247 3 0 0 3 374 375 n (r 376) (r 377) 378 1035,fU 107 "reckon" "js.ops_math" 1023 379,eT,eF,tS 1041 ["number"],eT,fN 108 "signed",cO "signed" "signed" 1038 253 1 0 0 3 381 382 n (r 383) (r 384) 385 1042,fU 108 "signed" "js.ops_math" 1023 386,eT,eF,tS 1049 ["op","a","b","count"],eT,fN 110 "shift",cO "shift" "shift" 1046 257 3 0 0 3 388 389 n (r 390) (r 391) 392 1053,fU 110 "shift" "js.ops_math" 1023 393,eT,eF,tS 1059 ["op","a","b","one","other"],eT,fN 111 "join_bits"]
noncomputable def OU(P:Params):List Obj:=[cO "join_bits" "join_bits" 1056 264 3 0 0 3 395 396 n (r 397) (r 398) 399 1064,fU 111 "join_bits" "js.ops_math" 1023 400,⟨.type "dict",none,.dict #[⟨0,.int (0) 189,.none⟩,⟨1,.int (1) 191,.ref 264⟩,⟨2,.int (2) 193,.bool true⟩,⟨3,.int (3) 195,.bool false⟩] 4,#[]⟩,⟨.type "tuple",none,.seq #[.int (0) 189,.int (1) 191,.int (2) 193,.int (3) 195,.int (4) 197] 0,#[]⟩,eT,eF,tS 1078 ["row"],eT,fN 115 "is_literal",cO "is_literal" "is_literal" 1075 272 1 0 0 3 404 405 n (r 406) (r 407) 408 1079,fU 115 "is_literal" "js.foldvalues" 1067 409,eT,eF,tS 1085 ["row","consts"],eT,fN 116 "literal_value",cO "literal_value" "literal_value" 1082 274 2 0 0 3 411 412 n (r 413) (r 414) 415 1087,fU 116 "literal_value" "js.foldvalues" 1067 416,eT,eF,tS 1093 ["one","other"],eT,fN 117 "same_literal",cO "same_literal" "same_literal" 1090 276 2 0 0 3 418 419 n (r 420) (r 421) 422 1095,fU 117 "same_literal" "js.foldvalues" 1067 423,eT,eF,tS 1101 ["value","line","consts","at","known"],eT,fN 118 "literal_row",cO "literal_row" "literal_row" 1098 282 3 0 0 3 425 426 n (r 427) (r 428) 429 1106,fU 118 "literal_row" "js.foldvalues" 1067 430,eT,eF,tS 1112 ["value"],eT,fN 119 "kind_text",cO "kind_text" "kind_text" 1109 292 1 0 0 3 432 433 n (r 434) (r 435) 436 1113,fU 119 "kind_text" "js.foldvalues" 1067 437,eT]
noncomputable def OW(P:Params):List Obj:=[eF,tS 1119 ["value"],eT,fN 120 "is_plain_number",cO "is_plain_number" "is_plain_number" 1116 300 1 0 0 3 439 440 n (r 441) (r 442) 443 1120,fU 120 "is_plain_number" "js.foldvalues" 1067 444,eT,eF,tS 1126 ["one","other"],eT,fN 121 "strictly_equal",cO "strictly_equal" "strictly_equal" 1123 302 2 0 0 3 446 447 n (r 448) (r 449) 450 1128,fU 121 "strictly_equal" "js.foldvalues" 1067 451,eT,eF,tS 1134 ["op","one","other","found"],eT,fN 122 "number_order",cO "number_order" "number_order" 1131 306 3 0 0 3 453 454 n (r 455) (r 456) 457 1138,fU 122 "number_order" "js.foldvalues" 1067 458,eT,eF,tS 1144 ["op","value"],eT,fN 123 "known_unary",cO "known_unary" "known_unary" 1141 313 2 0 0 3 460 461 n (r 462) (r 463) 464 1146,fU 123 "known_unary" "js.foldvalues" 1067 465,eT,eF,tS 1152 ["op","one","other"],eT,fN 124 "known_binary",cO "known_binary" "known_binary" 1149 329 3 0 0 3 467 468 n (r 469) (r 470) 471 1155,fU 124 "known_binary" "js.foldvalues" 1067 472,eT,eF,tS 1163 ["unit","made"],eT,fN 126 "copy_head",cO "copy_head" "copy_head" 1160 348 1 0 0 3 474 475 n (r 476) (r 477) 478 1165]
noncomputable def OX(P:Params):List Obj:=[fU 126 "copy_head" "js.relocate" 1158 479,eT,eF,tS 1171 ["unit","found","op","arg","start","end","target","depth","is_finally","place"],eT,fN 127 "joints",cO "joints" "joints" 1168 361 1 0 0 3 481 482 n (r 483) (r 484) 485 1181,fU 127 "joints" "js.relocate" 1158 486,eT,eF,tS 1187 ["unit","pc"],eT,fN 128 "line_at",cO "line_at" "line_at" 1184 370 2 0 0 3 488 489 n (r 490) (r 491) 492 1189,fU 128 "line_at" "js.relocate" 1158 493,eT,eF,tS 1195 ["unit","rows","places","handlers","made","op","arg","line","start","end","target","depth","is_finally"],eT,fN 129 "rebuilt",cO "rebuilt" "rebuilt" 1192 372 4 0 0 3 495 496 n (r 497) (r 498) 499 1208,fU 129 "rebuilt" "js.relocate" 1158 500,eT,eF,tS 1214 ["unit","code","made"],eT,fN 130 "with_code",cO "with_code" "with_code" 1211 382 2 0 0 3 502 503 n (r 504) (r 505) 506 1217,fU 130 "with_code" "js.relocate" 1158 507,eT,eF,fN 131 "for_all",cO "for_all" "for_all" 1220 388 2 0 0 3 509 510 n n n 511 1223,fU 131 "for_all" "js.relocate" 1158 512,⟨.type "tuple",none,.seq #[.int (59) 257,.int (60) 259,.int (61) 261,.int (62) 263] 0,#[]⟩,⟨.type "tuple",none,.seq #[.int (6) 199,.int (7) 201,.int (8) 203,.int (9) 205] 0,#[]⟩,eT,eF,tS 1233 ["op","ones"],eT]
noncomputable def OY(P:Params):List Obj:=[fN 135 "moved",cO "moved" "moved" 1230 395 2 0 0 3 516 517 n (r 518) (r 519) 520 1235,fU 135 "moved" "js.fold" 1226 521,eT,eF,tS 1241 ["row","literal","value","op","arg","line","jump"],eT,fN 136 "tested",cO "tested" "tested" 1238 399 3 0 0 3 523 524 n (r 525) (r 526) 527 1248,fU 136 "tested" "js.fold" 1226 528,eT,eF,tS 1254 ["ahead","row","op","arg","line"],eT,fN 137 "turned_test",cO "turned_test" "turned_test" 1251 405 2 0 0 3 530 531 n (r 532) (r 533) 534 1259,fU 137 "turned_test" "js.fold" 1226 535,eT,eF,fN 138 "shorter",cO "shorter" "shorter" 1262 410 3 0 0 3 537 538 n n n 539 1265,fU 138 "shorter" "js.fold" 1226 540,eT,eF,tS 1271 ["unit","consts","rows","places","firm","ends","pc","op","arg","row","found"],eT,fN 139 "folded_rows",cO "folded_rows" "folded_rows" 1268 428 2 0 0 3 542 543 n (r 544) (r 545) 546 1282,fU 139 "folded_rows" "js.fold" 1226 547,eT,eF,tS 1288 ["unit","consts","rows","places","made"],eT,fN 140 "fold_one",cO "fold_one" "fold_one" 1285 442 1 0 0 3 549 550 n (r 551) (r 552) 553 1293,fU 140 "fold_one" "js.fold" 1226 554,eT,eF,tS 1299 ["unit"],eT]
noncomputable def OZ(P:Params):List Obj:=[fN 141 "fold_unit",cO "fold_unit" "fold_unit" 1296 448 1 0 0 3 556 557 n (r 558) (r 559) 560 1300,fU 141 "fold_unit" "js.fold" 1226 561,eT,eF,tS 1308 ["unit","pc","op","arg","found","start","end","target","depth","is_finally"],eT,fN 143 "later_places",cO "later_places" "later_places" 1305 451 2 0 0 3 563 564 n (r 565) (r 566) 567 1318,fU 143 "later_places" "js.dead" 1303 568,eT,eF,tS 1324 ["unit","found","waiting","place"],eT,fN 144 "live_places",cO "live_places" "live_places" 1321 461 1 0 0 3 570 571 n (r 572) (r 573) 574 1328,fU 144 "live_places" "js.dead" 1303 575,eT,eF,fN 145 "is_idle",cO "is_idle" "is_idle" 1331 469 3 0 0 3 577 578 n n n 579 1334,fU 145 "is_idle" "js.dead" 1303 580,eT,eF,fN 146 "clean_once",cO "clean_once" "clean_once" 1337 474 1 0 0 3 582 583 n n n 584 1340,fU 146 "clean_once" "js.dead" 1303 585,eT,eF,tS 1346 ["unit","made"],eT,fN 147 "clean_one",cO "clean_one" "clean_one" 1343 482 1 0 0 3 587 588 n (r 589) (r 590) 591 1348,fU 147 "clean_one" "js.dead" 1303 592,eT,eF,tS 1354 ["unit"],eT,fN 148 "clean_unit",cO "clean_unit" "clean_unit" 1351 488 1 0 0 3 594 595 n (r 596) (r 597) 598 1355]
noncomputable def O0(P:Params):List Obj:=[fU 148 "clean_unit" "js.dead" 1303 599,⟨.type "dict",none,.dict #[⟨61,.int (61) 261,.int (59) 257⟩,⟨62,.int (62) 263,.int (60) 259⟩] 2,#[]⟩,⟨.type "dict",none,.dict #[⟨61,.int (61) 261,.ref 603⟩,⟨62,.int (62) 263,.ref 604⟩] 2,#[]⟩,⟨.type "tuple",none,.seq #[.int (59) 257,.int (61) 261] 0,#[]⟩,⟨.type "tuple",none,.seq #[.int (60) 259,.int (62) 263] 0,#[]⟩,eT,eF,tS 1369 ["code","place","seen"],eT,fN 152 "end_of",cO "end_of" "end_of" 1366 493 2 0 0 3 605 606 n (r 607) (r 608) 609 1372,fU 152 "end_of" "js.threads" 1358 610,eT,eF,tS 1378 ["code","op","place","behind","arg"],eT,fN 153 "kept_step",cO "kept_step" "kept_step" 1375 499 3 0 0 3 612 613 n (r 614) (r 615) 616 1383,fU 153 "kept_step" "js.threads" 1358 617,eT,eF,tS 1389 ["code","op","arg","place","seen","step"],eT,fN 154 "threaded",cO "threaded" "threaded" 1386 510 3 0 0 3 619 620 n (r 621) (r 622) 623 1395,fU 154 "threaded" "js.threads" 1358 624,eT,eF,tS 1401 ["unit","code","op","arg"],eT,fN 155 "thread_one",cO "thread_one" "thread_one" 1398 519 1 0 0 3 626 627 n (r 628) (r 629) 630 1405,fU 155 "thread_one" "js.threads" 1358 631,eT,eF,tS 1411 ["unit"],eT,fN 156 "thread_unit",cO "thread_unit" "thread_unit" 1408 529 1 0 0 3 633 634 n (r 635) (r 636) 637 1412,fU 156 "thread_unit" "js.threads" 1358 638]
noncomputable def O1(P:Params):List Obj:=[eT,eF,eT,eT,fN 158 "_law_pieces",cO "_law_pieces" "_law_pieces" 1417 532 0 0 0 3 640 641 n (r 642) (r 643) 644 1420,fU 158 "_law_pieces" "law_nt0389_01" 1415 645,eT,eF,tS 1426 ["box","many"],eT,fN 159 "_law_take",cO "_law_take" "_law_take" 1423 534 2 0 0 3 647 648 n (r 649) (r 650) 651 1428,fU 159 "_law_take" "law_nt0389_01" 1415 652,eT,eF,tS 1434 ["text","base","size","found","word","sign","rest","info","spot"],eT,fN 160 "_law_rows",cO "_law_rows" "_law_rows" 1431 537 3 0 0 3 654 655 n (r 656) (r 657) 658 1443,fU 160 "_law_rows" "law_nt0389_01" 1415 659,eT,eF,fN 161 "_law_coded",cO "_law_coded" "_law_coded" 1446 552 2 0 0 3 661 662 n n n 663 1449,fU 161 "_law_coded" "law_nt0389_01" 1415 664,eT,eF,fN 162 "_law_valued",cO "_law_valued" "_law_valued" 1452 561 1 0 0 3 666 667 n n n 668 1455,fU 162 "_law_valued" "law_nt0389_01" 1415 669,eT,eF,tS 1461 ["unit","told"],eT,fN 163 "_law_head",cO "_law_head" "_law_head" 1458 563 1 0 0 3 671 672 n (r 673) (r 674) 675 1463,fU 163 "_law_head" "law_nt0389_01" 1415 676,eT,eF]
noncomputable def O2(P:Params):List Obj:=[tS 1469 ["box","deep","unit","due","spans","news","rows","pieces","turn","before","behind","size","other","spot","handler","told"],eT,fN 164 "_law_unit",cO "_law_unit" "_law_unit" 1466 566 2 0 0 3 678 679 n (r 680) (r 681) 682 1485,fU 164 "_law_unit" "law_nt0389_01" 1415 683,eT,eF,fN 165 "_law_shown",cO "_law_shown" "_law_shown" 1488 591 1 0 0 3 685 686 n n n 687 1491,fU 165 "_law_shown" "law_nt0389_01" 1415 688,eT,eF,fN 166 "_law_passes_right",cO "_law_passes_right" "_law_passes_right" 1494 593 3 0 0 3 690 691 n n n 692 1497,fU 166 "_law_passes_right" "law_nt0389_01" 1415 693,eT,eF,tS 1503 ["unit","made","due"],eT,fN 167 "_law_small_right",cO "_law_small_right" "_law_small_right" 1500 610 0 0 0 3 695 696 n (r 697) (r 698) 699 1506,fU 167 "_law_small_right" "law_nt0389_01" 1415 700,eT,eF,fN 168 "law",cO "law" "law" 1509 621 1 0 0 3 702 703 n n n 704 1512,fU 168 "law" "law_nt0389_01" 1415 705]
noncomputable def oL(P:Params):List Obj:=TY P++(TZ P++(T1 P++(T2 P++(T4 P++(T5 P++(T6 P++(T7 P++(T8 P++(T9 P++(OU P++(OW P++(OX P++(OY P++(OZ P++(O0 P++(O1 P++(O2 P)))))))))))))))))
def s1(P:Params):List Obj:=sets ((oL P).take 15) []
def t1(P:Params):BT:=bt 12 (s1 P)
def s2(P:Params):List Obj:=sets ((oL P).take 15) [(3,OL P)]
def t2(P:Params):BT:=bt 12 (s2 P)
def s3(P:Params):List Obj:=sets ((oL P).take 15) [(3,OM P)]
def t3(P:Params):BT:=bt 12 (s3 P)
def s4(P:Params):List Obj:=sets ((oL P).take 101) [(3,ON P)]
def t4(P:Params):BT:=bt 12 (s4 P)
def s5(P:Params):List Obj:=sets ((oL P).take 144) [(3,OO P),(12,KA P)]
def t5(P:Params):BT:=bt 12 (s5 P)
def s6(P:Params):List Obj:=sets ((oL P).take 207) [(3,OP P),(12,KB P)]
def t6(P:Params):BT:=bt 12 (s6 P)
def s7(P:Params):List Obj:=sets ((oL P).take 263) [(3,OQ P),(12,KC P)]
def t7(P:Params):BT:=bt 12 (s7 P)
def s8(P:Params):List Obj:=sets ((oL P).take 335) [(3,OS P),(12,KD P)]
def t8(P:Params):BT:=bt 12 (s8 P)
def s9(P:Params):List Obj:=sets ((oL P).take 395) [(3,OT P),(12,KG P)]
def t9(P:Params):BT:=bt 12 (s9 P)
def Jy(P:Params):List Obj:=sets ((oL P).take 467) [(3,KH P),(12,Gw P)]
def R6(P:Params):BT:=bt 12 (Jy P)
def Nn(P:Params):List Obj:=sets ((oL P).take 537) [(3,KJ P),(12,Gx P)]
def R7(P:Params):BT:=bt 12 (Nn P)
def R8(P:Params):List Obj:=sets ((oL P).take 602) [(3,KL P),(12,Gy P)]
def R9(P:Params):BT:=bt 12 (R8 P)
def O3(P:Params):List Obj:=sets ((oL P).take 678) [(3,KM P),(12,Gz P)]
def Sa(P:Params):BT:=bt 12 (O3 P)
def GB(P:Params):List Obj:=sets ((oL P).take 707) [(3,A4 P),(12,GA P)]
def Sb(P:Params):BT:=bt 12 (GB P)
def hA(P:Params):Heap:=⟨⟨s1 P⟩,bS⟩
def hZ(P:Params):Heap:=⟨⟨GB P⟩,bS⟩
noncomputable def jZ:List Str:=List.map Str.ofString ["OP_UNDEF","OP_NULL","OP_TRUE","OP_FALSE","OP_CONST","OP_POP","OP_DUP","OP_DUP2","OP_SWAP","OP_ADD","OP_SUB","OP_MUL","OP_DIV","OP_MOD","OP_SHL","OP_SHR","OP_USHR","OP_AND","OP_OR","OP_XOR","OP_SEQ","OP_SNE","OP_LT","OP_GT","OP_LE","OP_GE","OP_NEG","OP_TONUM","OP_NOT","OP_BITNOT","OP_TYPEOF","OP_INC","OP_DEC","OP_JMP","OP_JF","OP_JT","OP_JFK","OP_JTK","OP_RET","OP_THROW","OP_NEXTIN","OP_GOSUB","OP_RETSUB","OP_FAILSET","OPERATIONS","LAST_OPS","Unit","arg_kind","taken_count","is_last","SIGN_BIT","FRACTION_BITS","FRACTION_MASK","HIDDEN_BIT","EXPONENT_MASK","EXPONENT_SHIFT","LEAST_POWER","ZERO","ONE","INF","NAN","width","pack","is_negative","is_nan","is_inf","is_finite","is_zero","signed","signed_dbits","parts","quotient","round_ratio","assembled","round_scaled","from_int","to_int","Null","NULL","is_null","is_number","is_text","truthy","neg","add","summed","sub","mul","div","rem","order_key","compare","TWO_32","TWO_31","to_uint32","to_int32","ARITHMETIC","SHIFTS","BITS","ORDERS","reckon","signed_ops_math","shift","join_bits","PLAIN_OPS","LITERALS","is_literal","literal_value","same_literal","literal_row","kind_text","is_plain_number","strictly_equal","number_order","known_unary","known_binary","copy_head","joints","line_at","rebuilt","with_code","for_all","TESTS","MOVES","moved","tested","turned_test","shorter","folded_rows","fold_one","fold_unit","later_places","live_places","is_idle","clean_once","clean_one","clean_unit","PLAIN_TEST","SAME_TESTS","end_of","kept_step","threaded","thread_one","thread_unit","_law_pieces","_law_take","_law_rows","_law_coded","_law_valued","_law_head","_law_unit","_law_shown","_law_passes_right","_law_small_right"]
noncomputable def Sd:List Addr:=[1,3,11,13,14,15,16,17,18,19,20,21,22,23,24,25,26,27,28,29,30,31,32,33,34,35,36,37,38,39,40,41,42,43,44,45,46,47,48,49,50,51,52,53,54,55,56,57,58,59,60,61,62,63,64,65,66,67,68,69,70,71,72,73,74,75,76,77,78,79,80,81,82,83,84,85,86,87,88,89,90,91,92,93,94,95,96,97,98,99,100,101,102,103,104,105,107,108,109,111,112,114,115,116,117,118,119,120,121,122,123,125,126,128,129,130,132,133,135,136,137,139,140,142,143,144,146,147,149,150,151,153,154,156,157,158,160,161,163,164,165,167,168,170,171,172,174,175,177,178,179,181,182,184,185,186,188,189,191,192,193,195,196,198,199,200,202,203,205,206,207,209,210,212,213,214,216,217,219,220,221,223,224,226,227,228,230,231,233,234,235,237,238,240,241,242,244,245,247,248,249,250,251,252,254,255,256,257,258,259,260,261,262,263,264,265,267,268,270,271,272,274,275,277,278,279,281,282,284,285,286,288,289,291,292,293,295,296,298,299,300,302,303,305,306,307,309,310,312,313,314,316,317,319,320,321,323,324,326,327,328,330,331,333,334,335,337,338,340,341,342,344,345,347,348,349,351,352,354,355,356,358,359,361,362,363,365,366,368,369,370,371,372,373,374,376,377,379,380,381,383,384,386,387,388,390,391,393,394,395,397,398,400,401,402,403,404,406,407,409,410,411,413,414,416,417,418,420,421,423,424,425,427,428,430,431,432,434,435,437,438,439,441,442,444,445,446,448,449,451,452,453,455,456,458,459,460,462,463,465,466,467,469,470,472,473,474,476,477,479,480,481,483,484,486,487,488,490,491,493,494,495,497,498,500,501,502,504,505,507,508,509,512,513,514,515,516,518,519,521,522,523,525,526,528,529,530,532,533,535,536,537,540,541,542,544,545,547,548,549,551,552,554,555,556,558,559,561,562,563,565,566,568,569,570,572,573,575,576,577,580,581,582,585,586,587,589,590,592,593,594,596,597,599,600,601,602,603,604,605,607,608,610,611,612,614,615,617,618,619,621,622,624,625,626,628,629,631,632,633,635,636,638,639,640,642,643,645,646,647,649,650,652,653,654,656,657,659,660,661,664,665,666,669,670,671,673,674,676,677,678,680,681,683,684,685,688,689,690,693,694,695,697,698,700,701,702,705,706]
noncomputable def pk:Nat->List Nat->List Obj->Frag
 | _,[],_=>[]
 | _,_,[]=>[]
 | i,a::s,o::l=>match Nat.beq i a with
  | true=>(a,o)::pk (i+1) s l
  | false=>pk (i+1) (a::s) l
def KF(P:Params):Frag:=pk 0 Sd (GB P)
theorem O4:∀(w:World)(os:OsState),topGo treeTable pw w 11 (some (.ref 6)) 12 ⟨boot_heap w.params,⟨[]⟩,boot_drawn,boot_toks,os⟩ (topStub pw)=some (⟨hA w.params,⟨[]⟩,{},187,os⟩,⟨denote treeTable cE,cE,⟨0,0,0,0⟩,fB⟩):=by
 intro w os;rw [PySem.W.Fast.te15667345088766844465,PySem.W.Fast.te14364793385576792824,PySem.W.Fast.te11892475500146522536];kernel_rfl
theorem GC:∀(w:World)(os:OsState),segRun treeTable pw w 11 (some (.ref 6)) 1 1 ⟨hA w.params,⟨[]⟩,{},187,os⟩ (blockOf bE iH cE ⟨0,0,0,0⟩ fB)=some (.next,(SharedT.mk (t1 w.params) 15 bS ⟨[]⟩ {} 187 os).abs,cE,⟨0,0,0,0⟩):=by
 intro w os;kernel_rfl
theorem p2:∀(w:World)(os:OsState),segRunT treeTable pw w 11 (some (.ref 6)) 1 397 ⟨t1 w.params,15,bS,⟨[]⟩,{},187,os⟩ ⟨(execs (gg 0 44) iH).wrap doneF deadEnd id id,cE,⟨0,0,0,0⟩,fB⟩=some (.next,(SharedT.mk (t2 w.params) 15 bS ⟨[]⟩ {} 275 os),cE,⟨44,0,44,9⟩):=by
 intro w os;rw [PySem.W.Fast.te10110043849684766642,PySem.W.Fast.te14364793385576792824,PySem.W.Fast.te12563942051412417395];kernel_rfl
theorem p3:∀(w:World)(os:OsState),segRunT treeTable pw w 11 (some (.ref 6)) 1 10 ⟨t2 w.params,15,bS,⟨[]⟩,{},275,os⟩ ⟨(execs (gg 44 1) iH).wrap doneF deadEnd id id,cE,⟨44,0,44,9⟩,fB⟩=some (.next,(SharedT.mk (t3 w.params) 15 bS ⟨[]⟩ {} 277 os),cE,⟨45,0,45,10⟩):=by
 intro w os;rw [PySem.W.Fast.te10110043849684766642,PySem.W.Fast.te14364793385576792824,PySem.W.Fast.te12563942051412417395];kernel_rfl
theorem p4:∀(w:World)(os:OsState),segRunT treeTable pw w 11 (some (.ref 6)) 1 521 ⟨t3 w.params,15,bS,⟨[]⟩,{},277,os⟩ ⟨(execs (gg 45 1) iH).wrap doneF deadEnd id id,cE,⟨45,0,45,10⟩,fB⟩=some (.next,(SharedT.mk (t4 w.params) 101 bS ⟨[]⟩ {} 618 os),cE,⟨46,0,46,10⟩):=by
 intro w os;rw [PySem.W.Fast.te10110043849684766642,PySem.W.Fast.te14364793385576792824,PySem.W.Fast.te12563942051412417395];kernel_rfl
theorem p5:∀(w:World)(os:OsState),segRunT treeTable pw w 11 (some (.ref 6)) 1 400 ⟨t4 w.params,101,bS,⟨[]⟩,{},618,os⟩ ⟨(execs (gg 46 9) iH).wrap doneF deadEnd id id,cE,⟨46,0,46,10⟩,fB⟩=some (.next,(SharedT.mk (t5 w.params) 144 bS ⟨[]⟩ {} 699 os),cE,⟨75,0,75,13⟩):=by
 intro w os;rw [PySem.W.Fast.te10110043849684766642,PySem.W.Fast.te14364793385576792824,PySem.W.Fast.te12563942051412417395];kernel_rfl
theorem p6:∀(w:World)(os:OsState),segRunT treeTable pw w 11 (some (.ref 6)) 1 381 ⟨t5 w.params,144,bS,⟨[]⟩,{},699,os⟩ ⟨(execs (gg 55 18) iH).wrap doneF deadEnd id id,cE,⟨75,0,75,13⟩,fB⟩=some (.next,(SharedT.mk (t6 w.params) 207 bS ⟨[]⟩ {} 796 os),cE,⟨109,0,113,67⟩):=by
 intro w os;rw [PySem.W.Fast.te10110043849684766642,PySem.W.Fast.te14364793385576792824,PySem.W.Fast.te12563942051412417395];kernel_rfl
theorem p7:∀(w:World)(os:OsState),segRunT treeTable pw w 11 (some (.ref 6)) 1 392 ⟨t6 w.params,207,bS,⟨[]⟩,{},796,os⟩ ⟨(execs (gg 73 8) iH).wrap doneF deadEnd id id,cE,⟨109,0,113,67⟩,fB⟩=some (.next,(SharedT.mk (t7 w.params) 263 bS ⟨[]⟩ {} 878 os),cE,⟨158,0,159,8⟩):=by
 intro w os;rw [PySem.W.Fast.te10110043849684766642,PySem.W.Fast.te14364793385576792824,PySem.W.Fast.te12563942051412417395];kernel_rfl
theorem p8:∀(w:World)(os:OsState),segRunT treeTable pw w 11 (some (.ref 6)) 1 381 ⟨t7 w.params,263,bS,⟨[]⟩,{},878,os⟩ ⟨(execs (gg 81 13) iH).wrap doneF deadEnd id id,cE,⟨158,0,159,8⟩,fB⟩=some (.next,(SharedT.mk (t8 w.params) 335 bS ⟨[]⟩ {} 970 os),cE,⟨204,0,216,82⟩):=by
 intro w os;rw [PySem.W.Fast.te10110043849684766642,PySem.W.Fast.te14364793385576792824,PySem.W.Fast.te12563942051412417395];kernel_rfl
theorem p9:∀(w:World)(os:OsState),segRunT treeTable pw w 11 (some (.ref 6)) 1 372 ⟨t8 w.params,335,bS,⟨[]⟩,{},970,os⟩ ⟨(execs (gg 94 17) iH).wrap doneF deadEnd id id,cE,⟨204,0,216,82⟩,fB⟩=some (.next,(SharedT.mk (t9 w.params) 395 bS ⟨[]⟩ {} 1056 os),cE,⟨257,0,263,42⟩):=by
 intro w os;rw [PySem.W.Fast.te10110043849684766642,PySem.W.Fast.te14364793385576792824,PySem.W.Fast.te12563942051412417395];kernel_rfl
theorem Ua:∀(w:World)(os:OsState),segRunT treeTable pw w 11 (some (.ref 6)) 1 399 ⟨t9 w.params,395,bS,⟨[]⟩,{},1056,os⟩ ⟨(execs (gg 111 13) iH).wrap doneF deadEnd id id,cE,⟨257,0,263,42⟩,fB⟩=some (.next,(SharedT.mk (R6 w.params) 467 bS ⟨[]⟩ {} 1149 os),cE,⟨313,0,328,24⟩):=by
 refine byRow2 "special-get-raises" (λw os=>?_) (λw os=>?_)<;>(rw [PySem.W.Fast.te10110043849684766642,PySem.W.Fast.te14364793385576792824,PySem.W.Fast.te12563942051412417395];kernel_rfl)
theorem Ub:∀(w:World)(os:OsState),segRunT treeTable pw w 11 (some (.ref 6)) 1 380 ⟨R6 w.params,467,bS,⟨[]⟩,{},1149,os⟩ ⟨(execs (gg 124 14) iH).wrap doneF deadEnd id id,cE,⟨313,0,328,24⟩,fB⟩=some (.next,(SharedT.mk (R7 w.params) 537 bS ⟨[]⟩ {} 1262 os),cE,⟨405,0,409,57⟩):=by
 intro w os;rw [PySem.W.Fast.te10110043849684766642,PySem.W.Fast.te14364793385576792824,PySem.W.Fast.te12563942051412417395];kernel_rfl
theorem Uc:∀(w:World)(os:OsState),segRunT treeTable pw w 11 (some (.ref 6)) 1 367 ⟨R7 w.params,537,bS,⟨[]⟩,{},1262,os⟩ ⟨(execs (gg 138 13) iH).wrap doneF deadEnd id id,cE,⟨405,0,409,57⟩,fB⟩=some (.next,(SharedT.mk (R9 w.params) 602 bS ⟨[]⟩ {} 1363 os),cE,⟨491,0,491,10⟩):=by
 refine byRow2 "special-get-raises" (λw os=>?_) (λw os=>?_)<;>(rw [PySem.W.Fast.te10110043849684766642,PySem.W.Fast.te14364793385576792824,PySem.W.Fast.te12563942051412417395];kernel_rfl)
theorem Ud:∀(w:World)(os:OsState),segRunT treeTable pw w 11 (some (.ref 6)) 1 394 ⟨R9 w.params,602,bS,⟨[]⟩,{},1363,os⟩ ⟨(execs (gg 151 13) iH).wrap doneF deadEnd id id,cE,⟨491,0,491,10⟩,fB⟩=some (.next,(SharedT.mk (Sa w.params) 678 bS ⟨[]⟩ {} 1466 os),cE,⟨563,0,565,119⟩):=by
 refine byRow2 "special-get-raises" (λw os=>?_) (λw os=>?_)<;>(rw [PySem.W.Fast.te10110043849684766642,PySem.W.Fast.te14364793385576792824,PySem.W.Fast.te12563942051412417395];kernel_rfl)
theorem Ue:∀(w:World)(os:OsState),segRunT treeTable pw w 11 (some (.ref 6)) 1 154 ⟨Sa w.params,678,bS,⟨[]⟩,{},1466,os⟩ ⟨(execs (gg 164 5) iH).wrap doneF deadEnd id id,cE,⟨563,0,565,119⟩,fB⟩=some (.next,(SharedT.mk (Sb w.params) 707 bS ⟨[]⟩ {} 1515 os),cE,⟨621,0,624,68⟩):=by
 intro w os;rw [PySem.W.Fast.te10110043849684766642,PySem.W.Fast.te14364793385576792824,PySem.W.Fast.te12563942051412417395];kernel_rfl
theorem O5:∀(w:World)(os:OsState),topRun treeTable pw w 11 (some (.ref 6)) 2 (SharedT.mk (Sb w.params) 707 bS ⟨[]⟩ {} 1515 os).abs ⟨doneF .next,cE,⟨621,0,624,68⟩,fB⟩=some ⟨hZ w.params,⟨[]⟩,{},1515,os⟩:=by
 intro w os;rw [PySem.W.Fast.te14082659384304107361,PySem.W.Fast.te14364793385576792824];kernel_rfl
theorem KN:bE=gg 0 44++(gg 44 1++(gg 45 1++(gg 46 9++(gg 55 18++(gg 73 8++(gg 81 13++(gg 94 17++(gg 111 13++(gg 124 14++(gg 138 13++(gg 151 13++(gg 164 5++([]))))))))))))):=by kernel_rfl
theorem O6(w:World)(os:OsState):topRun treeTable pw w 11 (some (.ref 6)) (12+(1+(397+(10+(521+(400+(381+(392+(381+(372+(399+(380+(367+(394+(154+2))))))))))))))) ⟨boot_heap w.params,⟨[]⟩,boot_drawn,boot_toks,os⟩ (topStub pw)=some ⟨hZ w.params,⟨[]⟩,{},1515,os⟩:=by
 refine go_top (O4 w os) (piece_block (GC w os) ?_)
 rw [KN]
 exact piece_app (l:=gg 0 44) (segRun_of (p2 w os)) (piece_app (l:=gg 44 1) (segRun_of (p3 w os)) (piece_app (l:=gg 45 1) (segRun_of (p4 w os)) (piece_app (l:=gg 46 9) (segRun_of (p5 w os)) (piece_app (l:=gg 55 18) (segRun_of (p6 w os)) (piece_app (l:=gg 73 8) (segRun_of (p7 w os)) (piece_app (l:=gg 81 13) (segRun_of (p8 w os)) (piece_app (l:=gg 94 17) (segRun_of (p9 w os)) (piece_app (l:=gg 111 13) (segRun_of (Ua w os)) (piece_app (l:=gg 124 14) (segRun_of (Ub w os)) (piece_app (l:=gg 138 13) (segRun_of (Uc w os)) (piece_app (l:=gg 151 13) (segRun_of (Ud w os)) (piece_app (l:=gg 164 5) (segRun_of (Ue w os)) (piece_nil (O5 w os))))))))))))))
theorem KO:∀w:World,(fencedOpening treeTable pw w 9196).map (λs=>(s.heap,s.gens,s.drawn,s.toks))=some (boot_heap w.params,Array.mk [],boot_drawn,boot_toks):=
 boot_open (by kernel_rfl) (by decide+kernel) (by intro s;kernel_rfl)
theorem KP:∀w:World,((boot_heap w.params).isNs mainGlobals&&(Array.mk []:Array GenState).size==0,(boot_heap w.params).objs.size,(boot_heap w.params).nsMap mainGlobals "__annotations__")=(true,11,some (.ref 6)):=by
 intro w;kernel_rfl
def qV:Program:=view pw [168]
abbrev hk:Hook:=kHook KF Sd (λ_=>by kernel_rfl)
theorem Ug(w:World)(os:OsState):(staticsOk (importedModules pw.main.body) (boot_heap w.params) (hZ w.params)&&namesBound pw (hZ w.params)&&gensDone ⟨hZ w.params,⟨[]⟩,{},1515,os⟩&&laidKept (boot_heap w.params) (hZ w.params))=true:=by kernel_rfl
theorem Uh(w:World)(os:OsState):openSeen qV jZ (importedModules pw.main.body) (λ_=>true) true ⟨hZ w.params,⟨[]⟩,{},1515,os⟩=openGood qV jZ:=by
 rw [PySem.W.Fast.te4187177175401517315];kernel_rfl
theorem Uj(w:World)(os:OsState):hk.obs ⟨hZ w.params,⟨[]⟩,{},1515,os⟩=hk.val w:=by kernel_rfl
theorem left:LeftO pw qV jZ (λ_=>true) hk.obs hk.val 9196:=
 LeftO.of_pieces KO KP O6 (by decide+kernel) λw=>funext λos=>Prod.ext (Ug w os) (Prod.ext (Uh w os) (Uj w os))
theorem KQ:(defOf qV PySem.Challenge.rw_nt0389_01.row.name).isSome=true:=by kernel_rfl
abbrev dL:DefRec×List (Str×Expr):=(defOf qV PySem.Challenge.rw_nt0389_01.row.name).get KQ
theorem O7:defOf qV PySem.Challenge.rw_nt0389_01.row.name=some (dL.1,dL.2):=by kernel_rfl
theorem hp:PySem.Challenge.rw_nt0389_01.row.prog.theDef PySem.Challenge.rw_nt0389_01.row.name=some (dL.1.params,dL.1.body,dL.1.scope):=by kernel_rfl
theorem Uk:kwWritten? dL.1.params.kwonlyargs dL.1.params.kw_defaults=some dL.2:=by kernel_rfl
theorem KU:(chainsOk qV&&opensWell PySem.Challenge.rw_nt0389_01.row.prog&&(frees PySem.Challenge.rw_nt0389_01.row.toRowW&&PySem.Challenge.rw_nt0389_01.row.within.isEmpty))=true:=by decide+kernel
theorem ws:PySem.Challenge.rw_nt0389_01.wellSaid=true:=(congrFun PySem.W.Fast.te9446332074065402090 _).trans (by decide+kernel)
theorem prom:PySem.Challenge.rw_nt0389_01.row.toRowW.promised:=by w_witness2
theorem head(call:WalkO qV jZ (λ_ _=>True) hk.says PySem.Challenge.rw_nt0389_01.row.toRowW dL.1 dL.2 λf I=>PySem.call f I):PySem.Challenge.rw_nt0389_01.Holds:=
 ⟨ws,holds_open (r:=PySem.Challenge.rw_nt0389_01.row) (q:=qV) (loose:=jZ) (Xt:=λ_=>true) (XP:=λ_ _=>True) (Yf:=hk.obs) (Ya:=hk.val) (YP:=hk.says) (N:=9196) left hk.of hk.keeps (λ_ _=>trivial) (λ_ _ _ _ _=>trivial)
  O7 hp Uk (λ_ _=>recFacts_nil rfl) rfl (row_said ws) KU ⟨rfl,rfl,rfl,rfl,rfl,by decide+kernel⟩ prom call⟩
end
end Mine.Head
end
section
set_option maxHeartbeats 4000000
namespace Mine
open PySem PySem.Calls Mine.Head
noncomputable def O8(args:Arguments)(scope:Scope):Bool:=args.posonlyargs.isEmpty&&(args.vararg.isNone&&(args.kwonlyargs.isEmpty&&(args.kwarg.isNone&&(decide (args.args.map (·.arg)).Nodup&&(!scope.isCoroutine&&(!scope.isGenerator&&((scope.kind==.function)&&
  (decide (scope.names.map (·.1)).Nodup&&((args.args.map (·.arg)).all (λx=>(scope.names.lookup x==some .local) || (scope.names.lookup x==some .cell))&&scope.names.all λp=>p.1 !=br)))))))))
noncomputable def O9(s:Stmt):Bool:=(by induction s using Stmt.casesOn with | FunctionDef _ args _ _ _ _ scope _ _ _=>exact O8 args scope | _=>exact false)
noncomputable def codeAt(K:PySem.W.Frag)(c:Addr)(q:Str):Bool:=sG K c λo=>Data.casesOn o.data false (λ_=>false) (λ_ _=>false) (λ_ _=>false) (λ_ _ _=>false) (λ_ _=>false) (λ_=>false) (λ_=>false) (λ_=>false) (λI=>Option.casesOn (I[1]?:Option Value) false λv=>rS v λx=>decide (x=q)) false
section
variable{W:WC}{K:PySem.W.Frag}
theorem y7(X:K.In W.aA){c:Addr}{q:Str}(e:codeAt K c q=true):W.aA.CodeRec (.ref c) q:=vp e λo hl e=>by
 revert e
 cases hd:o.data with
 | fields I=>
  show (Option.casesOn (I[1]?:Option Value) false (λv=>rS v λx=>decide (x=q)):Bool)=true->_
  cases hv:I[1]? with
  | none=>exact λe=>bF e
  | some v=>exact λe=>AZ (P:=λv=>I[1]?=some v->W.aA.CodeRec (.ref c) q) e (λx t e hv=>⟨c,o,I,t,rfl,X _ _ hl,hd,(of_decide_eq_true e:x=q)▸hv⟩) hv
 | _=>exact λe=>bF e
theorem wZ(X:K.In W.aA){s:Stmt}{fn:Fn}{q:Str}{a c:Addr}{d pm:Value}(hf:fnOf s=some fn)(sh:O9 s=true)(hl:K.lookup a=some ⟨.type "function",none,.func (E7 s q 3 0 d pm (.ref c)),#[]⟩)(hc:codeAt K c q=true):yV W 3 0 fn a:=by
 revert hf sh hl
 induction s using Stmt.casesOn with
 | FunctionDef name args body a1 a2 a3 scope a4 a5 a6=>
  exact λhf sh hl=>bG (P:=λfn=>yV W 3 0 fn a) hf (aB sh λs1 sh=>aB sh λs2 sh=>aB sh λs3 sh=>aB sh λs4 sh=>aB sh λs5 sh=>aB sh λs6 sh=>aB sh λs7 sh=>aB sh λs8 sh=>aB sh λs9 sh=>aB sh λJy Nn=>
   ⟨_,_,X _ _ hl,rfl,rfl,rfl,rfl,rfl,y7 X hc,rfl,λvals hv=>vn (fd:=E7 (.FunctionDef name args body a1 a2 a3 scope a4 a5 a6) q 3 0 d pm (.ref c)) (List.isEmpty_iff.mp s1) (Option.isNone_iff_eq_none.mp s2) (List.isEmpty_iff.mp s3) (Option.isNone_iff_eq_none.mp s4) rfl (of_decide_eq_true s5) hv,
    Bool.not_eq_true' _▸s6,Bool.not_eq_true' _▸s7,beq_iff_eq.mp s8,of_decide_eq_true s9,λx hx=>(Bool.or_eq_true_iff.mp (List.all_eq_true.mp Jy x hx)).imp (λe=>mem_of_lookup (beq_iff_eq.mp e)) λe=>mem_of_lookup (beq_iff_eq.mp e),λp hp=>bne_iff_ne.mp (List.all_eq_true.mp Nn p hp),of_decide_eq_true s5⟩)
 | _=>exact λhf=>nN hf
end
abbrev fr(i:Nat)(a:Addr)(q pm:Str)(tk:Tok)(c:Addr):Nat×Addr×Str×Value×Addr:=(i,a,q,.str pm tk,c)
noncomputable def mO:List (Nat×Addr×Str×Value×Addr):=[fr 48 129 "arg_kind" "js.codes" 187 128,fr 49 136 "taken_count" "js.codes" 187 135,fr 50 143 "is_last" "js.codes" 187 142,fr 63 150 "width" "js.dbits" 685 149,fr 64 157 "pack" "js.dbits" 685 156,fr 65 164 "is_negative" "js.dbits" 685 163,fr 66 171 "is_nan" "js.dbits" 685 170,fr 67 178 "is_inf" "js.dbits" 685 177,fr 68 185 "is_finite" "js.dbits" 685 184,fr 69 192 "is_zero" "js.dbits" 685 191,fr 70 199 "signed" "js.dbits" 685 198,fr 72 206 "parts" "js.dbits" 685 205,fr 73 213 "quotient" "js.dbits" 685 212,fr 74 220 "round_ratio" "js.dbits" 685 219,fr 75 227 "assembled" "js.dbits" 685 226,fr 76 234 "round_scaled" "js.dbits" 685 233,fr 77 241 "from_int" "js.dbits" 685 240,fr 78 248 "to_int" "js.dbits" 685 247,fr 82 271 "is_null" "js.values" 856 270,fr 83 278 "is_number" "js.values" 856 277,fr 84 285 "is_text" "js.values" 856 284,fr 86 292 "truthy" "js.convert" 900 291,fr 88 299 "neg" "js.darith" 909 298,fr 89 306 "add" "js.darith" 909 305,fr 90 313 "summed" "js.darith" 909 312,fr 91 320 "sub" "js.darith" 909 319,fr 92 327 "mul" "js.darith" 909 326,fr 93 334 "div" "js.darith" 909 333,fr 94 341 "rem" "js.darith" 909 340,fr 95 348 "order_key" "js.darith" 909 347,fr 96 355 "compare" "js.darith" 909 354,fr 100 362 "to_uint32" "js.dround" 998 361,fr 101 369 "to_int32" "js.dround" 998 368,fr 107 380 "reckon" "js.ops_math" 1023 379,fr 108 387 "signed" "js.ops_math" 1023 386,fr 110 394 "shift" "js.ops_math" 1023 393,fr 111 401 "join_bits" "js.ops_math" 1023 400,fr 115 410 "is_literal" "js.foldvalues" 1067 409,fr 116 417 "literal_value" "js.foldvalues" 1067 416,fr 117 424 "same_literal" "js.foldvalues" 1067 423,fr 118 431 "literal_row" "js.foldvalues" 1067 430,fr 119 438 "kind_text" "js.foldvalues" 1067 437,fr 120 445 "is_plain_number" "js.foldvalues" 1067 444,fr 121 452 "strictly_equal" "js.foldvalues" 1067 451,fr 122 459 "number_order" "js.foldvalues" 1067 458,fr 123 466 "known_unary" "js.foldvalues" 1067 465,fr 124 473 "known_binary" "js.foldvalues" 1067 472,fr 126 480 "copy_head" "js.relocate" 1158 479,fr 127 487 "joints" "js.relocate" 1158 486,fr 128 494 "line_at" "js.relocate" 1158 493,fr 129 501 "rebuilt" "js.relocate" 1158 500,fr 130 508 "with_code" "js.relocate" 1158 507,fr 131 513 "for_all" "js.relocate" 1158 512,fr 135 522 "moved" "js.fold" 1226 521,fr 136 529 "tested" "js.fold" 1226 528,fr 137 536 "turned_test" "js.fold" 1226 535,fr 138 541 "shorter" "js.fold" 1226 540,fr 139 548 "folded_rows" "js.fold" 1226 547,fr 140 555 "fold_one" "js.fold" 1226 554,fr 141 562 "fold_unit" "js.fold" 1226 561,fr 143 569 "later_places" "js.dead" 1303 568,fr 144 576 "live_places" "js.dead" 1303 575,fr 145 581 "is_idle" "js.dead" 1303 580,fr 146 586 "clean_once" "js.dead" 1303 585,fr 147 593 "clean_one" "js.dead" 1303 592,fr 148 600 "clean_unit" "js.dead" 1303 599,fr 152 611 "end_of" "js.threads" 1358 610,fr 153 618 "kept_step" "js.threads" 1358 617,fr 154 625 "threaded" "js.threads" 1358 624,fr 155 632 "thread_one" "js.threads" 1358 631,fr 156 639 "thread_unit" "js.threads" 1358 638,fr 158 646 "_law_pieces" "law_nt0389_01" 1415 645,fr 159 653 "_law_take" "law_nt0389_01" 1415 652,fr 160 660 "_law_rows" "law_nt0389_01" 1415 659,fr 161 665 "_law_coded" "law_nt0389_01" 1415 664,fr 162 670 "_law_valued" "law_nt0389_01" 1415 669,fr 163 677 "_law_head" "law_nt0389_01" 1415 676,fr 164 684 "_law_unit" "law_nt0389_01" 1415 683,fr 165 689 "_law_shown" "law_nt0389_01" 1415 688,fr 166 694 "_law_passes_right" "law_nt0389_01" 1415 693,fr 167 701 "_law_small_right" "law_nt0389_01" 1415 700,fr 168 706 "law" "law_nt0389_01" 1415 705]
theorem Dw(P:Params):(mO.map λx=>(KF P).lookup x.2.1)=mO.map λx=>some ⟨.type "function",none,.func (E7 (kK x.1) x.2.2.1 3 0 .none x.2.2.2.1 (.ref x.2.2.2.2)),#[]⟩:=by kernel_rfl
theorem A5(P:Params):(mO.all λx=>O9 (kK x.1)&&codeAt (KF P) x.2.2.2.2 x.2.2.1)=true:=by kernel_rfl
theorem GD(P:Params):(KF P).lookup 115=some ⟨.type "function",none,.func (E7 (A3 (kK 47) 0) "Unit.__init__" 3 0 .none (.str "js.codes" 187) (.ref 114)),#[]⟩:=by kernel_rfl
theorem Dx(P:Params):(O9 (A3 (kK 47) 0)&&codeAt (KF P) 114 "Unit.__init__")=true:=by kernel_rfl
end Mine
end
section
set_option maxHeartbeats 4000000
namespace Mine
open PySem PySem.Calls PySem.W Mine.Head
noncomputable def vx(d:Data):Array DictEntry:=Data.casesOn d (#[]) (λ_=>#[]) (λ_ _=>#[]) (λes _=>es) (λ_ _ _=>#[]) (λ_ _=>#[]) (λ_=>#[]) (λ_=>#[]) (λ_=>#[]) (λ_=>#[]) (#[])
def KV(P:Params):Array DictEntry:=vx (A4 P).data
noncomputable def jk(P:Params)(x:Str):Option Value:=Option.casesOn (nsFind (KV P) x) (if x="__name__" then none else bootBuiltins x) some
abbrev WL(pg:Program)(w:World)(h:Heap):WC:=⟨pg,w,h,118,jk w.params⟩
theorem Dy(P:Params):(Dt.all λp=>Option.casesOn (jk P (Str.ofString p.1)) false λr=>R4 (KF P) (jk P) 6 p.2 r)=true:=by kernel_rfl
theorem GF{x:Str}:gL x≠ .qW->∃p,p∈Dt/\Str.ofString p.1=x/\gL x=p.2:=by
 unfold gL
 cases hp:Dt.find? λp=>Str.ofString p.1==x with
 | none=>exact λh=>absurd rfl h
 | some p=>exact λh=>⟨p,List.mem_of_find?_eq_some hp,eq_of_beq (List.find?_some (p:=λp:String×V=>Str.ofString p.1==x) hp),rfl⟩
section
variable{pg:Program}{w:World}{h:Heap}{mg mb:Str->Option Value}
theorem A6(X:(KF w.params).In h)(g:h.Ns mainGlobals mg)(x:Str):mg x=nsFind (KV w.params) x:=kF g λo es ep ho hd _ hm=>by
 have hk:(KF w.params).lookup mainGlobals=some (A4 w.params):=by kernel_rfl
 have e:=Option.some.inj ((X _ _ hk).symm.trans ho)
 subst e
 exact (hm x).symm.trans (congrArg (λd=>nsFind (vx d) x) hd).symm
theorem KW{P:Params}{x:Str}{r:Value}:jk P x=some r->nsFind (KV P) x=some r\/(nsFind (KV P) x=none/\x≠"__name__"/\bootBuiltins x=some r):=by
 unfold jk
 cases nsFind (KV P) x with
 | some v=>exact .inl
 | none=>exact λe=>.inr (uJ e λhx e=>⟨rfl,hx,e⟩)
theorem Gq(X:(KF w.params).In h)(g:h.Ns mainGlobals mg)(b:h.Ns builtinsNs mb)(bb:∀x:Str,x≠"__name__"->mb x=bootBuiltins x):Oe (WL pg w h) gL 3 0:=⟨mg,mb,g,b,λx hx=>bJ (GF hx) λp hp ex he=>by
 subst ex
 have hc:=List.all_eq_true.mp (Dy w.params) p hp
 revert hc
 cases hr:jk w.params (Str.ofString p.1) with
 | none=>exact bF
 | some r=>exact λhc=>⟨r,(KW hr).imp (λe=>(A6 X g _).trans e) λe=>⟨(A6 X g _).trans e.1,(bb _ e.2.1).trans e.2.2⟩,he▸y6 (W:=WL pg w h) (O:=λ_=>(0,0)) X (λ_=>rfl) 6 p.2 r hc⟩⟩
theorem cW(pg:Program)(w:World)(h:Heap):(WL pg w h).gv=jk w.params:=rfl
theorem GG(P:Params):jk P "len"=some (.builtin "len"):=by kernel_rfl
theorem GH(P:Params):jk P "list"=some (.type "list"):=by kernel_rfl
theorem GI(P:Params):jk P "abs"=some (.builtin "abs"):=by kernel_rfl
theorem GJ(P:Params):jk P "min"=some (.builtin "min"):=by kernel_rfl
theorem GK(P:Params):jk P "max"=some (.builtin "max"):=by kernel_rfl
theorem GL(P:Params):jk P "int"=some (.type "int"):=by kernel_rfl
theorem GN(P:Params):jk P "isinstance"=some (.builtin "isinstance"):=by kernel_rfl
theorem Dz(P:Params):jk P "repr"=some (.builtin "repr"):=by kernel_rfl
theorem y8(P:Params):jk P "sorted"=some (.builtin "sorted"):=by kernel_rfl
theorem GO(P:Params):jk P "all"=some (.builtin "all"):=by kernel_rfl
theorem DA(P:Params):jk P "bool"=some (.type "bool"):=by kernel_rfl
theorem GP(P:Params):jk P "str"=some (.type "str"):=by kernel_rfl
theorem GQ(P:Params):jk P "range"=some (.type "range"):=by kernel_rfl
theorem GR(P:Params):jk P "enumerate"=some (.type "enumerate"):=by kernel_rfl
theorem GS(P:Params):jk P "zip"=some (.type "zip"):=by kernel_rfl
theorem qb(P:Params):jk P "Null"=some (.ref 258)/\jk P "NULL"=some (.ref 264):=⟨by kernel_rfl,by kernel_rfl⟩
theorem GU(X:(KF w.params).In h):∃c n,(WL pg w h).gv "Null"=some c/\(WL pg w h).gv "NULL"=some n/\∀(A:Around)(s:Shared)(Q:Value->Shared->Prop)(E:Value->Shared->Prop),(∀a o,h.get? a=some o->s.heap.get? a=some o)->
  (∀T,T="int"\/T="bool"\/T="str"->(∀tk,Q (.bool false) {s with toks:=tk})->wpAny (model pg w) A (call (.builtin "isinstance") [n,.type T]) Q E s)/\
  ((∀tk,Q (.bool true) {s with toks:=tk})->wpAny (model pg w) A (call (.builtin "isinstance") [n,c]) Q E s)/\
  ∀v,(v=.none\/(∃b,v=.bool b)\/(∃i t,v=.int i t)\/∃x t,v=.str x t)->(∀tk,Q (.bool false) {s with toks:=tk})->wpAny (model pg w) A (call (.builtin "isinstance") [v,c]) Q E s:=by
 refine ⟨.ref 258,.ref 264,(congrFun (cW pg w h) _).trans (qb w.params).1,(congrFun (cW pg w h) _).trans (qb w.params).2,λA s Q E old=>?_⟩
 have X':(KF w.params).In s.heap:=X.keeps old
 have Pa:(KF w.params).lookup 264=some (vw w.params):=by kernel_rfl
 have Pb:(KF w.params).lookup 263=some (vu w.params):=by kernel_rfl
 have ag:InstAt s.heap 264 (vw w.params) 258 (some (vu w.params)):=⟨X' _ _ Pa,rfl,rfl,X' _ _ Pb⟩
 have nT:∀T:String,kin_notT (KF w.params) 258 T=true->typeOf (.type T)=pure (.type "type")->(∀tk,Q (.bool false) {s with toks:=tk})->wpAny (model pg w) A (call (.builtin "isinstance") [.ref 264,.type T]) Q E s:=λT e1 e2 q=>
  kin_callT (K:=KF w.params) X' ag e1 e2 (by kernel_rfl) (by kernel_rfl) (by kernel_rfl) (by kernel_rfl) (by kernel_rfl) (by kernel_rfl) (q _)
 refine ⟨λT hT q=>?_,λq=>?_,λv hv q=>?_⟩
 ·exact hT.elim (λe=>e▸nT "int" (by kernel_rfl) (by kernel_rfl) q) λhT=>hT.elim (λe=>e▸nT "bool" (by kernel_rfl) (by kernel_rfl) q) λe=>e▸nT "str" (by kernel_rfl) (by kernel_rfl) q
 ·exact isi_call (K:=KF w.params) (t:=.ref 258) X' (λM=>ag.type) (by kernel_rfl) (by intro w;cases w) (q s.toks)
 ·rcases hv with rfl | ⟨b,rfl⟩ | ⟨i,t,rfl⟩ | ⟨x,t,rfl⟩
  ·exact isn_call (K:=KF w.params) (T:="NoneType") (P:=λ_=>True) X' (λM=>Looks.of_pure rfl) (by kernel_rfl) (by intro w;cases w) trivial none_cls (q _)
  ·exact isn_call (K:=KF w.params) (T:="bool") (P:=λ_=>True) X' (λM=>Looks.of_pure rfl) (by kernel_rfl) (by intro w;cases w) trivial bool_cls (q _)
  ·exact isn_call (K:=KF w.params) (T:="int") (P:=λ_=>True) X' (λM=>Looks.of_pure rfl) (by kernel_rfl) (by intro w;cases w) trivial int_cls (q _)
  ·exact isn_call (K:=KF w.params) (T:="str") (P:=λ_=>True) X' (λM=>Looks.of_pure rfl) (by kernel_rfl) (by intro w;cases w) trivial str_cls (q _)
theorem E0(X:(KF w.params).In h):Jp (WL pg w h) where
 len:=(congrFun (cW pg w h) _).trans (GG w.params)
 lst:=(congrFun (cW pg w h) _).trans (GH w.params)
 abs:=(congrFun (cW pg w h) _).trans (GI w.params)
 min:=(congrFun (cW pg w h) _).trans (GJ w.params)
 max:=(congrFun (cW pg w h) _).trans (GK w.params)
 int:=(congrFun (cW pg w h) _).trans (GL w.params)
 F3:=(congrFun (cW pg w h) _).trans (GN w.params)
 repr:=(congrFun (cW pg w h) _).trans (Dz w.params)
 sorted:=(congrFun (cW pg w h) _).trans (y8 w.params)
 all:=(congrFun (cW pg w h) _).trans (GO w.params)
 bool:=(congrFun (cW pg w h) _).trans (DA w.params)
 str:=(congrFun (cW pg w h) _).trans (GP w.params)
 nn:=λv e=>Option.some.inj ((qb w.params).2.symm.trans ((congrFun (cW pg w h) _).symm.trans e))▸rfl
 nul:=GU X
def KX(P:Params):Array DictEntry:=vx (vq P).data
theorem cf(X:(KF w.params).In h):CF (WL pg w h):=by
 have GV:(KF w.params).lookup 118=some (vt w.params):=by kernel_rfl
 have Pd:(KF w.params).lookup 117=some (vq w.params):=by kernel_rfl
 have hs:((KX w.params).toList.all λe=>rS e.key λ_=>true)=true:=by kernel_rfl
 have Um:StrKeys (KX w.params):=λe he=>AZ (P:=λk=>∃n t,k=.str n t) (List.all_eq_true.mp hs e (Array.mem_toList_iff.mpr he)) λn t _=>⟨n,t,rfl⟩
 have hN:h.Ns 117 (nsFind (KX w.params)):=⟨_,KX w.params,4,X _ _ Pd,rfl,Um,λ_=>rfl⟩
 have hf:(bY.all λx=>(nsFind (KX w.params) x).isNone)=true:=by kernel_rfl
 exact ⟨_,_,_,_,_,_,_,_,_,_,_,_,_,_,_,_,X _ _ GV,hN,by kernel_rfl,by kernel_rfl,λx hx=>Option.isNone_iff_eq_none.mp (List.all_eq_true.mp hf x hx)⟩
theorem Pe(X:(KF w.params).In h)(g:h.Ns mainGlobals mg)(b:h.Ns builtinsNs mb)(bb:∀x:Str,x≠"__name__"->mb x=bootBuiltins x):Fix (WL pg w h) gL 3 0 where
 Gq:=Gq X g b bb
 E0:=E0 X
 cf:=cf X
 sm:=by
  have k1:(KF w.params).lookup sysModules=some (PySem.W.boot_o_1 w.params):=by kernel_rfl
  show (h.get? sysModules).isSome=true
  rw [X _ _ k1];rfl
 kU:=(congrFun (cW pg w h) _).trans (GQ w.params)
 kW:=(congrFun (cW pg w h) _).trans (GR w.params)
 zip:=(congrFun (cW pg w h) _).trans (GS w.params)
end
theorem Pf(i:Nat):OJ i=kK i:=rfl
def rowOf(i:Nat):Option (Nat×Addr×Str×Value×Addr):=mO.find? λx=>x.1==i
theorem y9(P:Params):(Gv.all λp=>Option.casesOn (rowOf p.2) false λx=>decide (jk P (Str.ofString p.1)=some (.ref x.2.1)))=true:=by kernel_rfl
theorem A7(P:Params):jk P "Unit.__init__"=none:=by kernel_rfl
theorem zb(P:Params):jk P "Unit"=some (.ref 118):=by kernel_rfl
section
variable{pg:Program}{w:World}{h:Heap}
theorem GW(X:(KF w.params).In h){x:Nat×Addr×Str×Value×Addr}(hx:x∈mO){fn:Fn}(hf:fnOf (kK x.1)=some fn):yV (WL pg w h) 3 0 fn x.2.1:=aB (List.all_eq_true.mp (A5 w.params) x hx) λh2 h3=>
 wZ (W:=WL pg w h) X hf h2 (List.map_inj_left.mp (Dw w.params) x hx) h3
theorem GX{x:Str}{fn:Fn}(e:fL x=some fn)(ne:x≠"Unit.__init__"):∃p,p∈Gv/\Str.ofString p.1=x/\fnOf (kK p.2)=some fn:=by
 unfold fL at e
 rw [if_neg ne] at e
 exact uO e λp hp e=>⟨p,List.mem_of_find?_eq_some hp,eq_of_beq (List.find?_some (p:=λp:String×Nat=>Str.ofString p.1==x) hp),e⟩
theorem Pg(X:(KF w.params).In h)(nl:h.NoLimit):Kw (WL pg w h) fL 3 0 115 where
 nl:=nl
 fn:=λx fn e _ r hr=>bJ (GX e λq=>nN ((A7 w.params).symm.trans ((congrFun (cW pg w h) _).symm.trans (q▸hr)))) λp hp ex hf=>by
  subst ex
  have hc:=List.all_eq_true.mp (y9 w.params) p hp
  revert hc
  cases hy:rowOf p.2 with
  | none=>exact bF
  | some y=>
   intro hc
   have hg:=Option.some.inj (((congrFun (cW pg w h) _).symm.trans hr).symm.trans (of_decide_eq_true hc))
   have hi:y.1=p.2:=eq_of_beq (List.find?_some (p:=λx:Nat×Addr×Str×Value×Addr=>x.1==p.2) hy)
   exact ⟨_,hg,GW X (List.mem_of_find?_eq_some hy) (hi▸hf)⟩
 RQ:=λfn e=>aB (Dx w.params) λh2 h3=>wZ (W:=WL pg w h) X (show fnOf (A3 (kK 47) 0)=some fn from e) h2 (GD w.params) h3
 unit:=(congrFun (cW pg w h) _).trans (zb w.params)
 made:=makes_of X (by kernel_rfl)
 E4:=looks_findIn X (by kernel_rfl)
 E5:=λself=>bind_fn X self (by kernel_rfl)
 keep:=by
  have GV:(KF w.params).lookup 118=some (vt w.params):=by kernel_rfl
  refine (Looks.ld (part:=none) (X _ _ GV)).andThen ?_
  exact (looks_specialIn X (v:=.ref 118) (name:="__call__") (r:=some (.builtin "type.__call__")) (by kernel_rfl)).andThen .now
end
theorem items_int:∀{xs:List WData},WShape.hasItems [] xs .int=true->∃l:List Int,xs=l.map WData.int
 | [],_=>⟨[],rfl⟩
 | x::xs,e=>by
  have e':(WShape.has [] x .int&&WShape.hasItems [] xs .int)=true:=e
  rw [Bool.and_eq_true] at e'
  obtain ⟨l,rfl⟩:=items_int e'.2
  induction x using PySem.W.WData.casesOn with
  | int i=>exact ⟨i::l,rfl⟩
  | _=>exact absurd e'.1 (by intro z;cases z)
theorem DB{args:List WData}(e:WShape.hasAll [] args [.list .int]=true):∃l:List Int,args=[.list (l.map WData.int)]:=by
 induction args using List.casesOn with
 | nil=>cases e
 | cons x r=>
  have e':(WShape.has [] x (.list .int)&&WShape.hasAll [] r [])=true:=e
  rw [Bool.and_eq_true] at e'
  have hr:r=[]:=by
   induction r using List.casesOn with
   | nil=>rfl
   | cons _ _=>exact absurd e'.2 (by intro z;cases z)
  subst hr
  induction x using PySem.W.WData.casesOn with
  | list xs=>
   have h:(WShape.hasItems [] xs .int || false)=true:=e'.1
   rw [Bool.or_false] at h
   obtain ⟨l,rfl⟩:=items_int h
   exact ⟨l,rfl⟩
  | _=>exact absurd e'.1 (by intro z;cases z)
theorem GY{l:List Int}(e:WTm.holds [] (PySem.Challenge.rw_nt0389_01.pre) {args:=[.list (l.map WData.int)]}=true):l.length<=63:=by
 unfold WTm.holds at e
 have hp:PySem.Challenge.rw_nt0389_01.pre=.and (.not (.lt (.lit (.int ((63:Nat):Int))) (.len (.arg 0)))) (.lit (.bool true)):=rfl
 rw [hp] at e
 by_cases q:((63:Nat):Int)<((l.map WData.int).length:Nat)
 ·have hn:Num.less? (.int ((63:Nat):Int)) (.int ((l.map WData.int).length:Nat))=some true:=congrArg some (decide_eq_true q)
  simp only [WTm.value,List.getElem?_cons_zero,less?,hn] at e
  cases e
 ·rw [List.length_map] at q;omega
theorem oF{P:Params}{h:Heap}:∀{l:List Int}{I:List Value},WellAll P h I (l.map WData.int)->∀{W:WC}{O:Mu}{n:Nat}{G:Heap},bq W G O n (l.map V.int) I
 | [],_,.nil=>.nil
 | i::l,_,.cons a b=>by
  cases a with
  | int _ t=>exact .cons (.int i t) (oF b)
noncomputable def sL:Prop:=∀l:List Int,l.length<=63->∃J,run 30 "law" [.cl (l.map V.int)] ⟨0,λ_=>.lst []⟩=some (.bool true,J)
theorem sM(P:Params):jk P "law"=some (.ref 706):=by kernel_rfl
theorem GZ(LH:sL):WalkO qV jZ (λ_ _=>True) hk.says PySem.Challenge.rw_nt0389_01.row.toRowW dL.1 dL.2 λf I=>PySem.call f I:=by
 intro w dH s₁ mg mb aj hy a o pm cd doc dV kV ho hd Un Wy KY KZ args vals as Ph Uo Pj K3 Up
 have X:(KF w.params).In s₁.heap:=kIn_of hy
 have A8:(WShape.hasAll [] args [.list .int]&&WTm.holds [] PySem.Challenge.rw_nt0389_01.pre {args:=args})=true:=Ph
 rw [Bool.and_eq_true] at A8
 obtain ⟨l,rfl⟩:=DB A8.1
 obtain ⟨J,Pk⟩:=LH l (GY A8.2)
 obtain ⟨v,rfl,hv⟩:∃v,vals=[v]/\Well w.params s₁.heap v (.list (l.map WData.int)):=by
  cases K3 with | cons p q=>cases q;exact ⟨_,rfl,p⟩
 cases hv with
 | @list ax I _ Uq Pm=>
  have fx:=Pe (pg:=PySem.Challenge.rw_nt0389_01.row.toRowW.prog) (w:=w) X aj.T.g aj.T.b aj.T.builtins
  have fo:=Pg (pg:=PySem.Challenge.rw_nt0389_01.row.toRowW.prog) (w:=w) X aj.T.nolimit
  have cs:=sF fx fo 30
  have ha:a=706:=by
   have h1:=A6 X aj.T.g "law"
   have h2:=sM w.params
   have h3:mg "law"=some (.ref a):=KY
   unfold jk at h2
   rw [<-h1,h3] at h2
   cases h2;rfl
  subst ha
  have gv:(WL PySem.Challenge.rw_nt0389_01.row.toRowW.prog w s₁.heap).gv "law"=some (.ref 706):=(congrFun (cW _ w _) _).trans (sM w.params)
  have Jr:lT (fh gL fL 30) "law" [.cl (l.map V.int)] ⟨0,λ_=>.lst []⟩=some (.bool true,J):=Pk
  have R0:Rel (WL PySem.Challenge.rw_nt0389_01.row.toRowW.prog w s₁.heap) (λ_=>(0,0)) ⟨0,λ_=>.lst []⟩ s₁.heap:=⟨λ_ _ e=>e,λk q=>absurd q (Nat.not_lt_zero _),λk q=>absurd q (Nat.not_lt_zero _),λi j q=>absurd q (Nat.not_lt_zero _)⟩
  have rm:bD callerA 30:=⟨rfl,rfl,by decide,by decide⟩
  refine cs.cl (A:=callerA) (s:=s₁) (rs:=[.ref ax]) Jr rm R0 (.bo gv) (.cons (.cl (e:=0) Uq (oF Pm)) .nil) _ _ λr aN G tk R' S' K'=>?_
  cases K'
  refine ⟨.inl ⟨.bool true,.bool true,[],rfl,λ_=>rfl,.bool true,?_,λ_=>⟨List.nodup_nil,λa ha=>by cases ha⟩⟩,OldK.of_keep R'.old,rfl,PyProof.Rows.AllBare.of_eq KZ⟩
  kernel_rfl
theorem A9(LH:sL):PySem.Challenge.rw_nt0389_01.Holds:=Mine.Head.head (GZ LH)
end Mine
end
section
namespace Mine
open PySem
inductive An where
 | o (o:af)
 | v (v:V)
 | l (l:List V)
 | r (v:V) (Z:St)
 | b (b:Bool)
 | y (fl:Fl) (m:Ms) (Z:St)
 | c (v:V) (Z:St)
 | x (v:V) (Z:St)
 | go
 | gb
 | n
abbrev Tp:=List An×Prop
def vy(a b:Prop):Prop:=a/\b
theorem Pn{a:Prop}(h:a):vy True a:=⟨trivial,h⟩
theorem vy.n{a b c:Prop}(h:vy a b)(k:c):vy (vy a b) c:=⟨h,k⟩
abbrev Wk(α:Type):=Tp->Option (α×Tp)
def H{α:Type}(w:Wk α)(x:Option α):Prop:=∀s a s',w s=some (a,s')->s'.2->s.2/\x=some a
section
variable{α β γ:Type}
def bd(w:Wk α)(f:α->Wk β):Wk β:=λs=>dc (w s) f
def fQ(w:Wk (α×γ))(f:α->γ->Wk β):Wk β:=bd w λp=>f p.1 p.2
def fl:Wk α:=λ_=>.none
def lf(x:Option α):Wk α:=λs=>bC x λa=>some (a,s)
def ob(p:Prop)(a:α):Wk α:=λs=>some (a,(s.1,vy s.2 p))
noncomputable def sO(a:An):Option af:=An.casesOn a some (λ_=>.none) (λ_=>.none) (λ_ _=>.none) (λ_=>.none) (λ_ _ _=>.none) (λ_ _=>.none) (λ_ _=>.none) .none .none .none
noncomputable def rd(Z:St)(k:Nat):Wk af:=λs=>List.casesOn s.1 .none λa t=>bC (sO a) λob=>some (ob,(t,vy s.2 (Z.f k=ob)))
noncomputable def hk(q:An->Option α)(x:Option α)(w:Wk α):Wk α:=λs=>List.casesOn s.1 (w s) λa t=>Option.casesOn (q a) (w s) λv=>some (v,(t,vy s.2 (x=some v)))
noncomputable def sk(q:An->Bool)(w:Wk α):Wk α:=λs=>List.casesOn s.1 (w s) λa t=>bif q a then w (t,s.2) else w s
noncomputable def j0(x:Option Bool):Wk Bool:=hk (λa=>An.casesOn a (λ_=>.none) (λ_=>.none) (λ_=>.none) (λ_ _=>.none) some (λ_ _ _=>.none) (λ_ _=>.none) (λ_ _=>.none) .none .none .none) x (sk (λa=>An.casesOn a (λ_=>false) (λ_=>false) (λ_=>false) (λ_ _=>false) (λ_=>false) (λ_ _ _=>false) (λ_ _=>false) (λ_ _=>false) false true false) (lf x))
noncomputable def E8(x:Option V):Wk V:=hk (λa=>An.casesOn a (λ_=>.none) some (λ_=>.none) (λ_ _=>.none) (λ_=>.none) (λ_ _ _=>.none) (λ_ _=>.none) (λ_ _=>.none) .none .none .none) x (lf x)
noncomputable def Np(x:Option (List V)):Wk (List V):=hk (λa=>An.casesOn a (λ_=>.none) (λ_=>.none) some (λ_ _=>.none) (λ_=>.none) (λ_ _ _=>.none) (λ_ _=>.none) (λ_ _=>.none) .none .none .none) x (lf x)
noncomputable def qT(x:R):Wk (V×St):=hk (λa=>An.casesOn a (λ_=>.none) (λ_=>.none) (λ_=>.none) (λv Z=>some (v,Z)) (λ_=>.none) (λ_ _ _=>.none) (λ_ _=>.none) (λ_ _=>.none) .none .none .none) x (lf x)
noncomputable def Ur(x:R)(w:Wk (V×St)):Wk (V×St):=hk (λa=>An.casesOn a (λ_=>.none) (λ_=>.none) (λ_=>.none) (λ_ _=>.none) (λ_=>.none) (λ_ _ _=>.none) (λv Z=>some (v,Z)) (λ_ _=>.none) .none .none .none) x (sk (λa=>An.casesOn a (λ_=>false) (λ_=>false) (λ_=>false) (λ_ _=>false) (λ_=>false) (λ_ _ _=>false) (λ_ _=>false) (λ_ _=>false) true false false) w)
noncomputable def Us(x:RX)(w:Wk (Rs×St)):Wk (Rs×St):=hk (λa=>An.casesOn a (λ_=>.none) (λ_=>.none) (λ_=>.none) (λ_ _=>.none) (λ_=>.none) (λ_ _ _=>.none) (λ_ _=>.none) (λv Z=>some (.val v,Z)) .none .none .none) x w
noncomputable def Se(x:Option (Fl×Ms×St))(w:Wk (Fl×Ms×St)):Wk (Fl×Ms×St):=hk (λa=>An.casesOn a (λ_=>.none) (λ_=>.none) (λ_=>.none) (λ_ _=>.none) (λ_=>.none) (λc m Z=>some (c,m,Z)) (λ_ _=>.none) (λ_ _=>.none) .none .none .none) x w
def wo(x:Option α)(f:α->Wk β):Wk β:=Option.casesOn x fl f
def DC(l:List α)(w:Wk β):Wk β:=List.casesOn l w λ_ _=>fl
def zc(l:List α)(f:α->Wk β):Wk β:=List.casesOn l fl λa t=>DC t (f a)
def wI(v:V)(f:Int->Wk β):Wk β:=λs=>jL v λi=>f i s
def Po(v:V)(f:Bool->Wk β):Wk β:=λs=>C0 v λi=>f i s
def wT(v:V)(f:List V->Wk β):Wk β:=λs=>zQ v λi=>f i s
def wG(v:V)(f:Str->Wk β):Wk β:=λs=>FY v λi=>f i s
def wR(v:V)(f:Nat->Wk β):Wk β:=λs=>qX v λi=>f i s
def wN(v:V)(w:Wk β):Wk β:=λs=>CT v (w s)
def zd(v:V)(f:Nat->Wk β)(w:Wk β):Wk β:=Option.casesOn (qX v some) w f
def rL(Z:St)(k:Nat)(f:List V->Wk β):Wk β:=bd (rd Z k) λob s=>oL ob λl=>f l s
variable{w w':Wk α}{x y:Option α}
theorem H.fl:H Mine.fl x:=λ_ _ _=>nN
theorem H.lf:H (Mine.lf x) x:=λs _ _ e p=>uO e λb ex e=>dq (P:=λa s'=>s'.2->s.2/\x=some a) e (λp=>⟨p,ex⟩) p
theorem H.ob{p:Prop}{a:α}(h:p->x=some a):H (Mine.ob p a) x:=λs _ _ e p=>dq (P:=λa s'=>(_->x=some a)->s'.2->s.2/\x=some a) e (λh q=>⟨q.1,h q.2⟩) (dq (P:=λb _=>_->x=some b) e h) p
theorem H.gen{f:α->Wk β}{F:Option α->Option β}(h:H w x)(k:∀a,H (f a) (F (some a))):H (bd w f) (F x):=λs b s' e p=>uP e λa s1 e1 e=>have z:=k a s1 b s' e p;have y:=h s a s1 e1 z.1;⟨y.1,(congrArg F y.2).trans z.2⟩
theorem H.b1{f:α->Wk β}{F:α->Option β}(h:H w x)(k:∀a,H (f a) (F a)):H (bd w f) (bC x F):=H.gen (F:=λx=>bC x F) h k
theorem H.b2{w:Wk (α×γ)}{x:Option (α×γ)}{f:α->γ->Wk β}{F:α->γ->Option β}(h:H w x)(k:∀a c,H (f a c) (F a c)):H (fQ w f) (dc x F):=H.gen (F:=λx=>dc x F) h λp=>k p.1 p.2
theorem H.hk{q:An->Option α}(h:H w x):H (Mine.hk q x w) x:=λs b s' e p=>by
 obtain ⟨t,P⟩:=s
 revert e
 induction t using List.casesOn with
 | nil=>exact λe=>h _ _ _ e p
 | cons a t=>exact λe=>uZ e (λ_ e=>h _ _ _ e p) λv _ e=>dq (P:=λb s'=>s'.2->P/\x=some b) e id p
theorem H.sk{q:An->Bool}(h:H w x):H (Mine.sk q w) x:=λs b s' e p=>by
 obtain ⟨t,P⟩:=s
 revert e
 induction t using List.casesOn with
 | nil=>exact λe=>h _ _ _ e p
 | cons a t=>exact λe=>uC e (λ_ e=>h (t,P) _ _ e p) λ_ e=>h _ _ _ e p
theorem H.E8{x:Option V}:H (E8 x) x:=H.hk H.lf
theorem H.j0{x:Option Bool}:H (j0 x) x:=H.hk (H.sk H.lf)
theorem H.Np{x:Option (List V)}:H (Np x) x:=H.hk H.lf
theorem H.qT{x:R}:H (qT x) x:=H.hk H.lf
theorem H.rd{Z:St}{k:Nat}:H (rd Z k) (some (Z.f k)):=λs b s' e p=>by
 obtain ⟨t,P⟩:=s
 revert e
 induction t using List.casesOn with
 | nil=>exact nN
 | cons a t=>exact λe=>uO e λv _ e=>dq (P:=λb s'=>s'.2->P/\some (Z.f k)=some b) e (λq=>⟨q.1,congrArg some q.2⟩) p
theorem H.G0{Z:St}{k:Nat}{f:af->Wk β}{F:af->Option β}(h:∀o,H (f o) (F o)):H (bd (Mine.rd Z k) f) (F (Z.f k)):=H.gen (F:=λx=>bC x F) H.rd h
theorem H.rL{Z:St}{k:Nat}{f:List V->Wk β}{F:List V->Option β}(h:∀l,H (f l) (F l)):H (Mine.rL Z k f) (oL (Z.f k) F):=H.G0 (F:=λob=>oL ob F) λo=>by
 induction o using af.casesOn<;>first | exact h _ | exact H.fl
theorem H.bif{b:Bool}(h:H w x)(k:H w' y):H (bif b then w else w') (bif b then x else y):=by
 induction b using Bool.casesOn<;>first | exact h | exact k
theorem H.ite{c:Prop}[d:Decidable c](h:H w x)(k:H w' y):H (bif decide c then w else w') (if c then x else y):=by
 induction d using Decidable.casesOn<;>first | exact h | exact k
theorem H.K4{b:Bool}(h:H w x):H (bif b then w else Mine.fl) (if b=true then x else none):=by
 induction b using Bool.casesOn<;>first | exact h | exact H.fl
theorem H.o{x:Option γ}{f:γ->Wk β}{F:γ->Option β}(h:∀a,H (f a) (F a)):H (Mine.wo x f) (bC x F):=by
 induction x using Option.casesOn<;>first | exact h _ | exact H.fl
theorem H.opt{o:Option γ}{f:γ->Wk α}{F:γ->Option α}(h:H w x)(k:∀a,H (f a) (F a)):H (Option.casesOn o w f) (Option.casesOn o x F):=by
 induction o using Option.casesOn<;>first | exact h | exact k _
theorem H.li{l:List γ}{f:γ->List γ->Wk α}{F:γ->List γ->Option α}(h:H w x)(k:∀a t,H (f a t) (F a t)):H (List.casesOn l w f) (List.casesOn l x F):=by
 induction l using List.casesOn<;>first | exact h | exact k _ _
theorem H.l0{l:List γ}(h:H w x):H (DC l w) (Mine.l0 l x):=H.li h λ_ _=>H.fl
theorem H.l1{l:List γ}{f:γ->Wk α}{F:γ->Option α}(h:∀a,H (f a) (F a)):H (zc l f) (Mine.l1 l F):=H.li H.fl λa _=>H.l0 (h a)
section
variable{v:V}
theorem H.ag{f:Int->Wk β}{F:Int->Option β}(h:∀a,H (f a) (F a)):H (wI v f) (jL v F):=by
 induction v using V.casesOn<;>first | exact h _ | exact H.fl
theorem H.B{f:Bool->Wk β}{F:Bool->Option β}(h:∀a,H (f a) (F a)):H (Po v f) (C0 v F):=by
 induction v using V.casesOn<;>first | exact h _ | exact H.fl
theorem H.T{f:List V->Wk β}{F:List V->Option β}(h:∀a,H (f a) (F a)):H (wT v f) (zQ v F):=by
 induction v using V.casesOn<;>first | exact h _ | exact H.fl
theorem H.aj{f:Str->Wk β}{F:Str->Option β}(h:∀a,H (f a) (F a)):H (wG v f) (FY v F):=by
 induction v using V.casesOn<;>first | exact h _ | exact H.fl
theorem H.R{f:Nat->Wk β}{F:Nat->Option β}(h:∀a,H (f a) (F a)):H (wR v f) (qX v F):=by
 induction v using V.casesOn<;>first | exact h _ | exact H.fl
theorem H.N(h:H w x):H (wN v w) (CT v x):=by
 induction v using V.casesOn<;>first | exact h | exact H.fl
theorem H.Re{f:Nat->Wk α}(h:∀k,v=.ref k->H (f k) x)(G:H w x):H (zd v f w) x:=by
 induction v using V.casesOn<;>first | exact h _ rfl | exact G
end
end
def Sf(m:Ms)(x:Str):Prop:=aI m x≠some .qQ
noncomputable def Ba(m:Ms)(x:Str)(v:V):Wk Ms:=λs=>List.casesOn s.1 (lf (setName m x v) s) λa t=>bif An.casesOn a (λ_=>false) (λ_=>false) (λ_=>false) (λ_ _=>false) (λ_=>false) (λ_ _ _=>false) (λ_ _=>false) (λ_ _=>false) false false true then (bif decide (x=br) then .none else bif m.any (λp=>decide (x=p.1)) then some (bA m x v,(t,vy s.2 (Sf m x))) else .none) else lf (setName m x v) s
theorem Bc{x:Str}{m:Ms}:m.any (λp=>decide (x=p.1))=true->∃v,aI m x=some v:=by
 induction m with
 | nil=>exact bF
 | cons p m ih=>exact λe=>dv (P:=λo=>∃v,o=some v) (λ_=>⟨_,rfl⟩) λq=>ih (by rw [List.any_cons,decide_eq_false q] at e;exact e)
theorem DD{m:Ms}{x:Str}{v:V}(hx:decide (x=br)=false)(h:m.any (λp=>decide (x=p.1))=true)(g:Sf m x):setName m x v=some (bA m x v):=(Bc h).elim λw hw=>by
 unfold setName
 rw [if_neg (of_decide_eq_false hx),hw]
 revert hw
 induction w using V.casesOn<;>first | exact λ_=>rfl | exact λhw=>absurd hw g
theorem oG{m:Ms}{x:Str}{v:V}:H (Ba m x v) (setName m x v):=λs b s' e q=>by
 obtain ⟨t,P⟩:=s
 revert e
 induction t using List.casesOn with
 | nil=>exact λe=>H.lf _ _ _ e q
 | cons a t=>exact λe=>uC e (λ_ e=>uX e λh1 e=>uY e λh2 e=>dq (P:=λb s'=>s'.2->P/\setName m x v=some b) e (λq=>⟨q.1,DD h1 h2 q.2⟩) q) λ_ e=>H.lf _ _ _ e q
noncomputable def Be(B:Expr->V->Ms->Wk Ms)(es:List Expr):List V->Ms->Wk Ms:=List.rec (λI m=>DC I (lf (some m))) (λe _ r I m=>List.casesOn I fl λv I=>bd (B e v m) (r I)) es
noncomputable def w4(n:Nat):Expr->V->Ms->Wk Ms:=Nat.rec (λ_ _ _=>fl) (λ_ r t v m=>(by induction t using Expr.casesOn with | Name x _=>exact Ba m x v | Tuple es _ _=>exact wT v λI=>Be r es I m | _=>exact fl)) n
theorem vz{B:Expr->V->Ms->Wk Ms}{B':Expr->V->Ms->Option Ms}(h:∀e v m,H (B e v m) (B' e v m)){es:List Expr}:∀{I:List V}{m:Ms},H (Be B es I m) (eM B' es I m):=by
 induction es with
 | nil=>exact H.l0 H.lf
 | cons e es ih=>exact H.li H.fl λv I=>H.b1 (h e v _) λm=>ih
theorem j4{n:Nat}:∀{t:Expr}{v:V}{m:Ms},H (w4 n t v m) (dy n t v m):=by
 induction n with
 | zero=>exact H.fl
 | succ n ih=>
  intro t v m
  induction t using Expr.casesOn with
  | Name x _=>exact oG
  | Tuple es _ _=>exact H.T λI=>vz λ_ _ _=>ih
  | _=>exact H.fl
section
variable{Z:St}
def E9(Z:St)(o:V)(x:Str):Wk V:=wR o λk=>bd (rd Z k) λob=>E8 (qZ ob x)
theorem ze{o:V}{x:Str}:H (E9 Z o x) (wh Z o x):=H.R λk=>H.G0 (F:=λob=>qZ ob x) λ_=>H.E8
def jl(Z:St)(o:V)(x:Str)(v:V):Wk St:=wR o λk=>bd (rd Z k) λob=>lf (lN Z k x v ob)
theorem gh{o:V}{x:Str}{v:V}:H (jl Z o x v) (gJ Z o x v):=H.R λk=>H.G0 (F:=lN Z k x v) λ_=>H.lf
noncomputable def sN(Z:St)(o i v:V):Wk St:=wR o λk=>wI i λi=>bd (rd Z k) λo=>af.casesOn o (λl=>ob (0<=i/\i<l.length) (Z.put k (.lst (l.set i.toNat v)))) (λl=>ob (l.length<4096) (Z.put k (.bO (bA l i v)))) (λ_=>fl) (λ_=>fl)
theorem qc{o i v:V}:H (sN Z o i v) (lQ Z o i v):=H.R λk=>H.ag λi=>H.G0 (F:=lO Z k i v) λo=>by
 induction o using af.casesOn<;>first | exact H.fl | exact H.ob λp=>if_pos p
noncomputable def Bf(ob:af)(i:V):Option V:=V.casesOn i .none (λ_=>.none) (λi=>af.casesOn ob (λl=>dB l i) (λl=>aI l i) (λ_=>.none) (λ_=>.none)) (λx=>oS ob λl=>aI l x) (λ_=>.none) (λ_=>.none) (λ_=>.none) (λ_=>.none) (λ_=>.none) .none .none
def Fa(Z:St)(o i:V):Wk V:=zd o (λk=>bd (rd Z k) λob=>E8 (Bf ob i)) (E8 (qY Z o i))
theorem zg{o i:V}:H (Fa Z o i) (qY Z o i):=H.Re (λk ek=>ek▸(by induction i using V.casesOn<;>rfl:Bf (Z.f k) i=qY Z (.ref k) i)▸H.G0 (F:=λob=>Bf ob i) λo=>H.E8) H.E8
noncomputable def Fb(Z:St)(o:V)(lo hi:Option Int):Wk (V×St):=zd o (λk=>rL Z k λl=>bd (Np (dU l lo hi)) λl=>lf (some (V.ref Z.n,Z.alloc (.lst l)))) (lf (zT Z o lo hi))
theorem zh{o:V}{lo hi:Option Int}:H (Fb Z o lo hi) (zT Z o lo hi):=H.Re (λk ek=>ek▸H.rL λl=>H.b1 H.Np λl=>H.lf) H.lf
def K5(Z:St)(o:V)(lo hi:Option V):Wk (V×St):=wo (lM lo) λlo=>wo (lM hi) λhi=>Fb Z o lo hi
theorem Bg{o:V}{lo hi:Option V}:H (K5 Z o lo hi) (C1 Z o lo hi):=H.o λlo=>H.o λhi=>zh
noncomputable def K6(op:Operator)(a b:V)(Z:St):Wk (V×St):=zd a (λi=>wR b λj=>bif isAdd op then rL Z i λl=>rL Z j λr=>ob (l.length+r.length<=aq) (.ref Z.n,Z.alloc (.lst (l++r))) else fl) (qT (ue op a b Z))
theorem Bh{op:Operator}{a b:V}:H (K6 op a b Z) (ue op a b Z):=H.Re (λi ei=>ei▸H.R λj=>H.bif (H.rL λl=>H.rL λr=>H.ob λp=>if_pos p) H.fl) H.qT
noncomputable def DE(x:Str)(k:Nat)(l:List V)(I:List V)(Z:St):Wk (V×St):=bif decide (x="append") then zc I λv=>ob (l.length<aq) (.none,Z.put k (.lst (l++[v]))) else qT (ip x k l I Z)
theorem Bi{x:Str}{k:Nat}{l I:List V}:H (DE x k l I Z) (ip x k l I Z):=by
 by_cases h:x="append"
 ·unfold DE ip
  rw [decide_eq_true h,if_pos h]
  exact H.l1 λv=>H.ob λp=>if_pos p
 ·unfold DE
  rw [decide_eq_false h];exact H.qT
noncomputable def Fc(x:Str)(o:V)(I:List V)(Z:St):Wk (V×St):=zd o (λk=>rL Z k λl=>DE x k l I Z) (lf (oj x o I Z))
theorem zk{x:Str}{o:V}{I:List V}:H (Fc x o I Z) (oj x o I Z):=H.Re (λk ek=>ek▸H.rL λl=>Bi) H.lf
noncomputable def w7(Z:St)(o:V)(x:Str):Wk Bool:=zd o (λk=>bd (rd Z k) λob=>lf (some (iY ob x))) (lf (some (pf Z o x)))
theorem sP{o:V}{x:Str}:H (w7 Z o x) (some (pf Z o x)):=H.Re (λk ek=>ek▸H.G0 (F:=λob=>some (iY ob x)) λ_=>H.lf) H.lf
noncomputable def G2(Z:St)(s:Src)(i:Nat):Wk (Option V):=Src.casesOn s (λk=>rL Z k λl=>lf (some l[i]?)) (λl=>lf (some l[i]?)) (λa b=>lf (some (if a+(i:Int)<b then some (.int (a+(i:Int))) else .none))) (λk=>rL Z k λl=>lf (some ((l[i]?).map λv=>V.tup [.int i,v])))
theorem sQ{s:Src}{i:Nat}:H (G2 Z s i) (s.at Z i):=by
 induction s using Src.casesOn<;>first | exact H.lf | exact H.rL λl=>H.lf
noncomputable def Fd(Z:St)(I:List V):Wk (V×St):=zc I λv=>wR v λk=>rL Z k λl=>lf (some (V.ref Z.n,Z.alloc (.lst l)))
theorem zm{I:List V}:H (Fd Z I) (zV Z I):=H.l1 λv=>H.R λk=>H.rL λl=>H.lf
noncomputable def K8(Z:St)(I:List V):Wk (V×St):=zc I λv=>zd v (λk=>rL Z k λl=>lf (some (.int (l.length:Nat),Z))) (qT (zU Z [v]))
theorem Bj{I:List V}:H (K8 Z I) (zU Z I):=H.l1 (F:=λv=>zU Z [v]) λv=>H.Re (λk ek=>ek▸H.G0 (F:=λob=>bC (oL ob λl=>some l.length) λn=>some (V.int (n:Nat),Z)) λo=>by
 induction o using af.casesOn<;>first | exact H.lf | exact H.fl) H.qT
noncomputable def Ut(t:List An):Option (List (Int×V)×List An):=List.casesOn t .none λa t=>bC (sO a) λo=>af.casesOn o (λ_=>.none) (λl=>some (l,t)) (λ_=>.none) (λ_=>.none)
noncomputable def Pq(t:List An):Option (List V×List An):=List.casesOn t .none λa t=>bC (sO a) λo=>oL o λl=>some (l,t)
noncomputable def G3(Z:St)(n:Bool->Bool)(a:V)(k:Nat)(x:Option Bool):Wk Bool:=λs=>Option.casesOn (Ut s.1) (j0 x s) λp=>lf ((EK p.1 a).map n) (p.2,vy s.2 (Z.f k=.bO p.1))
noncomputable def Pr(Z:St)(op:CmpOp)(k j:Nat)(x:Option Bool):Wk Bool:=λs=>Option.casesOn (Pq s.1) (j0 x s) λp=>Option.casesOn (Pq p.2) (j0 x s) λq=>lf (bf Z op (.cl p.1) (.cl q.1)) (q.2,vy (vy s.2 (Z.f k=.lst p.1)) (Z.f j=.lst q.1))
noncomputable def K9(Z:St)(op:CmpOp)(a b:V):Wk Bool:=CmpOp.casesOn op (zd a (λj=>zd b (λk=>Pr Z .Eq j k (bf Z .Eq (.ref j) (.ref k))) (j0 (bf Z .Eq a b))) (j0 (bf Z .Eq a b))) (zd a (λj=>zd b (λk=>Pr Z .NotEq j k (bf Z .NotEq (.ref j) (.ref k))) (j0 (bf Z .NotEq a b))) (j0 (bf Z .NotEq a b))) (j0 (bf Z op a b)) (j0 (bf Z op a b)) (j0 (bf Z op a b)) (j0 (bf Z op a b)) (j0 (bf Z op a b)) (j0 (bf Z op a b)) (zd b (λk=>G3 Z id a k (qR Z a (.ref k))) (j0 (qR Z a b))) (zd b (λk=>G3 Z (!·) a k ((qR Z a (.ref k)).map (!·))) (j0 ((qR Z a b).map (!·))))
theorem qd{k:Nat}{a:V}{l:List (Int×V)}(h:Z.f k=.bO l):qR Z a (.ref k)=EK l a:=by
 show (af.casesOn (Z.f k) (λ_=>inD Z a (.ref k)) (λl=>EK l a) (λ_=>inD Z a (.ref k)) (λ_=>inD Z a (.ref k)):Option Bool)=_
 rw [h]
theorem sR{n:Bool->Bool}{a:V}{k:Nat}{x:Option Bool}(h:∀l,Z.f k=.bO l->x=(EK l a).map n):H (G3 Z n a k x) x:=λs b s' e q=>
 uZ e (λ_ e=>H.j0 s b s' e q) λp _ e=>have z:=H.lf _ b s' e q;⟨z.1.1,(h p.1 z.1.2).trans z.2⟩
theorem kA{k:Nat}{l:List V}(h:Z.f k=.lst l):bw Z deep (.ref k)=bw Z deep (.cl l):=congrArg (λo=>oL o λl=>(de (bw Z 5) l).map PyData.list) h
theorem oH{k j:Nat}{l r:List V}(h:Z.f k=.lst l)(G:Z.f j=.lst r):zL Z (.ref k) (.ref j)=zL Z (.cl l) (.cl r):=by
 unfold zL;rw [kA h,kA G]
theorem w8{op:CmpOp}{k j:Nat}(h:∀{l r:List V},Z.f k=.lst l->Z.f j=.lst r->bf Z op (.ref k) (.ref j)=bf Z op (.cl l) (.cl r)):H (Pr Z op k j (bf Z op (.ref k) (.ref j))) (bf Z op (.ref k) (.ref j)):=λs b s' e q=>
 uZ e (λ_ e=>H.j0 s b s' e q) λp _ e=>uZ e (λ_ e=>H.j0 s b s' e q) λr _ e=>have z:=H.lf _ b s' e q;⟨z.1.1.1,(h z.1.1.2 z.1.2).trans z.2⟩
theorem Bk{op:CmpOp}{a b:V}:H (K9 Z op a b) (bf Z op a b):=by
 induction op using CmpOp.casesOn with
 | In=>exact H.Re (λk ek=>by subst ek;exact sR λl h=>(qd h).trans (congrFun Option.map_id _).symm) H.j0
 | NotIn=>exact H.Re (λk ek=>by subst ek;exact sR λl h=>congrArg (Option.map (!·)) (qd h)) H.j0
 | Eq=>exact H.Re (λj ej=>H.Re (λk ek=>by subst ej ek;exact w8 (op:=.Eq) λh G=>oH h G) H.j0) H.j0
 | NotEq=>exact H.Re (λj ej=>H.Re (λk ek=>by subst ej ek;exact w8 (op:=.NotEq) λh G=>congrArg (Option.map (!·)) (oH h G)) H.j0) H.j0
 | _=>exact H.j0
noncomputable def Sg{α:Type}(Z:St)(l:List V)(t:List An)(x:Option α)(k:Nat):Wk α:=λs=>lf x (t,vy s.2 (Z.f k=.lst l))
theorem DF{α:Type}{l:List V}{t:List An}{F:List V->Option α}{k:Nat}:H (Sg Z l t (F l) k) (oL (Z.f k) F):=λs b s' e q=>have z:=H.lf _ b s' e q;⟨z.1.1,(congrArg (λo=>oL o F) z.1.2).trans z.2⟩
noncomputable def La(Z:St)(I:List V):Wk (V×St):=λs=>Option.casesOn (Pq s.1) (qT (zW Z I) s) λp=>zc I (λv=>wR v (Sg Z p.1 p.2 (bC (boolsOf p.1) λbs=>some (.bool (bs.all id),Z)))) s
theorem Bl{I:List V}:H (La Z I) (zW Z I):=λs b s' e q=>uZ e (λ_ e=>H.qT s b s' e q) λp _ e=>(H.l1 λv=>H.R λk=>DF (F:=λl=>bC (boolsOf l) λbs=>some (V.bool (bs.all id),Z)):H _ (zW Z I)) s b s' e q
end
section
section
variable{β:Type}
def ig(w:Wk (Rs×St))(f:V->St->Wk β):Wk β:=fQ w λr Z=>Rs.casesOn r (λv=>f v Z) (λ_=>fl)
theorem H.bv{w:Wk (Rs×St)}{x:RX}{f:V->St->Wk β}{F:V->St->Option β}(h:H w x)(k:∀v Z,H (f v Z) (F v Z)):H (ig w f) (Mine.bv x F):=H.b2 h λr Z=>by
 induction r using Rs.casesOn<;>first | exact k _ _ | exact H.fl
theorem H.slice{i:Expr}{w:Wk β}{x:Option β}{f:Option Expr->Option Expr->Wk β}{F:Option Expr->Option Expr->Option β}(h:H w x)(k:∀a b,H (f a b) (F a b)):H (iw i w f) (iw i x F):=by
 induction i using Expr.casesOn with
 | Slice lo hi st _=>induction st using Option.casesOn<;>first | exact h | exact k _ _
 | _=>exact h
end
def Jz(w:Wk (V×St)):Wk (Rs×St):=fQ w λv Z=>lf (val v Z)
theorem jn{w:Wk (V×St)}{x:R}(h:H w x):H (Jz w) (ye x):=H.b2 h λ_ _=>H.lf
def vA(w:Wk (Rs×St)):Wk (Src×St):=bd w λp=>lf (aG (some p))
theorem mP{w:Wk (Rs×St)}{x:RX}(h:H w x):H (vA w) (aG x):=H.gen (F:=aG) h λp=>H.lf
section
variable(aj:Str->V)(ak:Str->List V->St->R)(wC:Str->List V->St->Wk (V×St))
variable(X:Expr->Ms->St->Wk (Rs×St))(T:Expr->Ms->St->Wk (Bool×St))
noncomputable def G4(m:Ms)(es:List Expr):St->Wk (Bool×St):=List.rec (λZ=>lf (some (true,Z))) (λe _ r Z=>fQ (T e m Z) λb Z=>bif b then r Z else lf (some (false,Z))) es
noncomputable def qe(cb:Expr)(ifs:List Expr)(elt:Expr)(m:Ms)(v:V)(Z:St):Wk (Option V×St):=
 bd (w4 4 cb v m) λm=>fQ (G4 T m ifs Z) λb Z=>bif b then ig (X elt m Z) λx Z=>lf (some (some x,Z)) else lf (some (.none,Z))
noncomputable def Bm(src:Src)(turn:V->St->Wk (Option V×St))(n:Nat):Nat->List V->St->Wk (List V×St):=Nat.rec (λ_ _ _=>fl)
 (λ_ r i acc Z=>bd (G2 Z src i) λo=>Option.casesOn o (lf (some (acc,Z))) λv=>fQ (turn v Z) λx Z=>r (i+1) (Option.casesOn x acc λx=>acc++[x]) Z) n
noncomputable def wB(b:BI)(I:List V)(Z:St):Wk (V×St):=BI.casesOn b (K8 Z I) (Fd Z I) (qT (gI ak b I Z)) (qT (gI ak b I Z)) (qT (gI ak b I Z)) (qT (gI ak b I Z)) (qT (gI ak b I Z)) (qT (gI ak b I Z)) (qT (gI ak b I Z)) (La Z I) (fQ (wC "Unit.__init__" (.ref Z.n::I) (Z.alloc (.ins []))) λv J=>wN v (lf (some (.ref Z.n,J))))
noncomputable def wV(x:Str)(I:List V)(Z:St):Wk (V×St):=Option.casesOn (uf x) (Ur (ak x I Z) (wC x I Z)) λb=>wB ak wC b I Z
noncomputable def wO(e:Option Expr)(m:Ms)(Z:St):Wk (Option V×St):=Option.casesOn e (lf (some (.none,Z))) λe=>ig (X e m Z) λv Z=>lf (some (some v,Z))
noncomputable def Ps(op:BoolOp)(m:Ms)(es:List Expr):St->Wk (Bool×St):=List.rec (λ_=>fl)
 (λe es r Z=>ig (X e m Z) λv Z=>Po v λb=>bif es.isEmpty || lV op b then lf (some (b,Z)) else r Z) es
noncomputable def wTs(op:BoolOp)(m:Ms)(es:List Expr):St->Wk (Bool×St):=List.rec (λZ=>lf (some (op==.And,Z)))
 (λe _ r Z=>fQ (T e m Z) λb Z=>bif lV op b then lf (some (b,Z)) else r Z) es
noncomputable def wCs(m:Ms)(ops:List CmpOp):List Expr->V->St->Wk (Bool×St):=List.rec (λ_ _ _=>fl)
 (λop ops r rs a Z=>List.casesOn rs fl λe rs=>ig (X e m Z) λb Z=>bd (K9 Z op a b) λc=>bif ops.isEmpty then DC rs (lf (some (c,Z))) else bif rs.isEmpty then fl else bif c then r rs b Z else lf (some (false,Z))) ops
noncomputable def wEs(m:Ms)(es:List Expr):St->Wk (List V×St):=List.rec (λZ=>lf (some ([],Z))) (λe _ r Z=>ig (X e m Z) λv Z=>fQ (r Z) λI Z=>lf (some (v::I,Z))) es
noncomputable def wD(m:Ms)(ks:List (Option Expr)):List Expr->St->Wk ((List V×List V)×St):=List.rec (λI Z=>DC I (lf (some (([],[]),Z))))
 (λk _ r I Z=>wo k λk=>List.casesOn I fl λv I=>ig (X k m Z) λkv Z=>ig (X v m Z) λvv Z=>fQ (r I Z) λp Z=>lf (some ((kv::p.1,vv::p.2),Z))) ks
noncomputable def Lb(I:List V)(Z:St):Wk (Rs×St):=List.casesOn I fl λv I=>wI v λa=>List.casesOn I (ob (a<=4096/\a.natAbs<2^60) (.src (.kU 0 a),Z)) λw I=>DC I (wI w λb=>ob (b-a<=4096/\a.natAbs<2^60/\b.natAbs<2^60) (.src (.kU a b),Z))
def Lc(I:List V)(Z:St):Wk (Rs×St):=zc I λv=>wR v λk=>rL Z k λ_=>lf (some (.src (.kW k),Z))
def Ld(r:Rs)(Z:St):Wk (Rs×St):=Rs.casesOn r (λv=>Jz (wB ak wC .list [v] Z)) (λs=>lf (JX Z s))
noncomputable def Fe(x:Str)(args:List Expr)(m:Ms)(Z:St):Wk (Rs×St):=wo (kh aj m x) λv=>wG v λg=>
  bif decide (g="range") then fQ (wEs X m args Z) Lb
  else bif decide (g="enumerate") then fQ (wEs X m args Z) Lc
  else bif decide (g="list") then zc args λa=>fQ (X a m Z) (Ld ak wC)
  else fQ (wEs X m args Z) λI Z=>Jz (wV ak wC g I Z)
noncomputable def oJ(o:Expr)(x:Str)(args:List Expr)(m:Ms)(Z:St):Wk (Rs×St):=ig (X o m Z) λov Z=>bd (w7 Z ov x) λt=>bif t then fQ (wEs X m args Z) λI Z=>Jz (Fc x ov I Z) else fl
noncomputable def oM(f:Expr)(args:List Expr)(pos:Pos)(m:Ms)(Z:St):Wk (Rs×St):=(by induction f using Expr.casesOn with | Attribute o x apos=>exact bif dE o || !(apos.endLine==pos.line) || decide (20<args.length) then fl else oJ X o x args m Z | Name x _=>exact Fe aj ak wC X x args m Z | _=>exact fl)
noncomputable def oN(o i:Expr)(m:Ms)(Z:St):Wk (Rs×St):=ig (X o m Z) λov Z=>ig (X i m Z) λiv Z=>bd (Fa Z ov iv) λv=>lf (val v Z)
noncomputable def sT(o:Expr)(lo hi:Option Expr)(m:Ms)(Z:St):Wk (Rs×St):=ig (X o m Z) λov Z=>fQ (wO X lo m Z) λlo Z=>fQ (wO X hi m Z) λhi Z=>Jz (K5 Z ov lo hi)
noncomputable def Ff(elt:Expr)(scope:Scope)(cb iter:Expr)(ifs:List Expr)(m:Ms)(Z:St):Wk (Rs×St):=fQ (vA (X iter m Z)) λs Z=>bif s.ok cb&&fz scope m&&dM scope 4 cb then fQ (Bm s (qe X T cb ifs elt (cX scope m)) aM 0 [] Z) λI Z=>lf (val (.ref Z.n) (Z.alloc (.lst I))) else fl
noncomputable def Le(gens:List Comprehension)(f:Expr->Expr->List Expr->Wk (Rs×St)):Wk (Rs×St):=zc gens λg=>bif decide (g.is_async=0) then f g.target g.iter g.ifs else fl
noncomputable def Sh(whole:RX)(e:Expr)(m:Ms)(Z:St):Wk (Rs×St):=(by induction e using Expr.casesOn with | Constant c _ _=>exact wo (ud c) λv=>lf (val v Z) | Name x _=>exact wo (kh aj m x) λv=>lf (val v Z) | BoolOp op I _=>exact fQ (Ps X op m I Z) λb Z=>lf (val (.bool b) Z) | BinOp l op r _=>exact ig (X l m Z) λa Z=>ig (X r m Z) λb Z=>Jz (K6 op a b Z) | UnaryOp op x _=>exact ig (X x m Z) λv Z=>lf (NZ op v Z) | IfExp t b o _=>exact fQ (T t m Z) λc Z=>bif c then X b m Z else X o m Z | Dict ks I _=>exact fQ (wD X m ks I Z) λp Z=>wo (ff p.1 p.2) λo=>lf (val (.ref Z.n) (Z.alloc o)) | List es _=>exact fQ (wEs X m es Z) λI Z=>ob (I.length<=aq) (.val (.ref Z.n),Z.alloc (.lst I)) | Tuple es _ _=>exact fQ (wEs X m es Z) λI Z=>lf (if I.length<=aq then val (.tup I) Z else .none) | ListComp elt gens scope _=>exact Us whole (Le gens λcb iter ifs=>Ff X T elt scope cb iter ifs m Z) | Compare l ops rs _=>exact bif lastMarks ops rs then fl else ig (X l m Z) λa Z=>fQ (wCs X m ops rs a Z) λb Z=>lf (val (.bool b) Z) | Call f args ks pos=>exact DC ks (oM aj ak wC X f args pos m Z) | Attribute o x _=>exact bif dE o then fl else ig (X o m Z) λov Z=>bd (E9 Z ov x) λv=>lf (val v Z) | Subscript o i _=>exact iw i (oN X o i m Z) λlo hi=>sT X o lo hi m Z | _=>exact fl)
def b8(e:Expr)(m:Ms)(Z:St):Wk (Bool×St):=ig (X e m Z) λv Z=>Po v λb=>lf (some (b,Z))
noncomputable def Si(e:Expr)(m:Ms)(Z:St):Wk (Bool×St):=Expr.casesOn e (λop I _=>wTs T op m I Z) (λ_ _ _=>b8 X e m Z) (λ_ _ _ _=>b8 X e m Z) (λop x _=>UnaryOp.casesOn op (b8 X e m Z) (fQ (T x m Z) λb Z=>lf (some (!b,Z))) (b8 X e m Z) (b8 X e m Z)) (λ_ _ _ _=>b8 X e m Z) (λ_ _ _ _=>fl) (λ_ _ _=>b8 X e m Z) (λ_ _ _=>b8 X e m Z) (λ_ _ _ _=>b8 X e m Z) (λ_ _ _ _=>b8 X e m Z) (λ_ _ _ _ _=>b8 X e m Z) (λ_ _ _ _=>b8 X e m Z) (λ_ _=>b8 X e m Z) (λ_ _=>b8 X e m Z) (λ_ _=>b8 X e m Z) (λl ops rs _=>bif lastMarks ops rs then fl else ig (X l m Z) λa Z=>wCs X m ops rs a Z) (λ_ _ _ _=>b8 X e m Z) (λ_ _ _ _=>b8 X e m Z) (λ_ _=>b8 X e m Z) (λ_ _ _=>b8 X e m Z) (λ_ _ _=>b8 X e m Z) (λ_ _ _=>b8 X e m Z) (λ_ _=>b8 X e m Z) (λ_ _=>b8 X e m Z) (λ_ _=>b8 X e m Z) (λ_ _ _=>b8 X e m Z) (λ_ _ _ _=>b8 X e m Z)
end
noncomputable def Sj(aj:Str->V)(ak:Str->List V->St->R)(wC:Str->List V->St->Wk (V×St))(n:Nat):(Expr->Ms->St->Wk (Rs×St))×(Expr->Ms->St->Wk (Bool×St)):=Nat.rec (λ_ _ _=>fl,λ_ _ _=>fl) (λn r=>(λe m Z=>Sh aj ak wC r.1 r.2 (i8 aj ak (n+1) e m Z) e m Z,Si r.1 r.2)) n
noncomputable abbrev wX(aj:Str->V)(ak:Str->List V->St->R)(wC:Str->List V->St->Wk (V×St))(n:Nat):=(Sj aj ak wC n).1
noncomputable abbrev JA(aj:Str->V)(ak:Str->List V->St->R)(wC:Str->List V->St->Wk (V×St))(n:Nat):=(Sj aj ak wC n).2
section
variable{aj:Str->V}{ak:Str->List V->St->R}{wC:Str->List V->St->Wk (V×St)}
variable{X:Expr->Ms->St->Wk (Rs×St)}{T:Expr->Ms->St->Wk (Bool×St)}{X':Expr->Ms->St->RX}{T':Expr->Ms->St->Option (Bool×St)}{m:Ms}
theorem vB{src:Src}{turn:V->St->Wk (Option V×St)}{sU:V->St->Option (Option V×St)}(h:∀v Z,H (turn v Z) (sU v Z)){n:Nat}:∀{i:Nat}{acc:List V}{Z:St},H (Bm src turn n i acc Z) (cu src sU n i acc Z):=by
 induction n with
 | zero=>exact H.fl
 | succ n ih=>exact λ{i acc Z}=>H.b1 sQ λo=>H.opt H.lf λv=>H.b2 (h v _) λx Z=>ih
theorem Bn{I:List V}{Z:St}:H (Lb I Z) (zZ I Z):=H.li H.fl λv I=>H.ag λa=>H.li (H.ob λp=>if_pos p) λw I=>H.l0 (H.ag λb=>H.ob λp=>if_pos p)
theorem Bo{I:List V}{Z:St}:H (Lc I Z) (z4 I Z):=H.l1 λv=>H.R λk=>H.rL λ_=>H.lf
section
variable(hC:∀x I Z,H (wC x I Z) (ak x I Z))
include hC
theorem Bp{b:BI}{I:List V}{Z:St}:H (wB ak wC b I Z) (gI ak b I Z):=by
 induction b using BI.casesOn with
 | len=>exact Bj
 | list=>exact zm
 | all=>exact Bl
 | unit=>exact (H.b2 (hC _ _ _) λv J=>H.N H.lf:H (fQ (wC "Unit.__init__" (.ref Z.n::I) (Z.alloc (.ins []))) λv J=>wN v (lf (some (V.ref Z.n,J)))) (dc (ak "Unit.__init__" (.ref Z.n::I) (Z.alloc (.ins []))) λv J=>CT v (some (V.ref Z.n,J))))
 | _=>exact H.qT
theorem G5{x:Str}{I:List V}{Z:St}:H (wV ak wC x I Z) (lT ak x I Z):=H.opt (H.hk (H.sk (hC _ _ _))) λb=>Bp hC
theorem Bq{r:Rs}{Z:St}:H (Ld ak wC r Z) (EO ak r Z):=by
 induction r using Rs.casesOn<;>first | exact H.lf | exact jn (Bp hC)
end
section
variable(hT:∀e m Z,H (T e m Z) (T' e m Z))
include hT
theorem Br{es:List Expr}:∀{Z:St},H (G4 T m es Z) (q8 T' m es Z):=by
 induction es with
 | nil=>exact H.lf
 | cons e es ih=>exact λ{Z}=>(H.b2 (hT e m Z) λb Z=>H.bif ih H.lf:H (fQ (T e m Z) λb Z=>bif b then G4 T m es Z else lf (some (false,Z))) (dc (T' e m Z) λb Z=>bif b then q8 T' m es Z else some (false,Z)))
theorem DG{op:BoolOp}{es:List Expr}:∀{Z:St},H (wTs T op m es Z) (yf T' op m es Z):=by
 induction es with
 | nil=>exact H.lf
 | cons e es ih=>exact λ{Z}=>(H.b2 (hT e m Z) λb Z=>H.bif H.lf ih:H (fQ (T e m Z) λb Z=>bif lV op b then lf (some (b,Z)) else wTs T op m es Z) (dc (T' e m Z) λb Z=>bif lV op b then some (b,Z) else yf T' op m es Z))
end
section
variable(hX:∀e m Z,H (X e m Z) (X' e m Z))
include hX
theorem Bs{o:Option Expr}{Z:St}:H (wO X o m Z) (Nc X' o m Z):=H.opt H.lf λe=>H.bv (hX _ _ _) λv Z=>H.lf
theorem DH{op:BoolOp}{es:List Expr}:∀{Z:St},H (Ps X op m es Z) (Jj X' op m es Z):=by
 induction es with
 | nil=>exact H.fl
 | cons e es ih=>exact H.bv (hX _ _ _) λv Z=>H.B λb=>H.bif H.lf ih
theorem xd{ops:List CmpOp}:∀{rs:List Expr}{a:V}{Z:St},H (wCs X m ops rs a Z) (Jk X' m ops rs a Z):=by
 induction ops with
 | nil=>exact H.fl
 | cons op ops ih=>exact H.li H.fl λe rs=>H.bv (hX _ _ _) λb Z=>H.b1 Bk λc=>H.bif (H.l0 H.lf) (H.bif H.fl (H.bif ih H.lf))
theorem hH{es:List Expr}:∀{Z:St},H (wEs X m es Z) (om X' m es Z):=by
 induction es with
 | nil=>exact H.lf
 | cons e es ih=>exact H.bv (hX _ _ _) λv Z=>H.b2 ih λI Z=>H.lf
theorem G6{ks:List (Option Expr)}:∀{I:List Expr}{Z:St},H (wD X m ks I Z) (yg X' m ks I Z):=by
 induction ks with
 | nil=>exact H.l0 H.lf
 | cons k ks ih=>exact H.o λk=>H.li H.fl λv I=>H.bv (hX _ _ _) λkv Z=>H.bv (hX _ _ _) λvv Z=>H.b2 ih λp Z=>H.lf
theorem nU{o:Expr}{x:Str}{args:List Expr}{Z:St}:H (oJ X o x args m Z) (rg X' o x args m Z):=H.bv (hX _ _ _) λov Z=>H.gen (F:=λz=>bC z λt=>if t then dc (om X' m args Z) λI Z=>ye (oj x ov I Z) else .none) sP λt=>H.K4 (H.b2 (hH hX) λI Z=>jn zk)
theorem nV{o i:Expr}{Z:St}:H (oN X o i m Z) (i6 X' o i m Z):=H.bv (hX _ _ _) λov Z=>H.bv (hX _ _ _) λiv Z=>H.b1 zg λv=>H.lf
theorem qf{o:Expr}{lo hi:Option Expr}{Z:St}:H (sT X o lo hi m Z) (kY X' o lo hi m Z):=H.bv (hX _ _ _) λov Z=>H.b2 (Bs hX) λlo Z=>H.b2 (Bs hX) λhi Z=>jn Bg
theorem oO{e:Expr}{Z:St}:H (b8 X e m Z) (bZ X' e m Z):=H.bv (hX _ _ _) λv Z=>H.B λb=>H.lf
section
variable(hC:∀x I Z,H (wC x I Z) (ak x I Z))
include hC
theorem zo{x:Str}{args:List Expr}{Z:St}:H (Fe aj ak wC X x args m Z) (ug aj ak X' x args m Z):=H.o λv=>H.aj λg=>
 H.ite (H.b2 (hH hX) λ_ _=>Bn) (H.ite (H.b2 (hH hX) λ_ _=>Bo) (H.ite (H.l1 λa=>H.b2 (hX _ _ _) λr Z=>Bq hC) (H.b2 (hH hX) λI Z=>jn (G5 hC))))
theorem nY{f:Expr}{args:List Expr}{pos:Pos}{Z:St}:H (oM aj ak wC X f args pos m Z) (i5 aj ak X' f args pos m Z):=by
 induction f using Expr.casesOn with
 | Attribute o x apos=>exact H.bif H.fl (nU hX)
 | Name x _=>exact zo hX hC
 | _=>exact H.fl
end
variable(hT:∀e m Z,H (T e m Z) (T' e m Z))
include hT
theorem mQ{cb:Expr}{ifs:List Expr}{elt:Expr}{v:V}{Z:St}:H (qe X T cb ifs elt m v Z) (compTurn X' T' cb ifs elt m v Z):=H.b1 j4 λm=>H.b2 (Br hT) λb Z=>H.bif (H.bv (hX _ _ _) λx Z=>H.lf) H.lf
theorem DJ{e:Expr}{Z:St}:H (Si X T e m Z) (stepT X' T' e m Z):=by
 induction e using Expr.casesOn with
 | UnaryOp op x _=>induction op using UnaryOp.casesOn with
  | Not=>exact (H.b2 (hT _ _ _) λb Z=>H.lf:H (fQ (T x m Z) λb Z=>lf (some (!b,Z))) (dc (T' x m Z) λb Z=>some (!b,Z)))
  | _=>exact oO hX
 | BoolOp op I _=>exact DG hT
 | Compare l ops rs _=>exact H.bif H.fl (H.bv (hX _ _ _) λa Z=>xd hX)
 | IfExp _ _ _ _=>exact H.fl
 | _=>exact oO hX
theorem zp{elt:Expr}{scope:Scope}{cb iter:Expr}{ifs:List Expr}{Z:St}:H (Ff X T elt scope cb iter ifs m Z) (gK X' T' elt scope cb iter ifs m Z):=H.b2 (mP (hX _ _ _)) λs Z=>
 H.K4 (H.b2 (vB λ_ _=>mQ hX hT) λI Z=>H.lf)
theorem DK(hC:∀x I Z,H (wC x I Z) (ak x I Z)){e:Expr}{Z:St}:H (Sh aj ak wC X T (i7 aj ak X' T' e m Z) e m Z) (i7 aj ak X' T' e m Z):=by
 induction e using Expr.casesOn with
 | Constant c _ _=>exact H.o λv=>H.lf
 | Name x _=>exact H.o λv=>H.lf
 | BoolOp op I _=>exact (H.b2 (DH hX) λb Z=>H.lf:H (fQ (Ps X op m I Z) λb Z=>lf (val (.bool b) Z)) (dc (Jj X' op m I Z) λb Z=>val (.bool b) Z))
 | BinOp l op r _=>exact H.bv (hX _ _ _) λa Z=>H.bv (hX _ _ _) λb Z=>jn Bh
 | UnaryOp op x _=>exact H.bv (hX _ _ _) λv Z=>H.lf
 | IfExp t b o _=>exact (H.b2 (hT _ _ _) λc Z=>H.bif (hX _ _ _) (hX _ _ _):H (fQ (T t m Z) λc Z=>bif c then X b m Z else X o m Z) (dc (T' t m Z) λc Z=>bif c then X' b m Z else X' o m Z))
 | Dict ks I _=>exact (H.b2 (G6 hX) λp Z=>H.o λo=>H.lf:H (fQ (wD X m ks I Z) λp Z=>wo (ff p.1 p.2) λo=>lf (val (.ref Z.n) (Z.alloc o))) (dc (yg X' m ks I Z) λp Z=>bC (ff p.1 p.2) λo=>val (.ref Z.n) (Z.alloc o)))
 | List es _=>exact (H.b2 (hH hX) λI Z=>H.ob λq=>if_pos q:H (fQ (wEs X m es Z) λI Z=>ob (I.length<=aq) (.val (.ref Z.n),Z.alloc (.lst I))) (dc (om X' m es Z) λI Z=>if I.length<=aq then val (.ref Z.n) (Z.alloc (.lst I)) else .none))
 | Tuple es _ _=>exact (H.b2 (hH hX) λI Z=>H.lf:H (fQ (wEs X m es Z) λI Z=>lf (if I.length<=aq then val (.tup I) Z else .none)) (dc (om X' m es Z) λI Z=>if I.length<=aq then val (.tup I) Z else .none))
 | ListComp elt gens scope _=>exact H.hk (H.l1 λg=>H.ite (zp hX hT) H.fl)
 | Compare l ops rs _=>exact H.bif H.fl (H.bv (hX _ _ _) λa Z=>H.b2 (xd hX) λb Z=>H.lf)
 | Call f args ks pos=>exact H.l0 (nY hX hC)
 | Attribute o x _=>exact H.bif H.fl (H.bv (hX _ _ _) λov Z=>H.b1 ze λv=>H.lf)
 | Subscript o i _=>exact H.slice (nV hX) λlo hi=>qf hX
 | _=>exact H.fl
end
theorem hM(hC:∀x I Z,H (wC x I Z) (ak x I Z))(n:Nat):(∀e m Z,H (wX aj ak wC n e m Z) (i8 aj ak n e m Z))/\∀e m Z,H (JA aj ak wC n e m Z) (ki aj ak n e m Z):=by
 induction n with
 | zero=>exact ⟨λ_ _ _=>H.fl,λ_ _ _=>H.fl⟩
 | succ n ih=>exact ⟨λ_ _ _=>DK ih.1 ih.2 hC,λ_ _ _=>DJ ih.1 ih.2⟩
end
end
section
variable(aj:Str->V)(ak:Str->List V->St->R)(wC:Str->List V->St->Wk (V×St))
variable(X:Expr->Ms->St->Wk (Rs×St))(T:Expr->Ms->St->Wk (Bool×St))(Y:Stmt->Ms->St->Wk (Fl×Ms×St))
noncomputable def nZ(ss:List Stmt):Ms->St->Wk (Fl×Ms×St):=List.rec (λm Z=>lf (some (.next,m,Z))) (λs _ r m Z=>bd (Y s m Z) λp=>iu p.1 (r p.2.1 p.2.2) (lf (some p)) λ_=>lf (some p)) ss
def sV(t:Expr)(b:List Stmt)(v:V)(m:Ms)(Z:St):Wk (Fl×Ms×St):=bd (w4 4 t v m) λm=>nZ Y b m Z
noncomputable def Fg(src:Src)(turn:V->Ms->St->Wk (Fl×Ms×St))(n:Nat):Nat->Ms->St->Wk (Fl×Ms×St):=Nat.rec (λ_ _ _=>fl)
 (λ_ r i m Z=>bd (G2 Z src i) λo=>Option.casesOn o (lf (some (.next,m,Z))) λv=>bd (turn v m Z) λp=>iu p.1 (r (i+1) p.2.1 p.2.2) (lf (some (.next,p.2))) λ_=>lf (some p)) n
noncomputable def vC(test:Ms->St->Wk (Bool×St))(body:Ms->St->Wk (Fl×Ms×St))(n:Nat):Ms->St->Wk (Fl×Ms×St):=Nat.rec (λ_ _=>fl)
 (λ_ r m Z=>fQ (test m Z) λc Z=>bif c then bd (body m Z) λp=>iu p.1 (r p.2.1 p.2.2) (lf (some (.next,p.2))) λ_=>lf (some p) else lf (some (.next,m,Z))) n
noncomputable def Bt(i j:Nat)(p:Fl×Ms×St):Wk (Fl×Ms×St):=iu p.1 (rL p.2.2 i λl=>zc l λ_=>rL p.2.2 j λ_=>lf (some (.next,p.2))) (lf (some (.next,p.2))) λ_=>lf (some p)
noncomputable def Lf(t:Expr)(b:List Stmt)(i j:Nat)(m:Ms)(Z:St):Wk (Fl×Ms×St):=rL Z i λl=>zc l λx=>rL Z j λr=>zc r λy=>bif isTup t then bd (bd (sV Y t b (.tup [x,y]) m Z) (Bt i j)) λr=>ob (i≠j) r else fl
noncomputable def Lg(q:Expr×Str×Expr×Str)(v w:V)(m:Ms)(Z:St):Wk (Fl×Ms×St):=
 ig (X q.1 m Z) λov Z=>bd (jl Z ov q.2.1 v) λZ=>ig (X q.2.2.1 m Z) λow Z=>bd (jl Z ow q.2.2.2 w) λZ=>lf (some (.next,m,Z))
noncomputable def DL(es:List Expr)(k:Nat)(p:Pos)(e:Expr)(m:Ms)(Z:St):Wk (Fl×Ms×St):=Option.casesOn (F5 es)
 (bif iZ e then ig (X e m Z) λv Z=>bd (w4 4 (.Tuple es k p) v m) λm=>lf (some (.next,m,Z)) else fl)
 λq=>ig (X e m Z) λu Z=>wT u λl=>List.casesOn l fl λv l=>zc l λw=>Lg X q v w m Z
noncomputable def Lh(t e:Expr)(m:Ms)(Z:St):Wk (Fl×Ms×St):=(by induction t using Expr.casesOn with | Subscript o i _=>exact ig (X e m Z) λv Z=>ig (X o m Z) λov Z=>ig (X i m Z) λiv Z=>bd (sN Z ov iv v) λZ=>lf (some (.next,m,Z)) | Name x _=>exact ig (X e m Z) λv Z=>bd (Ba m x v) λm=>lf (some (.next,m,Z)) | Attribute o x _=>exact ig (X e m Z) λv Z=>ig (X o m Z) λov Z=>bd (jl Z ov x v) λZ=>lf (some (.next,m,Z)) | Tuple es k p=>exact DL X es k p e m Z | _=>exact fl)
noncomputable def xe(t:Expr)(p:Expr×Expr)(b:List Stmt)(m:Ms)(Z:St):Wk (Fl×Ms×St):=bif wi aj m then ig (X p.1 m Z) λv Z=>wR v λi=>ig (X p.2 m Z) λw Z=>wR w λj=>Lf Y t b i j m Z else fl
noncomputable def xg(t e:Expr)(b:List Stmt)(m:Ms)(Z:St):Wk (Fl×Ms×St):=fQ (vA (X e m Z)) λs Z=>bif s.ok t then Fg s (sV Y t b) aM 0 m Z else fl
noncomputable def Sk(whole:Option (Fl×Ms×St))(s:Stmt)(m:Ms)(Z:St):Wk (Fl×Ms×St):=(by induction s using Stmt.casesOn with | Assign ts e _=>exact zc ts λt=>Lh X t e m Z | Expr e _=>exact ig (X e m Z) λv Z=>wN v (lf (some (.next,m,Z))) | Return e _=>exact wo e λe=>ig (X e m Z) λv Z=>lf (some (.ret v,m,Z)) | If t b o _=>exact fQ (T t m Z) λc Z=>bif c then nZ Y b m Z else nZ Y o m Z | While t b o _=>exact Se whole (DC o (vC (T t) (nZ Y b) aM m Z)) | For t e b o _=>exact Se whole (DC o (Option.casesOn (hB e) (xg X Y t e b m Z) λp=>xe aj X Y t p b m Z)) | Break _=>exact lf (some (.brk,m,Z)) | _=>exact fl)
end
noncomputable def wY(aj:Str->V)(ak:Str->List V->St->R)(wC:Str->List V->St->Wk (V×St))(n:Nat):Stmt->Ms->St->Wk (Fl×Ms×St):=Nat.rec (λ_ _ _=>fl) (λn r s m Z=>Sk aj (wX aj ak wC n) (JA aj ak wC n) r (cI aj ak (n+1) s m Z) s m Z) n
def Pu(p:Fl×Ms×St):Wk (V×St):=lf (rh p)
noncomputable def wF(aj:Str->V)(F:Str->Option Fn)(d:Nat):Str->List V->St->Wk (V×St):=Nat.rec (λ_ _ _=>fl)
 (λd r x I Z=>wo (F x) λf=>bif decide (f.params.length=I.length) then bd (nZ (wY aj (fh aj F d) r fg) f.body (d9 f I) Z) Pu else fl) d
section
variable{aj:Str->V}{ak:Str->List V->St->R}{wC:Str->List V->St->Wk (V×St)}
variable{X:Expr->Ms->St->Wk (Rs×St)}{T:Expr->Ms->St->Wk (Bool×St)}{X':Expr->Ms->St->RX}{T':Expr->Ms->St->Option (Bool×St)}
variable{Y:Stmt->Ms->St->Wk (Fl×Ms×St)}{Y':Stmt->Ms->St->Option (Fl×Ms×St)}
theorem H.iu{α:Type}{c:Fl}{w w':Wk α}{f:V->Wk α}{x x':Option α}{F:V->Option α}(h:H w x)(G:H w' x')(k:∀v,H (f v) (F v)):H (Mine.iu c w w' f) (Mine.iu c x x' F):=by
 induction c using Fl.casesOn<;>first | exact h | exact G | exact k _
theorem zr{src:Src}{turn:V->Ms->St->Wk (Fl×Ms×St)}{sU:V->Ms->St->Option (Fl×Ms×St)}(h:∀v m Z,H (turn v m Z) (sU v m Z)){n:Nat}:∀{i:Nat}{m:Ms}{Z:St},H (Fg src turn n i m Z) (cK src sU n i m Z):=by
 induction n with
 | zero=>exact H.fl
 | succ n ih=>exact H.b1 sQ λo=>H.opt H.lf λv=>H.b1 (h _ _ _) λp=>H.iu ih H.lf λ_=>H.lf
theorem vD{test:Ms->St->Wk (Bool×St)}{body:Ms->St->Wk (Fl×Ms×St)}{xh:Ms->St->Option (Bool×St)}{xi:Ms->St->Option (Fl×Ms×St)}(ht:∀m Z,H (test m Z) (xh m Z))(hb:∀m Z,H (body m Z) (xi m Z))
  {n:Nat}:∀{m:Ms}{Z:St},H (vC test body n m Z) (dn xh xi n m Z):=by
 induction n with
 | zero=>exact H.fl
 | succ n ih=>exact λ{m Z}=>(H.b2 (ht _ _) λc Z=>H.bif (H.b1 (hb _ _) λp=>H.iu ih H.lf λ_=>H.lf) H.lf:
   H (fQ (test m Z) λc Z=>bif c then bd (body m Z) λp=>iu p.1 (vC test body n p.2.1 p.2.2) (lf (some (.next,p.2))) λ_=>lf (some p) else lf (some (.next,m,Z)))
    (dc (xh m Z) λc Z=>bif c then bC (xi m Z) λp=>iu p.1 (dn xh xi n p.2.1 p.2.2) (some (.next,p.2)) λ_=>some p else some (.next,m,Z)))
theorem vE{i j:Nat}{p:Fl×Ms×St}:H (Bt i j p) (px i j p):=H.iu (H.rL λl=>H.l1 λ_=>H.rL λ_=>H.lf) H.lf λ_=>H.lf
section
variable(hY:∀s m Z,H (Y s m Z) (Y' s m Z))
include hY
theorem fK{ss:List Stmt}:∀{m:Ms}{Z:St},H (nZ Y ss m Z) (fG Y' ss m Z):=by
 induction ss with
 | nil=>exact H.lf
 | cons s ss ih=>exact H.b1 (hY _ _ _) λp=>H.iu ih H.lf λ_=>H.lf
theorem j5{t:Expr}{b:List Stmt}{v:V}{m:Ms}{Z:St}:H (sV Y t b v m Z) (forTurn Y' t b v m Z):=H.b1 j4 λm=>fK hY
theorem Bu{t:Expr}{b:List Stmt}{i j:Nat}{m:Ms}{Z:St}:H (Lf Y t b i j m Z) (uh Y' t b i j m Z):=H.rL λl=>H.l1 λx=>H.rL λr=>H.l1 λy=>by
 cases isTup t with
 | false=>exact H.fl
 | true=>exact H.gen (F:=λz=>if i≠j/\true=true then z else .none) (H.b1 (j5 hY) λp=>vE) λr=>H.ob λq=>if_pos ⟨q,rfl⟩
variable(hX:∀e m Z,H (X e m Z) (X' e m Z))
include hX
omit hY in
theorem Bv{q:Expr×Str×Expr×Str}{v w:V}{m:Ms}{Z:St}:H (Lg X q v w m Z) (pj X' q v w m Z):=
 H.bv (hX _ _ _) λov Z=>H.b1 gh λZ=>H.bv (hX _ _ _) λow Z=>H.b1 gh λZ=>H.lf
omit hY in
theorem Bw{t e:Expr}{m:Ms}{Z:St}:H (Lh X t e m Z) (asg X' t e m Z):=by
 induction t using Expr.casesOn with
 | Subscript o i _=>exact H.bv (hX _ _ _) λv Z=>H.bv (hX _ _ _) λov Z=>H.bv (hX _ _ _) λiv Z=>H.b1 qc λZ=>H.lf
 | Name x _=>exact H.bv (hX _ _ _) λv Z=>H.b1 oG λm=>H.lf
 | Attribute o x _=>exact H.bv (hX _ _ _) λv Z=>H.bv (hX _ _ _) λov Z=>H.b1 gh λZ=>H.lf
 | Tuple es k p=>exact H.opt (H.K4 (H.bv (hX _ _ _) λv Z=>H.b1 j4 λm=>H.lf)) λq=>H.bv (hX _ _ _) λu Z=>H.T λl=>H.li H.fl λv l=>H.l1 λw=>Bv hX
 | _=>exact H.fl
theorem sW{t:Expr}{p:Expr×Expr}{b:List Stmt}{m:Ms}{Z:St}:H (xe aj X Y t p b m Z) (jN aj X' Y' t p b m Z):=H.K4 (H.bv (hX _ _ _) λv Z=>H.R λi=>H.bv (hX _ _ _) λw Z=>H.R λj=>Bu hY)
theorem sX{t e:Expr}{b:List Stmt}{m:Ms}{Z:St}:H (xg X Y t e b m Z) (lX X' Y' t e b m Z):=H.b2 (mP (hX _ _ _)) λs Z=>H.K4 (zr λ_ _ _=>j5 hY)
variable(hT:∀e m Z,H (T e m Z) (T' e m Z))
include hT
theorem DM{s:Stmt}{m:Ms}{Z:St}:H (Sk aj X T Y (wj aj X' T' Y' s m Z) s m Z) (wj aj X' T' Y' s m Z):=by
 induction s using Stmt.casesOn with
 | Assign ts e _=>exact H.l1 λt=>Bw hX
 | Expr e _=>exact H.bv (hX _ _ _) λv Z=>H.N H.lf
 | Return e _=>exact H.o λe=>H.bv (hX _ _ _) λv Z=>H.lf
 | If t b o _=>exact (H.b2 (hT _ _ _) λc Z=>H.bif (fK hY) (fK hY):H (fQ (T t m Z) λc Z=>bif c then nZ Y b m Z else nZ Y o m Z) (dc (T' t m Z) λc Z=>bif c then fG Y' b m Z else fG Y' o m Z))
 | While t b o _=>exact H.hk (H.l0 (vD (hT _) λ_ _=>fK hY))
 | For t e b o _=>exact H.hk (H.l0 (H.opt (sX hY hX) λp=>sW hY hX))
 | Break _=>exact H.lf
 | _=>exact H.fl
end
theorem qg(hC:∀x I Z,H (wC x I Z) (ak x I Z))(n:Nat):∀s m Z,H (wY aj ak wC n s m Z) (cI aj ak n s m Z):=by
 induction n with
 | zero=>exact λ_ _ _=>H.fl
 | succ n ih=>exact λ_ _ _=>DM ih (hM hC n).1 (hM hC n).2
theorem gV{F:Str->Option Fn}(d:Nat):∀x I Z,H (wF aj F d x I Z) (fh aj F d x I Z):=by
 induction d with
 | zero=>exact λ_ _ _=>H.fl
 | succ d ih=>exact λx I Z=>H.o λf=>H.ite (H.b1 (fK (qg ih fg)) λp=>H.lf) H.fl
end
abbrev cL(d:Nat):Str->List V->St->R:=fh gL fL d
abbrev wL(d:Nat):Str->List V->St->Wk (V×St):=wF gL fL d
section
variable{d n:Nat}{m m':Ms}{Z J:St}{c:Fl}{P:Prop}(p:P)(t:List An)
include p
theorem Sm{x:Str}{I:List V}{v:V}(e:wL d x I Z ⟨t,True⟩=some ((v,J),⟨[],P⟩)):run d x I Z=some (v,J):=(gV d x I Z _ _ _ e p).2
theorem Uu{ss:List Stmt}(e:nZ (wY gL (cL d) (wL d) n) ss m Z ⟨t,True⟩=some ((c,m',J),⟨[],P⟩)):fG (cI gL (cL d) n) ss m Z=some (c,m',J):=(fK (qg (gV d) n) _ _ _ e p).2
theorem Uv{e:Expr}{v:Rs}(h:wX gL (cL d) (wL d) n e m Z ⟨t,True⟩=some ((v,J),⟨[],P⟩)):i8 gL (cL d) n e m Z=some (v,J):=((hM (gV d) n).1 e m Z _ _ _ h p).2
theorem Uw{b:List Stmt}{v:V}{g:Expr}(e:sV (wY gL (cL d) (wL d) n) g b v m Z ⟨t,True⟩=some ((c,m',J),⟨[],P⟩)):forTurn (cI gL (cL d) n) g b v m Z=some (c,m',J):=(j5 (qg (gV d) n) _ _ _ e p).2
end
abbrev At(Z:St)(k:Nat)(o:af):Prop:=Z.f k=o/\k<Z.n
abbrev Ext(Z J:St):Prop:=Z.n<=J.n/\∀a,a<Z.n->J.f a=Z.f a
section
variable{Z ao aF:St}{k j:Nat}{o o':af}
theorem At.e(h:At Z k o):Z.f k=o:=h.1
theorem At.lt(h:At Z k o):k<Z.n:=h.2
theorem Ext.n(h:Ext Z ao):Z.n<=ao.n:=h.1
theorem Ext.f(h:Ext Z ao)(a:Nat)(q:a<Z.n):ao.f a=Z.f a:=h.2 a q
theorem Ext.refl(Z:St):Ext Z Z:=⟨Nat.le_refl _,λ_ _=>rfl⟩
theorem Ext.trans(a:Ext Z ao)(b:Ext ao aF):Ext Z aF:=⟨Nat.le_trans a.n b.n,λk h=>(b.f k (Nat.lt_of_lt_of_le h a.n)).trans (a.f k h)⟩
theorem At.x(h:At Z k o)(x:Ext Z ao):At ao k o:=⟨(x.f k h.lt).trans h.e,Nat.lt_of_lt_of_le h.lt x.n⟩
theorem aQ(Z:St)(o:af):Ext Z (Z.alloc o):=⟨Nat.le_succ _,λa h=>if_neg (Nat.ne_of_lt h)⟩
theorem ay(Z:St)(o:af):At (Z.alloc o) Z.n o:=⟨if_pos rfl,Nat.lt_succ_self _⟩
theorem Ext.al(x:Ext Z ao)(o:af):Ext Z (ao.alloc o):=x.trans (aQ _ _)
theorem Ext.pu(x:Ext Z ao)(h:Z.n<=k):Ext Z (ao.put k o):=⟨x.n,λa q=>(if_neg (Nat.ne_of_lt (Nat.lt_of_lt_of_le q h))).trans (x.f a q)⟩
theorem At.al(h:At Z k o)(o':af):At (Z.alloc o') k o:=h.x (aQ _ _)
theorem At.self(h:k<Z.n)(o:af):At (Z.put k o) k o:=⟨if_pos rfl,h⟩
theorem At.put(h:At Z k o)(q:k≠j):At (Z.put j o') k o:=⟨(if_neg q).trans h.e,h.lt⟩
end
inductive Op where
 | al (o:af)
 | pu (i:Nat) (o:af)
noncomputable def ap(Z:St)(l:List Op):St:=List.rec Z (λo _ r=>Op.casesOn o (λo=>r.alloc o) λi o=>r.put (Z.n+i) o) l
def By(l:List Op):Nat:=List.rec 0 (λo _ r=>Op.casesOn o (λ_=>r+1) λ_ _=>r) l
noncomputable def G7(l:List Op)(i:Nat):Option af:=List.rec .none (λo t r=>Op.casesOn o (λo=>bif Nat.beq i (By t) then some o else r) λj o=>bif Nat.beq i j then some o else r) l
def rO(l:List Op)(j i:Nat):af:=(G7 (l.drop j) i).getD (.lst [])
section
variable{Z:St}{l:List Op}
theorem Bz(l:List Op):(ap Z l).n=Z.n+By l:=by
 induction l with
 | nil=>rfl
 | cons o l ih=>induction o using Op.casesOn<;>first | exact congrArg (·+1) ih | exact ih
theorem vF(l:List Op):Ext Z (ap Z l):=by
 induction l with
 | nil=>exact Ext.refl Z
 | cons o l ih=>induction o using Op.casesOn<;>first | exact ih.al _ | exact ih.pu (Nat.le_add_right _ _)
theorem BA{ao:St}{i j:Nat}{o o':af}{x:Option af}(h:∀o,x=some o->ao.f (Z.n+i)=o)(e:(bif Nat.beq i j then some o else x)=some o'):(if Z.n+i=Z.n+j then o else ao.f (Z.n+i))=o':=
 uC e (λq e=>bG e (if_pos (congrArg _ (Nat.eq_of_beq_eq_true q)))) λq e=>(if_neg λz=>bF (q.symm.trans ((congrArg (Nat.beq i) (Nat.add_left_cancel z)).symm.trans (Nat.beq_refl i)))).trans (h o' e)
theorem Fh{l:List Op}{i:Nat}:∀{o:af},G7 l i=some o->(ap Z l).f (Z.n+i)=o:=by
 induction l with
 | nil=>exact nN
 | cons p l ih=>
  intro o
  induction p using Op.casesOn with
  | al p=>exact λe=>(Bz (Z:=Z) l▸BA (λo=>ih) e:(if Z.n+i=(ap Z l).n then p else (ap Z l).f (Z.n+i))=o)
  | pu j p=>exact BA λo=>ih
theorem gW{i:Nat}{o:af}(h:G7 l i=some o)(q:Nat.blt i (By l)=true):At (ap Z l) (Z.n+i) o:=⟨Fh h,by rw [Bz];exact Nat.add_lt_add_left (Nat.le_of_ble_eq_true q) _⟩
theorem rN{j i:Nat}(h:(G7 (l.drop j) i).isSome=true):(ap Z (l.drop j)).f (Z.n+i)=rO l j i:=Fh (by
 unfold rO
 cases e:G7 (l.drop j) i with
 | none=>rw [e] at h;cases h
 | some o=>rfl)
theorem rP{j k:Nat}{o:af}(h:At Z k o):(ap Z (l.drop j)).f k=o:=(h.x (vF _)).e
end
inductive Sl where
 | no
 | at (s:Str) (k:Int)
def Sl.v(s:Sl):V:=Sl.casesOn s .none λs k=>.tup [.str s,.int k]
structure UD where
 nm:Str
 pa:Nat
 co:Nat
 cn:Nat
 un:Nat
 ha:Nat
 li:Nat
 lc:Int
 cc:Int
 ca:Nat
 st:Bool
 ua:Bool
 sl:Sl
 ap:Sl
 pp:Nat
noncomputable def UD.o(D:UD):af:=.ins [("name",.str D.nm),("params",.ref D.pa),("code",.ref D.co),("consts",.ref D.cn),("units",.ref D.un),("handlers",.ref D.ha),("lines",.ref D.li),("local_count",.int D.lc),("cell_count",.int D.cc),("captures",.ref D.ca),("is_strict",.bool D.st),("uses_arguments",.bool D.ua),("self_slot",D.sl.v),("arguments_place",D.ap.v),("param_places",.ref D.pp)]
theorem Fi(D:UD):qZ D.o "self_slot"=some D.sl.v:=by
 cases h:D.sl<;>(unfold UD.o;rw [h];rfl)
theorem Fj(D:UD):qZ D.o "arguments_place"=some D.ap.v:=by
 cases h:D.ap<;>(unfold UD.o;rw [h];rfl)
noncomputable def aR(n:Nat)(D:UD)(ps cs us cp pq:List V):List Op:=[.pu 1 (.ins [("name",.str D.nm),("params",.ref (n+0)),("code",.ref (n+2)),("consts",.ref (n+9)),("units",.ref (n+10)),("handlers",.ref (n+5)),("lines",.ref (n+6)),("local_count",.int D.lc),("cell_count",.int D.cc),("captures",.ref (n+11)),("is_strict",.bool D.st),("uses_arguments",.bool D.ua),("self_slot",D.sl.v),("arguments_place",D.ap.v),("param_places",.ref (n+12))]),.al (.lst pq),.pu 1 (.ins [("name",.str D.nm),("params",.ref (n+0)),("code",.ref (n+2)),("consts",.ref (n+9)),("units",.ref (n+10)),("handlers",.ref (n+5)),("lines",.ref (n+6)),("local_count",.int D.lc),("cell_count",.int D.cc),("captures",.ref (n+11)),("is_strict",.bool D.st),("uses_arguments",.bool D.ua),("self_slot",D.sl.v),("arguments_place",D.ap.v),("param_places",.ref (n+8))]),.pu 1 (.ins [("name",.str D.nm),("params",.ref (n+0)),("code",.ref (n+2)),("consts",.ref (n+9)),("units",.ref (n+10)),("handlers",.ref (n+5)),("lines",.ref (n+6)),("local_count",.int D.lc),("cell_count",.int D.cc),("captures",.ref (n+11)),("is_strict",.bool D.st),("uses_arguments",.bool D.ua),("self_slot",D.sl.v),("arguments_place",.none),("param_places",.ref (n+8))]),.pu 1 (.ins [("name",.str D.nm),("params",.ref (n+0)),("code",.ref (n+2)),("consts",.ref (n+9)),("units",.ref (n+10)),("handlers",.ref (n+5)),("lines",.ref (n+6)),("local_count",.int D.lc),("cell_count",.int D.cc),("captures",.ref (n+11)),("is_strict",.bool D.st),("uses_arguments",.bool D.ua),("self_slot",.none),("arguments_place",.none),("param_places",.ref (n+8))]),.pu 1 (.ins [("name",.str D.nm),("params",.ref (n+0)),("code",.ref (n+2)),("consts",.ref (n+9)),("units",.ref (n+10)),("handlers",.ref (n+5)),("lines",.ref (n+6)),("local_count",.int D.lc),("cell_count",.int D.cc),("captures",.ref (n+11)),("is_strict",.bool D.st),("uses_arguments",.bool false),("self_slot",.none),("arguments_place",.none),("param_places",.ref (n+8))]),.pu 1 (.ins [("name",.str D.nm),("params",.ref (n+0)),("code",.ref (n+2)),("consts",.ref (n+9)),("units",.ref (n+10)),("handlers",.ref (n+5)),("lines",.ref (n+6)),("local_count",.int D.lc),("cell_count",.int D.cc),("captures",.ref (n+11)),("is_strict",.bool false),("uses_arguments",.bool false),("self_slot",.none),("arguments_place",.none),("param_places",.ref (n+8))]),.al (.lst cp),.pu 1 (.ins [("name",.str D.nm),("params",.ref (n+0)),("code",.ref (n+2)),("consts",.ref (n+9)),("units",.ref (n+10)),("handlers",.ref (n+5)),("lines",.ref (n+6)),("local_count",.int D.lc),("cell_count",.int D.cc),("captures",.ref (n+7)),("is_strict",.bool false),("uses_arguments",.bool false),("self_slot",.none),("arguments_place",.none),("param_places",.ref (n+8))]),.pu 1 (.ins [("name",.str D.nm),("params",.ref (n+0)),("code",.ref (n+2)),("consts",.ref (n+9)),("units",.ref (n+10)),("handlers",.ref (n+5)),("lines",.ref (n+6)),("local_count",.int D.lc),("cell_count",.int 0),("captures",.ref (n+7)),("is_strict",.bool false),("uses_arguments",.bool false),("self_slot",.none),("arguments_place",.none),("param_places",.ref (n+8))]),.pu 1 (.ins [("name",.str D.nm),("params",.ref (n+0)),("code",.ref (n+2)),("consts",.ref (n+9)),("units",.ref (n+10)),("handlers",.ref (n+5)),("lines",.ref (n+6)),("local_count",.int 0),("cell_count",.int 0),("captures",.ref (n+7)),("is_strict",.bool false),("uses_arguments",.bool false),("self_slot",.none),("arguments_place",.none),("param_places",.ref (n+8))]),.al (.lst us),.pu 1 (.ins [("name",.str D.nm),("params",.ref (n+0)),("code",.ref (n+2)),("consts",.ref (n+9)),("units",.ref (n+4)),("handlers",.ref (n+5)),("lines",.ref (n+6)),("local_count",.int 0),("cell_count",.int 0),("captures",.ref (n+7)),("is_strict",.bool false),("uses_arguments",.bool false),("self_slot",.none),("arguments_place",.none),("param_places",.ref (n+8))]),.al (.lst cs),.pu 1 (.ins [("name",.str D.nm),("params",.ref (n+0)),("code",.ref (n+2)),("consts",.ref (n+3)),("units",.ref (n+4)),("handlers",.ref (n+5)),("lines",.ref (n+6)),("local_count",.int 0),("cell_count",.int 0),("captures",.ref (n+7)),("is_strict",.bool false),("uses_arguments",.bool false),("self_slot",.none),("arguments_place",.none),("param_places",.ref (n+8))]),.al (.lst []),.pu 1 (.ins [("name",.str D.nm),("params",.ref (n+0)),("code",.ref (n+2)),("consts",.ref (n+3)),("units",.ref (n+4)),("handlers",.ref (n+5)),("lines",.ref (n+6)),("local_count",.int 0),("cell_count",.int 0),("captures",.ref (n+7)),("is_strict",.bool false),("uses_arguments",.bool false),("self_slot",.none),("arguments_place",.none)]),.pu 1 (.ins [("name",.str D.nm),("params",.ref (n+0)),("code",.ref (n+2)),("consts",.ref (n+3)),("units",.ref (n+4)),("handlers",.ref (n+5)),("lines",.ref (n+6)),("local_count",.int 0),("cell_count",.int 0),("captures",.ref (n+7)),("is_strict",.bool false),("uses_arguments",.bool false),("self_slot",.none)]),.pu 1 (.ins [("name",.str D.nm),("params",.ref (n+0)),("code",.ref (n+2)),("consts",.ref (n+3)),("units",.ref (n+4)),("handlers",.ref (n+5)),("lines",.ref (n+6)),("local_count",.int 0),("cell_count",.int 0),("captures",.ref (n+7)),("is_strict",.bool false),("uses_arguments",.bool false)]),.pu 1 (.ins [("name",.str D.nm),("params",.ref (n+0)),("code",.ref (n+2)),("consts",.ref (n+3)),("units",.ref (n+4)),("handlers",.ref (n+5)),("lines",.ref (n+6)),("local_count",.int 0),("cell_count",.int 0),("captures",.ref (n+7)),("is_strict",.bool false)]),.pu 1 (.ins [("name",.str D.nm),("params",.ref (n+0)),("code",.ref (n+2)),("consts",.ref (n+3)),("units",.ref (n+4)),("handlers",.ref (n+5)),("lines",.ref (n+6)),("local_count",.int 0),("cell_count",.int 0),("captures",.ref (n+7))]),.al (.lst []),.pu 1 (.ins [("name",.str D.nm),("params",.ref (n+0)),("code",.ref (n+2)),("consts",.ref (n+3)),("units",.ref (n+4)),("handlers",.ref (n+5)),("lines",.ref (n+6)),("local_count",.int 0),("cell_count",.int 0)]),.pu 1 (.ins [("name",.str D.nm),("params",.ref (n+0)),("code",.ref (n+2)),("consts",.ref (n+3)),("units",.ref (n+4)),("handlers",.ref (n+5)),("lines",.ref (n+6)),("local_count",.int 0)]),.pu 1 (.ins [("name",.str D.nm),("params",.ref (n+0)),("code",.ref (n+2)),("consts",.ref (n+3)),("units",.ref (n+4)),("handlers",.ref (n+5)),("lines",.ref (n+6))]),.al (.lst []),.pu 1 (.ins [("name",.str D.nm),("params",.ref (n+0)),("code",.ref (n+2)),("consts",.ref (n+3)),("units",.ref (n+4)),("handlers",.ref (n+5))]),.al (.lst []),.pu 1 (.ins [("name",.str D.nm),("params",.ref (n+0)),("code",.ref (n+2)),("consts",.ref (n+3)),("units",.ref (n+4))]),.al (.lst []),.pu 1 (.ins [("name",.str D.nm),("params",.ref (n+0)),("code",.ref (n+2)),("consts",.ref (n+3))]),.al (.lst []),.pu 1 (.ins [("name",.str D.nm),("params",.ref (n+0)),("code",.ref (n+2))]),.al (.lst []),.pu 1 (.ins [("name",.str D.nm),("params",.ref (n+0))]),.pu 1 (.ins [("name",.str D.nm)]),.al (.ins []),.al (.lst ps)]
theorem G8(d:Nat){Z:St}{u:Nat}{D:UD}{ps cs us cp pq:List V}(hu:At Z u D.o)(h1:At Z D.pa (.lst ps))(h2:At Z D.cn (.lst cs))(h3:At Z D.un (.lst us))(h4:At Z D.ca (.lst cp))(h5:At Z D.pp (.lst pq)):run (d+2) "copy_head" [.ref u] Z=some (.ref (Z.n+1),ap Z (aR Z.n D ps cs us cp pq)):=
 Sm (Pn (rP (l:=(aR Z.n D ps cs us cp pq)) (j:=38) hu) |>.n (rP (l:=(aR Z.n D ps cs us cp pq)) (j:=38) hu) |>.n (rP (l:=(aR Z.n D ps cs us cp pq)) (j:=38) h1) |>.n (rN (Z:=Z) (l:=(aR Z.n D ps cs us cp pq)) (j:=36) (i:=1) (by kernel_rfl)) |>.n (rN (Z:=Z) (l:=(aR Z.n D ps cs us cp pq)) (j:=35) (i:=1) (by kernel_rfl)) |>.n (Nat.zero_le aq) |>.n (rN (Z:=Z) (l:=(aR Z.n D ps cs us cp pq)) (j:=33) (i:=1) (by kernel_rfl)) |>.n (Nat.zero_le aq) |>.n (rN (Z:=Z) (l:=(aR Z.n D ps cs us cp pq)) (j:=31) (i:=1) (by kernel_rfl)) |>.n (Nat.zero_le aq) |>.n (rN (Z:=Z) (l:=(aR Z.n D ps cs us cp pq)) (j:=29) (i:=1) (by kernel_rfl)) |>.n (Nat.zero_le aq) |>.n (rN (Z:=Z) (l:=(aR Z.n D ps cs us cp pq)) (j:=27) (i:=1) (by kernel_rfl)) |>.n (Nat.zero_le aq) |>.n (rN (Z:=Z) (l:=(aR Z.n D ps cs us cp pq)) (j:=25) (i:=1) (by kernel_rfl)) |>.n (rN (Z:=Z) (l:=(aR Z.n D ps cs us cp pq)) (j:=24) (i:=1) (by kernel_rfl)) |>.n (rN (Z:=Z) (l:=(aR Z.n D ps cs us cp pq)) (j:=23) (i:=1) (by kernel_rfl)) |>.n (Nat.zero_le aq) |>.n (rN (Z:=Z) (l:=(aR Z.n D ps cs us cp pq)) (j:=21) (i:=1) (by kernel_rfl)) |>.n (rN (Z:=Z) (l:=(aR Z.n D ps cs us cp pq)) (j:=20) (i:=1) (by kernel_rfl)) |>.n (rN (Z:=Z) (l:=(aR Z.n D ps cs us cp pq)) (j:=19) (i:=1) (by kernel_rfl)) |>.n (rN (Z:=Z) (l:=(aR Z.n D ps cs us cp pq)) (j:=18) (i:=1) (by kernel_rfl)) |>.n (rN (Z:=Z) (l:=(aR Z.n D ps cs us cp pq)) (j:=17) (i:=1) (by kernel_rfl)) |>.n (Nat.zero_le aq) |>.n (rN (Z:=Z) (l:=(aR Z.n D ps cs us cp pq)) (j:=15) (i:=1) (by kernel_rfl)) |>.n (rP (l:=(aR Z.n D ps cs us cp pq)) (j:=14) hu) |>.n (rP (l:=(aR Z.n D ps cs us cp pq)) (j:=14) h2) |>.n (rN (Z:=Z) (l:=(aR Z.n D ps cs us cp pq)) (j:=13) (i:=1) (by kernel_rfl)) |>.n (rP (l:=(aR Z.n D ps cs us cp pq)) (j:=12) hu) |>.n (rP (l:=(aR Z.n D ps cs us cp pq)) (j:=12) h3) |>.n (rN (Z:=Z) (l:=(aR Z.n D ps cs us cp pq)) (j:=11) (i:=1) (by kernel_rfl)) |>.n (rP (l:=(aR Z.n D ps cs us cp pq)) (j:=10) hu) |>.n (rN (Z:=Z) (l:=(aR Z.n D ps cs us cp pq)) (j:=10) (i:=1) (by kernel_rfl)) |>.n (rP (l:=(aR Z.n D ps cs us cp pq)) (j:=9) hu) |>.n (rN (Z:=Z) (l:=(aR Z.n D ps cs us cp pq)) (j:=9) (i:=1) (by kernel_rfl)) |>.n (rP (l:=(aR Z.n D ps cs us cp pq)) (j:=8) hu) |>.n (rP (l:=(aR Z.n D ps cs us cp pq)) (j:=8) h4) |>.n (rN (Z:=Z) (l:=(aR Z.n D ps cs us cp pq)) (j:=7) (i:=1) (by kernel_rfl)) |>.n (rP (l:=(aR Z.n D ps cs us cp pq)) (j:=6) hu) |>.n (rN (Z:=Z) (l:=(aR Z.n D ps cs us cp pq)) (j:=6) (i:=1) (by kernel_rfl)) |>.n (rP (l:=(aR Z.n D ps cs us cp pq)) (j:=5) hu) |>.n (rN (Z:=Z) (l:=(aR Z.n D ps cs us cp pq)) (j:=5) (i:=1) (by kernel_rfl)) |>.n (rP (l:=(aR Z.n D ps cs us cp pq)) (j:=4) hu) |>.n (Fi D) |>.n (rN (Z:=Z) (l:=(aR Z.n D ps cs us cp pq)) (j:=4) (i:=1) (by kernel_rfl)) |>.n (rP (l:=(aR Z.n D ps cs us cp pq)) (j:=3) hu) |>.n (Fj D) |>.n (rN (Z:=Z) (l:=(aR Z.n D ps cs us cp pq)) (j:=3) (i:=1) (by kernel_rfl)) |>.n (rP (l:=(aR Z.n D ps cs us cp pq)) (j:=2) hu) |>.n (rP (l:=(aR Z.n D ps cs us cp pq)) (j:=2) h5) |>.n (rN (Z:=Z) (l:=(aR Z.n D ps cs us cp pq)) (j:=1) (i:=1) (by kernel_rfl))) [.o D.o,.o D.o,.o (.lst ps),.o (rO (aR Z.n D ps cs us cp pq) 36 1),.o (rO (aR Z.n D ps cs us cp pq) 35 1),.o (rO (aR Z.n D ps cs us cp pq) 33 1),.o (rO (aR Z.n D ps cs us cp pq) 31 1),.o (rO (aR Z.n D ps cs us cp pq) 29 1),.o (rO (aR Z.n D ps cs us cp pq) 27 1),.o (rO (aR Z.n D ps cs us cp pq) 25 1),.o (rO (aR Z.n D ps cs us cp pq) 24 1),.o (rO (aR Z.n D ps cs us cp pq) 23 1),.o (rO (aR Z.n D ps cs us cp pq) 21 1),.o (rO (aR Z.n D ps cs us cp pq) 20 1),.o (rO (aR Z.n D ps cs us cp pq) 19 1),.o (rO (aR Z.n D ps cs us cp pq) 18 1),.o (rO (aR Z.n D ps cs us cp pq) 17 1),.o (rO (aR Z.n D ps cs us cp pq) 15 1),.o D.o,.o (.lst cs),.o (rO (aR Z.n D ps cs us cp pq) 13 1),.o D.o,.o (.lst us),.o (rO (aR Z.n D ps cs us cp pq) 11 1),.o D.o,.o (rO (aR Z.n D ps cs us cp pq) 10 1),.o D.o,.o (rO (aR Z.n D ps cs us cp pq) 9 1),.o D.o,.o (.lst cp),.o (rO (aR Z.n D ps cs us cp pq) 7 1),.o D.o,.o (rO (aR Z.n D ps cs us cp pq) 6 1),.o D.o,.o (rO (aR Z.n D ps cs us cp pq) 5 1),.o D.o,.v D.sl.v,.o (rO (aR Z.n D ps cs us cp pq) 4 1),.o D.o,.v D.ap.v,.o (rO (aR Z.n D ps cs us cp pq) 3 1),.o D.o,.o (.lst pq),.o (rO (aR Z.n D ps cs us cp pq) 1 1)] (by kernel_rfl)
def gZ(n:Nat)(D:UD):UD:=⟨D.nm,n,n+2,n+9,n+10,n+5,n+6,D.lc,D.cc,n+11,D.st,D.ua,D.sl,D.ap,n+12⟩
theorem kC(d:Nat){Z:St}{u:Nat}{D:UD}{ps cs us cp pq:List V}(hu:At Z u D.o)(h1:At Z D.pa (.lst ps))(h2:At Z D.cn (.lst cs))(h3:At Z D.un (.lst us))(h4:At Z D.ca (.lst cp))(h5:At Z D.pp (.lst pq)):
  ∃J,run (d+2) "copy_head" [.ref u] Z=some (.ref (Z.n+1),J)/\Ext Z J/\At J (Z.n+1) (gZ Z.n D).o/\At J (gZ Z.n D).pa (.lst ps)/\At J (gZ Z.n D).cn (.lst cs)/\At J (gZ Z.n D).un (.lst us)/\At J (gZ Z.n D).ca (.lst cp)/\At J (gZ Z.n D).pp (.lst pq)/\
   At J (gZ Z.n D).co (.lst [])/\At J (gZ Z.n D).ha (.lst [])/\At J (gZ Z.n D).li (.lst [])/\J.n=Z.n+13:=
 ⟨_,G8 d hu h1 h2 h3 h4 h5,vF _,gW (by kernel_rfl) (by kernel_rfl),gW (i:=0) (by kernel_rfl) (by kernel_rfl),gW (i:=9) (by kernel_rfl) (by kernel_rfl),gW (i:=10) (by kernel_rfl) (by kernel_rfl),gW (i:=11) (by kernel_rfl) (by kernel_rfl),gW (i:=12) (by kernel_rfl) (by kernel_rfl),
  gW (i:=2) (by kernel_rfl) (by kernel_rfl),gW (i:=5) (by kernel_rfl) (by kernel_rfl),gW (i:=6) (by kernel_rfl) (by kernel_rfl),Bz _⟩
def zt(x:Str):List Stmt:=Option.casesOn (fL x) [] λf=>f.body
def dz(x:Str)(i:Nat):Stmt:=(zt x).getD i (.Pass default)
def mk(x:Str)(l:List (Str×V)):Ms:=Option.casesOn (fL x) [] λf=>cM l f.names
noncomputable def Lj(s:Stmt):Expr×Expr×List Stmt×List Stmt×Pos:=(by induction s using Stmt.casesOn with | For t e b o p=>exact (t,e,b,o,p) | While e b o p=>exact (default,e,b,o,p) | If e b o p=>exact (default,e,b,o,p) | Assign _ e p=>exact (default,e,[],[],p) | Return e p=>exact Option.casesOn e (default,default,[],[],default) λe=>(default,e,[],[],p) | Expr e p=>exact (default,e,[],[],p) | _=>exact (default,default,[],[],default))
noncomputable def Ux(e:Expr):List Expr:=(by induction e using Expr.casesOn with | List es _=>exact es | BoolOp _ es _=>exact es | BinOp l _ _ _=>exact [l] | Compare l _ rs _=>exact l::rs | Call f _ _ _=>exact [f] | Attribute o _ _=>exact [o] | _=>exact [])
def sub(e:Expr)(i:Nat):Expr:=(Ux e).getD i default
def vH(s:Stmt):Expr:=(Lj s).1
def dQ(s:Stmt):Expr:=(Lj s).2.1
def gj(s:Stmt):List Stmt:=(Lj s).2.2.1
def Uy(s:Stmt):List Stmt:=(Lj s).2.2.2.1
def DN(s:Stmt):Pos:=(Lj s).2.2.2.2
abbrev Lk(s:Stmt):Prop:=(s,hB (dQ s))=(.For (vH s) (dQ s) (gj s) [] (DN s),none)
abbrev lA(s:Stmt):Prop:=s=.While (dQ s) (gj s) [] (DN s)
theorem dw{d n:Nat}{s:Stmt}{m:Ms}{Z ao:St}{src:Src}{r:Fl×Ms×St}(h0:Lk s)(he:aG (i8 gL (cL d) n (dQ s) m Z)=some (src,ao))(KU:src.ok (vH s)=true)
  (hl:cK src (forTurn (cI gL (cL d) n) (vH s) (gj s)) aM 0 m ao=some r):cI gL (cL d) (n+1) s m Z=some r:=by
 have h1:=(Prod.mk.inj h0).1
 have hz:=(Prod.mk.inj h0).2
 generalize vH s=t at*
 generalize dQ s=e at*
 generalize gj s=b at*
 generalize DN s=p at*
 subst h1
 show (Option.casesOn (hB e) (lX (i8 gL (cL d) n) (cI gL (cL d) n) t e b m Z) λp=>jN gL (i8 gL (cL d) n) (cI gL (cL d) n) t p b m Z:Option (Fl×Ms×St))=some r
 rw [hz]
 show dc (aG (i8 gL (cL d) n e m Z)) (λs Z=>if s.ok t then cK s (forTurn (cI gL (cL d) n) t b) aM 0 m Z else .none)=_
 rw [he]
 exact (if_pos KU).trans hl
theorem mR{d n:Nat}{s:Stmt}{m:Ms}{Z:St}(h0:lA s):cI gL (cL d) (n+1) s m Z=dn (ki gL (cL d) n (dQ s)) (fG (cI gL (cL d) n) (gj s)) aM m Z:=by
 unfold lA at h0
 generalize dQ s=e at*
 generalize gj s=b at*
 generalize DN s=p at*
 subst h0;rfl
section
variable{test:Ms->St->Option (Bool×St)}{body:Ms->St->Option (Fl×Ms×St)}{m m':Ms}{Z J kL:St}{k:Nat}
theorem iJ(h:test m Z=some (false,J)):dn test body (k+1) m Z=some (.next,m,J):=by
 show dc (test m Z) (λc Z=>bif c then bC (body m Z) λp=>iu p.1 (dn test body k p.2.1 p.2.2) (some (.next,p.2)) λ_=>some p else some (.next,m,Z))=_
 rw [h];rfl
theorem mS(h:test m Z=some (true,J))(G:body m J=some (.next,m',kL)):dn test body (k+1) m Z=dn test body k m' kL:=by
 show dc (test m Z) (λc Z=>bif c then bC (body m Z) λp=>iu p.1 (dn test body k p.2.1 p.2.2) (some (.next,p.2)) λ_=>some p else some (.next,m,Z))=_
 rw [h]
 show bC (body m J) (λp=>iu p.1 (dn test body k p.2.1 p.2.2) (some (.next,p.2)) λ_=>some p)=_
 rw [G];rfl
end
section
variable{src:Src}{turn:V->Ms->St->Option (Fl×Ms×St)}{m m':Ms}{Z J:St}{n i:Nat}{v:V}
theorem mT(h:src.at Z i=some none):cK src turn (n+1) i m Z=some (.next,m,Z):=by
 show bC (src.at Z i) (λo=>Option.casesOn o (some (.next,m,Z)) λv=>bC (turn v m Z) λp=>iu p.1 (cK src turn n (i+1) p.2.1 p.2.2) (some (.next,p.2)) λ_=>some p)=_
 rw [h];rfl
theorem BB{u:V}(h:src.at Z i=some (some v))(G:turn v m Z=some (.ret u,m',J)):cK src turn (n+1) i m Z=some (.ret u,m',J):=by
 show bC (src.at Z i) (λo=>Option.casesOn o (some (.next,m,Z)) λv=>bC (turn v m Z) λp=>iu p.1 (cK src turn n (i+1) p.2.1 p.2.2) (some (.next,p.2)) λ_=>some p)=_
 rw [h]
 show bC (turn v m Z) (λp=>iu p.1 (cK src turn n (i+1) p.2.1 p.2.2) (some (.next,p.2)) λ_=>some p)=_
 rw [G];rfl
theorem qh(h:src.at Z i=some (some v))(G:turn v m Z=some (.next,m',J)):cK src turn (n+1) i m Z=cK src turn n (i+1) m' J:=by
 show bC (src.at Z i) (λo=>Option.casesOn o (some (.next,m,Z)) λv=>bC (turn v m Z) λp=>iu p.1 (cK src turn n (i+1) p.2.1 p.2.2) (some (.next,p.2)) λ_=>some p)=_
 rw [h]
 show bC (turn v m Z) (λp=>iu p.1 (cK src turn n (i+1) p.2.1 p.2.2) (some (.next,p.2)) λ_=>some p)=_
 rw [G];rfl
end
theorem vJ{α β:Type}{f:α->β}{pre rest L:List α}{x:α}(e:L=pre++x::rest):(L[pre.length]?).map f=some (f x):=by rw [e,List.getElem?_append_right (Nat.le_refl _),Nat.sub_self];rfl
theorem vK{α β:Type}{f:α->β}{L:List α}:(L[L.length]?).map f=none:=by rw [List.getElem?_eq_none (Nat.le_refl _)];rfl
theorem qm{α:Type}{pre rest L:List α}{x:α}(e:L=pre++x::rest):L=(pre++[x])++rest:=e.trans (List.append_cons ..)
theorem mU{α:Type}{src:Src}{it:Nat->α->V}{turn:V->Ms->St->Option (Fl×Ms×St)}{L:List α}(ag:List α->Ms->St->Prop)
  (hs:∀pre m Z i,ag pre m Z->src.at Z i=some ((L[i]?).map (it i)))
  (step:∀pre x rest m Z,L=pre++x::rest->ag pre m Z->∃m' J,turn (it pre.length x) m Z=some (.next,m',J)/\ag (pre++[x]) m' J)
  (rest:List α):∀(pre:List α)(m:Ms)(Z:St)(n:Nat),L=pre++rest->rest.length<n->ag pre m Z->∃m' J,cK src turn n pre.length m Z=some (.next,m',J)/\ag L m' J:=by
 induction rest with
 | nil=>
  intro pre m Z n e q h
  induction n using Nat.casesOn with
  | zero=>exact absurd q (Nat.not_lt_zero _)
  | succ n=>
   have e:=e.trans (List.append_nil _)
   subst e
   exact ⟨m,Z,mT ((hs _ _ _ _ h).trans (congrArg some vK)),h⟩
 | cons x rest ih=>
  intro pre m Z n e q h
  induction n using Nat.casesOn with
  | zero=>exact absurd q (Nat.not_lt_zero _)
  | succ n=>exact bV (step pre x rest m Z e h) λm₁ ao t aA=>bV (ih (pre++[x]) m₁ ao n (qm e) (Nat.lt_of_succ_lt_succ q) aA) λm₂ aF G9 aZ=>⟨m₂,aF,(qh ((hs _ _ _ _ h).trans (congrArg some (vJ e))) t).trans ((congrArg (λi=>cK src turn n i m₁ ao) (List.length_append (bs:=[x])).symm).trans G9),aZ⟩
theorem BC{α:Type}{Z:St}{k i:Nat}{g:α->V}{L:List α}(h:Z.f k=.lst (L.map g)):(Src.lst k).at Z i=some ((L[i]?).map g):=by
 show oL (Z.f k) (λl=>some l[i]?)=_
 rw [h,<-List.getElem?_map];rfl
theorem BD{α:Type}{Z:St}{k i:Nat}{g:α->V}{L:List α}(h:Z.f k=.lst (L.map g)):(Src.kW k).at Z i=some ((L[i]?).map λx=>V.tup [.int i,g x]):=by
 show oL (Z.f k) (λl=>some ((l[i]?).map λv=>V.tup [.int i,v]))=_
 rw [h]
 show some (((L.map g)[i]?).map λv=>V.tup [.int i,v])=_
 rw [List.getElem?_map,Option.map_map];rfl
theorem fy{α:Type}{k:Nat}{g:α->V}{turn:V->Ms->St->Option (Fl×Ms×St)}{L:List α}(ag:List α->Ms->St->Prop)(hs:∀pre m Z,ag pre m Z->Z.f k=.lst (L.map g))
  (step:∀pre x rest m Z,L=pre++x::rest->ag pre m Z->∃m' J,turn (g x) m Z=some (.next,m',J)/\ag (pre++[x]) m' J) {m:Ms} {Z:St} (hl:L.length<4096) (h0:ag [] m Z):
  ∃m' J,cK (.lst k) turn aM 0 m Z=some (.next,m',J)/\ag L m' J:=
 mU (it:=λ_=>g) ag (λpre m Z i h=>BC (hs pre m Z h)) step L [] m Z aM rfl hl h0
theorem xj{α:Type}{k:Nat}{g:α->V}{turn:V->Ms->St->Option (Fl×Ms×St)}{L:List α}(ag:List α->Ms->St->Prop)(hs:∀pre m Z,ag pre m Z->Z.f k=.lst (L.map g))
  (step:∀pre x rest m Z,L=pre++x::rest->ag pre m Z->∃m' J,turn (.tup [.int (pre.length:Nat),g x]) m Z=some (.next,m',J)/\ag (pre++[x]) m' J) {m:Ms} {Z:St} (hl:L.length<4096) (h0:ag [] m Z):
  ∃m' J,cK (.kW k) turn aM 0 m Z=some (.next,m',J)/\ag L m' J:=
 mU (it:=λi x=>V.tup [.int (i:Nat),g x]) ag (λpre m Z i h=>BD (hs pre m Z h)) step L [] m Z aM rfl hl h0
noncomputable def JB(e:Expr):Expr×List Comprehension×Scope×Pos:=(by induction e using Expr.casesOn with | ListComp e gs s p=>exact (e,gs,s,p) | _=>exact (default,[],default,default))
def vL(e:Expr):Expr:=(JB e).1
def qo(e:Expr):Expr:=((JB e).2.1.map (·.target)).headD default
def sY(e:Expr):Expr:=((JB e).2.1.map (·.iter)).headD default
def vM(e:Expr):List Expr:=((JB e).2.1.map (·.ifs)).headD []
def gm(e:Expr):Scope:=(JB e).2.2.1
def Ll(e:Expr):Pos:=(JB e).2.2.2
abbrev BE(e:Expr):Prop:=e=.ListComp (vL e) [⟨qo e,sY e,vM e,0⟩] (gm e) (Ll e)
theorem lB{d n:Nat}{e:Expr}{m:Ms}{Z ao aF:St}{src:Src}{I:List V}(h0:BE e)(he:aG (i8 gL (cL d) n (sY e) m Z)=some (src,ao))
  (KU:(src.ok (qo e)&&fz (gm e) m&&dM (gm e) 4 (qo e))=true)
  (hl:cu src (compTurn (i8 gL (cL d) n) (ki gL (cL d) n) (qo e) (vM e) (vL e) (cX (gm e) m)) aM 0 [] ao=some (I,aF)):
  i8 gL (cL d) (n+1) e m Z=some (.val (.ref aF.n),aF.alloc (.lst I)):=by
 unfold BE at h0
 generalize vL e=elt at*
 generalize qo e=t at*
 generalize sY e=it at*
 generalize vM e=ifs at*
 generalize gm e=sc at*
 generalize Ll e=p at*
 subst h0
 show dc (aG (i8 gL (cL d) n it m Z)) (λs Z=>if s.ok t&&fz sc m&&dM sc 4 t then dc (cu s (compTurn (i8 gL (cL d) n) (ki gL (cL d) n) t ifs elt (cX sc m)) aM 0 [] Z) λI Z=>val (.ref Z.n) (Z.alloc (.lst I)) else .none)=_
 rw [he]
 refine (if_pos KU).trans ?_
 rw [hl]
 rfl
section
variable{src:Src}{turn:V->St->Option (Option V×St)}{acc:List V}{Z J:St}{n i:Nat}{v:V}{o:Option V}
theorem zu(h:src.at Z i=some none):cu src turn (n+1) i acc Z=some (acc,Z):=by
 show bC (src.at Z i) (λo=>Option.casesOn o (some (acc,Z)) λv=>dc (turn v Z) λx Z=>cu src turn n (i+1) (Option.casesOn x acc λx=>acc++[x]) Z)=_
 rw [h];rfl
theorem BF(h:src.at Z i=some (some v))(G:turn v Z=some (o,J)):cu src turn (n+1) i acc Z=cu src turn n (i+1) (acc++o.toList) J:=by
 show bC (src.at Z i) (λo=>Option.casesOn o (some (acc,Z)) λv=>dc (turn v Z) λx Z=>cu src turn n (i+1) (Option.casesOn x acc λx=>acc++[x]) Z)=_
 rw [h]
 show dc (turn v Z) (λx Z=>cu src turn n (i+1) (Option.casesOn x acc λx=>acc++[x]) Z)=_
 rw [G]
 cases o with
 | none=>exact congrArg (λl=>cu src turn n (i+1) l J) (List.append_nil _).symm
 | some v=>rfl
end
theorem BG{α:Type}{src:Src}{it:Nat->α->V}{turn:V->St->Option (Option V×St)}{L:List α}(ag:List α->List V->St->Prop)
  (hs:∀pre acc Z i,ag pre acc Z->src.at Z i=some ((L[i]?).map (it i)))
  (step:∀pre x rest acc Z,L=pre++x::rest->ag pre acc Z->∃o J,turn (it pre.length x) Z=some (o,J)/\ag (pre++[x]) (acc++o.toList) J)
  (rest:List α):∀(pre:List α)(acc:List V)(Z:St)(n:Nat),L=pre++rest->rest.length<n->ag pre acc Z->∃nR J,cu src turn n pre.length acc Z=some (nR,J)/\ag L nR J:=by
 induction rest with
 | nil=>
  intro pre acc Z n e q h
  induction n using Nat.casesOn with
  | zero=>exact absurd q (Nat.not_lt_zero _)
  | succ n=>
   have e:=e.trans (List.append_nil _)
   subst e
   exact ⟨acc,Z,zu ((hs _ _ _ _ h).trans (congrArg some vK)),h⟩
 | cons x rest ih=>
  intro pre acc Z n e q h
  induction n using Nat.casesOn with
  | zero=>exact absurd q (Nat.not_lt_zero _)
  | succ n=>exact bV (step pre x rest acc Z e h) λo ao t aA=>bV (ih (pre++[x]) _ ao n (qm e) (Nat.lt_of_succ_lt_succ q) aA) λm₂ aF G9 aZ=>⟨m₂,aF,(BF ((hs _ _ _ _ h).trans (congrArg some (vJ e))) t).trans ((congrArg (λi=>cu src turn n i (acc++o.toList) ao) (List.length_append (bs:=[x])).symm).trans G9),aZ⟩
theorem jo{α:Type}{k:Nat}{g:α->V}{turn:V->St->Option (Option V×St)}{L:List α}(ag:List α->List V->St->Prop)(hs:∀pre acc Z,ag pre acc Z->Z.f k=.lst (L.map g))
  (step:∀pre x rest acc Z,L=pre++x::rest->ag pre acc Z->∃o J,turn (g x) Z=some (o,J)/\ag (pre++[x]) (acc++o.toList) J) {Z:St} (hl:L.length<4096) (h0:ag [] [] Z):
  ∃nR J,cu (.lst k) turn aM 0 [] Z=some (nR,J)/\ag L nR J:=
 BG (it:=λ_=>g) ag (λpre acc Z i h=>BC (hs pre acc Z h)) step L [] [] Z aM rfl hl h0
theorem Uz{d n:Nat}{t:Expr}{ifs:List Expr}{elt:Expr}{v:V}{m:Ms}{Z J:St}{o:Option V}{P:Prop}(p:P)(a:List An)
  (e:qe (wX gL (cL d) (wL d) n) (JA gL (cL d) (wL d) n) t ifs elt m v Z ⟨a,True⟩=some ((o,J),⟨[],P⟩)):compTurn (i8 gL (cL d) n) (ki gL (cL d) n) t ifs elt m v Z=some (o,J):=
 (mQ (hM (gV d) n).1 (hM (gV d) n).2 _ _ _ e p).2
theorem UB{d n:Nat}{e:Expr}{m:Ms}{Z J:St}{b:Bool}{P:Prop}(p:P)(t:List An)(h:JA gL (cL d) (wL d) n e m Z ⟨t,True⟩=some ((b,J),⟨[],P⟩)):ki gL (cL d) n e m Z=some (b,J):=((hM (gV d) n).2 e m Z _ _ _ h p).2
structure Ev where
 a:List An
 f:Prop->Prop
 h:∀q,q->f q
def Ev.of(a:List An){p:Prop}(h:p):Ev:=⟨a,λq=>vy q p,λ_ x=>⟨x,h⟩⟩
def eO{Z:St}{k:Nat}{o:af}(h:At Z k o):Ev:=.of [.o o] h.e
def eB{x:Option Bool}{b:Bool}(h:x=some b):Ev:=.of [.b b] h
def eV{x:Option V}{v:V}(h:x=some v):Ev:=.of [.v v] h
def eL{x:Option (List V)}{v:List V}(h:x=some v):Ev:=.of [.l v] h
def eR{x:R}{v:V}{Z:St}(h:x=some (v,Z)):Ev:=.of [.r v Z] h
def eC{x:R}{v:V}{Z:St}(h:x=some (v,Z)):Ev:=.of [.c v Z] h
def eX{x:RX}{v:V}{Z:St}(h:x=some (.val v,Z)):Ev:=.of [.x v Z] h
def eY{x:Option (Fl×Ms×St)}{c:Fl}{m:Ms}{Z:St}(h:x=some (c,m,Z)):Ev:=.of [.y c m Z] h
def eN{v:V}(h:v≠ .qQ):Ev:=.of [.n] (show some v≠some V.qQ from λe=>h (Option.some.inj e))
def eP{p:Prop}(h:p):Ev:=.of [] h
def eG:Ev:=⟨[.gb],λq=>q,λ_ x=>x⟩
def Wz:Ev:=⟨[.go],λq=>q,λ_ x=>x⟩
def Ha(l:List Ev):List An:=List.rec [] (λe _ r=>e.a++r) l
def Fm(l:List Ev):Prop->Prop:=List.rec (λq=>q) (λe _ r q=>r (e.f q)) l
theorem Hb(l:List Ev):∀{q:Prop},q->Fm l q:=by
 induction l with
 | nil=>exact id
 | cons e l ih=>exact λh=>ih (e.h _ h)
theorem gF{d:Nat}{x:Str}{I:List V}{Z J:St}{v:V}(l:List Ev)(e:wL d x I Z ⟨Ha l,True⟩=some ((v,J),⟨[],Fm l True⟩)):run d x I Z=some (v,J):=Sm (Hb l trivial) _ e
theorem gS{d n:Nat}{ss:List Stmt}{m m':Ms}{Z J:St}{c:Fl}(l:List Ev)(e:nZ (wY gL (cL d) (wL d) n) ss m Z ⟨Ha l,True⟩=some ((c,m',J),⟨[],Fm l True⟩)):fG (cI gL (cL d) n) ss m Z=some (c,m',J):=Uu (Hb l trivial) _ e
theorem gX{d n:Nat}{e:Expr}{m:Ms}{Z J:St}{v:Rs}(l:List Ev)(h:wX gL (cL d) (wL d) n e m Z ⟨Ha l,True⟩=some ((v,J),⟨[],Fm l True⟩)):i8 gL (cL d) n e m Z=some (v,J):=Uv (Hb l trivial) _ h
theorem gT{d n:Nat}{t:Expr}{b:List Stmt}{v:V}{m m':Ms}{Z J:St}{c:Fl}(l:List Ev)(e:sV (wY gL (cL d) (wL d) n) t b v m Z ⟨Ha l,True⟩=some ((c,m',J),⟨[],Fm l True⟩)):forTurn (cI gL (cL d) n) t b v m Z=some (c,m',J):=Uw (Hb l trivial) _ e
theorem gC{d n:Nat}{t:Expr}{ifs:List Expr}{elt:Expr}{v:V}{m:Ms}{Z J:St}{o:Option V}(l:List Ev)
  (e:qe (wX gL (cL d) (wL d) n) (JA gL (cL d) (wL d) n) t ifs elt m v Z ⟨Ha l,True⟩=some ((o,J),⟨[],Fm l True⟩)):compTurn (i8 gL (cL d) n) (ki gL (cL d) n) t ifs elt m v Z=some (o,J):=Uz (Hb l trivial) _ e
theorem gQ{d n:Nat}{e:Expr}{m:Ms}{Z J:St}{b:Bool}(l:List Ev)(h:JA gL (cL d) (wL d) n e m Z ⟨Ha l,True⟩=some ((b,J),⟨[],Fm l True⟩)):ki gL (cL d) n e m Z=some (b,J):=UB (Hb l trivial) _ h
inductive CV where
 | n (i:Int)
 | s (s:Str)
 deriving DecidableEq
def CV.v(x:CV):V:=CV.casesOn x .int .str
inductive Ar where
 | no
 | i (k:Int)
 | c (x:CV)
 deriving DecidableEq
def Ar.v(K:List CV)(a:Ar):V:=Ar.casesOn a .none .int λx=>.int (K.idxOf x:Nat)
abbrev CR:=Int×Ar
def rv(K:List CV)(r:CR):V:=.tup [.int r.1,r.2.v K]
structure Hd where
 s:Int
 e:Int
 t:Int
 d:Int
 f:Bool
def Hd.v(h:Hd):V:=.tup [.int h.s,.int h.e,.int h.t,.int h.d,.bool h.f]
def cU:List Int:=[0,1,2,3,4,6,7,8,9,11,12,21,23,30,31,32,41,45,51,53,55,58,59,60,61,62,65]
def isJ(op:Int):Bool:=decide (58<=op)&&decide (op<=62)
noncomputable def kd(op:Int):Str:=if isJ op then "t" else if op=4 then "k" else if op=11\/op=12 then "l" else if op=21\/op=23 then "s" else ""
def jq(P:Int->Prop)(l:List Int):Prop:=List.rec True (λx _ r=>P x/\r) l
theorem jq.of{P:Int->Prop}{l:List Int}:jq P l->∀x,x∈l->P x:=by
 induction l with
 | nil=>exact λ_ x h=>absurd h List.not_mem_nil
 | cons y l ih=>exact λa x h=>(List.mem_cons.mp h).elim (λe=>e▸a.1) (ih a.2 x)
theorem gp{op:Int}(h:op∈cU):∀(d:Nat)(Z:St),run (d+1) "arg_kind" [.int op] Z=some (.str (kd op),Z):=
 jq.of (P:=λop=>∀(d:Nat)(Z:St),run (d+1) "arg_kind" [.int op] Z=some (.str (kd op),Z)) (by
  unfold cU
  repeat (first | exact trivial | refine ⟨λd Z=>by kernel_rfl,?_⟩)) op h
theorem mV{op:Int}(h:op∈cU):∀(Z:St),bf Z .Eq (.str (kd op)) (.str "t")=some (isJ op):=
 jq.of (P:=λop=>∀(Z:St),bf Z .Eq (.str (kd op)) (.str "t")=some (isJ op)) (by
  unfold cU
  repeat (first | exact trivial | refine ⟨λZ=>by kernel_rfl,?_⟩)) op h
structure CX (r:CR):Prop where
 o:r.1∈cU
 j:isJ r.1=true->∃k,r.2=.i k
noncomputable def Nq(code:List CR)(hs:List Hd)(k:Int):Bool:=code.any (λr=>isJ r.1&&decide (r.2=.i k)) || hs.any λh=>decide (h.s=k) || decide (h.e=k) || decide (h.t=k)
theorem DO{α:Type}[DecidableEq α](l:List (α×V))(k j:α)(v:V):aI (bA l k v) j=if j=k then some v else aI l j:=cT l k j v
theorem e9{α:Type}[DecidableEq α](l:List (α×V))(k:α)(v:V):(bA l k v).length<=l.length+1:=fj l k v
theorem fM{α:Type}[DecidableEq α](l:List (α×V))(k j:α)(v:V):(aI (bA l k v) j).isSome=(decide (k=j) || (aI l j).isSome):=by
 rw [DO]
 by_cases q:j=k
 ·rw [if_pos q,decide_eq_true q.symm];rfl
 ·rw [if_neg q,decide_eq_false (λz=>q z.symm)];rfl
inductive Cm where
 | al (i:Nat) (o:af)
 | fd (i x:Nat) (v:V)
 | ad (i:Nat) (v:V)
 | pu (i:Nat) (o:af)
def fN(i:Nat):Str:=bY.getD i ""
noncomputable def Hc(o:Option af):List (Str×V):=Option.casesOn o [] λo=>af.casesOn o (λ_=>[]) (λ_=>[]) (λ_=>[]) (λl=>l)
noncomputable def Pw(o:Option af):List V:=Option.casesOn o [] λo=>af.casesOn o (λl=>l) (λ_=>[]) (λ_=>[]) (λ_=>[])
noncomputable def He(l:List Cm)(i:Nat):Option af:=List.rec .none (λc _ r=>Cm.casesOn c (λk o=>bif Nat.beq k i then some o else r) (λk x v=>bif Nat.beq k i then some (.ins (bA (Hc r) (fN x) v)) else r)
 (λk v=>bif Nat.beq k i then some (.lst (Pw r++[v])) else r) λk o=>bif Nat.beq k i then some o else r) l
noncomputable def Px(Z:St)(l:List Cm):St:=List.rec Z (λc l r=>Cm.casesOn c (λk o=>⟨Z.n+(k+1),λa=>if a=Z.n+k then o else r.f a⟩) (λk x v=>r.put (Z.n+k) (.ins (bA (Hc (He l k)) (fN x) v)))
 (λk v=>r.put (Z.n+k) (.lst (Pw (He l k)++[v]))) λk o=>r.put (Z.n+k) o) l
section
variable{Z:St}{o:af}
theorem qp{f:Nat->af}{a:Nat->af}{b:Option af}{k i:Nat}(h:∀o,b=some o->f (Z.n+i)=o)(e:(bif Nat.beq k i then some (a i) else b)=some o):(if Z.n+i=Z.n+k then a k else f (Z.n+i))=o:=
 uC e (λq e=>by
  have q:=Nat.eq_of_beq_eq_true q
  subst q
  exact bG e (if_pos rfl)) λq e=>(if_neg λz=>bF (q.symm.trans ((congrArg (Nat.beq k) (Nat.add_left_cancel z)).trans (Nat.beq_refl k)))).trans (h o e)
theorem Hf{l:List Cm}{i:Nat}:∀{o:af},He l i=some o->(Px Z l).f (Z.n+i)=o:=by
 induction l with
 | nil=>exact nN
 | cons c l ih=>
  intro o
  induction c using Cm.casesOn with
  | al k p=>exact qp (a:=λ_=>p) λo=>ih
  | fd k x v=>exact qp (a:=λk=>.ins (bA (Hc (He l k)) (fN x) v)) λo=>ih
  | ad k v=>exact qp (a:=λk=>.lst (Pw (He l k)++[v])) λo=>ih
  | pu k p=>exact qp (a:=λ_=>p) λo=>ih
end
def Sn:Ev:=⟨[],λq=>q,λ_ x=>x⟩
noncomputable def UC(Z:St)(l:List Cm)(i:Nat):Ev:=Option.rec (motive:=λx=>He l i=x->Ev) (λ_=>Sn) (λo h=>⟨[.o o],λq=>vy q ((Px Z l).f (Z.n+i)=o),λq x=>⟨x,Hf h⟩⟩) (He l i) rfl
def Lm(p:Prop)[d:Decidable p]:Ev:=Decidable.casesOn d (λ_=>Sn) λh=>eP h
noncomputable def tk(Z:St)(l:List Cm)(t a b:Nat):Ev:=Nat.casesOn t (UC Z (l.drop a) b) λt=>Nat.casesOn t (Lm (a<aq)) λt=>Nat.casesOn t (Lm (a<=aq)) λt=>Nat.casesOn t (Lm (a+b<=aq)) λt=>Nat.casesOn t (Lm (a<4096))
 λ_=>Lm ((b:Int)-(a:Int)<=4096/\(a:Int).natAbs<2^60/\(b:Int).natAbs<2^60)
def So(x:Nat)(f:Nat->Ev):Ev:=Nat.casesOn x (f 0) λk=>f (Nat.succ k)
noncomputable def tp(Z:St)(l:List Cm)(k:Nat):Nat->List Ev:=Nat.rec (λ_=>[]) (λ_ r N=>So (N/1024%1024) (λa=>So (N/1048576%1024) λb=>tk Z l (N%1024) a b)::r (N/1073741824)) k
abbrev sS(Z:St)(l:List Cm)(j:Nat):St:=Px Z (l.drop j)
end Mine
end
section
namespace Mine
open PySem
open Cm
noncomputable def UE(n:Nat):List Cm:=[pu 160 (.ins [("name",.str "g"),("params",.ref (n+159)),("code",.ref (n+161)),("consts",.ref (n+168)),("units",.ref (n+180)),("handlers",.ref (n+164)),("lines",.ref (n+165)),("local_count",.int 0),("cell_count",.int 0),("captures",.ref (n+170)),("is_strict",.bool false),("uses_arguments",.bool false),("self_slot",.none),("arguments_place",.none),("param_places",.ref (n+171))]),al 180 (.lst []),al 179 (.lst []),ad 161 (.tup [.int 65,.none]),al 178 (.lst []),ad 161 (.tup [.int 0,.none]),al 177 (.lst []),ad 161 (.tup [.int 6,.none]),al 176 (.lst []),ad 161 (.tup [.int 58,.int 2]),al 175 (.lst []),ad 161 (.tup [.int 6,.none]),al 174 (.lst []),ad 161 (.tup [.int 77,.int 5]),al 173 (.lst []),ad 161 (.tup [.int 76,.none]),al 172 (.lst []),ad 161 (.tup [.int 1,.none]),pu 160 (.ins [("name",.str "g"),("params",.ref (n+159)),("code",.ref (n+161)),("consts",.ref (n+168)),("units",.ref (n+169)),("handlers",.ref (n+164)),("lines",.ref (n+165)),("local_count",.int 0),("cell_count",.int 0),("captures",.ref (n+170)),("is_strict",.bool false),("uses_arguments",.bool false),("self_slot",.none),("arguments_place",.none),("param_places",.ref (n+171))]),al 171 (.lst []),fd 160 7 (.int 0),fd 160 7 (.int 0),fd 160 7 (.int 0),fd 160 7 (.int 0),fd 160 9 (.ref (n+170)),al 170 (.lst []),fd 160 7 (.int 0),fd 160 7 (.int 0),fd 160 4 (.ref (n+169)),al 169 (.lst []),fd 160 3 (.ref (n+168)),al 168 (.lst []),fd 160 14 (.ref (n+167)),al 167 (.lst []),fd 160 13 (.none),fd 160 12 (.none),fd 160 11 (.bool false),fd 160 10 (.bool false),fd 160 9 (.ref (n+166)),al 166 (.lst []),fd 160 8 (.int 0),fd 160 7 (.int 0),fd 160 6 (.ref (n+165)),al 165 (.lst []),fd 160 5 (.ref (n+164)),al 164 (.lst []),fd 160 4 (.ref (n+163)),al 163 (.lst []),fd 160 3 (.ref (n+162)),al 162 (.lst [])]
noncomputable def UG(n:Nat):List Cm:=[fd 160 2 (.ref (n+161)),al 161 (.lst []),fd 160 1 (.ref (n+159)),fd 160 0 (.str "g"),al 160 (.ins []),al 159 (.lst []),al 158 (.lst []),ad 157 (.int 8),ad 156 (.tup [.int 65,.none,.int 0]),ad 157 (.int 7),ad 156 (.tup [.int 0,.none,.int 0]),ad 157 (.int 6),ad 156 (.tup [.int 6,.none,.int 0]),ad 157 (.int 5),ad 156 (.tup [.int 58,.int 2,.int 0]),ad 157 (.int 4),ad 156 (.tup [.int 6,.none,.int 0]),ad 157 (.int 3),ad 156 (.tup [.int 77,.int 5,.int 0]),ad 157 (.int 2),ad 156 (.tup [.int 76,.none,.int 0]),ad 157 (.int 1),ad 156 (.tup [.int 1,.none,.int 0]),ad 157 (.int 0),al 157 (.lst []),al 156 (.lst []),ad 155 (.int 2),al 155 (.lst []),pu 147 (.lst []),ad 147 (.int 4),pu 146 (.bO [(0,.bool true),(1,.bool true),(2,.bool true),(3,.bool true),(5,.bool true),(6,.bool true),(7,.bool true),(4,.bool true)]),al 154 (.lst [.int 4]),pu 147 (.lst []),al 153 (.lst []),pu 147 (.lst [.int 3]),ad 147 (.int 7),pu 146 (.bO [(0,.bool true),(1,.bool true),(2,.bool true),(3,.bool true),(5,.bool true),(6,.bool true),(7,.bool true)]),al 152 (.lst [.int 7]),pu 147 (.lst [.int 3]),ad 147 (.int 6),pu 146 (.bO [(0,.bool true),(1,.bool true),(2,.bool true),(3,.bool true),(5,.bool true),(6,.bool true)]),al 151 (.lst [.int 6]),pu 147 (.lst [.int 3]),ad 147 (.int 5),pu 146 (.bO [(0,.bool true),(1,.bool true),(2,.bool true),(3,.bool true),(5,.bool true)]),ad 147 (.int 3),pu 146 (.bO [(0,.bool true),(1,.bool true),(2,.bool true),(3,.bool true)]),ad 150 (.int 5),al 150 (.lst [.int 3]),pu 147 (.lst [])]
noncomputable def UH(n:Nat):List Cm:=[ad 147 (.int 2),pu 146 (.bO [(0,.bool true),(1,.bool true),(2,.bool true)]),al 149 (.lst [.int 2]),pu 147 (.lst []),ad 147 (.int 1),pu 146 (.bO [(0,.bool true),(1,.bool true)]),al 148 (.lst [.int 1]),pu 147 (.lst []),al 147 (.lst [.int 0]),al 146 (.bO [(0,.bool true)]),al 145 (.lst []),ad 127 (.tup [.int 65,.none]),al 144 (.lst []),ad 127 (.tup [.int 0,.none]),al 143 (.lst []),ad 127 (.tup [.int 6,.none]),al 142 (.lst []),ad 127 (.tup [.int 58,.int 2]),al 141 (.lst []),ad 127 (.tup [.int 6,.none]),al 140 (.lst []),ad 127 (.tup [.int 77,.int 5]),al 139 (.lst []),ad 127 (.tup [.int 76,.none]),al 138 (.lst []),ad 127 (.tup [.int 1,.none]),pu 126 (.ins [("name",.str "g"),("params",.ref (n+125)),("code",.ref (n+127)),("consts",.ref (n+134)),("units",.ref (n+135)),("handlers",.ref (n+130)),("lines",.ref (n+131)),("local_count",.int 0),("cell_count",.int 0),("captures",.ref (n+136)),("is_strict",.bool false),("uses_arguments",.bool false),("self_slot",.none),("arguments_place",.none),("param_places",.ref (n+137))]),al 137 (.lst []),fd 126 7 (.int 0),fd 126 7 (.int 0),fd 126 7 (.int 0),fd 126 7 (.int 0),fd 126 9 (.ref (n+136)),al 136 (.lst []),fd 126 7 (.int 0),fd 126 7 (.int 0),fd 126 4 (.ref (n+135)),al 135 (.lst []),fd 126 3 (.ref (n+134)),al 134 (.lst []),fd 126 14 (.ref (n+133)),al 133 (.lst []),fd 126 13 (.none),fd 126 12 (.none),fd 126 11 (.bool false),fd 126 10 (.bool false),fd 126 9 (.ref (n+132)),al 132 (.lst []),fd 126 8 (.int 0),fd 126 7 (.int 0)]
noncomputable def UI(n:Nat):List Cm:=[fd 126 6 (.ref (n+131)),al 131 (.lst []),fd 126 5 (.ref (n+130)),al 130 (.lst []),fd 126 4 (.ref (n+129)),al 129 (.lst []),fd 126 3 (.ref (n+128)),al 128 (.lst []),fd 126 2 (.ref (n+127)),al 127 (.lst []),fd 126 1 (.ref (n+125)),fd 126 0 (.str "g"),al 126 (.ins []),al 125 (.lst []),al 124 (.lst []),ad 123 (.int 8),ad 122 (.tup [.int 65,.none,.int 0]),ad 123 (.int 7),ad 122 (.tup [.int 0,.none,.int 0]),ad 123 (.int 6),ad 122 (.tup [.int 6,.none,.int 0]),ad 123 (.int 5),ad 123 (.int 5),ad 122 (.tup [.int 58,.int 2,.int 0]),ad 123 (.int 4),ad 122 (.tup [.int 6,.none,.int 0]),ad 123 (.int 3),ad 122 (.tup [.int 77,.int 6,.int 0]),ad 123 (.int 2),ad 122 (.tup [.int 76,.none,.int 0]),ad 123 (.int 1),ad 122 (.tup [.int 1,.none,.int 0]),ad 123 (.int 0),al 123 (.lst []),al 122 (.lst []),ad 121 (.int 2),al 121 (.lst []),pu 113 (.lst []),ad 113 (.int 4),pu 112 (.bO [(0,.bool true),(1,.bool true),(2,.bool true),(3,.bool true),(6,.bool true),(7,.bool true),(8,.bool true),(4,.bool true)]),al 120 (.lst [.int 4]),pu 113 (.lst []),al 119 (.lst []),pu 113 (.lst [.int 3]),ad 113 (.int 8),pu 112 (.bO [(0,.bool true),(1,.bool true),(2,.bool true),(3,.bool true),(6,.bool true),(7,.bool true),(8,.bool true)]),al 118 (.lst [.int 8]),pu 113 (.lst [.int 3]),ad 113 (.int 7),pu 112 (.bO [(0,.bool true),(1,.bool true),(2,.bool true),(3,.bool true),(6,.bool true),(7,.bool true)])]
noncomputable def UJ(n:Nat):List Cm:=[al 117 (.lst [.int 7]),pu 113 (.lst [.int 3]),ad 113 (.int 6),pu 112 (.bO [(0,.bool true),(1,.bool true),(2,.bool true),(3,.bool true),(6,.bool true)]),ad 113 (.int 3),pu 112 (.bO [(0,.bool true),(1,.bool true),(2,.bool true),(3,.bool true)]),ad 116 (.int 6),al 116 (.lst [.int 3]),pu 113 (.lst []),ad 113 (.int 2),pu 112 (.bO [(0,.bool true),(1,.bool true),(2,.bool true)]),al 115 (.lst [.int 2]),pu 113 (.lst []),ad 113 (.int 1),pu 112 (.bO [(0,.bool true),(1,.bool true)]),al 114 (.lst [.int 1]),pu 113 (.lst []),al 113 (.lst [.int 0]),al 112 (.bO [(0,.bool true)]),al 111 (.lst [.tup [.int 1,.none],.tup [.int 76,.none],.tup [.int 77,.int 5],.tup [.int 6,.none],.tup [.int 58,.int 2],.tup [.int 6,.none],.tup [.int 0,.none],.tup [.int 65,.none]]),al 110 (.lst [.tup [.int 1,.none],.tup [.int 76,.none],.tup [.int 77,.int 6],.tup [.int 6,.none],.tup [.int 58,.int 2],.tup [.int 58,.int 6],.tup [.int 6,.none],.tup [.int 0,.none],.tup [.int 65,.none]]),al 109 (.lst [.tup [.int 6,.none],.tup [.int 58,.int 2],.tup [.int 58,.int 6],.tup [.int 6,.none],.tup [.int 0,.none],.tup [.int 65,.none]]),al 108 (.lst [.tup [.int 1,.none],.tup [.int 76,.none],.tup [.int 77,.int 6]]),pu 93 (.ins [("name",.str "g"),("params",.ref (n+92)),("code",.ref (n+86)),("consts",.ref (n+101)),("units",.ref (n+107)),("handlers",.ref (n+106)),("lines",.ref (n+105)),("local_count",.int 0),("cell_count",.int 0),("captures",.ref (n+103)),("is_strict",.bool false),("uses_arguments",.bool false),("self_slot",.none),("arguments_place",.none),("param_places",.ref (n+104))]),al 107 (.lst []),fd 93 5 (.ref (n+106)),al 106 (.lst []),fd 93 6 (.ref (n+105)),al 105 (.lst []),fd 93 2 (.ref (n+86)),fd 93 14 (.ref (n+104)),al 104 (.lst []),fd 93 7 (.int 0),fd 93 7 (.int 0),fd 93 7 (.int 0),fd 93 7 (.int 0),fd 93 9 (.ref (n+103)),al 103 (.lst []),fd 93 7 (.int 0),fd 93 7 (.int 0),fd 93 4 (.ref (n+102)),al 102 (.lst []),fd 93 3 (.ref (n+101)),al 101 (.lst []),fd 93 14 (.ref (n+100)),al 100 (.lst []),fd 93 13 (.none),fd 93 12 (.none),fd 93 11 (.bool false),fd 93 10 (.bool false)]
noncomputable def UK(n:Nat):List Cm:=[fd 93 9 (.ref (n+99)),al 99 (.lst []),fd 93 8 (.int 0),fd 93 7 (.int 0),fd 93 6 (.ref (n+98)),al 98 (.lst []),fd 93 5 (.ref (n+97)),al 97 (.lst []),fd 93 4 (.ref (n+96)),al 96 (.lst []),fd 93 3 (.ref (n+95)),al 95 (.lst []),fd 93 2 (.ref (n+94)),al 94 (.lst []),fd 93 1 (.ref (n+92)),fd 93 0 (.str "g"),al 93 (.ins []),al 92 (.lst []),ad 86 (.tup [.int 65,.none]),ad 86 (.tup [.int 0,.none]),ad 86 (.tup [.int 6,.none]),ad 86 (.tup [.int 58,.int 6]),al 91 (.bO []),al 90 (.bO []),ad 86 (.tup [.int 58,.int 2]),al 89 (.bO []),al 88 (.bO []),ad 86 (.tup [.int 6,.none]),ad 86 (.tup [.int 77,.int 6]),pu 87 (.bO [(5,.bool true)]),al 87 (.bO []),ad 86 (.tup [.int 76,.none]),ad 86 (.tup [.int 1,.none]),al 86 (.lst []),pu 1 (.ins [("name",.str "g"),("params",.ref n),("code",.ref (n+85)),("consts",.ref (n+3)),("units",.ref (n+4)),("handlers",.ref (n+5)),("lines",.ref (n+6)),("local_count",.int 0),("cell_count",.int 0),("captures",.ref (n+7)),("is_strict",.bool false),("uses_arguments",.bool false),("self_slot",.none),("arguments_place",.none),("param_places",.ref (n+8))]),al 85 (.lst [.tup [.int 1,.none],.tup [.int 76,.none],.tup [.int 77,.int 5],.tup [.int 6,.none],.tup [.int 58,.int 2],.tup [.int 58,.int 6],.tup [.int 6,.none],.tup [.int 0,.none],.tup [.int 65,.none]]),al 84 (.lst [.tup [.int 78,.int 3],.tup [.int 0,.none],.tup [.int 65,.none],.tup [.int 79,.none]]),pu 67 (.ins [("name",.str "g"),("params",.ref (n+66)),("code",.ref (n+68)),("consts",.ref (n+75)),("units",.ref (n+83)),("handlers",.ref (n+71)),("lines",.ref (n+72)),("local_count",.int 0),("cell_count",.int 0),("captures",.ref (n+77)),("is_strict",.bool false),("uses_arguments",.bool false),("self_slot",.none),("arguments_place",.none),("param_places",.ref (n+78))]),al 83 (.lst []),al 82 (.lst []),ad 68 (.tup [.int 79,.none]),al 81 (.lst []),ad 68 (.tup [.int 65,.none]),al 80 (.lst []),ad 68 (.tup [.int 0,.none]),al 79 (.lst []),ad 68 (.tup [.int 78,.int 3]),pu 67 (.ins [("name",.str "g"),("params",.ref (n+66)),("code",.ref (n+68)),("consts",.ref (n+75)),("units",.ref (n+76)),("handlers",.ref (n+71)),("lines",.ref (n+72)),("local_count",.int 0),("cell_count",.int 0),("captures",.ref (n+77)),("is_strict",.bool false),("uses_arguments",.bool false),("self_slot",.none),("arguments_place",.none),("param_places",.ref (n+78))]),al 78 (.lst []),fd 67 7 (.int 0)]
noncomputable def UL(n:Nat):List Cm:=[fd 67 7 (.int 0),fd 67 7 (.int 0),fd 67 7 (.int 0),fd 67 9 (.ref (n+77)),al 77 (.lst []),fd 67 7 (.int 0),fd 67 7 (.int 0),fd 67 4 (.ref (n+76)),al 76 (.lst []),fd 67 3 (.ref (n+75)),al 75 (.lst []),fd 67 14 (.ref (n+74)),al 74 (.lst []),fd 67 13 (.none),fd 67 12 (.none),fd 67 11 (.bool false),fd 67 10 (.bool false),fd 67 9 (.ref (n+73)),al 73 (.lst []),fd 67 8 (.int 0),fd 67 7 (.int 0),fd 67 6 (.ref (n+72)),al 72 (.lst []),fd 67 5 (.ref (n+71)),al 71 (.lst []),fd 67 4 (.ref (n+70)),al 70 (.lst []),fd 67 3 (.ref (n+69)),al 69 (.lst []),fd 67 2 (.ref (n+68)),al 68 (.lst []),fd 67 1 (.ref (n+66)),fd 67 0 (.str "g"),al 67 (.ins []),al 66 (.lst []),al 65 (.lst []),ad 64 (.int 4),ad 63 (.tup [.int 79,.none,.int 0]),ad 64 (.int 3),ad 63 (.tup [.int 65,.none,.int 0]),ad 64 (.int 2),ad 63 (.tup [.int 0,.none,.int 0]),ad 64 (.int 1),ad 63 (.tup [.int 78,.int 3,.int 0]),ad 64 (.int 0),al 64 (.lst []),al 63 (.lst []),al 62 (.lst []),pu 58 (.lst []),ad 58 (.int 2)]
noncomputable def UM(n:Nat):List Cm:=[pu 57 (.bO [(0,.bool true),(1,.bool true),(3,.bool true),(2,.bool true)]),al 61 (.lst [.int 2]),pu 58 (.lst []),al 60 (.lst []),pu 58 (.lst [.int 1]),ad 58 (.int 3),pu 57 (.bO [(0,.bool true),(1,.bool true),(3,.bool true)]),ad 58 (.int 1),pu 57 (.bO [(0,.bool true),(1,.bool true)]),ad 59 (.int 3),al 59 (.lst [.int 1]),pu 58 (.lst []),al 58 (.lst [.int 0]),al 57 (.bO [(0,.bool true)]),al 56 (.lst []),ad 42 (.tup [.int 79,.none]),al 55 (.lst []),ad 42 (.tup [.int 65,.none]),al 54 (.lst []),ad 42 (.tup [.int 0,.none]),al 53 (.lst []),ad 42 (.tup [.int 78,.int 3]),pu 41 (.ins [("name",.str "g"),("params",.ref (n+40)),("code",.ref (n+42)),("consts",.ref (n+49)),("units",.ref (n+50)),("handlers",.ref (n+45)),("lines",.ref (n+46)),("local_count",.int 0),("cell_count",.int 0),("captures",.ref (n+51)),("is_strict",.bool false),("uses_arguments",.bool false),("self_slot",.none),("arguments_place",.none),("param_places",.ref (n+52))]),al 52 (.lst []),fd 41 7 (.int 0),fd 41 7 (.int 0),fd 41 7 (.int 0),fd 41 7 (.int 0),fd 41 9 (.ref (n+51)),al 51 (.lst []),fd 41 7 (.int 0),fd 41 7 (.int 0),fd 41 4 (.ref (n+50)),al 50 (.lst []),fd 41 3 (.ref (n+49)),al 49 (.lst []),fd 41 14 (.ref (n+48)),al 48 (.lst []),fd 41 13 (.none),fd 41 12 (.none),fd 41 11 (.bool false),fd 41 10 (.bool false),fd 41 9 (.ref (n+47)),al 47 (.lst []),fd 41 8 (.int 0),fd 41 7 (.int 0),fd 41 6 (.ref (n+46)),al 46 (.lst []),fd 41 5 (.ref (n+45)),al 45 (.lst [])]
noncomputable def UN(n:Nat):List Cm:=[fd 41 4 (.ref (n+44)),al 44 (.lst []),fd 41 3 (.ref (n+43)),al 43 (.lst []),fd 41 2 (.ref (n+42)),al 42 (.lst []),fd 41 1 (.ref (n+40)),fd 41 0 (.str "g"),al 41 (.ins []),al 40 (.lst []),al 39 (.lst []),ad 37 (.int 4),ad 36 (.tup [.int 79,.none,.int 0]),ad 37 (.int 3),al 38 (.lst []),ad 37 (.int 3),ad 36 (.tup [.int 65,.none,.int 0]),ad 37 (.int 2),ad 36 (.tup [.int 0,.none,.int 0]),ad 37 (.int 1),ad 36 (.tup [.int 78,.int 3,.int 0]),ad 37 (.int 0),al 37 (.lst []),al 36 (.lst []),al 35 (.lst []),pu 30 (.lst []),ad 30 (.int 2),pu 29 (.bO [(0,.bool true),(1,.bool true),(3,.bool true),(4,.bool true),(2,.bool true)]),al 34 (.lst [.int 2]),pu 30 (.lst []),al 33 (.lst []),pu 30 (.lst [.int 1]),ad 30 (.int 4),pu 29 (.bO [(0,.bool true),(1,.bool true),(3,.bool true),(4,.bool true)]),ad 32 (.int 4),al 32 (.lst []),pu 30 (.lst [.int 1]),ad 30 (.int 3),pu 29 (.bO [(0,.bool true),(1,.bool true),(3,.bool true)]),ad 30 (.int 1),pu 29 (.bO [(0,.bool true),(1,.bool true)]),ad 31 (.int 3),al 31 (.lst [.int 1]),pu 30 (.lst []),al 30 (.lst [.int 0]),al 29 (.bO [(0,.bool true)]),pu 14 (.ins [("name",.str "g"),("params",.ref (n+13)),("code",.ref (n+10)),("consts",.ref (n+22)),("units",.ref (n+28)),("handlers",.ref (n+27)),("lines",.ref (n+26)),("local_count",.int 0),("cell_count",.int 0),("captures",.ref (n+24)),("is_strict",.bool false),("uses_arguments",.bool false),("self_slot",.none),("arguments_place",.none),("param_places",.ref (n+25))]),al 28 (.lst []),fd 14 5 (.ref (n+27)),al 27 (.lst [])]
noncomputable def UO(n:Nat):List Cm:=[fd 14 6 (.ref (n+26)),al 26 (.lst []),fd 14 2 (.ref (n+10)),fd 14 14 (.ref (n+25)),al 25 (.lst []),fd 14 7 (.int 0),fd 14 7 (.int 0),fd 14 7 (.int 0),fd 14 7 (.int 0),fd 14 9 (.ref (n+24)),al 24 (.lst []),fd 14 7 (.int 0),fd 14 7 (.int 0),fd 14 4 (.ref (n+23)),al 23 (.lst []),fd 14 3 (.ref (n+22)),al 22 (.lst []),fd 14 14 (.ref (n+21)),al 21 (.lst []),fd 14 13 (.none),fd 14 12 (.none),fd 14 11 (.bool false),fd 14 10 (.bool false),fd 14 9 (.ref (n+20)),al 20 (.lst []),fd 14 8 (.int 0),fd 14 7 (.int 0),fd 14 6 (.ref (n+19)),al 19 (.lst []),fd 14 5 (.ref (n+18)),al 18 (.lst []),fd 14 4 (.ref (n+17)),al 17 (.lst []),fd 14 3 (.ref (n+16)),al 16 (.lst []),fd 14 2 (.ref (n+15)),al 15 (.lst []),fd 14 1 (.ref (n+13)),fd 14 0 (.str "g"),al 14 (.ins []),al 13 (.lst []),ad 10 (.tup [.int 79,.none]),ad 10 (.tup [.int 58,.int 4]),al 12 (.bO []),al 11 (.bO []),ad 10 (.tup [.int 65,.none]),ad 10 (.tup [.int 0,.none]),ad 10 (.tup [.int 78,.int 3]),al 10 (.lst []),pu 1 (.ins [("name",.str "g"),("params",.ref n),("code",.ref (n+9)),("consts",.ref (n+3)),("units",.ref (n+4)),("handlers",.ref (n+5)),("lines",.ref (n+6)),("local_count",.int 0),("cell_count",.int 0),("captures",.ref (n+7)),("is_strict",.bool false),("uses_arguments",.bool false),("self_slot",.none),("arguments_place",.none),("param_places",.ref (n+8))])]
noncomputable def Py(n:Nat):List Cm:=[al 9 (.lst [.tup [.int 78,.int 3],.tup [.int 0,.none],.tup [.int 65,.none],.tup [.int 58,.int 4],.tup [.int 79,.none]]),fd 1 14 (.ref (n+8)),al 8 (.lst []),fd 1 13 (.none),fd 1 12 (.none),fd 1 11 (.bool false),fd 1 10 (.bool false),fd 1 9 (.ref (n+7)),al 7 (.lst []),fd 1 8 (.int 0),fd 1 7 (.int 0),fd 1 6 (.ref (n+6)),al 6 (.lst []),fd 1 5 (.ref (n+5)),al 5 (.lst []),fd 1 4 (.ref (n+4)),al 4 (.lst []),fd 1 3 (.ref (n+3)),al 3 (.lst []),fd 1 2 (.ref (n+2)),al 2 (.lst []),fd 1 1 (.ref n),fd 1 0 (.str "g"),al 1 (.ins []),al 0 (.lst [])]
noncomputable def sC(n:Nat):List Cm:=UE n++(UG n++(UH n++(UI n++(UJ n++(UK n++(UL n++(UM n++(UN n++(UO n++(Py n))))))))))
theorem UP(Z:St):run 24 "copy_head" [.ref (Z.n+1)] (sS Z (sC Z.n) 491)=some (.ref (Z.n+14),sS Z (sC Z.n) 453):=gF (tp Z (sC Z.n) 49 460746332549693721083896084910535318740768685106083954552305360255391626631543663690278322255483785784526473415414917383169944504020506452839018915442448011594440382463679418744012367290959004142146298986312304812962472967230591111611254370176354327363315275507032735234709529953204195009951614118025496948184979753816944823908020765473231352013361377911634493992955701693893304242621531445418806886096680211423885313433319685816594980121600) (by kernel_rfl)
theorem UQ(Z:St):run 25 "with_code" [.ref (Z.n+1),.ref (Z.n+10)] (sS Z (sC Z.n) 491)=some (.ref (Z.n+14),sS Z (sC Z.n) 448):=gF ([eC (UP Z)]++tp Z (sC Z.n) 7 23201737297563582895267470764036464122690094908308111640433664) (by kernel_rfl)
theorem UR(Z:St):run 26 "thread_one" [.ref (Z.n+1)] (sS Z (sC Z.n) 499)=some (.ref (Z.n+14),sS Z (sC Z.n) 448):=gF (tp Z (sC Z.n) 26 58868332507690494689598488227867009250468672645446367676723262246895861296274462791899279705094114426095461205441428098886053152378450616052966702957619581305765681119067842238487268278407216620202409333148764367893872322791767801858++[eC (UQ Z)]) (by kernel_rfl)
theorem US(Z:St):run 27 "for_all" [.ref (Z.n+1),.bo "thread_one"] (sS Z (sC Z.n) 499)=some (.ref (Z.n+14),sS Z (sC Z.n) 446):=gF ([eC (UR Z)]++tp Z (sC Z.n) 3 17452685955453770380279808) (by kernel_rfl)
theorem UT(Z:St):run 28 "thread_unit" [.ref (Z.n+1)] (sS Z (sC Z.n) 499)=some (.ref (Z.n+14),sS Z (sC Z.n) 446):=gF ([eC (US Z)]) (by kernel_rfl)
theorem UU(Z:St):run 24 "live_places" [.ref (Z.n+1)] (sS Z (sC Z.n) 446)=some (.ref (Z.n+29),sS Z (sC Z.n) 424):=gF (tp Z (sC Z.n) 89 16705631631172918276248438621738739857273087017468853456221004718313006806765908933578635283377312279276377215268176493698119564146714263872251262300093586811877055638796828429214654180016404586132242947228903736259668775659276883448318505973102195202567268429072708089104135970913148489183281619735490380411708624310894164281977306038851542940433746989196470566171278298979071547157203077030927843681939548656885656938248981461825287572992894394151861778783449292808903052206555067357171735113636444762344790988362308223681737221458983807745188678152202080291760438757652387227987747276472251171242777714934914736702048134110103476146551970485173997319612831509679950385401819051386122619761828168784599654128767161378087145478818971778456936714623821436619542355728318550390879362467587890253374948354) (by kernel_rfl)
theorem UW(Z:St):run 23 "copy_head" [.ref (Z.n+1)] (sS Z (sC Z.n) 410)=some (.ref (Z.n+41),sS Z (sC Z.n) 372):=gF (tp Z (sC Z.n) 49 1319528897961914666736254270988963953064696870727613030567010601161336177043873804780336930305931259856702622940128873269207191504065062300395953988786327271810343162106410932899117677203876603094204264999833070428113868238223815612983475288007224960581013882875555442053802686071856304278923027972689601347011648579729349782129043243501426455273515048794910036978499138447736020132850456264248084175822182188554620875915585371286239438071808) (by kernel_rfl)
theorem UX(Z:St):run 24 "rebuilt" [.ref (Z.n+1),.ref (Z.n+36),.ref (Z.n+37),.ref (Z.n+39)] (sS Z (sC Z.n) 410)=some (.ref (Z.n+41),sS Z (sC Z.n) 364):=gF ([eC (UW Z)]++tp Z (sC Z.n) 39 616311200020664900566446726400660779251539344907040596624492459201752863932190485306806930161583400611653617641267528826834781230507294576098530315521573339571691406310916144896746561964535830399707610376679927097420597917949520501359242409315597601644082516788016233318954990157976911319642011518795294718278995116803345359709876456616763976199819264) (by kernel_rfl)
theorem UY(Z:St):run 25 "clean_once" [.ref (Z.n+1)] (sS Z (sC Z.n) 446)=some (.ref (Z.n+41),sS Z (sC Z.n) 364):=gF ([eC (UU Z)]++tp Z (sC Z.n) 73 950373349830298816131115340026777403263876356879312201299141428448057051803361014185259840745092794238028800309343451102121753827189242990897591008222729369517874103397646924153638079296220097939018219811210307267751901091325742068067029501069354629284608206370935817164225545920809703106129595392310963725189944359247516211228293096592631719524163068404321111582539262193829304413318263455487189352503224637702618009899723397874343246299983972589149611731029142231980880692851939004312161909039130696533849155624475824193083257236380356283833358509277475380924819212927362442277995675515796628918885913840628946761280690262542502855027408816098676303724546++[eC (UX Z)]) (by kernel_rfl)
theorem Pz(Z:St):run 24 "live_places" [.ref (Z.n+41)] (sS Z (sC Z.n) 364)=some (.ref (Z.n+57),sS Z (sC Z.n) 347):=gF (tp Z (sC Z.n) 68 7191991908905378865335925715226497366442173002779873945367565227364746659037044712845221240455114717187242631499292200132535073493756691649470965840250674735441455116536550799135094771097633523166187568254699209026503387594095257044333236072016765922036684808554554642862012807084863778436969280861497344763824633282515462617312154705562154937552790024313187248635551118190194373125369855732178668149669065517130080893835292530776671572920009954527165312656595712695244338011523485523089382476944799142626758714573254837617395255670528582942269915729756110320018662404473609306033084088079337437356906756156949506) (by kernel_rfl)
theorem PA(Z:St):run 23 "copy_head" [.ref (Z.n+41)] (sS Z (sC Z.n) 335)=some (.ref (Z.n+67),sS Z (sC Z.n) 297):=gF (tp Z (sC Z.n) 49 2146598160673396181669767800141089898595887568721945057441600611777277014201763050588201116234090221934528853996316927794833485014374236677141357503468780302075777614888952543870195057986523125389217284874067863522553752905373697049534592858486706561217492246567535654018620502386068016196923082070925397065030511966651488560649368459019940131426086643991676615973014966460669460412939825533466102286175187806634703206943443304373367805918208) (by kernel_rfl)
theorem PB(Z:St):run 24 "rebuilt" [.ref (Z.n+41),.ref (Z.n+63),.ref (Z.n+64),.ref (Z.n+65)] (sS Z (sC Z.n) 335)=some (.ref (Z.n+67),sS Z (sC Z.n) 289):=gF ([eC (PA Z)]++tp Z (sC Z.n) 39 1022327231065280627174920363432073589654713836937907694966102102211566781398008556815129163300923447272157250756336331980241758079496437189183977009384214435386560019478985749769265085931222427654853644447435823862544153254411157709700457763219619212732263200966458490659737693124330807317426720205728156392575513074674881722444386161900233006186275840) (by kernel_rfl)
theorem PC(Z:St):run 25 "clean_once" [.ref (Z.n+41)] (sS Z (sC Z.n) 364)=some (.ref (Z.n+67),sS Z (sC Z.n) 289):=gF ([eC (Pz Z)]++tp Z (sC Z.n) 63 3915250948742486509765743029563714375507809659897095301629902842110306942946976298775224320517743728357188917417446740532790481694679668121314364423960690811933331499741667584704384403844134259936820404821936988794067714685295163091693549223147896324541813495686959154243420913553763610062062029096417449765403944984533104646782262451427692197940176595111189772798223046943527747951988250310874254078006433040623695642175959610701549604895960248629594276461730215128295790039470923822205660107553981618764540177416844383174954543205686060574666041366017823832914526210++[eC (PB Z)]) (by kernel_rfl)
theorem PD(Z:St):run 26 "clean_one" [.ref (Z.n+1)] (sS Z (sC Z.n) 446)=some (.ref (Z.n+67),sS Z (sC Z.n) 289):=gF ([eC (UY Z)]++tp Z (sC Z.n) 4 12144092751825098883582201959919616++[eC (PC Z)]++tp Z (sC Z.n) 4 54885468087988798056068839309083648) (by kernel_rfl)
theorem PE(Z:St):run 27 "for_all" [.ref (Z.n+1),.bo "clean_one"] (sS Z (sC Z.n) 446)=some (.ref (Z.n+67),sS Z (sC Z.n) 287):=gF ([eC (PD Z)]++tp Z (sC Z.n) 3 81338040386832921011717120) (by kernel_rfl)
theorem PG(Z:St):run 28 "clean_unit" [.ref (Z.n+1)] (sS Z (sC Z.n) 446)=some (.ref (Z.n+67),sS Z (sC Z.n) 287):=gF ([eC (PE Z)]) (by kernel_rfl)
theorem PH(Z:St):run 24 "copy_head" [.ref (Z.n+1)] (sS Z (sC Z.n) 268)=some (.ref (Z.n+93),sS Z (sC Z.n) 230):=gF (tp Z (sC Z.n) 49 2973916641234401179266303347885716732365980290448158214540654901397286733721091638393997059801290268636456100693114727839605924328811820457575628820525998272760024336296678644154951602599110513922082811716081759557610773167507006955850305726109010828561384223704441765475681846152163549828881868094073863611574984303594446767565271825538711765251482906539715236856075002624161565460539229505591103053798692622411969983788782553216549437845504) (by kernel_rfl)
theorem PI(Z:St):run 25 "with_code" [.ref (Z.n+1),.ref (Z.n+86)] (sS Z (sC Z.n) 268)=some (.ref (Z.n+93),sS Z (sC Z.n) 225):=gF ([eC (PH Z)]++tp Z (sC Z.n) 7 149799894371950092345070307678856760364090042413185829459695616) (by kernel_rfl)
theorem PJ(Z:St):run 26 "thread_one" [.ref (Z.n+1)] (sS Z (sC Z.n) 284)=some (.ref (Z.n+93),sS Z (sC Z.n) 225):=gF (tp Z (sC Z.n) 54 3881924657782458162346818844456786064249076830610004747988043833106271991394825089236111743830002770529598349210529599538437557198611040855996696413554423043276309760965735734957142484399755962935004545666677629945422087839343734197651460311667336212158149191356525916317704341585742970013228627146185450330572973493263381627461187381100490904005275340453840941699847297199998852144673095105267272715297137349549416819854163722002815945370106639560596623827795143328613085917035976720386++[eC (PI Z)]) (by kernel_rfl)
theorem PK(Z:St):run 27 "for_all" [.ref (Z.n+1),.bo "thread_one"] (sS Z (sC Z.n) 284)=some (.ref (Z.n+93),sS Z (sC Z.n) 223):=gF ([eC (PJ Z)]++tp Z (sC Z.n) 3 112694553862290394091586560) (by kernel_rfl)
theorem PL(Z:St):run 28 "thread_unit" [.ref (Z.n+1)] (sS Z (sC Z.n) 284)=some (.ref (Z.n+93),sS Z (sC Z.n) 223):=gF ([eC (PK Z)]) (by kernel_rfl)
theorem PM(Z:St):run 24 "live_places" [.ref (Z.n+93)] (sS Z (sC Z.n) 219)=some (.ref (Z.n+112),sS Z (sC Z.n) 185):=gF (tp Z (sC Z.n) 147 3852593252625105104081274197346861777014607583025768703698045889139243371243843894327922483156602065663488921871005665970689291736208331995930870192607781757523486605741808280755377517578517358346616229303233592154647366385140312152240056129327181490226555506305799294154015805607684036793415164583023502027673119750744504378018286879834991444859262858239584644899443102727776152751779110086800055717761853911388845262177757079172200100854246686604701866787296634750324465548460977083001327879095683855696352265333839742930832035388980391245561017313368769890904196652391004120825950060370155180325082106589506530994710767672014052313652328881026775862045312218327173283511677903235226638210952917136255185631653678995768671477603503938250232919092175673126386824557954686184645925191440412050979582222545750422280825089232170482003085431009635299148011042460245299438504507233610279931174555775149572724370392663663679081523007672093265886662675558868874466177918158467386439388131501768264571244449052073003912663414177686309736750453430841745958245823207060434877096188152617115892099501299098153940021051667339839700737501074055812888809408658556517801716837614295807866350791008817273542477671624923394224671823174072341833683563175970509227630211269745320559944708927036821915384666622704174582346291012393724589314671618) (by kernel_rfl)
theorem PN(Z:St):run 23 "copy_head" [.ref (Z.n+93)] (sS Z (sC Z.n) 164)=some (.ref (Z.n+126),sS Z (sC Z.n) 126):=gF (tp Z (sC Z.n) 49 4023384016800359775281121902132445779735297367690688455933970255265319285958227070481728366059715837617729597967152081225507629559009789626901887111797939375936819586206725209121600404097541002778532659160158842635405130761439766989482923592979909714835493449154026338561304337860015399607867243463797111758721792653904863370345459750897119081729880932032997604480969806967083587347002247271342356988657647264981024047189476021383997330460672) (by kernel_rfl)
theorem PO(Z:St):run 24 "rebuilt" [.ref (Z.n+93),.ref (Z.n+122),.ref (Z.n+123),.ref (Z.n+124)] (sS Z (sC Z.n) 164)=some (.ref (Z.n+126),sS Z (sC Z.n) 110):=gF ([eC (PN Z)]++tp Z (sC Z.n) 76 27032605812169235956275958073232488329629499501859312786101909343946102850725581708387339328591144307455502335485462299390671630003729481118599575845220108236812978355950836151249286723750685909590550082039142208553339434713599894786946990503091967403994819063580085060253154199818744743414237215235842777191892523861032067960996319885441185645888192347088840308389186848246176960987222449181941965349524348248072357873879453830827065504373031853499597156860881400326897061535098509978895067680686650473140088026723411114626821788964005748763733974566386639000974610441478830707249005783712671941785293678596799165533160590338735665053426273923721308427707164727388112096686980018075648) (by kernel_rfl)
theorem PQ(Z:St):run 25 "clean_once" [.ref (Z.n+93)] (sS Z (sC Z.n) 219)=some (.ref (Z.n+126),sS Z (sC Z.n) 110):=gF ([eC (PM Z)]++tp Z (sC Z.n) 121 568263612785809783555003760161404287289566790149884238314079202245782847125724101976748883264589236913368252512513241541566741089872684448685500802583148635028470388812472420528292812980784324249654138216493448455388504243602078260029236830691349232450677677823155953906858734573059503235985732557898783220116272094802542240725647093656551890032685549397276609941385508965611911989024656342195378613229978699437045854538404641210711979266690975756329629324030091718262156921714626577578922552094007727557541072286155068835902375018065687079439056972819145859897648187070786671794789320785654139303145592758615362360516585461189925510811343468404404766584746011813667170544529559198936851073070990323689299706593302836322291448370935483749578589539637681008076681662976146712986709517623446830981463906290000277539888955306359384078221335453538027518609483713706799935390349028073588451133881126005789021050584205141951437140947400397310545682997509278671023121885422842517731625366006491029378062268087614108275062205217973176647971864877252370966187376013397003744504164408164088929763459074++[eC (PO Z)]) (by kernel_rfl)
theorem PT(Z:St):run 24 "live_places" [.ref (Z.n+126)] (sS Z (sC Z.n) 110)=some (.ref (Z.n+146),sS Z (sC Z.n) 76):=gF (tp Z (sC Z.n) 147 5006306929511110661080236168762169707623727361103377546965308153261766228042264294831033400811284682801465076451305071460915386058420727096882288526036142452913505111110662167355721144315226538922626472988637934464359765224177096578343339639145722505338453916335119759855534157636750807267775441982303826129985500776056848848613269532235823775750720595155216771933614074172444081131509444858620980969033862937553095069155464480528056483670693608558928349504259614607581083939898687385777586116406818041779939759075907297196322273579446839793230689473561155603937435801675327463334755366604575740262673013031709816055950589787708411239640660855779592973207089080474719419732352758712911485905497742123992118143667289142343243113264884205601247364133077286788557922007549902625306446591588035599586329019051509467634256105373258451973955813454150013742884951703972322431298078645213204262379506974647134773343558019662897449476328189685776139809468195851248251663495133262193268995208446092033997708567165491807047676328544084671781458422291964535074258108376155384916561881730202333158292345625047784726528874299594628052789261004448829986629158617635528444374090888709165932948386857364632562315103343310194546385789537651088398991218626699423390621325864061404257796394122535027650489714623265972906784286335835440657905746946) (by kernel_rfl)
theorem PW(Z:St):run 23 "copy_head" [.ref (Z.n+126)] (sS Z (sC Z.n) 56)=some (.ref (Z.n+160),sS Z (sC Z.n) 18):=gF (tp Z (sC Z.n) 49 5104626999618566855972258692927077073742681199207761980602970487954378736815295580017159091787086921332843494300081640805642813600121459946101162791108204799170957616933142745607766301326659502604221464337242379852917496816578420622048970491295128348756205785591137152309361620071818073007381560836679851015259155978711744078029599964830744022703448030272658869757738967305645504197342349129563616089293679469819158563335119941527964028559360) (by kernel_rfl)
theorem PX(Z:St):run 24 "rebuilt" [.ref (Z.n+126),.ref (Z.n+156),.ref (Z.n+157),.ref (Z.n+158)] (sS Z (sC Z.n) 56)=some (.ref (Z.n+160),sS Z (sC Z.n) 2):=gF ([eC (PW Z)]++tp Z (sC Z.n) 76 34415383478811127056070096493879926560635384646596520218504749330814547073126563252767899207090991782100621531330781295202151426579029557961925520132252757576795819780783917540868710141115612459475385374165293536980279328859954471060538109637428498978389256421506625584987666055030892504596412097063830081742631964103137926546809087202831503735366283282491636513368214669179013732125737483475330781523728068079648082090728866153268550748993636061556579407076776490879876289825082103373983355302889412339511368821197986670832026712090487841661440421871214092677439623442015639899408228630450919947072054972609026004922756206502393146892114976183577266507889343815500663168477883495630848) (by kernel_rfl)
theorem PY(Z:St):run 25 "clean_once" [.ref (Z.n+126)] (sS Z (sC Z.n) 110)=some (.ref (Z.n+160),sS Z (sC Z.n) 2):=gF ([eC (PT Z)]++tp Z (sC Z.n) 115 454270312200919991175622927660812717165683905572107949251963412468553847750147468537829933749627296339023242357171711734057987199462726773773123771302527013151714009658219044801075372770225321563228855438181622308838197424944241832832663872941623628805140256981371984591149387018819999364431995509542811809691304488355224489715207712090800067026301481966892794747218206798312113365644283823273942710850182074158647963963693786759772217745025439783334859709919086333232416791845057175629647076361509015949545364968631685266908214215029075569509251120748631788158569580640163024098117558814263674751925857652350756631837643549512366339541716296001334992941807017452104685548252631296257616822512440696776962079861792931621409702842806950918559713128752609109177982095515805691566728100026108088690287264467657435221899847798931374449692896638674295509702918311851538481306594855384797482331615813759777973236743168623129725372828397545322938514717524812983080302119522282392747061568013568194303993248311152011034595828138499634951937327106++[eC (PX Z)]) (by kernel_rfl)
theorem PZ(Z:St):run 26 "clean_one" [.ref (Z.n+93)] (sS Z (sC Z.n) 219)=some (.ref (Z.n+160),sS Z (sC Z.n) 2):=gF ([eC (PQ Z)]++tp Z (sC Z.n) 4 111773824137083865693119971502176256++[eC (PY Z)]++tp Z (sC Z.n) 4 164857960712008248300603046887426048) (by kernel_rfl)
theorem Qa(Z:St):run 27 "for_all" [.ref (Z.n+93),.bo "clean_one"] (sS Z (sC Z.n) 219)=some (.ref (Z.n+160),sS Z (sC Z.n) 0):=gF ([eC (PZ Z)]++tp Z (sC Z.n) 3 193429311920240668811724800) (by kernel_rfl)
theorem Qb(Z:St):run 28 "clean_unit" [.ref (Z.n+93)] (sS Z (sC Z.n) 219)=some (.ref (Z.n+160),sS Z (sC Z.n) 0):=gF ([eC (Qa Z)]) (by kernel_rfl)
theorem Qc(Z:St):run 29 "_law_small_right" [] (sS Z (sC Z.n) 525)=some (.bool true,sS Z (sC Z.n) 0):=gF (tp Z (sC Z.n) 25 8607594546168957891387254262306030483259574203034450303954156566798774018895703452011083401719091053809323057212621587790821572462204634730643905323985129398718568880273722355606535393999187605050204321133331965053277044738++[eC (UT Z)]++tp Z (sC Z.n) 4 12248040112020954537863685666699264++[eC (PG Z)]++tp Z (sC Z.n) 6 1913105643278404852994550983983300511504123722759168++[eC (PL Z)]++tp Z (sC Z.n) 10 15545349605098474132471434398867372012571818564884320515408668046533453069461744745472++[eC (Qb Z)]++tp Z (sC Z.n) 3 134190766158493723561820160) (by kernel_rfl)
theorem DP(Z:St):run 29 "_law_small_right" [] Z=some (.bool true,sS Z (sC Z.n) 0):=Qc Z
end Mine
end
section
namespace Mine
open PySem
abbrev Tw:=Nat->V
def up(w:Tw)(i:Nat)(v:V):Tw:=λj=>match Nat.beq j i with
 | true=>v
 | false=>w j
abbrev d4(w:Tw):Prop:=∀i,w i≠ .qQ
def w0:Tw:=λ_=>.qW
theorem BH:d4 w0:=λi e=>by cases e
theorem d4.up{w:Tw}(h:d4 w)(i:Nat){v:V}(hv:v≠ .qQ):d4 (up w i v):=λj=>by
 unfold Mine.up
 split
 ·exact hv
 ·exact h j
theorem fO(i:Int):V.int i≠ .qQ:=λe=>by cases e
theorem Qd(l:List V):V.tup l≠ .qQ:=λe=>by cases e
theorem Hg(K:List CV)(a:Ar):a.v K≠ .qQ:=λe=>by induction a using Ar.casesOn<;>cases e
theorem WA(i:Nat):V.ref i≠ .qQ:=λe=>by cases e
theorem Sp(i:Bool):V.bool i≠ .qQ:=λe=>by cases e
theorem UZ:V.none≠ .qQ:=λe=>by cases e
noncomputable abbrev tn(x:Str)(i d n:Nat):V->Ms->St->Option (Fl×Ms×St):=forTurn (cI gL (cL d) n) (vH (dz x i)) (gj (dz x i))
section
variable{d:Nat}{K:List CV}{Z:St}{u e:Nat}{E:List (Int×V)}{w:Tw}
noncomputable def jm(u e:Nat)(w:Tw):Ms:=mk "joints" [("unit",.ref u),("found",.ref e),("op",w 0),("arg",w 1),("start",w 2),("end",w 3),("target",w 4),("depth",w 5),("is_finally",w 6),("place",w 7)]
theorem DQ{r:CR}(h:CX r)(hj:isJ r.1=false)(n:d4 w):tn "joints" 1 (d+1) 39 (rv K r) (jm u e w) Z=some (.next,jm u e (up (up w 0 (.int r.1)) 1 (r.2.v K)),Z):=
 gT [eN (n 0),eN (n 1),eC (gp h.o d Z),eB ((mV h.o Z).trans (congrArg some hj))] (by kernel_rfl)
theorem DR{op k:Int}(h:op∈cU)(hj:isJ op=true)(n:d4 w)(hE:At Z e (.bO E))(hl:E.length<4096):tn "joints" 1 (d+1) 39 (rv K (op,.i k)) (jm u e w) Z=some (.next,jm u e (up (up w 0 (.int op)) 1 (.int k)),Z.put e (.bO (bA E k (.bool true)))):=
 gT [eN (n 0),eN (n 1),eC (gp h d Z),eB ((mV h Z).trans (congrArg some hj)),eO hE,eP hl] (by kernel_rfl)
noncomputable def hw(w:Tw)(h:Hd):Tw:=up (up (up (up (up (up w 2 (.int h.s)) 3 (.int h.e)) 4 (.int h.t)) 5 (.int h.d)) 6 (.bool h.f)) 7 (.int h.t)
noncomputable def jd(E:List (Int×V))(h:Hd):List (Int×V):=bA (bA (bA E h.s (.bool true)) h.e (.bool true)) h.t (.bool true)
theorem Qe{a b c:Nat}(h:a<4094)(l1:b<=a+1)(l2:c<=b+1):a<4096/\b<4096/\c<4096:=by lia
theorem DS(h:Hd)(n:d4 w)(hE:At Z e (.bO E))(hl:E.length<4094):
  tn "joints" 2 (d+1) 39 h.v (jm u e w) Z=some (.next,jm u e (hw w h),
   ((Z.put e (.bO (bA E h.s (.bool true)))).put e (.bO (bA (bA E h.s (.bool true)) h.e (.bool true)))).put e (.bO (jd E h))):=
 have q:=Qe hl (e9 E h.s (.bool true)) (e9 (bA E h.s (.bool true)) h.e (.bool true))
 gT [eN (n 2),eN (n 3),eN (n 4),eN (n 5),eN (n 6),eN (n 7),eO hE,eP q.1,
   eO (At.self hE.lt (.bO (bA E h.s (.bool true)))),eP q.2.1,
   eO (At.self (Z:=Z.put e (.bO (bA E h.s (.bool true)))) hE.lt (.bO (bA (bA E h.s (.bool true)) h.e (.bool true)))),eP q.2.2] (by kernel_rfl)
theorem Hh(E:List (Int×V))(h:Hd):(jd E h).length<=E.length+3:=
 Nat.le_trans (e9 _ _ _) (Nat.succ_le_succ (Nat.le_trans (e9 _ _ _) (Nat.succ_le_succ (e9 _ _ _))))
structure JI (u:Nat) (aw:St) (test:Int->Bool) (n:Nat) (m:Ms) (Z:St):Prop where
 x:Ext aw Z
 m:∃w,d4 w/\m=jm u aw.n w
 e:∃E,At Z aw.n (.bO E)/\E.length<=n/\∀k,(aI E k).isSome=test k
def jC(code:List CR)(k:Int):Bool:=code.any (λr=>isJ r.1&&decide (r.2=.i k))
def jH(hs:List Hd)(k:Int):Bool:=hs.any λh=>decide (h.s=k) || decide (h.e=k) || decide (h.t=k)
theorem Ln{pre:List CR}{r:CR}(hj:isJ r.1=false)(k:Int):jC (pre++[r]) k=jC pre k:=by
 unfold jC;rw [List.any_append,List.any_cons,hj,Bool.false_and,List.any_nil,Bool.or_false,Bool.or_false]
theorem Hj{pre:List CR}{op j:Int}(hj:isJ op=true)(k:Int):jC (pre++[(op,.i j)]) k=(decide (j=k) || jC pre k):=by
 unfold jC
 rw [List.any_append,List.any_cons,hj,Bool.true_and,List.any_nil,Bool.or_false,Bool.or_comm]
 congr 1
 exact decide_eq_decide.mpr ⟨λe=>by cases e;rfl,λe=>by rw [e]⟩
theorem DT{E:List (Int×V)}{p:Int->Bool}{pre:List Hd}{r:Hd}{k:Int}(t:(aI E k).isSome=(p k || jH pre k)):(aI (jd E r) k).isSome=(p k || jH (pre++[r]) k):=by
 unfold jd jH
 rw [fM,fM,fM,t,List.any_append,List.any_cons,List.any_nil,Bool.or_false]
 unfold jH
 generalize decide (r.t=k)=a;generalize decide (r.e=k)=b;generalize decide (r.s=k)=c;generalize p k=d
 generalize (pre.any λh=>decide (h.s=k) || decide (h.e=k) || decide (h.t=k))=e
 revert a b c d e;decide
theorem dR{α:Type}{L pre rest:List α}{x:α}{n:Nat}(e:L=pre++x::rest)(h:L.length<n):pre.length+1<n+1/\pre.length<n:=by
 rw [e,List.length_append] at h
 have:pre.length<n:=Nat.lt_of_le_of_lt (Nat.le_add_right _ _) h
 exact ⟨Nat.succ_lt_succ this,this⟩
theorem JI.Lo{u:Nat}{aw:St}{pre:List CR}{r:CR}{m:Ms}{Z:St}(hr:CX r)(hp:pre.length<4096)(h:JI u aw (jC pre) pre.length m Z):
  ∃m' J,tn "joints" 1 (d+1) 39 (rv K r) m Z=some (.next,m',J)/\JI u aw (jC (pre++[r])) (pre++[r]).length m' J:=by
 refine aO (h.m) λw n su=>?_
 obtain rfl:=su
 refine bJ (h.e) λE a l t=>?_
 rw [List.length_append]
 cases hj:isJ r.1 with
 | false=>exact ⟨_,_,DQ hr hj n,h.x,⟨_,(n.up 0 (fO _)).up 1 (Hg _ _),rfl⟩,E,a,Nat.le_succ_of_le l,λk=>(t k).trans (Ln hj k).symm⟩
 | true=>
  obtain ⟨op,ar⟩:=r
  obtain ⟨k,hk⟩:=hr.j hj
  cases hk
  exact ⟨_,_,DR hr.o hj n a (Nat.lt_of_le_of_lt l hp),h.x.pu (Nat.le_refl _),⟨_,(n.up 0 (fO _)).up 1 (fO _),rfl⟩,_,At.self a.lt _,Nat.le_trans (e9 _ _ _) (Nat.succ_le_succ l),λj=>by rw [fM,t,Hj hj]⟩
theorem JI.code{u:Nat}{aw:St}{code:List CR}(co:Nat)(ha:At aw co (.lst (code.map (rv K))))(hl:code.length<4000)(hw:∀r,r∈code->CX r){m:Ms}{Z:St}(h:JI u aw (jC []) 0 m Z):
  ∃m' J,cK (.lst co) (tn "joints" 1 (d+1) 39) aM 0 m Z=some (.next,m',J)/\JI u aw (jC code) code.length m' J:=
 fy (λpre m Z=>JI u aw (jC pre) pre.length m Z) (λpre m Z h=>(ha.x h.x).e) (λpre r rest m Z e h=>JI.Lo (hw r (by rw [e];exact List.mem_append_right _ List.mem_cons_self)) (Nat.lt_trans (dR e hl).2 (by decide)) h) (Nat.lt_trans hl (by decide)) h
theorem JI.Hk{u:Nat}{aw:St}{pre:List Hd}{r:Hd}{m:Ms}{Z:St}{p:Int->Bool}{n:Nat}(hp:pre.length<10)(hn:n<4000)(h:JI u aw (λk=>p k || jH pre k) (n+3*pre.length) m Z):
  ∃m' J,tn "joints" 2 (d+1) 39 r.v m Z=some (.next,m',J)/\JI u aw (λk=>p k || jH (pre++[r]) k) (n+3*(pre++[r]).length) m' J:=by
 refine aO (h.m) λw ng Dm=>?_
 obtain rfl:=Dm
 refine bJ (h.e) λE a l t=>?_
 rw [List.length_append]
 exact ⟨_,_,DS r ng a (by lia),((h.x.pu (Nat.le_refl _)).pu (Nat.le_refl _)).pu (Nat.le_refl _),⟨_,(((((ng.up 2 (fO _)).up 3 (fO _)).up 4 (fO _)).up 5 (fO _)).up 6 (Sp _)).up 7 (fO _),rfl⟩,_,At.self (Z:=(Z.put _ _).put _ _) a.lt _,
  Nat.le_trans (Hh E r) (Nat.add_le_add_right l 3),λk=>DT (t k)⟩
theorem JI.Lp{u:Nat}{aw:St}{hs:List Hd}(ho:Nat)(ha:At aw ho (.lst (hs.map Hd.v)))(hl:hs.length<10){p:Int->Bool}{n:Nat}(hn:n<4000){m:Ms}{Z:St}(h:JI u aw (λk=>p k || jH [] k) n m Z):
  ∃m' J,cK (.lst ho) (tn "joints" 2 (d+1) 39) aM 0 m Z=some (.next,m',J)/\JI u aw (λk=>p k || jH hs k) (n+3*hs.length) m' J:=
 fy (λpre m Z=>JI u aw (λk=>p k || jH pre k) (n+3*pre.length) m Z) (λpre m Z h=>(ha.x h.x).e) (λpre r rest m Z e h=>JI.Hk (dR e hl).2 hn h) (Nat.lt_trans hl (by decide)) h
theorem BJ{u:Nat}{D:UD}{code:List CR}{hs:List Hd}(hu:At Z u D.o)(h1:At Z D.co (.lst (code.map (rv K))))(h2:At Z D.ha (.lst (hs.map Hd.v)))(hl:code.length<4000)(Qf:hs.length<10)(hw:∀r,r∈code->CX r):
  ∃J E,run (d+2) "joints" [.ref u] Z=some (.ref Z.n,J)/\Ext Z J/\At J Z.n (.bO E)/\∀k,(aI E k).isSome=(jC code k || jH hs k):=by
 have h0:JI u Z (jC []) 0 (jm u Z.n w0) (Z.alloc (.bO [])):=⟨aQ _ _,⟨_,BH,rfl⟩,[],ay _ _,Nat.le_refl _,λk=>rfl⟩
 refine bV (JI.code (d:=d) D.co h1 hl hw h0) λm₁ ao l1 i1=>?_
 have c1:cI gL (cL (d+1)) 40 (dz "joints" 1) (jm u Z.n w0) (Z.alloc (.bO []))=some (.next,m₁,ao):=
  dw (n:=39) (by kernel_rfl) (show aG _=some (Src.lst D.co,Z.alloc (.bO [])) from congrArg aG (gX (v:=.val (.ref D.co)) [eO (hu.al (.bO []))] (by kernel_rfl))) (by kernel_rfl) l1
 obtain ⟨m₂,aF,l2,i2⟩:=JI.Lp (d:=d) (p:=jC code) D.ha h2 Qf hl ⟨i1.x,i1.m,by
  refine bJ (i1.e) λE a l t=>?_
  exact ⟨E,a,l,λk=>(t k).trans (Bool.or_false _).symm⟩⟩
 refine aO (i1.m) λw1 n1 U0=>?_
 obtain rfl:=U0
 have c2:cI gL (cL (d+1)) 40 (dz "joints" 2) (jm u Z.n w1) ao=some (.next,m₂,aF):=
  dw (n:=39) (by kernel_rfl) (show aG _=some (Src.lst D.ha,ao) from congrArg aG (gX (v:=.val (.ref D.ha)) [eO (hu.x i1.x)] (by kernel_rfl))) (by kernel_rfl) l2
 refine aO (i2.m) λw2 n2 U1=>?_
 obtain rfl:=U1
 refine bJ (i2.e) λE a l t=>?_
 exact ⟨aF,E,gF [eY c1,eY c2] (by kernel_rfl),i2.x,a,t⟩
end
end Mine
end
section
namespace Mine
open PySem PySem.PyData
section
variable{Z:St}{a b:Int}
theorem zv(h:a<b):bf Z .Lt (.int a) (.int b)=some true:=congrArg some (decide_eq_true h)
theorem mW(h:¬a<b):bf Z .Lt (.int a) (.int b)=some false:=congrArg some (decide_eq_false h)
theorem Lq(h:a<=b):bf Z .LtE (.int a) (.int b)=some true:=congrArg some (decide_eq_true h)
theorem Lr(h:b<a):bf Z .Gt (.int a) (.int b)=some true:=congrArg some (decide_eq_true h)
theorem xk(h:¬b<a):bf Z .Gt (.int a) (.int b)=some false:=congrArg some (decide_eq_false h)
theorem U2(h:b<=a):bf Z .GtE (.int a) (.int b)=some true:=congrArg some (decide_eq_true h)
theorem Ls(h:¬b<=a):bf Z .GtE (.int a) (.int b)=some false:=congrArg some (decide_eq_false h)
theorem JC(a b:Int):bf Z .Eq (.int a) (.int b)=some (decide (a=b)):=rfl
theorem U3(h:a=b):bf Z .Eq (.int a) (.int b)=some true:=(JC a b).trans (congrArg some (decide_eq_true h))
theorem xq(h:a≠b):bf Z .Eq (.int a) (.int b)=some false:=(JC a b).trans (congrArg some (decide_eq_false h))
theorem U4{a b:Str}(ha:strOk a=true)(hb:strOk b=true):bf Z .Eq (.str a) (.str b)=some (decide (a=b)):=by
 show (if strOk a&&strOk b then some (a==b) else .none)=_
 rw [ha,hb];rfl
theorem Nr{n:Nat}:(0:Int)<(n:Nat)+1:=by omega
end
theorem DU{α:Type}{src:Src}{it:Nat->α->V}{turn:V->Ms->St->Option (Fl×Ms×St)}{L:List α}(ag:List α->Ms->St->Prop)(Q:V->Ms->St->Prop)
  (hs:∀pre m Z i,ag pre m Z->src.at Z i=some ((L[i]?).map (it i)))
  (step:∀pre x rest m Z,L=pre++x::rest->ag pre m Z->(∃m' J,turn (it pre.length x) m Z=some (.next,m',J)/\ag (pre++[x]) m' J)\/∃v m' J,turn (it pre.length x) m Z=some (.ret v,m',J)/\Q v m' J)
  (rest:List α):∀(pre:List α)(m:Ms)(Z:St)(n:Nat),L=pre++rest->rest.length<n->ag pre m Z->(∃m' J,cK src turn n pre.length m Z=some (.next,m',J)/\ag L m' J)\/∃v m' J,cK src turn n pre.length m Z=some (.ret v,m',J)/\Q v m' J:=by
 induction rest with
 | nil=>
  intro pre m Z n e q h
  induction n using Nat.casesOn with
  | zero=>exact absurd q (Nat.not_lt_zero _)
  | succ n=>
   have e:=e.trans (List.append_nil _)
   subst e
   exact .inl ⟨m,Z,mT ((hs _ _ _ _ h).trans (congrArg some vK)),h⟩
 | cons x rest ih=>
  intro pre m Z n e q h
  induction n using Nat.casesOn with
  | zero=>exact absurd q (Nat.not_lt_zero _)
  | succ n=>
   have ea:=(hs _ _ _ pre.length h).trans (congrArg some (vJ e))
   exact (step pre x rest m Z e h).elim (λz=>bV z λm₁ ao t aA=>(qh (n:=n) ea t).symm▸(List.length_append (bs:=[x]):(pre++[x]).length=_)▸ih (pre++[x]) m₁ ao n (qm e) (Nat.lt_of_succ_lt_succ q) aA) λz=>rp z λv m₁ ao t aA=>.inr ⟨v,m₁,ao,BB ea t,aA⟩
def nG(c:CV):Bool:=CV.casesOn c (λ_=>true) strOk
def dh(K:List CV)(v:CV):List CV:=if v∈K then K else K++[v]
theorem BK(d:Nat)(Z:St){a b:CV}(ha:nG a=true)(hb:nG b=true):run (d+2) "same_literal" [a.v,b.v] Z=some (.bool (decide (a=b)),Z):=by
 induction a using CV.casesOn with
 | n a=>induction b using CV.casesOn with
  | n b=>
   rw [show decide (CV.n a=CV.n b)=decide (a=b) from decide_eq_decide.mpr ⟨λe=>by cases e;rfl,λe=>by rw [e]⟩]
   exact gF [eG,eB (JC (Z:=Z) a b)] (by kernel_rfl)
  | s b=>exact gF [] (by kernel_rfl)
 | s a=>induction b using CV.casesOn with
  | n b=>exact gF [] (by kernel_rfl)
  | s b=>
   rw [show decide (CV.s a=CV.s b)=decide (a=b) from decide_eq_decide.mpr ⟨λe=>by cases e;rfl,λe=>by rw [e]⟩]
   exact gF [eG,eB (U4 (Z:=Z) ha hb)] (by kernel_rfl)
section
variable{d:Nat}{Z:St}{c:Nat}{w:Tw}{ln:Int}{v x:CV}
noncomputable def lm(v:CV)(ln:Int)(c:Nat)(w:Tw):Ms:=mk "literal_row" [("value",v.v),("line",.int ln),("consts",.ref c),("at",w 0),("known",w 1)]
theorem U5(x:CV):x.v≠ .qQ:=λe=>by induction x using CV.casesOn<;>cases e
theorem Hl(i:Nat)(n:d4 w)(hx:nG x=true)(hv:nG v=true):
  tn "literal_row" 2 (d+2) 39 (.tup [.int i,x.v]) (lm v ln c w) Z=some (if x=v then .ret (.tup [.int 4,.int i,.int ln]) else .next,lm v ln c (up (up w 0 (.int i)) 1 x.v),Z):=by
 by_cases q:x=v
 ·rw [if_pos q]
  have h:=(BK d Z hx hv).trans (congrArg (λb=>some (V.bool b,Z)) (decide_eq_true q))
  induction x using CV.casesOn<;>induction v using CV.casesOn<;>exact gT [eN (n 0),eN (n 1),eC h] (by kernel_rfl)
 ·rw [if_neg q]
  have h:=(BK d Z hx hv).trans (congrArg (λb=>some (V.bool b,Z)) (decide_eq_false q))
  induction x using CV.casesOn<;>induction v using CV.casesOn<;>exact gT [eN (n 0),eN (n 1),eC h] (by kernel_rfl)
theorem xr{K rest:List CV}(h:v∉K):(K++v::rest).idxOf v=K.length:=by
 rw [List.idxOf_append,if_neg h,List.idxOf_cons_self,Nat.zero_add]
theorem Hm{K:List CV}(h:v∈K):K[K.idxOf v]?=some v:=by
 rw [List.getElem?_eq_getElem (List.idxOf_lt_length_of_mem h),List.getElem_idxOf]
theorem Hn{K:List CV}(hK:∀x,x∈K->nG x=true)(hv:nG v=true)(hc:At Z c (.lst (K.map CV.v)))(hl:K.length<4000):
  (∃w',d4 w'/\v∉K/\cK (.kW c) (tn "literal_row" 2 (d+2) 39) aM 0 (lm v ln c w0) Z=some (.next,lm v ln c w',Z))\/
  (v∈K/\∃m',cK (.kW c) (tn "literal_row" 2 (d+2) 39) aM 0 (lm v ln c w0) Z=some (.ret (.tup [.int 4,.int (K.idxOf v:Nat),.int ln]),m',Z)):=by
 have k:=DU (turn:=tn "literal_row" 2 (d+2) 39) (it:=λi x=>V.tup [.int (i:Nat),CV.v x]) (L:=K) (src:=.kW c)
  (λpre m J=>J=Z/\v∉pre/\∃w,d4 w/\m=lm v ln c w) (λr m J=>J=Z/\v∈K/\r=.tup [.int 4,.int (K.idxOf v:Nat),.int ln])
  (λpre m J i h=>by rw [h.1];exact BD hc.e) ?_ K [] (lm v ln c w0) Z aM rfl (Nat.lt_trans hl (by decide)) ⟨rfl,List.not_mem_nil,_,BH,rfl⟩
 ·induction k using Or.casesOn with
  | inl k=>
   refine fc (k) λm' J e h1 h2 Qg=>?_
   obtain ⟨w,n,h3⟩:=Qg
   subst h1;subst h3
   exact .inl ⟨w,n,h2,e⟩
  | inr k=>
   refine kF (k) λr m' J e h1 h2 h3=>?_
   subst h1;subst h3
   exact .inr ⟨h2,m',e⟩
 ·intro pre x rest m J e ⟨h1,h2,w,n,h3⟩
  subst h1;subst h3
  have hx:=hK x (by rw [e];exact List.mem_append_right _ List.mem_cons_self)
  have t:=Hl (d:=d) (Z:=J) (c:=c) (ln:=ln) pre.length n hx hv
  by_cases q:x=v
  ·subst q
   rw [if_pos rfl] at t
   refine .inr ⟨_,_,_,t,rfl,by rw [e];exact List.mem_append_right _ List.mem_cons_self,?_⟩
   rw [e,xr h2]
  ·rw [if_neg q] at t
   refine .inl ⟨_,_,t,rfl,λz=>?_,_,(n.up 0 (fO _)).up 1 (U5 _),rfl⟩
   rw [List.mem_append] at z
   induction z using Or.casesOn with
   | inl z=>exact h2 z
   | inr z=>rw [List.mem_singleton] at z;exact q z.symm
def zw(Z:St)(c:Nat)(K:List CV)(v:CV):St:=if v∈K then Z else Z.put c (.lst (K.map CV.v++[v.v]))
theorem BL{K:List CV}(hK:∀x,x∈K->nG x=true)(hv:nG v=true)(hc:At Z c (.lst (K.map CV.v)))(hl:K.length<4000):
  run (d+3) "literal_row" [v.v,.int ln,.ref c] Z=some (.tup [.int 4,.int ((dh K v).idxOf v:Nat),.int ln],zw Z c K v):=by
 have hs:aG (i8 gL (cL (d+2)) 39 (dQ (dz "literal_row" 2)) (lm v ln c w0) Z)=some (.kW c,Z):=congrArg aG (gX (v:=.src (.kW c)) [eO hc] (by kernel_rfl))
 unfold zw dh
 cases Hn (d:=d) (ln:=ln) hK hv hc hl with
 | inl k=>
  refine bJ (k) λw n h e=>?_
  rw [if_neg h,if_neg h,xr h]
  have e:=dw (n:=39) (by kernel_rfl) hs (by kernel_rfl) e
  have hp:(K.map CV.v).length<aq:=by rw [List.length_map];exact Nat.lt_trans hl (by decide)
  have hq:(V.int (((K.map CV.v++[v.v]).length:Nat)-1),Z.put c (.lst (K.map CV.v++[v.v])))=(V.int (K.length:Nat),Z.put c (.lst (K.map CV.v++[v.v]))):=by
   rw [List.length_append,List.length_map];congr 2;show ((K.length+1:Nat):Int)-1=_;lia
  have ha:=At.self hc.lt (.lst (K.map CV.v++[v.v]))
  induction v using CV.casesOn with
  | n v=>exact gF [eY e,eO hc,eO hc,eP hp,eO ha,eR (congrArg some hq)] (by kernel_rfl)
  | s v=>exact gF [eY e,eO hc,eO hc,eP hp,eO ha,eR (congrArg some hq)] (by kernel_rfl)
 | inr k=>
  obtain ⟨h,m',e⟩:=k
  rw [if_pos h,if_pos h]
  have e:=dw (n:=39) (by kernel_rfl) hs (by kernel_rfl) e
  induction v using CV.casesOn with
  | n v=>exact gF [eY e] (by kernel_rfl)
  | s v=>exact gF [eY e] (by kernel_rfl)
end
section
variable{Z:St}{B:List V}{x y:V}
theorem Ho:bf Z .Eq (.int ((B++[x]).length:Nat)) (.int 0)=some false:=xq (by rw [List.length_append];show ((B.length+1:Nat):Int)≠0;omega)
theorem Lu:bf Z .Eq (.int ((B++[y,x]).length:Nat)) (.int 0)=some false:=xq (by rw [List.length_append];show ((B.length+2:Nat):Int)≠0;omega)
theorem U6:bf Z .Gt (.int 1) (.int ((B++[x]).length:Nat))=some false:=xk (by rw [List.length_append];show¬((B.length+1:Nat):Int)<1;omega)
theorem U8:bf Z .Gt (.int 2) (.int ((B++[y,x]).length:Nat))=some false:=xk (by rw [List.length_append];show¬((B.length+2:Nat):Int)<2;lia)
theorem xu{l:List V}{n:Nat}(h:0<n)(q:n<9)(b:n<=l.length):dB l (-(n:Int))=l[l.length-n]?:=by
 unfold dB
 rw [if_pos (by lia),if_neg (by lia),if_pos (by lia)]
 congr 1
 lia
theorem xw:dB (B++[x]) (-1)=some x:=(xu (n:=1) (by decide) (by decide) (by rw [List.length_append];exact Nat.le_add_left _ _)).trans (by
 rw [List.length_append,List.getElem?_append_right (by show _<=B.length+1-1;lia)];show [x][B.length+1-1-B.length]?=_;rw [show B.length+1-1-B.length=0 by lia];rfl)
theorem Lv:dB (B++[y,x]) (-2)=some y:=(xu (n:=2) (by decide) (by decide) (by rw [List.length_append];exact Nat.le_add_left _ _)).trans (by
 rw [List.length_append,List.getElem?_append_right (by show _<=B.length+2-2;lia)];show [y,x][B.length+2-2-B.length]?=_;rw [show B.length+2-2-B.length=0 by lia];rfl)
theorem Hp:dB (B++[y,x]) (-1)=some x:=by rw [show B++[y,x]=(B++[y])++[x] by rw [List.append_assoc];rfl];exact xw
theorem qq(l:List V)(n:Nat):dU (B++l) (some (B.length:Int)) none=some l:=by
 unfold dU
 dsimp only [Option.getD]
 rw [if_pos ⟨Int.natCast_nonneg _,Int.natCast_nonneg _⟩]
 show some (((B++l).take (B++l).length).drop B.length)=_
 rw [List.take_length,List.drop_left]
theorem Qh:dU (B++[x]) (some (((B++[x]).length:Nat)-1:Int)) none=some [x]:=by
 rw [show ((((B++[x]).length:Nat):Int)-1)=(B.length:Int) by rw [List.length_append];show ((B.length+1:Nat):Int)-1=_;lia];exact qq _ 0
theorem Qi:dU (B++[y,x]) (some (((B++[y,x]).length:Nat)-2:Int)) none=some [y,x]:=by
 rw [show ((((B++[y,x]).length:Nat):Int)-2)=(B.length:Int) by rw [List.length_append];show ((B.length+2:Nat):Int)-2=_;lia];exact qq _ 0
end
abbrev r3(op:Int)(a:V)(l:Int):V:=.tup [.int op,a,.int l]
section
variable{d:Nat}{Z:St}{s c:Nat}{B Kv:List V}{S:List V}{x y v w:V}{k l i j l1 l2:Int}{a b:V}
noncomputable def tZ(h:At Z s (.lst (B++[x]))):List Ev:=[eO h,eB (Ho (Z:=Z) (B:=B) (x:=x)),eO h,eV (xw (B:=B) (x:=x))]
noncomputable def BM(h:At Z s (.lst (B++[x]))):List Ev:=[eO h,eB (U6 (Z:=Z) (B:=B) (x:=x)),eO h,eV (xw (B:=B) (x:=x)),eO h,eO h,eL (Qh (B:=B) (x:=x))]
def Lx(h:At Z s (.lst (B++[x]))):List Ev:=[eO h,eV (xw (B:=B) (x:=x))]
noncomputable def JD(h:At Z s (.lst (B++[y,x]))):List Ev:=[eO h,eB (Lu (Z:=Z) (B:=B) (x:=x) (y:=y)),eO h,eV (Hp (B:=B) (x:=x) (y:=y))]
noncomputable def JE(h:At Z s (.lst (B++[y,x]))):List Ev:=[eO h,eB (U8 (Z:=Z) (B:=B) (x:=x) (y:=y)),eO h,eV (Lv (B:=B) (x:=x) (y:=y))]
def Ly(h:At Z s (.lst (B++[y,x]))):List Ev:=[eO h,eO h,eL (Qi (B:=B) (x:=x) (y:=y))]
abbrev shr(d:Nat)(s:Nat)(r:V)(c:Nat)(Z:St):R:=cL (d+12) "shorter" [.ref s,r,.ref c] Z
theorem Hq(hS:At Z s (.lst S)):∀op,op∈[0,1,2,3]->∀l,shr d s (r3 op .none l) c Z=some (.none,Z):=by
 intro op ho l
 cases List.eq_nil_or_concat S with
 | inl e=>
  subst e
  exact jq.of (P:=λop=>shr d s (r3 op .none l) c Z=some (.none,Z)) (by repeat (first | exact trivial | refine ⟨gF [eO hS] (by kernel_rfl),?_⟩)) op ho
 | inr e=>
  refine J7 (e) λB x su=>?_
  obtain rfl:=su
  rw [List.concat_eq_append] at hS
  exact jq.of (P:=λop=>shr d s (r3 op .none l) c Z=some (.none,Z)) (by repeat (first | exact trivial | refine ⟨gF [eO hS,eB (Ho (Z:=Z) (B:=B) (x:=x))] (by kernel_rfl),?_⟩)) op ho
theorem xA(hS:At Z s (.lst S)):∀op,op∈[4,11,21]->∀l k,shr d s (r3 op (.int k) l) c Z=some (.none,Z):=by
 intro op ho l k
 cases List.eq_nil_or_concat S with
 | inl e=>
  subst e
  exact jq.of (P:=λop=>shr d s (r3 op (.int k) l) c Z=some (.none,Z)) (by repeat (first | exact trivial | refine ⟨gF [eO hS] (by kernel_rfl),?_⟩)) op ho
 | inr e=>
  refine J7 (e) λB x Dm=>?_
  obtain rfl:=Dm
  rw [List.concat_eq_append] at hS
  exact jq.of (P:=λop=>shr d s (r3 op (.int k) l) c Z=some (.none,Z)) (by repeat (first | exact trivial | refine ⟨gF [eO hS,eB (Ho (Z:=Z) (B:=B) (x:=x))] (by kernel_rfl),?_⟩)) op ho
theorem Lz(hS:At Z s (.lst [])):shr d s (r3 6 .none l) c Z=some (.none,Z):=gF [eO hS] (by kernel_rfl)
theorem Hr:∀op,op∈[11,12,23,30,41,51]->At Z s (.lst (B++[r3 op a k]))->shr d s (r3 6 .none l) c Z=some (.none,Z):=
 jq.of (P:=λop=>At Z s (.lst (B++[r3 op a k]))->shr d s (r3 6 .none l) c Z=some (.none,Z)) (by
  repeat (first | exact trivial | refine ⟨λhS=>gF (tZ hS++Lx hS) (by kernel_rfl),?_⟩))
theorem LA(hS:At Z s (.lst (B++[r3 11 a k]))):shr d s (r3 53 .none l) c Z=some (.none,Z):=gF (tZ hS++Lx hS) (by kernel_rfl)
theorem LB(hS:At Z s (.lst (B++[r3 53 a k]))):shr d s (r3 61 (.int i) l) c Z=some (.none,Z):=gF (tZ hS++Lx hS) (by kernel_rfl)
theorem DV(hS:At Z s (.lst (B++[r3 53 a k]))):shr d s (r3 59 (.int i) l) c Z=some (.tup [.int 1,.ref Z.n],Z.alloc (.lst [r3 60 (.int i) l])):=gF (tZ hS++Lx hS++[eP (p:=1<=aq) (by decide)]) (by kernel_rfl)
theorem DW(hS:At Z s (.lst (B++[r3 53 a k]))):shr d s (r3 60 (.int i) l) c Z=some (.tup [.int 1,.ref Z.n],Z.alloc (.lst [r3 59 (.int i) l])):=gF (tZ hS++Lx hS++[eP (p:=1<=aq) (by decide)]) (by kernel_rfl)
theorem DX(hS:At Z s (.lst (B++[r3 11 a k,r3 4 b j]))):shr d s (r3 30 .none l) c Z=some (.none,Z):=gF (JD hS++JE hS) (by kernel_rfl)
end
section
variable{d:Nat}{Z aT:St}{s c:Nat}{B Kv:List V}{x y v w row:V}{k l i j k1 k2:Int}{a b:V}
abbrev qr(Z:St)(x v:V):St:=(Z.alloc (.lst [x])).alloc (.lst [v])
abbrev sZ(Z:St)(y x v w:V):St:=(Z.alloc (.lst [y,x])).alloc (.lst [v,w])
def Hs(_:At Z s (.lst (B++[x]))):List Ev:=[eO (ay Z (.lst [x])),eO (ay Z (.lst [x]))]
noncomputable def Nt(_:At Z s (.lst (B++[x])))(hc:At Z c (.lst Kv))(hi:dB Kv i=some v):List Ev:=[eO (ay Z (.lst [x])),eO (hc.al (.lst [x])),eV hi,eO (ay Z (.lst [x]))]
noncomputable def LD(_:At Z s (.lst (B++[y,x])))(hc:At Z c (.lst Kv))(hi:dB Kv i=some v)(hj:dB Kv j=some w):List Ev:=
 [eO (ay Z (.lst [y,x])),eO (hc.al (.lst [y,x])),eV hi,eO (ay Z (.lst [y,x])),eO (hc.al (.lst [y,x])),eV hj,eO (ay Z (.lst [y,x]))]
def tO(Z:St)(l r:List V):Ev:=eO ((ay Z (.lst l)).al (.lst r))
def tW(Z:St)(l r:List V):Ev:=eO (ay (Z.alloc (.lst l)) (.lst r))
theorem LF(hS:At Z s (.lst (B++[r3 4 (.int i) k])))(hc:At Z c (.lst Kv))(hi:dB Kv i=some v):shr d s (r3 6 .none l) c Z=some (.tup [.int 1,.ref (Z.n+2)],(qr Z (r3 4 (.int i) k) v).alloc (.lst [])):=
 gF (tZ hS++BM hS++Nt hS hc hi++[eP (p:=0<=aq) (Nat.zero_le _)]) (by kernel_rfl)
theorem LG(hS:At Z s (.lst (B++[r3 4 (.int i) k])))(hc:At Z c (.lst Kv))(hi:dB Kv i=some v):shr d s (r3 7 .none l) c Z=some (.tup [.int 1,.ref (Z.n+2)],(qr Z (r3 4 (.int i) k) v).alloc (.lst [r3 4 (.int i) k,r3 4 (.int i) k])):=
 gF (tZ hS++BM hS++Nt hS hc hi++[tO Z [r3 4 (.int i) k] [v],tO Z [r3 4 (.int i) k] [v],eP (p:=1+1<=aq) (by decide)]) (by kernel_rfl)
theorem Ht(hS:At Z s (.lst (B++[r3 4 (.int i) k1,r3 4 (.int j) k2])))(hc:At Z c (.lst Kv))(hi:dB Kv i=some v)(hj:dB Kv j=some w):
  shr d s (r3 8 .none l) c Z=some (.tup [.int 2,.ref (Z.n+2)],(sZ Z (r3 4 (.int i) k1) (r3 4 (.int j) k2) v w).alloc (.lst [r3 4 (.int i) k1,r3 4 (.int j) k2,r3 4 (.int i) k1,r3 4 (.int j) k2])):=
 gF (JD hS++JE hS++Ly hS++LD hS hc hi hj++[tO Z [r3 4 (.int i) k1,r3 4 (.int j) k2] [v,w],tO Z [r3 4 (.int i) k1,r3 4 (.int j) k2] [v,w],eP (p:=2+2<=aq) (by decide)]) (by kernel_rfl)
theorem Hu(hS:At Z s (.lst (B++[r3 4 (.int i) k1,r3 4 (.int j) k2])))(hc:At Z c (.lst Kv))(hi:dB Kv i=some v)(hj:dB Kv j=some w):
  shr d s (r3 9 .none l) c Z=some (.tup [.int 2,.ref (Z.n+2)],(sZ Z (r3 4 (.int i) k1) (r3 4 (.int j) k2) v w).alloc (.lst [r3 4 (.int j) k2,r3 4 (.int i) k1])):=
 gF (JD hS++JE hS++Ly hS++LD hS hc hi hj++[tO Z [r3 4 (.int i) k1,r3 4 (.int j) k2] [v,w],tO Z [r3 4 (.int i) k1,r3 4 (.int j) k2] [v,w],eP (p:=2<=aq) (by decide)]) (by kernel_rfl)
theorem Qj(hS:At Z s (.lst (B++[r3 0 .none k]))):shr d s (r3 62 (.int j) l) c Z=some (.tup [.int 1,.ref (Z.n+2)],(qr Z (r3 0 .none k) .none).alloc (.lst [])):=
 gF (tZ hS++BM hS++Hs hS++[tO Z [r3 0 .none k] [.none],tW Z [r3 0 .none k] [.none],eP (p:=0<=aq) (by decide)]) (by kernel_rfl)
theorem Qk(hS:At Z s (.lst (B++[r3 1 .none k]))):shr d s (r3 61 (.int j) l) c Z=some (.tup [.int 1,.ref (Z.n+2)],(qr Z (r3 1 .none k) (.bo "NULL")).alloc (.lst [r3 1 .none k,r3 58 (.int j) l])):=
 gF (tZ hS++BM hS++Hs hS++[tO Z [r3 1 .none k] [.bo "NULL"],tW Z [r3 1 .none k] [.bo "NULL"],eP (p:=2<=aq) (by decide)]) (by kernel_rfl)
theorem Ql(hS:At Z s (.lst (B++[r3 2 .none k]))):shr d s (r3 59 (.int j) l) c Z=some (.tup [.int 1,.ref (Z.n+2)],(qr Z (r3 2 .none k) (.bool true)).alloc (.lst [])):=
 gF (tZ hS++BM hS++Hs hS++[tO Z [r3 2 .none k] [.bool true],tW Z [r3 2 .none k] [.bool true],eP (p:=0<=aq) (by decide)]) (by kernel_rfl)
theorem Qm(hS:At Z s (.lst (B++[r3 3 .none k]))):shr d s (r3 59 (.int j) l) c Z=some (.tup [.int 1,.ref (Z.n+2)],(qr Z (r3 3 .none k) (.bool false)).alloc (.lst [r3 58 (.int j) l])):=
 gF (tZ hS++BM hS++Hs hS++[tO Z [r3 3 .none k] [.bool false],tW Z [r3 3 .none k] [.bool false],eP (p:=1<=aq) (by decide)]) (by kernel_rfl)
theorem Qn(hS:At Z s (.lst (B++[r3 4 (.int i) k])))(hc:At Z c (.lst Kv))(hi:dB Kv i=some (.int 4607182418800017408)):
  shr d s (r3 62 (.int j) l) c Z=some (.tup [.int 1,.ref (Z.n+2)],(qr Z (r3 4 (.int i) k) (.int 4607182418800017408)).alloc (.lst [r3 4 (.int i) k,r3 58 (.int j) l])):=
 gF (tZ hS++BM hS++Nt hS hc hi++[tO Z [r3 4 (.int i) k] [.int 4607182418800017408],tW Z [r3 4 (.int i) k] [.int 4607182418800017408],eP (p:=2<=aq) (by decide)]) (by kernel_rfl)
theorem Hv(hS:At Z s (.lst (B++[r3 0 .none k]))):shr d s (r3 65 .none l) c Z=some (.none,qr Z (r3 0 .none k) .none):=gF (tZ hS++BM hS++Hs hS++[tW Z [r3 0 .none k] [.none]]) (by kernel_rfl)
theorem Hw(hS:At Z s (.lst (B++[r3 2 .none k]))):shr d s (r3 51 .none l) c Z=some (.none,qr Z (r3 2 .none k) (.bool true)):=gF (tZ hS++BM hS++Hs hS++[tW Z [r3 2 .none k] [.bool true]]) (by kernel_rfl)
theorem LJ(hS:At Z s (.lst (B++[r3 4 (.int i) k])))(hc:At Z c (.lst Kv))(hi:dB Kv i=some v):∀op,op∈[12,23]->
  run (d+11) "known_unary" [.int op,v] (qr Z (r3 4 (.int i) k) v)=some (.tup [.bool false,.none],qr Z (r3 4 (.int i) k) v)->shr d s (r3 op (.int j) l) c Z=some (.none,qr Z (r3 4 (.int i) k) v):=
 jq.of (P:=λop=>run (d+11) "known_unary" [.int op,v] (qr Z (r3 4 (.int i) k) v)=some (.tup [.bool false,.none],qr Z (r3 4 (.int i) k) v)->shr d s (r3 op (.int j) l) c Z=some (.none,qr Z (r3 4 (.int i) k) v)) (by
  repeat (first | exact trivial | refine ⟨λhk=>gF (tZ hS++BM hS++Nt hS hc hi++[tW Z [r3 4 (.int i) k] [v],eC hk]) (by kernel_rfl),?_⟩))
theorem BN(hS:At Z s (.lst (B++[r3 0 .none k])))(hl:run (d+11) "literal_row" [.str "undefined",.int l,.ref c] (qr Z (r3 0 .none k) .none)=some (row,aT)):shr d s (r3 55 .none l) c Z=some (.tup [.int 1,.ref aT.n],aT.alloc (.lst [row])):=
 gF (tZ hS++BM hS++Hs hS++[tW Z [r3 0 .none k] [.none],eC (show run (d+11) "known_unary" [.int 55,.none] (qr Z (r3 0 .none k) .none)=some (.tup [.bool true,.str "undefined"],qr Z (r3 0 .none k) .none) by kernel_rfl),eC hl,eP (p:=1<=aq) (by decide)]) (by kernel_rfl)
theorem LK(hS:At Z s (.lst (B++[r3 4 (.int i) k1,r3 4 (.int j) k2])))(hc:At Z c (.lst Kv))(hi:dB Kv i=some v)(hj:dB Kv j=some w):∀op,op∈[30,41]->
  run (d+11) "known_binary" [.int op,v,w] (sZ Z (r3 4 (.int i) k1) (r3 4 (.int j) k2) v w)=some (.tup [.bool false,.none],sZ Z (r3 4 (.int i) k1) (r3 4 (.int j) k2) v w)->shr d s (r3 op .none l) c Z=some (.none,sZ Z (r3 4 (.int i) k1) (r3 4 (.int j) k2) v w):=
 jq.of (P:=λop=>run (d+11) "known_binary" [.int op,v,w] (sZ Z (r3 4 (.int i) k1) (r3 4 (.int j) k2) v w)=some (.tup [.bool false,.none],sZ Z (r3 4 (.int i) k1) (r3 4 (.int j) k2) v w)->shr d s (r3 op .none l) c Z=some (.none,sZ Z (r3 4 (.int i) k1) (r3 4 (.int j) k2) v w)) (by
  repeat (first | exact trivial | refine ⟨λhk=>gF (JD hS++JE hS++Ly hS++LD hS hc hi hj++[tW Z [r3 4 (.int i) k1,r3 4 (.int j) k2] [v,w],tW Z [r3 4 (.int i) k1,r3 4 (.int j) k2] [v,w],eC hk]) (by kernel_rfl),?_⟩))
theorem LL{z:Int}(hS:At Z s (.lst (B++[r3 4 (.int i) k1,r3 4 (.int j) k2])))(hc:At Z c (.lst Kv))(hi:dB Kv i=some v)(hj:dB Kv j=some w)
  (hl:run (d+11) "literal_row" [.int z,.int l,.ref c] (sZ Z (r3 4 (.int i) k1) (r3 4 (.int j) k2) v w)=some (row,aT)):∀op,op∈[30,31,32]->
  run (d+11) "known_binary" [.int op,v,w] (sZ Z (r3 4 (.int i) k1) (r3 4 (.int j) k2) v w)=some (.tup [.bool true,.int z],sZ Z (r3 4 (.int i) k1) (r3 4 (.int j) k2) v w)->shr d s (r3 op .none l) c Z=some (.tup [.int 2,.ref aT.n],aT.alloc (.lst [row])):=
 jq.of (P:=λop=>run (d+11) "known_binary" [.int op,v,w] (sZ Z (r3 4 (.int i) k1) (r3 4 (.int j) k2) v w)=some (.tup [.bool true,.int z],sZ Z (r3 4 (.int i) k1) (r3 4 (.int j) k2) v w)->shr d s (r3 op .none l) c Z=some (.tup [.int 2,.ref aT.n],aT.alloc (.lst [row]))) (by
  repeat (first | exact trivial | refine ⟨λhk=>gF (JD hS++JE hS++Ly hS++LD hS hc hi hj++[tW Z [r3 4 (.int i) k1,r3 4 (.int j) k2] [v,w],tW Z [r3 4 (.int i) k1,r3 4 (.int j) k2] [v,w],eC hk,eC hl,eP (p:=1<=aq) (by decide)]) (by kernel_rfl),?_⟩))
theorem LM(z:Bool)(hS:At Z s (.lst (B++[r3 4 (.int i) k1,r3 4 (.int j) k2])))(hc:At Z c (.lst Kv))(hi:dB Kv i=some v)(hj:dB Kv j=some w)
  (hk:run (d+11) "known_binary" [.int 45,v,w] (sZ Z (r3 4 (.int i) k1) (r3 4 (.int j) k2) v w)=some (.tup [.bool true,.bool z],sZ Z (r3 4 (.int i) k1) (r3 4 (.int j) k2) v w)):
  shr d s (r3 45 .none l) c Z=some (.tup [.int 2,.ref (Z.n+2)],(sZ Z (r3 4 (.int i) k1) (r3 4 (.int j) k2) v w).alloc (.lst [r3 (if z then 2 else 3) .none l])):=by
 induction z using Bool.casesOn<;>exact gF (JD hS++JE hS++Ly hS++LD hS hc hi hj++[tW Z [r3 4 (.int i) k1,r3 4 (.int j) k2] [v,w],tW Z [r3 4 (.int i) k1,r3 4 (.int j) k2] [v,w],eC hk,eP (p:=1<=aq) (by decide)]) (by kernel_rfl)
end
abbrev c1:CV:=.n 4607182418800017408
abbrev c2:CV:=.n 4611686018427387904
abbrev c3:CV:=.n 4613937818241073152
abbrev c4:CV:=.n 4616189618054758400
abbrev c5:CV:=.n 4617315517961601024
abbrev cm:CV:=.n 13830554455654793216
section
variable(d:Nat)(Z:St)
theorem Hx:run (d+11) "known_binary" [.int 30,c2.v,c3.v] Z=some (.tup [.bool true,c5.v],Z):=by kernel_rfl
theorem Hy:run (d+11) "known_binary" [.int 32,c2.v,c2.v] Z=some (.tup [.bool true,c4.v],Z):=by kernel_rfl
theorem Hz:run (d+11) "known_binary" [.int 31,c1.v,c2.v] Z=some (.tup [.bool true,cm.v],Z):=by kernel_rfl
theorem HA:run (d+11) "known_binary" [.int 31,c2.v,c1.v] Z=some (.tup [.bool true,c1.v],Z):=by kernel_rfl
theorem LN:run (d+11) "known_binary" [.int 41,c1.v,c2.v] Z=some (.tup [.bool false,.none],Z):=by kernel_rfl
theorem HB:run (d+11) "known_binary" [.int 30,.str "t0",c1.v] Z=some (.tup [.bool false,.none],Z):=by kernel_rfl
theorem LO:run (d+11) "known_binary" [.int 45,c1.v,c3.v] Z=some (.tup [.bool true,.bool true],Z):=by kernel_rfl
theorem HC:run (d+11) "known_binary" [.int 45,c3.v,c1.v] Z=some (.tup [.bool true,.bool false],Z):=by kernel_rfl
theorem DY:run (d+11) "known_unary" [.int 23,c1.v] Z=some (.tup [.bool false,.none],Z):=by kernel_rfl
theorem LR:run (d+11) "known_unary" [.int 12,c1.v] Z=some (.tup [.bool false,.none],Z):=by kernel_rfl
theorem LU:run (d+11) "known_unary" [.int 12,c4.v] Z=some (.tup [.bool false,.none],Z):=by kernel_rfl
theorem HD:run (d+11) "known_unary" [.int 12,.str "undefined"] Z=some (.tup [.bool false,.none],Z):=by kernel_rfl
end
structure SR where
 op:Int
 a:Ar
 l:Int
def bh(K:List CV)(r:SR):V:=r3 r.op (r.a.v K) r.l
structure bp (c:Nat) (Z J:St):Prop where
 n:Z.n<=J.n
 f:∀a,a<Z.n->a≠c->J.f a=Z.f a
section
variable{c k:Nat}{Z ao aF:St}{o:af}
theorem bp.refl(c:Nat)(Z:St):bp c Z Z:=⟨Nat.le_refl _,λ_ _ _=>rfl⟩
theorem bp.trans(a:bp c Z ao)(b:bp c ao aF):bp c Z aF:=⟨Nat.le_trans a.n b.n,λk h q=>(b.f k (Nat.lt_of_lt_of_le h a.n) q).trans (a.f k h q)⟩
theorem Ext.HE(a:Ext Z ao)(c:Nat):bp c Z ao:=⟨a.n,λk h _=>a.f k h⟩
theorem At.xc(h:At Z k o)(x:bp c Z ao)(q:k≠c):At ao k o:=⟨(x.f k h.lt q).trans h.e,Nat.lt_of_lt_of_le h.lt x.n⟩
theorem bp.al(x:bp c Z ao)(o:af):bp c Z (ao.alloc o):=x.trans ((aQ _ _).HE c)
theorem bp.pu(x:bp c Z ao)(h:Z.n<=k):bp c Z (ao.put k o):=⟨x.n,λa q r=>(if_neg (Nat.ne_of_lt (Nat.lt_of_lt_of_le q h))).trans (x.f a q r)⟩
theorem bp.fR(x:bp c Z ao):bp c Z (ao.put c o):=⟨x.n,λa q r=>(if_neg r).trans (x.f a q r)⟩
end
noncomputable def LW(K:List CV)(Z:St)(v:V):Option (Nat×List SR)->Prop
 | .none=>v=.none
 | some (k,new)=>∃q,v=.tup [.int (k:Nat),.ref q]/\At Z q (.lst (new.map (bh K)))
def Nu(K:List CV):Prop:=(∀x,x∈K->nG x=true)/\K.length<4000
noncomputable def bc(K:List CV)(S:List SR)(r:SR)(res:Option (Nat×List SR))(K':List CV):Prop:=Nu K->∀(d:Nat)(Z:St)(s c:Nat),At Z s (.lst (S.map (bh K)))->At Z c (.lst (K.map CV.v))->
 ∃J,bp c Z J/\At J c (.lst (K'.map CV.v))/\∃v,shr d s (bh K r) c Z=some (v,J)/\LW K' J v res
section
variable{K:List CV}{S B:List SR}{x y:SR}{l k i k1 k2:Int}{a b:Ar}{v w z:CV}{Q:Option (Nat×List SR)}
theorem ub{Z:St}{s:Nat}(h:At Z s (.lst ((B++[x]).map (bh K)))):At Z s (.lst (B.map (bh K)++[bh K x])):=by rw [List.map_append] at h;exact h
theorem at2{Z:St}{s:Nat}(h:At Z s (.lst ((B++[y,x]).map (bh K)))):At Z s (.lst (B.map (bh K)++[bh K y,bh K x])):=by rw [List.map_append] at h;exact h
theorem bc.g0(h:∀(d:Nat)(Z:St)(s c:Nat),At Z s (.lst (S.map (bh K)))->At Z c (.lst (K.map CV.v))->∃J,Ext Z J/\shr d s (bh K x) c Z=some (.none,J)):bc K S x none K:=λ_ d Z s c hS hc=>
 let ⟨J,e,t⟩:=h d Z s c hS hc
 ⟨J,e.HE c,hc.x e,.none,t,rfl⟩
theorem bc.mX{n:Nat}{new:List SR}(h:∀(d:Nat)(Z:St)(s c:Nat),At Z s (.lst (S.map (bh K)))->At Z c (.lst (K.map CV.v))->∃J,Ext Z J/\shr d s (bh K x) c Z=some (.tup [.int (n:Nat),.ref J.n],J.alloc (.lst (new.map (bh K))))):bc K S x (some (n,new)) K:=λ_ d Z s c hS hc=>
 let ⟨J,e,t⟩:=h d Z s c hS hc
 ⟨_,(e.al _).HE c,hc.x (e.al _),_,t,_,rfl,ay _ _⟩
theorem e1(Z:St)(x v:V):Ext Z (qr Z x v):=(aQ _ _).al _
theorem e2(Z:St)(y x v w:V):Ext Z (sZ Z y x v w):=(aQ _ _).al _
theorem bc.zero(op:Int)(h:op∈[0,1,2,3]):bc K S ⟨op,.no,l⟩ none K:=.g0 λd Z s c hS hc=>⟨Z,.refl _,Hq hS op h l⟩
theorem bc.td(op:Int)(h:op∈[4,11,21]):bc K S ⟨op,.i k,l⟩ none K:=.g0 λd Z s c hS hc=>⟨Z,.refl _,xA hS op h l k⟩
theorem bc.cG(op:Int)(h:op∈[4,11,21]):bc K S ⟨op,.c v,l⟩ none K:=.g0 λd Z s c hS hc=>⟨Z,.refl _,xA hS op h l _⟩
theorem bc.nil:bc K [] ⟨6,.no,l⟩ none K:=.g0 λd Z s c hS hc=>⟨Z,.refl _,Lz hS⟩
theorem bc.qt(op:Int)(h:op∈[11,12,23,30,41,51]):bc K (B++[⟨op,a,k⟩]) ⟨6,.no,l⟩ none K:=.g0 λd Z s c hS hc=>⟨Z,.refl _,Hr op h (ub hS)⟩
theorem bc.not:bc K (B++[⟨11,a,k⟩]) ⟨53,.no,l⟩ none K:=.g0 λd Z s c hS hc=>⟨Z,.refl _,LA (ub hS)⟩
theorem bc.U9:bc K (B++[⟨53,a,k⟩]) ⟨61,.i i,l⟩ none K:=.g0 λd Z s c hS hc=>⟨Z,.refl _,LB (ub hS)⟩
theorem bc.under:bc K (B++[⟨11,a,k1⟩,⟨4,b,k2⟩]) ⟨30,.no,l⟩ none K:=.g0 λd Z s c hS hc=>⟨Z,.refl _,DX (B:=B.map (bh K)) (a:=a.v K) (b:=b.v K) (at2 hS)⟩
theorem bc.LX:bc K (B++[⟨53,a,k⟩]) ⟨59,.i i,l⟩ (some (1,[⟨60,.i i,l⟩])) K:=.mX λd Z s c hS hc=>⟨Z,.refl _,DV (ub hS)⟩
theorem bc.LY:bc K (B++[⟨53,a,k⟩]) ⟨60,.i i,l⟩ (some (1,[⟨59,.i i,l⟩])) K:=.mX λd Z s c hS hc=>⟨Z,.refl _,DW (ub hS)⟩
theorem vN(h:v∈K)(hl:K.length<4000):dB (K.map CV.v) (K.idxOf v:Nat)=some v.v:=by
 have:=List.idxOf_lt_length_of_mem h
 unfold dB
 rw [if_pos (by show (K.idxOf v)<_;lia),if_pos (Int.natCast_nonneg _),Int.toNat_natCast,List.getElem?_map,Hm h];rfl
theorem bc.oP{n:Nat}{new:List SR}(h:Nu K->∀(d:Nat)(Z:St)(s c:Nat),At Z s (.lst (S.map (bh K)))->At Z c (.lst (K.map CV.v))->∃J,Ext Z J/\shr d s (bh K x) c Z=some (.tup [.int (n:Nat),.ref J.n],J.alloc (.lst (new.map (bh K))))):bc K S x (some (n,new)) K:=λo=>bc.mX (h o) o
theorem bc.Fo(h:Nu K->∀(d:Nat)(Z:St)(s c:Nat),At Z s (.lst (S.map (bh K)))->At Z c (.lst (K.map CV.v))->∃J,Ext Z J/\shr d s (bh K x) c Z=some (.none,J)):bc K S x none K:=λo=>bc.g0 (h o) o
theorem bc.pop(h:v∈K):bc K (B++[⟨4,.c v,k⟩]) ⟨6,.no,l⟩ (some (1,[])) K:=.oP λo d Z s c hS hc=>⟨_,e1 _ _ _,LF (ub hS) hc (vN h o.2)⟩
theorem bc.dup(h:v∈K):bc K (B++[⟨4,.c v,k⟩]) ⟨7,.no,l⟩ (some (1,[⟨4,.c v,k⟩,⟨4,.c v,k⟩])) K:=.oP λo d Z s c hS hc=>⟨_,e1 _ _ _,LG (ub hS) hc (vN h o.2)⟩
theorem bc.dup2(h:v∈K)(G:w∈K):bc K (B++[⟨4,.c v,k1⟩,⟨4,.c w,k2⟩]) ⟨8,.no,l⟩ (some (2,[⟨4,.c v,k1⟩,⟨4,.c w,k2⟩,⟨4,.c v,k1⟩,⟨4,.c w,k2⟩])) K:=.oP λo d Z s c hS hc=>⟨_,e2 _ _ _ _ _,Ht (at2 hS) hc (vN h o.2) (vN G o.2)⟩
theorem bc.swap(h:v∈K)(G:w∈K):bc K (B++[⟨4,.c v,k1⟩,⟨4,.c w,k2⟩]) ⟨9,.no,l⟩ (some (2,[⟨4,.c w,k2⟩,⟨4,.c v,k1⟩])) K:=.oP λo d Z s c hS hc=>⟨_,e2 _ _ _ _ _,Hu (at2 hS) hc (vN h o.2) (vN G o.2)⟩
theorem bc.t0:bc K (B++[⟨0,.no,k⟩]) ⟨62,.i i,l⟩ (some (1,[])) K:=.mX λd Z s c hS hc=>⟨_,e1 _ _ _,Qj (ub hS)⟩
theorem bc.t1:bc K (B++[⟨1,.no,k⟩]) ⟨61,.i i,l⟩ (some (1,[⟨1,.no,k⟩,⟨58,.i i,l⟩])) K:=.mX λd Z s c hS hc=>⟨_,e1 _ _ _,Qk (ub hS)⟩
theorem bc.t2:bc K (B++[⟨2,.no,k⟩]) ⟨59,.i i,l⟩ (some (1,[])) K:=.mX λd Z s c hS hc=>⟨_,e1 _ _ _,Ql (ub hS)⟩
theorem bc.t3:bc K (B++[⟨3,.no,k⟩]) ⟨59,.i i,l⟩ (some (1,[⟨58,.i i,l⟩])) K:=.mX λd Z s c hS hc=>⟨_,e1 _ _ _,Qm (ub hS)⟩
theorem bc.tc(h:c1∈K):bc K (B++[⟨4,.c c1,k⟩]) ⟨62,.i i,l⟩ (some (1,[⟨4,.c c1,k⟩,⟨58,.i i,l⟩])) K:=.oP λo d Z s c hS hc=>⟨_,e1 _ _ _,Qn (ub hS) hc (vN h o.2)⟩
theorem bc.ret:bc K (B++[⟨0,.no,k⟩]) ⟨65,.no,l⟩ none K:=.g0 λd Z s c hS hc=>⟨_,e1 _ _ _,Hv (ub hS)⟩
theorem bc.neg:bc K (B++[⟨2,.no,k⟩]) ⟨51,.no,l⟩ none K:=.g0 λd Z s c hS hc=>⟨_,e1 _ _ _,Hw (ub hS)⟩
theorem bc.Nv{op:Int}(ho:op∈[12,23])(h:v∈K)(hk:∀d Z,run (d+11) "known_unary" [.int op,v.v] Z=some (.tup [.bool false,.none],Z))(b:Ar)(hb:∀K,∃j,b.v K=.int j):bc K (B++[⟨4,.c v,k⟩]) ⟨op,b,l⟩ none K:=.Fo λo d Z s c hS hc=>⟨_,e1 _ _ _,by
 obtain ⟨j,hj⟩:=hb K
 unfold bh;rw [hj]
 exact LJ (ub hS) hc (vN h o.2) op ho (hk d _)⟩
theorem bc.Sq{op:Int}(ho:op∈[30,41])(h:v∈K)(G:w∈K)(hk:∀d Z,run (d+11) "known_binary" [.int op,v.v,w.v] Z=some (.tup [.bool false,.none],Z)):bc K (B++[⟨4,.c v,k1⟩,⟨4,.c w,k2⟩]) ⟨op,.no,l⟩ none K:=.Fo λo d Z s c hS hc=>⟨_,e2 _ _ _ _ _,LK (at2 hS) hc (vN h o.2) (vN G o.2) op ho (hk d _)⟩
theorem bc.Sr(t:Bool)(h:v∈K)(G:w∈K)(hk:∀d Z,run (d+11) "known_binary" [.int 45,v.v,w.v] Z=some (.tup [.bool true,.bool t],Z)):bc K (B++[⟨4,.c v,k1⟩,⟨4,.c w,k2⟩]) ⟨45,.no,l⟩ (some (2,[⟨if t then 2 else 3,.no,l⟩])) K:=.oP λo d Z s c hS hc=>⟨_,e2 _ _ _ _ _,LM t (at2 hS) hc (vN h o.2) (vN G o.2) (hk d _)⟩
theorem DZ{Z:St}{c:Nat}(hc:At Z c (.lst (K.map CV.v)))(v:CV):At (zw Z c K v) c (.lst ((dh K v).map CV.v)):=by
 unfold zw dh
 split
 ·exact hc
 ·rw [List.map_append];exact At.self hc.lt _
theorem BO{Z:St}{c:Nat}(v:CV):bp c Z (zw Z c K v):=by
 unfold zw
 split
 ·exact .refl _ _
 ·exact (bp.refl _ _).fR
theorem bc.lit{n:Nat}(hz:nG z=true)(h:Nu K->∀(d:Nat)(Z:St)(s c:Nat),At Z s (.lst (S.map (bh K)))->At Z c (.lst (K.map CV.v))->
  ∃ao,Ext Z ao/\∀row aT,run (d+11) "literal_row" [z.v,.int x.l,.ref c] ao=some (row,aT)->shr d s (bh K x) c Z=some (.tup [.int (n:Nat),.ref aT.n],aT.alloc (.lst [row]))):bc K S x (some (n,[⟨4,.c z,x.l⟩])) (dh K z):=λo d Z s c hS hc=>by
 refine aO (h o d Z s c hS hc) λao C t=>?_
 have l:=BL (d:=d+8) (ln:=x.l) o.1 hz (hc.x C) o.2
 refine ⟨_,((C.HE c).trans (BO z)).al _,(DZ (hc.x C) z).al _,_,t _ _ l,_,rfl,ay _ _⟩
theorem bc.HF:bc K (B++[⟨0,.no,k⟩]) ⟨55,.no,l⟩ (some (1,[⟨4,.c (.s "undefined"),l⟩])) (dh K (.s "undefined")):=.lit (x:=⟨55,.no,l⟩) (by kernel_rfl) λo d Z s c hS hc=>⟨_,e1 _ _ _,λrow aT t=>BN (ub hS) t⟩
theorem bc.Nw{op z:Int}(ho:op∈[30,31,32])(h:v∈K)(G:w∈K)(hk:∀d Z,run (d+11) "known_binary" [.int op,v.v,w.v] Z=some (.tup [.bool true,.int z],Z)):bc K (B++[⟨4,.c v,k1⟩,⟨4,.c w,k2⟩]) ⟨op,.no,l⟩ (some (2,[⟨4,.c (.n z),l⟩])) (dh K (.n z)):=
 .lit (x:=⟨op,.no,l⟩) rfl λo d Z s c hS hc=>⟨_,e2 _ _ _ _ _,λrow aT t=>LL (at2 hS) hc (vN h o.2) (vN G o.2) t op ho (hk d _)⟩
end
end Mine
end
section
namespace Mine
open PySem
theorem vO{d:Nat}{Z:St}{u:Nat}{D:UD}{L:List Int}{p:Nat}(hu:At Z u D.o)(h:At Z D.li (.lst (L.map V.int)))(hp:p<4000):run (d+1) "line_at" [.ref u,.int (p:Nat)] Z=some (.int ((L[p]?).getD 0),Z):=by
 by_cases q:p<L.length
 ·have h1:bf Z .Lt (.int (p:Nat)) (.int ((L.map V.int).length:Nat))=some true:=zv (by rw [List.length_map];omega)
  have h2:dB (L.map V.int) (p:Nat)=some (.int ((L[p]?).getD 0)):=by
   unfold dB
   rw [if_pos (by show p<_;omega),if_pos (Int.natCast_nonneg _),Int.toNat_natCast,List.getElem?_map,List.getElem?_eq_getElem q];rfl
  exact gF [eO hu,eO h,eB h1,eO hu,eO h,eV h2] (by kernel_rfl)
 ·have h1:bf Z .Lt (.int (p:Nat)) (.int ((L.map V.int).length:Nat))=some false:=mW (by rw [List.length_map];omega)
  rw [List.getElem?_eq_none (by omega)]
  exact gF [eO hu,eO h,eB h1] (by kernel_rfl)
noncomputable def fm(u c r p:Nat)(f:Int)(e:Nat)(w:Tw):Ms:=mk "folded_rows" [("unit",.ref u),("consts",.ref c),("rows",.ref r),("places",.ref p),("firm",.int f),("ends",.ref e),("pc",w 0),("op",w 1),("arg",w 2),("row",w 3),("found",w 4)]
noncomputable def fw(w:Tw)(pc op:Int)(a:V)(l:Int)(fd:V):Tw:=up (up (up (up (up w 0 (.int pc)) 1 (.int op)) 2 a) 3 (r3 op a l)) 4 fd
inductive AV:V->Prop
 | no:AV .none
 | i (k:Int):AV (.int k)
theorem AV.of(K:List CV)(a:Ar):AV (a.v K):=by
 induction a using Ar.casesOn with
 | no=>exact .no
 | i k=>exact .i k
 | c x=>exact .i _
section
variable{d:Nat}{Z aT:St}{u c r p e q:Nat}{f pc op l:Int}{a:V}{w:Tw}{R P S R' N:List V}{k:Nat}{b:Bool}
abbrev j6(Z:St)(p:Nat)(P R:List V):St:=Z.put p (.lst (P++[.int (R.length:Nat)]))
noncomputable def Fp(b:Bool)(n:d4 w)(hb:bf Z .In (.int pc) (.ref e)=some b)(hr:At Z r (.lst R))(hp:At Z p (.lst P))(lp:P.length<aq)
  (hl:run (d+12) "line_at" [.ref u,.int pc] (j6 Z p P R)=some (.int l,j6 Z p P R)) (LZ:At (j6 Z p P R) r (.lst R)) (hS:dU R (some (if b then (R.length:Int) else f)) none=some S):List Ev:=
 [eN (n 0),eN (n 1),eN (n 2),eB hb]++(if b then [eO hr] else [])++[eO hp,eO hr,eO hp,eP lp,eC hl,eN (n 3),eO LZ,eL hS]
theorem HH(b:Bool)(av:AV a)(n:d4 w)(hb:bf Z .In (.int pc) (.ref e)=some b)(hr:At Z r (.lst R))(hp:At Z p (.lst P))(lp:P.length<aq)
  (hl:run (d+12) "line_at" [.ref u,.int pc] (j6 Z p P R)=some (.int l,j6 Z p P R)) (LZ:At (j6 Z p P R) r (.lst R)) (hS:dU R (some (if b then (R.length:Int) else f)) none=some S)
  (hs:shr d (j6 Z p P R).n (r3 op a l) c ((j6 Z p P R).alloc (.lst S))=some (.none,aT)) (L9:At aT r (.lst R)) (lr:R.length<aq):
  tn "folded_rows" 1 (d+12) 39 (.tup [.int pc,.tup [.int op,a]]) (fm u c r p f e w) Z=some (.next,fm u c r p (if b then (R.length:Int) else f) e (fw w pc op a l .none),aT.put r (.lst (R++[r3 op a l]))):=by
 cases av<;>induction b using Bool.casesOn<;>exact gT (Fp _ n hb hr hp lp hl LZ hS++[eC hs,eN (n 4),eO L9,eO L9,eP lr]) (by kernel_rfl)
theorem HI(b:Bool)(av:AV a)(n:d4 w)(hb:bf Z .In (.int pc) (.ref e)=some b)(hr:At Z r (.lst R))(hp:At Z p (.lst P))(lp:P.length<aq)
  (hl:run (d+12) "line_at" [.ref u,.int pc] (j6 Z p P R)=some (.int l,j6 Z p P R)) (LZ:At (j6 Z p P R) r (.lst R)) (hS:dU R (some (if b then (R.length:Int) else f)) none=some S)
  (hs:shr d (j6 Z p P R).n (r3 op a l) c ((j6 Z p P R).alloc (.lst S))=some (.tup [.int (k:Nat),.ref q],aT)) (L9:At aT r (.lst R)) (hq:At aT q (.lst N))
  (hc:dU R none (some ((R.length:Nat)-(k:Nat):Int))=some R') (lr:R'.length+N.length<=aq):
  tn "folded_rows" 1 (d+12) 39 (.tup [.int pc,.tup [.int op,a]]) (fm u c r p f e w) Z=some (.next,fm u c (aT.n+1) p (if b then (R.length:Int) else f) e (fw w pc op a l (.tup [.int (k:Nat),.ref q])),(aT.alloc (.lst R')).alloc (.lst (R'++N))):=by
 cases av<;>induction b using Bool.casesOn<;>exact gT (Fp _ n hb hr hp lp hl LZ hS++[eC hs,eN (n 4),eO L9,eO L9,eL hc,eO (ay aT (.lst R')),eO (hq.al (.lst R')),eP lr]) (by kernel_rfl)
end
def oQ(K:List CV)(r:SR):Prop:=∀x,r.a=.c x->x∈K
structure Gr (K K':List CV):Prop where
 i:∀x,x∈K->x∈K'/\K'.idxOf x=K.idxOf x
 n:K'.length<=K.length+1
 o:(∀x,x∈K->nG x=true)->∀x,x∈K'->nG x=true
theorem Gr.refl(K:List CV):Gr K K:=⟨λx h=>⟨h,rfl⟩,Nat.le_succ _,λh=>h⟩
theorem Gr.add(K:List CV){z:CV}(hz:nG z=true):Gr K (dh K z):=by
 unfold dh
 split
 ·exact .refl K
 ·exact ⟨λx h=>⟨List.mem_append_left _ h,by rw [List.idxOf_append,if_pos h]⟩,by rw [List.length_append];exact Nat.le_refl _,λh x hx=>by
   rw [List.mem_append,List.mem_singleton] at hx
   induction hx using Or.casesOn with
   | inl q=>exact h x q
   | inr q=>rw [q];exact hz⟩
theorem Gr.row{K K':List CV}(g:Gr K K'){r:SR}(h:oQ K r):bh K' r=bh K r/\oQ K' r:=by
 refine ⟨?_,λx e=>(g.i x (h x e)).1⟩
 unfold bh
 cases e:r.a with
 | c x=>unfold Ar.v;dsimp only;rw [(g.i x (h x e)).2]
 | _=>rfl
theorem Gr.rows{K K':List CV}(g:Gr K K'):∀{l:List SR},(∀r,r∈l->oQ K r)->l.map (bh K')=l.map (bh K)
 | [],_=>rfl
 | r::l,h=>by rw [List.map_cons,List.map_cons,(g.row (h r List.mem_cons_self)).1,g.rows λx hx=>h x (List.mem_cons_of_mem _ hx)]
def fA(b:Bool)(A S:List SR):List SR:=if b then A++S else A
def fS(b:Bool)(S:List SR):List SR:=if b then [] else S
theorem jr(b:Bool)(A S:List SR):fA b A S++fS b S=A++S:=by induction b using Bool.casesOn<;>simp [fA,fS]
inductive Run:List CV->List SR->List SR->List (Bool×SR)->List CV->List SR->List SR->List Nat->Prop
 | nil {K A S}:Run K A S [] K A S []
 | keep {K A S b r rest K' A' S' P}:bc K (fS b S) r none K->oQ K r->Run K (fA b A S) (fS b S++[r]) rest K' A' S' P->Run K A S ((b,r)::rest) K' A' S' ((A.length+S.length)::P)
 | fold {K A S b r rest K' A' S' P B T new aJ}:bc K (fS b S) r (some (T.length,new)) aJ->Gr K aJ->(∀x,x∈new->oQ aJ x)->fS b S=B++T->new.length<=4->Run aJ (fA b A S) (B++new) rest K' A' S' P->Run K A S ((b,r)::rest) K' A' S' ((A.length+S.length)::P)
theorem Run.append{K A S l K' A' S' P l' Fq Ss Su P'}(x:Run K A S l K' A' S' P)(y:Run K' A' S' l' Fq Ss Su P'):Run K A S (l++l') Fq Ss Su (P++P'):=by
 induction x with
 | nil=>exact y
 | keep h c _ ih=>exact .keep h c (ih y)
 | fold h g c e l _ ih=>exact .fold h g c e l (ih y)
theorem Run.len{K A S l K' A' S' P}(x:Run K A S l K' A' S' P):P.length=l.length:=by
 induction x with
 | nil=>rfl
 | keep _ _ _ ih=>exact congrArg (·+1) ih
 | fold _ _ _ _ _ _ ih=>exact congrArg (·+1) ih
theorem Run.end_{K A S r K' A' S' P}(x:Run K A S r K' A' S' P)(e:r=[]):K'=K/\A'=A/\S'=S/\P=[]:=by
 cases x with
 | nil=>exact ⟨rfl,rfl,rfl,rfl⟩
 | _=>cases e
noncomputable def zx(fl:Nat->Bool)(ln:Nat->Int):Nat->List CR->List (Bool×SR)
 | _,[]=>[]
 | n,r::l=>(fl n,⟨r.1,r.2,ln n⟩)::zx fl ln (n+1) l
theorem iK(fl:Nat->Bool)(ln:Nat->Int):∀(n:Nat)(l l':List CR),zx fl ln n (l++l')=zx fl ln n l++zx fl ln (n+l.length) l'
 | _,[],_=>rfl
 | n,r::l,l'=>by
  show _::zx fl ln (n+1) (l++l')=_
  rw [iK fl ln (n+1) l l',List.length_cons,Nat.add_right_comm,Nat.add_assoc];rfl
def dj(n:Nat):V:=.int (n:Nat)
section
variable{u c p e:Nat}{D:UD}{E:List (Int×V)}{aw Z aT:St}{L:List Int}{d:Nat}{code:List V}
structure FN (u c p e r:Nat) (D:UD):Prop where
 u:u≠c/\u≠p/\u≠r
 li:D.li≠c/\D.li≠p/\D.li≠r
 co:D.co≠c/\D.co≠p/\D.co≠r
 e:e≠c/\e≠p/\e≠r
 p:p≠c/\p≠r
 r:c≠r
structure FB (aw:St) (u c p e:Nat) (D:UD) (L:List Int) (code:List V) (E:List (Int×V)) (Z:St):Prop where
 hu:At Z u D.o
 n9:At Z D.li (.lst (L.map V.int))
 vP:At Z D.co (.lst code)
 he:At Z e (.bO E)
 hx:bp c aw Z
 hp:aw.n<=p
structure FL (aw:St) (u c p e:Nat) (D:UD) (cV K:List CV) (A S:List SR) (P:List Nat) (left:Nat) (m:Ms) (Z:St):Prop where
 hk:At Z c (.lst (K.map CV.v))
 hp:At Z p (.lst (P.map dj))
 hr:∃r w,d4 w/\m=fm u c r p (A.length:Nat) e w/\At Z r (.lst ((A++S).map (bh K)))/\FN u c p e r D/\aw.n<=r
 hc:∀r,r∈A++S->oQ K r
 ho:(∀x,x∈K->nG x=true)/\K.length+left<4000
 hl:(A++S).length+4*left<4000/\P.length+left<4000
 hg:∀x,x∈cV->x∈K/\K.idxOf x=cV.idxOf x
theorem mY{k p c:Nat}{o:af}{P R:List V}{Sv:List V}(h:At Z k o)(hp:k≠p)(hc:k≠c)(x:bp c ((j6 Z p P R).alloc (.lst Sv)) aT):At aT k o:=((h.put hp).al _).xc x hc
theorem FB.mY{P R Sv:List V}{r:Nat}(B:FB aw u c p e D L code E Z)(n:FN u c p e r D)(x:bp c ((j6 Z p P R).alloc (.lst Sv)) aT):FB aw u c p e D L code E aT:=
 ⟨Mine.mY B.hu n.u.2.1 n.u.1 x,Mine.mY B.n9 n.li.2.1 n.li.1 x,Mine.mY B.vP n.co.2.1 n.co.1 x,Mine.mY B.he n.e.2.1 n.e.1 x,((B.hx.pu B.hp).al _).trans x,B.hp⟩
theorem FB.put{r:Nat}{o:af}(B:FB aw u c p e D L code E Z)(n:FN u c p e r D)(hr:aw.n<=r):FB aw u c p e D L code E (Z.put r o):=
 ⟨B.hu.put n.u.2.2,B.n9.put n.li.2.2,B.vP.put n.co.2.2,B.he.put n.e.2.2,B.hx.pu hr,B.hp⟩
theorem FB.al(B:FB aw u c p e D L code E Z)(o:af):FB aw u c p e D L code E (Z.alloc o):=⟨B.hu.al o,B.n9.al o,B.vP.al o,B.he.al o,B.hx.al o,B.hp⟩
theorem FN.new{r r':Nat}(n:FN u c p e r D)(B:FB aw u c p e D L code E Z){o o':af}(hp:At Z p o)(hc:At Z c o')(h:Z.n<=r'):FN u c p e r' D:=
 have f:∀{k o},At Z k o->k≠r':=λG=>Nat.ne_of_lt (Nat.lt_of_lt_of_le G.lt h)
 ⟨⟨n.u.1,n.u.2.1,f B.hu⟩,⟨n.li.1,n.li.2.1,f B.n9⟩,⟨n.co.1,n.co.2.1,f B.vP⟩,⟨n.e.1,n.e.2.1,f B.he⟩,⟨n.p.1,f hp⟩,f hc⟩
theorem Fs(b:Bool){A S:List SR}{K:List CV}:dU ((A++S).map (bh K)) (some (if b then ((((A++S).map (bh K)).length:Nat):Int) else ((A.length:Nat):Int))) none=some ((fS b S).map (bh K)):=by
 induction b using Bool.casesOn with
 | true=>
  have:=qq (B:=(A++S).map (bh K)) [] 0
  rw [List.append_nil] at this
  exact this
 | false=>
  have:=qq (B:=A.map (bh K)) (S.map (bh K)) 0
  rw [<-List.map_append,List.length_map] at this
  exact this
theorem HJ{l l':List V}{n k:Nat}(h:n=(l++l').length)(hk:k=l'.length):dU (l++l') none (some ((n:Nat)-(k:Nat):Int))=some l:=by
 subst h;subst hk
 unfold dU
 dsimp only [Option.getD]
 rw [if_pos ⟨Int.le_refl 0,by rw [List.length_append];lia⟩,show ((((l++l').length:Nat):Int)-(l'.length:Nat)).toNat=l.length by rw [List.length_append];lia]
 show some ((List.take l.length (l++l')).drop 0)=_
 rw [List.take_left];rfl
theorem BP(b:Bool){A S:List SR}{K:List CV}:(if b then ((((A++S).map (bh K)).length:Nat):Int) else ((A.length:Nat):Int))=((fA b A S).length:Nat):=by
 cases b
 ·rfl
 ·rw [List.length_map];rfl
end
section
variable{u c p e:Nat}{D:UD}{E:List (Int×V)}{aw Z aT:St}{L:List Int}{d:Nat}{code:List V}{cV K aJ:List CV}{A S B T new:List SR}{P:List Nat}{left pc:Nat}{m:Ms}{b:Bool}{r:SR}
theorem j7(h:At Z e (.bO E))(k:Int):bf Z .In (.int k) (.ref e)=some (aI E k).isSome:=qd h.e
theorem Ma{l:List SR}{n:Nat}(h:l.length<n)(hn:n<=4000):(l.map (bh K)).length<aq:=by rw [List.length_map];exact Nat.lt_of_lt_of_le h (Nat.le_trans hn (by decide))
theorem oR{n:Nat}(h:(A++S).length=n):P.map dj++[.int (((A++S).map (bh K)).length:Nat)]=(P++[n]).map dj:=by
 rw [List.length_map,h,List.map_append];rfl
theorem FL.ahead(B:FB aw u c p e D L code E Z)(F:FL aw u c p e D cV K A S P (left+1) m Z){res:Option (Nat×List SR)}(hs:bc K (fS b S) r res aJ):
  ∃rr w aT v,d4 w/\m=fm u c rr p (A.length:Nat) e w/\At Z rr (.lst ((A++S).map (bh K)))/\FN u c p e rr D/\aw.n<=rr/\FB aw u c p e D L code E aT/\Z.n<aT.n/\
   At aT c (.lst (aJ.map CV.v))/\At aT p (.lst ((P++[A.length+S.length]).map dj))/\At aT rr (.lst ((A++S).map (bh K)))/\LW aJ aT v res/\
   shr d (j6 Z p (P.map dj) ((A++S).map (bh K))).n (bh K r) c ((j6 Z p (P.map dj) ((A++S).map (bh K))).alloc (.lst ((fS b S).map (bh K))))=some (v,aT):=by
 refine Ae (F.hr) λrr w nw em hr n hn=>?_
 refine bJ (hs ⟨F.ho.1,Nat.lt_of_le_of_lt (Nat.le_add_right _ _) F.ho.2⟩ d ((j6 Z p (P.map dj) ((A++S).map (bh K))).alloc (.lst ((fS b S).map (bh K)))) _ c (ay _ _) ((F.hk.put n.p.1.symm).al _)) λaT x3 k3 Qo=>?_
 obtain ⟨v,t,rv⟩:=Qo
 refine ⟨rr,w,aT,v,nw,em,hr,n,hn,B.mY n x3,x3.n,k3,?_,mY hr n.p.2.symm n.r.symm x3,rv,t⟩
 rw [<-oR (K:=K) (A:=A) (S:=S) (n:=A.length+S.length) List.length_append]
 exact ((At.self F.hp.lt _).al _).xc x3 n.p.1
theorem FL.Mb(Bb:FB aw u c p e D L code E Z)(F:FL aw u c p e D cV K A S P (left+1) m Z)(hb:(aI E (pc:Nat)).isSome=b)(Qq:pc<4000){op:Int}{a:Ar}(hl:r=⟨op,a,(L[pc]?).getD 0⟩)(hs:bc K (fS b S) r none K)(hc:oQ cV r):
  ∃m' J,tn "folded_rows" 1 (d+12) 39 (.tup [.int (pc:Nat),rv cV (op,a)]) m Z=some (.next,m',J)/\FB aw u c p e D L code E J/\FL aw u c p e D cV K (fA b A S) (fS b S++[r]) (P++[A.length+S.length]) left m' J:=by
 refine ET (F.ahead (d:=d) Bb hs) λrr w aT v nw em hr n hn B3 Qe k3 p3 Nx rv t=>?_
 cases rv
 subst em
 have ea:a.v cV=a.v K:=by
  induction a using Ar.casesOn with
  | c x=>exact congrArg (λn:Nat=>V.int n) (F.hg x (hc x (by rw [hl]))).2.symm
  | _=>rfl
 have zM:oQ K r:=λx e=>(F.hg x (hc x e)).1
 have ln:=vO (d:=d+11) (Z:=j6 Z p (P.map dj) ((A++S).map (bh K))) (p:=pc) (Bb.hu.put n.u.2.1) (Bb.n9.put n.li.2.1) Qq
 have l1:=F.hl.1
 have f:=HH (d:=d) b (AV.of K a) nw ((j7 Bb.he _).trans (congrArg some hb)) hr F.hp (by rw [List.length_map];exact Nat.lt_of_le_of_lt (Nat.le_add_right _ _) (Nat.lt_trans F.hl.2 (by decide))) ln (hr.put n.p.2.symm) (Fs b) (by rw [hl] at t;exact t) Nx (Ma (n:=4000) (by lia) (Nat.le_refl _))
 refine ⟨_,_,by unfold Mine.rv;rw [ea];exact f,B3.put n hn,k3.put n.r,p3.put n.p.2,⟨rr,_,((((nw.up 0 (fO _)).up 1 (fO _)).up 2 (Hg K a)).up 3 (Qd _)).up 4 UZ,by rw [<-BP];rfl,?_,n,hn⟩,?_,⟨F.ho.1,by have:=F.ho.2;lia⟩,?_,F.hg⟩
 ·rw [<-List.append_assoc,jr,show ((A++S)++[r]).map (bh K)=(A++S).map (bh K)++[bh K r] from List.map_append,hl]
  exact At.self Nx.lt _
 ·intro x hx
  rw [<-List.append_assoc,jr,List.mem_append,List.mem_singleton] at hx
  induction hx using Or.casesOn with
  | inl h=>exact F.hc x h
  | inr h=>rw [h];exact zM
 ·rw [<-List.append_assoc,jr,List.length_append,List.length_append (as:=P)]
  have:=F.hl.2
  show _+1+4*left<4000/\P.length+1+left<4000
  lia
theorem FL.Me(Bb:FB aw u c p e D L code E Z)(F:FL aw u c p e D cV K A S P (left+1) m Z)(hb:(aI E (pc:Nat)).isSome=b)(Qq:pc<4000){op:Int}{a:Ar}(hl:r=⟨op,a,(L[pc]?).getD 0⟩)(hs:bc K (fS b S) r (some (T.length,new)) aJ)(hc:oQ cV r)
  (g:Gr K aJ) (gn:∀x,x∈new->oQ aJ x) (es:fS b S=B++T) (l4:new.length<=4):
  ∃m' J,tn "folded_rows" 1 (d+12) 39 (.tup [.int (pc:Nat),rv cV (op,a)]) m Z=some (.next,m',J)/\FB aw u c p e D L code E J/\FL aw u c p e D cV aJ (fA b A S) (B++new) (P++[A.length+S.length]) left m' J:=by
 refine ET (F.ahead (d:=d) Bb hs) λrr w aT v nw em hr n hn B3 Qe k3 p3 Nx rv t=>?_
 subst em
 refine aO (rv) λq ev hq=>?_
 subst ev
 have ea:a.v cV=a.v K:=by
  induction a using Ar.casesOn with
  | c x=>exact congrArg (λn:Nat=>V.int n) (F.hg x (hc x (by rw [hl]))).2.symm
  | _=>rfl
 have ln:=vO (d:=d+11) (Z:=j6 Z p (P.map dj) ((A++S).map (bh K))) (p:=pc) (Bb.hu.put n.u.2.1) (Bb.n9.put n.li.2.1) Qq
 have l1:=F.hl.1
 have e1:(A++S)=(fA b A S++B)++T:=by rw [List.append_assoc,<-es,jr]
 have l2:(fA b A S++B).length+T.length=(A++S).length:=by rw [e1];exact List.length_append.symm
 have e2:(A++S).map (bh K)=(fA b A S++B).map (bh K)++T.map (bh K):=by rw [<-List.map_append,e1]
 have f:=HI (d:=d) (R':=(fA b A S++B).map (bh K)) b (AV.of K a) nw ((j7 Bb.he _).trans (congrArg some hb)) hr F.hp (by rw [List.length_map];exact Nat.lt_of_le_of_lt (Nat.le_add_right _ _) (Nat.lt_trans F.hl.2 (by decide))) ln (hr.put n.p.2.symm) (Fs b) (by rw [hl] at t;exact t) Nx hq
  (by rw [e2];exact HJ rfl (by rw [List.length_map])) (by rw [List.length_map,List.length_map];exact Nat.le_trans (show _<=4000 by lia) (by decide))
 refine ⟨_,_,by unfold Mine.rv;rw [ea];exact f,(B3.al _).al _,(k3.al _).al _,(p3.al _).al _,⟨_,_,((((nw.up 0 (fO _)).up 1 (fO _)).up 2 (Hg K a)).up 3 (Qd _)).up 4 (Qd _),by rw [<-BP];rfl,?_,n.new B3 p3 k3 (Nat.le_succ _),Nat.le_trans (Nat.le_trans B3.hx.n (Nat.le_succ _)) (Nat.le_refl _)⟩,?_,⟨g.o F.ho.1,by have:=F.ho.2;have:=g.n;lia⟩,?_,λx hx=>?_⟩
 ·rw [<-List.append_assoc,List.map_append (l₁:=fA b A S++B),g.rows (l:=fA b A S++B) λx hx=>F.hc x (by rw [e1];exact List.mem_append_left _ hx)]
  exact ay _ _
 ·intro x hx
  rw [<-List.append_assoc,List.mem_append] at hx
  induction hx using Or.casesOn with
  | inl h=>exact (g.row (F.hc x (by rw [e1];exact List.mem_append_left _ h))).2
  | inr h=>exact gn x h
 ·rw [<-List.append_assoc,List.length_append,List.length_append (as:=P)]
  have:=F.hl.2
  show _+_+4*left<4000/\P.length+1+left<4000
  lia
 ·have h:=F.hg x hx
  have G:=g.i x h.1
  exact ⟨G.1,G.2.trans h.2⟩
end
section
variable{u c p e:Nat}{D:UD}{E:List (Int×V)}{aw Z:St}{L:List Int}{d:Nat}{cV K':List CV}{A' S':List SR}{Pt:List Nat}{m:Ms}{code pre rest:List CR}{r:CR}{fl:Nat->Bool}
def mZ(K:List CV)(r:CR):Prop:=∀x,r.2=.c x->x∈K
noncomputable def LI(aw:St)(u c p e:Nat)(D:UD)(L:List Int)(E:List (Int×V))(cV:List CV)(code:List CR)(K':List CV)(A' S':List SR)(Pt:List Nat)(pre:List CR)(m:Ms)(Z:St):Prop:=
 ∃rest K A S P P',code=pre++rest/\FB aw u c p e D L (code.map (rv cV)) E Z/\FL aw u c p e D cV K A S P rest.length m Z/\
  Run K A S (zx (λn=>(aI E (n:Nat)).isSome) (λn=>(L[n]?).getD 0) pre.length rest) K' A' S' P'/\P++P'=Pt
theorem LI.turn(hc:mZ cV r)(hl:pre.length<4000)(e1:code=pre++r::rest)(h:LI aw u c p e D L E cV code K' A' S' Pt pre m Z):
  ∃m' J,tn "folded_rows" 1 (d+12) 39 (.tup [.int (pre.length:Nat),rv cV r]) m Z=some (.next,m',J)/\LI aw u c p e D L E cV code K' A' S' Pt (pre++[r]) m' J:=by
 refine Kb (h) λFt K A S P P' e2 B F R eP=>?_
 have e3:Ft=r::rest:=List.append_cancel_left (e2.symm.trans e1)
 subst e3
 have e4:code=(pre++[r])++rest:=by rw [e1,List.append_assoc];rfl
 have e5:(pre++[r]).length=pre.length+1:=List.length_append
 cases R with
 | keep hs Un R=>
  refine lY (F.Mb (d:=d) B rfl hl rfl hs hc) λm' J t B' F'=>?_
  exact ⟨m',J,t,rest,_,_,_,_,_,e4,B',F',by rw [e5];exact R,by rw [List.append_assoc];exact eP⟩
 | fold hs g gn es l4 R=>
  refine lY (F.Me (d:=d) B rfl hl rfl hs hc g gn es l4) λm' J t B' F'=>?_
  exact ⟨m',J,t,rest,_,_,_,_,_,e4,B',F',by rw [e5];exact R,by rw [List.append_assoc];exact eP⟩
theorem LI.loop(hc:∀r,r∈code->mZ cV r)(hl:code.length<4000)(h:LI aw u c p e D L E cV code K' A' S' Pt [] m Z):
  ∃m' J,cK (.kW D.co) (tn "folded_rows" 1 (d+12) 39) aM 0 m Z=some (.next,m',J)/\LI aw u c p e D L E cV code K' A' S' Pt code m' J:=
 xj (LI aw u c p e D L E cV code K' A' S' Pt) (λpre m Z h=>by
  refine Kb (h) λFt K A S P P' e2 B F R eP=>?_
  exact B.vP.e) (λpre x rest m Z e h=>LI.turn (hc x (by rw [e];exact List.mem_append_right _ List.mem_cons_self)) (dR e hl).2 e h) (Nat.lt_trans hl (by decide)) h
theorem oa{hs:List Hd}(hu:At Z u D.o)(n9:At Z D.li (.lst (L.map V.int)))(vP:At Z D.co (.lst (code.map (rv cV))))(Mg:At Z D.ha (.lst (hs.map Hd.v)))(hk:At Z c (.lst (cV.map CV.v)))
  (n1:u≠c) (n2:D.li≠c) (n3:D.co≠c) (hw:∀r,r∈code->CX r) (hc:∀r,r∈code->mZ cV r) (ok:∀x,x∈cV->nG x=true) (hl:cV.length+4*code.length<4000) (Qf:hs.length<10)
  (R:Run cV [] [] (zx (λn=>jC code (n:Nat) || jH hs (n:Nat)) (λn=>(L[n]?).getD 0) 0 code) K' A' S' Pt):
  ∃J r p,run (d+13) "folded_rows" [.ref u,.ref c] Z=some (.tup [.ref r,.ref p],J)/\bp c Z J/\At J c (.lst (K'.map CV.v))/\(∀x,x∈K'->nG x=true)/\At J r (.lst ((A'++S').map (bh K')))/\
   At J p (.lst ((Pt++[(A'++S').length]).map dj))/\(∀r,r∈A'++S'->oQ K' r):=by
 refine fc (BJ (d:=d+10) ((hu.al (.lst [])).al (.lst [])) ((vP.al (.lst [])).al (.lst [])) ((Mg.al (.lst [])).al (.lst [])) (by lia) Qf hw) λaT E j1 jx je jt=>?_
 have x3:Ext Z aT:=((aQ _ _).al _).trans jx
 have hr:At aT Z.n (.lst []):=((ay Z (.lst [])).al (.lst [])).x jx
 have hp:At aT (Z.n+1) (.lst []):=(ay (Z.alloc (.lst [])) (.lst [])).x jx
 have f:∀{k o},At Z k o->∀i,k≠Z.n+i:=λh i=>Nat.ne_of_lt (Nat.lt_of_lt_of_le h.lt (Nat.le_add_right _ _))
 rw [show (λn:Nat=>jC code (n:Nat) || jH hs (n:Nat))=(λn:Nat=>(aI E (n:Nat)).isSome) from funext λn=>(jt n).symm] at R
 have fn:FN u c (Z.n+1) (Z.n+2) Z.n D:=⟨⟨n1,f hu 1,f hu 0⟩,⟨n2,f n9 1,f n9 0⟩,⟨n3,f vP 1,f vP 0⟩,⟨(f hk 2).symm,by lia,by lia⟩,⟨(f hk 1).symm,by lia⟩,f hk 0⟩
 have h0:LI Z u c (Z.n+1) (Z.n+2) D L E cV code K' A' S' Pt [] (fm u c Z.n (Z.n+1) 0 (Z.n+2) w0) aT:=
  ⟨code,cV,[],[],[],Pt,rfl,⟨hu.x x3,n9.x x3,vP.x x3,je,x3.HE c,Nat.le_succ _⟩,⟨hk.x x3,hp,⟨_,_,BH,rfl,hr,fn,Nat.le_refl _⟩,(λr h=>by cases h),⟨ok,by lia⟩,by show 0+_<_/\0+_<_;lia,λx h=>⟨h,rfl⟩⟩,R,rfl⟩
 refine bV (LI.loop (d:=d) hc (by lia) h0) λm' J l Qr=>?_
 obtain ⟨rest,K,A,S,P,P',e1,B,F,R,eP⟩:=Qr
 have e2:rest=[]:=List.append_cancel_left (as:=code) (by rw [List.append_nil];exact e1.symm)
 subst e2
 refine yh (R.end_ rfl) λq1 q2 q3 q4=>?_
 subst q1;subst q2;subst q3;subst q4
 rw [List.append_nil] at eP
 subst eP
 refine Ae (F.hr) λr w nw em ar Sw rn=>?_
 subst em
 have c1:cI gL (cL (d+12)) 40 (dz "folded_rows" 1) (fm u c Z.n (Z.n+1) 0 (Z.n+2) w0) aT=some (.next,_,J):=
  dw (n:=39) (by kernel_rfl) (show aG _=some (Src.kW D.co,aT) from congrArg aG (gX (v:=.src (.kW D.co)) [eO (hu.x x3),eO (vP.x x3)] (by kernel_rfl))) (by kernel_rfl) l
 have Jw:(P.map dj).length<aq:=by rw [List.length_map];exact Nat.lt_of_le_of_lt (Nat.le_add_right _ _) (Nat.lt_trans F.hl.2 (by decide))
 have z:(0:Nat)<=aq:=Nat.zero_le _
 refine ⟨J.put (Z.n+1) (.lst (P.map dj++[.int (((A'++S').map (bh K')).length:Nat)])),r,Z.n+1,gF [eP z,eP z,eC j1,eY c1,eO F.hp,eO ar,eO F.hp,eP Jw] (by kernel_rfl),B.hx.pu B.hp,F.hk.put Sw.p.1.symm,F.ho.1,ar.put Sw.p.2.symm,?_,F.hc⟩
 rw [<-oR (K:=K') rfl]
 exact At.self F.hp.lt _
end
theorem BQ{α β γ:Type}{f:β->Option γ}{g:α->β}{h:α->γ}{l:List α}:(∀x,x∈l->f (g x)=some (h x))->de f (l.map g)=some (l.map h):=by
 induction l with
 | nil=>exact λ_=>rfl
 | cons x l ih=>
  intro q
  show bC (f (g x)) (λy=>bC (de f (l.map g)) λr=>some (y::r))=_
  rw [q x List.mem_cons_self,ih λy hy=>q y (List.mem_cons_of_mem _ hy)];rfl
theorem bI{α:Type}{Z:St}{k n:Nat}{l:List α}{g:α->V}{h:α->PyData}(a:At Z k (.lst (l.map g)))(q:∀x,x∈l->bw Z n (g x)=some (h x)):bw Z (n+1) (.ref k)=some (.list (l.map h)):=by
 show oL (Z.f k) (λl=>(de (bw Z n) l).map PyData.list)=_
 rw [a.e]
 show (de (bw Z n) (l.map g)).map PyData.list=_
 rw [BQ q];rfl
theorem cC(Z:St)(n:Nat)(i:Int):bw Z n (.int i)=some (.int i):=by induction n using Nat.casesOn<;>rfl
theorem iL:∀l:List Int,PyData.canLayAll0 (l.map PyData.int)=true
 | []=>rfl
 | i::l=>by rw [List.map_cons];unfold PyData.canLayAll0;rw [iL l];rfl
theorem ne_nil{Z:St}{k j:Nat}{L:List Int}(h:At Z k (.lst (L.map V.int)))(G:At Z j (.lst [])):bf Z .NotEq (.ref k) (.ref j)=some (!L.isEmpty):=by
 show (zL Z (.ref k) (.ref j)).map (!·)=_
 unfold zL
 rw [show deep=5+1 from rfl,bI h (λx _=>cC Z 5 x),bI (l:=([]:List Int)) (g:=V.int) (h:=PyData.int) G (λx _=>cC Z 5 x)]
 show (if (PyData.list (L.map PyData.int)).canLay0&&(PyData.list []).canLay0 then some ((PyData.list (L.map PyData.int)).eqv (.list [])) else none).map (!·)=_
 have e:(PyData.list (L.map PyData.int)).canLay0=true:=iL L
 rw [e]
 induction L using List.casesOn<;>rfl
structure Md (aw:St) (D:UD) (ps cs us cp pq co ha li:List V) (Z:St):Prop where
 x:Ext aw Z
 m:At Z (aw.n+1) (gZ aw.n D).o
 pa:At Z (gZ aw.n D).pa (.lst ps)
 cn:At Z (gZ aw.n D).cn (.lst cs)
 un:At Z (gZ aw.n D).un (.lst us)
 ca:At Z (gZ aw.n D).ca (.lst cp)
 pp:At Z (gZ aw.n D).pp (.lst pq)
 co:At Z (gZ aw.n D).co (.lst co)
 ha:At Z (gZ aw.n D).ha (.lst ha)
 li:At Z (gZ aw.n D).li (.lst li)
section
variable{aw Z:St}{D:UD}{ps cs us cp pq co ha li WB:List V}
theorem b9(n:Nat){i j:Nat}(h:Nat.beq i j=false):n+i≠n+j:=λe=>by
 rw [Nat.add_left_cancel e,Nat.beq_refl] at h;cases h
theorem Md.al(M:Md aw D ps cs us cp pq co ha li Z)(o:af):Md aw D ps cs us cp pq co ha li (Z.alloc o):=⟨M.x.al o,M.m.al o,M.pa.al o,M.cn.al o,M.un.al o,M.ca.al o,M.pp.al o,M.co.al o,M.ha.al o,M.li.al o⟩
theorem Md.BR(M:Md aw D ps cs us cp pq co ha li Z)(l:List V):Md aw D ps cs us cp pq l ha li (Z.put (gZ aw.n D).co (.lst l)):=
 ⟨M.x.pu (Nat.le_add_right _ _),M.m.put (b9 _ rfl),M.pa.put (b9 aw.n (i:=0) rfl),M.cn.put (b9 _ rfl),M.un.put (b9 _ rfl),M.ca.put (b9 _ rfl),M.pp.put (b9 _ rfl),At.self M.co.lt _,M.ha.put (b9 _ rfl),M.li.put (b9 _ rfl)⟩
theorem Md.Mh(M:Md aw D ps cs us cp pq co ha li Z)(l:List V):Md aw D ps cs us cp pq co l li (Z.put (gZ aw.n D).ha (.lst l)):=
 ⟨M.x.pu (Nat.le_add_right _ _),M.m.put (b9 _ rfl),M.pa.put (b9 aw.n (i:=0) rfl),M.cn.put (b9 _ rfl),M.un.put (b9 _ rfl),M.ca.put (b9 _ rfl),M.pp.put (b9 _ rfl),M.co.put (b9 _ rfl),At.self M.ha.lt _,M.li.put (b9 _ rfl)⟩
theorem Md.Mi(M:Md aw D ps cs us cp pq co ha li Z)(l:List V):Md aw D ps cs us cp pq co ha l (Z.put (gZ aw.n D).li (.lst l)):=
 ⟨M.x.pu (Nat.le_add_right _ _),M.m.put (b9 _ rfl),M.pa.put (b9 aw.n (i:=0) rfl),M.cn.put (b9 _ rfl),M.un.put (b9 _ rfl),M.ca.put (b9 _ rfl),M.pp.put (b9 _ rfl),M.co.put (b9 _ rfl),M.ha.put (b9 _ rfl),At.self M.li.lt _⟩
end
noncomputable def rm(u r p h k:Nat)(w:Tw):Ms:=mk "rebuilt" [("unit",.ref u),("rows",.ref r),("places",.ref p),("handlers",.ref h),("made",.ref k),("op",w 0),("arg",w 1),("line",w 2),("start",w 3),("end",w 4),("target",w 5),("depth",w 6),("is_finally",w 7)]
section
variable{d:Nat}{Z aw:St}{u r p h:Nat}{w:Tw}{D:UD}{ps cs us cp pq co ha li P:List V}{op l k:Int}{a v:V}{L:List Int}
def Va(w:Tw)(op:Int)(a:V)(l:Int):Tw:=up (up (up w 0 (.int op)) 1 a) 2 (.int l)
def Ny(aw:St)(D:UD)(Z:St)(l:List V):St:=(Z.put (gZ aw.n D).co (.lst l)).alloc (.lst [])
noncomputable def xB(M:Md aw D ps cs us cp pq co ha li Z)(n:d4 w)(ho:op∈cU)(b:Bool)(hj:isJ op=b)(ev:List Ev)(lc:co.length<aq)(u':At (Z.put (gZ aw.n D).co (.lst (co++[.tup [.int op,v]]))) u D.o)
  {lb:Bool} (ne:bf (Ny aw D Z (co++[.tup [.int op,v]])) .NotEq (.ref D.li) (.ref (Z.put (gZ aw.n D).co (.lst (co++[.tup [.int op,v]]))).n)=some lb):List Ev:=
 [eN (n 0),eN (n 1),eN (n 2),eO M.m,eO M.co,eC (gp ho (d+1) Z),eB ((mV ho Z).trans (congrArg some hj))]++ev++[eO M.co,eP lc,eO u',eP (Nat.zero_le aq),eB ne]
abbrev Sx(aw:St)(D:UD)(Z:St)(co:List V)(op:Int)(v:V):St:=Ny aw D Z (co++[.tup [.int op,v]])
noncomputable abbrev Vb(aw:St)(D:UD)(Z:St)(co li:List V)(op:Int)(v:V)(l:Int):St:=(Ny aw D Z (co++[.tup [.int op,v]])).put (gZ aw.n D).li (.lst (li++[.int l]))
theorem HK(M:Md aw D ps cs us cp pq co ha li Z)(n:d4 w)(ho:op∈cU)(b:Bool)(hj:isJ op=b)(av:AV a)(hv:if b then At Z p (.lst P)/\a=.int k/\dB P k=some v else v=a)(lc:co.length<aq)(u':At Z u D.o)(hu:u<aw.n)
  (lb:Bool) (ne:bf (Ny aw D Z (co++[.tup [.int op,v]])) .NotEq (.ref D.li) (.ref (Z.put (gZ aw.n D).co (.lst (co++[.tup [.int op,v]]))).n)=some lb) (ll:li.length<aq):
  tn "rebuilt" 1 (d+2) 39 (r3 op a l) (rm u r p h (aw.n+1) w) Z=some (.next,rm u r p h (aw.n+1) (Va w op a l),if lb then Vb aw D Z co li op v l else Sx aw D Z co op v):=by
 have u2:At (Z.put (gZ aw.n D).co (.lst (co++[.tup [.int op,v]]))) u D.o:=u'.put (Nat.ne_of_lt (Nat.lt_of_lt_of_le hu (Nat.le_add_right _ _)))
 have M2:=(M.BR (co++[.tup [.int op,v]])).al (.lst [])
 induction b using Bool.casesOn with
 | true=>
  obtain ⟨hp,ea,hv⟩:=hv
  subst ea
  induction lb using Bool.casesOn with
  | true=>exact gT (xB (d:=d) M n ho true hj [eO hp,eV hv] lc u2 ne++[eO M2.m,eO M2.li,eO M2.li,eP ll]) (by kernel_rfl)
  | false=>exact gT (xB (d:=d) M n ho true hj [eO hp,eV hv] lc u2 ne) (by kernel_rfl)
 | false=>
  have ev:v=a:=hv
  subst ev
  induction lb using Bool.casesOn with
  | true=>cases av<;>exact gT (xB (d:=d) M n ho false hj [] lc u2 ne++[eO M2.m,eO M2.li,eO M2.li,eP ll]) (by kernel_rfl)
  | false=>cases av<;>exact gT (xB (d:=d) M n ho false hj [] lc u2 ne) (by kernel_rfl)
noncomputable def Qs(w:Tw)(h:Hd):Tw:=up (up (up (up (up w 3 (.int h.s)) 4 (.int h.e)) 5 (.int h.t)) 6 (.int h.d)) 7 (.bool h.f)
theorem D0{x:Hd}{s e:Int}(M:Md aw D ps cs us cp pq co ha li Z)(n:d4 w)(hp:At Z p (.lst P))(hs:dB P x.s=some (.int s))(he:dB P x.e=some (.int e))(q:¬s<e):
  tn "rebuilt" 2 (d+2) 39 x.v (rm u r p h (aw.n+1) w) Z=some (.next,rm u r p h (aw.n+1) (Qs w x),Z):=
 gT [eN (n 3),eN (n 4),eN (n 5),eN (n 6),eN (n 7),eO hp,eV hs,eO hp,eV he,eB (mW (Z:=Z) q)] (by kernel_rfl)
theorem D1{x:Hd}{s e t:Int}(M:Md aw D ps cs us cp pq co ha li Z)(n:d4 w)(hp:At Z p (.lst P))(hs:dB P x.s=some (.int s))(he:dB P x.e=some (.int e))(ht:dB P x.t=some (.int t))(q:s<e)(ll:ha.length<aq):
  tn "rebuilt" 2 (d+2) 39 x.v (rm u r p h (aw.n+1) w) Z=some (.next,rm u r p h (aw.n+1) (Qs w x),Z.put (gZ aw.n D).ha (.lst (ha++[(Hd.mk s e t x.d x.f).v]))):=
 gT [eN (n 3),eN (n 4),eN (n 5),eN (n 6),eN (n 7),eO hp,eV hs,eO hp,eV he,eB (zv (Z:=Z) q),eO M.m,eO M.ha,eO hp,eV hs,eO hp,eV he,eO hp,eV ht,eO M.ha,eP ll] (by kernel_rfl)
end
def nP(Pl:List Nat)(k:Int):Int:=((Pl[k.toNat]?).getD 0:Nat)
noncomputable def nA(Pl:List Nat)(r:SR):Ar:=if isJ r.op then (match r.a with | .i k=>.i (nP Pl k) | a=>a) else r.a
def nC(Pl:List Nat)(r:SR):CR:=(r.op,nA Pl r)
noncomputable def nH(Pl:List Nat)(h:Hd):List Hd:=if nP Pl h.s<nP Pl h.e then [⟨nP Pl h.s,nP Pl h.e,nP Pl h.t,h.d,h.f⟩] else []
def Mj(Pl:List Nat)(k:Int):Prop:=0<=k/\k.toNat<Pl.length
structure Mk (Pl:List Nat) (r:SR):Prop where
 o:r.op∈cU
 j:isJ r.op=true->∃k,r.a=.i k/\Mj Pl k
structure Nz (Pl:List Nat) (h:Hd):Prop where
 s:Mj Pl h.s
 e:Mj Pl h.e
 t:Mj Pl h.t
theorem oT{Pl:List Nat}{k:Int}(h:Mj Pl k)(hl:Pl.length<4000):dB (Pl.map dj) k=some (.int (nP Pl k)):=by
 obtain ⟨h0,h1⟩:=h
 unfold dB nP
 rw [if_pos (by lia),if_pos h0,List.getElem?_map,List.getElem?_eq_getElem h1];rfl
def vQ(L:List Int)(l:List SR):List V:=if L.isEmpty then [] else l.map λr=>V.int r.l
section
variable{d:Nat}{Z aw:St}{u r p h:Nat}{w:Tw}{D:UD}{ps cs us cp pq co ha li:List V}{L:List Int}{K:List CV}{Pl:List Nat}{Rs:List SR}{x:SR}{m:Ms}{hs:List Hd}
noncomputable def RI(aw:St)(u r p h:Nat)(D:UD)(ps cs us cp pq co ha li:List V)(m:Ms)(Z:St):Prop:=(∃w,d4 w/\m=rm u r p h (aw.n+1) w)/\Md aw D ps cs us cp pq co ha li Z
theorem HL(hu:At aw u D.o)(n9:At aw D.li (.lst (L.map V.int)))(hp:At aw p (.lst (Pl.map dj)))(hl:Pl.length<4000)(ok:Mk Pl x)(lc:co.length<4000)(ll:li.length<4000)(i:RI aw u r p h D ps cs us cp pq co ha li m Z):
  ∃m' J,tn "rebuilt" 1 (d+2) 39 (bh K x) m Z=some (.next,m',J)/\RI aw u r p h D ps cs us cp pq (co++[rv K (nC Pl x)]) ha (li++vQ L [x]) m' J:=by
 obtain ⟨⟨w,nw,em⟩,M⟩:=i
 subst em
 have hv:(if isJ x.op=true then At Z p (.lst (Pl.map dj))/\x.a.v K=.int (match x.a with | .i k=>k | _=>0)/\dB (Pl.map dj) (match x.a with | .i k=>k | _=>0)=some ((nA Pl x).v K) else (nA Pl x).v K=x.a.v K):=by
  cases hj:isJ x.op with
  | true=>
   refine aO (ok.j hj) λk ek hk=>?_
   rw [if_pos rfl,ek]
   refine ⟨hp.x M.x,rfl,?_⟩
   unfold nA;rw [hj,if_pos rfl,ek]
   exact oT hk hl
  | false=>
   rw [if_neg (by decide)]
   unfold nA;rw [hj];rfl
 have x2:=((M.BR (co++[.tup [.int x.op,(nA Pl x).v K]])).al (.lst [])).x
 have t:=HK (d:=d) (r:=r) (h:=h) (l:=x.l) M nw ok.o _ rfl (AV.of K x.a) hv (Nat.lt_trans lc (by decide)) (hu.x M.x) hu.lt _ (ne_nil (n9.x x2) (ay _ _)) (Nat.lt_trans ll (by decide))
 refine ⟨_,_,t,⟨_,((nw.up 0 (fO _)).up 1 (Hg K _)).up 2 (fO _),rfl⟩,?_⟩
 have M2:=(M.BR (co++[.tup [.int x.op,(nA Pl x).v K]])).al (.lst [])
 unfold vQ
 cases L.isEmpty with
 | true=>
  show Md aw D ps cs us cp pq _ ha (li++[]) (Sx aw D Z co x.op ((nA Pl x).v K))
  rw [List.append_nil];exact M2
 | false=>exact M2.Mi _
theorem BS(L:List Int)(pre:List SR)(x:SR):vQ L pre++vQ L [x]=vQ L (pre++[x]):=by
 unfold vQ
 cases L.isEmpty
 ·rw [if_neg (by decide),if_neg (by decide),if_neg (by decide),List.map_append]
 ·rfl
theorem D2(L:List Int)(pre:List SR):(vQ L pre).length<=pre.length:=by
 unfold vQ;split
 ·exact Nat.zero_le _
 ·rw [List.length_map];exact Nat.le_refl _
theorem HM(hu:At aw u D.o)(n9:At aw D.li (.lst (L.map V.int)))(hr:At aw r (.lst (Rs.map (bh K))))(hp:At aw p (.lst (Pl.map dj)))(hl:Pl.length<4000)(ok:∀x,x∈Rs->Mk Pl x)(lr:Rs.length<4000)(i:RI aw u r p h D ps cs us cp pq [] [] [] m Z):
  ∃m' J,cK (.lst r) (tn "rebuilt" 1 (d+2) 39) aM 0 m Z=some (.next,m',J)/\RI aw u r p h D ps cs us cp pq (Rs.map λx=>rv K (nC Pl x)) [] (vQ L Rs) m' J:=
 fy (λpre m Z=>RI aw u r p h D ps cs us cp pq (pre.map λx=>rv K (nC Pl x)) [] (vQ L pre) m Z) (λpre m Z i=>(hr.x i.2.x).e) (λpre x rest m Z e i=>by
  have q:=(dR e lr).2
  obtain ⟨m',J,t,i'⟩:=HL (d:=d) hu n9 hp hl (ok x (by rw [e];exact List.mem_append_right _ List.mem_cons_self)) (by rw [List.length_map];exact q) (Nat.lt_of_le_of_lt (D2 L pre) q) i
  rw [BS] at i'
  exact ⟨m',J,t,by rw [List.map_append];exact i'⟩) (Nat.lt_trans lr (by decide)) (by
  unfold vQ
  cases L.isEmpty<;>exact i)
theorem HN{x:Hd}(hp:At aw p (.lst (Pl.map dj)))(hl:Pl.length<4000)(ok:Nz Pl x)(la:ha.length<4000)(i:RI aw u r p h D ps cs us cp pq co ha li m Z):
  ∃m' J,tn "rebuilt" 2 (d+2) 39 x.v m Z=some (.next,m',J)/\RI aw u r p h D ps cs us cp pq co (ha++(nH Pl x).map Hd.v) li m' J:=by
 obtain ⟨⟨w,nw,em⟩,M⟩:=i
 subst em
 have nI:d4 (Qs w x):=((((nw.up 3 (fO _)).up 4 (fO _)).up 5 (fO _)).up 6 (fO _)).up 7 (Sp _)
 unfold nH
 by_cases q:nP Pl x.s<nP Pl x.e
 ·rw [if_pos q]
  exact ⟨_,_,D1 M nw (hp.x M.x) (oT ok.s hl) (oT ok.e hl) (oT ok.t hl) q (Nat.lt_trans la (by decide)),⟨_,nI,rfl⟩,M.Mh _⟩
 ·rw [if_neg q]
  exact ⟨_,_,D0 M nw (hp.x M.x) (oT ok.s hl) (oT ok.e hl) q,⟨_,nI,rfl⟩,by rw [List.map_nil,List.append_nil];exact M⟩
theorem HO(Pl:List Nat)(l:List Hd):(l.flatMap (nH Pl)).length<=l.length:=by
 induction l with
 | nil=>exact Nat.le_refl _
 | cons x l ih=>
  rw [List.flatMap_cons,List.length_append,List.length_cons]
  have:(nH Pl x).length<=1:=by unfold nH;split<;>simp
  lia
theorem HP(hp:At aw p (.lst (Pl.map dj)))(hh:At aw h (.lst (hs.map Hd.v)))(hl:Pl.length<4000)(ok:∀x,x∈hs->Nz Pl x)(lr:hs.length<4000)(i:RI aw u r p h D ps cs us cp pq co [] li m Z):
  ∃m' J,cK (.lst h) (tn "rebuilt" 2 (d+2) 39) aM 0 m Z=some (.next,m',J)/\RI aw u r p h D ps cs us cp pq co ((hs.flatMap (nH Pl)).map Hd.v) li m' J:=
 fy (λpre m Z=>RI aw u r p h D ps cs us cp pq co ((pre.flatMap (nH Pl)).map Hd.v) li m Z) (λpre m Z i=>(hh.x i.2.x).e) (λpre x rest m Z e i=>by
  obtain ⟨m',J,t,i'⟩:=HN (d:=d) hp hl (ok x (by rw [e];exact List.mem_append_right _ List.mem_cons_self)) (by rw [List.length_map];exact Nat.lt_of_le_of_lt (HO Pl pre) (dR e lr).2) i
  refine ⟨m',J,t,?_⟩
  rw [List.flatMap_append,List.map_append,List.flatMap_cons,List.flatMap_nil,List.append_nil]
  exact i') (Nat.lt_trans lr (by decide)) i
theorem oU(hu:At Z u D.o)(h1:At Z D.pa (.lst ps))(h2:At Z D.cn (.lst cs))(h3:At Z D.un (.lst us))(h4:At Z D.ca (.lst cp))(h5:At Z D.pp (.lst pq))(n9:At Z D.li (.lst (L.map V.int)))
  (hr:At Z r (.lst (Rs.map (bh K)))) (hp:At Z p (.lst (Pl.map dj))) (hh:At Z h (.lst (hs.map Hd.v))) (hl:Pl.length<4000) (lr:Rs.length<4000) (lh:hs.length<4000) (ok:∀x,x∈Rs->Mk Pl x) (Vc:∀x,x∈hs->Nz Pl x):
  ∃J,run (d+3) "rebuilt" [.ref u,.ref r,.ref p,.ref h] Z=some (.ref (Z.n+1),J)/\Md Z D ps cs us cp pq (Rs.map λx=>rv K (nC Pl x)) ((hs.flatMap (nH Pl)).map Hd.v) (vQ L Rs) J:=by
 refine EP (kC d hu h1 h2 h3 h4 h5) λao t1 C m1 m2 m3 m4 m5 m6 m7 m8 m9 Vd=>?_
 have M1:Md Z D ps cs us cp pq [] [] [] ao:=⟨C,m1,m2,m3,m4,m5,m6,m7,m8,m9⟩
 refine lY (HM (d:=d) (h:=h) hu n9 hr hp hl ok lr ⟨⟨w0,BH,rfl⟩,M1⟩) λma aF l1 su M2=>?_
 obtain ⟨w1,n1,e1⟩:=su
 subst e1
 obtain ⟨mb,aT,l2,⟨w2,n2,e2⟩,M3⟩:=HP (d:=d) hp hh hl Vc lh ⟨⟨w1,n1,rfl⟩,M2⟩
 subst e2
 have c1:cI gL (cL (d+2)) 40 (dz "rebuilt" 1) (rm u r p h (Z.n+1) w0) ao=some (.next,_,aF):=
  dw (n:=39) (by kernel_rfl) (show aG _=some (Src.lst r,ao) from congrArg aG (gX (v:=.val (.ref r)) [] (by kernel_rfl))) (by kernel_rfl) l1
 have c2:cI gL (cL (d+2)) 40 (dz "rebuilt" 2) (rm u r p h (Z.n+1) w1) aF=some (.next,_,aT):=
  dw (n:=39) (by kernel_rfl) (show aG _=some (Src.lst h,aF) from congrArg aG (gX (v:=.val (.ref h)) [] (by kernel_rfl))) (by kernel_rfl) l2
 exact ⟨aT,gF [eC t1,eY c1,eY c2] (by kernel_rfl),M3⟩
end
structure Ul where
 ps:List V
 K:List CV
 code:List CR
 us:List V
 hs:List Hd
 L:List Int
 cp:List V
 pq:List V
structure UA (Z:St) (ad:Nat) (D:UD) (U:Ul):Prop where
 u:At Z ad D.o
 pa:At Z D.pa (.lst U.ps)
 cn:At Z D.cn (.lst (U.K.map CV.v))
 co:At Z D.co (.lst (U.code.map (rv U.K)))
 un:At Z D.un (.lst U.us)
 ha:At Z D.ha (.lst (U.hs.map Hd.v))
 li:At Z D.li (.lst (U.L.map V.int))
 ca:At Z D.ca (.lst U.cp)
 pp:At Z D.pp (.lst U.pq)
 ne:D.pa≠ad/\D.cn≠ad/\D.co≠ad/\D.un≠ad/\D.ha≠ad/\D.li≠ad/\D.ca≠ad/\D.pp≠ad
section
variable{Z ao:St}{u:Nat}{D:UD}{U:Ul}
theorem UA.x(a:UA Z u D U)(x:Ext Z ao):UA ao u D U:=⟨a.u.x x,a.pa.x x,a.cn.x x,a.co.x x,a.un.x x,a.ha.x x,a.li.x x,a.ca.x x,a.pp.x x,a.ne⟩
structure gy (D D':UD):Prop where
 nm:D'.nm=D.nm
 lc:D'.lc=D.lc
 cc:D'.cc=D.cc
 st:D'.st=D.st
 ua:D'.ua=D.ua
 sl:D'.sl=D.sl
 ap:D'.ap=D.ap
theorem gy.cp(n:Nat)(D:UD):gy D (gZ n D):=⟨rfl,rfl,rfl,rfl,rfl,rfl,rfl⟩
structure Made (Z:St) (D:UD) (J:St) (k:Nat) (M:UD) (U':Ul):Prop where
 x:Ext Z J
 a:UA J k M U'
 h:gy D M
 n:Z.n<=k/\Z.n<=M.pa/\Z.n<=M.ca
 g:Z.n<=M.co/\Z.n<=M.cn/\Z.n<=M.un/\Z.n<=M.ha/\Z.n<=M.li/\Z.n<=M.pp
theorem Made.units{J aF:St}{k:Nat}{M:UD}{U':Ul}(m:Made Z D J k M U')(x:Ext J aF)(us:List V):Made Z D ((aF.alloc (.lst us)).put k ({M with un:=aF.n}:UD).o) k {M with un:=aF.n} {U' with us:=us}:=by
 have a:=(m.a.x x).x (aQ aF (.lst us))
 exact ⟨((m.x.trans x).al _).pu m.n.1,⟨At.self a.u.lt _,a.pa.put m.a.ne.1,a.cn.put m.a.ne.2.1,a.co.put m.a.ne.2.2.1,(ay _ _).put (Nat.ne_of_gt (Nat.lt_of_lt_of_le m.a.u.lt x.n)),a.ha.put m.a.ne.2.2.2.2.1,a.li.put m.a.ne.2.2.2.2.2.1,a.ca.put m.a.ne.2.2.2.2.2.2.1,a.pp.put m.a.ne.2.2.2.2.2.2.2,
  ⟨m.a.ne.1,m.a.ne.2.1,m.a.ne.2.2.1,Nat.ne_of_gt (Nat.lt_of_lt_of_le m.a.u.lt x.n),m.a.ne.2.2.2.2⟩⟩,⟨m.h.nm,m.h.lc,m.h.cc,m.h.st,m.h.ua,m.h.sl,m.h.ap⟩,m.n,⟨m.g.1,m.g.2.1,Nat.le_trans m.x.n x.n,m.g.2.2.2⟩⟩
variable{d:Nat}
def vR(ch:Str):Prop:=ch="fold_one"\/ch="thread_one"\/ch="clean_one"
theorem lC{ch:Str}(hc:vR ch){k:Nat}{M:UD}{U':Ul}(t:run (d+1) ch [.ref u] Z=some (.ref k,ao))(m:Made Z D ao k M U')(e:U'.us=[]):
  ∃J,run (d+2) "for_all" [.ref u,.bo ch] Z=some (.ref k,J)/\Made Z D J k {M with un:=ao.n} {U' with us:=[]}:=by
 refine ⟨_,?_,m.units (Ext.refl _) []⟩
 have un:At ao M.un (.lst []):=by have:=m.a.un;rw [e] at this;exact this
 rcases hc with rfl | rfl | rfl<;>exact gF [eC t,eO m.a.u,eO un,eO (m.a.u.al (.lst []))] (by kernel_rfl)
theorem D3{ch:Str}(hc:vR ch){k i j:Nat}{M:UD}{U':Ul}{aF:St}(t:run (d+2) ch [.ref u] Z=some (.ref k,ao))(m:Made Z D ao k M U')(e:U'.us=[.ref i])(t':run (d+2) "for_all" [.ref i,.bo ch] ao=some (.ref j,aF))(x:Ext ao aF):
  ∃J,run (d+3) "for_all" [.ref u,.bo ch] Z=some (.ref k,J)/\Made Z D J k {M with un:=aF.n} {U' with us:=[.ref j]}/\J=(aF.alloc (.lst [.ref j])).put k ({M with un:=aF.n}:UD).o:=by
 refine ⟨_,?_,m.units x [.ref j],rfl⟩
 have un:At ao M.un (.lst [.ref i]):=by have:=m.a.un;rw [e] at this;exact this
 rcases hc with rfl | rfl | rfl<;>exact gF [eC t,eO m.a.u,eO un,eC t',eO (un.x x),eO ((m.a.u.x x).al (.lst [.ref j]))] (by kernel_rfl)
end
structure Folds (U:Ul) (Rs:List SR) (Pl:List Nat) (K':List CV):Prop where
 run:∃A S P,Run U.K [] [] (zx (λn=>jC U.code (n:Nat) || jH U.hs (n:Nat)) (λn=>(U.L[n]?).getD 0) 0 U.code) K' A S P/\Rs=A++S/\Pl=P++[Rs.length]
 w:∀r,r∈U.code->CX r
 c:∀r,r∈U.code->mZ U.K r
 k:∀x,x∈U.K->nG x=true
 l:U.K.length+4*U.code.length<4000/\U.hs.length<10/\Pl.length<4000/\Rs.length<4000
 r:∀x,x∈Rs->Mk Pl x
 h:∀x,x∈U.hs->Nz Pl x
noncomputable def dC(U:Ul)(Rs:List SR)(Pl:List Nat)(K':List CV):Ul:={U with K:=K',code:=Rs.map (nC Pl),hs:=U.hs.flatMap (nH Pl),L:=if U.L.isEmpty then [] else Rs.map (·.l)}
section
variable{d:Nat}{Z:St}{u:Nat}{D:UD}{U:Ul}{Rs:List SR}{Pl:List Nat}{K':List CV}
theorem xC(L:List Int)(l:List SR):vQ L l=(if L.isEmpty then [] else l.map (·.l):List Int).map V.int:=by
 unfold vQ;split
 ·rfl
 ·rw [List.map_map];rfl
theorem iM(a:UA Z u D U)(F:Folds U Rs Pl K'):∃J k M,run (d+14) "fold_one" [.ref u] Z=some (.ref k,J)/\Made Z D J k M (dC U Rs Pl K')/\Z.n<=M.co/\Z.n<=M.pp:=by
 refine pz (F.run) λA S P R e1 e2=>?_
 have f:∀{k o},At Z k o->k≠Z.n:=λh=>Nat.ne_of_lt h.lt
 have hc:At (Z.alloc (.lst (U.K.map CV.v))) Z.n (.lst (U.K.map CV.v)):=ay _ _
 have a1:=a.x (aQ Z (.lst (U.K.map CV.v)))
 refine N4 (oa (d:=d) a1.u a1.li a1.co a1.ha hc (f a.u) (f a.li) (f a.co) F.w F.c F.k F.l.1 F.l.2.1 R) λao r p t1 C k1 o1 r1 p1 ci=>?_
 rw [<-e1] at r1 p1 ci
 rw [<-e2] at p1
 have x2:Ext Z ao:=⟨Nat.le_trans (Nat.le_succ _) C.n,λk h=>(C.f k (Nat.lt_succ_of_lt h) (Nat.ne_of_lt h)).trans ((aQ Z _).f k h)⟩
 have a2:=a.x x2
 refine aO (oU (d:=d+10) a2.u a2.pa a2.cn a2.un a2.ca a2.pp a2.li r1 p1 a2.ha F.l.2.2.1 F.l.2.2.2 (Nat.lt_trans F.l.2.1 (by decide)) F.r F.h) λaF t2 M=>?_
 have kc:=k1.x M.x
 have q:Z.n≠ao.n+1:=Nat.ne_of_lt (Nat.lt_trans hc.lt (Nat.lt_of_le_of_lt C.n (Nat.lt_succ_self _)))
 have g:∀i,Nat.beq i 1=false->ao.n+i≠ao.n+1:=λi h=>b9 _ h
 refine ⟨aF.put (ao.n+1) ({gZ ao.n D with cn:=Z.n}:UD).o,ao.n+1,{gZ ao.n D with cn:=Z.n},gF [eO a.u,eO a.cn,eC t1,eO a2.u,eC t2,eO M.m] (by kernel_rfl),⟨(x2.trans M.x).pu (Nat.le_trans x2.n (Nat.le_succ _)),?_,⟨rfl,rfl,rfl,rfl,rfl,rfl,rfl⟩,⟨Nat.le_trans x2.n (Nat.le_succ _),x2.n,Nat.le_trans x2.n (Nat.le_add_right _ _)⟩,⟨Nat.le_trans x2.n (Nat.le_add_right _ _),Nat.le_refl _,Nat.le_trans x2.n (Nat.le_add_right _ _),Nat.le_trans x2.n (Nat.le_add_right _ _),Nat.le_trans x2.n (Nat.le_add_right _ _),Nat.le_trans x2.n (Nat.le_add_right _ _)⟩⟩,Nat.le_trans x2.n (Nat.le_add_right _ _),Nat.le_trans x2.n (Nat.le_add_right _ _)⟩
 have n9:=M.li
 rw [xC] at n9
 have vP:At aF (gZ ao.n D).co (.lst ((Rs.map (nC Pl)).map (rv K'))):=by rw [List.map_map];exact M.co
 exact ⟨At.self M.m.lt _,M.pa.put (g 0 rfl),kc.put q,vP.put (g 2 rfl),M.un.put (g 10 rfl),M.ha.put (g 5 rfl),n9.put (g 6 rfl),M.ca.put (g 11 rfl),M.pp.put (g 12 rfl),⟨g 0 rfl,q,g 2 rfl,g 10 rfl,g 5 rfl,g 6 rfl,g 11 rfl,g 12 rfl⟩⟩
end
theorem lD{d n:Nat}{s:Stmt}{m:Ms}{Z J:St}(h0:lA s)(ht:ki gL (cL d) n (dQ s) m Z=some (false,J)):cI gL (cL d) (n+1) s m Z=some (.next,m,J):=
 (mR h0).trans (iJ (k:=4095) ht)
theorem xD{d n:Nat}{s:Stmt}{m m':Ms}{Z ao aF aT:St}(h0:lA s)(ht:ki gL (cL d) n (dQ s) m Z=some (true,ao))(hb:fG (cI gL (cL d) n) (gj s) m ao=some (.next,m',aF))(EW:ki gL (cL d) n (dQ s) m' aF=some (false,aT)):
  cI gL (cL d) (n+1) s m Z=some (.next,m',aT):=
 (mR h0).trans ((mS (k:=4095) ht hb).trans (iJ (k:=4094) EW))
def inc(a:Ar):Ar:=match a with | .i k=>.i (k+1) | a=>a
def zO(r:CR):CR:=if r.1=61 then (59,inc r.2) else if r.1=62 then (60,inc r.2) else r
def HQ(code:List CR)(k:Int):Prop:=0<=k/\∀x,code[k.toNat]?=some x->x.1≠58
structure Ml (code:List CR) (r:CR):Prop where
 o:r.1∈cU
 n:r.1≠58
 j:isJ r.1=true->∃k,r.2=.i k/\HQ code k/\(r.1=61\/r.1=62->HQ code (k+1)/\∃x,code[k.toNat]?=some x/\x.1=6)
section
variable{d:Nat}{Z ao aF:St}{c u t:Nat}{K:List CV}{code:List CR}{k:Int}{w:Tw}{r:CR}{m:Ms}
theorem qu{x:CR}(h:code[k.toNat]?=some x)(h0:0<=k)(hl:code.length<4000):dB (code.map (rv K)) k=some (rv K x):=by
 have:k.toNat<code.length:=(List.getElem?_eq_some_iff.mp h).1
 unfold dB
 rw [if_pos (by omega),if_pos h0,List.getElem?_map,h];rfl
theorem BU(hc:At Z c (.lst (code.map (rv K))))(hl:code.length<4000)(h:HQ code k):run (d+1) "end_of" [.ref c,.int k] Z=some (.int k,Z.alloc (.bO [])):=by
 have zM:=hc.al (.bO [])
 have ht:ki gL (cL d) 39 (dQ (dz "end_of" 1)) (mk "end_of" [("code",.ref c),("place",.int k),("seen",.ref Z.n)]) (Z.alloc (.bO []))=some (false,Z.alloc (.bO [])):=by
  by_cases q:k.toNat<code.length
  ·have e:=List.getElem?_eq_getElem q
   have l1:bf (Z.alloc (.bO [])) .Lt (.int k) (.int ((code.map (rv K)).length:Nat))=some true:=zv (by rw [List.length_map];have:=h.1;omega)
   exact gQ [eO zM,eB l1,eO zM,eV (qu (K:=K) e h.1 hl),eB (xq (Z:=Z.alloc (.bO [])) (h.2 _ e))] (by kernel_rfl)
  ·have l1:bf (Z.alloc (.bO [])) .Lt (.int k) (.int ((code.map (rv K)).length:Nat))=some false:=mW (by rw [List.length_map];have:=h.1;omega)
   exact gQ [eO zM,eB l1] (by kernel_rfl)
 exact gF [eY (lD (n:=39) (by kernel_rfl) ht)] (by kernel_rfl)
theorem HR{x:CR}(op:Int)(ho:op=61\/op=62)(hc:At Z c (.lst (code.map (rv K))))(hl:code.length<4000)(h0:0<=k)(e:code[k.toNat]?=some x)(e6:x.1=6):
  run (d+1) "kept_step" [.ref c,.int op,.int k] Z=some (.tup [.int (op-2),.int (k+1)],Z):=by
 have q:k.toNat<code.length:=(List.getElem?_eq_some_iff.mp e).1
 have l1:bf Z .GtE (.int k) (.int ((code.map (rv K)).length:Nat))=some false:=Ls (by rw [List.length_map];omega)
 have er:=qu (K:=K) e h0 hl
 obtain ⟨xo,xa⟩:=x
 have Ve:xo=6:=e6
 subst Ve
 rcases ho with rfl | rfl<;>exact gF [eO hc,eB l1,eO hc,eV er] (by kernel_rfl)
abbrev t2(Z:St):St:=(Z.alloc (.bO [])).alloc (.bO [])
abbrev t3(Z:St)(k:Int):St:=(t2 Z).put (Z.n+1) (.bO [(k,.bool true)])
abbrev t4(Z:St)(k:Int):St:=(t3 Z k).alloc (.bO [])
theorem oV(op:Int)(ho:op=59\/op=60)(hc:At Z c (.lst (code.map (rv K))))(hl:code.length<4000)(h:HQ code k):
  run (d+2) "threaded" [.ref c,.int op,.int k] Z=some (.tup [.int op,.int k],t2 Z):=by
 have e1:=BU (d:=d) hc hl h
 rcases ho with rfl | rfl
 ·have ht:ki gL (cL (d+1)) 39 (dQ (dz "threaded" 1)) (mk "threaded" [("code",.ref c),("op",.int 59),("arg",.int k),("place",.int k),("seen",.ref (Z.n+1))]) (t2 Z)=some (false,t2 Z):=gQ [] (by kernel_rfl)
  exact gF [eC e1,eY (lD (n:=39) (by kernel_rfl) ht)] (by kernel_rfl)
 ·have ht:ki gL (cL (d+1)) 39 (dQ (dz "threaded" 1)) (mk "threaded" [("code",.ref c),("op",.int 60),("arg",.int k),("place",.int k),("seen",.ref (Z.n+1))]) (t2 Z)=some (false,t2 Z):=gQ [] (by kernel_rfl)
  exact gF [eC e1,eY (lD (n:=39) (by kernel_rfl) ht)] (by kernel_rfl)
noncomputable abbrev tm(c:Nat)(k:Int)(s:Nat)(op p:Int)(st:V):Ms:=mk "threaded" [("code",.ref c),("op",.int op),("arg",.int k),("place",.int p),("seen",.ref s),("step",st)]
theorem te{x:CR}(op:Int)(ho:op=61\/op=62)(hc:At Z c (.lst (code.map (rv K))))(hl:code.length<4000)(h:HQ code k)(G:HQ code (k+1))(e:code[k.toNat]?=some x)(e6:x.1=6):
  ∃J,run (d+2) "threaded" [.ref c,.int op,.int k] Z=some (.tup [.int (op-2),.int (k+1)],J)/\Ext Z J:=by
 have e1:=BU (d:=d) hc hl h
 have hs:At (t2 Z) (Z.n+1) (.bO []):=ay _ _
 have x3:Ext Z (t3 Z k):=((Ext.refl Z).al _).al _ |>.pu (Nat.le_succ _)
 have k1:=HR (d:=d) op ho (hc.x x3) hl h.1 e e6
 have e2:=BU (d:=d) (hc.x x3) hl G
 have b1:=j7 hs k
 have z:(0:Nat)<4096:=by decide
 refine ⟨t4 Z k,?_,x3.al _⟩
 have ni:bf (t2 Z) .NotIn (.int k) (.ref (Z.n+1))=some true:=congrArg (Option.map (!·)) b1
 rcases ho with rfl | rfl
 ·have ht:ki gL (cL (d+1)) 39 (dQ (dz "threaded" 1)) (mk "threaded" [("code",.ref c),("op",.int 61),("arg",.int k),("place",.int k),("seen",.ref (Z.n+1))]) (t2 Z)=some (true,t2 Z):=gQ [eG,eB ni] (by kernel_rfl)
  have hb:fG (cI gL (cL (d+1)) 39) (gj (dz "threaded" 1)) (mk "threaded" [("code",.ref c),("op",.int 61),("arg",.int k),("place",.int k),("seen",.ref (Z.n+1))]) (t2 Z)=some (.next,tm c k (Z.n+1) 59 (k+1) (.tup [.int 59,.int (k+1)]),t4 Z k):=gS [eO hs,eP z,eC k1,eC e2] (by kernel_rfl)
  have EW:ki gL (cL (d+1)) 39 (dQ (dz "threaded" 1)) (tm c k (Z.n+1) 59 (k+1) (.tup [.int 59,.int (k+1)])) (t4 Z k)=some (false,t4 Z k):=gQ [] (by kernel_rfl)
  exact gF [eC e1,eY (xD (n:=39) (by kernel_rfl) ht hb EW)] (by kernel_rfl)
 ·have ht:ki gL (cL (d+1)) 39 (dQ (dz "threaded" 1)) (mk "threaded" [("code",.ref c),("op",.int 62),("arg",.int k),("place",.int k),("seen",.ref (Z.n+1))]) (t2 Z)=some (true,t2 Z):=gQ [eG,eB ni] (by kernel_rfl)
  have hb:fG (cI gL (cL (d+1)) 39) (gj (dz "threaded" 1)) (mk "threaded" [("code",.ref c),("op",.int 62),("arg",.int k),("place",.int k),("seen",.ref (Z.n+1))]) (t2 Z)=some (.next,tm c k (Z.n+1) 60 (k+1) (.tup [.int 60,.int (k+1)]),t4 Z k):=gS [eO hs,eP z,eC k1,eC e2] (by kernel_rfl)
  have EW:ki gL (cL (d+1)) 39 (dQ (dz "threaded" 1)) (tm c k (Z.n+1) 60 (k+1) (.tup [.int 60,.int (k+1)])) (t4 Z k)=some (false,t4 Z k):=gQ [] (by kernel_rfl)
  exact gF [eC e1,eY (xD (n:=39) (by kernel_rfl) ht hb EW)] (by kernel_rfl)
end
section
variable{d:Nat}{Z ao aF:St}{c u t k:Nat}{K:List CV}{code Fu:List CR}{w:Tw}{r:CR}{m:Ms}{D:UD}{U:Ul}{co:List V}{v:V}{a:V}{op:Int}
theorem Sy{op:Int}(h:op∈cU)(n:op≠58)(j:isJ op=true):op=59\/op=60\/op=61\/op=62:=by
 unfold isJ at j
 rw [Bool.and_eq_true] at j
 have h1:=of_decide_eq_true j.1
 have h2:=of_decide_eq_true j.2
 lia
theorem vU(hc:At Z c (.lst (code.map (rv K))))(hl:code.length<4000)(ok:Ml code r)(j:isJ r.1=true):∃J,run (d+2) "threaded" [.ref c,.int r.1,r.2.v K] Z=some (rv K (zO r),J)/\Ext Z J:=by
 obtain ⟨op,a⟩:=r
 refine bJ (ok.j j) λk su n1 n2=>?_
 obtain rfl:=su
 rcases Sy ok.o ok.n j with rfl | rfl | rfl | rfl
 ·exact ⟨_,oV 59 (.inl rfl) hc hl n1,((Ext.refl _).al _).al _⟩
 ·exact ⟨_,oV 60 (.inr rfl) hc hl n1,((Ext.refl _).al _).al _⟩
 ·obtain ⟨n3,x,e,e6⟩:=n2 (.inl rfl)
  exact te 61 (.inl rfl) hc hl n1 n3 e e6
 ·obtain ⟨n3,x,e,e6⟩:=n2 (.inr rfl)
  exact te 62 (.inr rfl) hc hl n1 n3 e e6
noncomputable def hm(u t:Nat)(w:Tw):Ms:=mk "thread_one" [("unit",.ref u),("code",.ref t),("op",w 0),("arg",w 1)]
theorem ju(h:op∈cU):∀(Z:St),bf Z .NotEq (.str (kd op)) (.str "t")=some (!isJ op):=λZ=>congrArg (Option.map (!·)) (mV h Z)
theorem BV(h:op∈cU)(j:isJ op=false)(av:AV a)(n:d4 w)(ht:At Z t (.lst co))(lc:co.length<aq):
  tn "thread_one" 1 (d+3) 39 (.tup [.int op,a]) (hm u t w) Z=some (.next,hm u t (up (up w 0 (.int op)) 1 a),Z.put t (.lst (co++[.tup [.int op,a]]))):=by
 have q:=(ju h Z).trans (congrArg (λb=>some (!b)) j)
 cases av<;>exact gT [eN (n 0),eN (n 1),eC (gp h (d+2) Z),eB q,eO ht,eO ht,eP lc] (by kernel_rfl)
theorem D4(h:op=59\/op=60\/op=61\/op=62)(av:AV a)(n:d4 w)(hu:At Z u D.o)(ht:At Z t (.lst co))(tt:run (d+3) "threaded" [.ref D.co,.int op,a] Z=some (v,ao))(x:Ext Z ao)(lc:co.length<aq):
  tn "thread_one" 1 (d+3) 39 (.tup [.int op,a]) (hm u t w) Z=some (.next,hm u t (up (up w 0 (.int op)) 1 a),ao.put t (.lst (co++[v]))):=by
 rcases h with rfl | rfl | rfl | rfl
 ·cases av<;>exact gT [eN (n 0),eN (n 1),eC (gp (op:=59) (by decide) (d+2) Z),eB (ju (op:=59) (by decide) Z),eO ht,eO hu,eC tt,eO (ht.x x),eP lc] (by kernel_rfl)
 ·cases av<;>exact gT [eN (n 0),eN (n 1),eC (gp (op:=60) (by decide) (d+2) Z),eB (ju (op:=60) (by decide) Z),eO ht,eO hu,eC tt,eO (ht.x x),eP lc] (by kernel_rfl)
 ·cases av<;>exact gT [eN (n 0),eN (n 1),eC (gp (op:=61) (by decide) (d+2) Z),eB (ju (op:=61) (by decide) Z),eO ht,eO hu,eC tt,eO (ht.x x),eP lc] (by kernel_rfl)
 ·cases av<;>exact gT [eN (n 0),eN (n 1),eC (gp (op:=62) (by decide) (d+2) Z),eB (ju (op:=62) (by decide) Z),eO ht,eO hu,eC tt,eO (ht.x x),eP lc] (by kernel_rfl)
noncomputable def TI(aw:St)(u:Nat)(co:List V)(m:Ms)(Z:St):Prop:=(∃w,d4 w/\m=hm u aw.n w)/\Ext aw Z/\At Z aw.n (.lst co)
theorem HS{r:CR}(j:isJ r.1=false):zO r=r:=by
 unfold zO
 rw [if_neg (λe=>by rw [e] at j;cases j),if_neg (λe=>by rw [e] at j;cases j)]
theorem D5{aw:St}(hu:At aw u D.o)(hc:At aw D.co (.lst (code.map (rv K))))(hl:code.length<4000)(ok:Ml code r)(lc:co.length<4000)(i:TI aw u co m Z):
  ∃m' J,tn "thread_one" 1 (d+3) 39 (rv K r) m Z=some (.next,m',J)/\TI aw u (co++[rv K (zO r)]) m' J:=by
 refine ja (i) λDm x ht=>?_
 obtain ⟨w,nw,em⟩:=Dm
 subst em
 have nI:d4 (up (up w 0 (.int r.1)) 1 (r.2.v K)):=(nw.up 0 (fO _)).up 1 (Hg K _)
 cases j:isJ r.1 with
 | false=>
  rw [HS j]
  exact ⟨_,_,BV ok.o j (AV.of K r.2) nw ht (Nat.lt_trans lc (by decide)),⟨_,nI,rfl⟩,x.pu (Nat.le_refl _),At.self ht.lt _⟩
 | true=>
  refine aO (vU (d:=d+1) (hc.x x) hl ok j) λao t C=>?_
  exact ⟨_,_,D4 (Sy ok.o ok.n j) (AV.of K r.2) nw (hu.x x) ht t C (Nat.lt_trans lc (by decide)),⟨_,nI,rfl⟩,(x.trans C).pu (Nat.le_refl _),At.self (ht.x C).lt _⟩
def NA(n c:Nat)(D:UD):UD:={gZ n D with co:=c}
def Qt(n c l:Nat)(D:UD):UD:={gZ n D with co:=c,li:=l}
def Sz(n c l:Nat)(D:UD):UD:={gZ n D with co:=c,li:=l,ha:=l+1}
noncomputable def SA(Z ao:St)(c:Nat)(D:UD)(l h:List V):St:=((((ao.put (Z.n+1) (NA Z.n c D).o).alloc (.lst l)).put (Z.n+1) (Qt Z.n c ao.n D).o).alloc (.lst h)).put (Z.n+1) (Sz Z.n c ao.n D).o
theorem tf{aw:St}(a:UA Z u D U)(hc:At Z c (.lst (Fu.map (rv U.K))))(x0:Ext aw Z)(c0:aw.n<=c):∃J M,run (d+3) "with_code" [.ref u,.ref c] Z=some (.ref (Z.n+1),J)/\Made aw D J (Z.n+1) M {U with code:=Fu}:=by
 refine EP (kC d a.u a.pa a.cn a.un a.ca a.pp) λao t1 C m1 m2 m3 m4 m5 m6 m7 m8 m9 Vd=>?_
 have g:∀i,Nat.beq i 1=false->Z.n+i≠Z.n+1:=λi h=>b9 _ h
 have q1:Z.n+1<ao.n:=m1.lt
 have p1:=At.self m1.lt (NA Z.n c D).o
 have xa:Ext Z (ao.put (Z.n+1) (NA Z.n c D).o):=C.pu (Nat.le_succ _)
 have p2:=p1.al (.lst (U.L.map V.int))
 have p3:=At.self p2.lt (Qt Z.n c ao.n D).o
 have xb:=(xa.al (.lst (U.L.map V.int))).pu (k:=Z.n+1) (o:=(Qt Z.n c ao.n D).o) (Nat.le_succ _)
 have p4:=p3.al (.lst (U.hs.map Hd.v))
 have f:∀{i:Nat}{o:af},At ao (Z.n+i) o->Nat.beq i 1=false->At (SA Z ao c D (U.L.map V.int) (U.hs.map Hd.v)) (Z.n+i) o:=
  λh q=>((((h.put (g _ q)).al _).put (g _ q)).al _).put (g _ q)
 have z:∀i,aw.n<=Z.n+i:=λi=>Nat.le_trans x0.n (Nat.le_add_right _ _)
 refine ⟨SA Z ao c D (U.L.map V.int) (U.hs.map Hd.v),Sz Z.n c ao.n D,gF [eC t1,eO m1,eO (a.u.x xa),eO (a.li.x xa),eO p2,eO (a.u.x xb),eO (a.ha.x xb),eO p4] (by kernel_rfl),x0.trans ((xb.al _).pu (Nat.le_succ _)),?_,⟨rfl,rfl,rfl,rfl,rfl,rfl,rfl⟩,⟨Nat.le_succ_of_le x0.n,x0.n,z 11⟩,⟨c0,z 9,z 10,Nat.le_trans x0.n (Nat.le_trans C.n (Nat.le_succ _)),Nat.le_trans x0.n C.n,z 12⟩⟩
 have SD:c≠Z.n+1:=Nat.ne_of_lt (Nat.lt_succ_of_lt hc.lt)
 have l1:ao.n≠Z.n+1:=Nat.ne_of_gt q1
 have l2:ao.n+1≠Z.n+1:=Nat.ne_of_gt (Nat.lt_succ_of_lt q1)
 exact ⟨At.self p4.lt _,f (i:=0) m2 rfl,f m3 rfl,(hc.x (xb.al _)).put SD,f m4 rfl,(ay _ _).put l2,(((ay (ao.put (Z.n+1) (NA Z.n c D).o) (.lst (U.L.map V.int))).put l1).al (.lst (U.hs.map Hd.v))).put l1,f m5 rfl,f m6 rfl,⟨g 0 rfl,g 9 rfl,SD,g 10 rfl,l2,l1,g 11 rfl,g 12 rfl⟩⟩
def NC(U:Ul):Ul:={U with code:=U.code.map zO}
theorem gr(a:UA Z u D U)(hl:U.code.length<4000)(ok:∀r,r∈U.code->Ml U.code r):∃J k M,run (d+4) "thread_one" [.ref u] Z=some (.ref k,J)/\Made Z D J k M (NC U):=by
 have h0:TI Z u [] (hm u Z.n w0) (Z.alloc (.lst [])):=⟨⟨_,BH,rfl⟩,aQ _ _,ay _ _⟩
 obtain ⟨m,ao,l1,⟨w,nw,em⟩,C,ht⟩:=fy (turn:=tn "thread_one" 1 (d+3) 39) (k:=D.co) (g:=rv U.K) (L:=U.code) (λpre m J=>TI Z u (pre.map λr=>rv U.K (zO r)) m J) (λpre m J i=>(a.co.x i.2.1).e) (λpre r rest m J e i=>by
  obtain ⟨m',kL,t,i'⟩:=D5 (d:=d) a.u a.co hl (ok r (by rw [e];exact List.mem_append_right _ List.mem_cons_self)) (by rw [List.length_map];exact (dR e hl).2) i
  exact ⟨m',kL,t,by rw [List.map_append];exact i'⟩) (Nat.lt_trans hl (by decide)) h0
 subst em
 have c1:cI gL (cL (d+3)) 40 (dz "thread_one" 1) (hm u Z.n w0) (Z.alloc (.lst []))=some (.next,_,ao):=
  dw (n:=39) (by kernel_rfl) (show aG _=some (Src.lst D.co,Z.alloc (.lst [])) from congrArg aG (gX (v:=.val (.ref D.co)) [eO (a.u.al (.lst []))] (by kernel_rfl))) (by kernel_rfl) l1
 have hc:At ao Z.n (.lst ((U.code.map zO).map (rv U.K))):=by rw [List.map_map];exact ht
 refine bV (tf (d:=d) (a.x C) hc C (Nat.le_refl _)) λaF M t2 mm=>?_
 have z:(0:Nat)<=aq:=Nat.zero_le _
 exact ⟨aF,ao.n+1,M,gF [eP z,eY c1,eC t2] (by kernel_rfl),mm⟩
end
def dZ(op:Int):Bool:=decide (op=58\/op=65)
theorem HT{op:Int}(h:op∈cU):∀(d:Nat)(Z:St),run (d+1) "is_last" [.int op] Z=some (.bool (dZ op),Z):=
 jq.of (P:=λop=>∀(d:Nat)(Z:St),run (d+1) "is_last" [.int op] Z=some (.bool (dZ op),Z)) (by
  unfold cU
  repeat (first | exact trivial | refine ⟨λd Z=>by kernel_rfl,?_⟩)) op h
def cb(r:CR):List Int:=if isJ r.1 then (match r.2 with | .i k=>[k] | _=>[]) else []
def kM(h:Hd)(pc:Int):Bool:=decide (h.s<=pc)&&decide (pc<h.e)
noncomputable def zy(r:CR)(h:Hd)(pc:Int):List Int:=(if dZ r.1 then [] else [pc+1])++cb r++if kM h pc then [h.t] else []
section
variable{d:Nat}{Z:St}{u:Nat}{D:UD}{K:List CV}{code:List CR}{pc:Nat}{r:CR}{h:Hd}
theorem Mm{Z:St}{a b:Int}(h:¬a<=b):bf Z .LtE (.int a) (.int b)=some false:=congrArg some (decide_eq_false h)
noncomputable abbrev Vf(u:Nat)(pc:Nat)(op:Int)(a:V)(q:Nat)(h:Hd):Ms:=mk "later_places" [("unit",.ref u),("pc",.int pc),("op",.int op),("arg",a),("found",.ref q),("start",.int h.s),("end",.int h.e),("target",.int h.t),("depth",.int h.d),("is_finally",.bool h.f)]
theorem gY{d n:Nat}{s:Stmt}{m m':Ms}{Z J:St}{c:Fl}(l:List Ev)(e:wY gL (cL d) (wL d) n s m Z ⟨Ha l,True⟩=some ((c,m',J),⟨[],Fm l True⟩)):cI gL (cL d) n s m Z=some (c,m',J):=(qg (gV d) n _ _ _ _ _ _ e (Hb l trivial)).2
theorem qv{q:Nat}{l:List V}{op:Int}{a:V}(hu:At Z u D.o)(hh:At Z D.ha (.lst [h.v]))(hq:At Z q (.lst l))(hl:l.length<100):
  cI gL (cL d) 40 (dz "later_places" 3) (mk "later_places" [("unit",.ref u),("pc",.int pc),("op",.int op),("arg",a),("found",.ref q)]) Z=some (.next,Vf u pc op a q h,if kM h pc then Z.put q (.lst (l++[.int h.t])) else Z):=by
 have ll:l.length<aq:=Nat.lt_trans hl (by decide)
 by_cases q1:h.s<=pc
 ·by_cases q2:(pc:Int)<h.e
  ·rw [show kM h pc=true by unfold kM;rw [decide_eq_true q1,decide_eq_true q2];rfl,if_pos rfl]
   exact gY [eO hu,eO hh,eB (Lq (Z:=Z) q1),eB (zv (Z:=Z) q2),eO hq,eO hq,eP ll] (by kernel_rfl)
  ·rw [show kM h pc=false by unfold kM;rw [decide_eq_true q1,decide_eq_false q2];rfl,if_neg (by decide)]
   exact gY [eO hu,eO hh,eB (Lq (Z:=Z) q1),eB (mW (Z:=Z) q2),eO hh] (by kernel_rfl)
 ·rw [show kM h pc=false by unfold kM;rw [decide_eq_false q1];rfl,if_neg (by decide)]
  exact gY [eO hu,eO hh,eB (Mm (Z:=Z) q1),eO hh] (by kernel_rfl)
theorem D6(hu:At Z u D.o)(hc:At Z D.co (.lst (code.map (rv K))))(hh:At Z D.ha (.lst [h.v]))(hl:code.length<4000)(e:code[pc]?=some r)(ok:CX r)(Mn:r.1≠58):
  ∃J q,run (d+2) "later_places" [.ref u,.int (pc:Nat)] Z=some (.ref q,J)/\Ext Z J/\At J q (.lst ((zy r h pc).map V.int))/\Z.n<=q:=by
 obtain ⟨op,a⟩:=r
 have er:=qu (K:=K) (k:=(pc:Nat)) e (Int.natCast_nonneg _) hl
 have kc:=gp ok.o d
 have kt:=mV ok.o
 have lc:=HT ok.o d
 have z0:0<=aq:=Nat.zero_le _
 have z1:1<=aq:=by decide
 cases hj:isJ op with
 | true=>
  obtain ⟨k,ek⟩:=ok.j hj
  cases ek
  have hL:dZ op=false:=decide_eq_false (λq=>q.elim Mn λq=>by subst q;cases hj)
  have C:=aQ Z (.lst [.int (pc+1)])
  have x2:Ext Z ((Z.alloc (.lst [.int (pc+1)])).put Z.n (.lst [.int (pc+1),.int k])):=C.pu (Nat.le_refl _)
  have f1:=ay Z (.lst [.int (pc+1)])
  have f2:=At.self f1.lt (.lst [.int (pc+1),.int k])
  have lh:=qv (d:=d+1) (h:=h) (pc:=pc) (op:=op) (a:=.int k) (hu.x x2) (hh.x x2) f2 (show 2<100 by decide)
  have es:(zy (op,.i k) h pc).map V.int=[.int (pc+1),.int k]++if kM h pc then [.int h.t] else []:=by
   show ((if dZ op then [] else [(pc:Int)+1])++(if isJ op then [k] else [])++if kM h pc then [h.t] else []).map V.int=_
   rw [hL,hj];cases kM h pc<;>rfl
  rw [es]
  refine ⟨if kM h pc then ((Z.alloc (.lst [.int (pc+1)])).put Z.n (.lst [.int (pc+1),.int k])).put Z.n (.lst ([.int (pc+1),.int k]++[.int h.t])) else (Z.alloc (.lst [.int (pc+1)])).put Z.n (.lst [.int (pc+1),.int k]),Z.n,gF [eO hu,eO hc,eV er,eC ((lc Z).trans (congrArg (λb=>some (V.bool b,Z)) hL)),eP z1,eC (kc (Z.alloc (.lst [.int (pc+1)]))),eB ((kt (Z.alloc (.lst [.int (pc+1)]))).trans (congrArg some hj)),eO f1,eO f1,eP (p:=1<aq) (by decide),eY lh] (by kernel_rfl),?_,?_,Nat.le_refl _⟩
  ·cases kM h pc
   ·exact x2
   ·exact x2.pu (Nat.le_refl _)
  ·cases kM h pc
   ·rw [if_neg (by decide),if_neg (by decide),List.append_nil];exact f2
   ·rw [if_pos rfl,if_pos rfl];exact At.self f2.lt _
 | false=>
  have et:cb (op,a)=[]:=by unfold cb;rw [show isJ (op,a).1=false from hj];rfl
  have av:=AV.of K a
  cases hL:dZ op with
  | true=>
   have C:=aQ Z (.lst [])
   have f1:=ay Z (.lst [])
   have lh:=qv (d:=d+1) (h:=h) (pc:=pc) (op:=op) (a:=a.v K) (hu.x C) (hh.x C) f1 (by decide)
   have es:(zy (op,a) h pc).map V.int=[]++if kM h pc then [.int h.t] else []:=by
    unfold zy;rw [et,show dZ (op,a).1=true from hL];cases kM h pc<;>rfl
   rw [es]
   refine ⟨if kM h pc then (Z.alloc (.lst [])).put Z.n (.lst ([]++[.int h.t])) else Z.alloc (.lst []),Z.n,?_,?_,?_,Nat.le_refl _⟩
   ·unfold rv at er
    revert er lh
    dsimp only
    generalize a.v K=b at av
    intro er lh
    cases av<;>exact gF [eO hu,eO hc,eV er,eC ((lc Z).trans (congrArg (λb=>some (V.bool b,Z)) hL)),eP z0,eC (kc (Z.alloc (.lst []))),eB ((kt (Z.alloc (.lst []))).trans (congrArg some hj)),eY lh] (by kernel_rfl)
   ·cases kM h pc
    ·exact C
    ·exact C.pu (Nat.le_refl _)
   ·cases kM h pc
    ·exact f1
    ·exact At.self f1.lt _
  | false=>
   have C:=aQ Z (.lst [.int (pc+1)])
   have f1:=ay Z (.lst [.int (pc+1)])
   have lh:=qv (d:=d+1) (h:=h) (pc:=pc) (op:=op) (a:=a.v K) (hu.x C) (hh.x C) f1 (show 1<100 by decide)
   have es:(zy (op,a) h pc).map V.int=[.int (pc+1)]++if kM h pc then [.int h.t] else []:=by
    unfold zy;rw [et,show dZ (op,a).1=false from hL];cases kM h pc<;>rfl
   rw [es]
   refine ⟨if kM h pc then (Z.alloc (.lst [.int (pc+1)])).put Z.n (.lst ([.int (pc+1)]++[.int h.t])) else Z.alloc (.lst [.int (pc+1)]),Z.n,?_,?_,?_,Nat.le_refl _⟩
   ·unfold rv at er
    revert er lh
    dsimp only
    generalize a.v K=b at av
    intro er lh
    cases av<;>exact gF [eO hu,eO hc,eV er,eC ((lc Z).trans (congrArg (λb=>some (V.bool b,Z)) hL)),eP z1,eC (kc (Z.alloc (.lst [.int (pc+1)]))),eB ((kt (Z.alloc (.lst [.int (pc+1)]))).trans (congrArg some hj)),eY lh] (by kernel_rfl)
   ·cases kM h pc
    ·exact C
    ·exact C.pu (Nat.le_refl _)
   ·cases kM h pc
    ·rw [if_neg (by decide),if_neg (by decide),List.append_nil];exact f1
    ·exact At.self f1.lt _
end
abbrev Dc:=List (Int×V)
def has(E:Dc)(k:Int):Bool:=(aI E k).isSome
def cnt(n:Nat)(E:Dc):Nat:=(List.range n).countP λi=>has E (i:Nat)
theorem nc{p q:Nat->Bool}{j:Nat}:∀{n:Nat},j<n->p j=false->(∀i,q i=(p i || decide (i=j)))->(List.range n).countP q=(List.range n).countP p+1
 | 0,h,_,_=>absurd h (Nat.not_lt_zero _)
 | n+1,h,hp,hq=>by
  rw [List.range_succ,List.countP_append,List.countP_append,List.countP_singleton,List.countP_singleton]
  by_cases e:n=j
  ·subst e
   have:(List.range n).countP q=(List.range n).countP p:=List.countP_congr λi hi=>by
    rw [hq i,decide_eq_false (Nat.ne_of_lt (List.mem_range.mp hi)),Bool.or_false]
   rw [this,hq n,hp,decide_eq_true rfl];rfl
  ·rw [nc (by lia) hp hq,hq n,decide_eq_false e,Bool.or_false];lia
theorem xE{n:Nat}{E:Dc}{j:Int}(h0:0<=j)(h1:j<n)(h:has E j=false)(v:V):cnt n (bA E j v)=cnt n E+1:=by
 refine nc (j:=j.toNat) (by omega) (by rw [Int.toNat_of_nonneg h0];exact h) λi=>?_
 unfold has
 rw [fM,Bool.or_comm]
 congr 1
 exact decide_eq_decide.mpr (by omega)
theorem BW(n:Nat)(E:Dc):cnt n E<=n:=by
 have:=List.countP_le_length (p:=λi:Nat=>has E (i:Nat)) (l:=List.range n)
 rw [List.length_range] at this
 exact this
noncomputable def xF(n:Nat)(s:Dc×List Int)(j:Int):Dc×List Int:=if (decide (j<n)&& !has s.1 j)=true then (bA s.1 j (.bool true),s.2++[j]) else s
structure LP (n:Nat) (s:Dc×List Int):Prop where
 kU:∀k,has s.1 k=true->0<=k/\k<n
 sub:∀k,k∈s.2->has s.1 k=true
 len:s.1.length<=cnt n s.1
structure LQ (n:Nat) (s t:Dc×List Int):Prop where
 up:∀k,has s.1 k=true->has t.1 k=true
 nw:∀k,has t.1 k=true->has s.1 k=true\/k∈t.2
 w:∀k,k∈s.2->k∈t.2
 c:cnt n t.1+s.2.length=cnt n s.1+t.2.length
theorem LQ.refl(n:Nat)(s:Dc×List Int):LQ n s s:=⟨λ_ h=>h,λ_ h=>.inl h,λ_ h=>h,rfl⟩
theorem LQ.trans{n:Nat}{s t r:Dc×List Int}(a:LQ n s t)(b:LQ n t r):LQ n s r:=
 ⟨λk h=>b.up k (a.up k h),λk h=>(b.nw k h).elim (λh=>(a.nw k h).imp_right (b.w k)) .inr,λk h=>b.w k (a.w k h),by have:=a.c;have:=b.c;lia⟩
theorem HU{n:Nat}{s:Dc×List Int}{j:Int}(h:LP n s)(h0:0<=j):LP n (xF n s j)/\LQ n s (xF n s j)/\(j<n->has (xF n s j).1 j=true):=by
 unfold xF
 by_cases q:(decide (j<n)&& !has s.1 j)=true
 ·rw [if_pos q]
  rw [Bool.and_eq_true,decide_eq_true_iff,Bool.not_eq_true'] at q
  have c:=xE (n:=n) h0 q.1 q.2 (.bool true)
  have hh:∀k,has (bA s.1 j (.bool true)) k=(decide (j=k) || has s.1 k):=λk=>fM _ _ _ _
  refine ⟨⟨λk e=>?_,λk e=>?_,?_⟩,⟨λk e=>?_,λk e=>?_,λk e=>List.mem_append_left _ e,?_⟩,λ_=>?_⟩
  ·have e:=(hh k).symm.trans e
   rw [Bool.or_eq_true,decide_eq_true_iff] at e
   induction e using Or.casesOn with
   | inl e=>subst e;exact ⟨h0,q.1⟩
   | inr e=>exact h.kU k e
  ·show has (bA s.1 j _) k=true
   rw [hh,Bool.or_eq_true,decide_eq_true_iff]
   rw [List.mem_append,List.mem_singleton] at e
   induction e using Or.casesOn with
   | inl e=>exact .inr (h.sub k e)
   | inr e=>exact .inl e.symm
  ·show (bA s.1 j _).length<=cnt n (bA s.1 j _)
   rw [c];exact Nat.le_trans (e9 _ _ _) (Nat.succ_le_succ h.len)
  ·show has (bA s.1 j _) k=true
   rw [hh,e,Bool.or_true]
  ·have e:=(hh k).symm.trans e
   rw [Bool.or_eq_true,decide_eq_true_iff] at e
   induction e using Or.casesOn with
   | inl e=>subst e;exact .inr (List.mem_append_right _ List.mem_cons_self)
   | inr e=>exact .inl e
  ·show cnt n (bA s.1 j _)+_=_+(s.2++[j]).length
   rw [c,List.length_append,List.length_singleton];lia
  ·show has (bA s.1 j _) j=true
   rw [hh,decide_eq_true rfl];rfl
 ·rw [if_neg q]
  refine ⟨h,.refl n s,λe=>?_⟩
  cases hj:has s.1 j with
  | true=>rfl
  | false=>exact absurd (by rw [decide_eq_true e,hj];rfl) q
theorem qw{n:Nat}:∀{l:List Int}{s:Dc×List Int},LP n s->(∀j,j∈l->0<=j)->LP n (l.foldl (xF n) s)/\LQ n s (l.foldl (xF n) s)/\∀j,j∈l->j<n->has (l.foldl (xF n) s).1 j=true
 | [],s,h,_=>⟨h,.refl n s,λj e=>by cases e⟩
 | j::l,s,h,h0=>by
  refine ja (HU h (h0 j List.mem_cons_self)) λa b c=>?_
  refine ja (qw (l:=l) a λi hi=>h0 i (List.mem_cons_of_mem _ hi)) λa' b' c'=>?_
  refine ⟨a',b.trans b',λi hi q=>?_⟩
  cases hi with
  | head=>exact b'.up _ (c q)
  | tail _ hi=>exact c' i hi q
structure LC (code:List CR) (h:Hd):Prop where
 w:∀r,r∈code->CX r/\r.1≠58
 z:∀k r,code[k]?=some r->∀j,j∈zy r h (k:Nat)->0<=j
 l:code.length<4000
 p:0<code.length
noncomputable def Jx(code:List CR)(h:Hd)(E:Dc)(k:Int):Prop:=∀r,code[k.toNat]?=some r->∀j,j∈zy r h k->j<code.length->has E j=true
noncomputable def vm(u f q:Nat)(w:Tw):Ms:=mk "live_places" [("unit",.ref u),("found",.ref f),("waiting",.ref q),("place",w 0)]
abbrev ND:Stmt:=dz "live_places" 1
abbrev HV:Stmt:=(gj (dz "live_places" 1)).getD 0 (.Pass default)
abbrev Qu(d:Nat):V->Ms->St->Option (Fl×Ms×St):=forTurn (cI gL (cL d) 38) (vH HV) (gj HV)
section
variable{d:Nat}{Z aw ao:St}{u f q:Nat}{D:UD}{K:List CV}{code:List CR}{h:Hd}{w:Tw}{m:Ms}{E:Dc}{W:List Int}{j:Int}
structure LV (aw:St) (f q:Nat) (s:Dc×List Int) (Z:St):Prop where
 x:Ext aw Z
 hf:At Z f (.bO s.1)
 hq:At Z q (.lst (s.2.map V.int))
 n:aw.n<=f/\aw.n<=q/\f≠q
theorem LV.st(L:LV aw f q (E,W) Z)(x:Ext Z ao):LV aw f q (E,W) ao:=⟨L.x.trans x,L.hf.x x,L.hq.x x,L.n⟩
theorem D8(hu:At aw u D.o)(hc:At aw D.co (.lst (code.map (rv K))))(L:LV aw f q (E,W) Z)(nw:d4 w)(lE:E.length<4096)(lW:W.length<4096):
  ∃J,Qu d (.int j) (vm u f q w) Z=some (.next,vm u f q (up w 0 (.int j)),J)/\LV aw f q (xF code.length (E,W) j) J/\∀b o,At Z b o->b≠f->b≠q->At J b o:=by
 have Qv:=hu.x L.x
 have zM:=hc.x L.x
 have ni:bf Z .NotIn (.int j) (.ref f)=some (!has E j):=congrArg (Option.map (!·)) (j7 L.hf j)
 unfold xF
 by_cases q1:j<code.length
 ·have b1:bf Z .Lt (.int j) (.int ((code.map (rv K)).length:Nat))=some true:=zv (by rw [List.length_map];exact q1)
  by_cases q2:has E j=true
  ·rw [q2] at ni
   rw [if_neg (by rw [q2,Bool.not_true,Bool.and_false];exact Bool.false_ne_true)]
   exact ⟨Z,gT [eN (nw 0),eO Qv,eO zM,eB b1,eB ni] (by kernel_rfl),L,λ_ _ h _ _=>h⟩
  ·have q2:=Bool.eq_false_iff.mpr q2
   rw [q2] at ni
   rw [if_pos (by rw [q2,decide_eq_true q1];rfl)]
   have L2:LV aw f q (bA E j (.bool true),W) (Z.put f (.bO (bA E j (.bool true)))):=⟨L.x.pu L.n.1,At.self L.hf.lt _,L.hq.put (Ne.symm L.n.2.2),L.n⟩
   have lw:(W.map V.int).length<aq:=by rw [List.length_map];exact Nat.lt_trans lW (by decide)
   refine ⟨(Z.put f (.bO (bA E j (.bool true)))).put q (.lst (W.map V.int++[.int j])),gT [eN (nw 0),eO Qv,eO zM,eB b1,eB ni,eO L.hf,eP lE,eO L2.hq,eO L2.hq,eP lw] (by kernel_rfl),⟨L2.x.pu L.n.2.1,L2.hf.put L.n.2.2,?_,L.n⟩,λ_ _ h n1 n2=>(h.put n1).put n2⟩
   show At _ q (.lst ((W++[j]).map V.int))
   rw [List.map_append]
   exact At.self L2.hq.lt _
 ·have b1:bf Z .Lt (.int j) (.int ((code.map (rv K)).length:Nat))=some false:=mW (by rw [List.length_map];exact q1)
  rw [if_neg (by rw [decide_eq_false q1];exact Bool.false_ne_true)]
  exact ⟨Z,gT [eN (nw 0),eO Qv,eO zM,eB b1] (by kernel_rfl),L,λ_ _ h _ _=>h⟩
theorem D9{l:List Int}{b:Nat}{s:Dc×List Int}(hu:At aw u D.o)(hc:At aw D.co (.lst (code.map (rv K))))(hb:At Z b (.lst (l.map V.int)))(nb:b≠f/\b≠q)(hl:l.length<100)(L:LV aw f q s Z)(nw:d4 w)
  (lE:∀pre rest,l=pre++rest->((pre:List Int).foldl (xF code.length) s).1.length<4096/\((pre:List Int).foldl (xF code.length) s).2.length<4096):
  ∃w' J,d4 w'/\cK (.lst b) (Qu d) aM 0 (vm u f q w) Z=some (.next,vm u f q w',J)/\LV aw f q (l.foldl (xF code.length) s) J:=by
 obtain ⟨m',J,t,⟨w',nI,em⟩,L',_⟩:=fy (k:=b) (turn:=Qu d) (L:=l) (g:=V.int) (λpre m J=>(∃w,d4 w/\m=vm u f q w)/\LV aw f q (pre.foldl (xF code.length) s) J/\At J b (.lst (l.map V.int))) (λpre m J i=>i.2.2.e) (λpre j rest m J e i=>by
  refine ja (i) λsu L hb=>?_
  obtain ⟨w,nw,em⟩:=su
  subst em
  refine bJ (D8 (d:=d) (w:=w) (j:=j) hu hc L nw (lE pre _ e).1 (lE pre _ e).2) λkL t L' kp=>?_
  refine ⟨_,kL,t,⟨_,nw.up 0 (fO _),rfl⟩,by rw [List.foldl_append];exact L',kp _ _ hb nb.1 nb.2⟩) (Nat.lt_trans hl (by decide)) ⟨⟨w,nw,rfl⟩,L,hb⟩
 subst em
 exact ⟨w',J,nI,t,L'⟩
theorem oW{test:Ms->St->Option (Bool×St)}{body:Ms->St->Option (Fl×Ms×St)}(ag:Nat->Ms->St->Prop)(Q:Ms->St->Prop)
  (step:∀t m Z,ag t m Z->(test m Z=some (false,Z)/\Q m Z)\/∃t',t=t'+1/\test m Z=some (true,Z)/\∃m' J,body m Z=some (.next,m',J)/\ag t' m' J):
  ∀(t k:Nat)(m:Ms)(Z:St),t<k->ag t m Z->∃m' J,dn test body k m Z=some (.next,m',J)/\Q m' J
 | _,0,_,_,h,_=>absurd h (Nat.not_lt_zero _)
 | t,k+1,m,Z,h,i=>by
  rcases step t m Z i with ⟨e,q⟩ | ⟨t',rfl,e,m',J,b,i'⟩
  ·exact ⟨m,Z,iJ e,q⟩
  ·refine bV (oW ag Q step t' k m' J (Nat.lt_of_succ_lt_succ h) i') λVg kL e' q=>?_
   exact ⟨Vg,kL,(mS e b).trans e',q⟩
structure Mo (aw:St) (u f q:Nat) (code:List CR) (h:Hd) (s:Dc×List Int) (m:Ms) (Z:St):Prop where
 m:∃w,d4 w/\m=vm u f q w
 v:LV aw f q s Z
 p:LP code.length s
 c:∀k,has s.1 k=true->k∈s.2\/Jx code h s.1 k
 z:has s.1 0=true
theorem HW{n:Nat}{s t:Dc×List Int}{k:Int}(a:LQ n s t)(c:Jx code h s.1 k):Jx code h t.1 k:=λr e j hj q=>a.up j (c r e j hj q)
theorem Ea(r:CR):(cb r).length<=1:=by
 unfold cb
 split
 ·split<;>simp
 ·simp
theorem Eb(r:CR)(h:Hd)(k:Int):(zy r h k).length<100:=by
 unfold zy
 rw [List.length_append,List.length_append]
 have h1:(if dZ r.1=true then ([]:List Int) else [k+1]).length<=1:=by split<;>simp
 have h2:=Ea r
 have h3:(if kM h k=true then [h.t] else ([]:List Int)).length<=1:=by split<;>simp
 lia
theorem zz{s:Dc×List Int}{W:List Int}{k:Int}(hu:At aw u D.o)(hc:At aw D.co (.lst (code.map (rv K))))(hh:At aw D.ha (.lst [h.v]))(ak:LC code h)(hn:code.length<1000)(es:s.2=W++[k])(lW:s.2.length<=code.length)(i:Mo aw u f q code h s m Z):
  ∃s' m' J,fG (cI gL (cL (d+2)) 39) (gj ND) m Z=some (.next,m',J)/\Mo aw u f q code h s' m' J/\cnt code.length s'.1+W.length=cnt code.length s.1+s'.2.length:=by
 refine aO (i.m) λw nw em=>?_
 subst em
 obtain ⟨E,W'⟩:=s
 have es:W'=W++[k]:=es
 subst es
 have kE:has E k=true:=i.p.sub k (List.mem_append_right _ List.mem_cons_self)
 obtain ⟨k0,kn⟩:=i.p.kU k kE
 have Vh:k.toNat<code.length:=by lia
 obtain ⟨r,er⟩:∃r,code[k.toNat]?=some r:=⟨_,List.getElem?_eq_getElem Vh⟩
 have hr:=ak.w r (List.mem_of_getElem? er)
 have hw:At Z q (.lst (W.map V.int++[.int k])):=by have:=i.v.hq;rw [List.map_append] at this;exact this
 have hp:ip "pop" q (W.map V.int++[.int k]) [] Z=some (.int k,Z.put q (.lst (W.map V.int))):=by
  unfold ip
  rw [if_neg (by decide),if_pos rfl,List.getLast?_append,List.dropLast_concat];rfl
 have L1:LV aw f q (E,W) (Z.put q (.lst (W.map V.int))):=⟨i.v.x.pu i.v.n.2.1,i.v.hf.put i.v.n.2.2,At.self hw.lt _,i.v.n⟩
 have ek:k=(k.toNat:Nat):=(Int.toNat_of_nonneg k0).symm
 refine fc (D6 (d:=d) (pc:=k.toNat) (hu.x L1.x) (hc.x L1.x) (hh.x L1.x) ak.l er hr.1 hr.2) λaF b t2 x2 hb nb=>?_
 rw [<-ek] at t2 hb
 have P1:LP code.length (E,W):=⟨i.p.kU,λj hj=>i.p.sub j (List.mem_append_left _ hj),i.p.len⟩
 have h0:∀j,j∈zy r h k->0<=j:=λj hj=>ak.z k.toNat r er j (by rw [<-ek];exact hj)
 refine ja (qw P1 h0) λP2 Q2 all2=>?_
 have ls:=Eb r h k
 have WD:W.length+1<=code.length:=by rw [show ((E,W++[k]):Dc×List Int).2.length=W.length+1 from List.length_append] at lW;exact lW
 obtain ⟨w',J,nI,t3,L3⟩:=D9 (d:=d+2) (w:=w) (hu) hc hb ⟨Nat.ne_of_gt (Nat.lt_of_lt_of_le L1.hf.lt nb),Nat.ne_of_gt (Nat.lt_of_lt_of_le L1.hq.lt nb)⟩ ls (L1.st x2) nw (λpre rest e=>by
  obtain ⟨Pp,Qp,_⟩:=qw (l:=pre) P1 λj hj=>h0 j (by rw [e];exact List.mem_append_left _ hj)
  have a1:=Pp.len
  have a2:=BW code.length (pre.foldl (xF code.length) (E,W)).1
  have a3:_+W.length=_:=Qp.c
  lia)
 have c1:cI gL (cL (d+2)) 39 HV (vm u f q w) Z=some (.next,vm u f q w',J):=
  dw (n:=38) (by kernel_rfl) (show aG _=some (Src.lst b,aF) from congrArg aG (gX (v:=.val (.ref b)) [eO hw,eO hw,eR hp,eC t2] (by kernel_rfl))) (by kernel_rfl) t3
 refine ⟨_,_,J,gS [eY c1] (by kernel_rfl),⟨⟨w',nI,rfl⟩,L3,P2,λj hj=>?_,Q2.up 0 i.z⟩,Q2.c⟩
 rcases Q2.nw j hj with o | n
 ·rcases i.c j o with o2 | o2
  ·have o2:j∈W++[k]:=o2
   rw [List.mem_append,List.mem_singleton] at o2
   rcases o2 with o2 | o2
   ·exact .inl (Q2.w j o2)
   ·subst o2
    refine .inr λr' e' l hl ql=>?_
    rw [er] at e'
    cases e'
    exact all2 l hl ql
  ·exact .inr (HW Q2 o2)
 ·exact .inl n
end
section
variable{d:Nat}{Z aw ao:St}{u f q rr pp:Nat}{D:UD}{K:List CV}{code pre:List CR}{h:Hd}{w:Tw}{m:Ms}{E:Dc}{L:List Int}{r:CR}
theorem HX(hu:At Z u D.o)(hc:At Z D.co (.lst (code.map (rv K))))(hh:At Z D.ha (.lst [h.v]))(ak:LC code h)(hn:code.length<1000):
  ∃J f E,run (d+3) "live_places" [.ref u] Z=some (.ref f,J)/\Ext Z J/\At J f (.bO E)/\has E 0=true/\∀k,has E k=true->Jx code h E k:=by
 have a1:At ((Z.alloc (.bO [(0,.bool true)])).alloc (.lst [.int 0])) Z.n (.bO [(0,.bool true)]):=(ay _ _).al _
 have a2:At ((Z.alloc (.bO [(0,.bool true)])).alloc (.lst [.int 0])) (Z.n+1) (.lst [.int 0]):=ay (Z.alloc (.bO [(0,.bool true)])) (.lst [.int 0])
 have c0:cnt code.length [(0,.bool true)]=cnt code.length []+1:=xE (E:=[]) (j:=0) (Int.le_refl 0) (by have:=ak.p;lia) rfl (.bool true)
 have Vi:cnt code.length []=0:=by unfold cnt;rw [List.countP_eq_zero];intro i _ e;cases e
 have h0:∀k,has [(0,V.bool true)] k=true->k=0:=λk e=>by
  have e:(if k=0 then some (V.bool true) else none).isSome=true:=e
  by_cases q:k=0
  ·exact q
  ·rw [if_neg q] at e;cases e
 have i0:Mo Z u Z.n (Z.n+1) code h ([(0,.bool true)],[0]) (vm u Z.n (Z.n+1) w0) ((Z.alloc (.bO [(0,.bool true)])).alloc (.lst [.int 0])):=
  ⟨⟨_,BH,rfl⟩,⟨(aQ _ _).al _,a1,a2,Nat.le_refl _,Nat.le_succ _,Nat.ne_of_lt (Nat.lt_succ_self _)⟩,⟨λk e=>by rw [h0 k e];exact ⟨Int.le_refl 0,by have:=ak.p;lia⟩,λk e=>by rw [List.mem_singleton.mp e];rfl,by rw [c0];exact Nat.le_add_left _ _⟩,λk e=>.inl (by rw [h0 k e];exact List.mem_cons_self),rfl⟩
 obtain ⟨m',J,t,s,es,i⟩:=oW (test:=ki gL (cL (d+2)) 39 (dQ ND)) (body:=fG (cI gL (cL (d+2)) 39) (gj ND))
  (λt m J=>∃s,Mo Z u Z.n (Z.n+1) code h s m J/\t+cnt code.length s.1=code.length+s.2.length/\s.2.length<=cnt code.length s.1) (λm J=>∃s:Dc×List Int,s.2=[]/\Mo Z u Z.n (Z.n+1) code h s m J) (λt m J ⟨s,i,et,Vj⟩=>by
   have cl:=BW code.length s.1
   refine aO (i.m) λw nw em=>?_
   rcases List.eq_nil_or_concat s.2 with e | ⟨W,k,e⟩
   ·refine .inl ⟨?_,s,e,i⟩
    subst em
    have b:bf J .Gt (.int ((s.2.map V.int).length:Nat)) (.int 0)=some false:=xk (by rw [e];decide)
    exact gQ [eO i.v.hq,eB b] (by kernel_rfl)
   ·rw [List.concat_eq_append] at e
    have el:s.2.length=W.length+1:=by rw [e,List.length_append];rfl
    have b:bf J .Gt (.int ((s.2.map V.int).length:Nat)) (.int 0)=some true:=Lr (by rw [List.length_map,el];lia)
    refine pz (zz (d:=d) hu hc hh ak hn e (Nat.le_trans Vj cl) i) λs' m' kL b' i' c'=>?_
    refine .inr ⟨t-1,by lia,by subst em;exact gQ [eO i.v.hq,eB b] (by kernel_rfl),m',kL,b',s',i',by lia,by lia⟩)
  (code.length+1-1) aM _ _ (by show _<4096;lia) ⟨_,i0,by rw [c0,Vi];show _+(0+1)=_+1;lia,by rw [c0];exact Nat.le_add_left _ _⟩
 refine aO (i.m) λw nw em=>?_
 subst em
 have c1:cI gL (cL (d+2)) 40 ND (vm u Z.n (Z.n+1) w0) ((Z.alloc (.bO [(0,.bool true)])).alloc (.lst [.int 0]))=some (.next,_,J):=(mR (n:=39) (by kernel_rfl)).trans t
 refine ⟨J,Z.n,s.1,gF [eP (p:=1<=aq) (by decide),eY c1] (by kernel_rfl),i.v.x,i.v.hf,i.z,λk e=>(i.c k e).resolve_left (by rw [es];exact List.not_mem_nil)⟩
theorem tg{code:List CR}(h0:has E 0=true)(hc:∀k,has E k=true->Jx code h E k)(hl:∀k r,code[k]?=some r->k+1<code.length->dZ r.1=false):∀k,k<code.length->has E (k:Nat)=true
 | 0,_=>h0
 | k+1,hk=>by
  have q:k<code.length:=Nat.lt_of_succ_lt hk
  have e:=List.getElem?_eq_getElem q
  refine hc _ (tg h0 hc hl k q) _ (by rw [Int.toNat_natCast];exact e) _ ?_ (by omega)
  unfold zy
  rw [hl k _ e hk,if_neg Bool.false_ne_true]
  exact List.mem_append_left _ (List.mem_append_left _ (by rw [List.mem_singleton];omega))
theorem HZ(hu:At Z u D.o)(hc:At Z D.co (.lst (code.map (rv K))))(hl:code.length<4000){pc:Nat}(e:code[pc]?=some r)(Mn:r.1≠58):run (d+1) "is_idle" [.ref u,.ref f,.int (pc:Nat)] Z=some (.bool false,Z):=by
 have er:=qu (K:=K) (k:=(pc:Nat)) e (Int.natCast_nonneg _) hl
 have ne:bf Z .NotEq (.int r.1) (.int 58)=some true:=congrArg (Option.map (!·)) (xq (Z:=Z) Mn)
 exact gF [eO hu,eO hc,eV er,eB ne] (by kernel_rfl)
noncomputable def j8(L:List Int):Nat->List CR->List SR
 | _,[]=>[]
 | n,r::l=>⟨r.1,r.2,(L[n]?).getD 0⟩::j8 L (n+1) l
theorem nh:∀(n:Nat)(l l':List CR),j8 L n (l++l')=j8 L n l++j8 L (n+l.length) l'
 | _,[],_=>rfl
 | n,r::l,l'=>by
  show _::j8 L (n+1) (l++l')=_
  rw [nh (n+1) l l',List.length_cons,Nat.add_right_comm,Nat.add_assoc];rfl
theorem hP:∀(n:Nat)(l:List CR),(j8 L n l).length=l.length
 | _,[]=>rfl
 | n,r::l=>congrArg (·+1) (hP (n+1) l)
noncomputable def km(u f rr pp:Nat)(w:Tw):Ms:=mk "clean_once" [("unit",.ref u),("live",.ref f),("rows",.ref rr),("places",.ref pp),("pc",w 0),("op",w 1),("arg",w 2)]
structure JF (aw:St) (u f rr pp:Nat) (E:Dc) (K:List CV) (L:List Int) (pre:List CR) (m:Ms) (Z:St):Prop where
 m:∃w,d4 w/\m=km u f rr pp w
 x:Ext aw Z
 f:At Z f (.bO E)
 r:At Z rr (.lst ((j8 L 0 pre).map (bh K)))
 p:At Z pp (.lst ((List.range pre.length).map dj))
theorem H0{op l:Int}{a:V}{pc:Nat}{R P:List V}(av:AV a)(nw:d4 w)(hf:At Z f (.bO E))(hr:At Z rr (.lst R))(hp:At Z pp (.lst P))(ne:pp≠rr/\f≠pp)(lp:P.length<aq)(lr:R.length<aq)(he:has E (pc:Nat)=true)
  (hi:run (d+3) "is_idle" [.ref u,.ref f,.int (pc:Nat)] (j6 Z pp P R)=some (.bool false,j6 Z pp P R)) (hl:run (d+3) "line_at" [.ref u,.int (pc:Nat)] (j6 Z pp P R)=some (.int l,j6 Z pp P R)):
  tn "clean_once" 1 (d+3) 39 (.tup [.int (pc:Nat),.tup [.int op,a]]) (km u f rr pp w) Z=some (.next,km u f rr pp (up (up (up w 0 (.int (pc:Nat))) 1 (.int op)) 2 a),(j6 Z pp P R).put rr (.lst (R++[r3 op a l]))):=by
 have NF:At (j6 Z pp P R) rr (.lst R):=hr.put ne.1.symm
 have b:=(j7 (hf.put (o':=.lst (P++[.int (R.length:Nat)])) ne.2) (pc:Nat)).trans (congrArg some he)
 cases av<;>exact gT [eN (nw 0),eN (nw 1),eN (nw 2),eO hp,eO hr,eO hp,eP lp,eB b,eC hi,eO NF,eC hl,eO NF,eP lr] (by kernel_rfl)
theorem JF.turn{rest:List CR}(hu:At aw u D.o)(hc:At aw D.co (.lst (code.map (rv K))))(n9:At aw D.li (.lst (L.map V.int)))(nb:aw.n<=rr/\aw.n<=pp/\pp≠rr/\f≠pp/\f≠rr)(hl:code.length<1000)(el:∀k,k<code.length->has E (k:Nat)=true)
  (e:code=pre++r::rest) (Mn:r.1≠58) (i:JF aw u f rr pp E K L pre m Z):∃m' J,tn "clean_once" 1 (d+3) 39 (.tup [.int (pre.length:Nat),rv K r]) m Z=some (.next,m',J)/\JF aw u f rr pp E K L (pre++[r]) m' J:=by
 refine aO (i.m) λw nw em=>?_
 subst em
 have lp:=(dR e hl).2
 have er:code[pre.length]?=some r:=by rw [e,List.getElem?_append_right (Nat.le_refl _),Nat.sub_self];rfl
 have C:Ext aw (j6 Z pp ((List.range pre.length).map dj) ((j8 L 0 pre).map (bh K))):=i.x.pu nb.2.1
 have NF:=i.r.put (j:=pp) (o':=.lst ((List.range pre.length).map dj++[.int (((j8 L 0 pre).map (bh K)).length:Nat)])) nb.2.2.1.symm
 have t:=H0 (d:=d) (op:=r.1) (AV.of K r.2) nw i.f i.r i.p ⟨nb.2.2.1,nb.2.2.2.1⟩ (by rw [List.length_map,List.length_range];exact Nat.lt_trans lp (by decide)) (by rw [List.length_map,hP];exact Nat.lt_trans lp (by decide))
  (el pre.length (by rw [e,List.length_append];exact Nat.lt_add_of_pos_right (Nat.succ_pos _))) (HZ (d:=d+2) (f:=f) (hu.x C) (hc.x C) (Nat.lt_trans hl (by decide)) er Mn) (vO (d:=d+2) (hu.x C) (n9.x C) (Nat.lt_trans lp (by decide)))
 refine ⟨_,_,t,⟨_,((nw.up 0 (fO _)).up 1 (fO _)).up 2 (Hg K _),rfl⟩,C.pu nb.1,(i.f.put nb.2.2.2.1).put nb.2.2.2.2,?_,?_⟩
 ·rw [nh,List.map_append,Nat.zero_add]
  exact At.self NF.lt _
 ·rw [List.length_append,List.length_singleton,List.range_succ,List.map_append]
  have:=At.self i.p.lt (.lst ((List.range pre.length).map dj++[.int (((j8 L 0 pre).map (bh K)).length:Nat)]))
  rw [List.length_map,hP] at this
  have h2:=this.put (o':=.lst ((j8 L 0 pre).map (bh K)++[r3 r.1 (r.2.v K) ((L[pre.length]?).getD 0)])) nb.2.2.1
  show At ((Z.put pp (.lst ((List.range pre.length).map dj++[.int (((j8 L 0 pre).map (bh K)).length:Nat)]))).put rr _) pp _
  rw [List.length_map,hP]
  exact h2
end
structure Cl (U:Ul) (h:Hd):Prop where
 hs:U.hs=[h]
 c:LC U.code h
 n:U.code.length<1000
 f:∀k r,U.code[k]?=some r->k+1<U.code.length->dZ r.1=false
 h:0<=h.s/\h.s<h.e/\h.e<U.code.length/\0<=h.t/\h.t<U.code.length
 j:∀r,r∈U.code->isJ r.1=true->∃k,r.2=.i k/\0<=k/\k<U.code.length
 l:U.L=[]\/U.L.length=U.code.length
section
variable{d:Nat}{Z:St}{u:Nat}{D:UD}{U:Ul}{h:Hd}
theorem jv{n:Nat}{k:Int}(h0:0<=k)(h1:k<n):nP (List.range n) k=k:=by
 unfold nP
 rw [List.getElem?_range (by lia)]
 exact Int.toNat_of_nonneg h0
theorem xG{n:Nat}(L:List Int):∀(i:Nat)(l:List CR),(∀r,r∈l->isJ r.1=true->∃k,r.2=.i k/\0<=k/\k<n)->(j8 L i l).map (nC (List.range n))=l
 | _,[],_=>rfl
 | i,r::l,h=>by
  show nC _ _::(j8 L (i+1) l).map _=_
  rw [xG L (i+1) l λx hx=>h x (List.mem_cons_of_mem _ hx)]
  congr 1
  unfold nC nA
  dsimp only
  cases hj:isJ r.1 with
  | false=>rw [if_neg Bool.false_ne_true]
  | true=>
   refine bJ (h r List.mem_cons_self hj) λk ek k0 k1=>?_
   rw [if_pos rfl,ek]
   dsimp only
   rw [jv k0 k1,<-ek]
theorem xH(L:List Int):∀(i:Nat)(l:List CR)(x:SR),x∈j8 L i l->∃r,r∈l/\x.op=r.1/\x.a=r.2
 | _,[],x,hx=>absurd hx List.not_mem_nil
 | i,r::l,x,hx=>by
  rcases List.mem_cons.mp (show x∈_::j8 L (i+1) l from hx) with e | hx
  ·exact ⟨r,List.mem_cons_self,e▸rfl,e▸rfl⟩
  ·exact aO (xH L (i+1) l x hx) λr' a b=>⟨r',List.mem_cons_of_mem _ a,b⟩
theorem oX(L:List Int):∀(i:Nat)(l:List CR),i+l.length=L.length->(j8 L i l).map (·.l)=L.drop i
 | i,[],e=>by rw [List.drop_of_length_le (show L.length<=i from Nat.le_of_eq e.symm)];rfl
 | i,r::l,e=>by
  have q:i<L.length:=by rw [<-e];exact Nat.lt_add_of_pos_right (Nat.succ_pos _)
  show (L[i]?).getD 0::(j8 L (i+1) l).map _=_
  rw [oX L (i+1) l (by rw [<-e,List.length_cons];lia),List.getElem?_eq_getElem q,List.drop_eq_getElem_cons q];rfl
theorem qx(a:UA Z u D U)(ak:Cl U h):∃J k M,run (d+4) "clean_once" [.ref u] Z=some (.ref k,J)/\Made Z D J k M U:=by
 have Mg:At Z D.ha (.lst [h.v]):=by have:=a.ha;rw [ak.hs] at this;exact this
 refine lZ (HX (d:=d) a.u a.co Mg ak.c ak.n) λao f E t1 C hf e0 ec=>?_
 have el:=tg e0 ec ak.f
 have f1:f<ao.n:=hf.lt
 have x2:Ext Z ((ao.alloc (.lst [])).alloc (.lst [])):=(C.al _).al _
 have i0:JF Z u f ao.n (ao.n+1) E U.K U.L [] (km u f ao.n (ao.n+1) w0) ((ao.alloc (.lst [])).alloc (.lst [])):=
  ⟨⟨_,BH,rfl⟩,x2,(hf.al _).al _,(ay _ _).al _,ay (ao.alloc (.lst [])) _⟩
 have nb:Z.n<=ao.n/\Z.n<=ao.n+1/\ao.n+1≠ao.n/\f≠ao.n+1/\f≠ao.n:=⟨C.n,Nat.le_succ_of_le C.n,Nat.succ_ne_self _,Nat.ne_of_lt (Nat.lt_succ_of_lt f1),Nat.ne_of_lt f1⟩
 obtain ⟨m',aF,l,i⟩:=xj (turn:=tn "clean_once" 1 (d+3) 39) (k:=D.co) (g:=rv U.K) (L:=U.code) (JF Z u f ao.n (ao.n+1) E U.K U.L) (λpre m J i=>(a.co.x i.x).e)
  (λpre r rest m J e i=>JF.turn a.u a.co a.li nb ak.n el e (ak.c.w r (by rw [e];exact List.mem_append_right _ List.mem_cons_self)).2 i) (Nat.lt_trans ak.n (by decide)) i0
 refine aO (i.m) λw nw em=>?_
 subst em
 have c1:cI gL (cL (d+3)) 40 (dz "clean_once" 1) (km u f ao.n (ao.n+1) w0) ((ao.alloc (.lst [])).alloc (.lst []))=some (.next,_,aF):=
  dw (n:=39) (by kernel_rfl) (show aG _=some (Src.kW D.co,(ao.alloc (.lst [])).alloc (.lst [])) from congrArg aG (gX (v:=.src (.kW D.co)) [eO (a.u.x x2),eO (a.co.x x2)] (by kernel_rfl))) (by kernel_rfl) l
 have lr:((j8 U.L 0 U.code).map (bh U.K)).length=U.code.length:=by rw [List.length_map,hP]
 have p3:At (aF.put (ao.n+1) (.lst ((List.range U.code.length).map dj++[.int (((j8 U.L 0 U.code).map (bh U.K)).length:Nat)]))) (ao.n+1) (.lst ((List.range (U.code.length+1)).map dj)):=by
  rw [List.range_succ,List.map_append,lr]
  exact At.self i.p.lt _
 have x3:Ext Z (aF.put (ao.n+1) (.lst ((List.range U.code.length).map dj++[.int (((j8 U.L 0 U.code).map (bh U.K)).length:Nat)]))):=i.x.pu nb.2.1
 have r3:=i.r.put (j:=ao.n+1) (o':=.lst ((List.range U.code.length).map dj++[.int (((j8 U.L 0 U.code).map (bh U.K)).length:Nat)])) nb.2.2.1.symm
 have f3:=i.f.put (j:=ao.n+1) (o':=.lst ((List.range U.code.length).map dj++[.int (((j8 U.L 0 U.code).map (bh U.K)).length:Nat)])) nb.2.2.2.1
 have ht:has E h.t=true:=by
  have:=el h.t.toNat (by have:=ak.h;lia)
  rw [Int.toNat_of_nonneg ak.h.2.2.2.1] at this;exact this
 have hp:((List.range U.code.length).map dj).length<aq:=by rw [List.length_map,List.length_range];exact Nat.lt_trans ak.n (by decide)
 have x4:=x3.al (.lst [h.v])
 have a4:=a.x x4
 obtain ⟨aT,t3,M⟩:=oU (d:=d) (hs:=[h]) a4.u a4.pa a4.cn a4.un a4.ca a4.pp a4.li (r3.al _) (p3.al _) (ay _ (.lst [h.v])) (by rw [List.length_range];have:=ak.n;lia) (by rw [hP];have:=ak.n;lia) (by show 1<_;decide)
  (λx hx=>by
   refine bJ (xH _ _ _ _ hx) λr hr e1 e2=>?_
   refine ⟨by rw [e1];exact (ak.c.w r hr).1.o,λhj=>?_⟩
   rw [e1] at hj
   refine bJ (ak.j r hr hj) λk ek k0 k1=>?_
   exact ⟨k,by rw [e2,ek],k0,by rw [List.length_range];lia⟩)
  (λx hx=>by
   rw [List.mem_singleton] at hx
   subst hx
   refine J5 (ak.h) λh1 h2 h3 h4 h5=>?_
   exact ⟨⟨h1,by rw [List.length_range];lia⟩,⟨by lia,by rw [List.length_range];lia⟩,⟨h4,by rw [List.length_range];lia⟩⟩)
 have eh:([h].flatMap (nH (List.range (U.code.length+1)))).map Hd.v=U.hs.map Hd.v:=by
  refine J5 (ak.h) λh1 h2 h3 h4 h5=>?_
  rw [ak.hs]
  unfold nH
  rw [List.flatMap_cons,List.flatMap_nil,jv h1 (by lia),jv (by lia) (by lia),jv h4 (by lia),if_pos h2];rfl
 have eL:vQ U.L (j8 U.L 0 U.code)=U.L.map V.int:=by
  rw [xC]
  congr 1
  rcases ak.l with e | e
  ·rw [e];rfl
  ·rw [oX U.L 0 U.code (by rw [Nat.zero_add,e]),List.drop_zero]
   cases U.L<;>rfl
 have Vk:(j8 U.L 0 U.code).map (λx=>rv U.K (nC (List.range (U.code.length+1)) x))=U.code.map (rv U.K):=by
  have:=xG (n:=U.code.length+1) U.L 0 U.code λr hr hj=>by
   refine bJ (ak.j r hr hj) λk ek k0 k1=>?_
   exact ⟨k,ek,k0,by lia⟩
  exact (List.map_map (l:=j8 U.L 0 U.code) (g:=rv U.K) (f:=nC (List.range (U.code.length+1)))).symm.trans (congrArg _ this)
 rw [eh,eL,Vk] at M
 have g:∀{n:Nat} i,Nat.beq i 1=false->n+i≠n+1:=λi h=>b9 _ h
 have z:(0:Nat)<=aq:=Nat.zero_le _
 have b:=(j7 f3 h.t).trans (congrArg some ht)
 have WE:Z.n<=(aF.put (ao.n+1) (.lst ((List.range U.code.length).map dj++[.int (((j8 U.L 0 U.code).map (bh U.K)).length:Nat)]))).n+1:=Nat.le_succ_of_le x3.n
 exact ⟨aT,_,_,gF [eC t1,eP z,eP z,eY c1,eO i.p,eO i.r,eO i.p,eP hp,eO (a.u.x x3),eO (Mg.x x3),eB b,eO (Mg.x x3),eC t3] (by kernel_rfl),x4.trans M.x,
  ⟨M.m,M.pa,M.cn,M.co,M.un,M.ha,M.li,M.ca,M.pp,⟨g 0 rfl,g 9 rfl,g 2 rfl,g 10 rfl,g 5 rfl,g 6 rfl,g 11 rfl,g 12 rfl⟩⟩,gy.cp _ _,⟨Nat.le_trans x4.n (Nat.le_succ _),x4.n,Nat.le_trans x4.n (Nat.le_add_right _ _)⟩,⟨Nat.le_trans x4.n (Nat.le_add_right _ _),Nat.le_trans x4.n (Nat.le_add_right _ _),Nat.le_trans x4.n (Nat.le_add_right _ _),Nat.le_trans x4.n (Nat.le_add_right _ _),Nat.le_trans x4.n (Nat.le_add_right _ _),Nat.le_trans x4.n (Nat.le_add_right _ _)⟩⟩
theorem g8(a:UA Z u D U)(ak:Cl U h):∃J k M,run (d+5) "clean_one" [.ref u] Z=some (.ref k,J)/\Made Z D J k M U:=by
 refine rp (qx (d:=d) a ak) λJ k M t m=>?_
 have b:bf J .Lt (.int ((U.code.map (rv U.K)).length:Nat)) (.int ((U.code.map (rv U.K)).length:Nat))=some false:=mW (Int.lt_irrefl _)
 have ht:ki gL (cL (d+4)) 39 (dQ (dz "clean_one" 1)) (mk "clean_one" [("unit",.ref u),("made",.ref k)]) J=some (false,J):=gQ [eO m.a.u,eO m.a.co,eO (a.u.x m.x),eO (a.co.x m.x),eB b] (by kernel_rfl)
 exact ⟨J,k,M,gF [eC t,eY (lD (n:=39) (by kernel_rfl) ht)] (by kernel_rfl),m⟩
end
inductive Aw where
 | no
 | i (k:Int)
 | c (x:CV)
 | t (j:Nat)
 | e
structure Wd where
 op:Int
 a:Aw
noncomputable def bj(b s:Int)(w:Wd):CR:=(w.op,match w.a with | .no=>.no | .i k=>.i k | .c x=>.c x | .t j=>.i (b+(j:Nat)) | .e=>.i (b+s))
def Ar.val:Ar->V
 | .no=>.none
 | .i k=>.int k
 | .c x=>x.v
def vr(r:CR):V:=.tup [.int r.1,r.2.val]
noncomputable def Mp(tx:Str)(b s:Int)(f:Nat)(w:Tw):Ms:=mk "_law_rows" [("text",.str tx),("base",.int b),("size",.int s),("found",.ref f),("word",w 0),("sign",w 1),("rest",w 2),("info",w 3),("spot",w 4)]
noncomputable def gG(t:Str)(w:Wd):Prop:=∀(d:Nat)(Z:St)(f:Nat)(acc:List V)(b s:Int)(tx:Str)(W:Tw),d4 W->At Z f (.lst acc)->acc.length<aq->
 ∃W' J,d4 W'/\tn "_law_rows" 1 (d+6) 39 (.str t) (Mp tx b s f W) Z=some (.next,Mp tx b s f W',J)/\bp f Z J/\At J f (.lst (acc++[vr (bj b s w)]))
theorem Fv(x:Str):V.str x≠ .qQ:=λe=>by cases e
def fF(W:Tw)(a b c:Str):Tw:=up (up (up W 0 (.str a)) 1 (.str b)) 2 (.str c)
theorem d4.fF{W:Tw}(n:d4 W)(a b c:Str):d4 (Mine.fF W a b c):=((n.up 0 (Fv _)).up 1 (Fv _)).up 2 (Fv _)
def lF:af:=.EJ [("L",.int 11),("S",.int 12),("D",.int 21),("P",.int 23)]
def qU:af:=.lst [.str "p",.str "q"]
section
variable(d:Nat)(Z:St)
theorem Qw:run (d+6) "from_int" [.int 1] Z=some (c1.v,Z):=by kernel_rfl
theorem Qx:run (d+6) "from_int" [.int 2] Z=some (c2.v,Z):=by kernel_rfl
theorem Vl:run (d+6) "from_int" [.int 3] Z=some (c3.v,Z):=by kernel_rfl
theorem Vm:run (d+6) "from_int" [.int 4] Z=some (c4.v,Z):=by kernel_rfl
end
theorem SE:gG "0" ⟨0,.no⟩:=λd Z f acc b s tx W n hf l=>⟨_,_,n.fF "0" "0" "",gT [eN (n 0),eN (n 1),eN (n 2),eO hf,eO hf,eP l] (by kernel_rfl),(bp.refl _ _).fR,At.self hf.lt _⟩
theorem CY:gG "1" ⟨1,.no⟩:=λd Z f acc b s tx W n hf l=>⟨_,_,n.fF "1" "1" "",gT [eN (n 0),eN (n 1),eN (n 2),eO hf,eO hf,eP l] (by kernel_rfl),(bp.refl _ _).fR,At.self hf.lt _⟩
theorem Qy:gG "2" ⟨2,.no⟩:=λd Z f acc b s tx W n hf l=>⟨_,_,n.fF "2" "2" "",gT [eN (n 0),eN (n 1),eN (n 2),eO hf,eO hf,eP l] (by kernel_rfl),(bp.refl _ _).fR,At.self hf.lt _⟩
theorem Vn:gG "3" ⟨3,.no⟩:=λd Z f acc b s tx W n hf l=>⟨_,_,n.fF "3" "3" "",gT [eN (n 0),eN (n 1),eN (n 2),eO hf,eO hf,eP l] (by kernel_rfl),(bp.refl _ _).fR,At.self hf.lt _⟩
theorem BX:gG "30" ⟨30,.no⟩:=λd Z f acc b s tx W n hf l=>⟨_,_,n.fF "30" "3" "0",gT [eN (n 0),eN (n 1),eN (n 2),eO hf,eO hf,eP l] (by kernel_rfl),(bp.refl _ _).fR,At.self hf.lt _⟩
theorem Mq:gG "31" ⟨31,.no⟩:=λd Z f acc b s tx W n hf l=>⟨_,_,n.fF "31" "3" "1",gT [eN (n 0),eN (n 1),eN (n 2),eO hf,eO hf,eP l] (by kernel_rfl),(bp.refl _ _).fR,At.self hf.lt _⟩
theorem Qz:gG "32" ⟨32,.no⟩:=λd Z f acc b s tx W n hf l=>⟨_,_,n.fF "32" "3" "2",gT [eN (n 0),eN (n 1),eN (n 2),eO hf,eO hf,eP l] (by kernel_rfl),(bp.refl _ _).fR,At.self hf.lt _⟩
theorem Mr:gG "41" ⟨41,.no⟩:=λd Z f acc b s tx W n hf l=>⟨_,_,n.fF "41" "4" "1",gT [eN (n 0),eN (n 1),eN (n 2),eO hf,eO hf,eP l] (by kernel_rfl),(bp.refl _ _).fR,At.self hf.lt _⟩
theorem Mv:gG "45" ⟨45,.no⟩:=λd Z f acc b s tx W n hf l=>⟨_,_,n.fF "45" "4" "5",gT [eN (n 0),eN (n 1),eN (n 2),eO hf,eO hf,eP l] (by kernel_rfl),(bp.refl _ _).fR,At.self hf.lt _⟩
theorem Mw:gG "51" ⟨51,.no⟩:=λd Z f acc b s tx W n hf l=>⟨_,_,n.fF "51" "5" "1",gT [eN (n 0),eN (n 1),eN (n 2),eO hf,eO hf,eP l] (by kernel_rfl),(bp.refl _ _).fR,At.self hf.lt _⟩
theorem Ec:gG "53" ⟨53,.no⟩:=λd Z f acc b s tx W n hf l=>⟨_,_,n.fF "53" "5" "3",gT [eN (n 0),eN (n 1),eN (n 2),eO hf,eO hf,eP l] (by kernel_rfl),(bp.refl _ _).fR,At.self hf.lt _⟩
theorem QA:gG "55" ⟨55,.no⟩:=λd Z f acc b s tx W n hf l=>⟨_,_,n.fF "55" "5" "5",gT [eN (n 0),eN (n 1),eN (n 2),eO hf,eO hf,eP l] (by kernel_rfl),(bp.refl _ _).fR,At.self hf.lt _⟩
theorem xI:gG "58t-1" ⟨58,.e⟩:=λd Z f acc b s tx W n hf l=>⟨_,_,(n.fF "58t-1" "5" "8t-1").up 4 (fO (-1)),gT [eN (n 0),eN (n 1),eN (n 2),eO (ay Z (.lst [.str "58",.str "-1"])),eN (n 4),eO (hf.al (.lst [.str "58",.str "-1"])),eO (ay (Z.alloc (.lst [.str "58",.str "-1"])) (.lst [.str "58",.str "-1"])),eO ((hf.al (.lst [.str "58",.str "-1"])).al (.lst [.str "58",.str "-1"])),eP l] (by kernel_rfl),(((bp.refl _ _).al (.lst [.str "58",.str "-1"])).al (.lst [.str "58",.str "-1"])).fR,At.self ((hf.al (.lst [.str "58",.str "-1"])).al (.lst [.str "58",.str "-1"])).lt _⟩
theorem BY:gG "58t3" ⟨58,.t 3⟩:=λd Z f acc b s tx W n hf l=>⟨_,_,(n.fF "58t3" "5" "8t3").up 4 (fO (3)),gT [eN (n 0),eN (n 1),eN (n 2),eO (ay Z (.lst [.str "58",.str "3"])),eN (n 4),eO (hf.al (.lst [.str "58",.str "3"])),eO (ay (Z.alloc (.lst [.str "58",.str "3"])) (.lst [.str "58",.str "3"])),eO ((hf.al (.lst [.str "58",.str "3"])).al (.lst [.str "58",.str "3"])),eP l] (by kernel_rfl),(((bp.refl _ _).al (.lst [.str "58",.str "3"])).al (.lst [.str "58",.str "3"])).fR,At.self ((hf.al (.lst [.str "58",.str "3"])).al (.lst [.str "58",.str "3"])).lt _⟩
theorem hU:gG "59t-1" ⟨59,.e⟩:=λd Z f acc b s tx W n hf l=>⟨_,_,(n.fF "59t-1" "5" "9t-1").up 4 (fO (-1)),gT [eN (n 0),eN (n 1),eN (n 2),eO (ay Z (.lst [.str "59",.str "-1"])),eN (n 4),eO (hf.al (.lst [.str "59",.str "-1"])),eO (ay (Z.alloc (.lst [.str "59",.str "-1"])) (.lst [.str "59",.str "-1"])),eO ((hf.al (.lst [.str "59",.str "-1"])).al (.lst [.str "59",.str "-1"])),eP l] (by kernel_rfl),(((bp.refl _ _).al (.lst [.str "59",.str "-1"])).al (.lst [.str "59",.str "-1"])).fR,At.self ((hf.al (.lst [.str "59",.str "-1"])).al (.lst [.str "59",.str "-1"])).lt _⟩
theorem iW:gG "6" ⟨6,.no⟩:=λd Z f acc b s tx W n hf l=>⟨_,_,n.fF "6" "6" "",gT [eN (n 0),eN (n 1),eN (n 2),eO hf,eO hf,eP l] (by kernel_rfl),(bp.refl _ _).fR,At.self hf.lt _⟩
theorem xJ:gG "60t-1" ⟨60,.e⟩:=λd Z f acc b s tx W n hf l=>⟨_,_,(n.fF "60t-1" "6" "0t-1").up 4 (fO (-1)),gT [eN (n 0),eN (n 1),eN (n 2),eO (ay Z (.lst [.str "60",.str "-1"])),eN (n 4),eO (hf.al (.lst [.str "60",.str "-1"])),eO (ay (Z.alloc (.lst [.str "60",.str "-1"])) (.lst [.str "60",.str "-1"])),eO ((hf.al (.lst [.str "60",.str "-1"])).al (.lst [.str "60",.str "-1"])),eP l] (by kernel_rfl),(((bp.refl _ _).al (.lst [.str "60",.str "-1"])).al (.lst [.str "60",.str "-1"])).fR,At.self ((hf.al (.lst [.str "60",.str "-1"])).al (.lst [.str "60",.str "-1"])).lt _⟩
theorem H3:gG "61t3" ⟨61,.t 3⟩:=λd Z f acc b s tx W n hf l=>⟨_,_,(n.fF "61t3" "6" "1t3").up 4 (fO (3)),gT [eN (n 0),eN (n 1),eN (n 2),eO (ay Z (.lst [.str "61",.str "3"])),eN (n 4),eO (hf.al (.lst [.str "61",.str "3"])),eO (ay (Z.alloc (.lst [.str "61",.str "3"])) (.lst [.str "61",.str "3"])),eO ((hf.al (.lst [.str "61",.str "3"])).al (.lst [.str "61",.str "3"])),eP l] (by kernel_rfl),(((bp.refl _ _).al (.lst [.str "61",.str "3"])).al (.lst [.str "61",.str "3"])).fR,At.self ((hf.al (.lst [.str "61",.str "3"])).al (.lst [.str "61",.str "3"])).lt _⟩
theorem BZ:gG "61t4" ⟨61,.t 4⟩:=λd Z f acc b s tx W n hf l=>⟨_,_,(n.fF "61t4" "6" "1t4").up 4 (fO (4)),gT [eN (n 0),eN (n 1),eN (n 2),eO (ay Z (.lst [.str "61",.str "4"])),eN (n 4),eO (hf.al (.lst [.str "61",.str "4"])),eO (ay (Z.alloc (.lst [.str "61",.str "4"])) (.lst [.str "61",.str "4"])),eO ((hf.al (.lst [.str "61",.str "4"])).al (.lst [.str "61",.str "4"])),eP l] (by kernel_rfl),(((bp.refl _ _).al (.lst [.str "61",.str "4"])).al (.lst [.str "61",.str "4"])).fR,At.self ((hf.al (.lst [.str "61",.str "4"])).al (.lst [.str "61",.str "4"])).lt _⟩
theorem B0:gG "62t3" ⟨62,.t 3⟩:=λd Z f acc b s tx W n hf l=>⟨_,_,(n.fF "62t3" "6" "2t3").up 4 (fO (3)),gT [eN (n 0),eN (n 1),eN (n 2),eO (ay Z (.lst [.str "62",.str "3"])),eN (n 4),eO (hf.al (.lst [.str "62",.str "3"])),eO (ay (Z.alloc (.lst [.str "62",.str "3"])) (.lst [.str "62",.str "3"])),eO ((hf.al (.lst [.str "62",.str "3"])).al (.lst [.str "62",.str "3"])),eP l] (by kernel_rfl),(((bp.refl _ _).al (.lst [.str "62",.str "3"])).al (.lst [.str "62",.str "3"])).fR,At.self ((hf.al (.lst [.str "62",.str "3"])).al (.lst [.str "62",.str "3"])).lt _⟩
theorem Vo:gG "7" ⟨7,.no⟩:=λd Z f acc b s tx W n hf l=>⟨_,_,n.fF "7" "7" "",gT [eN (n 0),eN (n 1),eN (n 2),eO hf,eO hf,eP l] (by kernel_rfl),(bp.refl _ _).fR,At.self hf.lt _⟩
theorem Vp:gG "8" ⟨8,.no⟩:=λd Z f acc b s tx W n hf l=>⟨_,_,n.fF "8" "8" "",gT [eN (n 0),eN (n 1),eN (n 2),eO hf,eO hf,eP l] (by kernel_rfl),(bp.refl _ _).fR,At.self hf.lt _⟩
theorem Vq:gG "9" ⟨9,.no⟩:=λd Z f acc b s tx W n hf l=>⟨_,_,n.fF "9" "9" "",gT [eN (n 0),eN (n 1),eN (n 2),eO hf,eO hf,eP l] (by kernel_rfl),(bp.refl _ _).fR,At.self hf.lt _⟩
theorem iO:gG "C1" ⟨4,.c c1⟩:=λd Z f acc b s tx W n hf l=>⟨_,_,n.fF "C1" "C" "1",gT [eN (n 0),eN (n 1),eN (n 2),eO hf,eC (Qw d Z),eO hf,eP l] (by kernel_rfl),(bp.refl _ _).fR,At.self hf.lt _⟩
theorem zA:gG "C2" ⟨4,.c c2⟩:=λd Z f acc b s tx W n hf l=>⟨_,_,n.fF "C2" "C" "2",gT [eN (n 0),eN (n 1),eN (n 2),eO hf,eC (Qx d Z),eO hf,eP l] (by kernel_rfl),(bp.refl _ _).fR,At.self hf.lt _⟩
theorem H4:gG "C3" ⟨4,.c c3⟩:=λd Z f acc b s tx W n hf l=>⟨_,_,n.fF "C3" "C" "3",gT [eN (n 0),eN (n 1),eN (n 2),eO hf,eC (Vl d Z),eO hf,eP l] (by kernel_rfl),(bp.refl _ _).fR,At.self hf.lt _⟩
theorem QB:gG "C4" ⟨4,.c c4⟩:=λd Z f acc b s tx W n hf l=>⟨_,_,n.fF "C4" "C" "4",gT [eN (n 0),eN (n 1),eN (n 2),eO hf,eC (Vm d Z),eO hf,eP l] (by kernel_rfl),(bp.refl _ _).fR,At.self hf.lt _⟩
theorem tj:gG "D0" ⟨21,.c (.s "p")⟩:=λd Z f acc b s tx W n hf l=>⟨_,_,(n.fF "D0" "D" "0").up 3 (Fv "p"),gT [eN (n 0),eN (n 1),eN (n 2),eP (p:=2<=aq) (by decide),eO (ay Z qU),eN (n 3),eO (hf.al qU),eO (ay (Z.alloc qU) lF),eO ((hf.al qU).al lF),eP l] (by kernel_rfl),(((bp.refl _ _).al qU).al lF).fR,At.self ((hf.al qU).al lF).lt _⟩
theorem Ed:gG "D1" ⟨21,.c (.s "q")⟩:=λd Z f acc b s tx W n hf l=>⟨_,_,(n.fF "D1" "D" "1").up 3 (Fv "q"),gT [eN (n 0),eN (n 1),eN (n 2),eP (p:=2<=aq) (by decide),eO (ay Z qU),eN (n 3),eO (hf.al qU),eO (ay (Z.alloc qU) lF),eO ((hf.al qU).al lF),eP l] (by kernel_rfl),(((bp.refl _ _).al qU).al lF).fR,At.self ((hf.al qU).al lF).lt _⟩
theorem oe:gG "L0" ⟨11,.i 0⟩:=λd Z f acc b s tx W n hf l=>⟨_,_,(n.fF "L0" "L" "0").up 3 (fO 0),gT [eN (n 0),eN (n 1),eN (n 2),eN (n 3),eO hf,eO (ay Z lF),eO (hf.al lF),eP l] (by kernel_rfl),((bp.refl _ _).al lF).fR,At.self (hf.al lF).lt _⟩
theorem Mx:gG "P0" ⟨23,.c (.s "p")⟩:=λd Z f acc b s tx W n hf l=>⟨_,_,(n.fF "P0" "P" "0").up 3 (Fv "p"),gT [eN (n 0),eN (n 1),eN (n 2),eP (p:=2<=aq) (by decide),eO (ay Z qU),eN (n 3),eO (hf.al qU),eO (ay (Z.alloc qU) lF),eO ((hf.al qU).al lF),eP l] (by kernel_rfl),(((bp.refl _ _).al qU).al lF).fR,At.self ((hf.al qU).al lF).lt _⟩
theorem Ee:gG "S0" ⟨12,.i 0⟩:=λd Z f acc b s tx W n hf l=>⟨_,_,(n.fF "S0" "S" "0").up 3 (fO 0),gT [eN (n 0),eN (n 1),eN (n 2),eN (n 3),eO hf,eO (ay Z lF),eO (hf.al lF),eP l] (by kernel_rfl),((bp.refl _ _).al lF).fR,At.self (hf.al lF).lt _⟩
theorem My:gG "S1" ⟨12,.i 1⟩:=λd Z f acc b s tx W n hf l=>⟨_,_,(n.fF "S1" "S" "1").up 3 (fO 1),gT [eN (n 0),eN (n 1),eN (n 2),eN (n 3),eO hf,eO (ay Z lF),eO (hf.al lF),eP l] (by kernel_rfl),((bp.refl _ _).al lF).fR,At.self (hf.al lF).lt _⟩
theorem Mz:gG "T0" ⟨4,.c (.s "t0")⟩:=λd Z f acc b s tx W n hf l=>⟨_,_,n.fF "T0" "T" "0",gT [eN (n 0),eN (n 1),eN (n 2),eO hf,eO hf,eP l] (by kernel_rfl),(bp.refl _ _).fR,At.self hf.lt _⟩
theorem Vr:gG "U" ⟨4,.c (.s "undefined")⟩:=λd Z f acc b s tx W n hf l=>⟨_,_,n.fF "U" "U" "",gT [eN (n 0),eN (n 1),eN (n 2),eO hf,eO hf,eP l] (by kernel_rfl),(bp.refl _ _).fR,At.self hf.lt _⟩
def tq{α:Type}(P:α->Prop):List α->Prop
 | []=>True
 | x::l=>P x/\tq P l
theorem tq.of{α:Type}{P:α->Prop}:∀{l:List α},tq P l->∀x,x∈l->P x
 | [],_,_,hz=>absurd hz List.not_mem_nil
 | y::l,a,x,h=>by
  cases h with
  | head=>exact a.1
  | tail _ h=>exact a.2.of x h
abbrev Tx:=List (Str×Wd)
structure Pc where
 tb:Str
 wb:Tx
 ta:Str
 wa:Tx
def QC(p:Str×Wd):Prop:=gG p.1 p.2
structure QD (t:Str) (ws:Tx):Prop where
 s:∀(d:Nat)(Z:St)(b s:Int)(f:Nat),aG (i8 gL (cL (d+6)) 39 (dQ (dz "_law_rows" 1)) (Mp t b s f w0) Z)=some (.lst Z.n,Z.alloc (.lst (ws.map λp=>.str p.1)))
 w:tq QC ws
noncomputable def cZ:List Pc:=[⟨"C2 C3 30 6",[("C2",⟨4,.c c2⟩),("C3",⟨4,.c c3⟩),("30",⟨30,.no⟩),("6",⟨6,.no⟩)],"",[]⟩,
 ⟨"L0 6",[("L0",⟨11,.i 0⟩),("6",⟨6,.no⟩)],"L0 6",[("L0",⟨11,.i 0⟩),("6",⟨6,.no⟩)]⟩,
 ⟨"C2 7 32 S0 6",[("C2",⟨4,.c c2⟩),("7",⟨7,.no⟩),("32",⟨32,.no⟩),("S0",⟨12,.i 0⟩),("6",⟨6,.no⟩)],"C4 S0 6",[("C4",⟨4,.c c4⟩),("S0",⟨12,.i 0⟩),("6",⟨6,.no⟩)]⟩,
 ⟨"C1 C2 8 31 6 6 6",[("C1",⟨4,.c c1⟩),("C2",⟨4,.c c2⟩),("8",⟨8,.no⟩),("31",⟨31,.no⟩),("6",⟨6,.no⟩),("6",⟨6,.no⟩),("6",⟨6,.no⟩)],"",[]⟩,
 ⟨"C1 C2 9 31 S1 6",[("C1",⟨4,.c c1⟩),("C2",⟨4,.c c2⟩),("9",⟨9,.no⟩),("31",⟨31,.no⟩),("S1",⟨12,.i 1⟩),("6",⟨6,.no⟩)],"C1 S1 6",[("C1",⟨4,.c c1⟩),("S1",⟨12,.i 1⟩),("6",⟨6,.no⟩)]⟩,
 ⟨"L0 53 59t-1 D0",[("L0",⟨11,.i 0⟩),("53",⟨53,.no⟩),("59t-1",⟨59,.e⟩),("D0",⟨21,.c (.s "p")⟩)],"L0 60t-1 D0",[("L0",⟨11,.i 0⟩),("60t-1",⟨60,.e⟩),("D0",⟨21,.c (.s "p")⟩)]⟩,
 ⟨"L0 53 60t-1 D0",[("L0",⟨11,.i 0⟩),("53",⟨53,.no⟩),("60t-1",⟨60,.e⟩),("D0",⟨21,.c (.s "p")⟩)],"L0 59t-1 D0",[("L0",⟨11,.i 0⟩),("59t-1",⟨59,.e⟩),("D0",⟨21,.c (.s "p")⟩)]⟩,
 ⟨"2 59t-1 D1",[("2",⟨2,.no⟩),("59t-1",⟨59,.e⟩),("D1",⟨21,.c (.s "q")⟩)],"D1",[("D1",⟨21,.c (.s "q")⟩)]⟩,
 ⟨"3 59t-1 D1",[("3",⟨3,.no⟩),("59t-1",⟨59,.e⟩),("D1",⟨21,.c (.s "q")⟩)],"58t-1 D1",[("58t-1",⟨58,.e⟩),("D1",⟨21,.c (.s "q")⟩)]⟩,
 ⟨"0 62t3 1 6",[("0",⟨0,.no⟩),("62t3",⟨62,.t 3⟩),("1",⟨1,.no⟩),("6",⟨6,.no⟩)],"1 6",[("1",⟨1,.no⟩),("6",⟨6,.no⟩)]⟩,
 ⟨"C1 62t3 1 6",[("C1",⟨4,.c c1⟩),("62t3",⟨62,.t 3⟩),("1",⟨1,.no⟩),("6",⟨6,.no⟩)],"C1 58t3 1 6",[("C1",⟨4,.c c1⟩),("58t3",⟨58,.t 3⟩),("1",⟨1,.no⟩),("6",⟨6,.no⟩)]⟩,
 ⟨"1 61t3 1 6",[("1",⟨1,.no⟩),("61t3",⟨61,.t 3⟩),("1",⟨1,.no⟩),("6",⟨6,.no⟩)],"1 58t3 1 6",[("1",⟨1,.no⟩),("58t3",⟨58,.t 3⟩),("1",⟨1,.no⟩),("6",⟨6,.no⟩)]⟩,
 ⟨"L0 C1 30 6",[("L0",⟨11,.i 0⟩),("C1",⟨4,.c c1⟩),("30",⟨30,.no⟩),("6",⟨6,.no⟩)],"L0 C1 30 6",[("L0",⟨11,.i 0⟩),("C1",⟨4,.c c1⟩),("30",⟨30,.no⟩),("6",⟨6,.no⟩)]⟩,
 ⟨"C1 P0 6",[("C1",⟨4,.c c1⟩),("P0",⟨23,.c (.s "p")⟩),("6",⟨6,.no⟩)],"C1 P0 6",[("C1",⟨4,.c c1⟩),("P0",⟨23,.c (.s "p")⟩),("6",⟨6,.no⟩)]⟩,
 ⟨"C1 C2 41 6",[("C1",⟨4,.c c1⟩),("C2",⟨4,.c c2⟩),("41",⟨41,.no⟩),("6",⟨6,.no⟩)],"C1 C2 41 6",[("C1",⟨4,.c c1⟩),("C2",⟨4,.c c2⟩),("41",⟨41,.no⟩),("6",⟨6,.no⟩)]⟩,
 ⟨"T0 C1 30 6",[("T0",⟨4,.c (.s "t0")⟩),("C1",⟨4,.c c1⟩),("30",⟨30,.no⟩),("6",⟨6,.no⟩)],"T0 C1 30 6",[("T0",⟨4,.c (.s "t0")⟩),("C1",⟨4,.c c1⟩),("30",⟨30,.no⟩),("6",⟨6,.no⟩)]⟩,
 ⟨"0 55 S0 6",[("0",⟨0,.no⟩),("55",⟨55,.no⟩),("S0",⟨12,.i 0⟩),("6",⟨6,.no⟩)],"U S0 6",[("U",⟨4,.c (.s "undefined")⟩),("S0",⟨12,.i 0⟩),("6",⟨6,.no⟩)]⟩,
 ⟨"2 51 6",[("2",⟨2,.no⟩),("51",⟨51,.no⟩),("6",⟨6,.no⟩)],"2 51 6",[("2",⟨2,.no⟩),("51",⟨51,.no⟩),("6",⟨6,.no⟩)]⟩,
 ⟨"L0 53 61t4 1 6",[("L0",⟨11,.i 0⟩),("53",⟨53,.no⟩),("61t4",⟨61,.t 4⟩),("1",⟨1,.no⟩),("6",⟨6,.no⟩)],"L0 53 61t4 1 6",[("L0",⟨11,.i 0⟩),("53",⟨53,.no⟩),("61t4",⟨61,.t 4⟩),("1",⟨1,.no⟩),("6",⟨6,.no⟩)]⟩,
 ⟨"C1 C3 45 59t-1 D0",[("C1",⟨4,.c c1⟩),("C3",⟨4,.c c3⟩),("45",⟨45,.no⟩),("59t-1",⟨59,.e⟩),("D0",⟨21,.c (.s "p")⟩)],"D0",[("D0",⟨21,.c (.s "p")⟩)]⟩,
 ⟨"C3 C1 45 59t-1 D0",[("C3",⟨4,.c c3⟩),("C1",⟨4,.c c1⟩),("45",⟨45,.no⟩),("59t-1",⟨59,.e⟩),("D0",⟨21,.c (.s "p")⟩)],"58t-1 D0",[("58t-1",⟨58,.e⟩),("D0",⟨21,.c (.s "p")⟩)]⟩]
structure QE (p:Pc):Prop where
 b:QD p.tb p.wb
 a:QD p.ta p.wa
theorem H5:tq QE cZ:=⟨⟨⟨λd Z b s f=>congrArg aG (gX (v:=.val (.ref Z.n)) [] (by kernel_rfl)),⟨zA,H4,BX,iW,trivial⟩⟩,⟨λd Z b s f=>congrArg aG (gX (v:=.val (.ref Z.n)) [eP (p:=0<=aq) (Nat.zero_le _)] (by kernel_rfl)),trivial⟩⟩,
 ⟨⟨λd Z b s f=>congrArg aG (gX (v:=.val (.ref Z.n)) [] (by kernel_rfl)),⟨oe,iW,trivial⟩⟩,⟨λd Z b s f=>congrArg aG (gX (v:=.val (.ref Z.n)) [] (by kernel_rfl)),⟨oe,iW,trivial⟩⟩⟩,
 ⟨⟨λd Z b s f=>congrArg aG (gX (v:=.val (.ref Z.n)) [] (by kernel_rfl)),⟨zA,Vo,Qz,Ee,iW,trivial⟩⟩,⟨λd Z b s f=>congrArg aG (gX (v:=.val (.ref Z.n)) [] (by kernel_rfl)),⟨QB,Ee,iW,trivial⟩⟩⟩,
 ⟨⟨λd Z b s f=>congrArg aG (gX (v:=.val (.ref Z.n)) [] (by kernel_rfl)),⟨iO,zA,Vp,Mq,iW,iW,iW,trivial⟩⟩,⟨λd Z b s f=>congrArg aG (gX (v:=.val (.ref Z.n)) [eP (p:=0<=aq) (Nat.zero_le _)] (by kernel_rfl)),trivial⟩⟩,
 ⟨⟨λd Z b s f=>congrArg aG (gX (v:=.val (.ref Z.n)) [] (by kernel_rfl)),⟨iO,zA,Vq,Mq,My,iW,trivial⟩⟩,⟨λd Z b s f=>congrArg aG (gX (v:=.val (.ref Z.n)) [] (by kernel_rfl)),⟨iO,My,iW,trivial⟩⟩⟩,
 ⟨⟨λd Z b s f=>congrArg aG (gX (v:=.val (.ref Z.n)) [] (by kernel_rfl)),⟨oe,Ec,hU,tj,trivial⟩⟩,⟨λd Z b s f=>congrArg aG (gX (v:=.val (.ref Z.n)) [] (by kernel_rfl)),⟨oe,xJ,tj,trivial⟩⟩⟩,
 ⟨⟨λd Z b s f=>congrArg aG (gX (v:=.val (.ref Z.n)) [] (by kernel_rfl)),⟨oe,Ec,xJ,tj,trivial⟩⟩,⟨λd Z b s f=>congrArg aG (gX (v:=.val (.ref Z.n)) [] (by kernel_rfl)),⟨oe,hU,tj,trivial⟩⟩⟩,
 ⟨⟨λd Z b s f=>congrArg aG (gX (v:=.val (.ref Z.n)) [] (by kernel_rfl)),⟨Qy,hU,Ed,trivial⟩⟩,⟨λd Z b s f=>congrArg aG (gX (v:=.val (.ref Z.n)) [] (by kernel_rfl)),⟨Ed,trivial⟩⟩⟩,
 ⟨⟨λd Z b s f=>congrArg aG (gX (v:=.val (.ref Z.n)) [] (by kernel_rfl)),⟨Vn,hU,Ed,trivial⟩⟩,⟨λd Z b s f=>congrArg aG (gX (v:=.val (.ref Z.n)) [] (by kernel_rfl)),⟨xI,Ed,trivial⟩⟩⟩,
 ⟨⟨λd Z b s f=>congrArg aG (gX (v:=.val (.ref Z.n)) [] (by kernel_rfl)),⟨SE,B0,CY,iW,trivial⟩⟩,⟨λd Z b s f=>congrArg aG (gX (v:=.val (.ref Z.n)) [] (by kernel_rfl)),⟨CY,iW,trivial⟩⟩⟩,
 ⟨⟨λd Z b s f=>congrArg aG (gX (v:=.val (.ref Z.n)) [] (by kernel_rfl)),⟨iO,B0,CY,iW,trivial⟩⟩,⟨λd Z b s f=>congrArg aG (gX (v:=.val (.ref Z.n)) [] (by kernel_rfl)),⟨iO,BY,CY,iW,trivial⟩⟩⟩,
 ⟨⟨λd Z b s f=>congrArg aG (gX (v:=.val (.ref Z.n)) [] (by kernel_rfl)),⟨CY,H3,CY,iW,trivial⟩⟩,⟨λd Z b s f=>congrArg aG (gX (v:=.val (.ref Z.n)) [] (by kernel_rfl)),⟨CY,BY,CY,iW,trivial⟩⟩⟩,
 ⟨⟨λd Z b s f=>congrArg aG (gX (v:=.val (.ref Z.n)) [] (by kernel_rfl)),⟨oe,iO,BX,iW,trivial⟩⟩,⟨λd Z b s f=>congrArg aG (gX (v:=.val (.ref Z.n)) [] (by kernel_rfl)),⟨oe,iO,BX,iW,trivial⟩⟩⟩,
 ⟨⟨λd Z b s f=>congrArg aG (gX (v:=.val (.ref Z.n)) [] (by kernel_rfl)),⟨iO,Mx,iW,trivial⟩⟩,⟨λd Z b s f=>congrArg aG (gX (v:=.val (.ref Z.n)) [] (by kernel_rfl)),⟨iO,Mx,iW,trivial⟩⟩⟩,
 ⟨⟨λd Z b s f=>congrArg aG (gX (v:=.val (.ref Z.n)) [] (by kernel_rfl)),⟨iO,zA,Mr,iW,trivial⟩⟩,⟨λd Z b s f=>congrArg aG (gX (v:=.val (.ref Z.n)) [] (by kernel_rfl)),⟨iO,zA,Mr,iW,trivial⟩⟩⟩,
 ⟨⟨λd Z b s f=>congrArg aG (gX (v:=.val (.ref Z.n)) [] (by kernel_rfl)),⟨Mz,iO,BX,iW,trivial⟩⟩,⟨λd Z b s f=>congrArg aG (gX (v:=.val (.ref Z.n)) [] (by kernel_rfl)),⟨Mz,iO,BX,iW,trivial⟩⟩⟩,
 ⟨⟨λd Z b s f=>congrArg aG (gX (v:=.val (.ref Z.n)) [] (by kernel_rfl)),⟨SE,QA,Ee,iW,trivial⟩⟩,⟨λd Z b s f=>congrArg aG (gX (v:=.val (.ref Z.n)) [] (by kernel_rfl)),⟨Vr,Ee,iW,trivial⟩⟩⟩,
 ⟨⟨λd Z b s f=>congrArg aG (gX (v:=.val (.ref Z.n)) [] (by kernel_rfl)),⟨Qy,Mw,iW,trivial⟩⟩,⟨λd Z b s f=>congrArg aG (gX (v:=.val (.ref Z.n)) [] (by kernel_rfl)),⟨Qy,Mw,iW,trivial⟩⟩⟩,
 ⟨⟨λd Z b s f=>congrArg aG (gX (v:=.val (.ref Z.n)) [] (by kernel_rfl)),⟨oe,Ec,BZ,CY,iW,trivial⟩⟩,⟨λd Z b s f=>congrArg aG (gX (v:=.val (.ref Z.n)) [] (by kernel_rfl)),⟨oe,Ec,BZ,CY,iW,trivial⟩⟩⟩,
 ⟨⟨λd Z b s f=>congrArg aG (gX (v:=.val (.ref Z.n)) [] (by kernel_rfl)),⟨iO,H4,Mv,hU,tj,trivial⟩⟩,⟨λd Z b s f=>congrArg aG (gX (v:=.val (.ref Z.n)) [] (by kernel_rfl)),⟨tj,trivial⟩⟩⟩,
 ⟨⟨λd Z b s f=>congrArg aG (gX (v:=.val (.ref Z.n)) [] (by kernel_rfl)),⟨H4,iO,Mv,hU,tj,trivial⟩⟩,⟨λd Z b s f=>congrArg aG (gX (v:=.val (.ref Z.n)) [] (by kernel_rfl)),⟨xI,tj,trivial⟩⟩⟩,trivial⟩
section
variable{d:Nat}{Z ao:St}{f:Nat}{t:Str}{ws:Tx}{b s:Int}
theorem qy(ok:QD t ws)(hl:ws.length<100):∃J,run (d+7) "_law_rows" [.str t,.int b,.int s] Z=some (.ref Z.n,J)/\Ext Z J/\At J Z.n (.lst (ws.map λp=>vr (bj b s p.2))):=by
 have src:=ok.s d (Z.alloc (.lst [])) b s Z.n
 have a1:At ((Z.alloc (.lst [])).alloc (.lst (ws.map λp=>.str p.1))) Z.n (.lst []):=(ay _ _).al _
 have a2:At ((Z.alloc (.lst [])).alloc (.lst (ws.map λp=>.str p.1))) (Z.n+1) (.lst (ws.map λp=>.str p.1)):=ay (Z.alloc (.lst [])) _
 obtain ⟨m',J,l,⟨W,nW,em⟩,x,a⟩:=fy (k:=Z.n+1) (turn:=tn "_law_rows" 1 (d+6) 39) (g:=λp:Str×Wd=>V.str p.1) (L:=ws)
  (λpre m J=>(∃W,d4 W/\m=Mp t b s Z.n W)/\bp Z.n ((Z.alloc (.lst [])).alloc (.lst (ws.map λp=>.str p.1))) J/\At J Z.n (.lst (pre.map λp=>vr (bj b s p.2)))) (λpre m J i=>(a2.xc i.2.1 (Nat.succ_ne_self _)).e) (λpre p rest m J e i=>by
   refine ja (i) λsu x a=>?_
   obtain ⟨W,nW,em⟩:=su
   subst em
   obtain ⟨W',kL,MA,tt,x',a'⟩:=ok.w.of p (by rw [e];exact List.mem_append_right _ List.mem_cons_self) d J Z.n _ b s t W nW a (by rw [List.length_map];exact Nat.lt_trans (dR e hl).2 (by decide))
   exact ⟨_,kL,tt,⟨W',MA,rfl⟩,x.trans x',by rw [List.map_append];exact a'⟩) (Nat.lt_trans hl (by decide)) ⟨⟨_,BH,rfl⟩,.refl _ _,a1⟩
 subst em
 have c1:cI gL (cL (d+6)) 40 (dz "_law_rows" 1) (Mp t b s Z.n w0) (Z.alloc (.lst []))=some (.next,_,J):=dw (n:=39) (by kernel_rfl) src (by kernel_rfl) l
 have z:(0:Nat)<=aq:=Nat.zero_le _
 refine ⟨J,gF [eP z,eY c1] (by kernel_rfl),⟨Nat.le_trans (Nat.le_add_right Z.n 2) x.n,λk h=>?_⟩,a⟩
 exact (x.f k (Nat.lt_of_lt_of_le h (Nat.le_add_right Z.n 2)) (Nat.ne_of_lt h)).trans (((aQ _ _).al _).f k h)
theorem tr:run (d+1) "_law_pieces" [] Z=some (.ref Z.n,Z.alloc (.lst (cZ.map λp=>.tup [.str p.tb,.str p.ta]))):=gF [eP (p:=21<=aq) (by decide)] (by kernel_rfl)
theorem qz{l:List V}{i:Int}{x:V}(h0:0<=i)(h1:i<4000)(e:l[i.toNat]?=some x):dB l i=some x:=by
 unfold dB
 rw [if_pos (by omega),if_pos h0,e]
structure Bx (bx lb:Nat) (ns:List Int) (t:Int) (Z:St):Prop where
 b:At Z bx (.lst [.ref lb,.int t])
 l:At Z lb (.lst (ns.map V.int))
 ne:lb≠bx
 n:0<ns.length/\ns.length<100
theorem vV{bx lb:Nat}{ns:List Int}{t many:Int}(B:Bx bx lb ns t Z)(hm:0<many):
  ∃r,run (d+1) "_law_take" [.ref bx,.int many] Z=some (.int r,Z.put bx (.lst [.ref lb,.int (t+1)]))/\0<=r/\r<many:=by
 have n1:(0:Int)<((ns.map V.int).length:Nat):=by rw [List.length_map];have:=B.n.1;omega
 have q0:0<=(t+1).fmod ((ns.map V.int).length:Nat):=Int.fmod_nonneg_of_pos _ n1
 have q1:(t+1).fmod ((ns.map V.int).length:Nat)<((ns.map V.int).length:Nat):=Int.fmod_lt_of_pos _ n1
 have q2:((t+1).fmod ((ns.map V.int).length:Nat)).toNat<ns.length:=by rw [List.length_map] at q0 q1⊢;omega
 have b1:=At.self B.b.lt (.lst [.ref lb,.int (t+1)])
 have l1:=B.l.put (j:=bx) (o':=.lst [.ref lb,.int (t+1)]) B.ne
 have m1:ue .Mod (.int (t+1)) (.int ((ns.map V.int).length:Nat)) (Z.put bx (.lst [.ref lb,.int (t+1)]))=some (.int ((t+1).fmod ((ns.map V.int).length:Nat)),Z.put bx (.lst [.ref lb,.int (t+1)])):=congrArg (λo=>bC o λc=>some (V.int c,_)) (if_pos (by omega))
 have hx:dB (ns.map V.int) ((t+1).fmod ((ns.map V.int).length:Nat))=some (.int ns[((t+1).fmod ((ns.map V.int).length:Nat)).toNat]):=
  qz q0 (Int.lt_trans q1 (by rw [List.length_map];have:=B.n.2;omega)) (by rw [List.getElem?_map,List.getElem?_eq_getElem q2];rfl)
 have m2:ue .Add (.int ns[((t+1).fmod ((ns.map V.int).length:Nat)).toNat]) (.int (t+1)) (Z.put bx (.lst [.ref lb,.int (t+1)]))=some (.int (ns[((t+1).fmod ((ns.map V.int).length:Nat)).toNat]+(t+1)),Z.put bx (.lst [.ref lb,.int (t+1)])):=rfl
 have m3:ue .Mod (.int (ns[((t+1).fmod ((ns.map V.int).length:Nat)).toNat]+(t+1))) (.int many) (Z.put bx (.lst [.ref lb,.int (t+1)]))=some (.int ((ns[((t+1).fmod ((ns.map V.int).length:Nat)).toNat]+(t+1)).fmod many),Z.put bx (.lst [.ref lb,.int (t+1)])):=congrArg (λo=>bC o λc=>some (V.int c,_)) (if_pos (by omega))
 exact ⟨(ns[((t+1).fmod ((ns.map V.int).length:Nat)).toNat]+(t+1)).fmod many,gF [eO B.b,eO B.b,eP (p:=(0:Int)<=1/\(1:Int)<(2:Nat)) (by decide),eO b1,eO b1,eO b1,eO l1,eR m1,eO l1,eV hx,eO b1,eR m2,eR m3] (by kernel_rfl),Int.fmod_nonneg_of_pos _ hm,Int.fmod_lt_of_pos _ hm⟩
end
end Mine
end
section
namespace Mine
open PySem PySem.PyData
abbrev c9:CV:=.n 4621256167635550208
def Fw:CV->PyData
 | .n i=>.int i
 | .s x=>.str x
def iP(x:CV):Str:=(Fw x).shown
def KS:List CV:=[c9,.s "q",c1,c2,c3,.s "t0",.s "p"]
theorem MB:(KS.all λa=>KS.all λb=>(iP a==iP b)==decide (a=b))=true:=by kernel_rfl
theorem MC:(KS.all λa=>strOk (iP a)&&nG a)=true:=by kernel_rfl
theorem B5{a b:CV}(ha:a∈KS)(hb:b∈KS):(iP a==iP b)=decide (a=b):=eq_of_beq (List.all_eq_true.mp (List.all_eq_true.mp MB a ha) b hb)
theorem qA{a:CV}(ha:a∈KS):strOk (iP a)=true/\nG a=true:=by
 have:=List.all_eq_true.mp MC a ha
 rw [Bool.and_eq_true] at this;exact this
theorem Ef:tq (λx:CV=>∀Z,oi Z [x.v]=some (.str (iP x),Z)) KS:=⟨λZ=>by kernel_rfl,λZ=>by kernel_rfl,λZ=>by kernel_rfl,λZ=>by kernel_rfl,λZ=>by kernel_rfl,λZ=>by kernel_rfl,λZ=>by kernel_rfl,trivial⟩
theorem nj{x:CV}(h:x∈KS)(Z:St):oi Z [x.v]=some (.str (iP x),Z):=Ef.of x h Z
def sK(y:CV):V:=.str (iP y)
section
variable{d:Nat}{Z ao:St}{r c f n u:Nat}{K:List CV}{x:CV}{w:Tw}{op:Int}{D:UD}
theorem layAll_str:∀{K:List CV},(∀y,y∈K->y∈KS)->PyData.canLayAll0 (K.map λy=>PyData.str (iP y))=true
 | [],_=>rfl
 | y::K,h=>by
  rw [List.map_cons];unfold PyData.canLayAll0
  rw [layAll_str λz hz=>h z (List.mem_cons_of_mem _ hz),Bool.and_true]
  exact (qA (h y List.mem_cons_self)).1
theorem xK(hx:x∈KS):∀{K:List CV},(∀y,y∈K->y∈KS)->((K.map λy=>PyData.str (iP y)).any λy=>y.eqv (.str (iP x)))=decide (x∈K)
 | [],_=>rfl
 | y::K,h=>by
  rw [List.map_cons,List.any_cons,xK hx λz hz=>h z (List.mem_cons_of_mem _ hz)]
  show ((iP y==iP x) || _)=_
  rw [B5 (h y List.mem_cons_self) hx,<-Bool.decide_or]
  exact decide_eq_decide.mpr ⟨λe=>e.elim (λe=>e▸List.mem_cons_self) (List.mem_cons_of_mem _),λe=>(List.mem_cons.mp e).imp (λe=>e.symm) id⟩
theorem xM(h:At Z n (.lst (K.map sK)))(hK:∀y,y∈K->y∈KS)(hx:x∈KS):bf Z .NotIn (.str (iP x)) (.ref n)=some (!decide (x∈K)):=by
 show (qR Z (.str (iP x)) (.ref n)).map (!·)=_
 have e:qR Z (.str (iP x)) (.ref n)=inD Z (.str (iP x)) (.ref n):=by
  unfold qR
  dsimp only
  rw [h.e]
 have e2:inD Z (.str (iP x)) (.ref n)=Ji (K.map λy=>PyData.str (iP y)) (.str (iP x)):=by
  unfold inD
  rw [bI (n:=5) (h:=λy=>PyData.str (iP y)) h (λy _=>rfl)];rfl
 rw [e,e2]
 unfold Ji
 rw [layAll_str hK,show (PyData.str (iP x)).canLay0=true from (qA hx).1,xK hx hK];rfl
theorem B6:∀K:List CV,strsOf (K.map sK)=some (K.map iP)
 | []=>rfl
 | y::K=>by
  show bC (strsOf (K.map sK)) (λr=>some (iP y::r))=_
  rw [B6 K];rfl
theorem Fx(hx:x∈KS):∀{K:List CV},(∀y,y∈K->y∈KS)->x∈K->(K.map iP).findIdx? (·==iP x)=some (K.idxOf x)
 | [],_,hz=>absurd hz List.not_mem_nil
 | y::K,h,hm=>by
  rw [List.map_cons,List.findIdx?_cons,B5 (h y List.mem_cons_self) hx]
  by_cases q:y=x
  ·rw [decide_eq_true q,q,List.idxOf_cons_self];rfl
  ·rw [decide_eq_false q,Fx hx (λz hz=>h z (List.mem_cons_of_mem _ hz)) ((List.mem_cons.mp hm).resolve_left λe=>q e.symm),List.idxOf_cons,beq_eq_false_iff_ne.mpr q];rfl
theorem xN(hK:∀y,y∈K->y∈KS)(hx:x∈KS)(hm:x∈K):ip "index" n (K.map sK) [.str (iP x)] Z=some (.int (K.idxOf x:Nat),Z):=by
 unfold ip
 rw [if_neg (by decide),if_neg (by decide),if_pos rfl]
 show bC (strsOf (K.map sK)) (λts=>bC (ts.findIdx? (·==iP x)) λi=>some (V.int ((i:Nat):Int),Z))=_
 rw [B6]
 show bC ((K.map iP).findIdx? (·==iP x)) (λi=>some (V.int ((i:Nat):Int),Z))=_
 rw [Fx hx hK hm];rfl
noncomputable def Fy(r c f:Nat)(op:Int)(info:V):Ms:=mk "_law_coded" [("rows",.ref r),("consts",.ref c),("found",.ref f),("op",.int op),("info",info)]
def WH(s:Stmt):List Stmt:=gj s
abbrev SF:List Stmt:=gj ((gj (dz "_law_coded" 1)).getD 0 (.Pass default))
noncomputable def MD:Bool->Expr
 | true=>sub (dQ (SF.getD 0 (.Pass default))) 1
 | false=>sub (sub (dQ (SF.getD 1 (.Pass default))) 0) 0
theorem qB(b:Bool)(hc:At Z c (.lst (K.map CV.v)))(hK:∀y,y∈K->y∈KS)(hl:K.length<4000):
  i8 gL (cL d) 36 (MD b) (Fy r c f op x.v) Z=some (.val (.ref Z.n),Z.alloc (.lst (K.map sK))):=by
 have L:∃acc J,cu (.lst c) (compTurn (i8 gL (cL d) 35) (ki gL (cL d) 35) (qo (MD b)) (vM (MD b)) (vL (MD b)) (cX (gm (MD b)) (Fy r c f op x.v))) aM 0 [] Z=some (acc,J)/\(J=Z/\acc=K.map sK):=
  jo (g:=CV.v) (L:=K) (λpre acc J=>J=Z/\acc=pre.map sK) (λpre acc J i=>by rw [i.1];exact hc.e) (λpre y rest acc J e i=>by
   obtain ⟨i1,i2⟩:=i
   subst i1;subst i2
   have hy:=nj (hK y (by rw [e];exact List.mem_append_right _ List.mem_cons_self)) J
   refine ⟨some (sK y),J,?_,rfl,by rw [List.map_append];rfl⟩
   induction b using Bool.casesOn<;>induction y using CV.casesOn<;>exact gC [eR hy] (by kernel_rfl)) (Nat.lt_trans hl (by decide)) ⟨rfl,rfl⟩
 refine lY (L) λacc J l e1 e2=>?_
 subst e1;subst e2
 induction b using Bool.casesOn<;>exact lB (n:=35) (by kernel_rfl) (show aG _=some (Src.lst c,J) from congrArg aG (gX (v:=.val (.ref c)) [] (by kernel_rfl))) (by kernel_rfl) l
end
end Mine
end
section
namespace Mine
open PySem
def jJ(op:Int):Bool:=decide (op=4\/op=21\/op=23)
theorem tu{op:Int}(h:op∈cU):∀(Z:St),bf Z .In (.int op) (.tup [.int 4,.int 21,.int 23])=some (jJ op):=
 jq.of (P:=λop=>∀(Z:St),bf Z .In (.int op) (.tup [.int 4,.int 21,.int 23])=some (jJ op)) (by
  unfold cU
  repeat (first | exact trivial | refine ⟨λZ=>by kernel_rfl,?_⟩)) op h
structure H6 (r:CR):Prop where
 o:r.1∈cU
 k:jJ r.1=true->∃x,r.2=.c x/\x∈KS
 n:jJ r.1=false->∀x,r.2≠ .c x
def bX(K:List CV)(l:List CR):List CV:=l.foldl (λK r=>match r.2 with | .c x=>dh K x | _=>K) K
section
variable{d:Nat}{Z aw:St}{r c f u:Nat}{K:List CV}{x:CV}{w:Tw}{op:Int}{D:UD}{U:Ul}{acc:List V}{a v:V}{m:Ms}{pre rows:List CR}{q:CR}
noncomputable abbrev qC(r c f:Nat)(w:Tw):Ms:=mk "_law_coded" [("rows",.ref r),("consts",.ref c),("found",.ref f),("op",w 0),("info",w 1)]
theorem B7(h:op∈cU)(hk:jJ op=false)(av:AV a)(n:d4 w)(hf:At Z f (.lst acc))(l:acc.length<aq):tn "_law_coded" 1 d 39 (.tup [.int op,a]) (qC r c f w) Z=some (.next,Fy r c f op a,Z.put f (.lst (acc++[.tup [.int op,a]]))):=by
 have b:=(tu h Z).trans (congrArg some hk)
 cases av<;>exact gT [eN (n 0),eN (n 1),eB b,eO hf,eO hf,eP l] (by kernel_rfl)
abbrev NG(Z:St)(K:List CV):St:=(Z.alloc (.lst (K.map sK))).alloc (.lst (K.map sK))
theorem H8(h:op∈cU)(hk:jJ op=true)(n:d4 w)(hf:At Z f (.lst acc))(hc:At Z c (.lst (K.map CV.v)))(hK:∀y,y∈K->y∈KS)(lK:K.length<4000)(hx:x∈KS)(hm:x∈K)(l:acc.length<aq):
  tn "_law_coded" 1 d 39 (.tup [.int op,x.v]) (qC r c f w) Z=some (.next,Fy r c f op (.int (K.idxOf x:Nat)),(NG Z K).put f (.lst (acc++[.tup [.int op,.int (K.idxOf x:Nat)]]))):=by
 have b:=(tu h Z).trans (congrArg some hk)
 have e1:=qB (d:=d) (r:=r) (f:=f) (op:=op) (x:=x) true hc hK lK
 have e2:=qB (d:=d) (r:=r) (f:=f) (op:=op) (x:=x) false (hc.al (.lst (K.map sK))) hK lK
 have ni:=(xM (ay Z (.lst (K.map sK))) hK hx).trans (congrArg (λb=>some (!b)) (decide_eq_true hm))
 have ix:=xN (Z:=NG Z K) (n:=Z.n+1) hK hx hm
 have a2:At (NG Z K) (Z.n+1) (.lst (K.map sK)):=ay (Z.alloc _) _
 have ME:=(hf.al (.lst (K.map sK))).al (.lst (K.map sK))
 have r1:=nj hx Z
 have r2:=nj hx (NG Z K)
 induction x using CV.casesOn<;>exact gT [eN (n 0),eN (n 1),eB b,eR r1,eX e1,eB ni,eX e2,eO a2,eR r2,eO a2,eR ix,eO ME,eO ME,eP l] (by kernel_rfl)
noncomputable abbrev NH(Z:St)(c:Nat)(K:List CV)(x:CV):St:=(((Z.alloc (.lst (K.map sK))).put c (.lst (K.map CV.v++[x.v]))).alloc (.lst ((K++[x]).map sK)))
theorem H9(h:op∈cU)(hk:jJ op=true)(n:d4 w)(hf:At Z f (.lst acc))(hc:At Z c (.lst (K.map CV.v)))(hK:∀y,y∈K->y∈KS)(lK:K.length<3000)(hx:x∈KS)(hm:x∉K)(ne:f≠c)(l:acc.length<aq):
  tn "_law_coded" 1 d 39 (.tup [.int op,x.v]) (qC r c f w) Z=some (.next,Fy r c f op (.int ((K++[x]).idxOf x:Nat)),(NH Z c K x).put f (.lst (acc++[.tup [.int op,.int ((K++[x]).idxOf x:Nat)]]))):=by
 have b:=(tu h Z).trans (congrArg some hk)
 have e1:=qB (d:=d) (r:=r) (f:=f) (op:=op) (x:=x) true hc hK (Nat.lt_trans lK (by decide))
 have SG:∀y,y∈K++[x]->y∈KS:=λy hy=>(List.mem_append.mp hy).elim (hK y) λe=>by rw [List.mem_singleton.mp e];exact hx
 have Jo:=hc.al (.lst (K.map sK))
 have Od:At ((Z.alloc (.lst (K.map sK))).put c (.lst (K.map CV.v++[x.v]))) c (.lst ((K++[x]).map CV.v)):=by rw [List.map_append];exact At.self Jo.lt _
 have e2:=qB (d:=d) (r:=r) (f:=f) (op:=op) (x:=x) false Od SG (by rw [List.length_append];exact Nat.lt_of_lt_of_le (Nat.succ_lt_succ lK) (by decide))
 have ni:=(xM (ay Z (.lst (K.map sK))) hK hx).trans (congrArg (λb=>some (!b)) (decide_eq_false hm))
 have ix:=xN (Z:=NH Z c K x) (n:=Z.n+1) SG hx (List.mem_append_right _ List.mem_cons_self)
 have a2:At (NH Z c K x) (Z.n+1) (.lst ((K++[x]).map sK)):=ay ((Z.alloc (.lst (K.map sK))).put c (.lst (K.map CV.v++[x.v]))) (.lst ((K++[x]).map sK))
 have ME:=((hf.al (.lst (K.map sK))).put (o':=.lst (K.map CV.v++[x.v])) ne).al (.lst ((K++[x]).map sK))
 have r1:=nj hx Z
 have r2:=nj hx (NH Z c K x)
 have lc:(K.map CV.v).length<aq:=by rw [List.length_map];exact Nat.lt_trans lK (by decide)
 induction x using CV.casesOn<;>exact gT [eN (n 0),eN (n 1),eB b,eR r1,eX e1,eB ni,eO Jo,eO Jo,eP lc,eX e2,eO a2,eR r2,eO a2,eR ix,eO ME,eO ME,eP l] (by kernel_rfl)
theorem Gr.SH{K K':List CV}(g:Gr K K'):∀{l:List CR},(∀r,r∈l->mZ K r)->l.map (rv K')=l.map (rv K)
 | [],_=>rfl
 | r::l,h=>by
  rw [List.map_cons,List.map_cons,g.SH λx hx=>h x (List.mem_cons_of_mem _ hx)]
  congr 1
  unfold rv
  have hr:=h r List.mem_cons_self
  cases e:r.2 with
  | c x=>unfold Ar.v;dsimp only;rw [(g.i x (hr x e)).2]
  | _=>rfl
theorem Ia(v1 v2:V):∃w:Tw,w 0=v1/\w 1=v2/\(v1≠ .qQ->v2≠ .qQ->d4 w):=⟨up (up w0 0 v1) 1 v2,rfl,rfl,λh1 h2=>(BH.up 0 h1).up 1 h2⟩
structure DI (aw:St) (r c f:Nat) (K:List CV) (pre:List CR) (m:Ms) (Z:St):Prop where
 m:∃w,d4 w/\m=qC r c f w
 x:bp c aw Z
 k:At Z c (.lst ((bX K pre).map CV.v))
 f:At Z f (.lst (pre.map (rv (bX K pre))))
 s:(∀y,y∈bX K pre->y∈KS)/\(bX K pre).length<=K.length+pre.length
 o:∀q,q∈pre->mZ (bX K pre) q
theorem oY(K:List CV)(l:List CR)(q:CR):bX K (l++[q])=(match q.2 with | .c x=>dh (bX K l) x | _=>bX K l):=by
 unfold bX;rw [List.foldl_append];rfl
theorem Ib{a:Ar}(h:∀x,a≠ .c x)(K:List CV):AV a.val/\a.val=a.v K:=by
 induction a using Ar.casesOn with
 | no=>exact ⟨.no,rfl⟩
 | i k=>exact ⟨.i k,rfl⟩
 | c x=>exact absurd rfl (h x)
theorem DI.turn(ok:H6 q)(hl:K.length+pre.length<3000)(nf:f≠c)(fn:aw.n<=f)(i:DI aw r c f K pre m Z):∃m' J,tn "_law_coded" 1 d 39 (vr q) m Z=some (.next,m',J)/\DI aw r c f K (pre++[q]) m' J:=by
 refine aO (i.m) λw nw em=>?_
 subst em
 obtain ⟨op,a⟩:=q
 have la:(pre.map (rv (bX K pre))).length<aq:=by rw [List.length_map];exact Nat.lt_of_le_of_lt (Nat.le_add_left _ K.length) (Nat.lt_trans hl (by decide))
 have lk:=i.s.2
 cases hk:jJ op with
 | false=>
  obtain ⟨av,ev⟩:=Ib (ok.n hk) (bX K pre)
  have ek:bX K (pre++[(op,a)])=bX K pre:=by
   rw [oY]
   induction a using Ar.casesOn with
   | c x=>exact absurd rfl (ok.n hk x)
   | _=>rfl
  refine bJ (Ia (.int op) a.val) λw' e0 e1 nI=>?_
  refine ⟨_,_,B7 ok.o hk av nw i.f la,⟨w',nI (fO _) (by rw [ev];exact Hg _ _),by unfold qC Fy;rw [e0,e1]⟩,i.x.pu fn,?_,?_,?_,?_⟩
  ·rw [ek];exact i.k.put nf.symm
  ·rw [ek,List.map_append,ev];exact At.self i.f.lt _
  ·rw [ek,List.length_append];exact ⟨i.s.1,Nat.le_trans lk (Nat.add_le_add_left (Nat.le_succ _) _)⟩
  ·rw [ek]
   intro q hq x e
   rcases List.mem_append.mp hq with h | h
   ·exact i.o q h x e
   ·rw [List.mem_singleton] at h;subst h;exact absurd e (ok.n hk x)
 | true=>
  refine aO (ok.k hk) λx ex hx=>?_
  have ex:a=.c x:=ex
  subst ex
  have ek:bX K (pre++[(op,.c x)])=dh (bX K pre) x:=oY _ _ _
  have g:=Gr.add (bX K pre) (z:=x) (qA hx).2
  have og:∀q,q∈pre++[(op,Ar.c x)]->mZ (dh (bX K pre) x) q:=λq hq y e=>by
   rcases List.mem_append.mp hq with h | h
   ·exact (g.i y (i.o q h y e)).1
   ·rw [List.mem_singleton] at h
    subst h
    cases e
    unfold dh
    split
    ·assumption
    ·exact List.mem_append_right _ List.mem_cons_self
  have sg:(∀y,y∈dh (bX K pre) x->y∈KS):=λy hy=>by
   unfold dh at hy
   split at hy
   ·exact i.s.1 y hy
   ·exact (List.mem_append.mp hy).elim (i.s.1 y) λe=>by rw [List.mem_singleton.mp e];exact hx
  have ef:(pre++[(op,Ar.c x)]).map (rv (dh (bX K pre) x))=pre.map (rv (bX K pre))++[.tup [.int op,.int ((dh (bX K pre) x).idxOf x:Nat)]]:=by
   rw [List.map_append,g.SH i.o];rfl
  have sl:(dh (bX K pre) x).length<=K.length+(pre++[(op,Ar.c x)]).length:=by
   rw [List.length_append]
   exact Nat.le_trans g.n (Nat.succ_le_succ lk)
  by_cases hm:x∈bX K pre
  ·have ea:dh (bX K pre) x=bX K pre:=if_pos hm
   refine bJ (Ia (.int op) (.int ((bX K pre).idxOf x:Nat))) λw' e0 e1 nI=>?_
   refine ⟨_,_,H8 (x:=x) ok.o hk nw i.f i.k i.s.1 (by lia) hx hm la,⟨w',nI (fO _) (fO _),by unfold qC Fy;rw [e0,e1]⟩,((i.x.al _).al _).pu fn,?_,?_,?_,?_⟩
   ·rw [ek,ea];exact ((i.k.al _).al _).put nf.symm
   ·rw [ek,ef,ea];exact At.self ((i.f.al _).al _).lt _
   ·rw [ek];exact ⟨sg,sl⟩
   ·rw [ek];exact og
  ·have ea:dh (bX K pre) x=bX K pre++[x]:=if_neg hm
   refine bJ (Ia (.int op) (.int ((bX K pre++[x]).idxOf x:Nat))) λw' e0 e1 nI=>?_
   have kc:=At.self (i.k.al (.lst ((bX K pre).map sK))).lt (.lst ((bX K pre).map CV.v++[x.v]))
   refine ⟨_,_,H9 (x:=x) ok.o hk nw i.f i.k i.s.1 (by lia) hx hm nf la,⟨w',nI (fO _) (fO _),by unfold qC Fy;rw [e0,e1]⟩,(((i.x.al _).fR).al _).pu fn,?_,?_,?_,?_⟩
   ·rw [ek,ea,List.map_append];exact (kc.al _).put nf.symm
   ·rw [ek,ef,ea];exact At.self (((i.f.al _).put (o':=.lst ((bX K pre).map CV.v++[x.v])) nf).al _).lt _
   ·rw [ek];exact ⟨sg,sl⟩
   ·rw [ek];exact og
theorem Eg(hr:At Z r (.lst (rows.map vr)))(hc:At Z c (.lst (K.map CV.v)))(nr:r≠c)(hK:∀y,y∈K->y∈KS)(ok:∀q,q∈rows->H6 q)(hl:K.length+rows.length<3000):
  ∃J,run (d+1) "_law_coded" [.ref r,.ref c] Z=some (.ref Z.n,J)/\bp c Z J/\At J c (.lst ((bX K rows).map CV.v))/\At J Z.n (.lst (rows.map (rv (bX K rows))))/\(∀y,y∈bX K rows->y∈KS)/\(bX K rows).length<=K.length+rows.length/\∀q,q∈rows->mZ (bX K rows) q:=by
 have nf:Z.n≠c:=Nat.ne_of_gt hc.lt
 have i0:DI Z r c Z.n K [] (qC r c Z.n w0) (Z.alloc (.lst [])):=⟨⟨_,BH,rfl⟩,(bp.refl _ _).al _,hc.al _,ay _ _,⟨hK,Nat.le_refl _⟩,λq h=>by cases h⟩
 obtain ⟨m',J,l,i⟩:=fy (k:=r) (turn:=tn "_law_coded" 1 d 39) (g:=vr) (L:=rows) (DI Z r c Z.n K) (λpre m J i=>(hr.xc i.x nr).e) (λpre q rest m J e i=>DI.turn (ok q (by rw [e];exact List.mem_append_right _ List.mem_cons_self)) (by rw [e,List.length_append] at hl;lia) nf (Nat.le_refl _) i) (Nat.lt_of_le_of_lt (Nat.le_add_left _ K.length) (Nat.lt_trans hl (by decide))) i0
 refine aO (i.m) λw nw em=>?_
 subst em
 have c1:cI gL (cL d) 40 (dz "_law_coded" 1) (qC r c Z.n w0) (Z.alloc (.lst []))=some (.next,_,J):=dw (n:=39) (by kernel_rfl) (show aG _=some (Src.lst r,Z.alloc (.lst [])) from congrArg aG (gX (v:=.val (.ref r)) [] (by kernel_rfl))) (by kernel_rfl) l
 exact ⟨J,gF [eP (p:=0<=aq) (Nat.zero_le _),eY c1] (by kernel_rfl),i.x,i.k,i.f,i.s.1,i.s.2,i.o⟩
end
end Mine
end
section
namespace Mine
open PySem PySem.PyData
abbrev B8(l:List Nat):Prop:=∀c,c∈l->c<0x110000
theorem qD{x:Str}:strOk x=true↔B8 x.cps.toList:=by
 unfold strOk
 rw [Array.all_eq_true_iff_forall_mem]
 exact ⟨λh c hc=>of_decide_eq_true (h c (Array.mem_toList_iff.mp hc)),λh c hc=>decide_eq_true (h c (Array.mem_toList_iff.mpr hc))⟩
theorem gu{a b:Str}(ha:strOk a=true)(hb:strOk b=true):strOk (a++b)=true:=by
 rw [qD] at ha hb⊢
 intro c hc
 have:c∈(a.cps++b.cps).toList:=hc
 rw [Array.toList_append,List.mem_append] at this
 exact this.elim (ha c) (hb c)
theorem bT(s:String):strOk (Str.ofString s)=true:=by
 rw [qD,Str.ofString_eq_toList]
 intro c hc
 refine aO (List.mem_map.mp hc) λch _ e=>?_
 subst e
 have:=ch.valid
 unfold UInt32.isValidChar Nat.isValidChar at this
 show ch.val.toNat<_
 omega
theorem hV{a b:List Nat}(ha:B8 a)(hb:B8 b):B8 (a++b):=λc h=>(List.mem_append.mp h).elim (ha c) (hb c)
theorem iQ(c w:Nat):B8 (List.replicate (w-((Nat.toDigits 16 c).map Char.toNat).length) 48++(Nat.toDigits 16 c).map Char.toNat):=hV (λx h=>by rw [(List.mem_replicate.mp h).2];decide) λx h=>by
 refine aO (List.mem_map.mp h) λch _ e=>?_
 subst e
 have:=ch.valid
 unfold UInt32.isValidChar Nat.isValidChar at this
 show ch.val.toNat<_
 omega
theorem B9(q c:Nat)(hc:c<0x110000):B8 (Builtin.Str.reprChar q c):=by
 have two:∀a b:Nat,a<0x110000->b<0x110000->B8 [a,b]:=λa b ha hb x h=>by
  rcases List.mem_cons.mp h with e | h
  ·rw [e];exact ha
  ·rw [List.mem_singleton.mp h];exact hb
 unfold Builtin.Str.reprChar
 dsimp only
 split
 ·exact two _ _ (by decide) hc
 split
 ·exact two _ _ (by decide) (by decide)
 split
 ·exact two _ _ (by decide) (by decide)
 split
 ·exact two _ _ (by decide) (by decide)
 split
 ·intro x h;rw [List.mem_singleton.mp h];exact hc
 split
 ·exact hV (two _ _ (by decide) (by decide)) (iQ c 2)
 split
 ·exact hV (two _ _ (by decide) (by decide)) (iQ c 4)
 ·exact hV (two _ _ (by decide) (by decide)) (iQ c 8)
theorem tw(q:Nat):∀(l:List Nat)(acc:Array Nat),B8 l->B8 acc.toList->B8 (l.foldl (λout c=>out++(Builtin.Str.reprChar q c).toArray) acc).toList
 | [],_,_,h=>h
 | c::l,acc,hl,h=>tw q l _ (λx hx=>hl x (List.mem_cons_of_mem _ hx)) (by
  rw [Array.toList_append];exact hV h (B9 q c (hl c List.mem_cons_self)))
theorem Ca{x:Str}(h:strOk x=true):strOk (reprText x)=true:=by
 rw [qD] at h⊢
 have q:reprQuote x<0x110000:=by unfold reprQuote;split<;>decide
 unfold reprText
 show B8 (Array.push _ _).toList
 rw [Array.toList_push,<-Array.foldl_toList]
 refine hV (tw _ _ _ h λc hc=>?_) λc hc=>?_
 ·rw [List.mem_singleton.mp hc];exact q
 ·rw [List.mem_singleton.mp hc];exact q
theorem tA{s:Str}(hs:strOk s=true):∀{l:List Str},(∀t,t∈l->strOk t=true)->strOk (Str.join s l)=true
 | [],_=>bT ""
 | [t],h=>h t List.mem_cons_self
 | t::u::r,h=>gu (gu (h t List.mem_cons_self) hs) (tA hs λx hx=>h x (List.mem_cons_of_mem _ hx))
theorem tB:∀{l:List Str}{k:Nat}{acc:Str},strOk acc=true->(∀t,t∈l->strOk t=true)->strOk (textFrom k acc l)=true
 | [],_,_,h,_=>h
 | t::l,k,acc,h,hl=>tB (l:=l) (gu (gu h (bT _)) (hl t List.mem_cons_self)) λx hx=>hl x (List.mem_cons_of_mem _ hx)
mutual
theorem eH:∀d:PyData,d.canLay0=true->strOk d.shown=true
 | .none,_=>bT _
 | .bool b,_=>by induction b using Bool.casesOn<;>exact bT _
 | .int i,_=>bT _
 | .str x,h=>Ca h
 | .list xs,h=>gu (tB (bT _) (gw xs h)) (bT _)
 | .tuple xs,h=>gu (gu (bT _) (tA (bT _) (gw xs h))) (bT _)
 | .dict _,h=>by cases h
theorem gw:∀xs:List PyData,canLayAll0 xs=true->∀t,t∈shownAll xs->strOk t=true
 | [],_,_,hz=>absurd hz List.not_mem_nil
 | x::xs,h,t,ht=>by
  have G:(x.canLay0&&canLayAll0 xs)=true:=h
  rw [Bool.and_eq_true] at G
  rcases List.mem_cons.mp (show t∈shown x::shownAll xs from ht) with e | e
  ·rw [e];exact eH x G.1
  ·exact gw xs G.2 t e
end
structure Gd (d:PyData) (n:Nat):Prop where
 lay:d.canLay0=true
 sh:d.showable=true
 si:d.intsShort 25=true
 w:d.weight<=n
structure d5 (l:List PyData) (n:Nat):Prop where
 lay:canLayAll0 l=true
 sh:showableAll l=true
 si:intsShortAll 25 l=true
 w:weightAll l<=n
theorem Gd.len{d:PyData}{n:Nat}(g:Gd d n):d.shown.length<=27*n+25:=
 Nat.le_trans (PyData.shown_le 25 (by decide) d (leavesShort_of_canLay0 25 d g.lay g.si)) (Nat.add_le_add_right (Nat.mul_le_mul_left _ g.w) _)
theorem d5.nil:d5 [] 0:=⟨rfl,rfl,rfl,Nat.le_refl _⟩
theorem d5.cons{d:PyData}{l:List PyData}{n m:Nat}(a:Gd d n)(b:d5 l m):d5 (d::l) (n+1+m):=
 ⟨by show (_&&_)=true;rw [a.lay,b.lay];rfl,by show (_&&_)=true;rw [a.sh,b.sh];rfl,by show (_&&_)=true;rw [a.si,b.si];rfl,Nat.add_le_add (Nat.succ_le_succ a.w) b.w⟩
theorem d5.all{l:List PyData}{n:Nat}:(∀d,d∈l->Gd d n)->d5 l ((n+1)*l.length):=by
 induction l with
 | nil=>exact λ_=>d5.nil
 | cons d l ih=>
  intro h
  have:=d5.cons (h d List.mem_cons_self) (ih λx hx=>h x (List.mem_cons_of_mem _ hx))
  rw [List.length_cons,Nat.mul_add,Nat.mul_one,Nat.add_comm]
  exact this
theorem Gd.list{l:List PyData}{n:Nat}(g:d5 l n):Gd (.list l) n:=⟨g.lay,g.sh,g.si,g.w⟩
theorem Gd.tuple{l:List PyData}{n:Nat}(g:d5 l n):Gd (.tuple l) n:=⟨g.lay,g.sh,g.si,g.w⟩
theorem Gd.none:Gd .none 0:=⟨rfl,rfl,rfl,Nat.le_refl _⟩
theorem Gd.bool(b:Bool):Gd (.bool b) 0:=⟨rfl,rfl,rfl,Nat.le_refl _⟩
theorem Gd.str{x:Str}(h:strOk x=true):Gd (.str x) x.length:=⟨h,rfl,rfl,Nat.le_refl _⟩
theorem Gd.int{i:Int}(h:i.natAbs<10^24):Gd (.int i) 80:=by
 have l2:i.natAbs.log2<80:=by
  by_cases q:i.natAbs=0
  ·rw [q];decide
  ·exact (Nat.log2_lt q).mpr (Nat.lt_trans h (by decide))
 refine ⟨rfl,decide_eq_true (Nat.lt_trans l2 (by decide)),decide_eq_true ?_,?_⟩
 ·have e:=int_text_length_le10 (k:=24) (by decide) h
  show (Str.ofString (toString i)).length<=25
  rw [ofString_length];exact e
 ·show (if i==0 then 0 else i.natAbs.log2+1)<=80
  split
  ·exact Nat.zero_le _
  ·exact l2
theorem Gd.up{d:PyData}{n m:Nat}(g:Gd d n)(h:n<=m):Gd d m:=⟨g.lay,g.sh,g.si,Nat.le_trans g.w h⟩
theorem d5.up{d:List PyData}{n m:Nat}(g:d5 d n)(h:n<=m):d5 d m:=⟨g.lay,g.sh,g.si,Nat.le_trans g.w h⟩
theorem Gd.repr{Z:St}{v:V}{d:PyData}{n:Nat}(g:Gd d n)(h:bw Z deep v=some d)(hn:n<=38000):oi Z [v]=some (.str d.shown,Z):=by
 have l:d.shown.length<=aq:=Nat.le_trans g.len (by show _<=1048576;lia)
 show bC (bC (bw Z deep v) λd=>if d.showable&&d.canLay0&&decide (d.shown.length<=aq) then some d.shown else .none) (λt=>some (V.str t,Z))=_
 rw [h]
 show bC (if d.showable&&d.canLay0&&decide (d.shown.length<=aq) then some d.shown else .none) (λt=>some (V.str t,Z))=_
 rw [g.lay,g.sh,decide_eq_true l];rfl
theorem Gd.eq{Z:St}{v w:V}{d:PyData}{n:Nat}(g:Gd d n)(h:bw Z deep v=some d)(G:bw Z deep w=some d):bf Z .Eq v w=some true/\bf Z .NotEq v w=some false:=by
 have e:zL Z v w=some true:=by
  unfold zL
  rw [h,G]
  show (if d.canLay0&&d.canLay0 then some (d.eqv d) else .none)=_
  rw [g.lay,SeqAt.eqv_refl d g.lay];rfl
 exact ⟨e,congrArg (Option.map (!·)) e⟩
theorem Gd.gB{i:Int}(h:i.natAbs<128):Gd (.int i) 7:=by
 have g:=Gd.int (i:=i) (Nat.lt_trans h (by decide))
 refine ⟨g.lay,g.sh,g.si,?_⟩
 show (if i==0 then 0 else i.natAbs.log2+1)<=7
 split
 ·exact Nat.zero_le _
 ·by_cases q:i.natAbs=0
  ·rw [q];decide
  ·exact (Nat.log2_lt q).mpr h
def xO(l:List V)(ds:List PyData):Prop:=∀(Z:St)(n:Nat),2<=n->de (bw Z n) l=some ds
theorem aP{α β:Type}{f:α->Option β}{x:α}{y:β}{l:List α}{r:List β}(h:f x=some y)(G:de f l=some r):de f (x::l)=some (y::r):=by
 show bC (f x) (λy=>bC (de f l) λr=>some (y::r))=_
 rw [h,G];rfl
theorem fP{Z:St}{k n:Nat}{l:List V}{ds:List PyData}(a:At Z k (.lst l))(h:de (bw Z n) l=some ds):bw Z (n+1) (.ref k)=some (.list ds):=by
 show oL (Z.f k) (λl=>(de (bw Z n) l).map PyData.list)=_
 rw [a.e]
 show (de (bw Z n) l).map PyData.list=_
 rw [h];rfl
def Sl.d(s:Sl):PyData:=Sl.casesOn s .none λs k=>.tuple [.str s,.int k]
def Sl.ok(s:Sl):Prop:=Sl.casesOn s True λs k=>strOk s=true/\s.length<=5/\k.natAbs<128
theorem Sl.data(Z:St)(n:Nat)(s:Sl):bw Z (n+1) s.v=some s.d:=by
 induction s using Sl.casesOn with
 | no=>rfl
 | «at» s k=>
  show (de (bw Z n) [.str s,.int k]).map PyData.tuple=_
  rw [aP (y:=.str s) (by induction n using Nat.casesOn<;>rfl) (aP (cC Z n k) rfl)];rfl
theorem Sl.gd{s:Sl}(h:s.ok):Gd s.d 20:=by
 induction s using Sl.casesOn with
 | no=>exact Gd.none.up (Nat.zero_le _)
 | «at» s k=>exact (Gd.tuple ((Gd.str h.1).up h.2.1 |>λa=>d5.cons a (d5.cons (Gd.gB h.2.2) d5.nil))).up (by decide)
structure HG (D:UD) (U:Ul) (d6 d7 d8:List PyData):Prop where
 ps:xO U.ps d6
 cp:xO U.cp d7
 pq:xO U.pq d8
 SI:d5 d6 40
 SJ:d5 d7 60
 SM:d5 d8 60
 nm:strOk D.nm=true/\D.nm.length<=5
 lc:D.lc.natAbs<128
 cc:D.cc.natAbs<128
 sl:D.sl.ok
 ap:D.ap.ok
 us:U.us.length<128
noncomputable def headD(D:UD)(n:Nat)(d6 d7 d8:List PyData):PyData:=.list [.str D.nm,.list d6,.int D.lc,.int D.cc,.list d7,.bool D.st,.bool D.ua,D.sl.d,D.ap.d,.list d8,.int (n:Nat)]
section
variable{d:Nat}{Z:St}{u i:Nat}{D:UD}{U:Ul}{d6 d7 d8:List PyData}
theorem HG.gd(h:HG D U d6 d7 d8):Gd (headD D U.us.length d6 d7 d8) 300:=
 (Gd.list (.cons ((Gd.str h.nm.1).up h.nm.2) (.cons (Gd.list h.SI) (.cons (Gd.gB h.lc) (.cons (Gd.gB h.cc) (.cons (Gd.list h.SJ) (.cons (Gd.bool _) (.cons (Gd.bool _) (.cons (Sl.gd h.sl) (.cons (Sl.gd h.ap) (.cons (Gd.list h.SM) (.cons (Gd.gB (i:=(U.us.length:Nat)) h.us) d5.nil)))))))))))).up (by decide)
theorem gy.head{D D':UD}(h:gy D D')(n:Nat)(d6 d7 d8:List PyData):headD D' n d6 d7 d8=headD D n d6 d7 d8:=by
 unfold headD;rw [h.nm,h.lc,h.cc,h.st,h.ua,h.sl,h.ap]
abbrev AP(D:UD):List V:=[.str D.nm,.ref D.pa,.int D.lc,.int D.cc,.ref D.ca,.bool D.st]
abbrev JG(D:UD)(n:Nat):List V:=[.bool D.ua,D.sl.v,D.ap.v,.ref D.pp,.int (n:Nat)]
noncomputable abbrev hS(Z:St)(D:UD)(n:Nat):St:=((Z.alloc (.lst (AP D))).alloc (.lst (JG D n))).alloc (.lst (AP D++JG D n))
theorem j9(Z:St)(D:UD)(n:Nat):Ext Z (hS Z D n):=((aQ _ _).al _).al _
theorem nq(a:UA Z u D U)(h:HG D U d6 d7 d8):run (d+1) "_law_head" [.ref u] Z=some (.str (headD D U.us.length d6 d7 d8).shown,hS Z D U.us.length):=by
 have a3:=a.x (j9 Z D U.us.length)
 have dt:bw (hS Z D U.us.length) deep (.ref (Z.n+2))=some (headD D U.us.length d6 d7 d8):=
  fP (n:=5) (ay ((Z.alloc (.lst (AP D))).alloc (.lst (JG D U.us.length))) _)
   (aP rfl (aP (fP a3.pa (h.ps _ 4 (by decide))) (aP rfl (aP rfl (aP (fP a3.ca (h.cp _ 4 (by decide))) (aP rfl (aP rfl (aP (Sl.data _ 4 _) (aP (Sl.data _ 4 _) (aP (fP a3.pp (h.pq _ 4 (by decide))) (aP rfl rfl)))))))))))
 have r:=h.gd.repr dt (by decide)
 have u1:=a.u.al (.lst (AP D))
 have t1:At ((Z.alloc (.lst (AP D))).alloc (.lst (JG D U.us.length))) Z.n (.lst (AP D)):=(ay _ _).al _
 have t2:At ((Z.alloc (.lst (AP D))).alloc (.lst (JG D U.us.length))) (Z.n+1) (.lst (JG D U.us.length)):=ay (Z.alloc (.lst (AP D))) _
 exact gF [eO a.u,eO a.u,eO a.u,eO a.u,eO a.u,eO a.u,eP (p:=6<=aq) (by decide),eO u1,eO u1,eV (Fi D),eO u1,eV (Fj D),eO u1,eO u1,eO (a.un.al (.lst (AP D))),eP (p:=5<=aq) (by decide),eO t1,eO t2,eP (p:=6+5<=aq) (by decide),eR r] (by kernel_rfl)
def QF(K:List CV):Ar->PyData
 | .no=>.none
 | .i k=>.int k
 | .c x=>.int (K.idxOf x:Nat)
def Fz(K:List CV)(r:CR):PyData:=.tuple [.int r.1,QF K r.2]
theorem qE(Z:St)(n:Nat)(K:List CV)(r:CR):bw Z (n+1) (rv K r)=some (Fz K r):=by
 show (de (bw Z n) [.int r.1,r.2.v K]).map PyData.tuple=_
 rw [aP (cC Z n r.1) (aP (y:=QF K r.2) (by cases r.2<;>induction n using Nat.casesOn<;>rfl) rfl)];rfl
theorem lG(Z:St)(n:Nat)(x:CV):bw Z n x.v=some (Fw x):=by induction x using CV.casesOn<;>induction n using Nat.casesOn<;>rfl
def MF(h:Hd):PyData:=.tuple [.int h.s,.int h.e,.int h.t,.int h.d,.bool h.f]
theorem qF(Z:St)(n:Nat)(h:Hd):bw Z (n+1) h.v=some (MF h):=by
 show (de (bw Z n) [.int h.s,.int h.e,.int h.t,.int h.d,.bool h.f]).map PyData.tuple=_
 rw [aP (cC Z n _) (aP (cC Z n _) (aP (cC Z n _) (aP (cC Z n _) (aP (y:=.bool h.f) (by induction n using Nat.casesOn<;>rfl) rfl))))];rfl
structure CG (K:List CV) (code:List CR):Prop where
 o:∀r,r∈code->r.1.natAbs<128/\∀k,r.2=.i k->k.natAbs<128
 k:K.length<60
 l:code.length<60
theorem CG.row{K:List CV}{code:List CR}(g:CG K code)(hc:∀r,r∈code->mZ K r){r:CR}(h:r∈code):Gd (Fz K r) 16:=by
 have ga:Gd (QF K r.2) 7:=by
  cases e:r.2 with
  | no=>exact Gd.none.up (Nat.zero_le _)
  | i k=>exact Gd.gB ((g.o r h).2 k e)
  | c x=>exact Gd.gB (i:=(K.idxOf x:Nat)) (Nat.lt_trans (List.idxOf_lt_length_of_mem (hc r h x e)) (Nat.lt_trans g.k (by decide)))
 exact (Gd.tuple (.cons (Gd.gB (g.o r h).1) (.cons ga d5.nil))).up (by decide)
theorem CG.code{K:List CV}{code:List CR}(g:CG K code)(hc:∀r,r∈code->mZ K r):d5 (code.map (Fz K)) 1020:=by
 have:=d5.all (l:=code.map (Fz K)) (n:=16) λd hd=>by
  refine aO (List.mem_map.mp hd) λr hr e=>?_
  rw [<-e];exact g.row hc hr
 rw [List.length_map] at this
 exact this.up (by have:=g.l;lia)
end
section
variable{d:Nat}{Z:St}{u i:Nat}{D Di:UD}{U:Ul}{d6 d7 d8:List PyData}{ci:List CR}{Ki:List CV}
theorem FA:tq (λx:CV=>Gd (Fw x) 80) KS:=⟨Gd.int (by decide),(Gd.str (bT _)).up (by decide+kernel),Gd.int (by decide),Gd.int (by decide),Gd.int (by decide),(Gd.str (bT _)).up (by decide+kernel),(Gd.str (bT _)).up (by decide+kernel),trivial⟩
structure MG (h:Hd):Prop where
 s:h.s.natAbs<128
 e:h.e.natAbs<128
 t:h.t.natAbs<128
 d:h.d.natAbs<128
theorem MG.gd{h:Hd}(g:MG h):Gd (MF h) 40:=(Gd.tuple (.cons (Gd.gB g.s) (.cons (Gd.gB g.e) (.cons (Gd.gB g.t) (.cons (Gd.gB g.d) (.cons (Gd.bool _) d5.nil)))))).up (by decide)
structure WG (D:UD) (U:Ul) (d6 d7 d8:List PyData):Prop where
 h:HG D U d6 d7 d8
 c:CG U.K U.code
 o:∀r,r∈U.code->mZ U.K r
 k:∀x,x∈U.K->x∈KS
 l:(∀x,x∈U.L->x.natAbs<128)/\U.L.length<60
 hd:(∀x,x∈U.hs->MG x)/\U.hs.length<10
noncomputable def NI(D:UD)(U:Ul)(d6 d7 d8:List PyData)(Ki:List CV)(ci:List CR):PyData:=
 .list [.str (headD D U.us.length d6 d7 d8).shown,.list (U.code.map (Fz U.K)),.list (U.K.map Fw),.list (U.L.map .int),.list (U.hs.map MF),.list [.list (ci.map (Fz Ki))]]
theorem d5.map{α:Type}{f:α->PyData}{l:List α}{n:Nat}(h:∀x,x∈l->Gd (f x) n):d5 (l.map f) ((n+1)*l.length):=by
 have:=d5.all (l:=l.map f) (n:=n) λd hd=>by
  refine aO (List.mem_map.mp hd) λx hx e=>?_
  rw [<-e];exact h x hx
 rw [List.length_map] at this
 exact this
theorem Cb(w:WG D U d6 d7 d8)(g:CG Ki ci)(o:∀r,r∈ci->mZ Ki r):Gd (NI D U d6 d7 d8 Ki ci) 30000:=by
 have h1:Gd (.str (headD D U.us.length d6 d7 d8).shown) 8125:=(Gd.str (eH _ w.h.gd.lay)).up (Nat.le_trans w.h.gd.len (by decide))
 have h2:=Gd.list (w.c.code w.o)
 have h3:=(Gd.list (d5.map (f:=Fw) (l:=U.K) λx hx=>FA.of x (w.k x hx))).up (m:=4860) (by have:=w.c.k;lia)
 have h4:=(Gd.list (d5.map (f:=PyData.int) (l:=U.L) λx hx=>Gd.gB (w.l.1 x hx))).up (m:=480) (by have:=w.l.2;lia)
 have h5:=(Gd.list (d5.map (f:=MF) (l:=U.hs) λx hx=>(w.hd.1 x hx).gd)).up (m:=410) (by have:=w.hd.2;lia)
 have h6:=Gd.list (d5.cons (Gd.list (g.code o)) d5.nil)
 exact (Gd.list (.cons h1 (.cons h2 (.cons h3 (.cons h4 (.cons h5 (.cons h6 d5.nil))))))).up (by decide)
noncomputable abbrev QG(Z:St)(D Di:UD)(U:Ul)(d6 d7 d8:List PyData):St:=((hS Z D U.us.length).alloc (.lst [.ref Di.co])).alloc (.lst [.str (headD D U.us.length d6 d7 d8).shown,.ref D.co,.ref D.cn,.ref D.li,.ref D.ha,.ref (hS Z D U.us.length).n])
theorem xP(a:UA Z u D U)(w:WG D U d6 d7 d8)(e:U.us=[.ref i])(hi:At Z i Di.o)(hc:At Z Di.co (.lst (ci.map (rv Ki))))(g:CG Ki ci)(o:∀r,r∈ci->mZ Ki r):
  ∃J,run (d+2) "_law_shown" [.ref u] Z=some (.str (NI D U d6 d7 d8 Ki ci).shown,J)/\Ext Z J:=by
 have C:=j9 Z D U.us.length
 have x3:Ext Z (QG Z D Di U d6 d7 d8):=(C.al _).al _
 have a3:=a.x x3
 have un:At Z D.un (.lst [.ref i]):=by have:=a.un;rw [e] at this;exact this
 have l3:At (QG Z D Di U d6 d7 d8) (hS Z D U.us.length).n (.lst [.ref Di.co]):=(ay _ _).al _
 have dt:bw (QG Z D Di U d6 d7 d8) deep (.ref ((hS Z D U.us.length).n+1))=some (NI D U d6 d7 d8 Ki ci):=
  fP (n:=5) (ay ((hS Z D U.us.length).alloc (.lst [.ref Di.co])) _) (aP rfl (aP (bI a3.co λr _=>qE _ 3 _ r) (aP (bI a3.cn λx _=>lG _ 4 x) (aP (bI a3.li λx _=>cC _ 4 x) (aP (bI a3.ha λx _=>qF _ 3 x)
   (aP (fP (n:=4) l3 (aP (bI (hc.x x3) λr _=>qE _ 2 _ r) rfl)) rfl))))))
 have r:=(Cb w g o).repr dt (by decide)
 have u1:=a.u.x C
 have NJ:=un.x C
 exact ⟨_,gF [eC (nq (d:=d) a w.h),eO u1,eO u1,eO u1,eO u1,eO u1,eO NJ,eO (hi.x C),eO NJ,eP (p:=6<=aq) (by decide),eR r] (by kernel_rfl),x3⟩
structure MH (K:List CV) (r:CR):Prop where
 o:r.1∈cU
 k:jJ r.1=true->∃x,r.2=.c x/\x∈K
 n:jJ r.1=false->∀x,r.2≠ .c x
abbrev MI:Expr:=dQ (dz "_law_valued" 0)
theorem Cc(a:UA Z u D U)(ok:∀r,r∈U.code->MH U.K r)(lK:U.K.length<4000)(lc:U.code.length<4000):run (d+1) "_law_valued" [.ref u] Z=some (.ref Z.n,Z.alloc (.lst (U.code.map vr))):=by
 have L:∃acc J,cu (.lst D.co) (compTurn (i8 gL (cL d) 38) (ki gL (cL d) 38) (qo MI) (vM MI) (vL MI) (cX (gm MI) (mk "_law_valued" [("unit",.ref u)]))) aM 0 [] Z=some (acc,J)/\(J=Z/\acc=U.code.map vr):=
  jo (g:=rv U.K) (L:=U.code) (λpre acc J=>J=Z/\acc=pre.map vr) (λpre acc J i=>by rw [i.1];exact a.co.e) (λpre r rest acc J e i=>by
   obtain ⟨i1,i2⟩:=i
   subst i1;subst i2
   have hr:=ok r (by rw [e];exact List.mem_append_right _ List.mem_cons_self)
   refine ⟨some (vr r),J,?_,rfl,by rw [List.map_append];rfl⟩
   obtain ⟨op,ar⟩:=r
   cases hk:jJ op with
   | true=>
    refine aO (hr.k hk) λx ex hx=>?_
    have ex:ar=.c x:=ex
    subst ex
    have b:=(tu hr.o J).trans (congrArg some hk)
    have hv:=vN hx lK
    exact gC [eB b,eO a.u,eO a.cn,eV hv] (by kernel_rfl)
   | false=>
    have b:=(tu hr.o J).trans (congrArg some hk)
    have hn:=hr.n hk
    induction ar using Ar.casesOn with
    | no=>exact gC [eB b] (by kernel_rfl)
    | i k=>exact gC [eB b] (by kernel_rfl)
    | c x=>exact absurd rfl (hn x)) (Nat.lt_trans lc (by decide)) ⟨rfl,rfl⟩
 refine lY (L) λacc J l e1 e2=>?_
 subst e1;subst e2
 have cg:=lB (d:=d) (n:=38) (Z:=J) (e:=MI) (m:=mk "_law_valued" [("unit",.ref u)]) (by kernel_rfl) (show aG _=some (Src.lst D.co,J) from congrArg aG (gX (Z:=J) (J:=J) (v:=.val (.ref D.co)) [eO a.u] (by kernel_rfl))) (by kernel_rfl) l
 exact gF [eX cg] (by kernel_rfl)
end
theorem rA{Z:St}{l:List Op}{j i:Nat}(h:(G7 (l.drop j) i).isSome=true)(q:Nat.blt i (By (l.drop j))=true):At (ap Z (l.drop j)) (Z.n+i) (rO l j i):=⟨rN h,by rw [Bz];exact Nat.add_lt_add_left (Nat.le_of_ble_eq_true q) _⟩
noncomputable def dD(n:Nat)(nm:Str)(pa:Nat):List Op:=[.pu 0 (.ins [("name",.str nm),("params",.ref pa),("code",.ref (n+1)),("consts",.ref (n+2)),("units",.ref (n+3)),("handlers",.ref (n+4)),("lines",.ref (n+5)),("local_count",.int 0),("cell_count",.int 0),("captures",.ref (n+6)),("is_strict",.bool false),("uses_arguments",.bool false),("self_slot",.none),("arguments_place",.none),("param_places",.ref (n+7))]),.al (.lst []),.pu 0 (.ins [("name",.str nm),("params",.ref pa),("code",.ref (n+1)),("consts",.ref (n+2)),("units",.ref (n+3)),("handlers",.ref (n+4)),("lines",.ref (n+5)),("local_count",.int 0),("cell_count",.int 0),("captures",.ref (n+6)),("is_strict",.bool false),("uses_arguments",.bool false),("self_slot",.none),("arguments_place",.none)]),.pu 0 (.ins [("name",.str nm),("params",.ref pa),("code",.ref (n+1)),("consts",.ref (n+2)),("units",.ref (n+3)),("handlers",.ref (n+4)),("lines",.ref (n+5)),("local_count",.int 0),("cell_count",.int 0),("captures",.ref (n+6)),("is_strict",.bool false),("uses_arguments",.bool false),("self_slot",.none)]),.pu 0 (.ins [("name",.str nm),("params",.ref pa),("code",.ref (n+1)),("consts",.ref (n+2)),("units",.ref (n+3)),("handlers",.ref (n+4)),("lines",.ref (n+5)),("local_count",.int 0),("cell_count",.int 0),("captures",.ref (n+6)),("is_strict",.bool false),("uses_arguments",.bool false)]),.pu 0 (.ins [("name",.str nm),("params",.ref pa),("code",.ref (n+1)),("consts",.ref (n+2)),("units",.ref (n+3)),("handlers",.ref (n+4)),("lines",.ref (n+5)),("local_count",.int 0),("cell_count",.int 0),("captures",.ref (n+6)),("is_strict",.bool false)]),.pu 0 (.ins [("name",.str nm),("params",.ref pa),("code",.ref (n+1)),("consts",.ref (n+2)),("units",.ref (n+3)),("handlers",.ref (n+4)),("lines",.ref (n+5)),("local_count",.int 0),("cell_count",.int 0),("captures",.ref (n+6))]),.al (.lst []),.pu 0 (.ins [("name",.str nm),("params",.ref pa),("code",.ref (n+1)),("consts",.ref (n+2)),("units",.ref (n+3)),("handlers",.ref (n+4)),("lines",.ref (n+5)),("local_count",.int 0),("cell_count",.int 0)]),.pu 0 (.ins [("name",.str nm),("params",.ref pa),("code",.ref (n+1)),("consts",.ref (n+2)),("units",.ref (n+3)),("handlers",.ref (n+4)),("lines",.ref (n+5)),("local_count",.int 0)]),.pu 0 (.ins [("name",.str nm),("params",.ref pa),("code",.ref (n+1)),("consts",.ref (n+2)),("units",.ref (n+3)),("handlers",.ref (n+4)),("lines",.ref (n+5))]),.al (.lst []),.pu 0 (.ins [("name",.str nm),("params",.ref pa),("code",.ref (n+1)),("consts",.ref (n+2)),("units",.ref (n+3)),("handlers",.ref (n+4))]),.al (.lst []),.pu 0 (.ins [("name",.str nm),("params",.ref pa),("code",.ref (n+1)),("consts",.ref (n+2)),("units",.ref (n+3))]),.al (.lst []),.pu 0 (.ins [("name",.str nm),("params",.ref pa),("code",.ref (n+1)),("consts",.ref (n+2))]),.al (.lst []),.pu 0 (.ins [("name",.str nm),("params",.ref pa),("code",.ref (n+1))]),.al (.lst []),.pu 0 (.ins [("name",.str nm),("params",.ref pa)]),.pu 0 (.ins [("name",.str nm)]),.al (.ins [])]
noncomputable def Ic(Z:St)(nm:Str)(pa:Nat):List Ev:=[eO (rA (Z:=Z) (l:=dD Z.n nm pa) (j:=22) (i:=0) (by kernel_rfl) (by kernel_rfl)),eO (rA (Z:=Z) (l:=dD Z.n nm pa) (j:=21) (i:=0) (by kernel_rfl) (by kernel_rfl)),eP (p:=0<=aq) (Nat.zero_le _),eO (rA (Z:=Z) (l:=dD Z.n nm pa) (j:=19) (i:=0) (by kernel_rfl) (by kernel_rfl)),eP (p:=0<=aq) (Nat.zero_le _),eO (rA (Z:=Z) (l:=dD Z.n nm pa) (j:=17) (i:=0) (by kernel_rfl) (by kernel_rfl)),eP (p:=0<=aq) (Nat.zero_le _),eO (rA (Z:=Z) (l:=dD Z.n nm pa) (j:=15) (i:=0) (by kernel_rfl) (by kernel_rfl)),eP (p:=0<=aq) (Nat.zero_le _),eO (rA (Z:=Z) (l:=dD Z.n nm pa) (j:=13) (i:=0) (by kernel_rfl) (by kernel_rfl)),eP (p:=0<=aq) (Nat.zero_le _),eO (rA (Z:=Z) (l:=dD Z.n nm pa) (j:=11) (i:=0) (by kernel_rfl) (by kernel_rfl)),eO (rA (Z:=Z) (l:=dD Z.n nm pa) (j:=10) (i:=0) (by kernel_rfl) (by kernel_rfl)),eO (rA (Z:=Z) (l:=dD Z.n nm pa) (j:=9) (i:=0) (by kernel_rfl) (by kernel_rfl)),eP (p:=0<=aq) (Nat.zero_le _),eO (rA (Z:=Z) (l:=dD Z.n nm pa) (j:=7) (i:=0) (by kernel_rfl) (by kernel_rfl)),eO (rA (Z:=Z) (l:=dD Z.n nm pa) (j:=6) (i:=0) (by kernel_rfl) (by kernel_rfl)),eO (rA (Z:=Z) (l:=dD Z.n nm pa) (j:=5) (i:=0) (by kernel_rfl) (by kernel_rfl)),eO (rA (Z:=Z) (l:=dD Z.n nm pa) (j:=4) (i:=0) (by kernel_rfl) (by kernel_rfl)),eO (rA (Z:=Z) (l:=dD Z.n nm pa) (j:=3) (i:=0) (by kernel_rfl) (by kernel_rfl)),eP (p:=0<=aq) (Nat.zero_le _),eO (rA (Z:=Z) (l:=dD Z.n nm pa) (j:=1) (i:=0) (by kernel_rfl) (by kernel_rfl))]
def JH(n:Nat)(nm:Str)(pa:Nat):UD:=⟨nm,pa,n+1,n+2,n+3,n+4,n+5,0,0,n+6,false,false,.no,.no,n+7⟩
structure Ds (D:UD):Prop where
 c:D.pa≠D.cn/\D.co≠D.cn/\D.un≠D.cn/\D.ha≠D.cn/\D.li≠D.cn/\D.ca≠D.cn/\D.pp≠D.cn
 u:D.pa≠D.un/\D.co≠D.un/\D.ha≠D.un/\D.li≠D.un/\D.ca≠D.un/\D.pp≠D.un
structure LS (aw:St) (bx lb:Nat) (ns:List Int) (u:Nat) (D:UD) (U:Ul) (Z:St):Prop where
 x:bp bx aw Z
 b:∃t,Bx bx lb ns t Z
 a:UA Z u D U
 n:aw.n<=u/\aw.n<=D.pa/\aw.n<=D.co/\aw.n<=D.cn/\aw.n<=D.un/\aw.n<=D.ha/\aw.n<=D.li/\aw.n<=D.ca/\aw.n<=D.pp
 ds:Ds D
 bl:bx<aw.n/\lb<aw.n
section
variable{d:Nat}{Z aw ao:St}{bx lb u k:Nat}{ns:List Int}{D:UD}{U:Ul}{many r:Int}{o:af}{t:Int}
theorem Bx.al(B:Bx bx lb ns t Z)(o:af):Bx bx lb ns t (Z.alloc o):=⟨B.b.al o,B.l.al o,B.ne,B.n⟩
theorem UA.al(a:UA Z u D U)(o:af):UA (Z.alloc o) u D U:=a.x (aQ _ _)
theorem UA.pu(a:UA Z u D U)(h:u≠k/\D.pa≠k/\D.co≠k/\D.cn≠k/\D.un≠k/\D.ha≠k/\D.li≠k/\D.ca≠k/\D.pp≠k):UA (Z.put k o) u D U:=
 ⟨a.u.put h.1,a.pa.put h.2.1,a.cn.put h.2.2.2.1,a.co.put h.2.2.1,a.un.put h.2.2.2.2.1,a.ha.put h.2.2.2.2.2.1,a.li.put h.2.2.2.2.2.2.1,a.ca.put h.2.2.2.2.2.2.2.1,a.pp.put h.2.2.2.2.2.2.2.2,a.ne⟩
theorem LS.al(L:LS aw bx lb ns u D U Z)(o:af):LS aw bx lb ns u D U (Z.alloc o):=⟨L.x.al o,L.b.imp λt B=>B.al o,L.a.al o,L.n,L.ds,L.bl⟩
theorem LS.Ie(L:LS aw bx lb ns u D U Z){k:Nat}(h:k<aw.n):u≠k/\D.pa≠k/\D.co≠k/\D.cn≠k/\D.un≠k/\D.ha≠k/\D.li≠k/\D.ca≠k/\D.pp≠k:=by
 have:=L.n;lia
theorem LS.box(L:LS aw bx lb ns u D U Z)(B:Bx bx lb ns t Z)(t':Int):LS aw bx lb ns u D U (Z.put bx (.lst [.ref lb,.int t'])):=
 ⟨L.x.fR,⟨t',At.self B.b.lt _,B.l.put B.ne,B.ne,B.n⟩,L.a.pu (L.Ie L.bl.1),L.n,L.ds,L.bl⟩
theorem LS.take(L:LS aw bx lb ns u D U Z)(hm:0<many):∃r t',run (d+1) "_law_take" [.ref bx,.int many] Z=some (.int r,Z.put bx (.lst [.ref lb,.int t']))/\0<=r/\r<many/\LS aw bx lb ns u D U (Z.put bx (.lst [.ref lb,.int t'])):=by
 obtain ⟨t,B⟩:=L.b
 refine aO (vV (d:=d) B hm) λr e h=>?_
 exact ⟨r,t+1,e,h.1,h.2,L.box B _⟩
theorem At.box{k:Nat}{t':Int}(h:At Z k o)(n:k≠bx):At (Z.put bx (.lst [.ref lb,.int t'])) k o:=h.put n
theorem LS.self(L:LS aw bx lb ns u D U Z)(D':UD)(e:D'.pa=D.pa/\D'.co=D.co/\D'.cn=D.cn/\D'.un=D.un/\D'.ha=D.ha/\D'.li=D.li/\D'.ca=D.ca/\D'.pp=D.pp):LS aw bx lb ns u D' U (Z.put u D'.o):=by
 refine J6 (e) λe1 e2 e3 e4 e5 e6 e7 e8=>?_
 have a:=L.a
 have ne:=a.ne
 refine ⟨L.x.pu L.n.1,?_,?_,by rw [e1,e2,e3,e4,e5,e6,e7,e8];exact L.n,⟨by rw [e1,e2,e3,e4,e5,e6,e7,e8];exact L.ds.c,by rw [e1,e2,e4,e5,e6,e7,e8];exact L.ds.u⟩,L.bl⟩
 ·obtain ⟨t,B⟩:=L.b
  have h1:=(L.Ie L.bl.1).1
  have h2:=(L.Ie L.bl.2).1
  exact ⟨t,B.b.put h1.symm,B.l.put h2.symm,B.ne,B.n⟩
 ·refine ⟨At.self a.u.lt _,?_,?_,?_,?_,?_,?_,?_,?_,by rw [e1,e2,e3,e4,e5,e6,e7,e8];exact ne⟩
  ·rw [e1];exact a.pa.put ne.1
  ·rw [e3];exact a.cn.put ne.2.1
  ·rw [e2];exact a.co.put ne.2.2.1
  ·rw [e4];exact a.un.put ne.2.2.2.1
  ·rw [e5];exact a.ha.put ne.2.2.2.2.1
  ·rw [e6];exact a.li.put ne.2.2.2.2.2.1
  ·rw [e7];exact a.ca.put ne.2.2.2.2.2.2.1
  ·rw [e8];exact a.pp.put ne.2.2.2.2.2.2.2
structure Lw (u:Nat) (D:UD) (k:Nat):Prop where
 u:u<k
 pa:D.pa<k
 co:D.co<k
 cn:D.cn<k
 un:D.un<k
 ha:D.ha<k
 li:D.li<k
 ca:D.ca<k
 pp:D.pp<k
theorem LS.lw(L:LS aw bx lb ns u D U Z):Lw u D Z.n:=⟨L.a.u.lt,L.a.pa.lt,L.a.co.lt,L.a.cn.lt,L.a.un.lt,L.a.ha.lt,L.a.li.lt,L.a.ca.lt,L.a.pp.lt⟩
theorem Lw.up{j:Nat}(l:Lw u D k)(h:k<=j):Lw u D j:=⟨Nat.lt_of_lt_of_le l.u h,Nat.lt_of_lt_of_le l.pa h,Nat.lt_of_lt_of_le l.co h,Nat.lt_of_lt_of_le l.cn h,Nat.lt_of_lt_of_le l.un h,Nat.lt_of_lt_of_le l.ha h,Nat.lt_of_lt_of_le l.li h,Nat.lt_of_lt_of_le l.ca h,Nat.lt_of_lt_of_le l.pp h⟩
theorem LS.zB(L:LS aw bx lb ns u D U Z)(o:af):∃t,Bx bx lb ns t (Z.put u o):=by
 obtain ⟨t,B⟩:=L.b
 have h1:=(L.Ie L.bl.1).1
 have h2:=(L.Ie L.bl.2).1
 exact ⟨t,B.b.put h1.symm,B.l.put h2.symm,B.ne,B.n⟩
theorem LS.Ig(L:LS aw bx lb ns u D U Z){l:List V}(hk:At Z k (.lst l))(w:Lw u D k)(h0:aw.n<=k):LS aw bx lb ns u {D with ca:=k} {U with cp:=l} (Z.put u ({D with ca:=k}:UD).o):=by
 have a:=L.a
 have q:k≠u:=Nat.ne_of_gt w.u
 have n:=L.n
 have c:=L.ds.c
 have e:=L.ds.u
 refine ⟨L.x.pu L.n.1,L.zB _,⟨At.self a.u.lt _,a.pa.put a.ne.1,a.cn.put a.ne.2.1,a.co.put a.ne.2.2.1,a.un.put a.ne.2.2.2.1,a.ha.put a.ne.2.2.2.2.1,a.li.put a.ne.2.2.2.2.2.1,hk.put q,a.pp.put a.ne.2.2.2.2.2.2.2,⟨a.ne.1,a.ne.2.1,a.ne.2.2.1,a.ne.2.2.2.1,a.ne.2.2.2.2.1,a.ne.2.2.2.2.2.1,q,a.ne.2.2.2.2.2.2.2⟩⟩,⟨n.1,n.2.1,n.2.2.1,n.2.2.2.1,n.2.2.2.2.1,n.2.2.2.2.2.1,n.2.2.2.2.2.2.1,h0,n.2.2.2.2.2.2.2.2⟩,⟨⟨c.1,c.2.1,c.2.2.1,c.2.2.2.1,c.2.2.2.2.1,Nat.ne_of_gt w.cn,c.2.2.2.2.2.2⟩,⟨e.1,e.2.1,e.2.2.1,e.2.2.2.1,Nat.ne_of_gt w.un,e.2.2.2.2.2⟩⟩,L.bl⟩
theorem LS.Ih(L:LS aw bx lb ns u D U Z){l:List V}(hk:At Z k (.lst l))(w:Lw u D k)(h0:aw.n<=k):LS aw bx lb ns u {D with pp:=k} {U with pq:=l} (Z.put u ({D with pp:=k}:UD).o):=by
 have a:=L.a
 have q:k≠u:=Nat.ne_of_gt w.u
 have n:=L.n
 have c:=L.ds.c
 have e:=L.ds.u
 refine ⟨L.x.pu L.n.1,L.zB _,⟨At.self a.u.lt _,a.pa.put a.ne.1,a.cn.put a.ne.2.1,a.co.put a.ne.2.2.1,a.un.put a.ne.2.2.2.1,a.ha.put a.ne.2.2.2.2.1,a.li.put a.ne.2.2.2.2.2.1,a.ca.put a.ne.2.2.2.2.2.2.1,hk.put q,⟨a.ne.1,a.ne.2.1,a.ne.2.2.1,a.ne.2.2.2.1,a.ne.2.2.2.2.1,a.ne.2.2.2.2.2.1,a.ne.2.2.2.2.2.2.1,q⟩⟩,⟨n.1,n.2.1,n.2.2.1,n.2.2.2.1,n.2.2.2.2.1,n.2.2.2.2.2.1,n.2.2.2.2.2.2.1,n.2.2.2.2.2.2.2.1,h0⟩,⟨⟨c.1,c.2.1,c.2.2.1,c.2.2.2.1,c.2.2.2.2.1,c.2.2.2.2.2.1,Nat.ne_of_gt w.cn⟩,⟨e.1,e.2.1,e.2.2.1,e.2.2.2.1,e.2.2.2.2.1,Nat.ne_of_gt w.un⟩⟩,L.bl⟩
theorem LS.Ii(L:LS aw bx lb ns u D U Z){l:List CV}(hk:At Z k (.lst (l.map CV.v)))(w:Lw u D k)(h0:aw.n<=k)(he:U.code=[]):LS aw bx lb ns u {D with cn:=k} {U with K:=l} (Z.put u ({D with cn:=k}:UD).o):=by
 have a:=L.a
 have q:k≠u:=Nat.ne_of_gt w.u
 have n:=L.n
 have c:=L.ds.c
 have e:=L.ds.u
 refine ⟨L.x.pu L.n.1,L.zB _,⟨At.self a.u.lt _,a.pa.put a.ne.1,hk.put q,(by have h:=a.co.put (j:=u) (o':=({D with cn:=k}:UD).o) a.ne.2.2.1;rw [he] at h;exact he.symm▸h),a.un.put a.ne.2.2.2.1,a.ha.put a.ne.2.2.2.2.1,a.li.put a.ne.2.2.2.2.2.1,a.ca.put a.ne.2.2.2.2.2.2.1,a.pp.put a.ne.2.2.2.2.2.2.2,⟨a.ne.1,q,a.ne.2.2.1,a.ne.2.2.2.1,a.ne.2.2.2.2.1,a.ne.2.2.2.2.2.1,a.ne.2.2.2.2.2.2.1,a.ne.2.2.2.2.2.2.2⟩⟩,⟨n.1,n.2.1,n.2.2.1,h0,n.2.2.2.2.1,n.2.2.2.2.2.1,n.2.2.2.2.2.2.1,n.2.2.2.2.2.2.2.1,n.2.2.2.2.2.2.2.2⟩,⟨⟨Nat.ne_of_lt w.pa,Nat.ne_of_lt w.co,Nat.ne_of_lt w.un,Nat.ne_of_lt w.ha,Nat.ne_of_lt w.li,Nat.ne_of_lt w.ca,Nat.ne_of_lt w.pp⟩,⟨e.1,e.2.1,e.2.2.1,e.2.2.2.1,e.2.2.2.2.1,e.2.2.2.2.2⟩⟩,L.bl⟩
theorem LS.Ij(L:LS aw bx lb ns u D U Z){l:List CR}(hk:At Z k (.lst (l.map (rv U.K))))(w:Lw u D k)(h0:aw.n<=k):LS aw bx lb ns u {D with co:=k} {U with code:=l} (Z.put u ({D with co:=k}:UD).o):=by
 have a:=L.a
 have q:k≠u:=Nat.ne_of_gt w.u
 have n:=L.n
 have c:=L.ds.c
 have e:=L.ds.u
 refine ⟨L.x.pu L.n.1,L.zB _,⟨At.self a.u.lt _,a.pa.put a.ne.1,a.cn.put a.ne.2.1,hk.put q,a.un.put a.ne.2.2.2.1,a.ha.put a.ne.2.2.2.2.1,a.li.put a.ne.2.2.2.2.2.1,a.ca.put a.ne.2.2.2.2.2.2.1,a.pp.put a.ne.2.2.2.2.2.2.2,⟨a.ne.1,a.ne.2.1,q,a.ne.2.2.2.1,a.ne.2.2.2.2.1,a.ne.2.2.2.2.2.1,a.ne.2.2.2.2.2.2.1,a.ne.2.2.2.2.2.2.2⟩⟩,⟨n.1,n.2.1,h0,n.2.2.2.1,n.2.2.2.2.1,n.2.2.2.2.2.1,n.2.2.2.2.2.2.1,n.2.2.2.2.2.2.2.1,n.2.2.2.2.2.2.2.2⟩,⟨⟨c.1,Nat.ne_of_gt w.cn,c.2.2.1,c.2.2.2.1,c.2.2.2.2.1,c.2.2.2.2.2.1,c.2.2.2.2.2.2⟩,⟨e.1,Nat.ne_of_gt w.un,e.2.2.1,e.2.2.2.1,e.2.2.2.2.1,e.2.2.2.2.2⟩⟩,L.bl⟩
theorem LS.Cd(L:LS aw bx lb ns u D U Z){l:List Int}(hk:At Z k (.lst (l.map V.int)))(w:Lw u D k)(h0:aw.n<=k):LS aw bx lb ns u {D with li:=k} {U with L:=l} (Z.put u ({D with li:=k}:UD).o):=by
 have a:=L.a
 have q:k≠u:=Nat.ne_of_gt w.u
 have n:=L.n
 have c:=L.ds.c
 have e:=L.ds.u
 refine ⟨L.x.pu L.n.1,L.zB _,⟨At.self a.u.lt _,a.pa.put a.ne.1,a.cn.put a.ne.2.1,a.co.put a.ne.2.2.1,a.un.put a.ne.2.2.2.1,a.ha.put a.ne.2.2.2.2.1,hk.put q,a.ca.put a.ne.2.2.2.2.2.2.1,a.pp.put a.ne.2.2.2.2.2.2.2,⟨a.ne.1,a.ne.2.1,a.ne.2.2.1,a.ne.2.2.2.1,a.ne.2.2.2.2.1,q,a.ne.2.2.2.2.2.2.1,a.ne.2.2.2.2.2.2.2⟩⟩,⟨n.1,n.2.1,n.2.2.1,n.2.2.2.1,n.2.2.2.2.1,n.2.2.2.2.2.1,h0,n.2.2.2.2.2.2.2.1,n.2.2.2.2.2.2.2.2⟩,⟨⟨c.1,c.2.1,c.2.2.1,c.2.2.2.1,Nat.ne_of_gt w.cn,c.2.2.2.2.2.1,c.2.2.2.2.2.2⟩,⟨e.1,e.2.1,e.2.2.1,Nat.ne_of_gt w.un,e.2.2.2.2.1,e.2.2.2.2.2⟩⟩,L.bl⟩
theorem LS.Ik(L:LS aw bx lb ns u D U Z){l:List Hd}(hk:At Z k (.lst (l.map Hd.v)))(w:Lw u D k)(h0:aw.n<=k):LS aw bx lb ns u {D with ha:=k} {U with hs:=l} (Z.put u ({D with ha:=k}:UD).o):=by
 have a:=L.a
 have q:k≠u:=Nat.ne_of_gt w.u
 have n:=L.n
 have c:=L.ds.c
 have e:=L.ds.u
 refine ⟨L.x.pu L.n.1,L.zB _,⟨At.self a.u.lt _,a.pa.put a.ne.1,a.cn.put a.ne.2.1,a.co.put a.ne.2.2.1,a.un.put a.ne.2.2.2.1,hk.put q,a.li.put a.ne.2.2.2.2.2.1,a.ca.put a.ne.2.2.2.2.2.2.1,a.pp.put a.ne.2.2.2.2.2.2.2,⟨a.ne.1,a.ne.2.1,a.ne.2.2.1,a.ne.2.2.2.1,q,a.ne.2.2.2.2.2.1,a.ne.2.2.2.2.2.2.1,a.ne.2.2.2.2.2.2.2⟩⟩,⟨n.1,n.2.1,n.2.2.1,n.2.2.2.1,n.2.2.2.2.1,h0,n.2.2.2.2.2.2.1,n.2.2.2.2.2.2.2.1,n.2.2.2.2.2.2.2.2⟩,⟨⟨c.1,c.2.1,c.2.2.1,Nat.ne_of_gt w.cn,c.2.2.2.2.1,c.2.2.2.2.2.1,c.2.2.2.2.2.2⟩,⟨e.1,e.2.1,Nat.ne_of_gt w.un,e.2.2.2.1,e.2.2.2.2.1,e.2.2.2.2.2⟩⟩,L.bl⟩
end
def Kp(u bx:Nat)(Z J:St):Prop:=∀k o,At Z k o->k≠u->k≠bx->At J k o
noncomputable abbrev tC(bx:Nat)(dp:Int)(u du sp nw:Nat):Ms:=mk "_law_unit" [("box",.ref bx),("deep",.int dp),("unit",.ref u),("due",.ref du),("spans",.ref sp),("news",.ref nw)]
section
variable{d:Nat}{Z aw ao:St}{bx lb u k du sp nw:Nat}{ns:List Int}{D:UD}{U:Ul}{many r:Int}{o:af}{t dp:Int}
theorem three{P:Int->Prop}{r:Int}(h0:0<=r)(h1:r<3)(p0:P 0)(p1:P 1)(p2:P 2):P r:=by
 have:r=0\/r=1\/r=2:=by lia
 rcases this with rfl | rfl | rfl<;>assumption
theorem two{P:Int->Prop}{r:Int}(h0:0<=r)(h1:r<2)(p0:P 0)(p1:P 1):P r:=by
 have:r=0\/r=1:=by lia
 rcases this with rfl | rfl<;>assumption
def NK:List V:=[.none,.tup [.str "local",.int 1],.tup [.str "cell",.int 0]]
theorem Eh{r:Int}(h0:0<=r)(h1:r<3):∃s:Sl,dB NK r=some s.v/\s.ok:=
 three (P:=λr=>∃s:Sl,dB NK r=some s.v/\s.ok) h0 h1 ⟨.no,rfl,trivial⟩ ⟨.at "local" 1,rfl,bT _,by decide+kernel,by decide⟩ ⟨.at "cell" 0,rfl,bT _,by decide+kernel,by decide⟩
def NL:List V:=[.none,.tup [.str "local",.int 0],.tup [.str "cell",.int 0]]
theorem Ei{r:Int}(h0:0<=r)(h1:r<3):∃s:Sl,dB NL r=some s.v/\s.ok:=
 three (P:=λr=>∃s:Sl,dB NL r=some s.v/\s.ok) h0 h1 ⟨.no,rfl,trivial⟩ ⟨.at "local" 0,rfl,bT _,by decide+kernel,by decide⟩ ⟨.at "cell" 0,rfl,bT _,by decide+kernel,by decide⟩
theorem QH(Z:St)(u:Nat){bx:Nat}(o:af):Kp u bx Z (Z.put bx o):=λk o' h _ n=>h.put n
theorem Il(L:LS aw bx lb ns u D U Z):∃J s,cI gL (cL (d+7)) 40 (dz "_law_unit" 1) (tC bx dp u du sp nw) Z=some (.next,tC bx dp u du sp nw,J)/\LS aw bx lb ns u {D with sl:=s} U J/\s.ok/\Kp u bx Z J:=by
 have L1:=L.al (.lst NK)
 refine fc (L1.take (d:=d+6) (many:=3) (by decide)) λr t' e h0 h1 L2=>?_
 refine aO (Eh h0 h1) λs hs ok=>?_
 have a:=(ay Z (.lst NK)).box (lb:=lb) (t':=t') (Nat.ne_of_gt (Nat.lt_of_lt_of_le L.bl.1 L.x.n))
 exact ⟨_,s,gY [eP (p:=3<=aq) (by decide),eC e,eO a,eV hs,eO L2.a.u] (by kernel_rfl),L2.self {D with sl:=s} ⟨rfl,rfl,rfl,rfl,rfl,rfl,rfl,rfl⟩,ok,λk o h n1 n2=>((h.al _).put n2).put n1⟩
theorem Ce(L:LS aw bx lb ns u D U Z):∃J s,cI gL (cL (d+7)) 40 (dz "_law_unit" 5) (tC bx dp u du sp nw) Z=some (.next,tC bx dp u du sp nw,J)/\LS aw bx lb ns u {D with ap:=s} U J/\s.ok/\Kp u bx Z J:=by
 have L1:=L.al (.lst NL)
 refine fc (L1.take (d:=d+6) (many:=3) (by decide)) λr t' e h0 h1 L2=>?_
 refine aO (Ei h0 h1) λs hs ok=>?_
 have a:=(ay Z (.lst NL)).box (lb:=lb) (t':=t') (Nat.ne_of_gt (Nat.lt_of_lt_of_le L.bl.1 L.x.n))
 exact ⟨_,s,gY [eP (p:=3<=aq) (by decide),eC e,eO a,eV hs,eO L2.a.u] (by kernel_rfl),L2.self {D with ap:=s} ⟨rfl,rfl,rfl,rfl,rfl,rfl,rfl,rfl⟩,ok,λk o h n1 n2=>((h.al _).put n2).put n1⟩
theorem Cg(L:LS aw bx lb ns u D U Z):∃J l c,cI gL (cL (d+7)) 40 (dz "_law_unit" 2) (tC bx dp u du sp nw) Z=some (.next,tC bx dp u du sp nw,J)/\LS aw bx lb ns u {D with lc:=l,cc:=c} U J/\l.natAbs<128/\c.natAbs<128/\Kp u bx Z J:=by
 refine fc (L.take (d:=d+6) (many:=3) (by decide)) λr t' e h0 h1 L2=>?_
 refine fc (L2.take (d:=d+6) (many:=3) (by decide)) λr' NM e' NN Jm L3=>?_
 have L4:=L3.self {D with lc:=2+r} ⟨rfl,rfl,rfl,rfl,rfl,rfl,rfl,rfl⟩
 exact ⟨_,2+r,1+r',gY [eC e,eC e',eO L3.a.u,eO L4.a.u] (by kernel_rfl),L4.self {D with lc:=2+r,cc:=1+r'} ⟨rfl,rfl,rfl,rfl,rfl,rfl,rfl,rfl⟩,by omega,by omega,λk o h n1 n2=>(((h.put n2).put n2).put n1).put n1⟩
theorem Ej(L:LS aw bx lb ns u D U Z):∃J a b,cI gL (cL (d+7)) 40 (dz "_law_unit" 4) (tC bx dp u du sp nw) Z=some (.next,tC bx dp u du sp nw,J)/\LS aw bx lb ns u {D with st:=a,ua:=b} U J/\Kp u bx Z J:=by
 refine fc (L.take (d:=d+6) (many:=2) (by decide)) λr t' e h0 h1 L2=>?_
 refine fc (L2.take (d:=d+6) (many:=2) (by decide)) λr' NM e' NN Jm L3=>?_
 have L4:=L3.self {D with st:=decide (r=0)} ⟨rfl,rfl,rfl,rfl,rfl,rfl,rfl,rfl⟩
 exact ⟨_,decide (r=0),decide (r'=0),gY [eC e,eB (JC (Z:=Z.put bx (.lst [.ref lb,.int t'])) r 0),eC e',eB (JC (Z:=(Z.put bx (.lst [.ref lb,.int t'])).put bx (.lst [.ref lb,.int NM])) r' 0),eO L3.a.u,eO L4.a.u] (by kernel_rfl),
  L4.self {D with st:=decide (r=0),ua:=decide (r'=0)} ⟨rfl,rfl,rfl,rfl,rfl,rfl,rfl,rfl⟩,λk o h n1 n2=>(((h.put n2).put n2).put n1).put n1⟩
theorem jy{l:List V}(hl:l.length=2){r:Int}(h0:0<=r)(h1:r<3){P:List V->Prop}(p0:P l)(p1:P (l.drop 1))(p2:P []):∃l',dU l (some r) none=some l'/\P l':=by
 have key:∀n:Nat,dU l (some (n:Nat)) none=some (l.drop n):=λn=>by
  unfold dU
  dsimp only [Option.getD]
  rw [if_pos ⟨Int.natCast_nonneg _,Int.natCast_nonneg _⟩]
  show some ((l.take l.length).drop n)=_
  rw [List.take_length]
 refine three (P:=λr=>∃l',dU l (some r) none=some l'/\P l') h0 h1 ⟨_,key 0,p0⟩ ⟨_,key 1,p1⟩ ⟨_,key 2,?_⟩
 rw [List.drop_of_length_le (Nat.le_of_eq hl)];exact p2
def MJ:List V:=[.tup [.bool true,.int 0],.tup [.bool false,.int 2]]
def qG(n:Nat)(l:List V):Prop:=∃ds,xO l ds/\d5 ds n/\ds.length=l.length
theorem ka(n:Nat):qG n []:=⟨[],λ_ _ _=>rfl,d5.nil.up (Nat.zero_le _),rfl⟩
theorem hW{n m:Nat}{v:V}{l:List V}{x:PyData}(h:∀Z k,2<=k->bw Z k v=some x)(g:Gd x m)(f:qG n l):qG (m+1+n) (v::l):=by
 refine bJ (f) λds a b c=>?_
 exact ⟨x::ds,λZ k hk=>aP (h Z k hk) (a Z k hk),.cons g b,congrArg (·+1) c⟩
theorem oZ{n m:Nat}{l:List V}(f:qG n l)(h:n<=m):qG m l:=by
 refine bJ (f) λds a b c=>?_
 exact ⟨ds,a,b.up h,c⟩
theorem nz{l:List V}{ds:List PyData}(h:∀Z n,de (bw Z (n+1)) l=some ds)(Z:St)(k:Nat)(hk:2<=k):bw Z k (.tup l)=some (.tuple ds):=by
 obtain ⟨n,rfl⟩:∃n,k=n+2:=⟨k-2,by omega⟩
 show (de (bw Z (n+1)) l).map PyData.tuple=_
 rw [h];rfl
theorem tD(x:Str)(Z:St)(k:Nat)(_:2<=k):bw Z k (.str x)=some (.str x):=by induction k using Nat.casesOn<;>rfl
theorem zC(Z:St)(k:Nat)(_:2<=k):bw Z k .none=some .none:=by induction k using Nat.casesOn<;>rfl
theorem FC:qG 60 MJ/\qG 60 (MJ.drop 1):=by
 have g:∀b i,i<128->Gd (.tuple [.bool b,.int (i:Nat)]) 20:=λb i h=>(Gd.tuple (.cons (Gd.bool b) (.cons (Gd.gB (i:=(i:Nat)) h) d5.nil))).up (by decide)
 have f1:=hW (v:=.tup [.bool false,.int 2]) (nz λZ n=>rfl) (g false 2 (by decide)) (ka 0)
 exact ⟨oZ (hW (v:=.tup [.bool true,.int 0]) (nz λZ n=>rfl) (g true 0 (by decide)) f1) (by decide),oZ f1 (by decide)⟩
theorem Im(L:LS aw bx lb ns u D U Z):∃J k l,cI gL (cL (d+7)) 40 (dz "_law_unit" 3) (tC bx dp u du sp nw) Z=some (.next,tC bx dp u du sp nw,J)/\LS aw bx lb ns u {D with ca:=k} {U with cp:=l} J/\qG 60 l/\Kp u bx Z J/\Z.n<=k:=by
 have L1:=L.al (.lst MJ)
 refine fc (L1.take (d:=d+6) (many:=3) (by decide)) λr t' e h0 h1 L2=>?_
 refine aO (jy (l:=MJ) rfl h0 h1 FC.1 FC.2 (ka _)) λl hl f=>?_
 have a:=(ay Z (.lst MJ)).box (lb:=lb) (t':=t') (Nat.ne_of_gt (Nat.lt_of_lt_of_le L.bl.1 L.x.n))
 have L3:=L2.al (.lst l)
 have ln:=Nat.le_trans L.x.n (Nat.le_succ Z.n)
 exact ⟨_,Z.n+1,l,gY [eP (p:=2<=aq) (by decide),eC e,eO a,eL hl,eO L3.a.u] (by kernel_rfl),L3.Ig (ay _ _) (L2.lw) ln,f,λk o h n1 n2=>(((h.al _).put n2).al _).put n1,Nat.le_succ _⟩
end
section
variable{d:Nat}{Z aw ao:St}{bx lb u k du sp nw:Nat}{ns:List Int}{D:UD}{U:Ul}{many r:Int}{o:af}{t dp:Int}
theorem zD{α β:Type}{f:α->Option β}{l:List α}:∀{r:List β}(k:Nat),de f l=some r->de f (l.take k)=some (r.take k):=by
 induction l with
 | nil=>exact λk h=>bG h (by rw [List.take_nil,List.take_nil];rfl)
 | cons x l ih=>
  intro r k
  induction k using Nat.casesOn with
  | zero=>exact λ_=>rfl
  | succ k=>exact λh=>uO (show bC (f x) (λy=>bC (de f l) λr=>some (y::r))=some r from h) λy e1 h=>uO h λys e2 h=>bG h (aP e1 (ih k e2))
theorem d5.take:∀{l:List PyData}{n:Nat}(k:Nat),d5 l n->d5 (l.take k) n
 | _,_,0,_=>by rw [List.take_zero];exact d5.nil.up (Nat.zero_le _)
 | [],_,_+1,g=>g
 | x::l,n,k+1,g=>by
  have a1:(x.canLay0&&canLayAll0 l)=true:=g.lay
  have a2:(x.showable&&showableAll l)=true:=g.sh
  have a3:(x.intsShort 25&&intsShortAll 25 l)=true:=g.si
  have a4:x.weight+1+weightAll l<=n:=g.w
  rw [Bool.and_eq_true] at a1 a2 a3
  have ih:=d5.take (l:=l) (n:=weightAll l) k ⟨a1.2,a2.2,a3.2,Nat.le_refl _⟩
  rw [List.take_succ_cons]
  exact (d5.cons (n:=x.weight) ⟨a1.1,a2.1,a3.1,Nat.le_refl _⟩ ih).up a4
theorem Ek{n:Nat}{l:List V}(k:Nat)(f:qG n l):qG n (l.take k):=by
 refine bJ (f) λds a b c=>?_
 exact ⟨ds.take k,λZ m hm=>zD k (a Z m hm),b.take k,by rw [List.length_take,List.length_take,c]⟩
def JJ:List V:=[.tup [.str "cell",.int 0],.none]
theorem FD:qG 60 JJ/\qG 60 (JJ.drop 1):=by
 have f1:=hW (v:=.none) zC Gd.none (ka 0)
 have g:Gd (.tuple [.str "cell",.int 0]) 20:=(Gd.tuple (.cons ((Gd.str (bT "cell")).up (m:=4) (by decide+kernel)) (.cons (Gd.gB (by decide)) d5.nil))).up (by decide)
 exact ⟨oZ (hW (v:=.tup [.str "cell",.int 0]) (nz λZ n=>rfl) g f1) (by decide),oZ f1 (by decide)⟩
theorem El(l:List V)(n:Nat):dU l none (some (n:Nat))=some (l.take n):=by
 unfold dU
 dsimp only [Option.getD]
 rw [if_pos ⟨Int.le_refl 0,Int.natCast_nonneg _⟩]
 show some ((l.take n).drop 0)=_
 rfl
theorem zE(L:LS aw bx lb ns u D U Z):∃J k l,cI gL (cL (d+7)) 40 (dz "_law_unit" 6) (tC bx dp u du sp nw) Z=some (.next,tC bx dp u du sp nw,J)/\LS aw bx lb ns u {D with pp:=k} {U with pq:=l} J/\qG 60 l/\Kp u bx Z J/\Z.n<=k:=by
 have L1:=L.al (.lst JJ)
 refine fc (L1.take (d:=d+6) (many:=3) (by decide)) λr t' e h0 h1 L2=>?_
 refine aO (jy (l:=JJ) rfl h0 h1 FD.1 FD.2 (ka _)) λl hl f=>?_
 have a:=(ay Z (.lst JJ)).box (lb:=lb) (t':=t') (Nat.ne_of_gt (Nat.lt_of_lt_of_le L.bl.1 L.x.n))
 have L3:=L2.al (.lst l)
 have L4:=L3.al (.lst (l.take U.ps.length))
 have ln:=Nat.le_trans L.x.n (Nat.le_add_right Z.n 2)
 exact ⟨_,Z.n+2,l.take U.ps.length,gY [eP (p:=2<=aq) (by decide),eC e,eO a,eL hl,eO L3.a.u,eO L3.a.pa,eO (ay ((Z.alloc (.lst JJ)).put bx (.lst [.ref lb,.int t'])) (.lst l)),eL (El l U.ps.length),eO L4.a.u] (by kernel_rfl),
  L4.Ih (ay _ _) L3.lw ln,Ek _ f,λk o h n1 n2=>((((h.al _).put n2).al _).al _).put n1,Nat.le_add_right _ _⟩
def QI:List V:=[c9.v,.str "q"]
theorem Ch(L:LS aw bx lb ns u D U Z)(he:U.code=[]):∃J k l,cI gL (cL (d+7)) 40 (dz "_law_unit" 7) (tC bx dp u du sp nw) Z=some (.next,tC bx dp u du sp nw,J)/\LS aw bx lb ns u {D with cn:=k} {U with K:=l} J/\(∀x,x∈l->x∈KS)/\l.length<=2/\Kp u bx Z J/\Z.n<=k:=by
 have f9:run (d+7) "from_int" [.int 9] Z=some (c9.v,Z):=by kernel_rfl
 have L1:=L.al (.lst QI)
 refine fc (L1.take (d:=d+6) (many:=3) (by decide)) λr t' e h0 h1 L2=>?_
 obtain ⟨l,hl,K,ek,hK,hn⟩:=jy (l:=QI) rfl h0 h1 (P:=λl=>∃K:List CV,l=K.map CV.v/\(∀x,x∈K->x∈KS)/\K.length<=2) ⟨[c9,.s "q"],rfl,by decide,by decide⟩ ⟨[.s "q"],rfl,by decide,by decide⟩ ⟨[],rfl,by decide,by decide⟩
 subst ek
 have a:=(ay Z (.lst QI)).box (lb:=lb) (t':=t') (Nat.ne_of_gt (Nat.lt_of_lt_of_le L.bl.1 L.x.n))
 have L3:=L2.al (.lst (K.map CV.v))
 have ln:=Nat.le_trans L.x.n (Nat.le_succ Z.n)
 exact ⟨_,Z.n+1,K,gY [eC f9,eP (p:=2<=aq) (by decide),eC e,eO a,eL hl,eO L3.a.u] (by kernel_rfl),L3.Ii (ay _ _) L2.lw ln he,hK,hn,λk o h n1 n2=>(((h.al _).put n2).al _).put n1,Nat.le_succ _⟩
def Ci:List V:=[.str "f",.str ""]
def Em:List V:=[.str "a",.str "b"]
theorem FE:qG 40 Em/\qG 40 (Em.drop 1):=by
 have g:∀x:Str,strOk x=true->x.length<=5->Gd (.str x) 5:=λx h l=>(Gd.str h).up l
 have f1:=hW (tD "b") (g "b" (bT _) (by decide+kernel)) (ka 0)
 exact ⟨oZ (hW (tD "a") (g "a" (bT _) (by decide+kernel)) f1) (by decide),oZ f1 (by decide)⟩
noncomputable abbrev tE(Z:St)(bx lb:Nat)(t:Int)(ps:List V):St:=((((Z.alloc (.lst Ci)).put bx (.lst [.ref lb,.int (t+1)])).alloc (.lst Em)).put bx (.lst [.ref lb,.int (t+1+1)])).alloc (.lst ps)
noncomputable abbrev qH(Z:St)(bx lb:Nat)(t:Int)(ps:List V)(nm:Str):St:=ap (tE Z bx lb t ps) (dD (tE Z bx lb t ps).n nm (Z.n+2))
noncomputable abbrev En(Z:St)(bx lb:Nat)(t:Int)(ps:List V)(nm:Str):St:=(((qH Z bx lb t ps nm).alloc (.lst [])).alloc (.lst [])).alloc (.lst [])
theorem Bx.x{t:Int}(B:Bx bx lb ns t Z)(x:Ext Z ao):Bx bx lb ns t ao:=⟨B.b.x x,B.l.x x,B.ne,B.n⟩
def QJ(ps:List V):Ul:=⟨ps,[],[],[],[],[],[],[]⟩
theorem MK{t:Int}(B:Bx bx lb ns t Z)(hb:bx<Z.n/\lb<Z.n):∃J u D ps,fG (cI gL (cL (d+7)) 40) ((zt "_law_unit").take 1) (mk "_law_unit" [("box",.ref bx),("deep",.int dp)]) Z=some (.next,tC bx dp u (u+8) (u+9) (u+10),J)/\LS Z bx lb ns u D (QJ ps) J/\qG 40 ps/\D.nm.length<=5/\strOk D.nm=true/\D.sl=.no/\D.ap=.no/\
  At J (u+8) (.lst [])/\At J (u+9) (.lst [])/\At J (u+10) (.lst [])/\Lw u D (u+8):=by
 have q:∀i,Z.n+i≠bx:=λi=>Nat.ne_of_gt (Nat.lt_of_lt_of_le hb.1 (Nat.le_add_right _ _))
 have B1:=B.al (.lst Ci)
 refine bJ (vV (d:=d+6) B1 (many:=2) (by decide)) λr e h0 h1=>?_
 have B2:Bx bx lb ns (t+1) ((Z.alloc (.lst Ci)).put bx (.lst [.ref lb,.int (t+1)])):=⟨At.self B1.b.lt _,B1.l.put B.ne,B.ne,B.n⟩
 have B3:=B2.al (.lst Em)
 refine bJ (vV (d:=d+6) B3 (many:=3) (by decide)) λr' e' NN Jm=>?_
 obtain ⟨nm,en,hn,hs⟩:∃nm:Str,dB Ci r=some (.str nm)/\nm.length<=5/\strOk nm=true:=two (P:=λr=>∃nm:Str,dB Ci r=some (.str nm)/\nm.length<=5/\strOk nm=true) h0 h1 ⟨"f",rfl,by decide+kernel,bT _⟩ ⟨"",rfl,by decide+kernel,bT _⟩
 refine aO (jy (l:=Em) rfl NN Jm FE.1 FE.2 (ka _)) λps hl f=>?_
 have a1:At ((Z.alloc (.lst Ci)).put bx (.lst [.ref lb,.int (t+1)])) Z.n (.lst Ci):=(ay Z (.lst Ci)).put (q 0)
 have a2:At ((((Z.alloc (.lst Ci)).put bx (.lst [.ref lb,.int (t+1)])).alloc (.lst Em)).put bx (.lst [.ref lb,.int (t+1+1)])) (Z.n+1) (.lst Em):=(ay ((Z.alloc (.lst Ci)).put bx (.lst [.ref lb,.int (t+1)])) (.lst Em)).put (q 1)
 have xa:Ext (tE Z bx lb t ps) (qH Z bx lb t ps nm):=vF _
 have xs:Ext (tE Z bx lb t ps) (En Z bx lb t ps nm):=((xa.al _).al _).al _
 have xn:Ext (qH Z bx lb t ps nm) (En Z bx lb t ps nm):=(((Ext.refl _).al _).al _).al _
 have B4:Bx bx lb ns (t+1+1) (tE Z bx lb t ps):=(⟨At.self B3.b.lt _,B3.l.put B.ne,B.ne,B.n⟩:Bx bx lb ns (t+1+1) ((((Z.alloc (.lst Ci)).put bx (.lst [.ref lb,.int (t+1)])).alloc (.lst Em)).put bx (.lst [.ref lb,.int (t+1+1)]))).al _
 have li:∀i,G7 (dD (tE Z bx lb t ps).n nm (Z.n+2)) i=some (.lst [])->Nat.blt i (By (dD (tE Z bx lb t ps).n nm (Z.n+2)))=true->At (En Z bx lb t ps nm) (Z.n+3+i) (.lst []):=λi h q=>(gW h q).x xn
 have an:(qH Z bx lb t ps nm).n=Z.n+3+8:=Bz _
 refine ⟨En Z bx lb t ps nm,Z.n+3,JH (Z.n+3) nm (Z.n+2),ps,gS ([eP (p:=2<=aq) (by decide),eC e,eO a1,eV en,eP (p:=2<=aq) (by decide),eC e',eO a2,eL hl]++Ic (tE Z bx lb t ps) nm (Z.n+2)++[eP (p:=0<=aq) (by decide),eP (p:=0<=aq) (by decide),eP (p:=0<=aq) (by decide)]) (by kernel_rfl),
  ⟨((((((bp.refl bx Z).al _).fR).al _).fR).al _).trans (xs.HE bx),⟨_,B4.x xs⟩,⟨(gW (i:=0) (by kernel_rfl) (by kernel_rfl)).x xn,((ay _ (.lst ps)).x xa).x xn,li 2 (by kernel_rfl) (by kernel_rfl),li 1 (by kernel_rfl) (by kernel_rfl),li 3 (by kernel_rfl) (by kernel_rfl),li 4 (by kernel_rfl) (by kernel_rfl),li 5 (by kernel_rfl) (by kernel_rfl),li 6 (by kernel_rfl) (by kernel_rfl),li 7 (by kernel_rfl) (by kernel_rfl),
   by unfold JH;dsimp only;lia⟩,by unfold JH;dsimp only;lia,⟨by unfold JH;dsimp only;lia,by unfold JH;dsimp only;lia⟩,hb⟩,f,hn,hs,rfl,rfl,?_,?_,?_,?_⟩
 ·have:=((ay (qH Z bx lb t ps nm) (.lst [])).al (.lst [])).al (.lst []);rw [an] at this;exact this
 ·have:=(ay ((qH Z bx lb t ps nm).alloc (.lst [])) (.lst [])).al (.lst []);rw [show ((qH Z bx lb t ps nm).alloc (.lst [])).n=Z.n+3+9 from congrArg (·+1) an] at this;exact this
 ·have:=ay (((qH Z bx lb t ps nm).alloc (.lst [])).alloc (.lst [])) (.lst []);rw [show (((qH Z bx lb t ps nm).alloc (.lst [])).alloc (.lst [])).n=Z.n+3+10 from congrArg (·+2) an] at this;exact this
 ·constructor<;>first | lia | (unfold JH;dsimp only;lia)
end
def SN(x:Str)(I:List V):Ms:=Option.casesOn (fL x) [] λf=>d9 f I
def arity(x:Str):Nat:=Option.casesOn (fL x) 1000 λf=>f.params.length
noncomputable abbrev ex(d:Nat)(x:Str)(i:Nat)(m:Ms)(Z:St):Option (Fl×Ms×St):=fG (cI gL (cL d) 40) ((zt x).drop i) m Z
theorem qJ{d:Nat}{x:Str}{I:List V}{Z J:St}{v:V}{m:Ms}(ha:arity x=I.length)(hn:I.length≠1000)(h:ex d x 0 (SN x I) Z=some (.ret v,m,J)):run (d+1) x I Z=some (v,J):=by
 unfold arity at ha
 unfold ex zt SN at h
 show bC (fL x) (λf=>if f.params.length=I.length then bC (fG (cI gL (fh gL fL d) fg) f.body (d9 f I) Z) rh else .none)=_
 revert ha h
 cases fL x with
 | none=>exact λha=>absurd ha.symm hn
 | some f=>exact λha h=>(if_pos ha).trans (congrArg (λz=>bC z rh) h)
theorem bz{d:Nat}{x:Str}{i:Nat}{m m':Ms}{Z J:St}{r:Fl×Ms×St}(Vs:Nat.blt i (zt x).length=true)(h:cI gL (cL d) 40 (dz x i) m Z=some (.next,m',J))(G:ex d x (i+1) m' J=some r):ex d x i m Z=some r:=by
 have hi:i<(zt x).length:=Nat.le_of_ble_eq_true Vs
 unfold ex
 rw [List.drop_eq_getElem_cons hi]
 unfold dz at h
 rw [List.getD_eq_getElem?_getD,List.getElem?_eq_getElem hi] at h
 show bC (cI gL (cL d) 40 (zt x)[i] m Z) (λp=>iu p.1 (fG (cI gL (cL d) 40) ((zt x).drop (i+1)) p.2.1 p.2.2) (some p) λ_=>some p)=_
 rw [show cI gL (cL d) 40 (zt x)[i] m Z=_ from h]
 exact G
theorem Eo{Y:Stmt->Ms->St->Option (Fl×Ms×St)}{l l':List Stmt}{m':Ms}{J:St}:∀{m:Ms}{Z:St},fG Y l m Z=some (.next,m',J)->fG Y (l++l') m Z=fG Y l' m' J:=by
 induction l with
 | nil=>exact λh=>rk (P:=λ_ m' J=>fG Y l' _ _=fG Y l' m' J) h rfl
 | cons s l ih=>
  refine λ{m Z} h=>uO (show bC (Y s m Z) (λp=>iu p.1 (fG Y l p.2.1 p.2.2) (some p) λ_=>some p)=some (.next,m',J) from h) λp e h=>?_
  obtain ⟨c,m1,kQ⟩:=p
  show bC (Y s m Z) (λp=>iu p.1 (fG Y (l++l') p.2.1 p.2.2) (some p) λ_=>some p)=_
  rw [e]
  clear e
  revert h
  induction c using Fl.casesOn with
  | next=>exact ih
  | brk=>exact λh=>Fl.noConfusion (congrArg Prod.fst (Option.some.inj h))
  | ret v=>exact λh=>Fl.noConfusion (congrArg Prod.fst (Option.some.inj h))
section
variable{d:Nat}{Z aw ao:St}{bx lb u k du sp nw:Nat}{ns:List Int}{D:UD}{U:Ul}{t dp:Int}
noncomputable def Fr(u:Nat)(D:UD)(k:Nat):Prop:=u≠k/\D.pa≠k/\D.co≠k/\D.cn≠k/\D.un≠k/\D.ha≠k/\D.li≠k/\D.ca≠k/\D.pp≠k
theorem Lw.fr{j:Nat}(l:Lw u D k)(h:k<=j):Fr u D j:=by
 obtain ⟨h1,h2,h3,h4,h5,h6,h7,h8,h9⟩:=l
 unfold Fr;lia
structure CZ (D:UD) (U:Ul):Prop where
 ps:qG 40 U.ps
 cp:qG 60 U.cp
 pq:qG 60 U.pq
 nm:strOk D.nm=true/\D.nm.length<=5
 lc:D.lc.natAbs<128/\D.cc.natAbs<128
 sl:D.sl.ok/\D.ap.ok
theorem Io(B:Bx bx lb ns t Z)(hb:bx<Z.n/\lb<Z.n):∃J u D U,(∀r,ex (d+7) "_law_unit" 8 (tC bx dp u (u+8) (u+9) (u+10)) J=some r->ex (d+7) "_law_unit" 0 (mk "_law_unit" [("box",.ref bx),("deep",.int dp)]) Z=some r)/\
  LS Z bx lb ns u D U J/\CZ D U/\(∀x,x∈U.K->x∈KS)/\U.K.length<=2/\(U.code=[]/\U.us=[]/\U.hs=[]/\U.L=[])/\
  At J (u+8) (.lst [])/\At J (u+9) (.lst [])/\At J (u+10) (.lst [])/\(Fr u D (u+8)/\Fr u D (u+9)/\Fr u D (u+10))/\Z.n<=u:=by
 refine ES (MK (d:=d) (dp:=dp) B hb) λs0 u D ps c0 L0 f0 n0 Vt WI WJ d0 p0 NO QK=>?_
 have Vu:=L0.n.1
 have fr:Fr u D (u+8)/\Fr u D (u+9)/\Fr u D (u+10):=⟨QK.fr (Nat.le_refl _),QK.fr (Nat.le_succ _),QK.fr (Nat.le_add_right _ 2)⟩
 have kp:∀{i:Nat},8<=i->u+i≠u/\u+i≠bx:=λh=>⟨by lia,by lia⟩
 refine fc (Il (d:=d) (dp:=dp) (du:=u+8) (sp:=u+9) (nw:=u+10) L0) λs1 sl c1 L1 Pn k1=>?_
 refine lZ (Cg (d:=d) (dp:=dp) (du:=u+8) (sp:=u+9) (nw:=u+10) L1) λs2 l2 WK c2 L2 Vv QL k2=>?_
 refine lZ (Im (d:=d) (dp:=dp) (du:=u+8) (sp:=u+9) (nw:=u+10) L2) λs3 q3 WM c3 L3 f3 k3 g3=>?_
 refine pz (Ej (d:=d) (dp:=dp) (du:=u+8) (sp:=u+9) (nw:=u+10) L3) λs4 a4 b4 c4 L4 k4=>?_
 refine fc (Ce (d:=d) (dp:=dp) (du:=u+8) (sp:=u+9) (nw:=u+10) L4) λs5 WN c5 L5 Vw k5=>?_
 refine lZ (zE (d:=d) (dp:=dp) (du:=u+8) (sp:=u+9) (nw:=u+10) L5) λs6 q6 WO c6 L6 f6 k6 g6=>?_
 refine F7 (Ch (d:=d) (dp:=dp) (du:=u+8) (sp:=u+9) (nw:=u+10) L6 rfl) λs7 q7 K7 c7 L7 Vx l7 k7 g7=>?_
 have fF:∀{i:Nat}{o:af},8<=i->At s0 (u+i) o->At s3 (u+i) o:=λhi h=>k3 _ _ (k2 _ _ (k1 _ _ h (kp hi).1 (kp hi).2) (kp hi).1 (kp hi).2) (kp hi).1 (kp hi).2
 have QM:∀{i:Nat}{o:af},8<=i->At s3 (u+i) o->At s7 (u+i) o:=λhi h=>k7 _ _ (k6 _ _ (k5 _ _ (k4 _ _ h (kp hi).1 (kp hi).2) (kp hi).1 (kp hi).2) (kp hi).1 (kp hi).2) (kp hi).1 (kp hi).2
 have z2:u+10<s2.n:=(k2 _ _ (k1 _ _ NO (kp (by decide)).1 (kp (by decide)).2) (kp (by decide)).1 (kp (by decide)).2).lt
 have z5:u+10<s5.n:=(k5 _ _ (k4 _ _ (fF (i:=10) (by decide) NO) (kp (by decide)).1 (kp (by decide)).2) (kp (by decide)).1 (kp (by decide)).2).lt
 have z6:u+10<s6.n:=(k6 _ _ (k5 _ _ (k4 _ _ (fF (i:=10) (by decide) NO) (kp (by decide)).1 (kp (by decide)).2) (kp (by decide)).1 (kp (by decide)).2) (kp (by decide)).1 (kp (by decide)).2).lt
 refine ⟨s7,u,_,_,λr h=>?_,L7,⟨f0,f3,f6,⟨Vt,n0⟩,⟨Vv,QL⟩,⟨Pn,Vw⟩⟩,Vx,l7,⟨rfl,rfl,rfl,rfl⟩,QM (by decide) (fF (by decide) d0),QM (by decide) (fF (by decide) p0),QM (by decide) (fF (by decide) NO),?_,Vu⟩
 ·have h7:=bz (i:=1) (by kernel_rfl) c1 (bz (i:=2) (by kernel_rfl) c2 (bz (i:=3) (by kernel_rfl) c3 (bz (i:=4) (by kernel_rfl) c4 (bz (i:=5) (by kernel_rfl) c5 (bz (i:=6) (by kernel_rfl) c6 (bz (i:=7) (by kernel_rfl) c7 h))))))
  have e:(zt "_law_unit").drop 0=(zt "_law_unit").take 1++(zt "_law_unit").drop 1:=(List.take_append_drop 1 _).symm
  show fG _ ((zt "_law_unit").drop 0) _ _=_
  rw [e]
  exact (Eo c0).trans h7
 ·have ne:∀{q i n:Nat},u+10<n->n<=q->i<=10->q≠u+i:=λh1 h2 h3=>by lia
  have go:∀{i:Nat},i<=10->Fr u D (u+i)->(u≠u+i/\D.pa≠u+i/\D.co≠u+i/\q7≠u+i/\D.un≠u+i/\D.ha≠u+i/\D.li≠u+i/\q3≠u+i/\q6≠u+i):=λhi f=>⟨f.1,f.2.1,f.2.2.1,ne z6 g7 hi,f.2.2.2.2.1,f.2.2.2.2.2.1,f.2.2.2.2.2.2.1,ne z2 g3 hi,ne z5 g6 hi⟩
  exact ⟨go (by decide) fr.1,go (by decide) fr.2.1,go (by decide) fr.2.2⟩
end
end Mine
end
section
namespace Mine
open PySem
structure PS where
 R:List CR
 Q:List CR
 sp:List (Nat×Nat)
 nw:List (Nat×Nat)
def dk(b:Nat)(ws:Tx):List CR:=ws.map λp=>bj (b:Nat) (ws.length:Nat) p.2
noncomputable def cD(s:PS)(p:Pc):PS:=⟨s.R++dk s.R.length p.wb,s.Q++dk s.Q.length p.wa,s.sp++[(s.R.length,s.R.length+p.wb.length)],s.nw++[(s.Q.length,s.Q.length+p.wa.length)]⟩
def o6(p:Nat×Nat):V:=.tup [.int (p.1:Nat),.int (p.2:Nat)]
theorem xQ:(cZ.all λp=>decide (p.wb.length<=7)&&decide (p.wa.length<=7))=true:=by kernel_rfl
noncomputable abbrev zF(bx:Nat)(dp:Int)(u du sp nw rr:Nat)(pc:Int)(w:Tw):Ms:=mk "_law_unit" [("box",.ref bx),("deep",.int dp),("unit",.ref u),("due",.ref du),("spans",.ref sp),("news",.ref nw),("rows",.ref rr),("pieces",.int pc),("turn",w 0),("before",w 1),("behind",w 2),("size",w 3),("other",w 4)]
section
variable{d:Nat}{Z aw ao:St}{bx lb u k du sp nw rr:Nat}{ns:List Int}{D:UD}{U:Ul}{t dp pc:Int}{w:Tw}{s:PS}{m:Ms}{o:af}
theorem LS.xt(L:LS aw bx lb ns u D U Z)(x:Ext Z ao):LS aw bx lb ns u D U ao:=⟨L.x.trans (x.HE bx),L.b.imp λt B=>B.x x,L.a.x x,L.n,L.ds,L.bl⟩
theorem LS.pu(L:LS aw bx lb ns u D U Z)(f:Fr u D k)(h:aw.n<=k):LS aw bx lb ns u D U (Z.put k o):=
 ⟨L.x.pu h,L.b.imp λt B=>⟨B.b.put (Nat.ne_of_lt (Nat.lt_of_lt_of_le L.bl.1 h)),B.l.put (Nat.ne_of_lt (Nat.lt_of_lt_of_le L.bl.2 h)),B.ne,B.n⟩,L.a.pu f,L.n,L.ds,L.bl⟩
structure Ip (aw:St) (bx lb:Nat) (ns:List Int) (u:Nat) (D:UD) (U:Ul) (du sp nw rr:Nat) (s:PS) (Z:St):Prop where
 L:LS aw bx lb ns u D U Z
 hr:At Z rr (.lst (s.R.map vr))
 hq:At Z du (.lst (s.Q.map vr))
 hs:At Z sp (.lst (s.sp.map o6))
 hn:At Z nw (.lst (s.nw.map o6))
 fs:Fr u D sp
 fn:Fr u D nw
 fr:Fr u D rr
 fq:Fr u D du
 ge:aw.n<=sp/\aw.n<=nw/\aw.n<=rr/\aw.n<=du
 ne:sp≠nw/\rr≠sp/\rr≠nw/\du≠sp/\du≠nw
theorem At.eq{k:Nat}{X Y:List V}(h:At Z k (.lst X))(e:X=Y):At Z k (.lst Y):=e▸h
theorem Cj{r:Int}(h0:0<=r)(h1:r<21):∃p,p∈cZ/\dB (cZ.map λp=>V.tup [.str p.tb,.str p.ta]) r=some (.tup [.str p.tb,.str p.ta]):=by
 have hl:r.toNat<cZ.length:=by
  have:cZ.length=21:=by kernel_rfl
  lia
 exact ⟨cZ[r.toNat],List.getElem_mem hl,qz h0 (by lia) (by rw [List.getElem?_map,List.getElem?_eq_getElem hl];rfl)⟩
theorem Ip.turn{j:Int}(P:Ip aw bx lb ns u D U du sp nw rr s Z)(nI:d4 w)(hl:s.R.length<100/\s.Q.length<100/\s.sp.length<100/\s.nw.length<100):
  ∃p,p∈cZ/\∃w' Ep Cn J,tn "_law_unit" 9 (d+7) 39 (.int j) (zF bx dp u du sp nw rr pc w) Z=some (.next,zF bx dp u Ep sp nw Cn pc w',J)/\d4 w'/\Ip aw bx lb ns u D U Ep sp nw Cn (cD s p) J:=by
 have hb:bx<aw.n:=P.L.bl.1
 have L2:=(P.L.al (.lst (cZ.map λp=>.tup [.str p.tb,.str p.ta]))).al (.lst (cZ.map λp=>.tup [.str p.tb,.str p.ta]))
 refine fc (L2.take (d:=d+6) (many:=21) (by decide)) λr t' e h0 h1 L3=>?_
 refine aO (Cj h0 h1) λp hp ep=>?_
 have ok:=H5.of p hp
 have ln:=List.all_eq_true.mp xQ p hp
 rw [Bool.and_eq_true,decide_eq_true_iff,decide_eq_true_iff] at ln
 have q0:Z.n≠bx:=Nat.ne_of_gt (Nat.lt_of_lt_of_le hb P.L.x.n)
 have x0:Ext Z ((Z.alloc (.lst (cZ.map λp=>.tup [.str p.tb,.str p.ta]))).alloc (.lst (cZ.map λp=>.tup [.str p.tb,.str p.ta]))):=(aQ _ _).al _
 have g1:=((ay Z (.lst (cZ.map λp=>.tup [.str p.tb,.str p.ta]))).al (.lst (cZ.map λp=>.tup [.str p.tb,.str p.ta]))).put (j:=bx) (o':=.lst [.ref lb,.int t']) q0
 have g2:=ay (Z.alloc (.lst (cZ.map λp=>V.tup [.str p.tb,.str p.ta]))) (.lst (cZ.map λp=>V.tup [.str p.tb,.str p.ta]))
 refine bJ (qy (d:=d) (Z:=((Z.alloc (.lst (cZ.map λp=>.tup [.str p.tb,.str p.ta]))).alloc (.lst (cZ.map λp=>.tup [.str p.tb,.str p.ta]))).put bx (.lst [.ref lb,.int t'])) (b:=0) (s:=0) ok.b (by lia)) λFF e4 x4 a4=>?_
 refine bJ (qy (d:=d) (Z:=FF) (b:=0) (s:=0) ok.a (by lia)) λFG e5 x5 a5=>?_
 have NP:∀{k o},At Z k o->k≠bx->At FG k o:=λh n=>(((h.x x0).put n).x x4).x x5
 have nb:∀{k},aw.n<=k->k≠bx:=λh=>Nat.ne_of_gt (Nat.lt_of_lt_of_le hb h)
 have r5:=NP P.hr (nb P.ge.2.2.1)
 have q5:=NP P.hq (nb P.ge.2.2.2)
 have s5:=NP P.hs (nb P.ge.1)
 have n5:=NP P.hn (nb P.ge.2.1)
 have L5:=(L3.xt x4).xt x5
 have ls:(s.sp.map o6).length<aq:=by rw [List.length_map];exact Nat.lt_trans hl.2.2.1 (by decide)
 have lw:(s.nw.map o6).length<aq:=by rw [List.length_map];exact Nat.lt_trans hl.2.2.2 (by decide)
 have L6:=L5.pu (o:=.lst (s.sp.map o6++[.tup [.int ((s.R.map vr).length:Nat),.int (((s.R.map vr).length:Nat)+((p.wb.map λp=>vr (bj 0 0 p.2)).length:Nat):Int)]])) P.fs P.ge.1
 have r6:=r5.put (o':=.lst (s.sp.map o6++[.tup [.int ((s.R.map vr).length:Nat),.int (((s.R.map vr).length:Nat)+((p.wb.map λp=>vr (bj 0 0 p.2)).length:Nat):Int)]])) P.ne.2.1
 have q6:=q5.put (o':=.lst (s.sp.map o6++[.tup [.int ((s.R.map vr).length:Nat),.int (((s.R.map vr).length:Nat)+((p.wb.map λp=>vr (bj 0 0 p.2)).length:Nat):Int)]])) P.ne.2.2.2.1
 have n6:=n5.put (o':=.lst (s.sp.map o6++[.tup [.int ((s.R.map vr).length:Nat),.int (((s.R.map vr).length:Nat)+((p.wb.map λp=>vr (bj 0 0 p.2)).length:Nat):Int)]])) P.ne.1.symm
 have s6:=At.self s5.lt (.lst (s.sp.map o6++[.tup [.int ((s.R.map vr).length:Nat),.int (((s.R.map vr).length:Nat)+((p.wb.map λp=>vr (bj 0 0 p.2)).length:Nat):Int)]]))
 have L7:=L6.pu (o:=.lst (s.nw.map o6++[.tup [.int ((s.Q.map vr).length:Nat),.int (((s.Q.map vr).length:Nat)+((p.wa.map λp=>vr (bj 0 0 p.2)).length:Nat):Int)]])) P.fn P.ge.2.1
 have r7:=r6.put (o':=.lst (s.nw.map o6++[.tup [.int ((s.Q.map vr).length:Nat),.int (((s.Q.map vr).length:Nat)+((p.wa.map λp=>vr (bj 0 0 p.2)).length:Nat):Int)]])) P.ne.2.2.1
 have q7:=q6.put (o':=.lst (s.nw.map o6++[.tup [.int ((s.Q.map vr).length:Nat),.int (((s.Q.map vr).length:Nat)+((p.wa.map λp=>vr (bj 0 0 p.2)).length:Nat):Int)]])) P.ne.2.2.2.2
 have s7:=s6.put (o':=.lst (s.nw.map o6++[.tup [.int ((s.Q.map vr).length:Nat),.int (((s.Q.map vr).length:Nat)+((p.wa.map λp=>vr (bj 0 0 p.2)).length:Nat):Int)]])) P.ne.1
 have n7:=At.self n6.lt (.lst (s.nw.map o6++[.tup [.int ((s.Q.map vr).length:Nat),.int (((s.Q.map vr).length:Nat)+((p.wa.map λp=>vr (bj 0 0 p.2)).length:Nat):Int)]]))
 refine bJ (qy (d:=d) (Z:=(FG.put sp (.lst (s.sp.map o6++[.tup [.int ((s.R.map vr).length:Nat),.int (((s.R.map vr).length:Nat)+((p.wb.map λp=>vr (bj 0 0 p.2)).length:Nat):Int)]]))).put nw (.lst (s.nw.map o6++[.tup [.int ((s.Q.map vr).length:Nat),.int (((s.Q.map vr).length:Nat)+((p.wa.map λp=>vr (bj 0 0 p.2)).length:Nat):Int)]]))) (b:=((s.R.map vr).length:Nat)) (s:=((p.wb.map λp=>vr (bj 0 0 p.2)).length:Nat)) ok.b (by lia)) λQN e8 x8 a8=>?_
 have q9:=(q7.x x8).al (.lst (s.R.map vr++p.wb.map λq=>vr (bj ((s.R.map vr).length:Nat) ((p.wb.map λp=>vr (bj 0 0 p.2)).length:Nat) q.2)))
 refine bJ (qy (d:=d) (Z:=QN.alloc (.lst (s.R.map vr++p.wb.map λq=>vr (bj ((s.R.map vr).length:Nat) ((p.wb.map λp=>vr (bj 0 0 p.2)).length:Nat) q.2)))) (b:=((s.Q.map vr).length:Nat)) (s:=((p.wa.map λp=>vr (bj 0 0 p.2)).length:Nat)) ok.a (by lia)) λIq Vy gz NQ=>?_
 have l8:(s.R.map vr).length+(p.wb.map λq=>vr (bj ((s.R.map vr).length:Nat) ((p.wb.map λp=>vr (bj 0 0 p.2)).length:Nat) q.2)).length<=aq:=by rw [List.length_map,List.length_map];exact Nat.le_trans (show _<=200 by lia) (by decide)
 have Vz:(s.Q.map vr).length+(p.wa.map λq=>vr (bj ((s.Q.map vr).length:Nat) ((p.wa.map λp=>vr (bj 0 0 p.2)).length:Nat) q.2)).length<=aq:=by rw [List.length_map,List.length_map];exact Nat.le_trans (show _<=200 by lia) (by decide)
 have tt:=gT (d:=d+7) (n:=39) (m:=zF bx dp u du sp nw rr pc w) (v:=.int j) (Z:=Z) [eN (nI 0),eC (tr (d:=d+6) (Z:=Z)),eC (tr (d:=d+6) (Z:=Z.alloc (.lst (cZ.map λp=>.tup [.str p.tb,.str p.ta])))),eO g2,eC e,eO g1,eV ep,eN (nI 1),eN (nI 2),eC e4,eO a4,eC e5,eO a5,eN (nI 3),eN (nI 4),eO s5,eO r5,eO r5,eO s5,eP ls,eO n6,eO q6,eO q6,eO n6,eP lw,
  eO r7,eC e8,eO (r7.x x8),eO a8,eP l8,eO q9,eC Vy,eO (q9.x gz),eO NQ,eP Vz] (t:=vH (dz "_law_unit" 9)) (b:=gj (dz "_law_unit" 9)) (c:=.next)
  (m':=zF bx dp u Iq.n sp nw QN.n pc (up (up (up (up (up w 0 (.int j)) 1 (.str p.tb)) 2 (.str p.ta)) 3 (.int ((p.wb.map λp=>vr (bj 0 0 p.2)).length:Nat))) 4 (.int ((p.wa.map λp=>vr (bj 0 0 p.2)).length:Nat))))
  (J:=Iq.alloc (.lst (s.Q.map vr++p.wa.map λq=>vr (bj ((s.Q.map vr).length:Nat) ((p.wa.map λp=>vr (bj 0 0 p.2)).length:Nat) q.2)))) (by kernel_rfl)
 have VA:d4 (up (up (up (up (up w 0 (.int j)) 1 (.str p.tb)) 2 (.str p.ta)) 3 (.int ((p.wb.map λp=>vr (bj 0 0 p.2)).length:Nat))) 4 (.int ((p.wa.map λp=>vr (bj 0 0 p.2)).length:Nat))):=((((nI.up 0 (fO _)).up 1 (Fv _)).up 2 (Fv _)).up 3 (fO _)).up 4 (fO _)
 have QO:=(((L7.xt x8).al (.lst (s.R.map vr++p.wb.map λq=>vr (bj ((s.R.map vr).length:Nat) ((p.wb.map λp=>vr (bj 0 0 p.2)).length:Nat) q.2)))).xt gz).al (.lst (s.Q.map vr++p.wa.map λq=>vr (bj ((s.Q.map vr).length:Nat) ((p.wa.map λp=>vr (bj 0 0 p.2)).length:Nat) q.2)))
 have Cn:=((ay QN (.lst (s.R.map vr++p.wb.map λq=>vr (bj ((s.R.map vr).length:Nat) ((p.wb.map λp=>vr (bj 0 0 p.2)).length:Nat) q.2)))).x gz).al (.lst (s.Q.map vr++p.wa.map λq=>vr (bj ((s.Q.map vr).length:Nat) ((p.wa.map λp=>vr (bj 0 0 p.2)).length:Nat) q.2)))
 have VB:=ay Iq (.lst (s.Q.map vr++p.wa.map λq=>vr (bj ((s.Q.map vr).length:Nat) ((p.wa.map λp=>vr (bj 0 0 p.2)).length:Nat) q.2)))
 have VC:=(((s7.x x8).al (.lst (s.R.map vr++p.wb.map λq=>vr (bj ((s.R.map vr).length:Nat) ((p.wb.map λp=>vr (bj 0 0 p.2)).length:Nat) q.2)))).x gz).al (.lst (s.Q.map vr++p.wa.map λq=>vr (bj ((s.Q.map vr).length:Nat) ((p.wa.map λp=>vr (bj 0 0 p.2)).length:Nat) q.2)))
 have VD:=(((n7.x x8).al (.lst (s.R.map vr++p.wb.map λq=>vr (bj ((s.R.map vr).length:Nat) ((p.wb.map λp=>vr (bj 0 0 p.2)).length:Nat) q.2)))).x gz).al (.lst (s.Q.map vr++p.wa.map λq=>vr (bj ((s.Q.map vr).length:Nat) ((p.wa.map λp=>vr (bj 0 0 p.2)).length:Nat) q.2)))
 have s8:=s7.x x8
 have n8:=n7.x x8
 have Jy:=(s8.al (.lst (s.R.map vr++p.wb.map λq=>vr (bj ((s.R.map vr).length:Nat) ((p.wb.map λp=>vr (bj 0 0 p.2)).length:Nat) q.2)))).x gz
 have VE:=(n8.al (.lst (s.R.map vr++p.wb.map λq=>vr (bj ((s.R.map vr).length:Nat) ((p.wb.map λp=>vr (bj 0 0 p.2)).length:Nat) q.2)))).x gz
 refine ⟨p,hp,_,_,_,_,tt,VA,QO,?_,?_,?_,?_,P.fs,P.fn,(L7.xt x8).lw.fr (Nat.le_refl _),(((L7.xt x8).al (.lst (s.R.map vr++p.wb.map λq=>vr (bj ((s.R.map vr).length:Nat) ((p.wb.map λp=>vr (bj 0 0 p.2)).length:Nat) q.2)))).xt gz).lw.fr (Nat.le_refl _),⟨P.ge.1,P.ge.2.1,(L7.xt x8).x.n,(((L7.xt x8).al _).xt gz).x.n⟩,P.ne.1,Nat.ne_of_gt s8.lt,Nat.ne_of_gt n8.lt,Nat.ne_of_gt Jy.lt,Nat.ne_of_gt VE.lt⟩
 ·exact Cn.eq (by unfold cD dk;rw [List.map_append,List.map_map,List.length_map,List.length_map];rfl)
 ·exact VB.eq (by unfold cD dk;rw [List.map_append,List.map_map,List.length_map,List.length_map];rfl)
 ·exact VC.eq (by unfold cD;rw [List.map_append,List.length_map,List.length_map];rfl)
 ·exact VD.eq (by unfold cD;rw [List.map_append,List.length_map,List.length_map];rfl)
end
section
variable{d:Nat}{Z aw ao:St}{bx lb u k du sp nw rr:Nat}{ns:List Int}{D:UD}{U:Ul}{t dp pc:Int}{w:Tw}{s:PS}{m:Ms}{o:af}{n:Nat}
def jz:PS:=⟨[],[],[],[]⟩
theorem Ir(Z:St)(n i:Nat):(Src.kU 0 (n:Nat)).at Z i=some (((List.range n)[i]?).map λj=>V.int (j:Nat)):=by
 show some (if (0:Int)+(i:Nat)<(n:Nat) then some (V.int (0+(i:Nat))) else .none)=_
 by_cases q:i<n
 ·rw [if_pos (by lia),List.getElem?_range q]
  show some (some (V.int (0+(i:Nat))))=_
  rw [Int.zero_add];rfl
 ·rw [if_neg (by lia),List.getElem?_eq_none (by rw [List.length_range];lia)];rfl
theorem Co(s:PS)(p:Pc)(h:p.wb.length<=7/\p.wa.length<=7):(cD s p).R.length<=s.R.length+7/\(cD s p).Q.length<=s.Q.length+7/\(cD s p).sp.length=s.sp.length+1/\(cD s p).nw.length=s.nw.length+1:=by
 have e:∀(b:Nat)(ws:Tx),(dk b ws).length=ws.length:=λb ws=>List.length_map _
 refine ⟨?_,?_,List.length_append,List.length_append⟩
 ·show (s.R++dk _ _).length<=_
  rw [List.length_append,e];exact Nat.add_le_add_left h.1 _
 ·show (s.Q++dk _ _).length<=_
  rw [List.length_append,e];exact Nat.add_le_add_left h.2 _
theorem qK{p:Pc}(h:p∈cZ):p.wb.length<=7/\p.wa.length<=7:=by
 have:=List.all_eq_true.mp xQ p h
 rw [Bool.and_eq_true,decide_eq_true_iff,decide_eq_true_iff] at this
 exact this
theorem vW:∀{l:List Pc}{s:PS},(∀p,p∈l->p∈cZ)->(l.foldl cD s).R.length<=s.R.length+7*l.length/\(l.foldl cD s).Q.length<=s.Q.length+7*l.length/\(l.foldl cD s).sp.length=s.sp.length+l.length/\(l.foldl cD s).nw.length=s.nw.length+l.length
 | [],_,_=>⟨Nat.le_refl _,Nat.le_refl _,rfl,rfl⟩
 | p::l,s,h=>by
  have a:=Co s p (qK (h p List.mem_cons_self))
  have b:=vW (l:=l) (s:=cD s p) λx hx=>h x (List.mem_cons_of_mem _ hx)
  rw [List.foldl_cons,List.length_cons]
  lia
theorem It(hn:n<=5)(P:Ip aw bx lb ns u D U du sp nw rr jz Z)(nW:d4 w):
  ∃(ps:List Pc)(w':Tw)(Ep Cn:Nat)(J:St),ps.length=n/\(∀p,p∈ps->p∈cZ)/\cI gL (cL (d+7)) 40 (dz "_law_unit" 9) (zF bx dp u du sp nw rr (n:Nat) w) Z=some (.next,zF bx dp u Ep sp nw Cn (n:Nat) w',J)/\d4 w'/\Ip aw bx lb ns u D U Ep sp nw Cn (ps.foldl cD jz) J:=by
 obtain ⟨m',J,l,ps,el,gH,w',Ep,Cn,em,MA,P'⟩:=mU (src:=.kU 0 (n:Nat)) (it:=λ_ (j:Nat)=>V.int (j:Nat)) (L:=List.range n) (turn:=tn "_law_unit" 9 (d+7) 39)
  (λpre m Z=>∃ps:List Pc,ps.length=pre.length/\(∀p,p∈ps->p∈cZ)/\∃w du rr,m=zF bx dp u du sp nw rr (n:Nat) w/\d4 w/\Ip aw bx lb ns u D U du sp nw rr (ps.foldl cD jz) Z)
  (λpre m Z i _=>Ir Z n i) (λpre j rest m Z e i=>by
   obtain ⟨ps,el,gH,w,du,rr,em,nW,P⟩:=i
   subst em
   have lp:pre.length<5:=by
    have:=congrArg List.length e
    rw [List.length_range,List.length_append,List.length_cons] at this
    lia
   have pl:=vW (s:=jz) gH
   obtain ⟨p,hp,w',Ep,Cn,J,t,MA,P'⟩:=P.turn (d:=d) (dp:=dp) (pc:=(n:Nat)) (j:=(j:Nat)) nW (by
    have e0:jz.R.length=0/\jz.Q.length=0/\jz.sp.length=0/\jz.nw.length=0:=⟨rfl,rfl,rfl,rfl⟩
    lia)
   exact ⟨_,J,t,ps++[p],by rw [List.length_append,List.length_append,el];rfl,λx hx=>(List.mem_append.mp hx).elim (gH x) λe=>by rw [List.mem_singleton.mp e];exact hp,w',Ep,Cn,rfl,MA,by rw [List.foldl_append];exact P'⟩)
  (List.range n) [] _ Z aM rfl (by rw [List.length_range];exact Nat.lt_of_le_of_lt hn (by decide)) ⟨[],rfl,by simp,w,du,rr,rfl,nW,P⟩
 subst em
 have ep:(n:Int)<=4096/\(n:Int).natAbs<2^60:=⟨by lia,by show n<_;lia⟩
 have c:=dw (d:=d+7) (n:=39) (Z:=Z) (ao:=Z) (s:=dz "_law_unit" 9) (by kernel_rfl) (show aG _=some (Src.kU 0 (n:Nat),Z) from congrArg aG (gX (Z:=Z) (J:=Z) (v:=.src (.kU 0 (n:Nat))) [eP ep] (by kernel_rfl))) (by kernel_rfl) l
 exact ⟨ps,w',Ep,Cn,J,by rw [el,List.length_range],gH,c,MA,P'⟩
theorem Iu(L:LS aw bx lb ns u D U Z):∃J n,cI gL (cL (d+7)) 40 (dz "_law_unit" 8) (tC bx dp u du sp nw) Z=some (.next,zF bx dp u du sp nw Z.n (n:Nat) w0,J)/\LS aw bx lb ns u D U J/\2<=n/\n<=5/\At J Z.n (.lst [])/\Kp u bx Z J:=by
 have L1:=L.al (.lst [])
 obtain ⟨r,t',e,h0,h1,L2⟩:=L1.take (d:=d+6) (many:=4) (by decide)
 obtain ⟨n,rfl⟩:∃n:Nat,r=(n:Nat):=⟨r.toNat,(Int.toNat_of_nonneg h0).symm⟩
 have en:(2:Int)+(n:Nat)=((2+n:Nat):Int):=rfl
 exact ⟨_,2+n,gY [eP (p:=0<=aq) (by decide),eC e] (by kernel_rfl),L2,Nat.le_add_right _ _,by lia,(ay Z (.lst [])).put (Nat.ne_of_gt (Nat.lt_of_lt_of_le L.bl.1 L.x.n)),λk o h n1 n2=>(h.al _).put n2⟩
end
def VF(u bx c:Nat)(Z J:St):Prop:=∀k o,At Z k o->k≠u->k≠bx->k≠c->At J k o
def E2:List CR:=[(0,.no),(65,.no)]
section
variable{d:Nat}{Z aw ao:St}{bx lb u k du sp nw rr c:Nat}{ns:List Int}{D:UD}{U:Ul}{t dp pc:Int}{w:Tw}{s:PS}{m:Ms}{o:af}{n:Nat}{R:List CR}{K':List CV}
theorem LS.VH(L:LS aw bx lb ns u D U Z)(x:bp D.cn Z ao)(hk:At ao D.cn (.lst (K'.map CV.v)))(he:U.code=[]):LS aw bx lb ns u D {U with K:=K'} ao:=by
 have n:=L.n
 have bl:=L.bl
 have c:=L.ds.c
 have a:=L.a
 have vP:At ao D.co (.lst (([]:List CR).map (rv K'))):=by have h:=a.co.xc x c.2.1;rw [he] at h;exact h
 refine ⟨⟨Nat.le_trans L.x.n x.n,λk h q=>(x.f k (Nat.lt_of_lt_of_le h L.x.n) (by lia)).trans (L.x.f k h q)⟩,L.b.imp λt B=>⟨B.b.xc x (by lia),B.l.xc x (by lia),B.ne,B.n⟩,
  ⟨a.u.xc x (Ne.symm a.ne.2.1),a.pa.xc x c.1,hk,he.symm▸vP,a.un.xc x c.2.2.1,a.ha.xc x c.2.2.2.1,a.li.xc x c.2.2.2.2.1,a.ca.xc x c.2.2.2.2.2.1,a.pp.xc x c.2.2.2.2.2.2,a.ne⟩,n,L.ds,bl⟩
theorem Iv(L:LS aw bx lb ns u D U Z)(hr:At Z rr (.lst (R.map vr)))(he:U.code=[])(hK:∀x,x∈U.K->x∈KS)(hl:U.K.length<=2)(hR:R.length<100)(hv:∀q,q∈R++E2->H6 q):
  ∃J co,cI gL (cL (d+7)) 40 (dz "_law_unit" 10) (zF bx dp u du sp nw rr pc w) Z=some (.next,zF bx dp u du sp nw rr pc w,J)/\LS aw bx lb ns u {D with co:=co} {U with K:=bX U.K (R++E2),code:=R++E2} J/\VF u bx D.cn Z J/\Z.n<=co/\
   (∀y,y∈bX U.K (R++E2)->y∈KS)/\(bX U.K (R++E2)).length<=104/\∀q,q∈R++E2->mZ (bX U.K (R++E2)) q:=by
 have x2:Ext Z ((Z.alloc (.lst (E2.map vr))).alloc (.lst (R.map vr++E2.map vr))):=(aQ _ _).al _
 have L2:=L.xt x2
 have a2:At ((Z.alloc (.lst (E2.map vr))).alloc (.lst (R.map vr++E2.map vr))) (Z.n+1) (.lst ((R++E2).map vr)):=by rw [List.map_append];exact ay (Z.alloc (.lst (E2.map vr))) _
 obtain ⟨zG,e3,x3,k3,f3,s3,l3,o3⟩:=Eg (d:=d+6) a2 L2.a.cn (Nat.ne_of_gt (Nat.lt_of_lt_of_le L.a.cn.lt (Nat.le_succ _))) hK hv (by rw [List.length_append];show _+(_+2)<_;lia)
 have L3:=L2.VH x3 k3 he
 have l2:(R.map vr).length+2<=aq:=by rw [List.length_map];exact Nat.le_trans (show _<=102 by lia) (by decide)
 have ln:Z.n<=Z.n+2:=Nat.le_add_right _ _
 refine ⟨_,Z.n+2,gY [eP (p:=2<=aq) (by decide),eO (hr.al (.lst (E2.map vr))),eO (ay Z (.lst (E2.map vr))),eP l2,eO L2.a.u,eC e3,eO L3.a.u] (by kernel_rfl),L3.Ij f3 (L.lw.up ln) (Nat.le_trans L.x.n ln),λk o h n1 n2 n3=>((h.x x2).xc x3 n3).put n1,ln,s3,?_,o3⟩
 rw [List.length_append] at l3
 have:E2.length=2:=rfl
 lia
theorem Cp(n:Nat):fW 7 (7+(n:Nat))=((List.range n).map λi:Nat=>(7:Int)+(i:Nat)).map V.int:=by
 unfold fW
 rw [show (7+(n:Int)-7).toNat=n by lia,List.map_map];rfl
theorem Er(L:LS aw bx lb ns u D U Z)(hl:U.code.length<1000):∃J li l,cI gL (cL (d+7)) 40 (dz "_law_unit" 11) (zF bx dp u du sp nw rr pc w) Z=some (.next,zF bx dp u du sp nw rr pc w,J)/\LS aw bx lb ns u {D with li:=li} {U with L:=l} J/\(l=[]\/l=(List.range U.code.length).map λi:Nat=>(7:Int)+(i:Nat))/\Kp u bx Z J/\Z.n<=li:=by
 refine fc (L.take (d:=d+6) (many:=3) (by decide)) λr t' e h0 h1 L1=>?_
 by_cases q:(0:Int)<r
 ·have ep:(7+((U.code.map (rv U.K)).length:Nat):Int)-7<=4096/\(7:Int).natAbs<2^60/\(7+((U.code.map (rv U.K)).length:Nat):Int).natAbs<2^60:=by rw [List.length_map];refine ⟨by omega,by decide,?_⟩;omega
  have L2:=L1.al (.lst (fW 7 (7+((U.code.map (rv U.K)).length:Nat))))
  have f:=(ay (Z.put bx (.lst [.ref lb,.int t'])) (.lst (fW 7 (7+((U.code.map (rv U.K)).length:Nat))))).eq (Y:=((List.range U.code.length).map λi:Nat=>(7:Int)+(i:Nat)).map V.int) (by rw [List.length_map];exact Cp _)
  exact ⟨_,Z.n,_,gY [eC e,eB (Lr (Z:=Z.put bx (.lst [.ref lb,.int t'])) q),eO L1.a.u,eO L1.a.co,eP ep,eO L2.a.u] (by kernel_rfl),L2.Cd f L.lw L.x.n,.inr rfl,λk o h n1 n2=>((h.put n2).al _).put n1,Nat.le_refl _⟩
 ·have L2:=L1.al (.lst [])
  exact ⟨_,Z.n,[],gY [eC e,eB (xk (Z:=Z.put bx (.lst [.ref lb,.int t'])) q),eP (p:=0<=aq) (by decide),eO L2.a.u] (by kernel_rfl),L2.Cd (l:=[]) (ay (Z.put bx (.lst [.ref lb,.int t'])) (.lst [])) L.lw L.x.n,.inl rfl,λk o h n1 n2=>((h.put n2).al _).put n1,Nat.le_refl _⟩
noncomputable abbrev tF(bx:Nat)(dp:Int)(u du sp nw rr:Nat)(pc:Int)(w:Tw)(i:Int)(hv tv:V):Ms:=mk "_law_unit" [("box",.ref bx),("deep",.int dp),("unit",.ref u),("due",.ref du),("spans",.ref sp),("news",.ref nw),("rows",.ref rr),("pieces",.int pc),("turn",w 0),("before",w 1),("behind",w 2),("size",w 3),("other",w 4),("spot",.int i),("handler",hv),("told",tv)]
theorem Iw(L:LS aw bx lb ns u D U Z)(hp:0<pc):∃J i,cI gL (cL (d+7)) 40 (dz "_law_unit" 12) (zF bx dp u du sp nw rr pc w) Z=some (.next,tF bx dp u du sp nw rr pc w i .qW .qW,J)/\LS aw bx lb ns u D U J/\0<=i/\i<pc/\Kp u bx Z J:=by
 refine fc (L.take (d:=d+6) (many:=pc) hp) λr t' e h0 h1 L1=>?_
 exact ⟨_,r,gY [eC e] (by kernel_rfl),L1,h0,h1,λk o h n1 n2=>h.put n2⟩
theorem zH{i:Int}(L:LS aw bx lb ns u D U Z):∃J a f,cI gL (cL (d+7)) 40 (dz "_law_unit" 13) (tF bx dp u du sp nw rr pc w i .qW .qW) Z=some (.next,tF bx dp u du sp nw rr pc w i (.tup [.int a,.bool f]) .qW,J)/\LS aw bx lb ns u D U J/\a.natAbs<128/\Kp u bx Z J:=by
 refine fc (L.take (d:=d+6) (many:=3) (by decide)) λr t' e h0 h1 L1=>?_
 refine fc (L1.take (d:=d+6) (many:=2) (by decide)) λr' NM e' NN Jm L2=>?_
 exact ⟨_,r,decide (r'=0),gY [eC e,eC e',eB (JC (Z:=(Z.put bx (.lst [.ref lb,.int t'])).put bx (.lst [.ref lb,.int NM])) r' 0)] (by kernel_rfl),L2,by lia,λk o h n1 n2=>(h.put n2).put n2⟩
theorem Es{i a:Int}{f:Bool}{S:List V}{p:Nat×Nat}{RV:List V}(L:LS aw bx lb ns u D U Z)(hs:At Z sp (.lst S))(es:dB S i=some (o6 p))(hr:At Z rr (.lst RV)):
  ∃J ha,cI gL (cL (d+7)) 40 (dz "_law_unit" 14) (tF bx dp u du sp nw rr pc w i (.tup [.int a,.bool f]) .qW) Z=some (.next,tF bx dp u du sp nw rr pc w i (.tup [.int a,.bool f]) .qW,J)/\LS aw bx lb ns u {D with ha:=ha} {U with hs:=[⟨(p.1:Nat),(p.2:Nat),(RV.length:Nat),a,f⟩]} J/\Kp u bx Z J/\Z.n<=ha:=by
 have L1:=L.al (.lst ([Hd.mk (p.1:Nat) (p.2:Nat) (RV.length:Nat) a f].map Hd.v))
 exact ⟨_,Z.n,gY [eO hs,eV es,eO hs,eV es,eO hr,eP (p:=1<=aq) (by decide),eO L1.a.u] (by kernel_rfl),L1.Ik (ay _ _) L.lw L.x.n,λk o h n1 n2=>(h.al _).put n1,Nat.le_refl _⟩
theorem Iy{i a:Int}{f:Bool}{S:List V}{p:Nat×Nat}{QV:List V}(hs:At Z nw (.lst S))(es:dB S i=some (o6 p))(hq:At Z du (.lst QV)):
  cI gL (cL (d+7)) 40 (dz "_law_unit" 15) (tF bx dp u du sp nw rr pc w i (.tup [.int a,.bool f]) .qW) Z=some (.next,tF bx dp u du sp nw rr pc w i (.tup [.int a,.bool f]) (.ref Z.n),Z.alloc (.lst ((if p.1<p.2 then [Hd.mk (p.1:Nat) (p.2:Nat) (QV.length:Nat) a f] else []).map Hd.v))):=by
 by_cases q:p.1<p.2
 ·rw [if_pos q]
  exact gY [eO hs,eV es,eO hs,eV es,eB (zv (Z:=Z) (a:=(p.1:Nat)) (b:=(p.2:Nat)) (by lia)),eO hs,eV es,eO hs,eV es,eO hq,eP (p:=1<=aq) (by decide)] (by kernel_rfl)
 ·rw [if_neg q]
  exact gY [eO hs,eV es,eO hs,eV es,eB (mW (Z:=Z) (a:=(p.1:Nat)) (b:=(p.2:Nat)) (by lia)),eP (p:=0<=aq) (by decide)] (by kernel_rfl)
end
end Mine
end
section
set_option maxHeartbeats 1000000
namespace Mine
open PySem
noncomputable def Et(w:Wd):Bool:=cU.contains w.op&&match w.a with
 | .c x=>jJ w.op&&KS.contains x
 | _=> !jJ w.op
theorem Cq:(cZ.all λp=>p.wb.all λw=>Et w.2)=true:=by kernel_rfl
theorem Iz{w:Wd}(h:Et w=true)(b s:Int):H6 (bj b s w):=by
 unfold Et at h
 rw [Bool.and_eq_true] at h
 obtain ⟨h1,h2⟩:=h
 refine ⟨List.contains_iff_mem.mp h1,λe=>?_,λe x ex=>?_⟩
 ·have e:jJ w.op=true:=e
  unfold bj
  cases ha:w.a with
  | c x=>
   rw [ha] at h2
   dsimp only at h2
   rw [Bool.and_eq_true] at h2
   exact ⟨x,rfl,List.contains_iff_mem.mp h2.2⟩
  | _=>rw [ha,e] at h2;cases h2
 ·have e:jJ w.op=false:=e
  unfold bj at ex
  cases ha:w.a with
  | c y=>rw [ha,e] at h2;cases h2
  | _=>rw [ha] at ex;cases ex
theorem Cr:∀{l:List Pc}{s:PS},(∀p,p∈l->p∈cZ)->(∀q,q∈s.R->H6 q)->∀q,q∈(l.foldl cD s).R->H6 q
 | [],_,_,h,q,hq=>h q hq
 | p::l,s,hl,h,q,hq=>Cr (l:=l) (s:=cD s p) (λx hx=>hl x (List.mem_cons_of_mem _ hx)) (λq hq=>by
   rcases List.mem_append.mp (show q∈s.R++dk s.R.length p.wb from hq) with e | e
   ·exact h q e
   ·refine aO (List.mem_map.mp e) λw hw ew=>?_
    rw [<-ew]
    exact Iz (List.all_eq_true.mp (List.all_eq_true.mp Cq p (hl p List.mem_cons_self)) w hw) _ _) q hq
theorem IA:∀q,q∈E2->H6 q:=λq hq=>by
 rcases List.mem_cons.mp hq with e | e
 ·rw [e];exact ⟨by decide,(λh=>by cases h),(λ_ x h=>by cases h)⟩
 ·rw [List.mem_singleton.mp e];exact ⟨by decide,(λh=>by cases h),(λ_ x h=>by cases h)⟩
structure iX (U:Ul) (hd:Hd) (cA:List CR) (told:List Hd):Prop where
 p:∃(ps:List Pc)(K:List CV)(i:Nat)(a:Int)(f:Bool),(∀p,p∈ps->p∈cZ)/\ps.length<=5/\(∀x,x∈K->x∈KS)/\K.length<=2/\a.natAbs<128/\i<ps.length/\U.code=(ps.foldl cD jz).R++E2/\U.K=bX K U.code/\cA=(ps.foldl cD jz).Q++E2/\
  ∃x y,(ps.foldl cD jz).sp[i]?=some x/\(ps.foldl cD jz).nw[i]?=some y/\hd=⟨(x.1:Nat),(x.2:Nat),((ps.foldl cD jz).R.length:Nat),a,f⟩/\told=if y.1<y.2 then [⟨(y.1:Nat),(y.2:Nat),((ps.foldl cD jz).Q.length:Nat),a,f⟩] else []
 hs:U.hs=[hd]
 l:U.L=[]\/U.L=(List.range U.code.length).map λi:Nat=>(7:Int)+(i:Nat)
 ks:∀x,x∈U.K->x∈KS
 kc:∀q,q∈U.code->mZ U.K q
section
variable{d:Nat}{Z aw ao:St}{bx lb:Nat}{ns:List Int}{t dp:Int}
theorem FH{l:List (Nat×Nat)}{i:Int}(h0:0<=i)(h1:i<l.length)(hl:l.length<100):∃x,l[i.toNat]?=some x/\dB (l.map o6) i=some (o6 x):=by
 have q:i.toNat<l.length:=by lia
 exact ⟨l[i.toNat],List.getElem?_eq_getElem q,qz h0 (by lia) (by rw [List.getElem?_map,List.getElem?_eq_getElem q];rfl)⟩
theorem Cs(B:Bx bx lb ns t Z)(hb:bx<Z.n/\lb<Z.n):∃(J:St)(u:Nat)(D:UD)(U:Ul)(m:Nat->Ms)(hd:Hd)(cA:List CR)(told:List Hd)(du tl:Nat)(QV:List CR),
  (∀r,ex (d+7) "_law_unit" 16 (m 0) J=some r->ex (d+7) "_law_unit" 0 (mk "_law_unit" [("box",.ref bx),("deep",.int dp)]) Z=some r)/\
  LS Z bx lb ns u D U J/\CZ D U/\iX U hd cA told/\U.us=[]/\cA=QV++E2/\QV.length<100/\At J du (.lst (QV.map vr))/\At J tl (.lst (told.map Hd.v))/\du≠D.un/\tl≠D.un/\du≠u/\tl≠u/\Z.n<=du/\Z.n<=tl/\
  ∃(sp nw rr:Nat)(pc:Int)(w:Tw)(i:Int)(a:Int)(f:Bool),m 0=tF bx dp u du sp nw rr pc w i (.tup [.int a,.bool f]) (.ref tl):=by
 refine ES (Io (d:=d) (dp:=dp) B hb) λs7 u D7 U7 c7 L7 H7 K7 l7 su a8 a9 NQ Dm hu=>?_
 obtain ⟨VI,VJ,WQ,WR⟩:=su
 obtain ⟨f8,f9,OH⟩:=Dm
 refine N1 (Iu (d:=d) (dp:=dp) (du:=u+8) (sp:=u+9) (nw:=u+10) L7) λs8 n c8 L8 n2 n5 r8 k8=>?_
 have nb:∀i,u+i≠bx:=λi=>Nat.ne_of_gt (Nat.lt_of_lt_of_le hb.1 (Nat.le_trans hu (Nat.le_add_right _ _)))
 have nu:∀{i},8<=i->u+i≠u:=λh=>by lia
 have z9:=a9.lt
 have WS:=NQ.lt
 have z8:=a8.lt
 have P8:Ip Z bx lb ns u D7 U7 (u+8) (u+9) (u+10) s7.n jz s8:=⟨L8,r8,k8 _ _ a8 (nu (by decide)) (nb 8),k8 _ _ a9 (nu (by decide)) (nb 9),k8 _ _ NQ (nu (by decide)) (nb 10),f9,OH,L7.lw.fr (Nat.le_refl _),f8,⟨Nat.le_trans hu (Nat.le_add_right _ _),Nat.le_trans hu (Nat.le_add_right _ _),L7.x.n,Nat.le_trans hu (Nat.le_add_right _ _)⟩,⟨by lia,by lia,by lia,by lia,by lia⟩⟩
 refine Ka (It (d:=d) (dp:=dp) n5 P8 BH) λps w9 du rr s9 en gH VK WT P9=>?_
 have pl:=vW (s:=jz) gH
 have e0:jz.R.length=0/\jz.Q.length=0/\jz.sp.length=0/\jz.nw.length=0:=⟨rfl,rfl,rfl,rfl⟩
 refine Af (Iv (d:=d) (dp:=dp) (du:=du) (sp:=u+9) (nw:=u+10) (pc:=(n:Nat)) (w:=w9) P9.L P9.hr VI K7 l7 (by lia) (λq hq=>(List.mem_append.mp hq).elim (Cr gH (λq hq=>by cases hq) q) (IA q))) λJy co VL VM VN WU QP VO QQ=>?_
 obtain ⟨Nn,li,ll,VP,QO,el,VQ,WV⟩:=Er (d:=d) (dp:=dp) (du:=du) (sp:=u+9) (nw:=u+10) (rr:=rr) (pc:=(n:Nat)) (w:=w9) VM (by show ((ps.foldl cD jz).R++E2).length<1000;rw [List.length_append];have:E2.length=2:=rfl;lia)
 refine Ae (Iw (d:=d) (dp:=dp) (du:=du) (sp:=u+9) (nw:=u+10) (rr:=rr) (pc:=(n:Nat)) (w:=w9) QO (by lia)) λR8 i VS VT i0 i1 VU=>?_
 refine kF (zH (d:=d) (dp:=dp) (du:=du) (sp:=u+9) (nw:=u+10) (rr:=rr) (pc:=(n:Nat)) (w:=w9) (i:=i) VT) λO3 a f VV VW ha VX=>?_
 have up:∀{k:Nat}{o:af},At s9 k o->Fr u D7 k->k≠bx->At O3 k o:=λh fr nb=>VX _ _ (VU _ _ (VQ _ _ (VN _ _ h fr.1.symm nb fr.2.2.2.1.symm) fr.1.symm nb) fr.1.symm nb) fr.1.symm nb
 have JK:∀{k:Nat},Z.n<=k->k≠bx:=λh=>Nat.ne_of_gt (Nat.lt_of_lt_of_le hb.1 h)
 have QR:=up P9.hs P9.fs (JK P9.ge.1)
 have QS:=up P9.hn P9.fn (JK P9.ge.2.1)
 have QT:=up P9.hr P9.fr (JK P9.ge.2.2.1)
 have QU:=up P9.hq P9.fq (JK P9.ge.2.2.2)
 obtain ⟨x,VY,VZ⟩:=FH (l:=(ps.foldl cD jz).sp) i0 (by rw [pl.2.2.1,en];show i<((0+n:Nat):Int);rw [Nat.zero_add];exact i1) (by lia)
 obtain ⟨y,V0,V1⟩:=FH (l:=(ps.foldl cD jz).nw) i0 (by rw [pl.2.2.2,en];show i<((0+n:Nat):Int);rw [Nat.zero_add];exact i1) (by lia)
 refine fc (Es (d:=d) (dp:=dp) (du:=du) (nw:=u+10) (pc:=(n:Nat)) (w:=w9) (a:=a) (f:=f) VW QR VZ QT) λGB WW V2 NR SO WX=>?_
 have QW:=SO _ _ QS P9.fn.1.symm (JK P9.ge.2.1)
 have ML:=SO _ _ QU P9.fq.1.symm (JK P9.ge.2.2.2)
 have V3:=Iy (d:=d) (bx:=bx) (dp:=dp) (u:=u) (sp:=u+9) (rr:=rr) (pc:=(n:Nat)) (w:=w9) (a:=a) (f:=f) QW V1 ML
 have V4:=NR.al (.lst ((if y.1<y.2 then [Hd.mk (y.1:Nat) (y.2:Nat) (((ps.foldl cD jz).Q.map vr).length:Nat) a f] else []).map Hd.v))
 have V5:=ay GB (.lst ((if y.1<y.2 then [Hd.mk (y.1:Nat) (y.2:Nat) (((ps.foldl cD jz).Q.map vr).length:Nat) a f] else []).map Hd.v))
 refine ⟨_,u,_,_,λ_=>tF bx dp u du (u+9) (u+10) rr (n:Nat) w9 i (.tup [.int a,.bool f]) (.ref GB.n),⟨(x.1:Nat),(x.2:Nat),(((ps.foldl cD jz).R.map vr).length:Nat),a,f⟩,(ps.foldl cD jz).Q++E2,if y.1<y.2 then [Hd.mk (y.1:Nat) (y.2:Nat) (((ps.foldl cD jz).Q.map vr).length:Nat) a f] else [],du,GB.n,(ps.foldl cD jz).Q,λr h=>?_,V4,⟨H7.ps,H7.cp,H7.pq,H7.nm,H7.lc,H7.sl⟩,
  ⟨⟨ps,U7.K,i.toNat,a,f,gH,by lia,K7,l7,ha,by lia,rfl,rfl,rfl,x,y,VY,V0,by rw [List.length_map],by rw [List.length_map]⟩,rfl,el,QP,QQ⟩,VJ,rfl,by lia,ML.al _,V5,P9.fq.2.2.2.2.1.symm,Nat.ne_of_gt NR.a.un.lt,P9.fq.1.symm,Nat.ne_of_gt NR.a.u.lt,P9.ge.2.2.2,NR.x.n,u+9,u+10,rr,(n:Nat),w9,i,a,f,rfl⟩
 exact c7 r (bz (i:=8) (by kernel_rfl) c8 (bz (i:=9) (by kernel_rfl) VK (bz (i:=10) (by kernel_rfl) VL (bz (i:=11) (by kernel_rfl) VP (bz (i:=12) (by kernel_rfl) VS (bz (i:=13) (by kernel_rfl) VV (bz (i:=14) (by kernel_rfl) V2 (bz (i:=15) (by kernel_rfl) V3 h))))))))
end
section
variable{d:Nat}{Z aw ao:St}{bx lb u:Nat}{ns:List Int}{t dp:Int}{D:UD}{U:Ul}
theorem LS.xb{t':Int}(L:LS aw bx lb ns u D U Z)(x:bp bx Z ao)(B:Bx bx lb ns t' ao):LS aw bx lb ns u D U ao:=by
 have f:=L.Ie L.bl.1
 have a:=L.a
 exact ⟨L.x.trans x,⟨t',B⟩,⟨a.u.xc x f.1,a.pa.xc x f.2.1,a.cn.xc x f.2.2.2.1,a.co.xc x f.2.2.1,a.un.xc x f.2.2.2.2.1,a.ha.xc x f.2.2.2.2.2.1,a.li.xc x f.2.2.2.2.2.2.1,a.ca.xc x f.2.2.2.2.2.2.2.1,a.pp.xc x f.2.2.2.2.2.2.2.2,a.ne⟩,L.n,L.ds,L.bl⟩
theorem LS.V6(L:LS aw bx lb ns u D U Z)(us:List V):LS aw bx lb ns u D {U with us:=us} (Z.put D.un (.lst us)):=by
 have a:=L.a
 have n:=L.n
 have bl:=L.bl
 have e:=L.ds.u
 exact ⟨L.x.pu n.2.2.2.2.1,L.b.imp λt B=>⟨B.b.put (by lia),B.l.put (by lia),B.ne,B.n⟩,⟨a.u.put a.ne.2.2.2.1.symm,a.pa.put e.1,a.cn.put L.ds.c.2.2.1.symm,a.co.put e.2.1,At.self a.un.lt _,a.ha.put e.2.2.1,a.li.put e.2.2.2.1,a.ca.put e.2.2.2.2.1,a.pp.put e.2.2.2.2.2,a.ne⟩,n,L.ds,bl⟩
def Ct:List V:=E2.map vr
theorem Eu(B:Bx bx lb ns t Z)(hb:bx<Z.n/\lb<Z.n):∃(J:St)(u:Nat)(D:UD)(U:Ul)(hd:Hd)(cA:List CR)(told:List Hd)(q tl:Nat),run (d+8) "_law_unit" [.ref bx,.int 0] Z=some (.tup [.ref u,.ref q,.ref tl],J)/\
  LS Z bx lb ns u D U J/\CZ D U/\iX U hd cA told/\U.us=[]:=by
 refine EU (Cs (d:=d) (dp:=0) B hb) λkQ u D U m hd cA told du tl QV c L ah W eu ed ql hq QX=>?_
 obtain ⟨ht,n1,n2,n3,n4,g1,g2,sp,nw,rr,pc,w,i,a,f,em⟩:=QX
 have l:(QV.map vr).length+2<=aq:=by rw [List.length_map];exact Nat.le_trans (show _<=102 by lia) (by decide)
 have QY:cI gL (cL (d+7)) 40 (dz "_law_unit" 16) (tF bx 0 u du sp nw rr pc w i (.tup [.int a,.bool f]) (.ref tl)) kQ=some (.next,tF bx 0 u du sp nw rr pc w i (.tup [.int a,.bool f]) (.ref tl),kQ):=gY [] (by kernel_rfl)
 have QZ:ex (d+7) "_law_unit" 17 (tF bx 0 u du sp nw rr pc w i (.tup [.int a,.bool f]) (.ref tl)) kQ=some (.ret (.tup [.ref u,.ref (kQ.n+1),.ref tl]),tF bx 0 u du sp nw rr pc w i (.tup [.int a,.bool f]) (.ref tl),(kQ.alloc (.lst Ct)).alloc (.lst (QV.map vr++Ct))):=
  gS [eP (p:=2<=aq) (by decide),eO (hq.al (.lst Ct)),eO (ay kQ (.lst Ct)),eP l] (by kernel_rfl)
 have h:=c _ (by rw [em];exact bz (i:=16) (by kernel_rfl) QY QZ)
 exact ⟨_,u,D,U,hd,cA,told,kQ.n+1,tl,qJ (by kernel_rfl) (show 2≠1000 by decide) h,(L.al _).al _,ah,W,eu⟩
theorem Ew(B:Bx bx lb ns t Z)(hb:bx<Z.n/\lb<Z.n):∃(J:St)(u:Nat)(D:UD)(U:Ul)(hd:Hd)(cA:List CR)(told:List Hd)(q tl ui:Nat)(Di:UD)(Ui:Ul)(hi:Hd)(di:List CR)(ti:List Hd),run (d+9) "_law_unit" [.ref bx,.int 1] Z=some (.tup [.ref u,.ref q,.ref tl],J)/\
  UA J u D U/\CZ D U/\iX U hd cA told/\U.us=[.ref ui]/\UA J ui Di Ui/\CZ Di Ui/\iX Ui hi di ti/\Ui.us=[]/\At J q (.lst (cA.map vr))/\At J tl (.lst (told.map Hd.v)):=by
 refine EU (Cs (d:=d+1) (dp:=1) B hb) λkQ u D U m hd cA told du tl QV c L ah W eu ed ql hq Q0=>?_
 obtain ⟨ht,n1,n2,n3,n4,g1,g2,sp,nw,rr,pc,w,i,a,f,em⟩:=Q0
 have l:(QV.map vr).length+2<=aq:=by rw [List.length_map];exact Nat.le_trans (show _<=102 by lia) (by decide)
 obtain ⟨t1,B1⟩:=L.b
 refine N8 (Eu (d:=d) B1 ⟨B1.b.lt,B1.l.lt⟩) λdA ui Di Ui hi di ti qi WY ri Li Hi Wi ei=>?_
 obtain ⟨t2,B2⟩:=Li.b
 have L2:=L.xb Li.x B2
 have NJ:At kQ D.un (.lst []):=by have h:=L.a.un;rw [eu] at h;exact h
 have V7:At dA D.un (.lst []):=by have h:=L2.a.un;rw [eu] at h;exact h
 have nb:∀{k},Z.n<=k->k≠bx:=λh=>Nat.ne_of_gt (Nat.lt_of_lt_of_le hb.1 h)
 have V8:=(hq.xc Li.x (nb g1)).put (o':=.lst [.ref ui]) n1
 have V9:=(ht.xc Li.x (nb g2)).put (o':=.lst [.ref ui]) n2
 have L3:=L2.V6 [.ref ui]
 have fi:Fr ui Di D.un:=Li.Ie L.a.un.lt
 have Ai:=Li.a.pu (o:=.lst [.ref ui]) fi
 have QY:cI gL (cL (d+8)) 40 (dz "_law_unit" 16) (tF bx 1 u du sp nw rr pc w i (.tup [.int a,.bool f]) (.ref tl)) kQ=some (.next,tF bx 1 u du sp nw rr pc w i (.tup [.int a,.bool f]) (.ref tl),dA.put D.un (.lst [.ref ui])):=
  gY [eO L.a.u,eO NJ,eC ri,eO V7,eP (p:=0<aq) (by decide)] (by kernel_rfl)
 have QZ:ex (d+8) "_law_unit" 17 (tF bx 1 u du sp nw rr pc w i (.tup [.int a,.bool f]) (.ref tl)) (dA.put D.un (.lst [.ref ui]))=some (.ret (.tup [.ref u,.ref (dA.n+1),.ref tl]),tF bx 1 u du sp nw rr pc w i (.tup [.int a,.bool f]) (.ref tl),((dA.put D.un (.lst [.ref ui])).alloc (.lst Ct)).alloc (.lst (QV.map vr++Ct))):=
  gS [eP (p:=2<=aq) (by decide),eO (V8.al (.lst Ct)),eO (ay (dA.put D.un (.lst [.ref ui])) (.lst Ct)),eP l] (by kernel_rfl)
 have h:=c _ (by rw [em];exact bz (i:=16) (by kernel_rfl) QY QZ)
 have x:Ext (dA.put D.un (.lst [.ref ui])) (((dA.put D.un (.lst [.ref ui])).alloc (.lst Ct)).alloc (.lst (QV.map vr++Ct))):=(aQ _ _).al _
 refine ⟨_,u,D,{U with us:=[.ref ui]},hd,cA,told,dA.n+1,tl,ui,Di,Ui,hi,di,ti,qJ (by kernel_rfl) (show 2≠1000 by decide) h,L3.a.x x,⟨ah.ps,ah.cp,ah.pq,ah.nm,ah.lc,ah.sl⟩,⟨W.p,W.hs,W.l,W.ks,W.kc⟩,rfl,Ai.x x,Hi,Wi,ei,?_,V9.x x⟩
 rw [ed,List.map_append]
 exact ay ((dA.put D.un (.lst [.ref ui])).alloc (.lst Ct)) _
end
end Mine
end
section
namespace Mine
open PySem
section
variable{K aJ K':List CV}{A B L L0 T new A' S' S:List SR}{r:SR}{rest:List (Bool×SR)}{P:List Nat}{f:Bool}
theorem Run.first(h:bc K (fS f S) r none K)(c:oQ K r)(n:Run K (fA f A S) (fS f S++[r]) rest K' A' S' P):Run K A S ((f,r)::rest) K' A' S' ((A.length+S.length)::P):=.keep h c n
theorem Run.kp(h:bc K ((B++L0)++T) r none K)(c:oQ K r)(n:Run K A (B++((L0++T)++[r])) rest K' A' S' P):Run K A (B++(L0++T)) ((false,r)::rest) K' A' S' ((A.length+(B++(L0++T)).length)::P):=
 .keep (b:=false) (by show bc K (B++(L0++T)) _ _ _;rw [<-List.append_assoc];exact h) c (by show Run K A ((B++(L0++T))++[r]) _ _ _ _ _;rw [List.append_assoc];exact n)
theorem Run.reset(h:bc K [] r none K)(c:oQ K r)(n:Run K (A++(B++L)) ([]++[r]) rest K' A' S' P):Run K A (B++L) ((true,r)::rest) K' A' S' ((A.length+(B++L).length)::P):=
 .keep (b:=true) h c n
def Ex(K:List CV):List SR->Prop
 | []=>True
 | r::l=>oQ K r/\Ex K l
theorem Ex.of:∀{l:List SR},Ex K l->∀r,r∈l->oQ K r
 | [],_,x,h=>absurd h List.not_mem_nil
 | r::l,a,x,h=>(List.mem_cons.mp h).elim (λe=>e▸a.1) (a.2.of x)
theorem Run.fo(h:bc K ((B++L0)++T) r (some (T.length,new)) aJ)(g:Gr K aJ)(c:Ex aJ new)(l:new.length<=4)(n:Run aJ A (B++(L0++new)) rest K' A' S' P):Run K A (B++(L0++T)) ((false,r)::rest) K' A' S' ((A.length+(B++(L0++T)).length)::P):=
 .fold (b:=false) (B:=B++L0) (T:=T) (new:=new) (by show bc K (B++(L0++T)) _ _ _;rw [<-List.append_assoc];exact h) g c.of (by show B++(L0++T)=_;rw [List.append_assoc]) l (by show Run aJ A ((B++L0)++new) _ _ _ _ _;rw [List.append_assoc];exact n)
theorem bg{op l:Int}{a:Ar}(h:∀x,a≠ .c x):oQ K ⟨op,a,l⟩:=λx e=>absurd e (h x)
theorem bB{op l:Int}{x:CV}(h:x∈K):oQ K ⟨op,.c x,l⟩:=λy e=>by cases e;exact h
theorem dK(K:List CV)(z:CV):z∈dh K z:=by
 unfold dh;split
 ·assumption
 ·exact List.mem_append_right _ List.mem_cons_self
theorem jA(K:List CV)(z:CV):∃E,dh K z=K++E/\E.length<=1:=by
 unfold dh;split
 ·exact ⟨[],(List.append_nil K).symm,Nat.zero_le _⟩
 ·exact ⟨[z],rfl,Nat.le_refl _⟩
theorem bU(b:Bool)(A S:List SR):(fA b A S).length+(fS b S).length=A.length+S.length:=by
 rw [<-List.length_append,jr,List.length_append]
end
structure FT where
 fr:List (Wd×Nat)
 po:List Nat
noncomputable def IB(b s:Nat):Aw->Ar
 | .no=>.no
 | .i k=>.i k
 | .c x=>.c x
 | .t j=>.i ((b:Nat)+(j:Nat))
 | .e=>.i ((b:Nat)+(s:Nat))
def FT.rows(f:FT)(b s:Nat)(ln:Nat->Int):List SR:=f.fr.map λq=>⟨q.1.op,IB b s q.1.a,ln (b+q.2)⟩
def FT.pl(f:FT)(n:Nat):List Nat:=f.po.map λj=>n+j
def Q1(j:Nat)(w:Wd):Bool:=match w.a with
 | .t i=>i==j
 | _=>false
def Ey(p:Pc)(x:CV):Bool:=p.wb.any λw=>match w.2.a with
 | .c y=>decide (y=x)
 | _=>false
def MM(p:Pc)(j:Nat):Bool:=p.wb.any λw=>Q1 j w.2
noncomputable def PR(p:Pc)(f:FT):Prop:=∀(K:List CV)(A S:List SR)(b:Nat)(fl:Nat->Bool)(ln:Nat->Int),(∀x,Ey p x=true->x∈K)->(∀j,0<j->j<p.wb.length->fl (b+j)=MM p j)->
 ∃K' A' S' P,Run K A S (zx fl ln b (dk b p.wb)) K' A' S' P/\(Gr K K'/\∃E,K'=K++E/\E.length<=1)/\A'++S'=(A++S)++f.rows b p.wb.length ln/\P=f.pl (A.length+S.length)
def oh:Pc:=⟨"",[],"",[]⟩
theorem MN:PR (cZ.getD 0 oh) ⟨[],[0,1,2,1]⟩:=λK A S b fl ln hK hf=>by
 have eE:c2∈K:=hK c2 (by decide)
 have tG:c3∈K:=hK c3 (by decide)
 have g1:fl (b+1)=false:=hf 1 (by decide) (by decide)
 have g2:fl (b+2)=false:=hf 2 (by decide) (by decide)
 have g3:fl (b+3)=false:=hf 3 (by decide) (by decide)
 refine ⟨dh K c5,_,_,_,(show Run K A S [(fl (b+0),⟨4,.c c2,ln (b+0)⟩),(fl (b+1),⟨4,.c c3,ln (b+1)⟩),(fl (b+2),⟨30,.no,ln (b+2)⟩),(fl (b+3),⟨6,.no,ln (b+3)⟩)] _ _ _ _ by
  rw [g1,g2,g3]
  exact (Run.first (bc.cG 4 (by decide)) (bB (eE)) (Run.kp (L0:=[⟨4,.c c2,ln (b+0)⟩]) (T:=[]) (bc.cG 4 (by decide)) (bB (tG)) (Run.fo (L0:=[]) (T:=[⟨4,.c c2,ln (b+0)⟩,⟨4,.c c3,ln (b+1)⟩]) (new:=[⟨4,.c c5,ln (b+2)⟩]) (bc.Nw (by decide) (eE) (tG) Hx) (Gr.add K rfl) ⟨(bB (dK K c5)),trivial⟩ (show 1<=4 by decide) (Run.fo (L0:=[]) (T:=[⟨4,.c c5,ln (b+2)⟩]) (new:=[]) (bc.pop (dK K c5)) (Gr.refl _) trivial (show 0<=4 by decide) .nil))))),⟨Gr.add K rfl,jA K c5⟩,?_,?_⟩
 ·rw [<-jr (fl b) A S];simp only [List.append_assoc,List.nil_append,List.append_nil,List.cons_append];first | rfl | exact congrArg (fA (fl b) A S++·) (List.append_nil _).symm
 ·have q:=bU (fl b) A S
  (simp [FT.pl])<;>lia
theorem MO:PR (cZ.getD 1 oh) ⟨[(⟨11,.i 0⟩,0),(⟨6,.no⟩,1)],[0,1]⟩:=λK A S b fl ln hK hf=>by
 have g1:fl (b+1)=false:=hf 1 (by decide) (by decide)
 refine ⟨K,_,_,_,(show Run K A S [(fl (b+0),⟨11,.i 0,ln (b+0)⟩),(fl (b+1),⟨6,.no,ln (b+1)⟩)] _ _ _ _ by
  rw [g1]
  exact (Run.first (bc.td 11 (by decide)) (bg (by intro x e;cases e)) (Run.kp (L0:=[]) (T:=[⟨11,.i 0,ln (b+0)⟩]) (bc.qt 11 (by decide)) (bg (by intro x e;cases e)) .nil))),⟨Gr.refl K,[],(List.append_nil K).symm,Nat.zero_le _⟩,?_,?_⟩
 ·rw [<-jr (fl b) A S];simp only [List.append_assoc,List.nil_append,List.append_nil,List.cons_append];first | rfl | exact congrArg (fA (fl b) A S++·) (List.append_nil _).symm
 ·have q:=bU (fl b) A S
  (simp [FT.pl])<;>lia
theorem MP:PR (cZ.getD 2 oh) ⟨[(⟨4,.c c4⟩,2),(⟨12,.i 0⟩,3),(⟨6,.no⟩,4)],[0,1,2,1,2]⟩:=λK A S b fl ln hK hf=>by
 have eE:c2∈K:=hK c2 (by decide)
 have g1:fl (b+1)=false:=hf 1 (by decide) (by decide)
 have g2:fl (b+2)=false:=hf 2 (by decide) (by decide)
 have g3:fl (b+3)=false:=hf 3 (by decide) (by decide)
 have g4:fl (b+4)=false:=hf 4 (by decide) (by decide)
 refine ⟨dh K c4,_,_,_,(show Run K A S [(fl (b+0),⟨4,.c c2,ln (b+0)⟩),(fl (b+1),⟨7,.no,ln (b+1)⟩),(fl (b+2),⟨32,.no,ln (b+2)⟩),(fl (b+3),⟨12,.i 0,ln (b+3)⟩),(fl (b+4),⟨6,.no,ln (b+4)⟩)] _ _ _ _ by
  rw [g1,g2,g3,g4]
  exact (Run.first (bc.cG 4 (by decide)) (bB (eE)) (Run.fo (L0:=[]) (T:=[⟨4,.c c2,ln (b+0)⟩]) (new:=[⟨4,.c c2,ln (b+0)⟩,⟨4,.c c2,ln (b+0)⟩]) (bc.dup (eE)) (Gr.refl _) ⟨(bB (eE)),(bB (eE)),trivial⟩ (show 2<=4 by decide) (Run.fo (L0:=[]) (T:=[⟨4,.c c2,ln (b+0)⟩,⟨4,.c c2,ln (b+0)⟩]) (new:=[⟨4,.c c4,ln (b+2)⟩]) (bc.Nw (by decide) (eE) (eE) Hy) (Gr.add K rfl) ⟨(bB (dK K c4)),trivial⟩ (show 1<=4 by decide) (Run.kp (L0:=[]) (T:=[⟨4,.c c4,ln (b+2)⟩]) (bc.Nv (by decide) (dK K c4) LU _ (λK=>⟨_,rfl⟩)) (bg (by intro x e;cases e)) (Run.kp (L0:=[⟨4,.c c4,ln (b+2)⟩]) (T:=[⟨12,.i 0,ln (b+3)⟩]) (bc.qt 12 (by decide)) (bg (by intro x e;cases e)) .nil)))))),⟨Gr.add K rfl,jA K c4⟩,?_,?_⟩
 ·rw [<-jr (fl b) A S];simp only [List.append_assoc,List.nil_append,List.append_nil,List.cons_append];first | rfl | exact congrArg (fA (fl b) A S++·) (List.append_nil _).symm
 ·have q:=bU (fl b) A S
  (simp [FT.pl])<;>lia
theorem MQ:PR (cZ.getD 3 oh) ⟨[],[0,1,2,4,3,2,1]⟩:=λK A S b fl ln hK hf=>by
 have dm:c1∈K:=hK c1 (by decide)
 have eE:c2∈K:=hK c2 (by decide)
 have g1:fl (b+1)=false:=hf 1 (by decide) (by decide)
 have g2:fl (b+2)=false:=hf 2 (by decide) (by decide)
 have g3:fl (b+3)=false:=hf 3 (by decide) (by decide)
 have g4:fl (b+4)=false:=hf 4 (by decide) (by decide)
 have g5:fl (b+5)=false:=hf 5 (by decide) (by decide)
 have g6:fl (b+6)=false:=hf 6 (by decide) (by decide)
 refine ⟨dh K cm,_,_,_,(show Run K A S [(fl (b+0),⟨4,.c c1,ln (b+0)⟩),(fl (b+1),⟨4,.c c2,ln (b+1)⟩),(fl (b+2),⟨8,.no,ln (b+2)⟩),(fl (b+3),⟨31,.no,ln (b+3)⟩),(fl (b+4),⟨6,.no,ln (b+4)⟩),(fl (b+5),⟨6,.no,ln (b+5)⟩),(fl (b+6),⟨6,.no,ln (b+6)⟩)] _ _ _ _ by
  rw [g1,g2,g3,g4,g5,g6]
  exact (Run.first (bc.cG 4 (by decide)) (bB (dm)) (Run.kp (L0:=[⟨4,.c c1,ln (b+0)⟩]) (T:=[]) (bc.cG 4 (by decide)) (bB (eE)) (Run.fo (L0:=[]) (T:=[⟨4,.c c1,ln (b+0)⟩,⟨4,.c c2,ln (b+1)⟩]) (new:=[⟨4,.c c1,ln (b+0)⟩,⟨4,.c c2,ln (b+1)⟩,⟨4,.c c1,ln (b+0)⟩,⟨4,.c c2,ln (b+1)⟩]) (bc.dup2 (dm) (eE)) (Gr.refl _) ⟨(bB (dm)),(bB (eE)),(bB (dm)),(bB (eE)),trivial⟩ (show 4<=4 by decide) (Run.fo (L0:=[⟨4,.c c1,ln (b+0)⟩,⟨4,.c c2,ln (b+1)⟩]) (T:=[⟨4,.c c1,ln (b+0)⟩,⟨4,.c c2,ln (b+1)⟩]) (new:=[⟨4,.c cm,ln (b+3)⟩]) (bc.Nw (by decide) (dm) (eE) Hz) (Gr.add K rfl) ⟨(bB (dK K cm)),trivial⟩ (show 1<=4 by decide) (Run.fo (L0:=[⟨4,.c c1,ln (b+0)⟩,⟨4,.c c2,ln (b+1)⟩]) (T:=[⟨4,.c cm,ln (b+3)⟩]) (new:=[]) (bc.pop (dK K cm)) (Gr.refl _) trivial (show 0<=4 by decide) (Run.fo (L0:=[⟨4,.c c1,ln (b+0)⟩]) (T:=[⟨4,.c c2,ln (b+1)⟩]) (new:=[]) (bc.pop ((Gr.add K (z:=cm) rfl).i _ (eE)).1) (Gr.refl _) trivial (show 0<=4 by decide) (Run.fo (L0:=[]) (T:=[⟨4,.c c1,ln (b+0)⟩]) (new:=[]) (bc.pop ((Gr.add K (z:=cm) rfl).i _ (dm)).1) (Gr.refl _) trivial (show 0<=4 by decide) .nil)))))))),⟨Gr.add K rfl,jA K cm⟩,?_,?_⟩
 ·rw [<-jr (fl b) A S];simp only [List.append_assoc,List.nil_append,List.append_nil,List.cons_append];first | rfl | exact congrArg (fA (fl b) A S++·) (List.append_nil _).symm
 ·have q:=bU (fl b) A S
  (simp [FT.pl])<;>lia
theorem MR:PR (cZ.getD 4 oh) ⟨[(⟨4,.c c1⟩,3),(⟨12,.i 1⟩,4),(⟨6,.no⟩,5)],[0,1,2,2,1,2]⟩:=λK A S b fl ln hK hf=>by
 have dm:c1∈K:=hK c1 (by decide)
 have eE:c2∈K:=hK c2 (by decide)
 have g1:fl (b+1)=false:=hf 1 (by decide) (by decide)
 have g2:fl (b+2)=false:=hf 2 (by decide) (by decide)
 have g3:fl (b+3)=false:=hf 3 (by decide) (by decide)
 have g4:fl (b+4)=false:=hf 4 (by decide) (by decide)
 have g5:fl (b+5)=false:=hf 5 (by decide) (by decide)
 refine ⟨dh K c1,_,_,_,(show Run K A S [(fl (b+0),⟨4,.c c1,ln (b+0)⟩),(fl (b+1),⟨4,.c c2,ln (b+1)⟩),(fl (b+2),⟨9,.no,ln (b+2)⟩),(fl (b+3),⟨31,.no,ln (b+3)⟩),(fl (b+4),⟨12,.i 1,ln (b+4)⟩),(fl (b+5),⟨6,.no,ln (b+5)⟩)] _ _ _ _ by
  rw [g1,g2,g3,g4,g5]
  exact (Run.first (bc.cG 4 (by decide)) (bB (dm)) (Run.kp (L0:=[⟨4,.c c1,ln (b+0)⟩]) (T:=[]) (bc.cG 4 (by decide)) (bB (eE)) (Run.fo (L0:=[]) (T:=[⟨4,.c c1,ln (b+0)⟩,⟨4,.c c2,ln (b+1)⟩]) (new:=[⟨4,.c c2,ln (b+1)⟩,⟨4,.c c1,ln (b+0)⟩]) (bc.swap (dm) (eE)) (Gr.refl _) ⟨(bB (eE)),(bB (dm)),trivial⟩ (show 2<=4 by decide) (Run.fo (L0:=[]) (T:=[⟨4,.c c2,ln (b+1)⟩,⟨4,.c c1,ln (b+0)⟩]) (new:=[⟨4,.c c1,ln (b+3)⟩]) (bc.Nw (by decide) (eE) (dm) HA) (Gr.add K rfl) ⟨(bB (dK K c1)),trivial⟩ (show 1<=4 by decide) (Run.kp (L0:=[]) (T:=[⟨4,.c c1,ln (b+3)⟩]) (bc.Nv (by decide) (dK K c1) LR _ (λK=>⟨_,rfl⟩)) (bg (by intro x e;cases e)) (Run.kp (L0:=[⟨4,.c c1,ln (b+3)⟩]) (T:=[⟨12,.i 1,ln (b+4)⟩]) (bc.qt 12 (by decide)) (bg (by intro x e;cases e)) .nil))))))),⟨Gr.add K rfl,jA K c1⟩,?_,?_⟩
 ·rw [<-jr (fl b) A S];simp only [List.append_assoc,List.nil_append,List.append_nil,List.cons_append];first | rfl | exact congrArg (fA (fl b) A S++·) (List.append_nil _).symm
 ·have q:=bU (fl b) A S
  (simp [FT.pl])<;>lia
theorem MS:PR (cZ.getD 5 oh) ⟨[(⟨11,.i 0⟩,0),(⟨60,.e⟩,2),(⟨21,.c (.s "p")⟩,3)],[0,1,2,2]⟩:=λK A S b fl ln hK hf=>by
 have qM:(.s "p")∈K:=hK (.s "p") (by decide)
 have g1:fl (b+1)=false:=hf 1 (by decide) (by decide)
 have g2:fl (b+2)=false:=hf 2 (by decide) (by decide)
 have g3:fl (b+3)=false:=hf 3 (by decide) (by decide)
 refine ⟨K,_,_,_,(show Run K A S [(fl (b+0),⟨11,.i 0,ln (b+0)⟩),(fl (b+1),⟨53,.no,ln (b+1)⟩),(fl (b+2),⟨59,.i ((b:Nat)+(4:Nat)),ln (b+2)⟩),(fl (b+3),⟨21,.c (.s "p"),ln (b+3)⟩)] _ _ _ _ by
  rw [g1,g2,g3]
  exact (Run.first (bc.td 11 (by decide)) (bg (by intro x e;cases e)) (Run.kp (L0:=[]) (T:=[⟨11,.i 0,ln (b+0)⟩]) (bc.not) (bg (by intro x e;cases e)) (Run.fo (L0:=[⟨11,.i 0,ln (b+0)⟩]) (T:=[⟨53,.no,ln (b+1)⟩]) (new:=[⟨60,.i ((b:Nat)+(4:Nat)),ln (b+2)⟩]) (bc.LX) (Gr.refl _) ⟨(bg (by intro x e;cases e)),trivial⟩ (show 1<=4 by decide) (Run.kp (L0:=[⟨11,.i 0,ln (b+0)⟩,⟨60,.i ((b:Nat)+(4:Nat)),ln (b+2)⟩]) (T:=[]) (bc.cG 21 (by decide)) (bB (qM)) .nil))))),⟨Gr.refl K,[],(List.append_nil K).symm,Nat.zero_le _⟩,?_,?_⟩
 ·rw [<-jr (fl b) A S];simp only [List.append_assoc,List.nil_append,List.append_nil,List.cons_append];first | rfl | exact congrArg (fA (fl b) A S++·) (List.append_nil _).symm
 ·have q:=bU (fl b) A S
  (simp [FT.pl])<;>lia
theorem MT:PR (cZ.getD 6 oh) ⟨[(⟨11,.i 0⟩,0),(⟨59,.e⟩,2),(⟨21,.c (.s "p")⟩,3)],[0,1,2,2]⟩:=λK A S b fl ln hK hf=>by
 have qM:(.s "p")∈K:=hK (.s "p") (by decide)
 have g1:fl (b+1)=false:=hf 1 (by decide) (by decide)
 have g2:fl (b+2)=false:=hf 2 (by decide) (by decide)
 have g3:fl (b+3)=false:=hf 3 (by decide) (by decide)
 refine ⟨K,_,_,_,(show Run K A S [(fl (b+0),⟨11,.i 0,ln (b+0)⟩),(fl (b+1),⟨53,.no,ln (b+1)⟩),(fl (b+2),⟨60,.i ((b:Nat)+(4:Nat)),ln (b+2)⟩),(fl (b+3),⟨21,.c (.s "p"),ln (b+3)⟩)] _ _ _ _ by
  rw [g1,g2,g3]
  exact (Run.first (bc.td 11 (by decide)) (bg (by intro x e;cases e)) (Run.kp (L0:=[]) (T:=[⟨11,.i 0,ln (b+0)⟩]) (bc.not) (bg (by intro x e;cases e)) (Run.fo (L0:=[⟨11,.i 0,ln (b+0)⟩]) (T:=[⟨53,.no,ln (b+1)⟩]) (new:=[⟨59,.i ((b:Nat)+(4:Nat)),ln (b+2)⟩]) (bc.LY) (Gr.refl _) ⟨(bg (by intro x e;cases e)),trivial⟩ (show 1<=4 by decide) (Run.kp (L0:=[⟨11,.i 0,ln (b+0)⟩,⟨59,.i ((b:Nat)+(4:Nat)),ln (b+2)⟩]) (T:=[]) (bc.cG 21 (by decide)) (bB (qM)) .nil))))),⟨Gr.refl K,[],(List.append_nil K).symm,Nat.zero_le _⟩,?_,?_⟩
 ·rw [<-jr (fl b) A S];simp only [List.append_assoc,List.nil_append,List.append_nil,List.cons_append];first | rfl | exact congrArg (fA (fl b) A S++·) (List.append_nil _).symm
 ·have q:=bU (fl b) A S
  (simp [FT.pl])<;>lia
theorem MU:PR (cZ.getD 7 oh) ⟨[(⟨21,.c (.s "q")⟩,2)],[0,1,0]⟩:=λK A S b fl ln hK hf=>by
 have IC:(.s "q")∈K:=hK (.s "q") (by decide)
 have g1:fl (b+1)=false:=hf 1 (by decide) (by decide)
 have g2:fl (b+2)=false:=hf 2 (by decide) (by decide)
 refine ⟨K,_,_,_,(show Run K A S [(fl (b+0),⟨2,.no,ln (b+0)⟩),(fl (b+1),⟨59,.i ((b:Nat)+(3:Nat)),ln (b+1)⟩),(fl (b+2),⟨21,.c (.s "q"),ln (b+2)⟩)] _ _ _ _ by
  rw [g1,g2]
  exact (Run.first (bc.zero 2 (by decide)) (bg (by intro x e;cases e)) (Run.fo (L0:=[]) (T:=[⟨2,.no,ln (b+0)⟩]) (new:=[]) (bc.t2) (Gr.refl _) trivial (show 0<=4 by decide) (Run.kp (L0:=[]) (T:=[]) (bc.cG 21 (by decide)) (bB (IC)) .nil)))),⟨Gr.refl K,[],(List.append_nil K).symm,Nat.zero_le _⟩,?_,?_⟩
 ·rw [<-jr (fl b) A S];simp only [List.append_assoc,List.nil_append,List.append_nil,List.cons_append];first | rfl | exact congrArg (fA (fl b) A S++·) (List.append_nil _).symm
 ·have q:=bU (fl b) A S
  (simp [FT.pl])<;>lia
theorem MV:PR (cZ.getD 8 oh) ⟨[(⟨58,.e⟩,1),(⟨21,.c (.s "q")⟩,2)],[0,1,1]⟩:=λK A S b fl ln hK hf=>by
 have IC:(.s "q")∈K:=hK (.s "q") (by decide)
 have g1:fl (b+1)=false:=hf 1 (by decide) (by decide)
 have g2:fl (b+2)=false:=hf 2 (by decide) (by decide)
 refine ⟨K,_,_,_,(show Run K A S [(fl (b+0),⟨3,.no,ln (b+0)⟩),(fl (b+1),⟨59,.i ((b:Nat)+(3:Nat)),ln (b+1)⟩),(fl (b+2),⟨21,.c (.s "q"),ln (b+2)⟩)] _ _ _ _ by
  rw [g1,g2]
  exact (Run.first (bc.zero 3 (by decide)) (bg (by intro x e;cases e)) (Run.fo (L0:=[]) (T:=[⟨3,.no,ln (b+0)⟩]) (new:=[⟨58,.i ((b:Nat)+(3:Nat)),ln (b+1)⟩]) (bc.t3) (Gr.refl _) ⟨(bg (by intro x e;cases e)),trivial⟩ (show 1<=4 by decide) (Run.kp (L0:=[⟨58,.i ((b:Nat)+(3:Nat)),ln (b+1)⟩]) (T:=[]) (bc.cG 21 (by decide)) (bB (IC)) .nil)))),⟨Gr.refl K,[],(List.append_nil K).symm,Nat.zero_le _⟩,?_,?_⟩
 ·rw [<-jr (fl b) A S];simp only [List.append_assoc,List.nil_append,List.append_nil,List.cons_append];first | rfl | exact congrArg (fA (fl b) A S++·) (List.append_nil _).symm
 ·have q:=bU (fl b) A S
  (simp [FT.pl])<;>lia
theorem MW:PR (cZ.getD 9 oh) ⟨[(⟨1,.no⟩,2),(⟨6,.no⟩,3)],[0,1,0,1]⟩:=λK A S b fl ln hK hf=>by
 have g1:fl (b+1)=false:=hf 1 (by decide) (by decide)
 have g2:fl (b+2)=false:=hf 2 (by decide) (by decide)
 have g3:fl (b+3)=true:=hf 3 (by decide) (by decide)
 refine ⟨K,_,_,_,(show Run K A S [(fl (b+0),⟨0,.no,ln (b+0)⟩),(fl (b+1),⟨62,.i ((b:Nat)+(3:Nat)),ln (b+1)⟩),(fl (b+2),⟨1,.no,ln (b+2)⟩),(fl (b+3),⟨6,.no,ln (b+3)⟩)] _ _ _ _ by
  rw [g1,g2,g3]
  exact (Run.first (bc.zero 0 (by decide)) (bg (by intro x e;cases e)) (Run.fo (L0:=[]) (T:=[⟨0,.no,ln (b+0)⟩]) (new:=[]) (bc.t0) (Gr.refl _) trivial (show 0<=4 by decide) (Run.kp (L0:=[]) (T:=[]) (bc.zero 1 (by decide)) (bg (by intro x e;cases e)) (Run.reset (bc.nil) (bg (by intro x e;cases e)) .nil))))),⟨Gr.refl K,[],(List.append_nil K).symm,Nat.zero_le _⟩,?_,?_⟩
 ·rw [<-jr (fl b) A S];simp only [List.append_assoc,List.nil_append,List.append_nil,List.cons_append];first | rfl | exact congrArg (fA (fl b) A S++·) (List.append_nil _).symm
 ·have q:=bU (fl b) A S
  (simp [FT.pl])<;>lia
theorem ID:PR (cZ.getD 10 oh) ⟨[(⟨4,.c c1⟩,0),(⟨58,.t 3⟩,1),(⟨1,.no⟩,2),(⟨6,.no⟩,3)],[0,1,2,3]⟩:=λK A S b fl ln hK hf=>by
 have dm:c1∈K:=hK c1 (by decide)
 have g1:fl (b+1)=false:=hf 1 (by decide) (by decide)
 have g2:fl (b+2)=false:=hf 2 (by decide) (by decide)
 have g3:fl (b+3)=true:=hf 3 (by decide) (by decide)
 refine ⟨K,_,_,_,(show Run K A S [(fl (b+0),⟨4,.c c1,ln (b+0)⟩),(fl (b+1),⟨62,.i ((b:Nat)+(3:Nat)),ln (b+1)⟩),(fl (b+2),⟨1,.no,ln (b+2)⟩),(fl (b+3),⟨6,.no,ln (b+3)⟩)] _ _ _ _ by
  rw [g1,g2,g3]
  exact (Run.first (bc.cG 4 (by decide)) (bB (dm)) (Run.fo (L0:=[]) (T:=[⟨4,.c c1,ln (b+0)⟩]) (new:=[⟨4,.c c1,ln (b+0)⟩,⟨58,.i ((b:Nat)+(3:Nat)),ln (b+1)⟩]) (bc.tc (dm)) (Gr.refl _) ⟨(bB (dm)),(bg (by intro x e;cases e)),trivial⟩ (show 2<=4 by decide) (Run.kp (L0:=[⟨4,.c c1,ln (b+0)⟩,⟨58,.i ((b:Nat)+(3:Nat)),ln (b+1)⟩]) (T:=[]) (bc.zero 1 (by decide)) (bg (by intro x e;cases e)) (Run.reset (bc.nil) (bg (by intro x e;cases e)) .nil))))),⟨Gr.refl K,[],(List.append_nil K).symm,Nat.zero_le _⟩,?_,?_⟩
 ·rw [<-jr (fl b) A S];simp only [List.append_assoc,List.nil_append,List.append_nil,List.cons_append];first | rfl | exact congrArg (fA (fl b) A S++·) (List.append_nil _).symm
 ·have q:=bU (fl b) A S
  (simp [FT.pl])<;>lia
theorem IE:PR (cZ.getD 11 oh) ⟨[(⟨1,.no⟩,0),(⟨58,.t 3⟩,1),(⟨1,.no⟩,2),(⟨6,.no⟩,3)],[0,1,2,3]⟩:=λK A S b fl ln hK hf=>by
 have g1:fl (b+1)=false:=hf 1 (by decide) (by decide)
 have g2:fl (b+2)=false:=hf 2 (by decide) (by decide)
 have g3:fl (b+3)=true:=hf 3 (by decide) (by decide)
 refine ⟨K,_,_,_,(show Run K A S [(fl (b+0),⟨1,.no,ln (b+0)⟩),(fl (b+1),⟨61,.i ((b:Nat)+(3:Nat)),ln (b+1)⟩),(fl (b+2),⟨1,.no,ln (b+2)⟩),(fl (b+3),⟨6,.no,ln (b+3)⟩)] _ _ _ _ by
  rw [g1,g2,g3]
  exact (Run.first (bc.zero 1 (by decide)) (bg (by intro x e;cases e)) (Run.fo (L0:=[]) (T:=[⟨1,.no,ln (b+0)⟩]) (new:=[⟨1,.no,ln (b+0)⟩,⟨58,.i ((b:Nat)+(3:Nat)),ln (b+1)⟩]) (bc.t1) (Gr.refl _) ⟨(bg (by intro x e;cases e)),(bg (by intro x e;cases e)),trivial⟩ (show 2<=4 by decide) (Run.kp (L0:=[⟨1,.no,ln (b+0)⟩,⟨58,.i ((b:Nat)+(3:Nat)),ln (b+1)⟩]) (T:=[]) (bc.zero 1 (by decide)) (bg (by intro x e;cases e)) (Run.reset (bc.nil) (bg (by intro x e;cases e)) .nil))))),⟨Gr.refl K,[],(List.append_nil K).symm,Nat.zero_le _⟩,?_,?_⟩
 ·rw [<-jr (fl b) A S];simp only [List.append_assoc,List.nil_append,List.append_nil,List.cons_append];first | rfl | exact congrArg (fA (fl b) A S++·) (List.append_nil _).symm
 ·have q:=bU (fl b) A S
  (simp [FT.pl])<;>lia
theorem IF:PR (cZ.getD 12 oh) ⟨[(⟨11,.i 0⟩,0),(⟨4,.c c1⟩,1),(⟨30,.no⟩,2),(⟨6,.no⟩,3)],[0,1,2,3]⟩:=λK A S b fl ln hK hf=>by
 have dm:c1∈K:=hK c1 (by decide)
 have g1:fl (b+1)=false:=hf 1 (by decide) (by decide)
 have g2:fl (b+2)=false:=hf 2 (by decide) (by decide)
 have g3:fl (b+3)=false:=hf 3 (by decide) (by decide)
 refine ⟨K,_,_,_,(show Run K A S [(fl (b+0),⟨11,.i 0,ln (b+0)⟩),(fl (b+1),⟨4,.c c1,ln (b+1)⟩),(fl (b+2),⟨30,.no,ln (b+2)⟩),(fl (b+3),⟨6,.no,ln (b+3)⟩)] _ _ _ _ by
  rw [g1,g2,g3]
  exact (Run.first (bc.td 11 (by decide)) (bg (by intro x e;cases e)) (Run.kp (L0:=[⟨11,.i 0,ln (b+0)⟩]) (T:=[]) (bc.cG 4 (by decide)) (bB (dm)) (Run.kp (L0:=[]) (T:=[⟨11,.i 0,ln (b+0)⟩,⟨4,.c c1,ln (b+1)⟩]) (bc.under) (bg (by intro x e;cases e)) (Run.kp (L0:=[⟨11,.i 0,ln (b+0)⟩,⟨4,.c c1,ln (b+1)⟩]) (T:=[⟨30,.no,ln (b+2)⟩]) (bc.qt 30 (by decide)) (bg (by intro x e;cases e)) .nil))))),⟨Gr.refl K,[],(List.append_nil K).symm,Nat.zero_le _⟩,?_,?_⟩
 ·rw [<-jr (fl b) A S];simp only [List.append_assoc,List.nil_append,List.append_nil,List.cons_append];first | rfl | exact congrArg (fA (fl b) A S++·) (List.append_nil _).symm
 ·have q:=bU (fl b) A S
  (simp [FT.pl])<;>lia
theorem IG:PR (cZ.getD 13 oh) ⟨[(⟨4,.c c1⟩,0),(⟨23,.c (.s "p")⟩,1),(⟨6,.no⟩,2)],[0,1,2]⟩:=λK A S b fl ln hK hf=>by
 have qM:(.s "p")∈K:=hK (.s "p") (by decide)
 have dm:c1∈K:=hK c1 (by decide)
 have g1:fl (b+1)=false:=hf 1 (by decide) (by decide)
 have g2:fl (b+2)=false:=hf 2 (by decide) (by decide)
 refine ⟨K,_,_,_,(show Run K A S [(fl (b+0),⟨4,.c c1,ln (b+0)⟩),(fl (b+1),⟨23,.c (.s "p"),ln (b+1)⟩),(fl (b+2),⟨6,.no,ln (b+2)⟩)] _ _ _ _ by
  rw [g1,g2]
  exact (Run.first (bc.cG 4 (by decide)) (bB (dm)) (Run.kp (L0:=[]) (T:=[⟨4,.c c1,ln (b+0)⟩]) (bc.Nv (by decide) (dm) DY _ (λK=>⟨_,rfl⟩)) (bB (qM)) (Run.kp (L0:=[⟨4,.c c1,ln (b+0)⟩]) (T:=[⟨23,.c (.s "p"),ln (b+1)⟩]) (bc.qt 23 (by decide)) (bg (by intro x e;cases e)) .nil)))),⟨Gr.refl K,[],(List.append_nil K).symm,Nat.zero_le _⟩,?_,?_⟩
 ·rw [<-jr (fl b) A S];simp only [List.append_assoc,List.nil_append,List.append_nil,List.cons_append];first | rfl | exact congrArg (fA (fl b) A S++·) (List.append_nil _).symm
 ·have q:=bU (fl b) A S
  (simp [FT.pl])<;>lia
theorem IH:PR (cZ.getD 14 oh) ⟨[(⟨4,.c c1⟩,0),(⟨4,.c c2⟩,1),(⟨41,.no⟩,2),(⟨6,.no⟩,3)],[0,1,2,3]⟩:=λK A S b fl ln hK hf=>by
 have dm:c1∈K:=hK c1 (by decide)
 have eE:c2∈K:=hK c2 (by decide)
 have g1:fl (b+1)=false:=hf 1 (by decide) (by decide)
 have g2:fl (b+2)=false:=hf 2 (by decide) (by decide)
 have g3:fl (b+3)=false:=hf 3 (by decide) (by decide)
 refine ⟨K,_,_,_,(show Run K A S [(fl (b+0),⟨4,.c c1,ln (b+0)⟩),(fl (b+1),⟨4,.c c2,ln (b+1)⟩),(fl (b+2),⟨41,.no,ln (b+2)⟩),(fl (b+3),⟨6,.no,ln (b+3)⟩)] _ _ _ _ by
  rw [g1,g2,g3]
  exact (Run.first (bc.cG 4 (by decide)) (bB (dm)) (Run.kp (L0:=[⟨4,.c c1,ln (b+0)⟩]) (T:=[]) (bc.cG 4 (by decide)) (bB (eE)) (Run.kp (L0:=[]) (T:=[⟨4,.c c1,ln (b+0)⟩,⟨4,.c c2,ln (b+1)⟩]) (bc.Sq (by decide) (dm) (eE) LN) (bg (by intro x e;cases e)) (Run.kp (L0:=[⟨4,.c c1,ln (b+0)⟩,⟨4,.c c2,ln (b+1)⟩]) (T:=[⟨41,.no,ln (b+2)⟩]) (bc.qt 41 (by decide)) (bg (by intro x e;cases e)) .nil))))),⟨Gr.refl K,[],(List.append_nil K).symm,Nat.zero_le _⟩,?_,?_⟩
 ·rw [<-jr (fl b) A S];simp only [List.append_assoc,List.nil_append,List.append_nil,List.cons_append];first | rfl | exact congrArg (fA (fl b) A S++·) (List.append_nil _).symm
 ·have q:=bU (fl b) A S
  (simp [FT.pl])<;>lia
theorem II:PR (cZ.getD 15 oh) ⟨[(⟨4,.c (.s "t0")⟩,0),(⟨4,.c c1⟩,1),(⟨30,.no⟩,2),(⟨6,.no⟩,3)],[0,1,2,3]⟩:=λK A S b fl ln hK hf=>by
 have FI:(.s "t0")∈K:=hK (.s "t0") (by decide)
 have dm:c1∈K:=hK c1 (by decide)
 have g1:fl (b+1)=false:=hf 1 (by decide) (by decide)
 have g2:fl (b+2)=false:=hf 2 (by decide) (by decide)
 have g3:fl (b+3)=false:=hf 3 (by decide) (by decide)
 refine ⟨K,_,_,_,(show Run K A S [(fl (b+0),⟨4,.c (.s "t0"),ln (b+0)⟩),(fl (b+1),⟨4,.c c1,ln (b+1)⟩),(fl (b+2),⟨30,.no,ln (b+2)⟩),(fl (b+3),⟨6,.no,ln (b+3)⟩)] _ _ _ _ by
  rw [g1,g2,g3]
  exact (Run.first (bc.cG 4 (by decide)) (bB (FI)) (Run.kp (L0:=[⟨4,.c (.s "t0"),ln (b+0)⟩]) (T:=[]) (bc.cG 4 (by decide)) (bB (dm)) (Run.kp (L0:=[]) (T:=[⟨4,.c (.s "t0"),ln (b+0)⟩,⟨4,.c c1,ln (b+1)⟩]) (bc.Sq (by decide) (FI) (dm) HB) (bg (by intro x e;cases e)) (Run.kp (L0:=[⟨4,.c (.s "t0"),ln (b+0)⟩,⟨4,.c c1,ln (b+1)⟩]) (T:=[⟨30,.no,ln (b+2)⟩]) (bc.qt 30 (by decide)) (bg (by intro x e;cases e)) .nil))))),⟨Gr.refl K,[],(List.append_nil K).symm,Nat.zero_le _⟩,?_,?_⟩
 ·rw [<-jr (fl b) A S];simp only [List.append_assoc,List.nil_append,List.append_nil,List.cons_append];first | rfl | exact congrArg (fA (fl b) A S++·) (List.append_nil _).symm
 ·have q:=bU (fl b) A S
  (simp [FT.pl])<;>lia
theorem IJ:PR (cZ.getD 16 oh) ⟨[(⟨4,.c (.s "undefined")⟩,1),(⟨12,.i 0⟩,2),(⟨6,.no⟩,3)],[0,1,1,2]⟩:=λK A S b fl ln hK hf=>by
 have g1:fl (b+1)=false:=hf 1 (by decide) (by decide)
 have g2:fl (b+2)=false:=hf 2 (by decide) (by decide)
 have g3:fl (b+3)=false:=hf 3 (by decide) (by decide)
 refine ⟨dh K (.s "undefined"),_,_,_,(show Run K A S [(fl (b+0),⟨0,.no,ln (b+0)⟩),(fl (b+1),⟨55,.no,ln (b+1)⟩),(fl (b+2),⟨12,.i 0,ln (b+2)⟩),(fl (b+3),⟨6,.no,ln (b+3)⟩)] _ _ _ _ by
  rw [g1,g2,g3]
  exact (Run.first (bc.zero 0 (by decide)) (bg (by intro x e;cases e)) (Run.fo (L0:=[]) (T:=[⟨0,.no,ln (b+0)⟩]) (new:=[⟨4,.c (.s "undefined"),ln (b+1)⟩]) (bc.HF) (Gr.add K (by kernel_rfl)) ⟨(bB (dK K (.s "undefined"))),trivial⟩ (show 1<=4 by decide) (Run.kp (L0:=[]) (T:=[⟨4,.c (.s "undefined"),ln (b+1)⟩]) (bc.Nv (by decide) (dK K (.s "undefined")) HD _ (λK=>⟨_,rfl⟩)) (bg (by intro x e;cases e)) (Run.kp (L0:=[⟨4,.c (.s "undefined"),ln (b+1)⟩]) (T:=[⟨12,.i 0,ln (b+2)⟩]) (bc.qt 12 (by decide)) (bg (by intro x e;cases e)) .nil))))),⟨Gr.add K (by kernel_rfl),jA K (.s "undefined")⟩,?_,?_⟩
 ·rw [<-jr (fl b) A S];simp only [List.append_assoc,List.nil_append,List.append_nil,List.cons_append];first | rfl | exact congrArg (fA (fl b) A S++·) (List.append_nil _).symm
 ·have q:=bU (fl b) A S
  (simp [FT.pl])<;>lia
theorem IK:PR (cZ.getD 17 oh) ⟨[(⟨2,.no⟩,0),(⟨51,.no⟩,1),(⟨6,.no⟩,2)],[0,1,2]⟩:=λK A S b fl ln hK hf=>by
 have g1:fl (b+1)=false:=hf 1 (by decide) (by decide)
 have g2:fl (b+2)=false:=hf 2 (by decide) (by decide)
 refine ⟨K,_,_,_,(show Run K A S [(fl (b+0),⟨2,.no,ln (b+0)⟩),(fl (b+1),⟨51,.no,ln (b+1)⟩),(fl (b+2),⟨6,.no,ln (b+2)⟩)] _ _ _ _ by
  rw [g1,g2]
  exact (Run.first (bc.zero 2 (by decide)) (bg (by intro x e;cases e)) (Run.kp (L0:=[]) (T:=[⟨2,.no,ln (b+0)⟩]) (bc.neg) (bg (by intro x e;cases e)) (Run.kp (L0:=[⟨2,.no,ln (b+0)⟩]) (T:=[⟨51,.no,ln (b+1)⟩]) (bc.qt 51 (by decide)) (bg (by intro x e;cases e)) .nil)))),⟨Gr.refl K,[],(List.append_nil K).symm,Nat.zero_le _⟩,?_,?_⟩
 ·rw [<-jr (fl b) A S];simp only [List.append_assoc,List.nil_append,List.append_nil,List.cons_append];first | rfl | exact congrArg (fA (fl b) A S++·) (List.append_nil _).symm
 ·have q:=bU (fl b) A S
  (simp [FT.pl])<;>lia
theorem IL:PR (cZ.getD 18 oh) ⟨[(⟨11,.i 0⟩,0),(⟨53,.no⟩,1),(⟨61,.t 4⟩,2),(⟨1,.no⟩,3),(⟨6,.no⟩,4)],[0,1,2,3,4]⟩:=λK A S b fl ln hK hf=>by
 have g1:fl (b+1)=false:=hf 1 (by decide) (by decide)
 have g2:fl (b+2)=false:=hf 2 (by decide) (by decide)
 have g3:fl (b+3)=false:=hf 3 (by decide) (by decide)
 have g4:fl (b+4)=true:=hf 4 (by decide) (by decide)
 refine ⟨K,_,_,_,(show Run K A S [(fl (b+0),⟨11,.i 0,ln (b+0)⟩),(fl (b+1),⟨53,.no,ln (b+1)⟩),(fl (b+2),⟨61,.i ((b:Nat)+(4:Nat)),ln (b+2)⟩),(fl (b+3),⟨1,.no,ln (b+3)⟩),(fl (b+4),⟨6,.no,ln (b+4)⟩)] _ _ _ _ by
  rw [g1,g2,g3,g4]
  exact (Run.first (bc.td 11 (by decide)) (bg (by intro x e;cases e)) (Run.kp (L0:=[]) (T:=[⟨11,.i 0,ln (b+0)⟩]) (bc.not) (bg (by intro x e;cases e)) (Run.kp (L0:=[⟨11,.i 0,ln (b+0)⟩]) (T:=[⟨53,.no,ln (b+1)⟩]) (bc.U9) (bg (by intro x e;cases e)) (Run.kp (L0:=[⟨11,.i 0,ln (b+0)⟩,⟨53,.no,ln (b+1)⟩,⟨61,.i ((b:Nat)+(4:Nat)),ln (b+2)⟩]) (T:=[]) (bc.zero 1 (by decide)) (bg (by intro x e;cases e)) (Run.reset (bc.nil) (bg (by intro x e;cases e)) .nil)))))),⟨Gr.refl K,[],(List.append_nil K).symm,Nat.zero_le _⟩,?_,?_⟩
 ·rw [<-jr (fl b) A S];simp only [List.append_assoc,List.nil_append,List.append_nil,List.cons_append];first | rfl | exact congrArg (fA (fl b) A S++·) (List.append_nil _).symm
 ·have q:=bU (fl b) A S
  (simp [FT.pl])<;>lia
theorem IM:PR (cZ.getD 19 oh) ⟨[(⟨21,.c (.s "p")⟩,4)],[0,1,2,1,0]⟩:=λK A S b fl ln hK hf=>by
 have qM:(.s "p")∈K:=hK (.s "p") (by decide)
 have dm:c1∈K:=hK c1 (by decide)
 have tG:c3∈K:=hK c3 (by decide)
 have g1:fl (b+1)=false:=hf 1 (by decide) (by decide)
 have g2:fl (b+2)=false:=hf 2 (by decide) (by decide)
 have g3:fl (b+3)=false:=hf 3 (by decide) (by decide)
 have g4:fl (b+4)=false:=hf 4 (by decide) (by decide)
 refine ⟨K,_,_,_,(show Run K A S [(fl (b+0),⟨4,.c c1,ln (b+0)⟩),(fl (b+1),⟨4,.c c3,ln (b+1)⟩),(fl (b+2),⟨45,.no,ln (b+2)⟩),(fl (b+3),⟨59,.i ((b:Nat)+(5:Nat)),ln (b+3)⟩),(fl (b+4),⟨21,.c (.s "p"),ln (b+4)⟩)] _ _ _ _ by
  rw [g1,g2,g3,g4]
  exact (Run.first (bc.cG 4 (by decide)) (bB (dm)) (Run.kp (L0:=[⟨4,.c c1,ln (b+0)⟩]) (T:=[]) (bc.cG 4 (by decide)) (bB (tG)) (Run.fo (L0:=[]) (T:=[⟨4,.c c1,ln (b+0)⟩,⟨4,.c c3,ln (b+1)⟩]) (new:=[⟨2,.no,ln (b+2)⟩]) (bc.Sr true (dm) (tG) LO) (Gr.refl _) ⟨(bg (by intro x e;cases e)),trivial⟩ (show 1<=4 by decide) (Run.fo (L0:=[]) (T:=[⟨2,.no,ln (b+2)⟩]) (new:=[]) (bc.t2) (Gr.refl _) trivial (show 0<=4 by decide) (Run.kp (L0:=[]) (T:=[]) (bc.cG 21 (by decide)) (bB (qM)) .nil)))))),⟨Gr.refl K,[],(List.append_nil K).symm,Nat.zero_le _⟩,?_,?_⟩
 ·rw [<-jr (fl b) A S];simp only [List.append_assoc,List.nil_append,List.append_nil,List.cons_append];first | rfl | exact congrArg (fA (fl b) A S++·) (List.append_nil _).symm
 ·have q:=bU (fl b) A S
  (simp [FT.pl])<;>lia
theorem IP:PR (cZ.getD 20 oh) ⟨[(⟨58,.e⟩,3),(⟨21,.c (.s "p")⟩,4)],[0,1,2,1,1]⟩:=λK A S b fl ln hK hf=>by
 have qM:(.s "p")∈K:=hK (.s "p") (by decide)
 have dm:c1∈K:=hK c1 (by decide)
 have tG:c3∈K:=hK c3 (by decide)
 have g1:fl (b+1)=false:=hf 1 (by decide) (by decide)
 have g2:fl (b+2)=false:=hf 2 (by decide) (by decide)
 have g3:fl (b+3)=false:=hf 3 (by decide) (by decide)
 have g4:fl (b+4)=false:=hf 4 (by decide) (by decide)
 refine ⟨K,_,_,_,(show Run K A S [(fl (b+0),⟨4,.c c3,ln (b+0)⟩),(fl (b+1),⟨4,.c c1,ln (b+1)⟩),(fl (b+2),⟨45,.no,ln (b+2)⟩),(fl (b+3),⟨59,.i ((b:Nat)+(5:Nat)),ln (b+3)⟩),(fl (b+4),⟨21,.c (.s "p"),ln (b+4)⟩)] _ _ _ _ by
  rw [g1,g2,g3,g4]
  exact (Run.first (bc.cG 4 (by decide)) (bB (tG)) (Run.kp (L0:=[⟨4,.c c3,ln (b+0)⟩]) (T:=[]) (bc.cG 4 (by decide)) (bB (dm)) (Run.fo (L0:=[]) (T:=[⟨4,.c c3,ln (b+0)⟩,⟨4,.c c1,ln (b+1)⟩]) (new:=[⟨3,.no,ln (b+2)⟩]) (bc.Sr false (tG) (dm) HC) (Gr.refl _) ⟨(bg (by intro x e;cases e)),trivial⟩ (show 1<=4 by decide) (Run.fo (L0:=[]) (T:=[⟨3,.no,ln (b+2)⟩]) (new:=[⟨58,.i ((b:Nat)+(5:Nat)),ln (b+3)⟩]) (bc.t3) (Gr.refl _) ⟨(bg (by intro x e;cases e)),trivial⟩ (show 1<=4 by decide) (Run.kp (L0:=[⟨58,.i ((b:Nat)+(5:Nat)),ln (b+3)⟩]) (T:=[]) (bc.cG 21 (by decide)) (bB (qM)) .nil)))))),⟨Gr.refl K,[],(List.append_nil K).symm,Nat.zero_le _⟩,?_,?_⟩
 ·rw [<-jr (fl b) A S];simp only [List.append_assoc,List.nil_append,List.append_nil,List.cons_append];first | rfl | exact congrArg (fA (fl b) A S++·) (List.append_nil _).symm
 ·have q:=bU (fl b) A S
  (simp [FT.pl])<;>lia
noncomputable def WZ:List FT:=[⟨[],[0,1,2,1]⟩,
 ⟨[(⟨11,.i 0⟩,0),(⟨6,.no⟩,1)],[0,1]⟩,
 ⟨[(⟨4,.c c4⟩,2),(⟨12,.i 0⟩,3),(⟨6,.no⟩,4)],[0,1,2,1,2]⟩,
 ⟨[],[0,1,2,4,3,2,1]⟩,
 ⟨[(⟨4,.c c1⟩,3),(⟨12,.i 1⟩,4),(⟨6,.no⟩,5)],[0,1,2,2,1,2]⟩,
 ⟨[(⟨11,.i 0⟩,0),(⟨60,.e⟩,2),(⟨21,.c (.s "p")⟩,3)],[0,1,2,2]⟩,
 ⟨[(⟨11,.i 0⟩,0),(⟨59,.e⟩,2),(⟨21,.c (.s "p")⟩,3)],[0,1,2,2]⟩,
 ⟨[(⟨21,.c (.s "q")⟩,2)],[0,1,0]⟩,
 ⟨[(⟨58,.e⟩,1),(⟨21,.c (.s "q")⟩,2)],[0,1,1]⟩,
 ⟨[(⟨1,.no⟩,2),(⟨6,.no⟩,3)],[0,1,0,1]⟩,
 ⟨[(⟨4,.c c1⟩,0),(⟨58,.t 3⟩,1),(⟨1,.no⟩,2),(⟨6,.no⟩,3)],[0,1,2,3]⟩,
 ⟨[(⟨1,.no⟩,0),(⟨58,.t 3⟩,1),(⟨1,.no⟩,2),(⟨6,.no⟩,3)],[0,1,2,3]⟩,
 ⟨[(⟨11,.i 0⟩,0),(⟨4,.c c1⟩,1),(⟨30,.no⟩,2),(⟨6,.no⟩,3)],[0,1,2,3]⟩,
 ⟨[(⟨4,.c c1⟩,0),(⟨23,.c (.s "p")⟩,1),(⟨6,.no⟩,2)],[0,1,2]⟩,
 ⟨[(⟨4,.c c1⟩,0),(⟨4,.c c2⟩,1),(⟨41,.no⟩,2),(⟨6,.no⟩,3)],[0,1,2,3]⟩,
 ⟨[(⟨4,.c (.s "t0")⟩,0),(⟨4,.c c1⟩,1),(⟨30,.no⟩,2),(⟨6,.no⟩,3)],[0,1,2,3]⟩,
 ⟨[(⟨4,.c (.s "undefined")⟩,1),(⟨12,.i 0⟩,2),(⟨6,.no⟩,3)],[0,1,1,2]⟩,
 ⟨[(⟨2,.no⟩,0),(⟨51,.no⟩,1),(⟨6,.no⟩,2)],[0,1,2]⟩,
 ⟨[(⟨11,.i 0⟩,0),(⟨53,.no⟩,1),(⟨61,.t 4⟩,2),(⟨1,.no⟩,3),(⟨6,.no⟩,4)],[0,1,2,3,4]⟩,
 ⟨[(⟨21,.c (.s "p")⟩,4)],[0,1,2,1,0]⟩,
 ⟨[(⟨58,.e⟩,3),(⟨21,.c (.s "p")⟩,4)],[0,1,2,1,1]⟩]
def cR:Nat->List Pc->List CR
 | _,[]=>[]
 | b,p::l=>dk b p.wb++cR (b+p.wb.length) l
def cQ:Nat->List Pc->List CR
 | _,[]=>[]
 | b,p::l=>dk b p.wa++cQ (b+p.wa.length) l
def cS:Nat->List Pc->List (Nat×Nat)
 | _,[]=>[]
 | b,p::l=>(b,b+p.wb.length)::cS (b+p.wb.length) l
noncomputable def cN:Nat->List Pc->List (Nat×Nat)
 | _,[]=>[]
 | b,p::l=>(b,b+p.wa.length)::cN (b+p.wa.length) l
theorem dS(b:Nat)(ws:Tx):(dk b ws).length=ws.length:=List.length_map _
theorem nB:∀(l:List Pc)(s:PS),l.foldl cD s=⟨s.R++cR s.R.length l,s.Q++cQ s.Q.length l,s.sp++cS s.R.length l,s.nw++cN s.Q.length l⟩
 | [],s=>by
  show s=⟨s.R++[],s.Q++[],s.sp++[],s.nw++[]⟩
  rw [List.append_nil,List.append_nil,List.append_nil,List.append_nil]
 | p::l,s=>by
  rw [List.foldl_cons,nB l (cD s p)]
  have e1:(cD s p).R.length=s.R.length+p.wb.length:=by show (s.R++dk _ _).length=_;rw [List.length_append,dS]
  have e2:(cD s p).Q.length=s.Q.length+p.wa.length:=by show (s.Q++dk _ _).length=_;rw [List.length_append,dS]
  rw [e1,e2]
  show PS.mk ((s.R++dk _ _)++_) ((s.Q++dk _ _)++_) ((s.sp++[_])++_) ((s.nw++[_])++_)=PS.mk (s.R++(dk _ _++_)) (s.Q++(dk _ _++_)) (s.sp++(_::_)) (s.nw++(_::_))
  rw [List.append_assoc,List.append_assoc,List.append_assoc,List.append_assoc];rfl
def zP(n:Nat)(r:CR):Bool:=isJ r.1&&decide (r.2=.i (n:Nat))
noncomputable def jD(m:Nat)(w:Wd):Bool:=match w.a with
 | .t j=>isJ w.op&&decide (0<j)&&decide (j<m)
 | .e=>isJ w.op&&decide (0<m)
 | _=> !isJ w.op
theorem IQ:(cZ.all λp=>p.wb.all λw=>jD p.wb.length w.2)=true:=by kernel_rfl
theorem FJ{b m n:Nat}{w:Wd}(h:jD m w=true):zP n (bj (b:Nat) (m:Nat) w)=(match w.a with | .t j=>decide (b+j=n) | .e=>decide (b+m=n) | _=>false):=by
 unfold zP bj
 unfold jD at h
 cases e:w.a with
 | t j=>
  rw [e] at h
  dsimp only at h⊢
  rw [Bool.and_eq_true,Bool.and_eq_true] at h
  rw [h.1.1,Bool.true_and]
  exact decide_eq_decide.mpr ⟨λq=>by cases q;lia,λq=>by rw [<-q];rfl⟩
 | e=>
  rw [e] at h
  dsimp only at h⊢
  rw [Bool.and_eq_true] at h
  rw [h.1,Bool.true_and]
  exact decide_eq_decide.mpr ⟨λq=>by cases q;lia,λq=>by rw [<-q];rfl⟩
 | _=>
  rw [e] at h
  dsimp only at h⊢
  rw [Bool.not_eq_true'] at h
  rw [h];rfl
theorem xR{b m n:Nat}:∀{ws:Tx},(∀w,w∈ws->jD m w.2=true)->(n<=b\/b+m<n)->(ws.map λp=>bj (b:Nat) (m:Nat) p.2).any (zP n)=false
 | [],_,_=>rfl
 | w::ws,h,q=>by
  rw [List.map_cons,List.any_cons,xR (ws:=ws) (λx hx=>h x (List.mem_cons_of_mem _ hx)) q,Bool.or_false,FJ (h w List.mem_cons_self)]
  have hw:=h w List.mem_cons_self
  unfold jD at hw
  cases e:w.2.a with
  | t j=>
   rw [e] at hw
   dsimp only at hw⊢
   rw [Bool.and_eq_true,Bool.and_eq_true,decide_eq_true_iff,decide_eq_true_iff] at hw
   exact decide_eq_false (by lia)
  | e=>
   rw [e] at hw
   dsimp only at hw⊢
   rw [Bool.and_eq_true,decide_eq_true_iff] at hw
   exact decide_eq_false (by lia)
  | _=>rfl
theorem MX{b m j:Nat}(hj:j<m):∀{ws:Tx},(∀w,w∈ws->jD m w.2=true)->(ws.map λp=>bj (b:Nat) (m:Nat) p.2).any (zP (b+j))=ws.any λw=>Q1 j w.2
 | [],_=>rfl
 | w::ws,h=>by
  rw [List.map_cons,List.any_cons,List.any_cons,MX hj (ws:=ws) λx hx=>h x (List.mem_cons_of_mem _ hx),FJ (h w List.mem_cons_self)]
  congr 1
  unfold Q1
  cases w.2.a with
  | t i=>exact decide_eq_decide.mpr ⟨Nat.add_left_cancel,λe=>by rw [e]⟩
  | e=>exact decide_eq_false (by lia)
  | _=>rfl
theorem tH{p:Pc}(h:p∈cZ):∀w,w∈p.wb->jD p.wb.length w.2=true:=λw hw=>List.all_eq_true.mp (List.all_eq_true.mp IQ p h) w hw
theorem Cu{n:Nat}:∀{l:List Pc}{b:Nat},(∀p,p∈l->p∈cZ)->n<=b->(cR b l).any (zP n)=false
 | [],_,_,_=>rfl
 | p::l,b,h,q=>by
  unfold cR
  rw [List.any_append,Cu (l:=l) (λx hx=>h x (List.mem_cons_of_mem _ hx)) (Nat.le_trans q (Nat.le_add_right _ _)),Bool.or_false]
  exact xR (tH (h p List.mem_cons_self)) (.inl q)
noncomputable def ij(fl:Nat->Bool):Nat->List Pc->Prop
 | _,[]=>True
 | b,p::l=>(∀j,0<j->j<p.wb.length->fl (b+j)=MM p j)/\ij fl (b+p.wb.length) l
theorem ij.congr{f g:Nat->Bool}:∀{l:List Pc}{b:Nat},(∀n,b<n->f n=g n)->ij f b l->ij g b l
 | [],_,_,_=>trivial
 | p::l,b,h,q=>⟨λj h0 h1=>(h _ (by lia)).symm.trans (q.1 j h0 h1),ij.congr (l:=l) (λn hn=>h n (by lia)) q.2⟩
theorem ij.code:∀{l:List Pc}{b:Nat},(∀p,p∈l->p∈cZ)->ij (λn=>(cR b l).any (zP n)) b l
 | [],_,_=>trivial
 | p::l,b,h=>by
  have hl:=λx hx=>h x (List.mem_cons_of_mem _ hx)
  have hp:=tH (h p List.mem_cons_self)
  refine ⟨λj h0 h1=>?_,ij.congr (λn hn=>?_) (ij.code (l:=l) hl)⟩
  ·show (dk b p.wb++cR (b+p.wb.length) l).any (zP (b+j))=_
   rw [List.any_append,Cu hl (by omega),Bool.or_false]
   exact MX h1 hp
  ·show _=(dk b p.wb++cR (b+p.wb.length) l).any (zP n)
   rw [List.any_append,show (dk b p.wb).any (zP n)=false from xR hp (.inr hn),Bool.false_or]
noncomputable def qN(m:Nat):Nat->List Pc->Prop
 | _,[]=>True
 | b,p::l=>(∀j,0<j->j<p.wb.length->b+j≠m)/\qN m (b+p.wb.length) l
theorem qN.low{m:Nat}:∀{l:List Pc}{b:Nat},m<=b->qN m b l
 | [],_,_=>trivial
 | p::l,b,h=>⟨λj h0 h1=>by lia,qN.low (l:=l) (by lia)⟩
theorem qN.span{x:Nat×Nat}:∀{l:List Pc}{b:Nat},x∈cS b l->qN x.1 b l/\qN x.2 b l/\b<=x.1/\x.1<=x.2
 | [],_,hz=>absurd hz List.not_mem_nil
 | p::l,b,h=>by
  rcases List.mem_cons.mp (show x∈(b,b+p.wb.length)::cS (b+p.wb.length) l from h) with e | e
  ·subst e
   exact ⟨qN.low (Nat.le_refl _),⟨λj h0 h1=>by show b+j≠b+p.wb.length;lia,qN.low (Nat.le_refl _)⟩,Nat.le_refl _,Nat.le_add_right _ _⟩
  ·refine yh (qN.span e) λa1 a2 a3 a4=>?_
   exact ⟨⟨λj h0 h1=>by lia,a1⟩,⟨λj h0 h1=>by lia,a2⟩,by lia,a4⟩
theorem Cv:∀(l:List Pc)(b:Nat),(cR b l).length=(l.map λp=>p.wb.length).sum
 | [],_=>rfl
 | p::l,b=>by
  unfold cR
  rw [List.length_append,dS,Cv l,List.map_cons,List.sum_cons]
theorem qN.end_:∀{l:List Pc}{b:Nat},qN (b+(l.map λp=>p.wb.length).sum) b l
 | [],_=>trivial
 | p::l,b=>by
  rw [List.map_cons,List.sum_cons]
  refine ⟨λj h0 h1=>by lia,?_⟩
  rw [<-Nat.add_assoc];exact qN.end_
theorem ij.or{f:Nat->Bool}{m:Nat}:∀{l:List Pc}{b:Nat},ij f b l->qN m b l->ij (λn=>f n || decide (n=m)) b l
 | [],_,_,_=>trivial
 | p::l,b,h,q=>⟨λj h0 h1=>by
   show (f (b+j) || decide (b+j=m))=_
   rw [decide_eq_false (q.1 j h0 h1),Bool.or_false];exact h.1 j h0 h1,ij.or h.2 q.2⟩
noncomputable def rel(f:FT)(w v:Wd):Bool:=decide (w.op=v.op)&&match w.a,v.a with
 | .no,.no=>true
 | .i k,.i l=>decide (k=l)
 | .c x,.c y=>decide (x=y)
 | .t j,.t i=>decide (f.po[j]?=some i)
 | .t j,.e=>decide (f.po[j]?=some f.fr.length)
 | .e,.e=>true
 | _,_=>false
def SP(w:Wd):Bool:=match w.a with
 | .c _=>jJ w.op
 | _=> !jJ w.op
noncomputable def Cw:Nat->List (Wd×Nat)->Nat->Bool
 | n,[],m=>decide (n<=m)
 | n,q::l,m=>decide (n<=q.2)&&Cw (q.2+1) l m
noncomputable def IS(p:Pc)(f:FT):Bool:=decide (f.fr.length=p.wa.length)&&decide (f.po.length=p.wb.length)&&decide (f.po[0]?=some 0)&&
 ((f.fr.zip p.wa).all λq=>rel f q.1.1 q.2.2)&&(f.fr.all λq=>cU.contains q.1.op&&jD p.wb.length q.1&&SP q.1)&&Cw 0 f.fr p.wb.length
abbrev PF:=Pc×FT
structure Good (q:PF):Prop where
 m:q.1∈cZ
 r:PR q.1 q.2
 c:IS q.1 q.2=true
theorem IU:tq (λp=>∃f,PR p f/\IS p f=true) cZ:=⟨⟨_,MN,by kernel_rfl⟩,⟨_,MO,by kernel_rfl⟩,⟨_,MP,by kernel_rfl⟩,⟨_,MQ,by kernel_rfl⟩,⟨_,MR,by kernel_rfl⟩,⟨_,MS,by kernel_rfl⟩,⟨_,MT,by kernel_rfl⟩,⟨_,MU,by kernel_rfl⟩,⟨_,MV,by kernel_rfl⟩,⟨_,MW,by kernel_rfl⟩,⟨_,ID,by kernel_rfl⟩,
 ⟨_,IE,by kernel_rfl⟩,⟨_,IF,by kernel_rfl⟩,⟨_,IG,by kernel_rfl⟩,⟨_,IH,by kernel_rfl⟩,⟨_,II,by kernel_rfl⟩,⟨_,IJ,by kernel_rfl⟩,⟨_,IK,by kernel_rfl⟩,⟨_,IL,by kernel_rfl⟩,⟨_,IM,by kernel_rfl⟩,⟨_,IP,by kernel_rfl⟩,trivial⟩
theorem tI:∀{l:List Pc},(∀p,p∈l->p∈cZ)->∃qs:List PF,qs.map (·.1)=l/\∀q,q∈qs->Good q
 | [],_=>⟨[],rfl,λq h=>by cases h⟩
 | p::l,h=>by
  refine aO (tI (l:=l) λx hx=>h x (List.mem_cons_of_mem _ hx)) λqs e g=>?_
  refine aO (IU.of p (h p List.mem_cons_self)) λf r c=>?_
  refine ⟨(p,f)::qs,by rw [List.map_cons,e],λq hq=>?_⟩
  rcases List.mem_cons.mp hq with e | e
  ·subst e;exact ⟨h p List.mem_cons_self,r,c⟩
  ·exact g q e
noncomputable def vl(ln:Nat->Int):Nat->List PF->List SR
 | _,[]=>[]
 | b,q::l=>q.2.rows b q.1.wb.length ln++vl ln (b+q.1.wb.length) l
def xS:Nat->List PF->List Nat
 | _,[]=>[]
 | n,q::l=>q.2.pl n++xS (n+q.2.fr.length) l
def fT(l:List PF):List Pc:=l.map (·.1)
theorem tJ(f:FT)(b s:Nat)(ln:Nat->Int):(f.rows b s ln).length=f.fr.length:=List.length_map _
structure Ad (K K':List CV) (n:Nat):Prop where
 e:∃E,K'=K++E/\E.length<=n
 o:(∀x,x∈K->nG x=true)->∀x,x∈K'->nG x=true
theorem Ad.mem{K K':List CV}{n:Nat}(a:Ad K K' n){x:CV}(h:x∈K):x∈K':=by
 refine aO (a.e) λE e _=>?_
 rw [e];exact List.mem_append_left _ h
theorem xT{fl:Nat->Bool}{ln:Nat->Int}:∀{qs:List PF}{K:List CV}{A S:List SR}{b:Nat},(∀q,q∈qs->Good q)->(∀q,q∈qs->∀x,Ey q.1 x=true->x∈K)->ij fl b (fT qs)->
  ∃K' A' S' P,Run K A S (zx fl ln b (cR b (fT qs))) K' A' S' P/\Ad K K' qs.length/\A'++S'=(A++S)++vl ln b qs/\P=xS (A.length+S.length) qs
 | [],K,A,S,b,_,_,_=>⟨K,A,S,[],.nil,⟨⟨[],(List.append_nil K).symm,Nat.le_refl _⟩,λh=>h⟩,(List.append_nil _).symm,rfl⟩
 | q::qs,K,A,S,b,g,hK,hf=>by
  have gq:=g q List.mem_cons_self
  refine N5 (gq.r K A S b fl ln (hK q List.mem_cons_self) hf.1) λK1 A1 S1 P1 R1 su r1 p1=>?_
  obtain ⟨G1,E1,e1,l1⟩:=su
  obtain ⟨K2,A2,S2,P2,R2,⟨⟨E2,e2,l2⟩,o2⟩,r2,p2⟩:=xT (qs:=qs) (K:=K1) (A:=A1) (S:=S1) (b:=b+q.1.wb.length) (λx hx=>g x (List.mem_cons_of_mem _ hx)) (λx hx y hy=>by rw [e1];exact List.mem_append_left _ (hK x (List.mem_cons_of_mem _ hx) y hy)) hf.2
  have n1:A1.length+S1.length=A.length+S.length+q.2.fr.length:=by
   have:=congrArg List.length r1
   rw [List.length_append,List.length_append,List.length_append,tJ] at this
   exact this
  refine ⟨K2,A2,S2,P1++P2,?_,⟨⟨E1++E2,by rw [e2,e1,List.append_assoc],by rw [List.length_append,List.length_cons];lia⟩,λh=>o2 (G1.o h)⟩,?_,?_⟩
  ·show Run K A S (zx fl ln b (dk b q.1.wb++cR (b+q.1.wb.length) (fT qs))) _ _ _ _
   rw [iK,dS]
   exact R1.append R2
  ·rw [r2,r1,List.append_assoc];rfl
  ·rw [p1,p2,n1];rfl
theorem IV{fl:Nat->Bool}{ln:Nat->Int}{K:List CV}{A S:List SR}{b:Nat}(h:fl (b+1)=false):∃A' S',Run K A S (zx fl ln b E2) K A' S' [A.length+S.length,A.length+S.length+1]/\A'++S'=(A++S)++[⟨0,.no,ln b⟩,⟨65,.no,ln (b+1)⟩]:=by
 refine ⟨fA (fl b) A S,fS (fl b) S++([]++[⟨0,.no,ln b⟩]++[⟨65,.no,ln (b+1)⟩]),?_,?_⟩
 ·have e:A.length+S.length+1=(fA (fl b) A S).length+(fS (fl b) S++([]++[(⟨0,.no,ln b⟩:SR)])).length:=by
   have:=bU (fl b) A S
   simp;lia
  rw [e]
  show Run K A S [(fl b,⟨0,.no,ln b⟩),(fl (b+1),⟨65,.no,ln (b+1)⟩)] _ _ _ _
  rw [h]
  exact Run.first (bc.zero 0 (by decide)) (bg (by intro x e;cases e)) (Run.kp (L0:=[]) (T:=[⟨0,.no,ln b⟩]) bc.ret (bg (by intro x e;cases e)) .nil)
 ·rw [<-jr (fl b) A S];exact (List.append_assoc (fA (fl b) A S) (fS (fl b) S) [(⟨0,.no,ln b⟩:SR),⟨65,.no,ln (b+1)⟩]).symm
def dI(l:List Pc):Nat:=(l.map λp=>p.wb.length).sum
def lH(l:List PF):Nat:=(l.map λq=>q.2.fr.length).sum
theorem ia(l:List Pc)(b:Nat):(cR b l).length=dI l:=Cv l b
theorem xU{n:Nat}:∀{l:List Pc}{b:Nat},(∀p,p∈l->p∈cZ)->b+dI l<n->(cR b l).any (zP n)=false
 | [],_,_,_=>rfl
 | p::l,b,h,q=>by
  have e:dI (p::l)=p.wb.length+dI l:=by unfold dI;rw [List.map_cons,List.sum_cons]
  rw [e] at q
  unfold cR
  rw [List.any_append,xU (l:=l) (λx hx=>h x (List.mem_cons_of_mem _ hx)) (by omega),Bool.or_false]
  exact xR (tH (h p List.mem_cons_self)) (.inr (by omega))
theorem tK{x:Nat×Nat}:∀{l:List Pc}{b:Nat},x∈cS b l->x.2<=b+dI l
 | [],_,hz=>absurd hz List.not_mem_nil
 | p::l,b,h=>by
  have e:dI (p::l)=p.wb.length+dI l:=by unfold dI;rw [List.map_cons,List.sum_cons]
  rw [e]
  rcases List.mem_cons.mp (show x∈(b,b+p.wb.length)::cS (b+p.wb.length) l from h) with e | e
  ·subst e;show b+p.wb.length<=_;omega
  ·have:=tK e;omega
noncomputable def IW(l:List Pc)(x:Nat×Nat)(n:Nat):Bool:=(((cR 0 l).any (zP n) || decide (n=x.1)) || decide (n=x.2)) || decide (n=dI l)
theorem IX{l:List Pc}{x:Nat×Nat}(h:∀p,p∈l->p∈cZ)(hx:x∈cS 0 l):ij (IW l x) 0 l:=
 have s:=qN.span hx
 ((ij.code h).or s.1).or s.2.1 |>.or (by have:=qN.end_ (l:=l) (b:=0);rw [Nat.zero_add] at this;exact this)
theorem Ez{l:List Pc}{x:Nat×Nat}(h:∀p,p∈l->p∈cZ)(hx:x∈cS 0 l):IW l x (dI l+1)=false:=by
 have s:=qN.span hx
 have e:=tK hx
 unfold IW
 rw [xU h (by omega),decide_eq_false (by omega),decide_eq_false (by omega),decide_eq_false (by omega)];rfl
theorem IY{l:List Pc}{x:Nat×Nat}{a:Int}{f:Bool}(n:Nat):(jC (cR 0 l++E2) (n:Nat) || jH [⟨(x.1:Nat),(x.2:Nat),(dI l:Nat),a,f⟩] (n:Nat))=IW l x n:=by
 have e1:jC (cR 0 l++E2) (n:Nat)=(cR 0 l).any (zP n):=by
  unfold jC
  rw [List.any_append]
  show (_ || false)=_
  rw [Bool.or_false];rfl
 have e2:jH [⟨(x.1:Nat),(x.2:Nat),(dI l:Nat),a,f⟩] (n:Nat)=(decide (n=x.1) || decide (n=x.2) || decide (n=dI l)):=by
  unfold jH
  rw [List.any_cons,List.any_nil,Bool.or_false]
  congr 1
  ·congr 1
   ·exact decide_eq_decide.mpr ⟨λe=>(Int.ofNat.inj e).symm,λe=>congrArg Int.ofNat e.symm⟩
   ·exact decide_eq_decide.mpr ⟨λe=>(Int.ofNat.inj e).symm,λe=>congrArg Int.ofNat e.symm⟩
  ·exact decide_eq_decide.mpr ⟨λe=>(Int.ofNat.inj e).symm,λe=>congrArg Int.ofNat e.symm⟩
 rw [e1,e2]
 unfold IW
 simp only [Bool.or_assoc]
theorem xV:∀{qs:List PF}{n:Nat},(∀q,q∈qs->q.2.po.length=q.1.wb.length)->(xS n qs).length=dI (fT qs)
 | [],_,_=>rfl
 | q::qs,n,h=>by
  unfold xS
  rw [List.length_append,xV (qs:=qs) λx hx=>h x (List.mem_cons_of_mem _ hx),show (q.2.pl n).length=q.2.po.length from List.length_map _,h q List.mem_cons_self]
  unfold dI fT
  rw [List.map_cons,List.map_cons,List.sum_cons]
theorem lI{ln:Nat->Int}:∀{qs:List PF}{b:Nat},(vl ln b qs).length=lH qs
 | [],_=>rfl
 | q::qs,b=>by
  unfold vl
  rw [List.length_append,tJ,lI]
  unfold lH
  rw [List.map_cons,List.sum_cons]
structure Ck (pc:Pc) (ft:FT):Prop where
 l:ft.fr.length=pc.wa.length
 p:ft.po.length=pc.wb.length
 z:ft.po[0]?=some 0
 r:∀q,q∈ft.fr.zip pc.wa->rel ft q.1.1 q.2.2=true
 f:∀q,q∈ft.fr->q.1.op∈cU/\jD pc.wb.length q.1=true/\SP q.1=true
 i:Cw 0 ft.fr pc.wb.length=true
theorem Good.ck{q:PF}(g:Good q):Ck q.1 q.2:=by
 have c:=g.c
 unfold IS at c
 simp only [Bool.and_eq_true,decide_eq_true_iff,List.all_eq_true] at c
 obtain ⟨⟨⟨⟨⟨c1,c2⟩,c3⟩,c4⟩,c5⟩,c6⟩:=c
 exact ⟨c1,c2,c3,c4,λx hx=>⟨List.contains_iff_mem.mp (c5 x hx).1.1,(c5 x hx).1.2,(c5 x hx).2⟩,c6⟩
theorem Cx{ln:Nat->Int}{Pl:List Nat}:∀{qs:List PF}{b:Nat},(∀q,q∈qs->Good q)->b+dI (fT qs)<Pl.length->∀x,x∈vl ln b qs->Mk Pl x
 | [],_,_,_,x,hx=>absurd hx List.not_mem_nil
 | q::qs,b,g,hl,x,hx=>by
  have e:dI (fT (q::qs))=q.1.wb.length+dI (fT qs):=by unfold dI fT;rw [List.map_cons,List.map_cons,List.sum_cons]
  rw [e] at hl
  rcases List.mem_append.mp (show x∈q.2.rows b q.1.wb.length ln++vl ln (b+q.1.wb.length) qs from hx) with h | h
  ·refine aO (List.mem_map.mp h) λy hy ey=>?_
   refine ja ((g q List.mem_cons_self).ck.f y hy) λf1 f2 f3=>?_
   subst ey
   refine ⟨f1,λhj=>?_⟩
   have hj:isJ y.1.op=true:=hj
   unfold jD at f2
   show∃k,IB b q.1.wb.length y.1.a=.i k/\_
   cases ea:y.1.a with
   | t j=>
    rw [ea] at f2
    dsimp only at f2
    rw [Bool.and_eq_true,Bool.and_eq_true,decide_eq_true_iff,decide_eq_true_iff] at f2
    exact ⟨_,rfl,by omega,by omega⟩
   | e=>exact ⟨_,rfl,by omega,by omega⟩
   | _=>rw [ea,hj] at f2;cases f2
  ·exact Cx (λx hx=>g x (List.mem_cons_of_mem _ hx)) (by omega) x h
noncomputable def kb(Pl:List Nat):Nat->Nat->List PF->Prop
 | b,n,[]=>Pl[b]?=some n
 | b,n,q::l=>(∀j,j<q.1.wb.length->Pl[b+j]?=(q.2.po[j]?).map (n+·))/\kb Pl (b+q.1.wb.length) (n+q.2.fr.length) l
theorem IZ{q:PF}(c:Ck q.1 q.2):0<q.1.wb.length:=by
 rw [<-c.p]
 have:=c.z
 exact (List.getElem?_eq_some_iff.mp this).1
theorem kb.head{Pl:List Nat}:∀{qs:List PF}{b n:Nat},(∀q,q∈qs->Ck q.1 q.2)->kb Pl b n qs->Pl[b]?=some n
 | [],_,_,_,h=>h
 | q::qs,b,n,g,h=>by
  have c:=g q List.mem_cons_self
  have:=h.1 0 (IZ c)
  rw [c.z] at this;exact this
theorem kb.SQ{Pl:List Nat}:∀{qs:List PF}{b n:Nat}{pre rest:List Nat},(∀q,q∈qs->Ck q.1 q.2)->pre.length=b->Pl=pre++(xS n qs++((n+lH qs)::rest))->kb Pl b n qs
 | [],b,n,pre,rest,_,hb,e=>by
  show Pl[b]?=some n
  rw [e,<-hb,List.getElem?_append_right (Nat.le_refl _),Nat.sub_self];rfl
 | q::qs,b,n,pre,rest,g,hb,e=>by
  have c:=g q List.mem_cons_self
  have e1:lH (q::qs)=q.2.fr.length+lH qs:=by unfold lH;rw [List.map_cons,List.sum_cons]
  have e2:Pl=(pre++q.2.pl n)++(xS (n+q.2.fr.length) qs++((n+q.2.fr.length+lH qs)::rest)):=by
   rw [e,e1,Nat.add_assoc,List.append_assoc]
   show pre++((q.2.pl n++xS (n+q.2.fr.length) qs)++_)=_
   rw [List.append_assoc]
  have lp:(q.2.pl n).length=q.1.wb.length:=(List.length_map _).trans c.p
  refine ⟨λj hj=>?_,kb.SQ (qs:=qs) (λx hx=>g x (List.mem_cons_of_mem _ hx)) (by rw [List.length_append,hb,lp]) e2⟩
  rw [e2,List.getElem?_append_left (by rw [List.length_append,hb,lp];lia),List.getElem?_append_right (by lia),hb,Nat.add_sub_cancel_left]
  exact List.getElem?_map
theorem ke{Pl:List Nat}{k m:Nat}(h:Pl[k]?=some m):nP Pl (k:Nat)=(m:Nat):=by
 unfold nP;rw [Int.toNat_natCast,h];rfl
theorem xW{α β γ:Type}{F:α->γ}{aj:β->γ}:∀{l:List α}{l':List β},l.length=l'.length->(∀q,q∈l.zip l'->F q.1=aj q.2)->l.map F=l'.map aj
 | [],[],_,_=>rfl
 | x::l,y::l',e,h=>by
  rw [List.map_cons,List.map_cons,h (x,y) List.mem_cons_self,xW (Nat.succ.inj e) λq hq=>h q (List.mem_cons_of_mem _ hq)]
theorem EA{α β:Type}:∀{l:List α}{l':List β}{q:α×β},q∈l.zip l'->q.1∈l
 | _,_,q,h=>(List.of_mem_zip h).1
theorem EB{Pl:List Nat}{p:Pc}{f:FT}{b n:Nat}{ln:Nat->Int}(c:Ck p f)(h:∀j,j<p.wb.length->Pl[b+j]?=(f.po[j]?).map (n+·))(he:Pl[b+p.wb.length]?=some (n+f.fr.length)):
  (f.rows b p.wb.length ln).map (nC Pl)=dk n p.wa:=by
 unfold FT.rows dk
 rw [List.map_map]
 refine xW c.l λq hq=>?_
 have r:=c.r q hq
 refine ja (c.f q.1 (EA hq)) λo1 j1 k1=>?_
 unfold rel at r
 rw [Bool.and_eq_true,decide_eq_true_iff] at r
 obtain ⟨r1,r2⟩:=r
 show (q.1.1.op,nA Pl ⟨q.1.1.op,IB b p.wb.length q.1.1.a,ln (b+q.1.2)⟩)=bj (n:Nat) (p.wa.length:Nat) q.2.2
 unfold nA bj
 dsimp only
 unfold jD at j1
 rw [r1] at j1⊢
 rw [<-c.l]
 cases ea:q.1.1.a with
 | no=>
  rw [ea] at r2 j1
  cases eb:q.2.2.a with
  | no=>rw [Bool.not_eq_true'] at j1;rw [if_neg (by rw [j1];decide)];rfl
  | _=>rw [eb] at r2;cases r2
 | i k=>
  rw [ea] at r2 j1
  cases eb:q.2.2.a with
  | i l=>rw [eb] at r2;rw [Bool.not_eq_true'] at j1;rw [if_neg (by rw [j1];decide),of_decide_eq_true r2];rfl
  | _=>rw [eb] at r2;cases r2
 | c k=>
  rw [ea] at r2 j1
  cases eb:q.2.2.a with
  | c l=>rw [eb] at r2;rw [Bool.not_eq_true'] at j1;rw [if_neg (by rw [j1];decide),of_decide_eq_true r2];rfl
  | _=>rw [eb] at r2;cases r2
 | t j=>
  rw [ea] at r2 j1
  dsimp only at j1
  rw [Bool.and_eq_true,Bool.and_eq_true,decide_eq_true_iff,decide_eq_true_iff] at j1
  rw [if_pos j1.1.1]
  have hj:=h j j1.2
  cases eb:q.2.2.a with
  | t i=>
   rw [eb] at r2
   have e:=of_decide_eq_true r2
   rw [e] at hj
   show (_,Ar.i (nP Pl ((b:Nat)+(j:Nat))))=_
   rw [show ((b:Nat):Int)+(j:Nat)=((b+j:Nat):Int) from rfl,ke hj];rfl
  | e=>
   rw [eb] at r2
   have e:=of_decide_eq_true r2
   rw [e] at hj
   show (_,Ar.i (nP Pl ((b:Nat)+(j:Nat))))=_
   rw [show ((b:Nat):Int)+(j:Nat)=((b+j:Nat):Int) from rfl,ke hj];rfl
  | _=>rw [eb] at r2;cases r2
 | e=>
  rw [ea] at r2 j1
  dsimp only at j1
  rw [Bool.and_eq_true] at j1
  rw [if_pos j1.1]
  cases eb:q.2.2.a with
  | e=>
   show (_,Ar.i (nP Pl ((b:Nat)+(p.wb.length:Nat))))=_
   rw [show ((b:Nat):Int)+(p.wb.length:Nat)=((b+p.wb.length:Nat):Int) from rfl,ke he];rfl
  | _=>rw [eb] at r2;cases r2
theorem nF{Pl:List Nat}{ln:Nat->Int}:∀{qs:List PF}{b n:Nat},(∀q,q∈qs->Ck q.1 q.2)->kb Pl b n qs->(vl ln b qs).map (nC Pl)=cQ n (fT qs)
 | [],_,_,_,_=>rfl
 | q::qs,b,n,g,h=>by
  have c:=g q List.mem_cons_self
  have gt:∀x,x∈qs->Ck x.1 x.2:=λx hx=>g x (List.mem_cons_of_mem _ hx)
  show (q.2.rows b q.1.wb.length ln++vl ln (b+q.1.wb.length) qs).map (nC Pl)=dk n q.1.wa++cQ (n+q.1.wa.length) (fT qs)
  rw [List.map_append,EB c h.1 (kb.head gt h.2),nF gt h.2,c.l]
theorem tL{Pl:List Nat}{x y:Nat×Nat}:∀{qs:List PF}{b n i:Nat},(∀q,q∈qs->Ck q.1 q.2)->kb Pl b n qs->(cS b (fT qs))[i]?=some x->(cN n (fT qs))[i]?=some y->nP Pl (x.1:Nat)=(y.1:Nat)/\nP Pl (x.2:Nat)=(y.2:Nat)
 | q::qs,b,n,0,g,h,hx,hy=>by
  have c:=g q List.mem_cons_self
  have gt:∀x,x∈qs->Ck x.1 x.2:=λx hx=>g x (List.mem_cons_of_mem _ hx)
  cases hx;refine dq hy ?_
  refine ⟨ke (kb.head g h),ke ?_⟩
  rw [kb.head gt h.2,c.l]
 | q::qs,b,n,i+1,g,h,hx,hy=>by
  have c:=g q List.mem_cons_self
  refine tL (qs:=qs) (λx hx=>g x (List.mem_cons_of_mem _ hx)) h.2 hx (i:=i) ?_
  rw [c.l];exact hy
theorem I0{x:CV}(h:x∈KS):nG x=true:=(qA h).2
theorem tM:∀{l:List Pc},(∀p,p∈l->p∈cZ)->dI l<=7*l.length
 | [],_=>Nat.le_refl _
 | p::l,h=>by
  have a:=(qK (h p List.mem_cons_self)).1
  have b:=tM (l:=l) λx hx=>h x (List.mem_cons_of_mem _ hx)
  unfold dI at b⊢
  rw [List.map_cons,List.sum_cons,List.length_cons];lia
theorem FK:∀{l:List PF},(∀q,q∈l->Good q)->lH l<=7*l.length
 | [],_=>Nat.le_refl _
 | q::l,h=>by
  have g:=h q List.mem_cons_self
  have a:=(qK g.m).2
  have c:=g.ck.l
  have b:=FK (l:=l) λx hx=>h x (List.mem_cons_of_mem _ hx)
  unfold lH at b⊢
  rw [List.map_cons,List.sum_cons,List.length_cons];lia
theorem I1{b m:Nat}{w:Wd}(o:w.op∈cU)(h:jD m w=true):CX (bj (b:Nat) (m:Nat) w):=by
 refine ⟨o,λhj=>?_⟩
 have hj:isJ w.op=true:=hj
 unfold jD at h
 unfold bj
 cases e:w.a with
 | t j=>exact ⟨_,rfl⟩
 | e=>exact ⟨_,rfl⟩
 | _=>rw [e,hj] at h;cases h
theorem FQ{p:Pc}(h:p∈cZ):∀w,w∈p.wb->w.2.op∈cU:=λw hw=>by
 have:=List.all_eq_true.mp (List.all_eq_true.mp Cq p h) w hw
 unfold Et at this
 rw [Bool.and_eq_true] at this
 exact List.contains_iff_mem.mp this.1
theorem vX{r:CR}:∀{l:List Pc}{b:Nat},r∈cR b l->∃p c w,p∈l/\w∈p.wb/\r=bj (c:Nat) (p.wb.length:Nat) w.2/\b<=c/\c+p.wb.length<=b+dI l
 | [],_,hz=>absurd hz List.not_mem_nil
 | p::l,b,h=>by
  have e:dI (p::l)=p.wb.length+dI l:=by unfold dI;rw [List.map_cons,List.sum_cons]
  rcases List.mem_append.mp (show r∈dk b p.wb++cR (b+p.wb.length) l from h) with h | h
  ·refine aO (List.mem_map.mp h) λw hw er=>?_
   exact ⟨p,b,w,List.mem_cons_self,hw,er.symm,Nat.le_refl _,by lia⟩
  ·refine lZ (vX h) λp' c w h1 h2 h3 h4 h5=>?_
   exact ⟨p',c,w,List.mem_cons_of_mem _ h1,h2,h3,by lia,by lia⟩
theorem tN{x:CV}:∀{l:List Pc}{b:Nat}{p:Pc},p∈l->Ey p x=true->∃r,r∈cR b l/\r.2=.c x
 | [],_,_,hz,_=>absurd hz List.not_mem_nil
 | q::l,b,p,hp,hc=>by
  rcases List.mem_cons.mp hp with e | e
  ·subst e
   unfold Ey at hc
   refine aO (List.any_eq_true.mp hc) λw hw h=>?_
   refine ⟨_,List.mem_append_left _ (List.mem_map_of_mem hw),?_⟩
   show (match w.2.a with | .no=>Ar.no | .i k=>.i k | .c x=>.c x | .t j=>.i _ | .e=>.i _)=_
   cases ea:w.2.a with
   | c y=>rw [ea] at h;rw [of_decide_eq_true h]
   | _=>rw [ea] at h;cases h
  ·refine aO (tN (b:=b+q.wb.length) e hc) λr h1 h2=>?_
   exact ⟨r,List.mem_append_right _ h1,h2⟩
structure kD (U:Ul) (cA:List CR) (told:List Hd) (qs:List PF) (Rs:List SR) (Pl:List Nat) (K':List CV):Prop where
 f:Folds U Rs Pl K'
 d:Rs.map (nC Pl)=cA
 t:U.hs.flatMap (nH Pl)=told
 k:∃E,K'=U.K++E/\E.length<=5
 r:Rs=vl (λn=>(U.L[n]?).getD 0) 0 qs++[⟨0,.no,(U.L[dI (fT qs)]?).getD 0⟩,⟨65,.no,(U.L[dI (fT qs)+1]?).getD 0⟩]
 c:U.code=cR 0 (fT qs)++E2
 g:∀q,q∈qs->Good q
 n:qs.length<=5
theorem tP{U:Ul}{hd:Hd}{cA:List CR}{told:List Hd}(W:iX U hd cA told)(hk:U.K.length<3000):∃qs Rs Pl K',kD U cA told qs Rs Pl K':=by
 refine oo (W.p) λps K0 i a f gH hl _ _ ha hi ec ek ed Q3=>?_
 obtain ⟨x,y,hx,hy,eh,et⟩:=Q3
 rw [nB] at ec ed hx hy eh et
 have ec:U.code=cR 0 ps++E2:=ec
 have ed:cA=cQ 0 ps++E2:=ed
 have hx:(cS 0 ps)[i]?=some x:=hx
 have hy:(cN 0 ps)[i]?=some y:=hy
 have eR:(cR 0 ps).length=dI ps:=ia ps 0
 have eh:hd=⟨(x.1:Nat),(x.2:Nat),((cR 0 ps).length:Nat),a,f⟩:=eh
 rw [eR] at eh
 have et:told=if y.1<y.2 then [⟨(y.1:Nat),(y.2:Nat),((cQ 0 ps).length:Nat),a,f⟩] else []:=et
 refine aO (tI gH) λqs eq g=>?_
 have eq:fT qs=ps:=eq
 subst eq
 have lq:qs.length<=5:=by rw [show (fT qs).length=qs.length from List.length_map _] at hl;exact hl
 have gk:∀q,q∈qs->Ck q.1 q.2:=λq hq=>(g q hq).ck
 have xm:x∈cS 0 (fT qs):=List.mem_of_getElem? hx
 have sp:=qN.span xm
 have xl:=tK xm
 have Wa:=tM gH
 have W0:(fT qs).length=qs.length:=List.length_map _
 have W2:=FK g
 obtain ⟨K',A,S,P,R,⟨⟨E,eK,lE⟩,oK⟩,NS,rP⟩:=xT (fl:=IW (fT qs) x) (ln:=λn=>(U.L[n]?).getD 0) (K:=U.K) (A:=[]) (S:=[]) (b:=0) g (λq hq x hx=>by
  refine aO (tN (b:=0) (List.mem_map_of_mem hq) hx) λr h1 h2=>?_
  exact W.kc r (by rw [ec];exact List.mem_append_left _ h1) x h2) (IX gH xm)
 have NS:A++S=vl (λn=>(U.L[n]?).getD 0) 0 qs:=NS
 have Wb:A.length+S.length=lH qs:=by rw [<-List.length_append,NS,lI]
 refine bV (IV (ln:=λn=>(U.L[n]?).getD 0) (K:=K') (A:=A) (S:=S) (b:=dI (fT qs)) (Ez gH xm)) λA2 S2 R2 r2=>?_
 rw [Wb] at R2
 rw [NS] at r2
 have rP:P=xS 0 qs:=rP
 subst rP
 have lP:(xS 0 qs).length=dI (fT qs):=xV λq hq=>(gk q hq).p
 have Rt:Run U.K [] [] (zx (λn=>jC U.code (n:Nat) || jH U.hs (n:Nat)) (λn=>(U.L[n]?).getD 0) 0 U.code) K' A2 S2 (xS 0 qs++[lH qs,lH qs+1]):=by
  rw [W.hs,eh,ec]
  rw [show (λn:Nat=>jC (cR 0 (fT qs)++E2) (n:Nat) || jH [⟨(x.1:Nat),(x.2:Nat),(dI (fT qs):Nat),a,f⟩] (n:Nat))=IW (fT qs) x from funext IY]
  rw [iK,Nat.zero_add,eR]
  exact R.append R2
 have lR:(A2++S2).length=lH qs+2:=by rw [r2,List.length_append,lI];rfl
 have NT:(xS 0 qs++[lH qs,lH qs+1]++[(A2++S2).length]).length=dI (fT qs)+3:=by rw [List.length_append,List.length_append,lP];rfl
 have pk:kb (xS 0 qs++[lH qs,lH qs+1]++[(A2++S2).length]) 0 0 qs:=kb.SQ (pre:=[]) (rest:=[lH qs+1,(A2++S2).length]) gk rfl (by rw [List.nil_append,Nat.zero_add,List.append_assoc];rfl)
 have pe:(xS 0 qs++[lH qs,lH qs+1]++[(A2++S2).length])[dI (fT qs)]?=some (lH qs):=by
  rw [List.append_assoc,List.getElem?_append_right (by lia),lP,Nat.sub_self];rfl
 have eQ:(cQ 0 (fT qs)).length=lH qs:=by
  have:=congrArg List.length (nF (ln:=λn=>(U.L[n]?).getD 0) gk pk)
  rw [List.length_map,lI] at this;exact this.symm
 have cl:U.code.length=dI (fT qs)+2:=by rw [ec,List.length_append,eR];rfl
 refine ⟨qs,A2++S2,_,K',⟨⟨A2,S2,_,Rt,rfl,rfl⟩,λr hr=>?_,W.kc,λx hx=>I0 (W.ks x hx),⟨by lia,by rw [W.hs];exact (show 1<10 by decide),by lia,by lia⟩,λz hz=>?_,λz hz=>?_⟩,?_,?_,⟨E,eK,by lia⟩,r2,ec,g,lq⟩
 ·rw [ec] at hr
  rcases List.mem_append.mp hr with h | h
  ·refine kF (vX h) λp c w h1 h2 h3 _=>?_
   rw [h3];exact I1 (FQ (gH p h1) w h2) (tH (gH p h1) w h2)
  ·rcases List.mem_cons.mp h with e | e
   ·rw [e];exact ⟨by decide,λh=>by cases h⟩
   ·rw [List.mem_singleton.mp e];exact ⟨by decide,λh=>by cases h⟩
 ·rw [r2] at hz
  rcases List.mem_append.mp hz with h | h
  ·exact Cx g (by rw [NT];lia) z h
  ·rcases List.mem_cons.mp h with e | e
   ·rw [e];exact ⟨show (0:Int)∈cU by decide,λh=>by cases h⟩
   ·rw [List.mem_singleton.mp e];exact ⟨show (65:Int)∈cU by decide,λh=>by cases h⟩
 ·rw [W.hs,List.mem_singleton] at hz
  subst hz
  rw [eh]
  refine ⟨⟨Int.natCast_nonneg _,?_⟩,⟨Int.natCast_nonneg _,?_⟩,⟨Int.natCast_nonneg _,?_⟩⟩
  ·show x.1<_;rw [NT];lia
  ·show x.2<_;rw [NT];lia
  ·show dI _<_;rw [NT];lia
 ·have e:=(congrArg (List.map (nC (xS 0 qs++[lH qs,lH qs+1]++[(A2++S2).length]))) r2).trans List.map_append
  rw [nF gk pk] at e
  rw [ed];exact e
 ·rw [W.hs,eh,et]
  obtain ⟨s1,s2⟩:=tL gk pk hx hy
  unfold nH
  rw [List.flatMap_cons,List.flatMap_nil,List.append_nil]
  dsimp only
  rw [s1,s2,ke pe,eQ]
  by_cases q:y.1<y.2
  ·rw [if_pos (by lia),if_pos q]
  ·rw [if_neg (by lia),if_neg q]
noncomputable def Cy(ws:Tx)(w:Wd):Bool:= !decide (w.op=58)&& !decide (w.op=65)&&(!(decide (w.op=61) || decide (w.op=62)) || match w.a with
 | .t j=>match ws[j]? with
  | some v=>decide (v.2.op=6)
  | none=>false
 | _=>false)
theorem I2:(cZ.all λp=>(p.wb.all λw=>Cy p.wb w.2)&&decide (0<p.wb.length))=true:=by kernel_rfl
theorem xX{p:Pc}(h:p∈cZ):(∀w,w∈p.wb->Cy p.wb w.2=true)/\0<p.wb.length:=by
 have:=List.all_eq_true.mp I2 p h
 rw [Bool.and_eq_true,decide_eq_true_iff,List.all_eq_true] at this
 exact this
theorem lJ{r:CR}:∀{l:List Pc}{b:Nat},r∈cR b l->∃p c w,p∈l/\w∈p.wb/\r=bj (c:Nat) (p.wb.length:Nat) w.2/\b<=c/\c+p.wb.length<=b+dI l/\∀j,j<p.wb.length->(cR b l)[c-b+j]?=(dk c p.wb)[j]?
 | [],_,hz=>absurd hz List.not_mem_nil
 | p::l,b,h=>by
  have e:dI (p::l)=p.wb.length+dI l:=by unfold dI;rw [List.map_cons,List.sum_cons]
  rcases List.mem_append.mp (show r∈dk b p.wb++cR (b+p.wb.length) l from h) with h | h
  ·refine aO (List.mem_map.mp h) λw hw er=>?_
   refine ⟨p,b,w,List.mem_cons_self,hw,er.symm,Nat.le_refl _,by omega,λj hj=>?_⟩
   show (dk b p.wb++cR (b+p.wb.length) l)[b-b+j]?=_
   rw [Nat.sub_self,Nat.zero_add,List.getElem?_append_left (by rw [dS];exact hj)]
  ·refine F7 (lJ h) λp' c w h1 h2 h3 h4 h5 h6=>?_
   refine ⟨p',c,w,List.mem_cons_of_mem _ h1,h2,h3,by omega,by omega,λj hj=>?_⟩
   show (dk b p.wb++cR (b+p.wb.length) l)[c-b+j]?=_
   rw [List.getElem?_append_right (by rw [dS];omega),dS,<-h6 j hj]
   congr 1;omega
section
variable{l:List Pc}(h:∀p,p∈l->p∈cZ)
include h
theorem lL{r:CR}(hr:r∈cR 0 l++E2):r.1≠58/\r.1∈cU:=by
 rcases List.mem_append.mp hr with q | q
 ·refine kF (lJ q) λp c w h1 h2 h3 _=>?_
  have t:=(xX (h p h1)).1 w h2
  unfold Cy at t
  simp only [Bool.and_eq_true,Bool.not_eq_true',decide_eq_false_iff_not] at t
  rw [h3];exact ⟨t.1.1,FQ (h p h1) w h2⟩
 ·rcases List.mem_cons.mp q with e | e
  ·rw [e];exact ⟨by decide,by decide⟩
  ·rw [List.mem_singleton.mp e];exact ⟨by decide,by decide⟩
theorem tQ{k:Int}(h0:0<=k):HQ (cR 0 l++E2) k:=⟨h0,λx hx=>(lL h (List.mem_of_getElem? hx)).1⟩
theorem ib{r:CR}(hr:r∈cR 0 l++E2)(hj:isJ r.1=true):∃k:Nat,r.2=.i (k:Nat)/\k<=dI l/\(r.1=61\/r.1=62->∃x,(cR 0 l++E2)[k]?=some x/\x.1=6):=by
 rcases List.mem_append.mp hr with q | q
 ·refine F7 (lJ q) λp c w h1 h2 h3 h4 h5 h6=>?_
  have t:=(xX (h p h1)).1 w h2
  have jw:=tH (h p h1) w h2
  subst h3
  have hj:isJ w.2.op=true:=hj
  unfold Cy at t
  rw [Bool.and_eq_true] at t
  have t2:=t.2
  unfold jD at jw
  show∃k:Nat,(match w.2.a with | .no=>Ar.no | .i k=>.i k | .c x=>.c x | .t j=>.i ((c:Nat)+(j:Nat)) | .e=>.i ((c:Nat)+(p.wb.length:Nat)))=.i (k:Nat)/\_
  cases ea:w.2.a with
  | t j=>
   rw [ea] at jw t2
   dsimp only at jw t2
   rw [Bool.and_eq_true,Bool.and_eq_true,decide_eq_true_iff,decide_eq_true_iff] at jw
   refine ⟨c+j,rfl,by omega,λe6=>?_⟩
   have e6:w.2.op=61\/w.2.op=62:=e6
   have q6:(decide (w.2.op=61) || decide (w.2.op=62))=true:=by rw [Bool.or_eq_true,decide_eq_true_iff,decide_eq_true_iff];exact e6
   rw [q6,Bool.not_true,Bool.false_or] at t2
   have g:=h6 j jw.2
   rw [Nat.sub_zero] at g
   unfold dk at g
   rw [List.getElem?_map] at g
   cases ev:p.wb[j]? with
   | none=>rw [ev] at t2;cases t2
   | some v=>
    rw [ev] at t2 g
    exact ⟨_,by rw [List.getElem?_append_left (by rw [ia];omega)];exact g,of_decide_eq_true t2⟩
  | e=>
   rw [ea] at t2
   refine ⟨c+p.wb.length,rfl,by omega,λe6=>?_⟩
   have e6:w.2.op=61\/w.2.op=62:=e6
   have q6:(decide (w.2.op=61) || decide (w.2.op=62))=true:=by rw [Bool.or_eq_true,decide_eq_true_iff,decide_eq_true_iff];exact e6
   rw [q6] at t2;cases t2
  | _=>rw [ea,hj] at jw;cases jw
 ·rcases List.mem_cons.mp q with e | e
  ·rw [e] at hj;cases hj
  ·rw [List.mem_singleton.mp e] at hj;cases hj
theorem Cz{r:CR}(hr:r∈cR 0 l++E2):Ml (cR 0 l++E2) r:=by
 have o:=lL h hr
 refine ⟨o.2,o.1,λhj=>?_⟩
 refine bJ (ib h hr hj) λk e hk h6=>?_
 exact ⟨_,e,tQ h (Int.natCast_nonneg _),λq=>⟨tQ h (by omega),by rw [Int.toNat_natCast];exact h6 q⟩⟩
theorem zI{k:Nat}{r:CR}(hk:(cR 0 l++E2)[k]?=some r)(hl:k+1<(cR 0 l++E2).length):dZ r.1=false:=by
 have len:(cR 0 l++E2).length=(cR 0 l).length+2:=List.length_append
 by_cases q:k<(cR 0 l).length
 ·rw [List.getElem?_append_left q] at hk
  refine kF (lJ (List.mem_of_getElem? hk)) λp c w h1 h2 h3 _=>?_
  have t:=(xX (h p h1)).1 w h2
  unfold Cy at t
  simp only [Bool.and_eq_true,Bool.not_eq_true',decide_eq_false_iff_not] at t
  rw [h3]
  exact decide_eq_false (λz=>z.elim t.1.1 t.1.2)
 ·have:k=(cR 0 l).length:=by omega
  subst this
  rw [List.getElem?_append_right (Nat.le_refl _),Nat.sub_self] at hk
  refine dq hk ?_;rfl
end
theorem CA{x:Nat×Nat}:∀{l:List Pc}{b:Nat},(∀p,p∈l->p∈cZ)->x∈cS b l->x.1<x.2
 | [],_,_,hz=>absurd hz List.not_mem_nil
 | p::l,b,h,hx=>by
  rcases List.mem_cons.mp (show x∈(b,b+p.wb.length)::cS (b+p.wb.length) l from hx) with e | e
  ·subst e;have:=(xX (h p List.mem_cons_self)).2;show b<b+_;omega
  ·exact CA (λx hx=>h x (List.mem_cons_of_mem _ hx)) e
theorem dT{U:Ul}{hd:Hd}{cA:List CR}{told:List Hd}(W:iX U hd cA told):(∀r,r∈U.code->Ml U.code r)/\Cl U hd/\U.code.length<=37:=by
 refine oo (W.p) λps K0 i a f gH hl _ _ ha hi ec ek ed MY=>?_
 obtain ⟨x,y,hx,hy,eh,et⟩:=MY
 rw [nB] at ec hx eh
 have ec:U.code=cR 0 ps++E2:=ec
 have hx:(cS 0 ps)[i]?=some x:=hx
 have eR:(cR 0 ps).length=dI ps:=ia ps 0
 have eh:hd=⟨(x.1:Nat),(x.2:Nat),((cR 0 ps).length:Nat),a,f⟩:=eh
 rw [eR] at eh
 have xm:x∈cS 0 ps:=List.mem_of_getElem? hx
 have xl:=tK xm
 have xp:=CA gH xm
 have Wa:=tM gH
 have cl:U.code.length=dI ps+2:=by rw [ec,List.length_append,eR];rfl
 have Wc:∀r,r∈U.code->CX r:=λr hr=>by
  rw [ec] at hr
  refine ⟨(lL gH hr).2,λhj=>?_⟩
  refine aO (ib gH hr hj) λk e _=>?_
  exact ⟨_,e⟩
 refine ⟨λr hr=>by rw [ec] at hr⊢;exact Cz gH hr,⟨W.hs,⟨λr hr=>⟨Wc r hr,(lL gH (ec▸hr)).1⟩,λk r hk j hj=>?_,by omega,by omega⟩,by omega,λk r hk hl=>by rw [ec] at hk hl;exact zI gH hk hl,by rw [eh];dsimp only;omega,λr hr hj=>?_,?_⟩,by omega⟩
 ·unfold zy at hj
  rcases List.mem_append.mp hj with q | q
  ·rcases List.mem_append.mp q with q | q
   ·split at q
    ·cases q
    ·rw [List.mem_singleton.mp q];omega
   ·unfold cb at q
    split at q
    ·rename_i We
     refine aO (ib gH (ec▸List.mem_of_getElem? hk) We) λk' e _=>?_
     rw [e] at q
     dsimp only at q
     rw [List.mem_singleton.mp q];exact Int.natCast_nonneg _
    ·cases q
  ·split at q
   ·rw [List.mem_singleton.mp q,eh];exact Int.natCast_nonneg _
   ·cases q
 ·refine bJ (ib gH (ec▸hr) hj) λk e hk _=>?_
  exact ⟨_,e,Int.natCast_nonneg _,by omega⟩
 ·rcases W.l with e | e
  ·exact .inl e
  ·exact .inr (by rw [e,List.length_map,List.length_range])
noncomputable def MZ:Nat->List PF->List Nat
 | _,[]=>[]
 | b,q::l=>(q.2.fr.map λw=>b+w.2)++MZ (b+q.1.wb.length) l
theorem o7{ln:Nat->Int}:∀(l:List PF)(b:Nat),(vl ln b l).map (·.l)=(MZ b l).map ln
 | [],_=>rfl
 | q::l,b=>by
  show (q.2.rows b q.1.wb.length ln++vl ln (b+q.1.wb.length) l).map (·.l)=((q.2.fr.map λw=>b+w.2)++MZ (b+q.1.wb.length) l).map ln
  rw [List.map_append,List.map_append,o7 l]
  congr 1
  unfold FT.rows
  rw [List.map_map,List.map_map];rfl
def jK:Nat->List Nat->Nat->Prop
 | n,[],m=>n<=m
 | n,i::l,m=>n<=i/\jK (i+1) l m
theorem jK.le:∀{l:List Nat}{n m:Nat},jK n l m->n<=m
 | [],_,_,h=>h
 | i::l,n,m,h=>Nat.le_trans h.1 (Nat.le_trans (Nat.le_succ _) (jK.le (l:=l) h.2))
theorem jK.low{k:Nat}:∀{l:List Nat}{n m:Nat},k<=n->jK n l m->jK k l m
 | [],_,_,h,q=>Nat.le_trans h q
 | i::l,n,m,h,q=>⟨Nat.le_trans h q.1,q.2⟩
theorem jK.app{l':List Nat}{k:Nat}:∀{l:List Nat}{n m:Nat},jK n l m->jK m l' k->jK n (l++l') k
 | [],_,_,h,q=>jK.low h q
 | i::l,n,m,h,q=>⟨h.1,jK.app (l:=l) h.2 q⟩
theorem jK.lt:∀{l:List Nat}{n m x:Nat},jK n l m->x∈l->n<=x/\x<m
 | [],_,_,_,_,hz=>absurd hz List.not_mem_nil
 | i::l,n,m,x,h,q=>by
  rcases List.mem_cons.mp q with e | e
  ·subst e;exact ⟨h.1,jK.le h.2⟩
  ·have:=jK.lt (l:=l) h.2 e
   have:=h.1
   lia
theorem tR{b:Nat}:∀{l:List (Wd×Nat)}{n m:Nat},Cw n l m=true->jK (b+n) (l.map λw=>b+w.2) (b+m)
 | [],n,m,h=>Nat.add_le_add_left (of_decide_eq_true h) _
 | q::l,n,m,h=>by
  unfold Cw at h
  rw [Bool.and_eq_true,decide_eq_true_iff] at h
  exact ⟨Nat.add_le_add_left h.1 _,tR (l:=l) h.2⟩
theorem qO:∀{l:List PF}{b:Nat},(∀q,q∈l->Ck q.1 q.2)->jK b (MZ b l) (b+dI (fT l))
 | [],b,_=>Nat.le_refl _
 | q::l,b,h=>by
  have e:b+dI (fT (q::l))=b+q.1.wb.length+dI (fT l):=by
   show b+((q.1::fT l).map λp=>p.wb.length).sum=_
   rw [List.map_cons,List.sum_cons,<-Nat.add_assoc];rfl
  rw [e]
  exact jK.app (tR (h q List.mem_cons_self).i) (qO (l:=l) λx hx=>h x (List.mem_cons_of_mem _ hx))
structure zJ (n:Nat) (L L':List Int) (m:Nat):Prop where
 e:L=[]->L'=[]
 f:L≠[]->∃ag,jK 0 ag n/\L'=ag.map (λi:Nat=>(7:Int)+(i:Nat))/\L'.length=m
theorem vY{U:Ul}{hd:Hd}{cA:List CR}{told:List Hd}{qs:List PF}{Rs:List SR}{Pl:List Nat}{K':List CV}(W:iX U hd cA told)(F:kD U cA told qs Rs Pl K'):zJ U.code.length U.L (dC U Rs Pl K').L cA.length:=by
 have ck:=λq hq=>(F.g q hq).ck
 refine ⟨λe=>by unfold dC;rw [e];rfl,λe=>⟨MZ 0 qs++[dI (fT qs),dI (fT qs)+1],?_,?_,?_⟩⟩
 ·have:=qO (b:=0) ck
  have l:U.code.length=dI (fT qs)+2:=by rw [F.c,List.length_append,ia];rfl
  rw [l]
  refine jK.app this ?_
  rw [Nat.zero_add]
  exact ⟨Nat.le_refl _,Nat.le_refl _,Nat.le_refl _⟩
 ·have l:U.code.length=dI (fT qs)+2:=by rw [F.c,List.length_append,ia];rfl
  have eL:=W.l.resolve_left e
  have lo:∀i,i<U.code.length->(U.L[i]?).getD 0=(7:Int)+(i:Nat):=λi hi=>by
   rw [eL,List.getElem?_map,List.getElem?_range hi];rfl
  have nE:U.L.isEmpty=false:=by cases h:U.L with
   | nil=>exact absurd h e
   | cons=>rfl
  show (if U.L.isEmpty then [] else Rs.map (·.l))=_
  rw [nE,F.r]
  show (vl _ 0 qs++_).map (·.l)=_
  rw [List.map_append,o7,List.map_append]
  have i1:=qO (b:=0) ck
  rw [List.map_congr_left (g:=λi:Nat=>(7:Int)+(i:Nat)) λi hi=>lo i (by have:=(jK.lt i1 hi).2;lia)]
  congr 1
  show [(U.L[dI (fT qs)]?).getD 0,(U.L[dI (fT qs)+1]?).getD 0]=_
  rw [lo _ (by lia),lo _ (by lia)];rfl
 ·have nE:U.L.isEmpty=false:=by cases h:U.L with
   | nil=>exact absurd h e
   | cons=>rfl
  show (if U.L.isEmpty then [] else Rs.map (·.l)).length=_
  rw [nE,<-F.d]
  show (Rs.map (·.l)).length=_
  rw [List.length_map,List.length_map]
theorem tT:∀{l:List Nat}{n m:Nat},jK n l m->b7 (l.map λi:Nat=>(7:Int)+(i:Nat))=l.map λi:Nat=>(7:Int)+(i:Nat)
 | [],_,_,_=>rfl
 | [i],_,_,_=>rfl
 | i::j::l,n,m,h=>by
  have t:=tT (l:=j::l) h.2
  show jM _ (b7 ((j::l).map λi:Nat=>(7:Int)+(i:Nat)))=_
  rw [t]
  show (if (7:Int)+(i:Nat)<=7+(j:Nat) then _ else _)=_
  rw [if_pos (by have:=h.2.1;lia)];rfl
theorem CB{α:Type}[BEq α][LawfulBEq α]:∀{l M:List α},l.Nodup->(∀x,x∈l->x∈M)->l.length<=M.length
 | [],_,_,_=>Nat.zero_le _
 | x::l,M,nd,s=>by
  obtain ⟨n1,n2⟩:=List.nodup_cons.mp nd
  have hx:=s x List.mem_cons_self
  have t:=CB (l:=l) (M:=M.erase x) n2 λy hy=>(List.mem_erase_of_ne (show y≠x from λe=>n1 (e▸hy))).mpr (s y (List.mem_cons_of_mem _ hy))
  rw [List.length_erase_of_mem hx] at t
  have:=List.length_pos_of_mem hx
  rw [List.length_cons];omega
theorem jE:∀(l:List CR)(K:List CV)(E:List CV),E.Nodup->(∀x,x∈E->x∉K)->∃E',bX (K++E) l=K++E'/\E'.Nodup/\(∀x,x∈E'->x∉K)
 | [],K,E,h1,h2=>⟨E,rfl,h1,h2⟩
 | r::l,K,E,h1,h2=>by
  show∃E',bX (match r.2 with | .c x=>dh (K++E) x | _=>K++E) l=_/\_
  cases e:r.2 with
  | c x=>
   dsimp only
   unfold dh
   by_cases q:x∈K++E
   ·rw [if_pos q];exact jE l K E h1 h2
   ·rw [if_neg q,List.append_assoc]
    rw [List.mem_append,not_or] at q
    refine jE l K (E++[x]) (List.nodup_append.mpr ⟨h1,List.nodup_cons.mpr ⟨List.not_mem_nil,List.nodup_nil⟩,λa ha b hb=>?_⟩) λy hy=>?_
    ·rw [List.mem_singleton.mp hb];exact λe=>q.2 (e▸ha)
    ·rcases List.mem_append.mp hy with g | g
     ·exact h2 y g
     ·rw [List.mem_singleton.mp g];exact q.1
  | _=>exact jE l K E h1 h2
theorem tU{U:Ul}{hd:Hd}{cA:List CR}{told:List Hd}(W:iX U hd cA told):U.K.length<=9:=by
 refine N6 (W.p) λps K0 i a f gH hl h0 hk ha hi ec ek _=>?_
 refine bJ (jE U.code K0 [] List.nodup_nil λx hx=>by cases hx) λE e1 e2 e3=>?_
 rw [List.append_nil] at e1
 rw [e1] at ek
 have s:E.length<=KS.length:=CB e2 λx hx=>W.ks x (by rw [ek];exact List.mem_append_right _ hx)
 rw [ek,List.length_append]
 have:KS.length=7:=rfl
 lia
theorem Run.cin{K A S l K' A' S' P}(x:Run K A S l K' A' S' P):(∀r,r∈A++S->oQ K r)->∀r,r∈A'++S'->oQ K' r:=by
 induction x with
 | nil=>exact id
 | @keep K A S b r rest K' A' S' P hs hc _ ih=>
  refine λh=>ih λy hy=>?_
  rw [<-List.append_assoc,jr] at hy
  rcases List.mem_append.mp hy with q | q
  ·exact h y q
  ·rw [List.mem_singleton.mp q];exact hc
 | @fold K A S b r rest K' A' S' P B T new aJ hs g hn e _ _ ih=>
  refine λh=>ih λy hy=>?_
  rw [<-List.append_assoc] at hy
  rcases List.mem_append.mp hy with q | q
  ·refine (g.row (h y ?_)).2
   rw [<-jr b A S,e,<-List.append_assoc]
   exact List.mem_append_left _ q
  ·exact hn y q
structure RW (r:CR):Prop where
 o:r.1∈cU
 k:jJ r.1=true->∃x,r.2=.c x
 n:jJ r.1=false->∀x,r.2≠ .c x
 b:∀k,r.2=.i k->k.natAbs<64
noncomputable def w6(m:Nat)(w:Wd):Bool:=cU.contains w.op&&match w.a with
 | .no=> !jJ w.op
 | .i k=> !jJ w.op&&decide (k.natAbs<64)
 | .c _=>jJ w.op
 | .t j=> !jJ w.op&&decide (j<m)
 | .e=> !jJ w.op
theorem I3:(cZ.all λp=>(p.wb.all λw=>w6 p.wb.length w.2)&&p.wa.all λw=>w6 p.wa.length w.2)=true:=by kernel_rfl
theorem FU{b m:Nat}{w:Wd}(h:w6 m w=true)(hb:b+m<64):RW (bj (b:Nat) (m:Nat) w):=by
 unfold w6 at h
 rw [Bool.and_eq_true] at h
 obtain ⟨h1,h2⟩:=h
 have h1:=List.contains_iff_mem.mp h1
 have no:∀{a:Ar},(!jJ w.op)=true->(∀x,a≠ .c x)->(∀k,a=.i k->k.natAbs<64)->RW (w.op,a):=λq e f=>
  ⟨h1,λt=>(by have t:jJ w.op=true:=t;rw [t] at q;cases q),λ_=>e,f⟩
 unfold bj
 cases e:w.a with
 | no=>rw [e] at h2;exact no h2 (λx q=>by cases q) λk q=>by cases q
 | i k=>
  rw [e] at h2
  dsimp only at h2
  rw [Bool.and_eq_true,decide_eq_true_iff] at h2
  exact no h2.1 (λx q=>by cases q) λk q=>by cases q;omega
 | c x=>rw [e] at h2;exact ⟨h1,λ_=>⟨x,rfl⟩,λt=>(by have t:jJ w.op=false:=t;have h2:jJ w.op=true:=h2;rw [t] at h2;cases h2),λk q=>(by cases q)⟩
 | t j=>
  rw [e] at h2
  dsimp only at h2
  rw [Bool.and_eq_true,decide_eq_true_iff] at h2
  exact no h2.1 (λx q=>by cases q) λk q=>by cases q;omega
 | e=>rw [e] at h2;exact no h2 (λx q=>by cases q) λk q=>by cases q;omega
def xY(l:List Pc):Nat:=(l.map λp=>p.wa.length).sum
theorem vZ{r:CR}:∀{l:List Pc}{b:Nat},r∈cQ b l->∃p c w,p∈l/\w∈p.wa/\r=bj (c:Nat) (p.wa.length:Nat) w.2/\c+p.wa.length<=b+xY l
 | [],_,hz=>absurd hz List.not_mem_nil
 | p::l,b,h=>by
  have e:xY (p::l)=p.wa.length+xY l:=by unfold xY;rw [List.map_cons,List.sum_cons]
  rcases List.mem_append.mp (show r∈dk b p.wa++cQ (b+p.wa.length) l from h) with h | h
  ·refine aO (List.mem_map.mp h) λw hw er=>?_
   exact ⟨p,b,w,List.mem_cons_self,hw,er.symm,by lia⟩
  ·refine kF (vZ h) λp' c w h1 h2 h3 h5=>?_
   exact ⟨p',c,w,List.mem_cons_of_mem _ h1,h2,h3,by lia⟩
theorem v3:∀(l:List Pc)(b:Nat),(cQ b l).length=xY l
 | [],_=>rfl
 | p::l,b=>by
  unfold cQ xY
  rw [List.length_append,dS,v3 l,List.map_cons,List.sum_cons];rfl
theorem CC:∀{l:List Pc},(∀p,p∈l->p∈cZ)->xY l<=7*l.length
 | [],_=>Nat.le_refl _
 | p::l,h=>by
  have a:=(qK (h p List.mem_cons_self)).2
  have b:=CC (l:=l) λx hx=>h x (List.mem_cons_of_mem _ hx)
  unfold xY at b⊢
  rw [List.map_cons,List.sum_cons,List.length_cons];lia
theorem FV{r:CR}(h:r∈E2):RW r:=by
 rcases List.mem_cons.mp h with e | e
 ·rw [e];exact ⟨by decide,λq=>(by cases q),λ_ x q=>(by cases q),λk q=>(by cases q)⟩
 ·rw [List.mem_singleton.mp e];exact ⟨by decide,λq=>(by cases q),λ_ x q=>(by cases q),λk q=>(by cases q)⟩
theorem iU{U:Ul}{hd:Hd}{cA:List CR}{told:List Hd}(W:iX U hd cA told):(∀r,r∈U.code->RW r)/\(∀r,r∈cA->RW r)/\cA.length<=37:=by
 refine oo (W.p) λps K0 i a f gH hl _ _ _ _ ec _ ed _=>?_
 rw [nB] at ec ed
 have ec:U.code=cR 0 ps++E2:=ec
 have ed:cA=cQ 0 ps++E2:=ed
 have t:=λp hp=>by
  have:=List.all_eq_true.mp I3 p (gH p hp)
  rw [Bool.and_eq_true,List.all_eq_true,List.all_eq_true] at this
  exact this
 have l1:=tM gH
 have l2:=CC gH
 refine ⟨λr hr=>?_,λr hr=>?_,?_⟩
 ·rw [ec] at hr
  rcases List.mem_append.mp hr with q | q
  ·refine lZ (vX q) λp c w h1 h2 h3 _ h4=>?_
   rw [h3];exact FU ((t p h1).1 w h2) (by lia)
  ·exact FV q
 ·rw [ed] at hr
  rcases List.mem_append.mp hr with q | q
  ·refine kF (vZ q) λp c w h1 h2 h3 h4=>?_
   rw [h3];exact FU ((t p h1).2 w h2) (by lia)
  ·exact FV q
 ·rw [ed,List.length_append,v3]
  have:E2.length=2:=rfl
  lia
theorem tV{U:Ul}{cA:List CR}{told:List Hd}{qs:List PF}{Rs:List SR}{Pl:List Nat}{K':List CV}(F:kD U cA told qs Rs Pl K'):∀r,r∈cA->mZ K' r:=λr hr x e=>by
 refine pz (F.f.run) λA S P R e1 _=>?_
 rw [<-F.d] at hr
 refine aO (List.mem_map.mp hr) λy hy ey=>?_
 subst ey
 rw [e1] at hy
 refine R.cin (λr h=>by cases h) y hy x ?_
 have e:nA Pl y=.c x:=e
 unfold nA at e
 split at e
 ·cases q:y.a with
  | i k=>rw [q] at e;cases e
  | _=>rw [q] at e;exact e
 ·exact e
end Mine
end
section
namespace Mine
open PySem PySem.PyData
section
variable{D M:UD}{U U':Ul}{hd:Hd}{cA:List CR}{told:List Hd}{d6 d7 d8:List PyData}
theorem v5{op:Int}(h:op∈cU):op.natAbs<128:=by
 have t:(cU.all λo=>decide (o.natAbs<128))=true:=by kernel_rfl
 exact of_decide_eq_true (List.all_eq_true.mp t op h)
theorem FW{K:List CV}{code:List CR}(h:∀r,r∈code->RW r)(hk:K.length<60)(hl:code.length<60):CG K code:=
 ⟨λr hr=>⟨v5 (h r hr).o,λk e=>Nat.lt_trans ((h r hr).b k e) (by decide)⟩,hk,hl⟩
theorem I4{K:List CV}{r:CR}(h:RW r)(c:mZ K r):MH K r:=⟨h.o,λq=>by
 obtain ⟨x,e⟩:=h.k q
 exact ⟨x,e,c x e⟩,h.n⟩
theorem v7(ah:CZ D U)(hu:U.us.length<128):∃d6 d7 d8,HG D U d6 d7 d8:=by
 refine bJ (ah.ps) λps a1 a2 _=>?_
 refine bJ (ah.cp) λcp b1 b2 _=>?_
 refine bJ (ah.pq) λpq c1 c2 _=>?_
 exact ⟨ps,cp,pq,a1,b1,c1,a2,b2,c2,ah.nm,ah.lc.1,ah.lc.2,ah.sl.1,ah.sl.2,hu⟩
theorem HG.same(h:HG D U d6 d7 d8)(s:gy D M)(e1:U'.ps=U.ps)(e2:U'.cp=U.cp)(e3:U'.pq=U.pq)(e4:U'.us.length=U.us.length):HG M U' d6 d7 d8:=by
 refine ⟨by rw [e1];exact h.ps,by rw [e2];exact h.cp,by rw [e3];exact h.pq,h.SI,h.SJ,h.SM,by rw [s.nm];exact h.nm,by rw [s.lc];exact h.lc,by rw [s.cc];exact h.cc,by rw [s.sl];exact h.sl,by rw [s.ap];exact h.ap,by rw [e4];exact h.us⟩
theorem I5{x:Nat×Nat}{l:List Pc}(h:x∈cS 0 l):x.1<=dI l/\x.2<=dI l:=by
 have a:=tK h
 have b:=qN.span h
 omega
theorem I6(W:iX U hd cA told):MG hd:=by
 refine oo (W.p) λps K0 i a f gH hl _ _ ha _ _ _ _ Q4=>?_
 obtain ⟨x,y,hx,_,eh,_⟩:=Q4
 rw [nB] at hx eh
 have hx:(cS 0 ps)[i]?=some x:=hx
 have eh:hd=⟨(x.1:Nat),(x.2:Nat),((cR 0 ps).length:Nat),a,f⟩:=eh
 rw [ia] at eh
 have xl:=I5 (List.mem_of_getElem? hx)
 have l1:=tM gH
 subst eh
 exact ⟨by show ((x.1:Nat):Int).natAbs<128;omega,by show ((x.2:Nat):Int).natAbs<128;omega,by show ((dI ps:Nat):Int).natAbs<128;omega,ha⟩
theorem v8(W:iX U hd cA told):CG U.K U.code:=
 FW (iU W).1 (Nat.lt_of_le_of_lt (tU W) (by decide)) (Nat.lt_of_le_of_lt (dT W).2.2 (by decide))
theorem I7(W:iX U hd cA told)(h:HG D U d6 d7 d8):WG D U d6 d7 d8:=by
 refine ⟨h,v8 W,W.kc,W.ks,?_,λx hx=>?_,?_⟩
 ·have l:=(dT W).2.2
  rcases W.l with e | e
  ·rw [e];exact ⟨λx hx=>(by cases hx),by decide⟩
  ·rw [e]
   refine ⟨λx hx=>?_,by rw [List.length_map,List.length_range];omega⟩
   refine aO (List.mem_map.mp hx) λi hi ei=>?_
   have:=List.mem_range.mp hi
   omega
 ·rw [W.hs,List.mem_singleton] at hx
  rw [hx];exact I6 W
 ·rw [W.hs];exact (show 1<10 by decide)
end
end Mine
end
section
namespace Mine
open PySem
section
variable{d:Nat}{Z ao aF:St}{u i k j:Nat}{D Di M N:UD}{U U' V':Ul}
theorem g9{a b:Nat}{l:List V}(h:At Z a (.lst l))(g:At Z b D.o):a≠b:=λe=>by
 subst e
 have t:=h.e.symm.trans g.e
 unfold UD.o at t
 cases t
theorem UA.M0{o:af}(a:UA Z j N U)(g:At Z k D.o)(e:j≠k):UA (Z.put k o) j N U:=
 a.pu ⟨e,g9 a.pa g,g9 a.co g,g9 a.cn g,g9 a.un g,g9 a.ha g,g9 a.li g,g9 a.ca g,g9 a.pp g⟩
theorem CE{ch:Str}(hc:vR ch)(t:run (d+2) ch [.ref u] Z=some (.ref k,ao))(m:Made Z D ao k M U')(e:U'.us=[.ref i])(t':run (d+1) ch [.ref i] ao=some (.ref j,aF))(m':Made ao Di aF j N V')(e':V'.us=[]):
  ∃J n1 n2,run (d+3) "for_all" [.ref u,.bo ch] Z=some (.ref k,J)/\Made Z D J k {M with un:=n1} {U' with us:=[.ref j]}/\UA J j {N with un:=n2} {V' with us:=[]}/\ao.n<=n1/\ao.n<=n2:=by
 refine aO (lC hc t' m' e') λaT s1 m3=>?_
 refine bJ (D3 hc t m e s1 m3.x) λwM s2 m4 e4=>?_
 refine ⟨wM,aT.n,aF.n,s2,m4,?_,m3.x.n,m'.x.n⟩
 subst e4
 exact (m3.a.x (aQ _ _)).M0 ((m.a.u.x m3.x).al _) (Nat.ne_of_gt (Nat.lt_of_lt_of_le m.a.u.lt m'.n.1))
end
section
variable{e:Nat}{Z:St}{u ui:Nat}{D Di:UD}{U Ui:Ul}{hd hi:Hd}{cA di:List CR}{told ti:List Hd}
structure PU (Z:St) (D Di:UD) (U' V':Ul) (J:St) (k j:Nat) (M N:UD):Prop where
 m:Made Z D J k M {U' with us:=[.ref j]}
 a:UA J j N {V' with us:=[]}
 h:gy Di N
 s:Z.n<=j
theorem ir(a:UA Z u D U)(ai:UA Z ui Di Ui)(W:iX U hd cA told)(Wi:iX Ui hi di ti)(eu:U.us=[.ref ui])(ei:Ui.us=[]):
  ∃J k j M N,run (e+17) "thread_unit" [.ref u] Z=some (.ref k,J)/\PU Z D Di (NC U) (NC Ui) J k j M N:=by
 have c1:=dT W
 have c2:=dT Wi
 refine rp (gr (d:=e+11) a (by lia) c1.1) λao k M t m=>?_
 refine rp (gr (d:=e+10) (ai.x m.x) (by lia) c2.1) λaF j N t' m'=>?_
 refine lZ (CE (d:=e+13) (.inr (.inl rfl)) t m eu t' m' ei) λJ n1 n2 s m3 a3 l1 l2=>?_
 exact ⟨J,k,j,_,_,gF [eC s] (by kernel_rfl),m3,a3,⟨m'.h.nm,m'.h.lc,m'.h.cc,m'.h.st,m'.h.ua,m'.h.sl,m'.h.ap⟩,Nat.le_trans m.x.n m'.n.1⟩
theorem jF(a:UA Z u D U)(ai:UA Z ui Di Ui)(W:iX U hd cA told)(Wi:iX Ui hi di ti)(eu:U.us=[.ref ui])(ei:Ui.us=[]):
  ∃J k j M N,run (e+17) "clean_unit" [.ref u] Z=some (.ref k,J)/\PU Z D Di U Ui J k j M N:=by
 refine rp (g8 (d:=e+10) a (dT W).2.1) λao k M t m=>?_
 refine rp (g8 (d:=e+9) (ai.x m.x) (dT Wi).2.1) λaF j N t' m'=>?_
 refine lZ (CE (d:=e+13) (.inr (.inr rfl)) t m eu t' m' ei) λJ n1 n2 s m3 a3 l1 l2=>?_
 exact ⟨J,k,j,_,_,gF [eC s] (by kernel_rfl),m3,a3,⟨m'.h.nm,m'.h.lc,m'.h.cc,m'.h.st,m'.h.ua,m'.h.sl,m'.h.ap⟩,Nat.le_trans m.x.n m'.n.1⟩
theorem tX(a:UA Z u D U)(ai:UA Z ui Di Ui)(W:iX U hd cA told)(Wi:iX Ui hi di ti)(eu:U.us=[.ref ui])(ei:Ui.us=[]):
  ∃J k j M N qs Rs Pl K' NU M4 M5 Fq,run (e+17) "fold_unit" [.ref u] Z=some (.ref k,J)/\PU Z D Di (dC U Rs Pl K') (dC Ui M4 M5 Fq) J k j M N/\kD U cA told qs Rs Pl K'/\kD Ui di ti NU M4 M5 Fq/\
   ∀b,b=M.pa\/b=M.ca->Fr j N b/\M.un≠b:=by
 refine J9 (tP W (Nat.lt_of_le_of_lt (tU W) (by decide))) λqs Rs Pl K' F=>?_
 refine J9 (tP Wi (Nat.lt_of_le_of_lt (tU Wi) (by decide))) λNU M4 M5 Fq F'=>?_
 refine kF (iM (d:=e+1) a F.f) λao k M t m _ _=>?_
 refine kF (iM (d:=e) (ai.x m.x) F'.f) λaF j N t' m' _ _=>?_
 refine lZ (CE (d:=e+13) (.inl rfl) t m eu t' m' ei) λJ n1 n2 s m3 a3 l1 l2=>?_
 refine ⟨J,k,j,_,_,qs,Rs,Pl,K',NU,M4,M5,Fq,gF [eC s] (by kernel_rfl),⟨m3,a3,⟨m'.h.nm,m'.h.lc,m'.h.cc,m'.h.st,m'.h.ua,m'.h.sl,m'.h.ap⟩,Nat.le_trans m.x.n m'.n.1⟩,F,F',λb hb=>?_⟩
 have lt:b<ao.n:=by
  rcases hb with rfl | rfl
  ·exact m.a.pa.lt
  ·exact m.a.ca.lt
 have g:∀{x},ao.n<=x->x≠b:=λh=>Nat.ne_of_gt (Nat.lt_of_lt_of_le lt h)
 have f:=m'.n
 have h:=m'.g
 exact ⟨⟨g f.1,g f.2.1,g h.1,g h.2.1,g l2,g h.2.2.2.1,g h.2.2.2.2.1,g f.2.2,g h.2.2.2.2.2⟩,g l1⟩
end
end Mine
end
section
namespace Mine
open PySem PySem.PyData
def Q5:Ar->PyData
 | .no=>.none
 | .i k=>.int k
 | .c x=>Fw x
def Q6(r:CR):PyData:=.tuple [.int r.1,Q5 r.2]
theorem xZ(Z:St)(n:Nat)(r:CR):bw Z (n+1) (vr r)=some (Q6 r):=by
 show (de (bw Z n) [.int r.1,r.2.val]).map PyData.tuple=_
 rw [aP (cC Z n r.1) (aP (y:=Q5 r.2) (by cases r.2<;>first | exact lG _ _ _ | (induction n using Nat.casesOn<;>rfl)) rfl)];rfl
def Q7:CV->Bool
 | .n i=>decide (i.natAbs<10^24)
 | .s x=>strOk x&&decide (x.length<=10)
theorem I8{x:CV}(h:Q7 x=true):Gd (Fw x) 80:=by
 induction x using CV.casesOn with
 | n i=>exact Gd.int (of_decide_eq_true h)
 | s x=>
  have h:(strOk x&&decide (x.length<=10))=true:=h
  rw [Bool.and_eq_true,decide_eq_true_iff] at h
  exact (Gd.str h.1).up (Nat.le_trans h.2 (by decide))
def w5(w:Wd):Bool:=match w.a with
 | .c x=>Q7 x
 | _=>true
theorem I9:(cZ.all λp=>p.wa.all λw=>w5 w.2)=true:=by kernel_rfl
section
variable{U:Ul}{hd:Hd}{cA:List CR}{told:List Hd}
theorem Ja(W:iX U hd cA told){r:CR}(hr:r∈cA){x:CV}(e:r.2=.c x):Q7 x=true:=by
 refine oo (W.p) λps K0 i a f gH hl _ _ _ _ _ _ ed _=>?_
 rw [nB] at ed
 have ed:cA=cQ 0 ps++E2:=ed
 rw [ed] at hr
 rcases List.mem_append.mp hr with q | q
 ·refine kF (vZ q) λp c w h1 h2 h3 h4=>?_
  have t:=List.all_eq_true.mp (List.all_eq_true.mp I9 p (gH p h1)) w h2
  rw [h3] at e
  unfold bj at e
  unfold w5 at t
  cases ea:w.2.a with
  | c y=>rw [ea] at e t;cases e;exact t
  | _=>rw [ea] at e;cases e
 ·rcases List.mem_cons.mp q with g | g
  ·rw [g] at e;cases e
  ·rw [List.mem_singleton.mp g] at e;cases e
theorem Jb(W:iX U hd cA told){r:CR}(hr:r∈cA):Gd (Q6 r) 100:=by
 have w:=(iU W).2.1 r hr
 have g:Gd (Q5 r.2) 80:=by
  cases e:r.2 with
  | no=>exact Gd.none.up (Nat.zero_le _)
  | i k=>exact (Gd.gB (Nat.lt_trans (w.b k e) (by decide))).up (by decide)
  | c x=>exact I8 (Ja W hr e)
 exact (Gd.tuple (.cons (Gd.gB (v5 w.o)) (.cons g d5.nil))).up (by decide)
theorem EC(W:iX U hd cA told):(∀h,h∈told->MG h)/\told.length<=1:=by
 refine oo (W.p) λps K0 i a f gH hl _ _ ha _ _ _ _ Q8=>?_
 obtain ⟨x,y,_,hy,_,et⟩:=Q8
 rw [nB] at hy et
 have hy:(cN 0 ps)[i]?=some y:=hy
 have et:told=if y.1<y.2 then [⟨(y.1:Nat),(y.2:Nat),((cQ 0 ps).length:Nat),a,f⟩] else []:=et
 have l2:=CC gH
 have Wf:∀{l:List Pc}{b:Nat},y∈cN b l->y.1<=b+xY l/\y.2<=b+xY l:=by
  intro l
  induction l with
  | nil=>intro b h;cases h
  | cons p l ih=>
   intro b h
   have e:xY (p::l)=p.wa.length+xY l:=by unfold xY;rw [List.map_cons,List.sum_cons]
   rcases List.mem_cons.mp (show y∈(b,b+p.wa.length)::cN (b+p.wa.length) l from h) with q | q
   ·rw [q];dsimp only;lia
   ·have:=ih q;lia
 have yl:=Wf (List.mem_of_getElem? hy)
 rw [et,v3]
 split
 ·refine ⟨λh hh=>?_,Nat.le_refl _⟩
  rw [List.mem_singleton.mp hh]
  exact ⟨by show ((y.1:Nat):Int).natAbs<128;lia,by show ((y.2:Nat):Int).natAbs<128;lia,by show ((xY ps:Nat):Int).natAbs<128;lia,ha⟩
 ·exact ⟨λh hh=>(by cases hh),Nat.zero_le _⟩
end
section
variable{e:Nat}{Z ao:St}{u k j ui q tl:Nat}{D Di M N:UD}{U Ui U' V':Ul}{hd hi:Hd}{cA di:List CR}{told ti:List Hd}{s:Str}{qs:List PF}{Rs:List SR}{Pl:List Nat}{K':List CV}
theorem Jc(W:iX U hd cA told){a b:Nat}(h:At Z a (.lst (cA.map vr)))(G:At Z b (.lst (cA.map vr))):bf Z .NotEq (.ref a) (.ref b)=some false:=
 ((Gd.list (d5.map (f:=Q6) (l:=cA) λr hr=>Jb W hr)).eq (bI h λr _=>xZ Z 4 r) (bI G λr _=>xZ Z 4 r)).2
theorem ED(W:iX U hd cA told){a b:Nat}(h:At Z a (.lst (told.map Hd.v)))(G:At Z b (.lst (told.map Hd.v))):bf Z .NotEq (.ref a) (.ref b)=some false:=
 ((Gd.list (d5.map (f:=MF) (l:=told) λr hr=>((EC W).1 r hr).gd)).eq (bI h λr _=>qF Z 4 r) (bI G λr _=>qF Z 4 r)).2
theorem Jd{K:List CV}(hK:∀x,x∈K->x∈KS){a b:Nat}(h:At Z a (.lst (K.map CV.v)))(G:At Z b (.lst (K.map CV.v))):bf Z .NotEq (.ref a) (.ref b)=some false:=
 ((Gd.list (d5.map (f:=Fw) (l:=K) λx hx=>FA.of x (hK x hx))).eq (bI h λr _=>lG Z 5 r) (bI G λr _=>lG Z 5 r)).2
theorem EE{α:Type}(A B:List α):dU (A++B) none (some (A.length:Nat))=some A:=by
 unfold dU
 show (if (0:Int)<=0/\(0:Int)<=(A.length:Nat) then _ else _)=_
 rw [if_pos ⟨Int.le_refl _,Int.natCast_nonneg _⟩]
 show some (((A++B).take A.length).drop 0)=_
 rw [List.take_left];rfl
noncomputable def M6(u q tl:Nat)(s:Str)(k:Nat):Ms:=mk "_law_passes_right" [("unit",.ref u),("due",.ref q),("told",.ref tl),("ahead",.str s),("made",.ref k)]
theorem Q9(W:iX U hd cA told)(a:UA Z u D U)(m:UA Z k M {dC U Rs Pl K' with us:=[.ref j]})(F:kD U cA told qs Rs Pl K')(hq:At Z q (.lst (cA.map vr)))(ht:At Z tl (.lst (told.map Hd.v))):
  cI gL (cL (e+17)) 40 (dz "_law_passes_right" 2) (M6 u q tl s k) Z=some (.next,M6 u q tl s k,(Z.alloc (.lst (cA.map vr))).alloc (.lst (U.K.map CV.v))):=by
 have ed:(dC U Rs Pl K').code=cA:=F.d
 refine aO (F.k) λE eK lE=>?_
 have kk:=tU W
 have v:=Cc (d:=e+16) m (λr hr=>I4 ((iU W).2.1 r (by rw [<-ed];exact hr)) (tV F r (by rw [<-ed];exact hr))) (show K'.length<4000 by rw [eK,List.length_append];lia) (show (dC U Rs Pl K').code.length<4000 by rw [ed];have:=(iU W).2.2;lia)
 have v:run (e+17) "_law_valued" [.ref k] Z=some (.ref Z.n,Z.alloc (.lst (cA.map vr))):=by
  have v':run (e+17) "_law_valued" [.ref k] Z=some (.ref Z.n,Z.alloc (.lst ((dC U Rs Pl K').code.map vr))):=v
  rw [ed] at v';exact v'
 have m1:=m.x (aQ Z (.lst (cA.map vr)))
 have a1:=a.x (aQ Z (.lst (cA.map vr)))
 have b1:=Jc W (ay Z (.lst (cA.map vr))) (hq.al _)
 have hm:At (Z.alloc (.lst (cA.map vr))) M.ha (.lst (told.map Hd.v)):=by have:=m1.ha;rw [<-F.t];exact this
 have b2:=ED W hm (ht.al _)
 have cn:At (Z.alloc (.lst (cA.map vr))) M.cn (.lst (U.K.map CV.v++E.map CV.v)):=by have:=m1.cn;rw [<-List.map_append,<-eK];exact this
 have b3:=Jd W.ks (ay (Z.alloc (.lst (cA.map vr))) (.lst (U.K.map CV.v))) (a1.cn.al _)
 exact gY [eC v,eB b1,eO m1.u,eB b2,eO m1.u,eO a1.u,eO a1.cn,eO cn,eL (EE (U.K.map CV.v) (E.map CV.v)),eO (a1.u.al (.lst (U.K.map CV.v))),eB b3] (by kernel_rfl)
end
section
variable{turn:V->Ms->St->Option (Fl×Ms×St)}{a b c:V}{m m1 m2 m3:Ms}{Z kQ dA zG:St}
theorem v9{src:Src}{n i:Nat}{v:V}{r:Fl×Ms×St}(h:src.at Z i=some (some v))(t:turn v m Z=some (.next,m1,kQ))(G:cK src turn n (i+1) m1 kQ=some r):cK src turn (n+1) i m Z=some r:=(qh h t).trans G
theorem EF{src:Src}{n i:Nat}(h:src.at Z i=some Option.none):cK src turn (n+1) i m Z=some (.next,m,Z):=mT h
theorem FX(t1:turn a m Z=some (.next,m1,kQ))(t2:turn b m1 kQ=some (.next,m2,dA))(t3:turn c m2 dA=some (.next,m3,zG)):cK (.items [a,b,c]) turn aM 0 m Z=some (.next,m3,zG):=
 v9 (n:=4095) rfl t1 (v9 (n:=4094) rfl t2 (v9 (n:=4093) rfl t3 (EF (n:=4092) rfl)))
end
section
variable{Z:St}{k:Nat}
theorem ints_of(L:List Int):intsOf (L.map V.int)=some L:=by
 induction L with
 | nil=>rfl
 | cons x L ih=>exact congrArg (λz=>bC z λr=>some (x::r)) ih
theorem CH{L:List Int}(h:At Z k (.lst (L.map V.int)))(hs:b7 L=L)(hl:L.length<64):pd Z [.ref k]=some (.ref Z.n,Z.alloc (.lst (L.map V.int))):=by
 show oL (Z.f k) (λl=>bC (intsOf l) λns=>if l.length<64 then some (V.ref Z.n,Z.alloc (.lst ((b7 ns).map V.int))) else .none)=_
 rw [h.e]
 show bC (intsOf (L.map V.int)) (λns=>if (L.map V.int).length<64 then some (V.ref Z.n,Z.alloc (.lst ((b7 ns).map V.int))) else .none)=_
 rw [ints_of]
 show (if (L.map V.int).length<64 then some (V.ref Z.n,Z.alloc (.lst ((b7 L).map V.int))) else .none)=_
 rw [List.length_map,if_pos hl,hs]
theorem yb{x:Int}:∀{L:List Int},x∈L->((L.map PyData.int).any λy=>y.eqv (.int x))=true
 | [],hz=>absurd hz List.not_mem_nil
 | y::L,h=>by
  rw [List.map_cons,List.any_cons]
  rcases List.mem_cons.mp h with e | e
  ·subst e
   rw [show PyData.eqv (.int x) (.int x)=true from by show (x==x)=true;exact beq_self_eq_true x];rfl
  ·rw [yb (L:=L) e,Bool.or_true]
theorem EG{L:List Int}{x:Int}(h:At Z k (.lst (L.map V.int)))(hx:x∈L):bf Z .NotIn (.int x) (.ref k)=some false:=by
 show (qR Z (.int x) (.ref k)).map (!·)=_
 have e:qR Z (.int x) (.ref k)=inD Z (.int x) (.ref k):=by
  unfold qR
  dsimp only
  rw [h.e]
 have e2:inD Z (.int x) (.ref k)=Ji (L.map λy=>PyData.int y) (.int x):=by
  unfold inD
  rw [bI (n:=5) (h:=λy=>PyData.int y) h (λy _=>rfl)];rfl
 rw [e,e2]
 unfold Ji
 rw [iL L,show (PyData.int x).canLay0=true from rfl,yb hx];rfl
end
end Mine
end
section
namespace Mine
open PySem
abbrev M7:Expr:=sub (sub (dQ ((gj (dz "_law_passes_right" 3)).getD 1 (.Pass default))) 0) 0
noncomputable def tY(u q tl:Nat)(s:Str)(k o:Nat):Ms:=mk "_law_passes_right" [("unit",.ref u),("due",.ref q),("told",.ref tl),("ahead",.str s),("made",.ref k),("other",.ref o)]
section
variable{d:Nat}{Z:St}{u k o q tl:Nat}{D M:UD}{U U':Ul}{s:Str}
theorem EH(a:UA Z u D U)(b:UA Z o M U')(h:∀x,x∈U'.L->x∈U.L)(hl:U'.L.length<4000):i8 gL (cL d) 36 M7 (tY u q tl s k o) Z=some (.val (.ref Z.n),Z.alloc (.lst [])):=by
 have L:∃acc J,cu (.lst M.li) (compTurn (i8 gL (cL d) 35) (ki gL (cL d) 35) (qo M7) (vM M7) (vL M7) (cX (gm M7) (tY u q tl s k o))) aM 0 [] Z=some (acc,J)/\(J=Z/\acc=[]):=
  jo (g:=V.int) (L:=U'.L) (λpre acc J=>J=Z/\acc=[]) (λpre acc J i=>by rw [i.1];exact b.li.e) (λpre x rest acc J e i=>by
   obtain ⟨i1,i2⟩:=i
   subst i1;subst i2
   have hx:=h x (by rw [e];exact List.mem_append_right _ List.mem_cons_self)
   exact ⟨none,J,gC [eO a.u,eB (EG a.li hx)] (by kernel_rfl),rfl,rfl⟩) (Nat.lt_trans hl (by decide)) ⟨rfl,rfl⟩
 refine lY (L) λacc J l e1 e2=>?_
 subst e1;subst e2
 exact lB (by kernel_rfl) (show aG _=some (Src.lst M.li,J) from congrArg aG (gX (v:=.val (.ref M.li)) [eO b.u] (by kernel_rfl))) (by kernel_rfl) l
end
end Mine
end
section
namespace Mine
open PySem PySem.PyData
theorem jG{s:Str}(h:strOk s=true)(Z:St):bf Z .Eq (.str s) (.str s)=some true/\bf Z .NotEq (.str s) (.str s)=some false:=(Gd.str h).eq (Z:=Z) rfl rfl
theorem yc{L:List Int}(hL:∀x,x∈L->x.natAbs<128){Z:St}{a b:Nat}(h:At Z a (.lst (L.map V.int)))(G:At Z b (.lst (L.map V.int))):bf Z .NotEq (.ref a) (.ref b)=some false:=
 ((Gd.list (d5.map (f:=PyData.int) (l:=L) λx hx=>Gd.gB (hL x hx))).eq (bI h λr _=>cC Z 5 r) (bI G λr _=>cC Z 5 r)).2
theorem CJ{L:List Int}{Z:St}{a b:Nat}(h:At Z a (.lst (L.map V.int)))(G:At Z b (.lst [])):bf Z .NotEq (.ref a) (.ref b)=some (!L.isEmpty):=ne_nil h G
structure ik (b c:Nat) (Z J:St):Prop where
 n:Z.n<=J.n
 f:∀x,x<Z.n->x≠b->x≠c->J.f x=Z.f x
section
variable{e:Nat}{Z:St}{u k o q tl:Nat}{D M:UD}{U U':Ul}{s:Str}{d6 d7 d8:List PyData}
theorem o8{Z:St}{a b:Int}(h:a=b):bf Z .NotEq (.int a) (.int b)=some false:=by
 subst h
 exact ((Gd.gB (i:=0) (by decide)).eq (Z:=Z) (v:=.int 0) (w:=.int 0) rfl rfl).2 |>λ_=>by
  show (zL Z (.int a) (.int a)).map (!·)=_
  unfold zL
  show (some (PyData.eqv (.int a) (.int a))).map (!·)=_
  rw [show PyData.eqv (.int a) (.int a)=true from by show (a==a)=true;exact beq_self_eq_true a];rfl
theorem qP(a:UA Z u D U)(b:UA Z o M U')(h1:HG M U' d6 d7 d8)(h2:HG D U d6 d7 d8)(sh:gy D M)(eu:U'.us.length=U.us.length)(ln:zJ U.code.length U.L U'.L U'.code.length)(lU:U.L=[]\/U.L=(List.range U.code.length).map λi:Nat=>(7:Int)+(i:Nat))(lc:U.code.length<=37)
  (lp:U'.ps.length+1<aq/\U'.cp.length<aq) {m:Ms} (hm:m=M6 u q tl s k\/∃o',m=tY u q tl s k o'):
  ∃J,tn "_law_passes_right" 3 (e+17) 39 (.ref o) m Z=some (.next,tY u q tl s k o,J)/\ik M.pa M.ca Z J:=by
 have EI:=nq (d:=e+16) b h1
 have C:=j9 Z M U'.us.length
 have CK:=nq (d:=e+16) (a.x C) h2
 have x2:=j9 (hS Z M U'.us.length) D U.us.length
 generalize hS (hS Z M U'.us.length) D U.us.length=dA at CK x2
 generalize hS Z M U'.us.length=kQ at EI C CK x2
 rw [sh.head,eu] at EI
 have q1:=(jG (eH _ h2.gd.lay) dA).2
 have a2:=a.x (C.trans x2)
 have b2:=b.x (C.trans x2)
 have a3:=a2.x (aQ dA (.lst []))
 have b3:=b2.x (aQ dA (.lst []))
 have q2:=CJ a3.li (ay dA (.lst []))
 have Ra:∀x,x∈U'.L->x∈U.L:=λx hx=>by
  rcases lU with g | g
  ·rw [ln.e g] at hx;cases hx
  ·by_cases n:U.L=[]
   ·rw [ln.e n] at hx;cases hx
   ·refine bJ (ln.f n) λag i1 i2 i3=>?_
    rw [i2] at hx
    refine aO (List.mem_map.mp hx) λi hi ei=>?_
    rw [g];exact List.mem_map.mpr ⟨i,List.mem_range.mpr (jK.lt i1 hi).2,ei⟩
 have M8:b7 U'.L=U'.L/\U'.L.length<=37/\∀x,x∈U'.L->x.natAbs<128:=by
  by_cases n:U.L=[]
  ·rw [ln.e n];exact ⟨rfl,Nat.zero_le _,λx hx=>by cases hx⟩
  ·refine bJ (ln.f n) λag i1 i2 i3=>?_
   have il:∀{l:List Nat}{n m:Nat},jK n l m->n+l.length<=m:=λ{l}=>by
    induction l with
    | nil=>exact λh=>h
    | cons i l ih=>exact λh=>by have:=ih h.2;have:=h.1;rw [List.length_cons];lia
   have i4:=il i1
   refine ⟨by rw [i2];exact tT i1,by rw [i2,List.length_map];lia,λx hx=>?_⟩
   rw [i2] at hx
   refine aO (List.mem_map.mp hx) λi hi ei=>?_
   have:=(jK.lt i1 hi).2
   lia
 refine ja (M8) λWg Ox Nl=>?_
 have cx:=EH (d:=e+17) (q:=q) (tl:=tl) (s:=s) (k:=k) a3 b3 Ra (by lia)
 have x3:=((aQ dA (.lst [])).al (.lst [])).al (.lst [])
 have b5:=b2.x x3
 have q5:=yc (L:=[]) (λx hx=>by cases hx) (Z:=((dA.alloc (.lst [])).alloc (.lst [])).alloc (.lst [])) ((ay (dA.alloc (.lst [])) (.lst [])).al _) (ay ((dA.alloc (.lst [])).alloc (.lst [])) (.lst []))
 have so:=CH b5.li Wg (by lia)
 have b6:=b5.x (aQ (((dA.alloc (.lst [])).alloc (.lst [])).alloc (.lst [])) (.lst (U'.L.map V.int)))
 have q6:=yc Nl b6.li (ay (((dA.alloc (.lst [])).alloc (.lst [])).alloc (.lst [])) (.lst (U'.L.map V.int)))
 have u7:=b6.u.put (o':=.lst (U'.ps++[.str "z"])) b.ne.1.symm
 obtain ⟨l',c7,l7⟩:∃l',At (((((dA.alloc (.lst [])).alloc (.lst [])).alloc (.lst [])).alloc (.lst (U'.L.map V.int))).put M.pa (.lst (U'.ps++[.str "z"]))) M.ca (.lst l')/\l'.length<aq:=by
  by_cases c:M.ca=M.pa
  ·rw [c];exact ⟨_,At.self b6.pa.lt _,by rw [List.length_append];exact lp.1⟩
  ·exact ⟨_,b6.ca.put c,lp.2⟩
 have xx:ik M.pa M.ca Z ((((((dA.alloc (.lst [])).alloc (.lst [])).alloc (.lst [])).alloc (.lst (U'.L.map V.int))).put M.pa (.lst (U'.ps++[.str "z"]))).put M.ca (.lst (l'++[.tup [.bool true,.int 5]]))):=by
  have x:=(C.trans x2).trans (x3.al (.lst (U'.L.map V.int)))
  exact ⟨x.n,λy h n1 n2=>(if_neg n2).trans ((if_neg n1).trans (x.f y h))⟩
 refine ⟨_,?_,xx⟩
 by_cases n:U.L=[]
 ·have n':=ln.e n
  have q2:bf (dA.alloc (.lst [])) .NotEq (.ref D.li) (.ref dA.n)=some false:=by rw [q2,n];rfl
  have q3:bf (dA.alloc (.lst [])) .NotEq (.int ((U'.L.map V.int).length:Nat)) (.int 0)=some false:=o8 (by rw [n'];rfl)
  rcases hm with rfl | ⟨o',rfl⟩
  ·exact gT [eC EI,eC CK,eB q1,eO b2.u,eO b2.li,eO a2.u,eP (p:=0<=aq) (by decide),eB q2,eB q3,eX cx,eP (p:=0<=aq) (by decide),eB q5,eO b5.u,eO b5.u,eR so,eB q6,eO b6.u,eO b6.pa,eO b6.pa,eP (p:=U'.ps.length<aq) (by lia),eO u7,eO c7,eO c7,eP l7] (by kernel_rfl)
  ·exact gT [eC EI,eC CK,eB q1,eO b2.u,eO b2.li,eO a2.u,eP (p:=0<=aq) (by decide),eB q2,eB q3,eX cx,eP (p:=0<=aq) (by decide),eB q5,eO b5.u,eO b5.u,eR so,eB q6,eO b6.u,eO b6.pa,eO b6.pa,eP (p:=U'.ps.length<aq) (by lia),eO u7,eO c7,eO c7,eP l7] (by kernel_rfl)
 ·have nE:U.L.isEmpty=false:=by cases h:U.L with
   | nil=>exact absurd h n
   | cons=>rfl
  have q2:bf (dA.alloc (.lst [])) .NotEq (.ref D.li) (.ref dA.n)=some true:=by rw [q2,nE];rfl
  refine bJ (ln.f n) λag i1 i2 i3=>?_
  have q3:bf (dA.alloc (.lst [])) .NotEq (.int ((U'.L.map V.int).length:Nat)) (.int ((U'.code.map (rv U'.K)).length:Nat))=some false:=o8 (by rw [List.length_map,List.length_map,i3])
  rcases hm with rfl | ⟨o',rfl⟩
  ·exact gT [eC EI,eC CK,eB q1,eO b2.u,eO b2.li,eO a2.u,eP (p:=0<=aq) (by decide),eB q2,eO b3.u,eO b3.co,eB q3,eX cx,eP (p:=0<=aq) (by decide),eB q5,eO b5.u,eO b5.u,eR so,eB q6,eO b6.u,eO b6.pa,eO b6.pa,eP (p:=U'.ps.length<aq) (by lia),eO u7,eO c7,eO c7,eP l7] (by kernel_rfl)
  ·exact gT [eC EI,eC CK,eB q1,eO b2.u,eO b2.li,eO a2.u,eP (p:=0<=aq) (by decide),eB q2,eO b3.u,eO b3.co,eB q3,eX cx,eP (p:=0<=aq) (by decide),eB q5,eO b5.u,eO b5.u,eR so,eB q6,eO b6.u,eO b6.pa,eO b6.pa,eP (p:=U'.ps.length<aq) (by lia),eO u7,eO c7,eO c7,eP l7] (by kernel_rfl)
end
theorem yd:∀{l:List PyData}{n:Nat},d5 l n->l.length<=n:=by
 have w:∀l:List PyData,l.length<=weightAll l:=by
  intro l
  induction l with
  | nil=>exact Nat.zero_le _
  | cons d l ih=>show l.length+1<=d.weight+1+weightAll l;lia
 intro l n g
 exact Nat.le_trans (w l) g.w
theorem o9:∀(n a:Nat),jK a (List.range' a n) (a+n)
 | 0,a=>Nat.le_refl _
 | n+1,a=>⟨Nat.le_refl _,by have:=o9 n (a+1);rw [Nat.add_right_comm] at this;exact this⟩
theorem M9{L:List Int}{n:Nat}(h:L=[]\/L=(List.range n).map λi:Nat=>(7:Int)+(i:Nat)):zJ n L L n:=by
 refine ⟨id,λe=>⟨List.range n,?_,h.resolve_left e,?_⟩⟩
 ·have:=o9 n 0
  rw [<-List.range_eq_range',Nat.zero_add] at this;exact this
 ·rw [h.resolve_left e,List.length_map,List.length_range]
section
variable{Z J:St}{u k b c:Nat}{D M:UD}{U U':Ul}{o:af}
theorem At.xp(h:At Z k o)(x:ik b c Z J)(n1:k≠b)(n2:k≠c):At J k o:=⟨(x.f k h.lt n1 n2).trans h.e,Nat.lt_of_lt_of_le h.lt x.n⟩
theorem UA.xp(a:UA Z u D U)(x:ik b c Z J)(f:Fr u D b)(g:Fr u D c):UA J u D U:=
 ⟨a.u.xp x f.1 g.1,a.pa.xp x f.2.1 g.2.1,a.cn.xp x f.2.2.2.1 g.2.2.2.1,a.co.xp x f.2.2.1 g.2.2.1,a.un.xp x f.2.2.2.2.1 g.2.2.2.2.1,a.ha.xp x f.2.2.2.2.2.1 g.2.2.2.2.2.1,a.li.xp x f.2.2.2.2.2.2.1 g.2.2.2.2.2.2.1,a.ca.xp x f.2.2.2.2.2.2.2.1 g.2.2.2.2.2.2.2.1,a.pp.xp x f.2.2.2.2.2.2.2.2 g.2.2.2.2.2.2.2.2,a.ne⟩
theorem Made.fr(m:Made Z D J k M U')(h:b<Z.n):Fr k M b:=by
 have:=m.n
 have:=m.g
 unfold Fr;lia
theorem UA.fr(a:UA Z u D U)(h:Z.n<=b):Fr u D b:=by
 have:=a.u.lt;have:=a.pa.lt;have:=a.cn.lt;have:=a.co.lt;have:=a.un.lt;have:=a.ha.lt;have:=a.li.lt;have:=a.ca.lt;have:=a.pp.lt
 unfold Fr;lia
theorem ik.of(x:Ext Z J):ik b c Z J:=⟨x.n,λy h _ _=>x.f y h⟩
theorem ik.trans{ao:St}(x:ik b c Z ao)(y:ik b c ao J):ik b c Z J:=⟨Nat.le_trans x.n y.n,λz h n1 n2=>(y.f z (Nat.lt_of_lt_of_le h x.n) n1 n2).trans (x.f z h n1 n2)⟩
theorem ik.new{ao:St}{b' c':Nat}(x:ik b c Z ao)(y:ik b' c' ao J)(h:Z.n<=b')(G:Z.n<=c'):ik b c Z J:=
 ⟨Nat.le_trans x.n y.n,λz hz n1 n2=>(y.f z (Nat.lt_of_lt_of_le hz x.n) (Nat.ne_of_lt (Nat.lt_of_lt_of_le hz h)) (Nat.ne_of_lt (Nat.lt_of_lt_of_le hz G))).trans (x.f z hz n1 n2)⟩
end
section
variable{e:Nat}{Z:St}{u k j ui q tl:Nat}{D Di M:UD}{U Ui:Ul}{hd hi:Hd}{cA di:List CR}{told ti:List Hd}{s:Str}{qs:List PF}{Rs:List SR}{Pl:List Nat}{K':List CV}
theorem Rb(a:UA Z u D U)(ai:UA Z ui Di Ui)(ah:CZ D U)(W:iX U hd cA told)(Wi:iX Ui hi di ti)(eu:U.us=[.ref ui])(ei:Ui.us=[])(m:UA Z k M {dC U Rs Pl K' with us:=[.ref j]})(sh:gy D M)(F:kD U cA told qs Rs Pl K')
  (f1:Fr u D M.pa) (f2:Fr u D M.ca):
  ∃J o,cI gL (cL (e+17)) 40 (dz "_law_passes_right" 3) (M6 u q tl s k) Z=some (.next,tY u q tl s k o,J)/\ik M.pa M.ca Z J:=by
 refine Ag (ir (e:=e) a ai W Wi eu ei) λkQ k2 j2 M2 N2 t2 P2=>?_
 have C:=P2.m.x
 refine Ag (jF (e:=e) (a.x C) (ai.x C) W Wi eu ei) λdA k3 j3 M3 N3 t3 P3=>?_
 have x2:=P3.m.x
 have uc:=C.trans x2
 have lu:U.us.length=1:=by rw [eu];rfl
 obtain ⟨d6,d7,d8,h2⟩:=v7 ah (show U.us.length<128 by rw [lu];decide)
 have lc:=(dT W).2.2
 have lp:U.ps.length+1<aq/\U.cp.length<aq:=by
  refine bJ (ah.ps) λds _ g l=>?_
  refine bJ (ah.cp) λW3 _ g' l'=>?_
  have:=yd g
  have:=yd g'
  exact ⟨Nat.lt_of_le_of_lt (show _<=41 by lia) (by decide),Nat.lt_of_le_of_lt (show _<=60 by lia) (by decide)⟩
 have Wh:zJ U.code.length U.L (dC U Rs Pl K').L (dC U Rs Pl K').code.length:=by
  have:=vY W F
  rw [show (dC U Rs Pl K').code=cA from F.d];exact this
 have SS:zJ U.code.length U.L U.L U.code.length:=M9 W.l
 have h1:HG M {dC U Rs Pl K' with us:=[.ref j]} d6 d7 d8:=h2.same sh rfl rfl rfl lu.symm
 refine aO (qP (e:=e) (q:=q) (tl:=tl) (s:=s) (k:=k) (a.x uc) (m.x uc) h1 h2 sh lu.symm Wh W.l lc lp (.inl rfl)) λzG c1 y1=>?_
 have p1:=m.pa.lt
 have p2:=m.ca.lt
 have m2:=(P2.m.a.x x2).xp y1 (P2.m.fr p1) (P2.m.fr p2)
 have a3:=(a.x uc).xp y1 f1 f2
 have Wj:HG M2 {NC U with us:=[.ref j2]} d6 d7 d8:=h2.same P2.m.h rfl rfl rfl lu.symm
 obtain ⟨FF,c2,y2⟩:=qP (e:=e) (q:=q) (tl:=tl) (s:=s) (k:=k) a3 m2 Wj h2 P2.m.h lu.symm (show zJ U.code.length U.L U.L (U.code.map zO).length by rw [List.length_map];exact SS) W.l lc lp (.inr ⟨k,rfl⟩)
 have q1:=P2.m.a.pa.lt
 have q2:=P2.m.a.ca.lt
 have NW:=C.n
 have m3:=(P3.m.a.xp y1 (P3.m.fr (Nat.lt_of_lt_of_le p1 NW)) (P3.m.fr (Nat.lt_of_lt_of_le p2 NW))).xp y2 (P3.m.fr q1) (P3.m.fr q2)
 have a4:=a3.xp y2 (a.fr P2.m.n.2.1) (a.fr P2.m.n.2.2)
 have Wl:HG M3 {U with us:=[.ref j3]} d6 d7 d8:=h2.same P3.m.h rfl rfl rfl lu.symm
 refine aO (qP (e:=e) (q:=q) (tl:=tl) (s:=s) (k:=k) a4 m3 Wl h2 P3.m.h lu.symm SS W.l lc lp (.inr ⟨k2,rfl⟩)) λFG c3 y3=>?_
 refine ⟨FG,k3,?_,((ik.of uc).trans y1).new y2 P2.m.n.2.1 P2.m.n.2.2 |>.new y3 (Nat.le_trans NW P3.m.n.2.1) (Nat.le_trans NW P3.m.n.2.2)⟩
 exact dw (n:=39) (by kernel_rfl) (show aG _=some (Src.items [.ref k,.ref k2,.ref k3],dA) from congrArg aG (gX (v:=.val (.tup [.ref k,.ref k2,.ref k3])) [eC t2,eC t3] (by kernel_rfl))) (by kernel_rfl) (FX c1 c2 c3)
end
noncomputable def wc(u q tl:Nat)(s:Str)(k o:Nat)(f:Str)(t w:Nat):Ms:=mk "_law_passes_right" [("unit",.ref u),("due",.ref q),("told",.ref tl),("ahead",.str s),("made",.ref k),("other",.ref o),("turned_by",.bo f),("there",.ref t),("one",.ref w)]
section
variable{d e:Nat}{Z ao:St}{u k k' j ui q tl t o:Nat}{D Di M N M':UD}{U Ui V' Rc U':Ul}{s:Str}{d6 d7 d8:List PyData}
noncomputable def pairs(f ch:Str):Prop:=(f="fold_unit"/\ch="fold_one")\/(f="thread_unit"/\ch="thread_one")\/(f="clean_unit"/\ch="clean_one")
theorem CL{f ch:Str}(hc:pairs f ch)(t:run (e+15) ch [.ref u] Z=some (.ref k,ao))(m:Made Z D ao k M U')(e0:U'.us=[]):
  ∃J,run (e+17) f [.ref u] Z=some (.ref k,J)/\Made Z D J k {M with un:=ao.n} {U' with us:=[]}:=by
 rcases hc with ⟨rfl,rfl⟩ | ⟨rfl,rfl⟩ | ⟨rfl,rfl⟩
 ·refine aO (lC (d:=e+14) (.inl rfl) t m e0) λJ s m'=>?_
  exact ⟨J,gF [eC s] (by kernel_rfl),m'⟩
 ·refine aO (lC (d:=e+14) (.inr (.inl rfl)) t m e0) λJ s m'=>?_
  exact ⟨J,gF [eC s] (by kernel_rfl),m'⟩
 ·refine aO (lC (d:=e+14) (.inr (.inr rfl)) t m e0) λJ s m'=>?_
  exact ⟨J,gF [eC s] (by kernel_rfl),m'⟩
theorem pb(a:UA Z u D U)(g:CG U.K U.code)(o:∀r,r∈U.code->mZ U.K r):oi Z [.ref D.co]=some (.str (PyData.list (U.code.map (Fz U.K))).shown,Z):=
 (Gd.list (g.code o)).repr (bI a.co λr _=>qE _ 4 _ r) (by decide)
theorem CM{f ch:Str}(hc:pairs f ch)(a:At Z u D.o)(au:At Z D.un (.lst [.ref ui]))(ai:UA Z ui Di Ui)(b:At Z t M.o)(bu:At Z M.un (.lst [.ref j]))(cj:UA Z j N V')(hD:HG Di Ui d6 d7 d8)(hN:HG N V' d6 d7 d8)(sh:gy Di N)(el:V'.us.length=Ui.us.length)
  (t1:run (e+17) f [.ref ui] Z=some (.ref k',ao)) (x:Ext Z ao) (a':UA ao k' M' Rc) (g:CG V'.K V'.code) (ok:∀r,r∈V'.code->mZ V'.K r) (eK:Rc.K=V'.K) (ec:Rc.code=V'.code) (ne:D.un≠M.un)
  {m:Ms} (hm:m=tY u q tl s k o\/∃o' f' t' w',m=wc u q tl s k o' f' t' w'):
  ∃J,tn "_law_passes_right" 4 (e+17) 39 (.tup [.bo f,.ref t]) m Z=some (.next,wc u q tl s k j f t ui,J)/\Ext Z J:=by
 have r1:=pb a' (by rw [eK,ec];exact g) (by rw [eK,ec];exact ok)
 rw [eK,ec] at r1
 have r2:=pb (cj.x x) g ok
 have q1:=(jG (eH _ (Gd.list (g.code ok)).lay) ao).2
 have EI:=nq (d:=e+16) (ai.x x) hD
 have C:=j9 ao Di Ui.us.length
 have CK:=nq (d:=e+16) ((cj.x x).x C) hN
 have x2:=j9 (hS ao Di Ui.us.length) N V'.us.length
 generalize hS (hS ao Di Ui.us.length) N V'.us.length=zG at CK x2
 generalize hS ao Di Ui.us.length=dA at EI C CK x2
 rw [sh.head,el] at CK
 have q2:=(jG (eH _ hD.gd.lay) zG).2
 have xx:=(x.trans C).trans x2
 generalize (PyData.list (V'.code.map (Fz V'.K))).shown=s1 at r1 r2 q1
 refine ⟨zG,?_,xx⟩
 have w:∀m,(m=tY u q tl s k o\/∃o' f' t' w',m=wc u q tl s k o' f' t' w')->tn "_law_passes_right" 4 (e+17) 39 (.tup [.bo f,.ref t]) m Z=some (.next,wc u q tl s k j f t ui,zG):=by
  rcases hc with ⟨rfl,rfl⟩ | ⟨rfl,rfl⟩ | ⟨rfl,rfl⟩<;>rintro _ (rfl | ⟨o',f',t',w',rfl⟩)<;>
  exact gT [eO a,eO b,eO au,eO bu,eC t1,eO a'.u,eR r1,eO (cj.x x).u,eR r2,eB q1,eC EI,eC CK,eB q2,eO (au.x xx),eO (bu.x xx),eP ne] (by kernel_rfl)
 exact w m hm
end
section
variable{e:Nat}{Z ao:St}{u k j ui q tl t o:Nat}{D Di M N:UD}{U Ui V':Ul}{hd hi:Hd}{cA di:List CR}{told ti:List Hd}{s:Str}{d6 d7 d8:List PyData}{qs:List PF}{Rs:List SR}{Pl:List Nat}{K':List CV}
theorem Je{code:List CR}{K:List CV}(h:∀r,r∈code->RW r)(hc:∀r,r∈code->mZ K r)(hk:K.length<60)(hl:code.length<60):CG K (code.map zO)/\∀r,r∈code.map zO->mZ K r:=by
 have in1:∀(a:Ar)(y:Int),inc a=.i y->∃x,a=.i x/\y=x+1:=λa y hy=>by
  induction a using Ar.casesOn with
  | i x=>exact ⟨x,rfl,by cases hy;rfl⟩
  | _=>cases hy
 have Az:∀(a:Ar)(x:CV),inc a=.c x->a=.c x:=λa x hx=>by
  induction a using Ar.casesOn with
  | i x=>cases hx
  | _=>exact hx
 refine ⟨⟨λr hr=>?_,hk,by rw [List.length_map];exact hl⟩,λr hr=>?_⟩
 ·refine aO (List.mem_map.mp hr) λp hp ep=>?_
  have w:=h p hp
  subst ep
  have nk:∀y,inc p.2=.i y->y.natAbs<128:=λy hy=>by
   refine aO (in1 _ _ hy) λx hx ey=>?_
   have:=w.b x hx
   omega
  unfold zO
  split
  ·exact ⟨(by decide:(59:Int).natAbs<128),nk⟩
  ·split
   ·exact ⟨(by decide:(60:Int).natAbs<128),nk⟩
   ·exact ⟨v5 w.o,λy hy=>Nat.lt_trans (w.b y hy) (by decide)⟩
 ·refine aO (List.mem_map.mp hr) λp hp ep=>?_
  subst ep
  intro x hx
  unfold zO at hx
  split at hx
  ·exact hc p hp x (Az _ _ hx)
  ·split at hx
   ·exact hc p hp x (Az _ _ hx)
   ·exact hc p hp x hx
theorem Rd(a:UA Z u D U)(ai:UA Z ui Di Ui)(Hi:CZ Di Ui)(W:iX U hd cA told)(Wi:iX Ui hi di ti)(eu:U.us=[.ref ui])(ei:Ui.us=[])(b:At Z k M.o)(bu:At Z M.un (.lst [.ref j]))
  (cj:UA Z j N {dC Ui Rs Pl K' with us:=[]}) (sh:gy Di N) (F:kD Ui di ti qs Rs Pl K') (ne:D.un≠M.un):
  ∃J o' f' t' w',cI gL (cL (e+17)) 40 (dz "_law_passes_right" 4) (tY u q tl s k o) Z=some (.next,wc u q tl s k o' f' t' w',J)/\Ext Z J:=by
 refine Ag (ir (e:=e) a ai W Wi eu ei) λkQ k2 j2 M2 N2 t2 P2=>?_
 have C:=P2.m.x
 refine Ag (jF (e:=e) (a.x C) (ai.x C) W Wi eu ei) λdA k3 j3 M3 N3 t3 P3=>?_
 have x2:=P3.m.x
 have uc:=C.trans x2
 have a2:=a.x uc
 have Na:=ai.x uc
 have lu:Ui.us.length=0:=by rw [ei];rfl
 obtain ⟨d6,d7,d8,hD⟩:=v7 Hi (show Ui.us.length<128 by rw [lu];decide)
 have un:∀{J},UA J u D U->At J D.un (.lst [.ref ui]):=λh=>by have:=h.un;rw [eu] at this;exact this
 have k9:=tU Wi
 refine aO (F.k) λE eK lE=>?_
 have lK:K'.length<60:=by rw [eK,List.length_append];omega
 have cd:(dC Ui Rs Pl K').code=di:=F.d
 have g1:CG K' (dC Ui Rs Pl K').code:=by rw [cd];exact FW (iU Wi).2.1 lK (Nat.lt_of_le_of_lt (iU Wi).2.2 (by decide))
 have o1:∀r,r∈(dC Ui Rs Pl K').code->mZ K' r:=λr hr=>tV F r (by rw [cd] at hr;exact hr)
 have c2:=dT Wi
 obtain ⟨g2,o2⟩:=Je (iU Wi).1 Wi.kc (Nat.lt_of_le_of_lt k9 (by decide)) (Nat.lt_of_le_of_lt c2.2.2 (by decide))
 have g3:CG Ui.K Ui.code:=v8 Wi
 have o3:∀r,r∈Ui.code->mZ Ui.K r:=Wi.kc
 refine kF (iM (d:=e+1) Na F.f) λs1 kf Mf rf mf _ _=>?_
 refine aO (CL (e:=e) (.inl ⟨rfl,rfl⟩) rf mf ei) λs1 rf mf=>?_
 refine aO (CM (e:=e) (q:=q) (tl:=tl) (s:=s) (k:=k) (o:=o) (.inl ⟨rfl,rfl⟩) a2.u (un a2) Na (b.x uc) (bu.x uc) (cj.x uc) hD (hD.same sh rfl rfl rfl lu.symm) sh lu.symm rf mf.x mf.a g1 o1 rfl rfl ne (.inl rfl)) λzG c3 x3=>?_
 have SV:=x2.trans x3
 have a3:=a2.x x3
 have JL:=Na.x x3
 have m2:=P2.m.a.x SV
 refine rp (gr (d:=e+11) JL (by omega) c2.1) λs2 kt Mt rt mt=>?_
 refine aO (CL (e:=e) (.inr (.inl ⟨rfl,rfl⟩)) rt mt ei) λs2 rt mt=>?_
 obtain ⟨FF,c4,x4⟩:=CM (e:=e) (q:=q) (tl:=tl) (s:=s) (k:=k) (o:=o) (.inr (.inl ⟨rfl,rfl⟩)) a3.u (un a3) JL m2.u m2.un (P2.a.x SV) hD (hD.same P2.h rfl rfl rfl lu.symm) P2.h lu.symm rt mt.x mt.a g2 o2 rfl rfl
  (Nat.ne_of_lt (Nat.lt_of_lt_of_le a.un.lt P2.m.g.2.2.1)) (.inr ⟨_,_,_,_,rfl⟩)
 have Rf:=x3.trans x4
 have a4:=a3.x x4
 have Nb:=JL.x x4
 have m3:=P3.m.a.x Rf
 refine rp (g8 (d:=e+10) Nb c2.2.1) λs3 kc Mc rc mc=>?_
 refine aO (CL (e:=e) (.inr (.inr ⟨rfl,rfl⟩)) rc mc ei) λs3 rc mc=>?_
 obtain ⟨FG,c5,x5⟩:=CM (e:=e) (q:=q) (tl:=tl) (s:=s) (k:=k) (o:=o) (.inr (.inr ⟨rfl,rfl⟩)) a4.u (un a4) Nb m3.u m3.un (P3.a.x Rf) hD (hD.same P3.h rfl rfl rfl lu.symm) P3.h lu.symm rc mc.x mc.a g3 o3 rfl rfl
  (Nat.ne_of_lt (Nat.lt_of_lt_of_le (a.x C).un.lt P3.m.g.2.2.1)) (.inr ⟨_,_,_,_,rfl⟩)
 refine ⟨FG,j3,"clean_unit",k3,ui,?_,uc.trans (Rf.trans x5)⟩
 exact dw (n:=39) (by kernel_rfl) (show aG _=some (Src.items [.tup [.bo "fold_unit",.ref k],.tup [.bo "thread_unit",.ref k2],.tup [.bo "clean_unit",.ref k3]],dA) from
  congrArg aG (gX (v:=.val (.tup [.tup [.bo "fold_unit",.ref k],.tup [.bo "thread_unit",.ref k2],.tup [.bo "clean_unit",.ref k3]])) [eC t2,eC t3] (by kernel_rfl))) (by kernel_rfl) (FX c3 c4 c5)
theorem CN(a:UA Z u D U)(ah:CZ D U)(W:iX U hd cA told)(eu:U.us=[.ref ui])(ai:UA Z ui Di Ui)(Hi:CZ Di Ui)(Wi:iX Ui hi di ti)(ei:Ui.us=[])(hq:At Z q (.lst (cA.map vr)))(ht:At Z tl (.lst (told.map Hd.v))):
  ∃J,run (e+18) "_law_passes_right" [.ref u,.ref q,.ref tl] Z=some (.bool true,J):=by
 have lu:U.us.length=1:=by rw [eu];rfl
 obtain ⟨d6,d7,d8,hg⟩:=v7 ah (show U.us.length<128 by rw [lu];decide)
 have wg:=I7 W hg
 have gi:=v8 Wi
 refine aO (xP (d:=e+15) a wg eu ai.u ai.co gi Wi.kc) λkQ t1 C=>?_
 refine Ah (tX (e:=e) (a.x C) (ai.x C) W Wi eu ei) λdA k j M N qs Rs Pl K' NU M4 M5 Rg=>?_
 obtain ⟨Fq,t2,P,F,F',fr⟩:=Rg
 have x2:=P.m.x
 have uc:=C.trans x2
 generalize hs:(NI D U d6 d7 d8 Ui.K Ui.code).shown=s at t1
 have c0:cI gL (cL (e+17)) 40 (dz "_law_passes_right" 0) (mk "_law_passes_right" [("unit",.ref u),("due",.ref q),("told",.ref tl)]) Z=some (.next,mk "_law_passes_right" [("unit",.ref u),("due",.ref q),("told",.ref tl),("ahead",.str s)],kQ):=gY [eC t1] (by kernel_rfl)
 have c1:cI gL (cL (e+17)) 40 (dz "_law_passes_right" 1) (mk "_law_passes_right" [("unit",.ref u),("due",.ref q),("told",.ref tl),("ahead",.str s)]) kQ=some (.next,M6 u q tl s k,dA):=gY [eC t2] (by kernel_rfl)
 have a2:=a.x uc
 have Na:=ai.x uc
 have c2:=Q9 (e:=e) (s:=s) W a2 P.m.a F (hq.x uc) (ht.x uc)
 have x3:Ext dA ((dA.alloc (.lst (cA.map vr))).alloc (.lst (U.K.map CV.v))):=(aQ _ _).al _
 generalize (dA.alloc (.lst (cA.map vr))).alloc (.lst (U.K.map CV.v))=zG at c2 x3
 have a3:=a2.x x3
 have JL:=Na.x x3
 have m3:=P.m.a.x x3
 have f1:=(a.x C).fr P.m.n.2.1
 have f2:=(a.x C).fr P.m.n.2.2
 have Qw:=(ai.x C).fr P.m.n.2.1
 have Qx:=(ai.x C).fr P.m.n.2.2
 refine bV (Rb (e:=e) (q:=q) (tl:=tl) (s:=s) a3 JL ah W Wi eu ei m3 P.m.h F f1 f2) λFF o c3 y4=>?_
 have a4:=a3.xp y4 f1 f2
 have Nb:=JL.xp y4 Qw Qx
 obtain ⟨g1,g2⟩:=fr _ (.inl rfl)
 obtain ⟨g3,g4⟩:=fr _ (.inr rfl)
 have n:=m3.ne
 refine Ag (Rd (e:=e) (q:=q) (tl:=tl) (s:=s) (o:=o) a4 Nb Hi W Wi eu ei (m3.u.xp y4 n.1.symm n.2.2.2.2.2.2.1.symm) (m3.un.xp y4 g2 g4) ((P.a.x x3).xp y4 g1 g3) P.h F' (Nat.ne_of_lt (Nat.lt_of_lt_of_le (a.x C).un.lt P.m.g.2.2.1))) λFG o' f' t' w' c4 x5=>?_
 have a5:=a4.x x5
 have SW:=Nb.x x5
 refine aO (xP (d:=e+15) a5 wg eu SW.u SW.co gi Wi.kc) λRh t6 x6=>?_
 rw [hs] at t6
 have Wm:strOk s=true:=by rw [<-hs];exact eH _ (Cb wg gi Wi.kc).lay
 have q6:=(jG Wm Rh).1
 have c5:ex (e+17) "_law_passes_right" 5 (wc u q tl s k o' f' t' w') FG=some (.ret (.bool true),wc u q tl s k o' f' t' w',Rh):=gS [eC t6,eB q6] (by kernel_rfl)
 have h:=bz (i:=0) (by kernel_rfl) c0 (bz (i:=1) (by kernel_rfl) c1 (bz (i:=2) (by kernel_rfl) c2 (bz (i:=3) (by kernel_rfl) c3 (bz (i:=4) (by kernel_rfl) c4 c5))))
 exact ⟨Rh,qJ (by kernel_rfl) (show 3≠1000 by decide) h⟩
end
abbrev Jf:Expr:=sub (sub (dQ (dz "law" 0)) 0) 0
def hN(i:Int):Int:=(if i<0 then-i else i).fmod 1000003
theorem Jg{l:List V}(Z:St)(h:l.length<=aq):C1 Z (.cl l) .none (some (.int 24))=some (.ref Z.n,Z.alloc (.lst (l.take 24))):=by
 show (if l.length<=aq then (dU l .none (some 24)).map (λl=>(V.ref Z.n,Z.alloc (.lst l))) else .none)=_
 rw [if_pos h];rfl
theorem CO{d:Nat}{l:List Int}(Z:St)(h:l.length<=63):∃J:St,i8 gL (cL d) 37 Jf (mk "law" [("script",.cl (l.map V.int))]) Z=some (.val (.ref J.n),J.alloc (.lst (((l.take 24).map hN).map V.int))):=by
 have hl:(l.map V.int).length<=aq:=by rw [List.length_map];exact Nat.le_trans h (by decide)
 have it:i8 gL (cL d) 36 (sY Jf) (mk "law" [("script",.cl (l.map V.int))]) Z=some (.val (.ref Z.n),Z.alloc (.lst ((l.take 24).map V.int))):=by
  have e:i8 gL (cL d) 36 (sY Jf) (mk "law" [("script",.cl (l.map V.int))]) Z=ye (C1 Z (.cl (l.map V.int)) .none (some (.int 24))):=by kernel_rfl
  rw [e,Jg Z hl,List.map_take];rfl
 have L:∃acc J,cu (.lst Z.n) (compTurn (i8 gL (cL d) 36) (ki gL (cL d) 36) (qo Jf) (vM Jf) (vL Jf) (cX (gm Jf) (mk "law" [("script",.cl (l.map V.int))]))) aM 0 [] (Z.alloc (.lst ((l.take 24).map V.int)))=some (acc,J)/\
   (J=Z.alloc (.lst ((l.take 24).map V.int))/\acc=((l.take 24).map hN).map V.int):=
  jo (g:=V.int) (L:=l.take 24) (λpre acc J=>J=Z.alloc (.lst ((l.take 24).map V.int))/\acc=(pre.map hN).map V.int) (λpre acc J i=>by rw [i.1];exact (ay _ _).e) (λpre x rest acc J e i=>by
   obtain ⟨i1,i2⟩:=i
   subst i1;subst i2
   exact ⟨some (.int (hN x)),_,gC [] (by kernel_rfl),rfl,by rw [List.map_append,List.map_append];rfl⟩) (by rw [List.length_take];lia) ⟨rfl,rfl⟩
 refine lY (L) λacc J c e1 e2=>?_
 subst e1;subst e2
 exact ⟨_,lB (n:=36) (by kernel_rfl) (show aG _=some (Src.lst Z.n,_) from congrArg aG it) (by kernel_rfl) c⟩
theorem zK{l:List Int}(Z:St)(h:l.length<=63):∃J,run 30 "law" [.cl (l.map V.int)] Z=some (.bool true,J):=by
 obtain ⟨kQ,c⟩:=CO (d:=29) Z h
 generalize hn:(l.take 24).map hN=ns at c
 have ln:ns.length<=24:=by rw [<-hn,List.length_map,List.length_take];lia
 have a1:=ay kQ (.lst (ns.map V.int))
 generalize Wn:kQ.alloc (.lst (ns.map V.int))=dA at c a1
 have a2:=a1.al (.lst [.int 2,.int 9])
 have b2:=ay dA (.lst [.int 2,.int 9])
 have q:(ns.map V.int).length+2<=aq:=by rw [List.length_map];exact Nat.le_trans (show _<=26 by lia) (by decide)
 have c0:cI gL (cL 29) 40 (dz "law" 0) (mk "law" [("script",.cl (l.map V.int))]) Z=some (.next,mk "law" [("script",.cl (l.map V.int)),("box",.ref (dA.n+2))],((dA.alloc (.lst [.int 2,.int 9])).alloc (.lst (ns.map V.int++[.int 2,.int 9]))).alloc (.lst [.ref (dA.n+1),.int 0])):=
  gY [eX c,eP (p:=2<=aq) (by decide),eO a2,eO b2,eP q,eP (p:=2<=aq) (by decide)] (by kernel_rfl)
 have b3:=ay (dA.alloc (.lst [.int 2,.int 9])) (.lst (ns.map V.int++[.int 2,.int 9]))
 have B:Bx (dA.n+2) (dA.n+1) (ns++[2,9]) 0 (((dA.alloc (.lst [.int 2,.int 9])).alloc (.lst (ns.map V.int++[.int 2,.int 9]))).alloc (.lst [.ref (dA.n+1),.int 0])):=
  ⟨ay ((dA.alloc (.lst [.int 2,.int 9])).alloc (.lst (ns.map V.int++[.int 2,.int 9]))) _,by rw [List.map_append];exact b3.al _,by lia,by rw [List.length_append];exact ⟨Nat.succ_pos _,by show ns.length+2<100;lia⟩⟩
 generalize ((dA.alloc (.lst [.int 2,.int 9])).alloc (.lst (ns.map V.int++[.int 2,.int 9]))).alloc (.lst [.ref (dA.n+1),.int 0])=Wo at c0 B
 refine Ah (Ew (d:=20) B ⟨B.b.lt,B.l.lt⟩) λzG u D U hd cA told q tl ui Di Ui Ri=>?_
 obtain ⟨hi,di,ti,t1,a,ah,W,eu,ai,Hi,Wi,ei,hq,ht⟩:=Ri
 have c1:cI gL (cL 29) 40 (dz "law" 1) (mk "law" [("script",.cl (l.map V.int)),("box",.ref (dA.n+2))]) Wo=some (.next,mk "law" [("script",.cl (l.map V.int)),("box",.ref (dA.n+2)),("unit",.ref u),("due",.ref q),("told",.ref tl)],zG):=gY [eC t1] (by kernel_rfl)
 obtain ⟨FF,t2⟩:=CN (e:=11) a ah W eu ai Hi Wi ei hq ht
 have c2:ex 29 "law" 2 (mk "law" [("script",.cl (l.map V.int)),("box",.ref (dA.n+2)),("unit",.ref u),("due",.ref q),("told",.ref tl)]) zG=some (.ret (.bool true),mk "law" [("script",.cl (l.map V.int)),("box",.ref (dA.n+2)),("unit",.ref u),("due",.ref q),("told",.ref tl)],sS FF (sC FF.n) 0):=gS [eC t2,eC (DP FF)] (by kernel_rfl)
 exact ⟨_,qJ (by kernel_rfl) (show 1≠1000 by decide) (bz (i:=0) (by kernel_rfl) c0 (bz (i:=1) (by kernel_rfl) c1 c2))⟩
end Mine
end
end
theorem PySem.Challenge.cw_nt0389_01_holds : PySem.Challenge.rw_nt0389_01.Holds :=
  Mine.A9 λl h=>Mine.zK _ h
