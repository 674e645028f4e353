import PyProof.Rows.All
import Wide.All
import OpenK.AllK
import Wide.FinOn
import PySem.Challenge.RW_nz0339_01
set_option Elab.async false
set_option compiler.extract_closed false
set_option maxRecDepth 100000
set_option maxHeartbeats 0
set_option tactic.hygienic false
set_option linter.all false
open PySem PySem.W PySem.Calls PyProof.Rows PySem.SeqAt PySem.Challenge
namespace Mine
theorem Jl{a b:Bool}(h:a=true)(k:b=true):(a&&b)=true:=by rw[h,k];rfl
theorem xP:rw_nz0339_01.wellSaid=true:=by
 rw[PySem.W.Fast.te9446332074065402090]
 repeat refine Jl ?_ ?_
 all_goals as_aux_lemma=>kernel_rfl
section
theorem KJ.{u}{α:Sort u}{p:α->Prop}{P:Prop}(k: ∀x9,∀y9:p x9,P)(h: ∃a,p a):P:=h.elim k
theorem KL{a b P:Prop}(k: ∀(y9:b) (z9:a),P)(h:a/\b):P:=k h.2 h.1
@[elab_as_elim] theorem J'.{u}{α:Sort u}{a b:α}{m:α->Prop}(h:a=b)(x:m b):m a:=h▸x
@[elab_as_elim] theorem Ka.{u}{α:Sort u}{a b:α}{m:α->Prop}(h:a=b)(x:m a):m b:=h▸x
theorem js{z:Type}{c:Prop}[Decidable c]{a:Option z}{b:z}:(if c then a else none)=some b->c/\a=some b:= λh=>if q:c then⟨q,by rwa [if_pos q] at h⟩ else by rw[if_neg q] at h;cases h
theorem hide{u:Prop}(h: ∀P:Prop,(u->P)->P):u:=h u id
theorem gp{z:Sort _}{c:Prop}[Decidable c]{a b r:z}{P:Prop}(t:c->a=r->P)(e: ¬c->b=r->P):(if c then a else b)=r->P:= λh=>if q:c then t q (by rwa [if_pos q] at h) else e q (by rwa [if_neg q] at h)
theorem Dn{x y:Int}{s t c:Nat}(e:s=t+c)(h:y<=x):y+(t:Int)<=x+(s:Int):=Int.add_le_add h (Int.ofNat_le.mpr (e▸Nat.le_add_right t c))
theorem xQ{x y:Int}{s t c:Nat}(e:s=t+c)(h:y<x):y+(t:Int)<x+(s:Int):=Int.add_lt_add_of_lt_of_le h (Int.ofNat_le.mpr (e▸Nat.le_add_right t c))
theorem toNat_add{x:Int}{s:Nat}(h:0<=x):x+(s:Int)=((x.toNat+s:Nat):Int):=by rw[Int.natCast_add,Int.toNat_of_nonneg h]
theorem xR{x y:Int}{s t p e:Nat}(h0:0<=x)(h:x<=y)(H:p=x.toNat+s)(B:t=s+e):y+(t:Int)=((p+((y-x).toNat+e):Nat):Int):=by
 subst H B;rw[Int.natCast_add,Int.natCast_add,Int.natCast_add,Int.natCast_add,Int.toNat_of_nonneg h0,Int.toNat_of_nonneg (Int.sub_nonneg_of_le h)];simp+arith only
theorem xS{n:Nat}(h:n<=16777216):(n:Int)<9223372036854775808:=Int.ofNat_lt.mpr (Nat.lt_of_le_of_lt h (by decide))
theorem l8{n:Nat}(h:n<=16777216):(n:Int)<2^63:=xS h
theorem xT{a b i:Nat}(h:min a (b-i)=a)(n:a≠0):i+a<=b:=by
 have q:a<=b-i:=h▸Nat.min_le_right a (b-i);rcases Nat.le_total i b with k|k
 .exact Nat.le_trans (Nat.add_le_add_left q i) (Nat.le_of_eq (Nat.add_sub_cancel' k))
 .rw[Nat.sub_eq_zero_of_le k] at q;exact absurd (Nat.le_zero.mp q) n
theorem aj{a b l r:Nat}(h:a<=b)(e:l+b<=r+a:=by simp+arith only):l<=r:=by omega
theorem bp{a b c d l r:Nat}(h:a<=b)(k:c<=d)(e:l+(b+d)<=r+(a+c):=by simp+arith only):l<=r:=by omega
theorem nW{a b c d e f l r:Nat}(h:a<=b)(k:c<=d)(m:e<=f)(q:l+(b+d+f)<=r+(a+c+e):=by simp+arith only):l<=r:=by omega
theorem sV{a b c d e f g h l r:Nat}(u:a<=b)(z:c<=d)(B:e<=f)(O:g<=h)(q:l+(b+d+f+h)<=r+(a+c+e+g):=by simp+arith only):l<=r:=by omega
theorem Jm(h:1<=0):False:=nomatch h
theorem dM{n k:Nat}(h:k<=n):n=n-k+k:=(Nat.sub_add_cancel h).symm
theorem xU{a p d:Nat}(u:a<=p)(z:p<=a+d):a+(d-(d-(p-a)))=p:=by
 rw[Nat.sub_sub_self (Nat.sub_le_iff_le_add'.mpr z),Nat.add_sub_cancel' u]
theorem qE(a b:Nat):min (a:Int) (b:Int)=((min a b:Nat):Int):=by
 rcases Nat.le_total a b with h|h
 .rw[Nat.min_eq_left h,Int.min_eq_left (Int.ofNat_le.mpr h)]
 .rw[Nat.min_eq_right h,Int.min_eq_right (Int.ofNat_le.mpr h)]
theorem vG(i:Int):(max 0 i).toNat=i.toNat:=by
 rcases Int.le_total 0 i with h|h
 .rw[Int.max_eq_right h]
 .rw[Int.max_eq_left h,Int.toNat_of_nonpos h];rfl
theorem l_{a b:Nat}:((a:Int)-b<1)↔a<=b:=
 ⟨λh=>Int.ofNat_le.mp (Int.le_of_sub_nonpos (Int.lt_add_one_iff.mp h)),λh=>Int.lt_add_one_iff.mpr (Int.sub_nonpos_of_le (Int.ofNat_le.mpr h))⟩
theorem Kb{v n d:Nat}(z:n<=v+d):n-d+(v-(n-d))=v:=Nat.add_sub_cancel' (Nat.sub_le_iff_le_add.mpr z)
theorem KN{v n d:Nat}(u:v<=n)(z:d<=n):v-(n-d)=d-(n-v):=by rw[Nat.sub_sub_right _ z,Nat.sub_sub_right _ u,Nat.add_comm]
theorem ma{i n:Nat}(h:i<n):n-i=n-(i+1)+1:=(Nat.succ_pred_eq_of_pos (Nat.sub_pos_of_lt h)).symm
theorem iG{i k n:Nat}(e:i+k=n+1)(h:i<n):k-1<k/\i+1+(k-1)=n+1:=by
 rcases k with _|k
 .subst e;exact absurd h (Nat.not_lt_of_le (Nat.le_succ_of_le (Nat.le_refl _)))
 .exact⟨Nat.lt_succ_self _,(Nat.succ_add i k).trans e⟩
inductive BI where
 |b (c:UInt8)|s (k:Nat)|t (k n:Nat)|n (k:Nat)
 deriving Inhabited
inductive D where
 |none|bool (b:Bool)|int (i:Int)|str (s:List Nat)|bytes (b:List UInt8)
 |tup (xs:List D)|lst (xs:List D)|dN (es:List (List Nat×D))
 |obj (C:Nat) (fs:List (Str×D))|fn (i:Nat)
 |si (c:Int) (ls:List Nat)|sb (b:List BI)|seg (k:Nat)|aq (k:Nat)
 deriving Inhabited
inductive MO where
 |lst (xs:List D)|obj (C:Nat) (fs:List (Str×D))
 deriving Inhabited
noncomputable def MO.D:MO->D
 | .lst xs=>.lst xs
 | .obj C fs=>.obj C fs
inductive MV where
 |d (x:D)|own (o:MO)
 deriving Inhabited
noncomputable def MV.D:MV->D
 | .d x=>x
 | .own o=>o.D
inductive Res(α:Type) where
 |stuck|exc|ok (a:α)
 deriving Inhabited
noncomputable def Res.bind{z O:Type}:Res z->(z->Res O)->Res O
 | .stuck,_=>.stuck
 | .exc,_=>.exc
 | .ok a,f=>f a
noncomputable def Res.of{z:Type}:Option z->Res z
 |some a=>.ok a
 |none=>.stuck
noncomputable def Res.KO(b:Bool):Res Unit:=if b then .ok () else .stuck
noncomputable abbrev Loc:=List (Str×MV)
noncomputable def Loc.get?(l:Loc)(x:Str):Option MV:=l.lookup x
noncomputable def Loc.set:Loc->Str->MV->Loc
 |[],x,v=>[(x,v)]
 |(y,u)::r,x,v=>if x=y then(y,v)::r else(y,u)::Loc.set r x v
noncomputable def fR(fs:List (Str×D))(a:Str):Option D:=fs.lookup a
noncomputable def nX:List (Str×D)->Str->D->List (Str×D)
 |[],x,v=>[(x,v)]
 |(y,u)::r,x,v=>if x=y then(y,v)::r else(y,u)::nX r x v
inductive Fl where
 |next|ret (v:MV)|brk|cont
inductive Bi where
 |len|min|chr|ord|bytes|range|isinstance|sorted|list
 deriving DecidableEq
inductive GV where
 |fn (i:Nat)|cls (C:Nat) (init:Nat)|data (x:D)|bi (b:Bi)|exc (C:Nat)
structure Cx where
 kind:Str->Option NameKind
 glob:Str->Option GV
 cC:Nat->Str->Option Nat
 attr:Nat->Str->Bool
 isFn:Nat->Bool
 hK:Nat->Nat->Bool
 call:Nat->List MV->Res (MV×MV)
 w:Nat
 pin:Option Str
noncomputable def lim:Nat:=16777216
noncomputable def la{z:Type}(e:Expr)(d:z)(nm:Str->z:= λB=>d)(ct:Const->z:= λB=>d)(tp:List Expr->z:= λB=>d)(sl:Option Expr->Option Expr->Option Expr->z:= λB B B=>d)(ca:Expr->List Expr->List Keyword->z:= λB B B=>d)(st:z:=d)(lc:Expr->List Comprehension->Scope->z:= λB B B=>d)(cp:z:=d)(ls:List Expr->z:= λB=>d)(bo:BoolOp->List Expr->z:= λB B=>d)(bn:Expr->Operator->Expr->z:= λB B B=>d)(un:UnaryOp->Expr->z:= λB B=>d)(sb:Expr->Expr->z:= λB B=>d)(at_:Expr->Str->z:= λB B=>d):z:=
 @Expr.casesOn (λB=>z) e (λo l B=>bo o l) (λB B B=>d) (λa o b B=>bn a o b) (λo a B=>un o a) (λB B B B=>d) (λB B B B=>d) (λB B B=>d) (λB B B=>d) (λe g s B=>lc e g s) (λB B B B=>cp) (λB B B B B=>cp) (λB B B B=>d) (λB B=>d) (λB B=>d) (λB B=>d) (λB B B B=>d) (λf a k B=>ca f a k) (λB B B B=>d) (λB B=>d) (λc B B=>ct c) (λe a B=>at_ e a) (λa i B=>sb a i) (λB B=>st) (λx B=>nm x) (λl B=>ls l) (λl B B=>tp l) (λa b c B=>sl a b c)
noncomputable def uG{z:Type}(s:Stmt)(d:z)(fn:Str->Arguments->List Stmt->Scope->z:= λB B B B=>d)(cl:List Stmt->List Str->z:= λB B=>d)(rt:Option Expr->z:= λB=>d)(as:Expr->z:= λB=>d)(fr:Expr->Expr->List Stmt->List Stmt->z:= λB B B B=>d)(wh:Expr->List Stmt->List Stmt->z:= λB B B=>d):z:=
 @Stmt.casesOn (λB=>z) s (λn a b B B B s B B B=>fn n a b s) (λB B B B B B B B B B=>d) (λB B B b B B B B B a B=>cl b a) (λe B=>rt e) (λB B=>d) (λB e B=>as e) (λB B B B B B B=>d) (λB B B B=>d) (λB B B B B=>d) (λt i b e B=>fr t i b e) (λB B B B B=>d) (λt b e B=>wh t b e) (λB B B B=>d) (λB B B=>d) (λB B B=>d) (λB B B=>d) (λB B B=>d) (λB B B B B=>d) (λB B B B B=>d) (λB B B=>d) (λB B=>d) (λB B B B=>d) (λB B=>d) (λB B=>d) (λB B=>d) (λB=>d) (λB=>d) (λB=>d)
noncomputable def nameOf(e:Expr):Option Str:=la e none (nm:=some)
noncomputable def hN(e:Expr):Option Const:=la e none (ct:=some)
noncomputable def xV(e:Expr):Option (List Expr):=la e none (tp:=some)
noncomputable def i8(e:Expr):Option (Option Expr×Option Expr):=la e none (sl:= λlo u st=>match st with
  |none=>some (lo,u)
  |some _=>none)
noncomputable def allEq(f:D->D->Option Bool):List D->List D->Option Bool
 |[],[]=>some true
 |a::as,b::bs=>(f a b).bind λx=>(allEq f as bs).map λy=>x&&y
 |_,_=>none
noncomputable def gX:D->Option Unit
 | .none=>some ()
 |_=>none
noncomputable def vBool:D->Option Bool
 | .bool b=>some b
 |_=>none
noncomputable def vInt:D->Option Int
 | .int b=>some b
 |_=>none
noncomputable def vStr:D->Option (List Nat)
 | .str b=>some b
 |_=>none
noncomputable def bH:D->Option (List UInt8)
 | .bytes b=>some b
 |_=>none
noncomputable def dg:D->Option (List D)
 | .lst b=>some b
 |_=>none
noncomputable def aC:D->Bool
 | .seg _=>true
 |_=>false
noncomputable def aG(xs:List D):Bool:=xs.any aC
noncomputable def big:Nat:=1048576
noncomputable def IQ:D->Bool
 | .aq _=>true
 | .seg _=>true
 |_=>false
noncomputable def dP:List D->Nat
 |[]=>0
 |x::r=>(if aC x then big else 1)+dP r
noncomputable def g_:List BI->Nat
 |[]=>0
 | .b _::r=>1+g_ r
 | .s _::r=>big+g_ r
 | .t _ _::r=>big+g_ r
 | .n _::r=>1+g_ r
noncomputable def GB:Nat->D->Bool
 |0,_=>false
 |n+1,x=>match x with
  | .tup xs=>xs.all (GB n)
  | .lst xs=>xs.all (GB n)
  | .none=>true
  | .bool _=>true
  | .int _=>true
  | .str _=>true
  | .bytes _=>true
  | .dN _=>true
  | .fn _=>true
  | .obj _ _=>false
  | .si _ _=>false
  | .sb _=>false
  | .seg _=>false
  | .aq _=>false
noncomputable def fQ:Nat->D->D->Option Bool
 |0,_,_=>none
 |n+1,x,y=>match x with
  | .none=>(gX y).map λB=>true
  | .bool a=>(vBool y).map λb=>a==b
  | .int a=>(vInt y).map λb=>a==b
  | .str a=>(vStr y).map λb=>a==b
  | .bytes a=>(bH y).map λb=>a==b
  | .lst a=>(dg y).bind λb=>if aG a||aG b then none else if a.length=b.length then allEq (fQ n) a b else some false
  | .tup _=>none
  | .dN _=>none
  | .obj _ _=>none
  | .fn _=>none
  | .si _ _=>none
  | .sb _=>none
  | .seg _=>none
  | .aq _=>none
noncomputable def D.truthy:D->Option Bool
 | .none=>some false
 | .bool b=>some b
 | .lst xs=>if dP xs<=lim then(if xs.all aC&& !xs.isEmpty then Option.none else some (!xs.isEmpty)) else Option.none
 |_=>Option.none
theorem i9{xs:List D}:D.truthy (.lst xs)=if dP xs<=lim then(if xs.all aC&& !xs.isEmpty then Option.none else some (!xs.isEmpty)) else Option.none:=rfl
noncomputable def xI(x y:D):Option Bool:=match x with
 | .bool a=>(vBool y).map λb=>a==b
 | .int a=>(vInt y).map λb=>a==b
 | .str a=>(vStr y).map λb=>a==b
 | .bytes a=>(bH y).map λb=>a==b
 | .none=>none
 | .lst _=>none
 | .tup _=>none
 | .dN _=>none
 | .obj _ _=>none
 | .fn _=>none
 | .si _ _=>none
 | .sb _=>none
 | .seg _=>none
 | .aq _=>none
noncomputable def GS(x y:D):Option MV:=match x with
 | .int a=>(vInt y).map λb=>.d (.int (a+b))
 | .bytes a=>(bH y).bind λb=>if a.length+b.length<=lim then some (.d (.bytes (a++b))) else none
 | .str a=>(vStr y).bind λb=>if a.length+b.length<=lim then some (.d (.str (a++b))) else none
 | .lst a=>(dg y).bind λb=>if a.length+b.length<=lim then some (.own (.lst (a++b))) else none
 | .none=>none
 | .bool _=>none
 | .tup _=>none
 | .dN _=>none
 | .obj _ _=>none
 | .fn _=>none
 | .si _ _=>none
 | .sb _=>none
 | .seg _=>none
 | .aq _=>none
noncomputable def one?(xs:List D):Option D:=match xs with
 |[]=>none
 |a::r=>if r.isEmpty then some a else none
noncomputable def GU(x y:D):Option MV:=match x with
 | .int a=>(vInt y).bind λb=>if a.natAbs<2^60/\b.natAbs<2^60 then some (.d (.int (a*b))) else none
 | .lst xs=>(vInt y).bind λb=>(one? xs).bind λa=>if 0<=b/\b<=100 then some (.own (.lst (List.replicate b.toNat a))) else none
 | .none=>none
 | .bool _=>none
 | .str _=>none
 | .bytes _=>none
 | .tup _=>none
 | .dN _=>none
 | .obj _ _=>none
 | .fn _=>none
 | .si _ _=>none
 | .sb _=>none
 | .seg _=>none
 | .aq _=>none
noncomputable def pq(op:Operator)(x y:D):Option MV:=match op with
 | .Add=>GS x y
 | .Sub=>(vInt x).bind λa=>(vInt y).map λb=>.d (.int (a-b))
 | .Mult=>GU x y
 | .FloorDiv=>(vInt x).bind λa=>(vInt y).bind λb=>if 0<b/\b.natAbs<1073741824 then some (.d (.int (a.fdiv b))) else none
 | .Mod=>(vInt x).bind λa=>(vInt y).bind λb=>if 0<b then some (.d (.int (a.fmod b))) else none
 | .MatMult=>none
 | .Div=>none
 | .Pow=>none
 | .LShift=>none
 | .RShift=>none
 | .BitOr=>none
 | .BitXor=>none
 | .BitAnd=>none
noncomputable def eW(x:D):List D->Option Bool
 |[]=>some false
 |y::ys=>(xI y x).bind λa=>(eW x ys).map λb=>a||b
noncomputable def pv(a b:List UInt8):Bool:=(List.range (b.length+1)).any λi=>(b.drop i).take a.length==a
noncomputable def qH(f:Int->Int->Bool)(x y:D):Option Bool:=(vInt x).bind λa=>(vInt y).map λb=>f a b
noncomputable def isNone:D->Option Bool
 | .none=>some true
 | .bytes _=>some false
 | .lst _=>some false
 | .obj _ _=>some false
 | .sb _=>some false
 | .bool _=>none
 | .int _=>none
 | .str _=>none
 | .tup _=>none
 | .dN _=>none
 | .fn _=>none
 | .si _ _=>none
 | .seg _=>none
 | .aq _=>none
noncomputable def kf(i:Int)(b:List UInt8):Option Bool:=if 0<=i/\i<256 then some (b.any λc=>(c.toNat:Int)==i) else none
noncomputable def kg:D->Option (List D)
 | .tup b=>some b
 |_=>none
noncomputable def mf(x:D)(b:List UInt8):Option Bool:=match vInt x with
 |some i=>kf i b
 |none=>(bH x).map λa=>pv a b
noncomputable def inD(x y:D):Option Bool:=match kg y with
 |some xs=>eW x xs
 |none=>(bH y).bind λb=>mf x b
noncomputable def kh(x y:D):Option Bool:=match kg y with
 |some xs=>(eW x xs).map (!·)
 |none=>(bH y).bind λb=>(vInt x).bind λi=>(kf i b).map (!·)
noncomputable def ki(op:CmpOp)(x y:D):Option Bool:=match op with
 | .Eq=>fQ 10 x y
 | .NotEq=>(fQ 10 x y).map (!·)
 | .Lt=>qH (λa b=>decide (a<b)) x y
 | .LtE=>qH (λa b=>decide (a<=b)) x y
 | .Gt=>qH (λa b=>decide (b<a)) x y
 | .GtE=>qH (λa b=>decide (b<=a)) x y
 | .Is=>(gX y).bind λB=>isNone x
 | .IsNot=>(gX y).bind λB=>(isNone x).map (!·)
 | .In=>inD x y
 | .NotIn=>kh x y
noncomputable def index(n:Nat)(i:Int):Option Nat:=
 if 0<=i/\i<n then some i.toNat else none
noncomputable def gq{z:Type}(xs:List z)(f:z->D)(i:D):Option D:=(vInt i).bind λi=>if lim<xs.length then none else(index xs.length i).bind λj=>(xs[j]?).map f
noncomputable def pz(x i:D):Option D:=match x with
 | .tup xs=>gq xs id i
 | .lst xs=>gq xs id i
 | .bytes b=>gq b (λc=>.int c.toNat) i
 | .str s=>gq s (λc=>.str [c]) i
 | .dN es=>(vStr i).bind λk=>(match es with
  |[]=>none
  |p::r=>if r.isEmpty&&k=p.1 then(vStr p.2).map .str else none)
 | .none=>none
 | .bool _=>none
 | .int _=>none
 | .obj _ _=>none
 | .fn _=>none
 | .si _ _=>none
 | .sb _=>none
 | .seg _=>none
 | .aq _=>none
noncomputable def clip(n:Nat)(i:Int):Nat:=if i<0 then(i+n).toNat else min i.toNat n
noncomputable def cut{z:Type}(xs:List z)(i j:Nat):List z:=(xs.drop i).take (j-i)
noncomputable def jt:D->Option Int->Option Int->Option D
 | .bytes b,lo,u=>if lim<b.length then none else some (.bytes (cut b ((lo.map (clip b.length)).getD 0) ((u.map (clip b.length)).getD b.length)))
 | .lst b,lo,u=>if lim<b.length then none else some (.lst (cut b ((lo.map (clip b.length)).getD 0) ((u.map (clip b.length)).getD b.length)))
 |_,_,_=>none
noncomputable def cE{z O:Type}(f:z->Option O):List z->Option (List O)
 |[]=>some []
 |a::as=>(f a).bind λb=>(cE f as).map (b:: ·)
noncomputable def D.size?:D->Option Nat
 | .str s=>if s.length<=lim then some s.length else Option.none
 | .bytes b=>if b.length<=lim then some b.length else Option.none
 | .tup xs=>if xs.length<=lim then some xs.length else Option.none
 | .lst xs=>if xs.length<=lim then some xs.length else Option.none
 |_=>Option.none
noncomputable def mh:D->Option UInt8
 | .int i=>if 0<=i/\i<256 then some (UInt8.ofNat i.toNat) else none
 |_=>none
noncomputable def sW(xs:List D):Option (D×D):=match xs with
 |[]=>none
 |a::r=>(one? r).map λb=>(a,b)
noncomputable def GW(xs:List Nat):Option Nat:=match xs with
 |[]=>none
 |a::r=>if r.isEmpty then some a else none
noncomputable def Jn:D->Option (List (List Nat×D))
 | .dN es=>some es
 |_=>none
noncomputable def GX(es:List (List Nat×D)):Option (List D):=match es with
 |[]=>some []
 |p::r=>if r.isEmpty then some [.str p.1] else none
noncomputable def gr(b:Bi)(u:List D):Option MV:=match b with
 | .len=>(one? u).bind λx=>x.size?.map λ(n:Nat)=>.d (.int n)
 | .min=>(sW u).bind λp=>(vInt p.1).bind λa=>(vInt p.2).map λb=>.d (.int (if b<a then b else a))
 | .chr=>(one? u).bind λx=>(vInt x).bind λi=>if 0<=i/\i<1114112 then some (.d (.str [i.toNat])) else none
 | .ord=>(one? u).bind λx=>(vStr x).bind λs=>(GW s).map λ(c:Nat)=>.d (.int c)
 | .bytes=>(one? u).bind λx=>(dg x).bind λxs=>(cE mh xs).bind λb=>if b.length<=lim then some (.d (.bytes b)) else none
 | .sorted=>(one? u).bind λx=>(Jn x).bind λes=>(GX es).map λO=>.own (.lst O)
 | .list=>(one? u).bind λx=>(dg x).bind λxs=>if dP xs<=lim then some (.own (.lst xs)) else none
 | .range=>none
 | .isinstance=>none
noncomputable def findB(c:UInt8)(b:List UInt8)(i j:Nat):Int:=
 match(cut b i j).findIdx? (· ==c) with
 |some k=>i+k
 |none=> -1
noncomputable def dj(u:List UInt8):List (List UInt8)->List UInt8
 |[]=>[]
 |[x]=>x
 |x::y::r=>x++u++dj u (y::r)
noncomputable def fS(u:List Nat):List (List Nat)->List Nat
 |[]=>[]
 |[x]=>x
 |x::y::r=>x++u++fS u (y::r)
noncomputable def ek(O:List UInt8)(b:List UInt8):List UInt8:=((b.dropWhile (O.contains ·)).reverse.dropWhile (O.contains ·)).reverse
noncomputable def aX(c:UInt8):List UInt8->List (List UInt8)
 |[]=>[[]]
 |x::r=>if x==c then[]::aX c r else match aX c r with
  |[]=>[[x]]
  |y::ys=>(x::y)::ys
noncomputable def ju:D->Option (List UInt8)
 | .bytes b=>some b
 |_=>none
noncomputable def uH:D->Option (List Nat)
 | .str b=>some b
 |_=>none
noncomputable def uI(xs:List UInt8):Option UInt8:=match xs with
 |[]=>none
 |a::r=>if r.isEmpty then some a else none
noncomputable def findD(b:List UInt8)(u:List D):Option MV:=match u with
 |[]=>none
 |c::r=>(bH c).bind λc=>(uI c).bind λc=>(sW r).bind λp=>(vInt p.1).bind λi=>(vInt p.2).bind λj=>
  if 0<=i/\0<=j/\i<lim/\j<lim then some (.d (.int (findB c b (min i.toNat b.length) (min j.toNat b.length)))) else none
noncomputable def uJ(z:List UInt8)(u:List D):Option MV:=(one? u).bind λx=>(dg x).bind λxs=>(cE ju xs).bind λl=>if(dj z l).length<=lim then some (.d (.bytes (dj z l))) else none
noncomputable def pA(z:List Nat)(u:List D):Option MV:=(one? u).bind λx=>(dg x).bind λxs=>(cE uH xs).bind λl=>if(fS z l).length+z.length<=lim then some (.d (.str (fS z l))) else none
noncomputable def sX(b:List UInt8)(u:List D):Option MV:=(one? u).bind λx=>(bH x).bind λO=>if b.length<=lim then some (.d (.bytes (ek O b))) else none
noncomputable def sY(b:List UInt8)(u:List D):Option MV:=(one? u).bind λx=>(bH x).bind λO=>(uI O).bind λc=>if b.length<lim then some (.own (.lst ((aX c b).map .bytes))) else none
noncomputable def kj(x:D)(m:Str)(u:List D):Option MV:=match bH x with
 |some b=>if m="find" then findD b u else if m="join" then uJ b u else if m="strip" then sX b u else if m="split" then sY b u else none
 |none=>(vStr x).bind λs=>if m="join" then pA s u else none
noncomputable def mid:D->Str->Option String
 | .bytes _,m=>if m="find" then some "bytes.find" else if m="join" then some "bytes.join" else if m="strip" then some "bytes.strip" else if m="split" then some "bytes.split" else none
 | .str _,m=>if m="join" then some "str.join" else none
 | .sb _,m=>if m="find" then some "bytes.find" else if m="split" then some "bytes.split" else none
 |_,_=>none
noncomputable def pB:Const->Option D
 | .none=>some .none
 | .bool b=>some (.bool b)
 | .int i=>some (.int i)
 | .str s=>some (.str s.cps.toList)
 | .bytes b=>some (.bytes b)
 |_=>none
noncomputable def itemsOf:D->Option (List D)
 | .tup xs=>some xs
 | .lst xs=>if aG xs then none else some xs
 | .bytes b=>some (b.map λc=>.int c.toNat)
 | .str s=>some (s.map λc=>.str [c])
 | .dN []=>some []
 |_=>none
structure SI where
 c:Int
 ls:List Nat
noncomputable def bQ:D->Option SI
 | .int i=>some ⟨i,[]⟩
 | .si c ls=>some ⟨c,ls⟩
 |_=>none
noncomputable def Dp(c:Int)(ls:List Nat):D:=match ls with
 |[]=>.int c
 |k::r=>.si c (k::r)
noncomputable def ey:D->Option (List BI)
 | .bytes b=>some (b.map .b)
 | .sb b=>some b
 |_=>none
noncomputable def pC:List BI->Option (List UInt8)
 |[]=>some []
 | .b c::r=>(pC r).map (c:: ·)
 | .s _::_=>none
 | .t _ _::_=>none
 | .n _::_=>none
noncomputable def GC(b:List BI):D:=match pC b with
 |some p=>.bytes p
 |none=>.sb b
noncomputable def pD(k:Nat):List Nat->List Nat
 |[]=>[k]
 |j::r=>if k<=j then k::j::r else j::pD k r
noncomputable def pE(a b:List Nat):List Nat:=a.foldr pD b
noncomputable def Ec(k:Nat):List Nat->Option (List Nat)
 |[]=>none
 |j::r=>if k=j then some r else(Ec k r).map (j:: ·)
noncomputable def mj(a:List Nat):List Nat->Option (List Nat)
 |[]=>some a
 |k::r=>(Ec k a).bind λa=>mj a r
noncomputable def hO:List BI->SI
 |[]=>⟨0,[]⟩
 | .b _::r=>⟨(hO r).c+1,(hO r).ls⟩
 | .s k::r=>⟨(hO r).c,pD (2*k) (hO r).ls⟩
 | .t _ _::r=>hO r
 | .n _::r=>⟨(hO r).c+1,(hO r).ls⟩
noncomputable def GY:List BI->Bool
 |[]=>true
 | .b _::r=>GY r
 | .s _::r=>GY r
 | .t _ _::_=>false
 | .n _::r=>GY r
noncomputable def d4:D->Option Nat
 | .seg k=>some k
 |_=>none
noncomputable def pF:List D->SI
 |[]=>⟨0,[]⟩
 |x::r=>match d4 x with
  |some k=>⟨(pF r).c,pD (2*k+1) (pF r).ls⟩
  |none=>⟨(pF r).c+1,(pF r).ls⟩
noncomputable def lb:List BI->Nat->List Nat->Option (List BI)
 |[],n,ls=>if n=0&&ls.isEmpty then some [] else none
 | .b c::r,n,ls=>match n with
  |0=>if ls.isEmpty then some (.b c::r) else none
  |n+1=>lb r n ls
 | .s k::r,n,ls=>if n=0&&ls.isEmpty then some (.s k::r) else(Ec (2*k) ls).bind λls=>lb r n ls
 | .t _ _::_,_,_=>none
 | .n k::r,n,ls=>match n with
  |0=>if ls.isEmpty then some (.n k::r) else none
  |n+1=>lb r n ls
noncomputable def qI:List D->Nat->List Nat->Option (List D)
 |[],_,_=>none
 |x::r,n,ls=>match d4 x with
  |some k=>(Ec (2*k+1) ls).bind λls=>qI r n ls
  |none=>(match n with
   |0=>if ls.isEmpty then some (x::r) else none
   |n+1=>qI r n ls)
noncomputable def uK:Nat->List BI->Option (List BI)
 |0,_=>some []
 |_+1,[]=>some []
 |n+1,.b c::r=>(uK n r).map (.b c:: ·)
 |n+1,.s k::r=>if r.isEmpty then some [.t k (n+1)] else none
 |_+1,.t _ _::_=>none
 |n+1,.n k::r=>(uK n r).map (.n k:: ·)
noncomputable def eqB:List BI->List BI->Option Bool
 |[],y=>(match y with
  |[]=>some true
  | .b _::_=>some false
  |_=>none)
 | .b a::x,y=>(match y with
  |[]=>some false
  | .b c::y=>if a==c then eqB x y else some false
  |_=>none)
 |_,_=>none
noncomputable def uL(c:UInt8):Nat->List BI->Option (Option Nat)
 |0,_=>some none
 |_+1,[]=>some none
 |n+1,.b x::r=>if x==c then some (some 0) else(uL c n r).map λo=>o.map (· +1)
 |_+1,.s _::_=>none
 |_+1,.t _ _::_=>none
 |_+1,.n _::_=>none
noncomputable def bM:D->Bool
 | .si _ _=>true
 | .sb _=>true
 | .aq _=>true
 | .seg _=>true
 | .lst xs=>aG xs
 |_=>false
noncomputable def cV:Nat->D->Bool
 |0,_=>false
 |n+1,x=>bM x||(match dg x with
  |some xs=>xs.any (cV n)
  |none=>false)
noncomputable def qJ(f:D->D->Bool)(n:Nat):List D->List D->Bool
 |[],y=>y.isEmpty
 |a::x,y=>match y with
  |[]=>false
  |b::y=>(match d4 a with
   |some k=>decide (4<=n/\500<=k/\k<1000/\d4 b=some k)
   |none=>f a b)&&qJ f n x y
noncomputable def jv:Nat->D->D->Bool
 |0,_,_=>false
 |n+1,x,y=>match dg x with
  |some a=>(match dg y with
   |some b=>qJ (jv n) n a b
   |none=>false)
  |none=>(match bQ x with
   |some a=>(match bQ y with
    |some b=>decide (a.c=b.c/\a.ls=b.ls)
    |none=>false)
   |none=>xI x y==some true||(gX x).isSome&&(gX y).isSome)
noncomputable def Be(a b:SI):Option Bool:=match mj b.ls a.ls with
 |some e=>if a.c<b.c then some true else if e.isEmpty then some false else none
 |none=>(mj a.ls b.ls).bind λB=>if b.c<=a.c then some false else none
noncomputable def Jp(a b:SI):Option Bool:=match mj b.ls a.ls with
 |some e=>if e.isEmpty then some (a.c==b.c) else if a.c<b.c then some false else none
 |none=>(mj a.ls b.ls).bind λB=>if b.c<a.c then some false else none
noncomputable def Jq(op:Operator)(x y:D):Option MV:=match op with
 | .Add=>(match bQ x with
  |some a=>(bQ y).map λb=>.d (Dp (a.c+b.c) (pE a.ls b.ls))
  |none=>(match ey x with
   |some a=>(ey y).bind λb=>if g_ a+g_ b<=lim then some (.d (GC (a++b))) else none
   |none=>(dg x).bind λa=>(dg y).bind λb=>if dP a+dP b<=lim then some (.own (.lst (a++b))) else none))
 | .Sub=>(bQ x).bind λa=>(bQ y).bind λb=>(mj a.ls b.ls).map λls=>.d (Dp (a.c-b.c) ls)
 |_=>none
noncomputable def Kc(x y:D):Option Bool:=(dg x).bind λa=>(dg y).bind λb=>if b.isEmpty&& !a.all aC then some false else none
noncomputable def IS(x y:D):Option Bool:=if jv 10 x y then some true else match bQ x with
 |some a=>(bQ y).bind λb=>Jp a b
 |none=>(match ey x with
  |some a=>(ey y).bind λb=>eqB a b
  |none=>Kc x y)
noncomputable def iH(x:D):Bool:=match vInt x with
 |some i=>i==32||i==9
 |none=>false
noncomputable def uM(x y:D):Option Bool:=match x with
 | .aq k=>if 100<=k then(kg y).bind λys=>if ys.all iH then some false else none else none
 |_=>none
noncomputable def GZ(op:CmpOp)(x y:D):Option Bool:=match op with
 | .Eq=>IS x y
 | .NotEq=>(IS x y).map (!·)
 | .Lt=>(bQ x).bind λa=>(bQ y).bind λb=>Be a b
 | .LtE=>(bQ x).bind λa=>(bQ y).bind λb=>(Be b a).map (!·)
 | .Gt=>(bQ x).bind λa=>(bQ y).bind λb=>Be b a
 | .GtE=>(bQ x).bind λa=>(bQ y).bind λb=>(Be a b).map (!·)
 | .Is=>(gX y).bind λB=>isNone x
 | .IsNot=>(gX y).bind λB=>(isNone x).map (!·)
 | .In=>uM x y
 |_=>none
noncomputable def Kd(c:List BI):Option D:=match c with
 |[]=>none
 |x::_=>(match x with
  | .b c=>some (.int c.toNat)
  | .n k=>some (.aq (100+k))
  |_=>none)
noncomputable def Jr(c:List D):Option D:=match c with
 |[]=>none
 |x::_=>if aC x then none else some x
noncomputable def Bp(x i:D):Option D:=(bQ i).bind λi=>if i.c<0 then none else match ey x with
 |some b=>if g_ b<=lim then(lb b i.c.toNat i.ls).bind Kd else none
 |none=>(dg x).bind λxs=>if dP xs<=lim then(qI xs i.c.toNat i.ls).bind Jr else none
noncomputable def Bq(x:D)(lo u:Option SI):Option D:=(ey x).bind λb=>if g_ b<=lim then
  (let l:=lo.getD ⟨0,[]⟩
   if l.c<0 then none else(lb b l.c.toNat l.ls).bind λr=>match u with
   |none=>some (GC r)
   |some h=>(mj h.ls l.ls).bind λe=>if e.isEmpty&&l.c<=h.c then(uK (h.c-l.c).toNat r).map GC else none) else none
noncomputable def uN(x:D):Option D:=match ey x with
 |some b=>if g_ b<=lim/\GY b=true then some (Dp (hO b).c (hO b).ls) else none
 |none=>(dg x).bind λxs=>if dP xs<=lim then some (Dp (pF xs).c (pF xs).ls) else none
noncomputable def fU(x:D):Option D:=if bM x then uN x else x.size?.map λ(n:Nat)=>.int n
noncomputable def Js(u:List D):Option MV:=(sW u).bind λp=>(bQ p.1).bind λi=>(bQ p.2).bind λj=>(Be j i).map λt=>.d (if t then p.2 else p.1)
noncomputable def xW(b:Bi)(u:List D):Option MV:=if b= .min then Js u else(one? u).bind λx=>if b= .len then(uN x).map .d else if b= .list then(dg x).bind λxs=>if dP xs<=lim then some (.own (.lst xs)) else none else none
noncomputable def SI.GD(a:SI):Nat:=a.c.toNat+big*a.ls.length
noncomputable def findY(b:List BI)(u:List D):Option MV:=match u with
 |[]=>none
 |c::r=>(bH c).bind λc=>(uI c).bind λc=>(sW r).bind λp=>(bQ p.1).bind λi=>(bQ p.2).bind λj=>
  if 0<=i.c/\i.c<=j.c/\i.GD<lim/\j.GD<lim then
   (mj j.ls i.ls).bind λe=>(lb b i.c.toNat i.ls).bind λr=>(uL c (j.c-i.c).toNat r).bind λo=>match o with
    |some k=>some (.d (Dp (i.c+k) i.ls))
    |none=>if e.isEmpty then some (.d (.int (-1))) else none
  else none
noncomputable def Ed(xs:List D):Option Nat:=match xs with
 |[]=>none
 |x::r=>if r.isEmpty then d4 x else none
noncomputable def Dq(xs:List BI):Option Nat:=match xs with
 |[]=>none
 |x::r=>if r.isEmpty then(match x with
  | .s k=>some k
  |_=>none) else none
noncomputable def split0:Nat:=1000
noncomputable def Ee(b:List BI)(u:List D):Option MV:=(one? u).bind λx=>(bH x).bind λO=>if O=[10] then(Dq b).bind λk=>if k<split0 then some (.own (.lst [.seg (split0+k)])) else none else none
noncomputable def G0(z:List UInt8)(u:List D):Option MV:=(one? u).bind λx=>(dg x).bind λxs=>if z=[44] then(Ed xs).bind λk=>if k=7 then some (.d (.sb [.s (split0+7)])) else none else none
noncomputable def sZ(x:D)(m:Str)(u:List D):Option MV:=match bH x with
 |some b=>if m="join" then G0 b u else if m="find" then findY (b.map .b) u else none
 |none=>(ey x).bind λb=>if m="find" then findY b u else if m="split" then Ee b u else none
noncomputable def binop(op:Operator)(x y:D):Option MV:=if bM x||bM y then Jq op x y else pq op x y
noncomputable def s6:CmpOp->Bool
 | .Eq=>true
 | .NotEq=>true
 |_=>false
noncomputable def n9(op:CmpOp)(x y:D):Option Bool:=if(bM x||bM y)||(s6 op&&cV 10 x) then GZ op x y else ki op x y
noncomputable def eu(x i:D):Option D:=if bM x||bM i then Bp x i else pz x i
noncomputable def s7:Option SI->Bool
 |some i=> !i.ls.isEmpty
 |none=>false
noncomputable def sliced(x:D)(lo u:Option SI):Option D:=if bM x||(s7 lo||s7 u) then Bq x lo u else jt x (lo.map (·.c)) (u.map (·.c))
noncomputable def hU(b:Bi)(u:List D):Option MV:=if u.any bM then xW b u else gr b u
noncomputable def fV(x:D)(m:Str)(u:List D):Option MV:=if bM x||u.any bM then sZ x m u else kj x m u
structure Ev where
 e:Expr->Loc->Res (MV×Loc)
 b:List Stmt->Loc->Res (Fl×Loc)
section
variable(X:Cx)
noncomputable def bu(ev:Expr->Loc->Res (MV×Loc)):List Expr->Loc->Res (List D×Loc)
 |[],l=>.ok ([],l)
 |e::es,l=>ev e l |>.bind λ(v,l)=>bu ev es l |>.bind λ(vs,l)=>.ok (v.D::vs,l)
noncomputable def gu(ev:Expr->Loc->Res (MV×Loc)):List Expr->Loc->Res (List MV×Loc)
 |[],l=>.ok ([],l)
 |e::es,l=>ev e l |>.bind λ(v,l)=>gu ev es l |>.bind λ(vs,l)=>.ok (v::vs,l)
noncomputable def aF(ev:Expr->Loc->Res (MV×Loc))(e:Expr)(l:Loc):Res (D×Loc):=ev e l |>.bind λ(v,l)=>.ok (v.D,l)
noncomputable def isLocal(x:Str):Bool:=X.kind x==some .local||X.kind x==some .cell
noncomputable def readName(x:Str)(l:Loc):Res (MV×Loc):=
 if isLocal X x then
  match l.get? x with
  |some (.d v)=>.ok (.d v,l)
  |some (.own o)=>.ok (.d o.D,l.set x (.d o.D))
  |none=>.stuck
 else if X.kind x==some .globalImplicit then
  match X.glob x with
  |some (.data v)=>if GB 10 v then .ok (.d v,l) else .stuck
  |some (.fn i)=>.ok (.d (.fn i),l)
  |_=>.stuck
 else .stuck
noncomputable def ck(ev:Expr->Loc->Res (MV×Loc))(a:D):List CmpOp->List Expr->Loc->Res (Bool×Loc)
 |[op],[e],l=>aF ev e l |>.bind λ(b,l)=>(Res.of (n9 op a b)).bind λr=>.ok (r,l)
 |op::z::ops,e::u::es,l=>aF ev e l |>.bind λ(b,l)=>(Res.of (n9 op a b)).bind λr=>if r then ck ev b (z::ops) (u::es) l else .ok (false,l)
 |_,_,_=>.stuck
noncomputable def fu(ev:Expr->Loc->Res (MV×Loc))(z:Bool):List Expr->Loc->Res (MV×Loc)
 |[e],l=>ev e l
 |e::es,l=>ev e l |>.bind λ(v,l)=>(Res.of v.D.truthy).bind λt=>if t==z then fu ev z es l else .ok (v,l)
 |[],_=>.stuck
noncomputable def i_(ev:Expr->Loc->Res (MV×Loc)):Option Expr->Loc->Res (Option SI×Loc)
 |none,l=>.ok (none,l)
 |some e,l=>aF ev e l |>.bind λ(v,l)=>(Res.of (bQ v)).bind λi=>.ok (some i,l)
noncomputable def eX(v:D)(a:Str):Res D:=match v with
 | .obj C fs=>if X.attr C a then Res.of (fR fs a) else .stuck
 |_=>.stuck
noncomputable def cy(ev:Expr->Loc->Res (MV×Loc))(i:Nat)(x:Str)(rest:List Expr)(l:Loc):Res (MV×Loc):=
 match l.get? x with
 |none=>.stuck
 |some _=>bu ev rest l |>.bind λ(ds,l)=>
  match l.get? x with
  |some v=>X.call i (v::ds.map .d) |>.bind λ(r,B)=>.ok (r,l.set x B)
  |none=>.stuck
noncomputable def dQ(ev:Expr->Loc->Res (MV×Loc))(i:Nat)(u:List Expr)(l:Loc):Res (MV×Loc):=
 bu ev u l |>.bind λ(ds,l)=>X.call i (ds.map .d) |>.bind λ(r,_)=>.ok (r,l)
noncomputable def ja(ev:Expr->Loc->Res (MV×Loc))(i:Nat)(u:List Expr)(l:Loc):Res (MV×Loc):=
 if !X.isFn i then .stuck else
 match u with
 |[]=>dQ X ev i u l
 |a::rest=>match nameOf a with
  |none=>dQ X ev i u l
  |some x=>if isLocal X x then cy X ev i x rest l else dQ X ev i u l
noncomputable def ml:MV->Bool
 | .d .none=>true
 |_=>false
noncomputable def lN(ev:Expr->Loc->Res (MV×Loc))(C z:Nat)(u:List Expr)(l:Loc):Res (MV×Loc):=
 bu ev u l |>.bind λ(ds,l)=>X.call z (.own (.obj C [])::ds.map .d) |>.bind λ(r,v)=>
  if ml r then .ok (v,l) else .stuck
noncomputable def fW(ev:Expr->Loc->Res (MV×Loc))(x m:Str)(u:List Expr)(l:Loc):Res (MV×Loc):=
 if m≠"append"/\m≠"extend" then .stuck else
 match u with
 |[a]=>aF ev a l |>.bind λ(d,l)=>
  (match l.get? x with
   |some (.own (.lst xs))=>
    if m="append" then(if dP xs<lim/\aC d=false then .ok (.d .none,l.set x (.own (.lst (xs++[d])))) else .stuck)
    else
     (match d with
     | .lst ys=>if dP xs+dP ys<lim then .ok (.d .none,l.set x (.own (.lst (xs++ys)))) else .stuck
     |_=>.stuck)
   |_=>.stuck)
 |_=>.stuck
noncomputable def hX(ev:Expr->Loc->Res (MV×Loc))(z:Expr)(m:Str)(u:List Expr)(l:Loc):Res (MV×Loc):=
 aF ev z l |>.bind λ(d,l)=>
  match d with
  | .obj C fs=>
   if(fR fs m).isSome then .stuck else
   (match X.cC C m with
    |some i=>bu ev u l |>.bind λ(ds,l)=>X.call i (.d d::ds.map .d) |>.bind λ(r,_)=>.ok (r,l)
    |none=>.stuck)
  |d=>(Res.of (mid d m)).bind λB=>bu ev u l |>.bind λ(ds,l)=>(Res.of (fV d m ds)).bind λr=>.ok (r,l)
noncomputable def eY(ev:Expr->Loc->Res (MV×Loc))(z:Expr)(m:Str)(u:List Expr)(l:Loc):Res (MV×Loc):=
 match nameOf z with
 |some x=>
  if isLocal X x then
   match l.get? x with
   |some (.own (.lst _))=>fW ev x m u l
   |some v=>if IQ v.D then .stuck else
    (match v.D with
     | .obj C fs=>
      if(fR fs m).isSome then .stuck else
      (match X.cC C m with
       |some i=>cy X ev i x u l
       |none=>.stuck)
     |_=>hX X ev z m u l)
   |none=>.stuck
  else hX X ev z m u l
 |none=>hX X ev z m u l
noncomputable def ay(l:Loc):Expr->D->Res Loc
 | .Name x _,d=>.ok (l.set x (.d d))
 | .Tuple z _ _,d=>match d with
  | .tup ds=>go l z ds
  | .lst ds=>if aG ds then .stuck else go l z ds
  |_=>.stuck
 |_,_=>.stuck
where
 go (l:Loc):List Expr->List D->Res Loc
 |[],[]=>.ok l
 | .Name x _::z,d::ds=>go (l.set x (.d d)) z ds
 |_,_=>.stuck
noncomputable def bX(scope:Scope)(l:Loc):Option Loc:=
 cE (λp=>(l.get? p.1).bind λv=>match v with
  | .d x=>some (p.1,.d x)
  | .own _=>none) (scope.names.filter λp=>p.2==.free)
noncomputable def bR(scope:Scope)(l:Loc):Bool:=scope.names.all λp=>p.2 !=.free||(l.get? p.1).isSome
noncomputable def d5{z:Type}:Res z->Res z
 | .exc=>.stuck
 |r=>r
noncomputable def bS(tv:Expr->Loc->Res (Bool×Loc)):List Expr->Loc->Res (Bool×Loc)
 |[],l=>.ok (true,l)
 |c::O,l=>d5 (tv c l) |>.bind λ(t,l)=>if t then bS tv O l else .ok (false,l)
noncomputable def aR(ev:Expr->Loc->Res (MV×Loc))(tv:Expr->Loc->Res (Bool×Loc))(cl:Loc)(x:Str)(ifs:List Expr)(elt:Expr):List D->Res (List D)
 |[]=>.ok []
 |d::ds=>bS tv ifs (cl.set x (.d d)) |>.bind λ(t,l)=>
   if t then d5 (aF ev elt l) |>.bind λ(v,_)=>aR ev tv cl x ifs elt ds |>.bind λvs=>if vs.length<lim/\aC v=false then .ok (v::vs) else .stuck
   else aR ev tv cl x ifs elt ds
noncomputable def dk(scope:Scope)(x:Str):Option NameKind:=match scope.names.lookup x with
 |some .free=>some .cell
 |k=>k
noncomputable def cF(scope:Scope)(x:Str):Bool:=
 scope.kind==.function&&scope.names.lookup x==some .local&&(scope.names.lookup ("__debug__":Str)).isNone&&
  (scope.names.all λp=>p.2 !=.cell&&(p.2 !=.free||(X.kind p.1==some .cell&&scope.names.lookup p.1==some .free))&&(p.2 !=.local||scope.names.lookup p.1==some .local))&&decide ((scope.names.map (·.1)).Nodup)
end
noncomputable def Cx.comp(X:Cx)(scope:Scope):Cx:={X with kind:=dk scope,pin:=none}
noncomputable def dy(ev:Expr->Loc->Res (MV×Loc))(a:Expr)(ops:List CmpOp)(es:List Expr)(l:Loc):Res (Bool×Loc):=
 if lastMarks ops es then .stuck else
 aF ev a l |>.bind λ(x,l)=>ck ev x ops es l
noncomputable def iI(tv:Expr->Loc->Res (Bool×Loc))(z:Bool):List Expr->Loc->Res (Bool×Loc)
 |[],l=>.ok (z,l)
 |e::es,l=>tv e l |>.bind λ(t,l)=>if t==z then iI tv z es l else .ok (t,l)
noncomputable def cQ(e:Expr):Bool:=la e true (ca:= λf a k=> !((nameOf f).isSome&&a.isEmpty&&k.isEmpty))
noncomputable def notStar(e:Expr):Bool:=la e true (st:=false)
noncomputable def aP(u:List Expr):Bool:=u.length<30&&u.all notStar
noncomputable def Jt:Const->Option Str
 | .str s=>some s
 |_=>none
noncomputable def xX(e:Expr):Option Str:=(hN e).bind Jt
noncomputable def Dr(O:List (Option Expr))(vs:List Expr):Option D:=
 match O,vs with
 |[],[]=>some (.dN [])
 |[some k],[v]=>(xX k).bind λs=>(xX v).map λt=>.dN [(s.cps.toList,.str t.cps.toList)]
 |_,_=>none
noncomputable def Ef(ev:Expr->Loc->Res (MV×Loc))(es:List Expr)(l:Loc):Res (MV×Loc):=bu ev es l |>.bind λ(ds,l)=>if ds.length<=lim then .ok (.d (.tup ds),l) else .stuck
noncomputable def listE(ev:Expr->Loc->Res (MV×Loc))(es:List Expr)(l:Loc):Res (MV×Loc):=bu ev es l |>.bind λ(ds,l)=>if ds.length<=lim/\aG ds=false then .ok (.own (.lst ds),l) else .stuck
noncomputable def Eg(ev:Expr->Loc->Res (MV×Loc))(a:Expr)(op:Operator)(b:Expr)(l:Loc):Res (MV×Loc):=aF ev a l |>.bind λ(x,l)=>aF ev b l |>.bind λ(y,l)=>(Res.of (binop op x y)).bind λr=>.ok (r,l)
noncomputable def G1(ev:Expr->Loc->Res (MV×Loc))(op:UnaryOp)(a:Expr)(l:Loc):Res (MV×Loc):=match op with
 | .Not=>ev a l |>.bind λ(v,l)=>(Res.of v.D.truthy).bind λt=>.ok (.d (.bool !t),l)
 | .USub=>(match hN a with
  |none=>.stuck
  |some c=>(match c with
   | .int i=>.ok (.d (.int (-i)),l)
   |_=>.stuck))
 | .Invert=>.stuck
 | .UAdd=>.stuck
noncomputable def n_(X:Cx)(ev:Expr->Loc->Res (MV×Loc))(v:Expr)(a:Str)(l:Loc):Res (MV×Loc):=
 if !cQ v then .stuck else
 match nameOf v with
 |some x=>if isLocal X x then
   (match l.get? x with
    |some v=>(eX X v.D a).bind λd=>.ok (.d d,l)
    |none=>.stuck)
   else .stuck
 |none=>aF ev v l |>.bind λ(d,l)=>(eX X d a).bind λd=>.ok (.d d,l)
noncomputable def qK(ev:Expr->Loc->Res (MV×Loc))(v i:Expr)(l:Loc):Res (MV×Loc):=
 match i8 i with
 |some (lo,u)=>aF ev v l |>.bind λ(d,l)=>i_ ev lo l |>.bind λ(i,l)=>i_ ev u l |>.bind λ(j,l)=>(Res.of (sliced d i j)).bind λr=>.ok (.d r,l)
 |none=>aF ev v l |>.bind λ(d,l)=>aF ev i l |>.bind λ(j,l)=>(Res.of (eu d j)).bind λr=>.ok (.d r,l)
noncomputable def km(ev:Expr->Loc->Res (MV×Loc))(b:Bi)(u:List Expr)(l:Loc):Res (MV×Loc):=bu ev u l |>.bind λ(ds,l)=>(Res.of (hU b ds)).bind λr=>.ok (r,l)
noncomputable def pG(X:Cx)(H:Nat)(d:D)(l:Loc):Res (MV×Loc):=match d with
 | .obj C _=>if X.hK C H then .ok (.d (.bool (C==H)),l) else .stuck
 |_=>.stuck
noncomputable def qL:Option GV->Option Nat
 |some g=>(match g with
  | .cls C _=>some C
  |_=>none)
 |none=>none
noncomputable def xY(X:Cx)(ev:Expr->Loc->Res (MV×Loc))(u:List Expr)(l:Loc):Res (MV×Loc):=match u with
 |[a,c]=>(match nameOf c with
  |none=>.stuck
  |some c=>if X.kind c !=some .globalImplicit then .stuck else
   (match qL (X.glob c) with
    |none=>.stuck
    |some H=>aF ev a l |>.bind λ(d,l)=>pG X H d l))
 |_=>.stuck
noncomputable def s8(X:Cx)(ev:Expr->Loc->Res (MV×Loc))(u:List Expr)(l:Loc):Res (MV×Loc):=match u.head?.bind nameOf with
 |none=>km ev .len u l
 |some x=>if isLocal X x&&u.length==1 then
   (match l.get? x with
    |some v=>(Res.of (fU v.D)).bind λn=>.ok (.d n,l)
    |none=>.stuck)
  else km ev .len u l
noncomputable def Ju(X:Cx)(ev:Expr->Loc->Res (MV×Loc))(b:Bi)(u:List Expr)(l:Loc):Res (MV×Loc):=
 if b= .isinstance then xY X ev u l else if b= .len then s8 X ev u l else km ev b u l
noncomputable def xZ(X:Cx)(ev:Expr->Loc->Res (MV×Loc))(g:Option GV)(u:List Expr)(l:Loc):Res (MV×Loc):=match g with
 |none=>.stuck
 |some g=>(match g with
  | .fn i=>ja X ev i u l
  | .cls C z=>lN X ev C z u l
  | .bi b=>Ju X ev b u l
  | .data _=>.stuck
  | .exc _=>.stuck)
noncomputable def GF:Option MV->Option Nat
 |some v=>(match v with
  | .d x=>(match x with
   | .fn i=>some i
   |_=>none)
  | .own _=>none)
 |none=>none
noncomputable def iJ(X:Cx)(ev:Expr->Loc->Res (MV×Loc))(f:Str)(u:List Expr)(l:Loc):Res (MV×Loc):=
 if !aP u then .stuck else
 if isLocal X f then
  (match GF (l.get? f) with
   |some i=>ja X ev i u l
   |none=>.stuck)
 else if X.kind f==some .globalImplicit then xZ X ev (X.glob f) u l
 else .stuck
noncomputable def Ds(X:Cx)(ev:Expr->Loc->Res (MV×Loc))(f:Expr)(u:List Expr)(pos:Pos)(l:Loc):Res (MV×Loc):=match f with
 | .Attribute z m O=>if cQ z&&aP u&&O.endLine==pos.line then eY X ev z m u l else .stuck
 |_=>.stuck
noncomputable def oa(X:Cx)(ev:Expr->Loc->Res (MV×Loc))(f:Expr)(u:List Expr)(z:List Keyword)(pos:Pos)(l:Loc):Res (MV×Loc):=
 match z with
 |_::_=>.stuck
 |[]=>(match nameOf f with
  |some f=>iJ X ev f u l
  |none=>Ds X ev f u pos l)
noncomputable def pH(B:List Comprehension):Option (Str×Comprehension):=match B with
 |[g]=>if g.is_async=0 then(nameOf g.target).map λx=>(x,g) else none
 |_=>none
noncomputable def gY(X:Cx)(ev u:Expr->Loc->Res (MV×Loc))(O:Expr->Loc->Res (Bool×Loc))(elt:Expr)(B:List Comprehension)(scope:Scope)(l:Loc):Res (MV×Loc):=
 match pH B with
 |none=>.stuck
 |some (x,g)=>
   if !(cF X scope x&&bR scope l) then .stuck else
   aF ev g.iter l |>.bind λ(d,l)=>(Res.of (itemsOf d)).bind λitems=>(Res.of (bX scope l)).bind λcl=>
    aR u O cl x g.ifs elt items |>.bind λds=>.ok (.own (.lst ds),l)
noncomputable def plainT(ev:Expr->Loc->Res (MV×Loc))(e:Expr)(l:Loc):Res (Bool×Loc):=ev e l |>.bind λ(v,l)=>(Res.of v.D.truthy).bind λt=>.ok (t,l)
mutual
noncomputable def ak:Nat->Cx->Expr->Loc->Res (MV×Loc)
 |0,_,_,_=>.stuck
 |k+1,X,e,l=>
  match e with
  | .Constant c _ _=>(Res.of (pB c)).bind λd=>.ok (.d d,l)
  | .Name x _=>readName X x l
  | .Tuple es _ _=>Ef (ak k X) es l
  | .List es _=>listE (ak k X) es l
  | .Dict O vs _=>(Res.of (Dr O vs)).bind λd=>.ok (.d d,l)
  | .BinOp a op b _=>Eg (ak k X) a op b l
  | .UnaryOp op a _=>G1 (ak k X) op a l
  | .Compare a ops es _=>dy (ak k X) a ops es l |>.bind λ(t,l)=>.ok (.d (.bool t),l)
  | .BoolOp op es _=>fu (ak k X) (op==.And) es l
  | .IfExp t a b _=>bT k X t l |>.bind λ(t,l)=>if t then ak k X a l else ak k X b l
  | .Attribute v a _=>n_ X (ak k X) v a l
  | .Subscript v i _=>qK (ak k X) v i l
  | .Call f u z pos=>oa X (ak k X) f u z pos l
  | .ListComp elt B scope _=>gY X (ak k X) (ak k (X.comp scope)) (bT k (X.comp scope)) elt B scope l
  | .NamedExpr _ _ _=>.stuck
  | .Lambda _ _ _ _=>.stuck
  | .Set _ _ _=>.stuck
  | .SetComp _ _ _ _=>.stuck
  | .DictComp _ _ _ _ _=>.stuck
  | .GeneratorExp _ _ _ _=>.stuck
  | .Await _ _=>.stuck
  | .Yield _ _=>.stuck
  | .YieldFrom _ _=>.stuck
  | .FormattedValue _ _ _ _=>.stuck
  | .JoinedStr _ _=>.stuck
  | .Starred _ _=>.stuck
  | .Slice _ _ _ _=>.stuck
noncomputable def bT:Nat->Cx->Expr->Loc->Res (Bool×Loc)
 |0,_,_,_=>.stuck
 |k+1,X,e,l=>
  match e with
  | .UnaryOp op x _=>if op= .Not then(bT k X x l |>.bind λ(t,l)=>.ok (!t,l)) else .stuck
  | .BoolOp op es _=>iI (bT k X) (op==.And) es l
  | .IfExp t a b _=>bT k X t l |>.bind λ(t,l)=>if t then bT k X a l else bT k X b l
  | .Compare a ops es _=>dy (ak k X) a ops es l
  | .Constant _ _ _=>plainT (ak k X) e l
  | .Name _ _=>plainT (ak k X) e l
  | .Tuple _ _ _=>.stuck
  | .List _ _=>.stuck
  | .Dict _ _ _=>.stuck
  | .BinOp _ _ _ _=>.stuck
  | .Attribute _ _ _=>plainT (ak k X) e l
  | .Subscript _ _ _=>plainT (ak k X) e l
  | .Call _ _ _ _=>plainT (ak k X) e l
  | .ListComp _ _ _ _=>.stuck
  | .NamedExpr _ _ _=>.stuck
  | .Lambda _ _ _ _=>.stuck
  | .Set _ _ _=>.stuck
  | .SetComp _ _ _ _=>.stuck
  | .DictComp _ _ _ _ _=>.stuck
  | .GeneratorExp _ _ _ _=>.stuck
  | .Await _ _=>.stuck
  | .Yield _ _=>.stuck
  | .YieldFrom _ _=>.stuck
  | .FormattedValue _ _ _ _=>.stuck
  | .JoinedStr _ _=>.stuck
  | .Starred _ _=>.stuck
  | .Slice _ _ _ _=>.stuck
end
noncomputable def bP(n:Nat):List D:=(List.range n).map λi=>.int (i:Nat)
noncomputable def gv(l:Loc):List Str->List MV->Res Loc
 |[],[]=>.ok l
 |x::z,d::ds=>gv (l.set x d) z ds
 |_,_=>.stuck
noncomputable def bq(X:Cx):Expr->Bool
 | .Name x _=>isLocal X x
 | .Tuple z _ _=>z.all λt=>match t with
  | .Name x _=>isLocal X x
  |_=>false
 |_=>false
noncomputable def bf(X:Cx)(z:List Expr):List Str:=z.filterMap λt=>match t with
 | .Name id pos=>if X.kind id==some .local&&pos.line==(z.head?.map (·.pos.line)).getD 0 then some id else none
 |_=>none
noncomputable def jb(X:Cx)(z vs:List Expr):Bool:=
 (z.length==2||z.length==3)&&vs.length==z.length&&vs.all notStar&&(bf X z).length==z.length&&(bf X z).eraseDups.length==(bf X z).length&& !vs.all (foldedForSure 8)&& !vs.all (constantsAlone 8)
noncomputable def x5(e:Expr):Bool:=la e false (lc:= λB B B=>true) (cp:=true)
noncomputable def mn:MV->Bool
 | .d .none=>true
 | .d (.bool _)=>true
 | .d (.int _)=>true
 | .d (.str _)=>true
 | .d (.bytes _)=>true
 |_=>false
noncomputable def pinned(X:Cx):Expr->Bool
 | .Name x _=>X.pin==some x
 | .Tuple z _ _=>z.any λt=>match t with
  | .Name x _=>X.pin==some x
  |_=>true
 |_=>false
noncomputable def hY:Option MV->Option (Nat×List (Str×D))
 |some v=>(match v with
  | .own o=>(match o with
   | .obj C fs=>some (C,fs)
   | .lst _=>none)
  | .d _=>none)
 |none=>none
noncomputable def h_:Option MV->Option (List D)
 |some v=>(match v with
  | .own o=>(match o with
   | .lst xs=>some xs
   | .obj _ _=>none)
  | .d _=>none)
 |none=>none
noncomputable def ko(X:Cx)(ev:Expr->Loc->Res (MV×Loc))(t:Expr)(z:List Expr)(e:Expr)(l:Loc):Res Loc:=
 if !bq X t then .stuck else
 match xV e with
 |some es=>if jb X z es then gu ev es l |>.bind λ(vs,l)=>if vs.length<=lim then gv l (bf X z).reverse vs.reverse else .stuck else .stuck
 |none=>(match nameOf e with
  |some x=>
    if isLocal X x then
     (match l.get? x with
     |some v=>ay l t v.D
     |none=>.stuck)
    else .stuck
  |none=>aF ev e l |>.bind λ(d,l)=>ay l t d)
noncomputable def iK(X:Cx)(ev:Expr->Loc->Res (MV×Loc))(o:Expr)(a:Str)(e:Expr)(l:Loc):Res Loc:=
 match nameOf o with
 |none=>.stuck
 |some x=>aF ev e l |>.bind λ(d,l)=>
  (match hY (l.get? x) with
   |some (C,fs)=>if isLocal X x&&X.attr C a&&fs.length<900 then .ok (l.set x (.own (.obj C (nX fs a d)))) else .stuck
   |none=>.stuck)
noncomputable def kq(X:Cx)(ev:Expr->Loc->Res (MV×Loc))(o i e:Expr)(l:Loc):Res Loc:=
 match nameOf o with
 |none=>.stuck
 |some x=>aF ev e l |>.bind λ(d,l)=>
  if(l.get? x).isNone then .stuck else
  aF ev i l |>.bind λ(j,l)=>
    (match h_ (l.get? x) with
    |none=>.stuck
    |some xs=>if isLocal X x&&(xs.length<=lim&& !(aG xs||aC d)) then(Res.of ((vInt j).bind (index xs.length))).bind λj=>.ok (l.set x (.own (.lst (xs.set j d)))) else .stuck)
noncomputable def G2(X:Cx)(ev:Expr->Loc->Res (MV×Loc))(t:Expr)(e:Expr)(l:Loc):Res Loc:=
 la t .stuck (nm:= λx=>if isLocal X x then ev e l |>.bind λ(v,l)=>.ok (l.set x v) else .stuck) (tp:= λz=>ko X ev t z e l) (at_:= λo a=>iK X ev o a e l) (sb:= λo i=>kq X ev o i e l)
noncomputable def fX(X:Cx)(ev:Expr->Loc->Res (MV×Loc))(t:Expr)(e:Expr)(l:Loc):Res Loc:=
 if pinned X t then .stuck else G2 X ev t e l
noncomputable def bg(u:Loc->Res (Bool×Loc))(body:Loc->Res (Fl×Loc)):Nat->Loc->Res (Fl×Loc)
 |0,_=>.stuck
 |n+1,l=>u l |>.bind λ(t,l)=>
  if t then body l |>.bind λ(f,l)=>match f with
   | .next=>bg u body n l
   | .cont=>bg u body n l
   | .brk=>.ok (.next,l)
   | .ret v=>.ok (.ret v,l)
  else .ok (.next,l)
noncomputable def forL(u:Expr)(body:Loc->Res (Fl×Loc)):List D->Loc->Res (Fl×Loc)
 |[],l=>.ok (.next,l)
 |d::ds,l=>(ay l u d).bind λl=>body l |>.bind λ(f,l)=>match f with
   | .next=>forL u body ds l
   | .cont=>forL u body ds l
   | .brk=>.ok (.next,l)
   | .ret v=>.ok (.ret v,l)
noncomputable def ku:Option GV->Bool
 |some (.exc _)=>true
 |_=>false
noncomputable def og(e:Expr):Option (Str×List Expr):=la e none (ca:= λf u z=>match z with
  |[]=>(nameOf f).map λx=>(x,u)
  |_::_=>none)
noncomputable def cJ(X:Cx)(e:Expr):Option Expr:=match og e with
 |none=>none
 |some (f,u)=>(match u with
  |[a]=>if X.kind f==some .globalImplicit&&aP [a] then(match X.glob f with
   |some (.bi .range)=>some a
   |_=>none) else none
  |_=>none)
noncomputable def Br(X:Cx)(ev:Expr->Loc->Res (MV×Loc))(z:List Expr)(e:Expr)(l:Loc):Res (Fl×Loc):=match z with
 |[t]=>(fX X ev t e l).bind λl=>.ok (.next,l)
 |_=>.stuck
noncomputable def x6(t:Expr)(body:Loc->Res (Fl×Loc))(n:Int)(l:Loc):Res (Fl×Loc):=if 0<=n/\n<lim then forL t body (bP n.toNat) l else .stuck
noncomputable def lC(X:Cx)(ev:Expr->Loc->Res (MV×Loc))(body:Loc->Res (Fl×Loc))(t z:Expr)(l:Loc):Res (Fl×Loc):=
 if pinned X t|| !bq X t then .stuck else
 match cJ X z with
 |some a=>aF ev a l |>.bind λ(d,l)=>(Res.of (vInt d)).bind λn=>x6 t body n l
 |none=>aF ev z l |>.bind λ(d,l)=>(Res.of (itemsOf d)).bind λitems=>forL t body items l
noncomputable def retS(X:Cx)(ev:Expr->Loc->Res (MV×Loc))(e:Option Expr)(l:Loc):Res (Fl×Loc):=match e with
 |none=>.ok (.ret (.d .none),l)
 |some e=>(match nameOf e with
  |some x=>
    if isLocal X x then
     (if X.pin==some x then .stuck else
     match l.get? x with
     |some v=>.ok (.ret v,l)
     |none=>.stuck)
    else ev e l |>.bind λ(v,l)=>.ok (.ret v,l)
  |none=>ev e l |>.bind λ(v,l)=>.ok (.ret v,l))
noncomputable def kv(X:Cx)(ev:Expr->Loc->Res (MV×Loc))(e c:Option Expr)(l:Loc):Res (Fl×Loc):=match e,c with
 |some e,none=>(match og e with
  |none=>.stuck
  |some (c,u)=>if c="WordFault"&&X.kind c==some NameKind.globalImplicit&&ku (X.glob c)&&aP u&&u.length==2 then bu ev u l |>.bind λB=>.exc else .stuck)
 |_,_=>.stuck
noncomputable def vI:List Stmt->Option Expr
 |[s]=>uG s none (rt:=id)
 |_=>none
noncomputable def isNil(e:Expr):Bool:=la e false (ls:=List.isEmpty)
noncomputable def x7(b:List Stmt):Bool:=match vI b with
 |some e=>isNil e
 |none=>false
noncomputable def oh:List ExceptHandler->Option Str
 |[h]=>(match h with
  | .ExceptHandler t nm b _=>if nm.isNone&&x7 b then t.bind nameOf else none)
 |_=>none
noncomputable def vJ(X:Cx)(ev:Expr->Loc->Res (MV×Loc))(b:List Stmt)(hs:List ExceptHandler)(u fin:List Stmt)(l:Loc):Res (Fl×Loc):=
 if hs.isEmpty|| !u.isEmpty|| !fin.isEmpty then .stuck else
 match vI b with
 |none=>.stuck
 |some e=>
  (match ev e l with
   | .ok (v,l')=>.ok (.ret v,l')
   | .stuck=>.stuck
   | .exc=>(match oh hs with
    |none=>.stuck
    |some c=>if c="WordFault"&&X.kind c==some NameKind.globalImplicit&&ku (X.glob c)&&l.all (λp=>match p.2 with| .d _=>true| .own _=>false) then .ok (.ret (.own (.lst [])),l) else .stuck))
noncomputable def fY(X:Cx)(ev:Expr->Loc->Res (MV×Loc))(tv:Expr->Loc->Res (Bool×Loc))(B:List Stmt->Loc->Res (Fl×Loc))(s:Stmt)(l:Loc):Res (Fl×Loc):=
 match s with
 | .Assign z e _=>Br X ev z e l
 | .Expr e _=>if x5 e then .stuck else ev e l |>.bind λ(v,l)=>if mn v then .ok (.next,l) else .stuck
 | .If t a b _=>tv t l |>.bind λ(t,l)=>if t then B a l else B b l
 | .While t b u _=>if u.isEmpty then bg (tv t) (B b) X.w l else .stuck
 | .For t H b u _=>if u.isEmpty then lC X ev (B b) t H l else .stuck
 | .Return e _=>retS X ev e l
 | .Raise e c _=>kv X ev e c l
 | .Try b hs u fin _=>vJ X ev b hs u fin l
 | .Continue _=>.ok (.cont,l)
 | .Break _=>.ok (.brk,l)
 | .Pass _=>.ok (.next,l)
 |_=>.stuck
noncomputable def aw:Nat->Cx->List Stmt->Loc->Res (Fl×Loc)
 |0,_,_,_=>.stuck
 |_+1,_,[],l=>.ok (.next,l)
 |k+1,X,s::ss,l=>
  (fY X (ak k X) (bT k X) (aw k X) s l).bind λ(f,l)=>
   match f with
   | .next=>aw k X ss l
   |f=>.ok (f,l)
structure Fd where
 qual:Str
 params:List Str
 defaults:List D
 scope:Scope
 body:List Stmt
noncomputable def cf(params:List Str)(defaults:List D)(u:List MV):Option Loc:=
 if u.length<=params.length/\params.length<=u.length+defaults.length then
  some (params.zip (u++(defaults.drop (defaults.length-(params.length-u.length))).map .d))
 else none
noncomputable def jw(fd:Nat->Option Fd)(glob:Str->Option GV)(cC:Nat->Str->Option Nat)(attr:Nat->Str->Bool)(hK:Nat->Nat->Bool)(w:Nat):Nat->Nat->List MV->Res (MV×MV)
 |0,_,_=>.stuck
 |n+1,i,u=>
  match fd i with
  |none=>.stuck
  |some f=>
   match cf f.params f.defaults u with
   |none=>.stuck
   |some l=>
    let pin:=f.params.head?;let X:Cx:={kind:= λx=>f.scope.names.lookup x,glob:=glob,cC:=cC,attr:=attr,isFn:= λi=>(fd i).isSome,hK:=hK,call:=jw fd glob cC attr hK w n,w:=w,pin:=pin}
    (aw 60 X f.body l).bind λ(O,l)=>
     let back:MV:=(pin.bind l.get?).getD (.d .none)
     match O with
     | .next=>.ok (.d .none,back)
     | .ret v=>.ok (v,back)
     |_=>.stuck
theorem af{z:Type}{x:z}{P:Prop}(h:none=some x):P:=nomatch h
theorem dz{x:D}{a:Unit}(h:gX x=some a):x= .none:=by rcases x with _|_<;>first|exact af h|rfl
theorem fZ{x:D}{a:Bool}(h:vBool x=some a):x= .bool a:=by rcases x with _|_<;>first|exact af h|(cases h;rfl)
theorem aD{x:D}{a:Int}(h:vInt x=some a):x= .int a:=by rcases x with _|_<;>first|exact af h|(cases h;rfl)
theorem cz{x:D}{a:List Nat}(h:vStr x=some a):x= .str a:=by rcases x with _|_<;>first|exact af h|(cases h;rfl)
theorem aU{x:D}{a:List UInt8}(h:bH x=some a):x= .bytes a:=by rcases x with _|_<;>first|exact af h|(cases h;rfl)
theorem bI{x:D}{a:List D}(h:dg x=some a):x= .lst a:=by rcases x with _|_<;>first|exact af h|(cases h;rfl)
theorem eZ{x:D}{a:List D}(h:kg x=some a):x= .tup a:=by rcases x with _|_<;>first|exact af h|(cases h;rfl)
theorem ar{z O:Type}{o:Option z}{f:z->O}{b:O}(h:o.map f=some b): ∃a,o=some a/\f a=b:=by
 rcases o with _|a
 .exact af h
 .exact⟨a,rfl,Option.some.inj h⟩
theorem ae{z O:Type}{o:Option z}{f:z->Option O}{b:O}(h:o.bind f=some b): ∃a,o=some a/\f a=some b:=by
 rcases o with _|a
 .exact af h
 .exact⟨a,rfl,h⟩
theorem pI{z:Type}{c:Prop}[Decidable c]{r s:Res z}(h:(if c then .stuck else r)=s)(hs:s≠.stuck):r=s:=by
 by_cases q:c
 .rw[if_pos q] at h;exact absurd h.symm hs
 .rw[if_neg q] at h;exact h
theorem jx{z:Type}{c:Prop}[Decidable c]{a:Option z}{b:z}(h:(if c then none else a)=some b):a=some b:=by
 by_cases q:c
 .rw[if_pos q] at h;exact af h
 .rw[if_neg q] at h;exact h
theorem mq{z:Type}{c:Prop}[Decidable c]{a b:z}(h:(if c then none else some a)=some b):a=b:=Option.some.inj (jx h)
theorem jy(xs:List D):xs.length<=dP xs:=by
 induction xs with
 |nil=>exact Nat.le_refl _
 |cons x r B=>
  have:1<=(if aC x then big else 1):=by cases aC x<;>decide
  show r.length+1<=_+dP r;rw[Nat.add_comm];exact Nat.add_le_add this B
theorem aJ{z:Type}{c:Prop}[Decidable c]{a b:z}(h:(if c then some a else none)=some b):c/\a=b:=by
 by_cases q:c
 .rw[if_pos q] at h;exact⟨q,Option.some.inj h⟩
 .rw[if_neg q] at h;exact af h
end
noncomputable def pw:Program:=PySem.Challenge.pw_nz0339_01
noncomputable def s9:List Stmt:=pw.main.body
noncomputable def Jv:Const->Option D
 | .int i=>some (.int (-i))
 |_=>none
noncomputable def constOf(e:Expr):Option D:=la e none (ct:=pB) (un:= λo a=>match o with
 | .USub=>(hN a).bind Jv
 | .Not=>none
 | .Invert=>none
 | .UAdd=>none)
noncomputable def fdOf(s:Stmt):Option Fd:=uG s none (fn:= λname u body scope=>(cE constOf u.defaults).map λds=>{qual:=name,params:=u.args.map (·.arg),defaults:=ds,scope:=scope,body:=body})
noncomputable def bodyOf(s:Stmt):List Stmt:=uG s [] (cl:= λb B=>b)
noncomputable def Eh(s:Stmt):List Str:=uG s [] (cl:= λB a=>a)
noncomputable def fnName(s:Stmt):Option Str:=uG s none (fn:= λn B B B=>some n)
noncomputable def ia(i:Nat):Option Fd:=
 (s9[i/100]?).bind λs=>if i%100=0 then fdOf s else((bodyOf s)[i%100-1]?).bind fdOf
noncomputable def pJ(m:Str):List Stmt->Nat->Option Nat
 |[],_=>none
 |s::r,k=>if fnName s=some m then some k else pJ m r (k+1)
noncomputable def jc(C:Nat)(m:Str):Option Nat:=
 bif Nat.beq C 2 then none else(s9[C]?).bind λs=>(pJ m (bodyOf s) 0).map λk=>100*C+k+1
noncomputable def jd(C:Nat)(a:Str):Bool:=bif Nat.beq C 2 then false else((s9[C]?).map λs=>(Eh s).contains a).getD false
inductive GT where
 |e|n (code:Nat) (key:List Nat) (g:GV) (l r:GT)
noncomputable def x8:List Nat->List Nat->Bool
 |[],y=>y.isEmpty
 |a::x,y=>match y with
  |[]=>false
  |b::y=>Nat.beq a b&&x8 x y
noncomputable def Bs(O:List Nat):Nat:=O.foldl (λa c=>a*128+c) 1
noncomputable def GT.find(c:Nat)(O:List Nat):GT->Option GV
 | .e=>none
 | .n k B g l r=>bif Nat.beq c k then(bif x8 O B then some g else none) else bif Nat.blt c k then find c O l else find c O r
noncomputable def vK:D:=(.bytes [40,41,60,62,64,44,59,58,92,34,47,91,93,63,61])
noncomputable def qM:D:=(.tup [(.str [117,115,45,97,115,99,105,105]),(.str [105,115,111,45,56,56,53,57,45,49]),(.str [117,116,102,45,56])])
noncomputable def qN:D:=(.tup [(.tup [(.bytes [106,64,120,46,111,114,103]),(.lst [(.lst [.none,.none,(.bytes [106]),(.bytes [120,46,111,114,103])])])]),(.tup [(.bytes [74,111,32,66,32,60,107,64,121,62,32,44]),(.lst [(.lst [(.bytes [74,111,32,66]),.none,(.bytes [107]),(.bytes [121])])])]),(.tup [(.bytes [34,65,44,32,92,34,66,34,32,40,99,32,40,100,41,41,32,60,64,114,44,64,115,58,108,64,91,49,46,50,93,62,44,13,10,32,109,32,64,32,122]),(.lst [(.lst [(.bytes [65,44,32,34,66]),.none,(.bytes [108]),(.bytes [91,49,46,50,93])]),(.lst [.none,.none,(.bytes [109]),(.bytes [122])])])]),(.tup [(.bytes [117,115,58,32,110,64,111,44,32,112,64,113,59]),(.lst [(.lst [.none,.none,(.bytes [117,115]),.none]),(.lst [.none,.none,(.bytes [110]),(.bytes [111])]),(.lst [.none,.none,(.bytes [112]),(.bytes [113])]),(.lst [.none,.none,.none,.none])])]),(.tup [(.bytes [110,111,110,101,58,59]),(.lst [(.lst [.none,.none,(.bytes [110,111,110,101]),.none]),(.lst [.none,.none,.none,.none])])]),(.tup [(.bytes [110,111,32,111,110,101]),.none]),(.tup [(.bytes []),(.lst [])])])
noncomputable def nY:D:=(.bytes [33,35,36,37,38,39,42,43,45,47,61,63,94,95,96,123,124,125,126])
noncomputable def pK:D:=(.tup [(.bytes [115]),(.bytes [60,105,64,120,62]),(.bytes [100,32,101]),(.bytes [101,110]),(.bytes [108])])
noncomputable def pL:D:=(.tup [(.bytes [70,114,111,109]),(.bytes [115,101,110,100,101,114]),(.bytes [82,101,112,108,121,45,84,111]),(.bytes [84,111])])
noncomputable def nZ:D:=(.tup [(.tup [(.bytes [83,117,98,106,101,99,116,58,32,115]),(.int (0))]),(.tup [(.bytes [67,111,110,116,101,110,116,45,73,68,58,32,32,60,105,64,120,62,32]),(.int (1))]),(.tup [(.bytes [99,111,110,116,101,110,116,45,100,101,115,99,114,105,112,116,105,111,110,58,32,100,13,10,32,101]),(.int (2))]),(.tup [(.bytes [67,111,110,116,101,110,116,45,76,97,110,103,117,97,103,101,58,32,101,110]),(.int (3))]),(.tup [(.bytes [67,111,110,116,101,110,116,45,76,111,99,97,116,105,111,110,58,32,108]),(.int (4))])])
noncomputable def lD:D:=(.tup [(.int (9)),(.int (10)),(.int (13)),(.int (32))])
noncomputable def jz:D:=(.tup [(.str [55,98,105,116]),(.str [56,98,105,116]),(.str [98,105,110,97,114,121])])
noncomputable def globT:GT:=(.n 2064649317184081539699 [95,108,97,119,95,119,111,114,100,115] (.data pL) (.n 128281563469706478 [99,111,108,111,110,95,105,110] (.fn 1800) (.n 65166619621 [114,97,110,103,101] (.bi .range) (.n 448078648 [85,84,70,56] (.data (.str [117,116,102,45,56])) (.n 3930468 [111,114,100] (.bi .ord) (.n 3879662 [108,101,110] (.bi .len) (.n 3732594 [99,104,114] (.bi .chr) .e .e) (.n 3896558 [109,105,110] (.bi .min) .e .e)) (.n 437811572 [80,97,114,116] (.cls 108 10801) (.n 427456356 [75,105,110,100] (.cls 83 8301) .e .e) .e)) (.n 56794146643 [83,73,71,78,83] (.data (.bytes [60,62,64,44,59,58,46,92])) (.n 53372089956 [70,105,101,108,100] (.cls 15 1501) (.n 496663028 [108,105,115,116] (.bi .list) .e .e) (.n 53659564784 [71,114,111,117,112] (.cls 43 4301) .e .e)) (.n 63585514226 [108,111,119,101,114] (.fn 1000) (.n 60922082035 [98,121,116,101,115] (.bi .bytes) .e .e) .e))) (.n 993576221143284 [97,116,111,109,95,97,116] (.fn 3500) (.n 8379453747940 [115,111,114,116,101,100] (.bi .sorted) (.n 6731796903922 [67,117,114,115,111,114] (.cls 8 801) (.n 6683410866884 [66,65,82,82,69,68] (.data vK) .e .e) (.n 7234244667726 [82,69,84,85,82,78] (.data (.int (13))) .e .e)) (.n 904960843233272 [77,97,105,108,98,111,120] (.cls 42 4201) (.n 856056111751892 [66,82,65,67,75,69,84] (.data (.int (40))) .e .e) .e)) (.n 1068173373208550 [114,111,119,115,95,111,102] (.fn 2100) (.n 1041576490430708 [108,105,110,101,95,97,116] (.fn 1600) (.n 1028721940657893 [105,115,95,110,97,109,101] (.fn 1700) .e .e) .e) (.n 110094155835861587 [67,72,65,82,83,69,84,83] (.data qM) (.n 1072366037235686 [115,105,122,101,95,111,102] (.fn 13100) .e .e) .e)))) (.n 16772477030223295218 [104,97,115,95,105,110,110,101,114] (.fn 11300) (.n 15555374995256211060 [87,111,114,100,70,97,117,108,116] (.exc 3) (.n 133347800050563046 [108,111,99,97,108,95,111,102] (.fn 4700) (.n 131034976819508206 [104,97,115,95,115,105,103,110] (.fn 7200) (.n 129403406239135845 [101,110,118,101,108,111,112,101] (.fn 12400) .e .e) (.n 133321790775195492 [108,105,110,101,95,101,110,100] (.fn 3100) .e .e)) (.n 138410058422235876 [117,110,102,111,108,100,101,100] (.fn 2200) (.n 137851675633774836 [116,111,107,101,110,95,97,116] (.fn 3600) .e .e) .e)) (.n 16130072790490151923 [95,108,97,119,95,114,111,119,115] (.data qN) (.n 16130072790477470196 [95,108,97,119,95,108,105,115,116] (.fn 14100) (.n 16130072790460838135 [95,108,97,119,95,100,114,97,119] (.fn 14000) .e .e) .e) (.n 16492101633859647462 [100,111,109,97,105,110,95,111,102] (.fn 4800) (.n 16418364603435053300 [99,108,111,115,101,100,95,97,116] (.fn 3300) .e .e) .e))) (.n 17495225774689122804 [114,101,97,100,95,108,105,115,116] (.fn 5200) (.n 17348933454283667430 [112,97,114,97,109,115,95,111,102] (.fn 9800) (.n 16854580314100234981 [105,115,95,111,112,97,113,117,101] (.fn 12900) (.n 16851853315891785972 [105,110,115,105,100,101,95,97,116] (.fn 3200) .e .e) (.n 17278010695563605230 [111,99,116,101,116,115,95,105,110] (.fn 7300) .e .e)) (.n 17495225774687024996 [114,101,97,100,95,107,105,110,100] (.fn 10100) (.n 17352874105538869222 [112,104,114,97,115,101,95,111,102] (.fn 4000) .e .e) .e)) (.n 17645014481165088742 [116,111,107,101,110,115,95,111,102] (.fn 3800) (.n 17569561900433898612 [115,105,103,110,95,116,101,120,116] (.fn 4400) (.n 17495225774697380212 [114,101,97,100,95,112,97,114,116] (.fn 11400) .e .e) .e) (.n 2064649317182195922158 [95,108,97,119,95,112,108,97,105,110] (.data pK) (.n 1786208455994668869459 [65,84,79,77,95,83,73,71,78,83] (.data nY) .e .e) .e))))) (.n 287961949105489595496292 [115,116,114,105,99,116,95,107,105,110,100] (.fn 10000) (.n 2239388899162101151603 [114,101,97,100,95,115,112,97,110,115] (.fn 1900) (.n 2184347100785803999973 [108,105,115,116,95,118,97,108,117,101] (.fn 12200) (.n 2157391905414463599077 [105,115,105,110,115,116,97,110,99,101] (.bi .isinstance) (.n 2101765689736343056628 [99,111,109,109,101,110,116,95,97,116] (.fn 3400) (.n 2083102148255070974707 [97,108,108,95,98,111,100,105,101,115] (.fn 2300) .e .e) (.n 2129006301932058047097 [102,105,114,115,116,95,98,111,100,121] (.fn 2400) .e .e)) (.n 2184344220064565196659 [108,105,110,101,95,115,112,97,110,115] (.fn 1200) (.n 2184344220060268459892 [108,105,110,101,95,99,111,117,110,116] (.fn 11600) .e .e) .e)) (.n 2220664128181202745957 [112,97,115,116,95,119,104,105,116,101] (.fn 3700) (.n 2184781632825848331380 [108,111,119,101,114,95,116,101,120,116] (.fn 1100) (.n 2184781632825812841061 [108,111,119,101,114,95,99,111,100,101] (.fn 900) .e .e) (.n 2220664123781828934245 [112,97,115,115,95,114,111,117,116,101] (.fn 4900) .e .e)) (.n 2239388899161287455205 [114,101,97,100,95,112,108,97,99,101] (.fn 5100) (.n 2221446580746906662756 [112,108,97,105,110,95,107,105,110,100] (.fn 8400) .e .e) .e))) (.n 271377248701037967570918 [101,110,99,111,100,105,110,103,95,111,102] (.fn 10900) (.n 2257848661454257601253 [116,101,120,116,95,118,97,108,117,101] (.fn 11900) (.n 2257553046756403083635 [116,97,107,101,95,112,97,105,114,115] (.fn 9100) (.n 2249188767576954239332 [115,109,97,108,108,95,119,111,114,100] (.fn 9000) .e .e) (.n 2257553046757506216686 [116,97,107,101,95,116,111,107,101,110] (.fn 8700) .e .e)) (.n 264275112599288880396659 [95,108,97,119,95,111,116,104,101,114,115] (.data nZ) (.n 246566227054916447843058 [80,108,97,99,101,82,101,97,100,101,114] (.cls 46 4601) .e .e) .e)) (.n 279558230494443462292211 [108,101,97,102,95,118,97,108,117,101,115] (.fn 13200) (.n 278415467984696056312563 [107,105,110,100,95,118,97,108,117,101,115] (.fn 13000) (.n 271378612201216217182585 [101,110,118,101,108,111,112,101,95,98,121] (.fn 12300) .e .e) .e) (.n 287859702176536650676851 [115,105,103,110,95,111,99,116,101,116,115] (.fn 4500) (.n 286641779092300400112243 [114,101,97,100,95,102,105,101,108,100,115] (.fn 2000) .e .e) .e)))) (.n 3995148659898555468690498244 [78,69,86,69,82,95,69,83,67,65,80,69,68] (.data (.tup [(.int (0)),(.int (10)),(.int (13))])) (.n 36085721707482054485930740 [110,101,101,100,95,99,104,97,114,115,101,116] (.fn 6300) (.n 32575563397096638042896115 [87,72,73,84,69,95,112,97,114,97,109,115] (.data lD) (.n 290322240053382798244456 [117,116,102,56,95,108,101,110,103,116,104] (.fn 6400) (.n 288966649810487357567731 [116,97,105,108,95,118,97,108,117,101,115] (.fn 12800) .e .e) (.n 290322240053485353138803 [117,116,102,56,95,111,99,116,101,116,115] (.fn 6500) .e .e)) (.n 35346615808382848577827429 [105,115,95,97,116,111,109,95,99,111,100,101] (.fn 3000) (.n 34120028447870291839284462 [97,100,100,114,101,115,115,101,115,95,105,110] (.fn 5400) .e .e) .e)) (.n 36690147723844963735746552 [114,101,97,100,95,109,97,105,108,98,111,120] (.fn 5000) (.n 36396180341545580759970547 [112,108,97,99,101,95,118,97,108,117,101,115] (.fn 12100) (.n 36383350491517903588506341 [112,97,114,97,109,115,95,118,97,108,117,101] (.fn 12500) .e .e) .e) (.n 36848421652640282046984942 [115,107,105,112,95,98,101,116,119,101,101,110] (.fn 8600) (.n 36690147723845103873717221 [114,101,97,100,95,109,101,115,115,97,103,101] (.fn 11500) .e .e) .e))) (.n 586200696831880575553690614501 [108,97,110,103,117,97,103,101,95,118,97,108,117,101] (.fn 12700) (.n 514065121265831276274705998803 [79,80,69,78,95,69,78,67,79,68,73,78,71,83] (.data jz) (.n 4367363641327397150079531749 [97,100,100,114,101,115,115,95,118,97,108,117,101] (.fn 12000) (.n 4169672114828334618000324979 [87,72,73,84,69,95,104,101,97,100,101,114,115] (.data (.tup [(.int (32)),(.int (9))])) .e .e) (.n 4524366998354498878124585573 [105,115,95,116,111,107,101,110,95,99,111,100,101] (.fn 8500) .e .e)) (.n 561711205321531529774508112229 [98,111,100,121,95,115,116,114,117,99,116,117,114,101] (.fn 13400) (.n 516463019571149943893690312519 [80,76,65,73,78,95,69,78,67,79,68,73,78,71] (.data (.str [55,98,105,116])) .e .e) .e)) (.n 10053075403114646037814582817045107 [119,105,116,104,111,117,116,95,99,111,109,109,101,110,116,115] (.fn 3900) (.n 8341031174131431902703498288740979 [77,79,83,84,95,68,69,80,84,72,95,112,97,114,116,115] (.data (.int (20))) (.n 601131380306612861784616137459 [114,101,97,100,95,97,100,100,114,101,115,115,101,115] (.fn 5300) .e .e) .e) (.n 1188139714180588515567351905442806501 [100,105,115,112,111,115,105,116,105,111,110,95,118,97,108,117,101] (.fn 12600) (.n 1067651990288823283546047922140968819 [77,79,83,84,95,68,69,80,84,72,95,116,111,107,101,110,115] (.data (.int (20))) .e .e) .e))))))
noncomputable def je(x:Str):Option GV:=globT.find (Bs x.cps.toList) x.cps.toList
noncomputable def oi(C H:Nat):Bool:=(C==43||C==42)&&H==43
noncomputable def run(w n:Nat)(i:Nat)(u:List MV):Res (MV×MV):=jw ia je jc jd oi w n i u
noncomputable def G5:Nat:=14200
noncomputable def Jw(s:List Int):Res (MV×MV):=run 3000 60 G5 [.d (.lst (s.map .int))]
noncomputable def IU:Res (MV×MV)->String
 | .ok (.d (.bool true),_)=>"true"
 | .ok (.d (.bool false),_)=>"false"
 | .ok _=>"other"
 | .exc=>"exc"
 | .stuck=>"stuck"
local macro_rules
  | `(tactic| cases $h:ident) => `(tactic| (guard_hyp $h : _ = _; first
      | subst $h
      | (exfalso; injection $h; done)
      | (injection $h with h1 h2 h3 h4; cases h1; cases h2; cases h3; cases h4)
      | (injection $h with h1 h2 h3; cases h1; cases h2; cases h3)
      | (injection $h with h1 h2; cases h1; cases h2)
      | (injection $h with h1; cases h1)))
open Lean in
local macro_rules
  | `(tactic| rw [$rs,*]) => do
    let ts ← rs.getElems.mapM fun r => match r with
      | `(Lean.Parser.Tactic.rwRule| $t:term) => `(tactic| first | refine Mine.J' $t ?_ | refine Mine.J' ($t ..) ?_ | rewrite [$t:term])
      | `(Lean.Parser.Tactic.rwRule| ← $t:term) => `(tactic| first | refine Mine.Ka $t ?_ | refine Mine.Ka ($t ..) ?_ | rewrite [← $t:term])
      | _ => Macro.throwUnsupported
    `(tactic| (($[$ts];*); try (with_reducible rfl)))
  | `(tactic| show $t) => `(tactic| refine (?_ : $t))
  | `(tactic| rintro ⟨$p,$ps,*⟩) => do
    let l := ps.getElems
    let r ← if l.size == 1 then `(rcasesPat| ($(l[0]!))) else `(rcasesPat| ⟨$l,*⟩)
    let a ← `(rcasesPat| ($p))
    `(tactic| first | (refine Mine.KJ ?_; (rintro $a:rcasesPat <;> rintro $r:rcasesPat)) | (refine Mine.KL ?_; (rintro $r:rcasesPat <;> rintro $a:rcasesPat)))
  | `(tactic| rintro $p:rcasesPat) => do
    if p.raw.isOfKind `Lean.Parser.Tactic.rcasesPat.paren && p.raw[1][1].isNone then
      let s := p.raw[1][0][0].getArgs
      if s.size == 1 then return ← `(tactic| rintro $(⟨s[0]!⟩):rcasesPat)
    Macro.throwUnsupported
  | `(tactic| obtain ⟨$p,$ps,*⟩ := $e) => do `(tactic| (refine (?_ : ((_ : Prop)) → _) $e; $(← if e.raw.isIdent then `(tactic| try clear $e) else `(tactic| skip)):tactic; rintro ⟨$p,$ps,*⟩))
structure Lay where
 K:Frag
 fa:Nat->Addr
 ca:Nat->Addr
 wf:Addr
 base:Heap
 hs:Str->Int
noncomputable abbrev ZP:=Addr->Obj->Prop
inductive au(Y:Lay)(Z:ZP):Value->D->Prop
 |none:au Y Z .none .none
 |bool (b:Bool):au Y Z (.bool b) (.bool b)
 |int (i:Int) (t:Tok):au Y Z (.int i t) (.int i)
 |str (s:List Nat) (t:Tok):au Y Z (.str ⟨s.toArray⟩ t) (.str s)
 |bytes (b:List UInt8) (t:Tok):au Y Z (.bytes b.toArray t) (.bytes b)
 |tup {a:Addr} {vs:List Value} {n:Nat} {xs:List D} (h:Z a {cls:=.type "tuple",data:=.seq vs.toArray n})
   (hl:vs.length=xs.length) (hi: ∀(i:Nat) (v:Value) (x:D),vs[i]? =some v->xs[i]? =some x->au Y Z v x):au Y Z (.ref a) (.tup xs)
 |lst {a:Addr} {vs:List Value} {n:Nat} {xs:List D} (h:Z a {cls:=.type "list",data:=.seq vs.toArray n})
   (hl:vs.length=xs.length) (hi: ∀(i:Nat) (v:Value) (x:D),vs[i]? =some v->xs[i]? =some x->au Y Z v x):au Y Z (.ref a) (.lst xs)
 |dN {a:Addr} {o:Obj} {es:List DictEntry} {n:Nat} {kvs:List (List Nat×D)} (h:Z a o) (hx:o.ExactDict) (hd:o.data= .dict es.toArray n)
   (hl:es.length=kvs.length) (hk: ∀(i:Nat) (e:DictEntry) (p:List Nat×D),es[i]? =some e->kvs[i]? =some p->(∃t,e.key= .str ⟨p.1.toArray⟩ t)/\e.hash=Y.hs ⟨p.1.toArray⟩)
   (hi: ∀(i:Nat) (e:DictEntry) (p:List Nat×D),es[i]? =some e->kvs[i]? =some p->au Y Z e.val p.2):au Y Z (.ref a) (.dN kvs)
 |obj {a dx:Addr} {C:Nat} {es:List DictEntry} {n:Nat} {fs:List (Str×D)} (h:Z a (instObj (Y.ca C) dx)) (hd:Z dx (dictOf es n))
   (hl:es.length=fs.length) (hk: ∀(i:Nat) (e:DictEntry) (p:Str×D),es[i]? =some e->fs[i]? =some p-> ∃t,e.key= .str p.1 t)
   (hi: ∀(i:Nat) (e:DictEntry) (p:Str×D),es[i]? =some e->fs[i]? =some p->au Y Z e.val p.2):au Y Z (.ref a) (.obj C fs)
 |fn (i:Nat):au Y Z (.ref (Y.fa i)) (.fn i)
theorem au.mono{Y:Lay}{Z Z':ZP}(hz: ∀a o,Z a o->Z' a o){v:Value}{x:D}(h:au Y Z v x):au Y Z' v x:=by
 induction h with
 |none=>exact .none
 |bool b=>exact .bool b
 |int i t=>exact .int i t
 |str s t=>exact .str s t
 |bytes b t=>exact .bytes b t
 |tup h H _ B=>exact .tup (hz _ _ h) H B
 |lst h H _ B=>exact .lst (hz _ _ h) H B
 |dN h hx hd H O _ B=>exact .dN (hz _ _ h) hx hd H O B
 |obj h hd H O _ B=>exact .obj (hz _ _ h) (hz _ _ hd) H O B
 |fn i=>exact .fn i
noncomputable def aO(Y:Lay)(Z:ZP)(vs:List Value)(xs:List D):Prop:=
 vs.length=xs.length/\ ∀(i:Nat) (v:Value) (x:D),vs[i]? =some v->xs[i]? =some x->au Y Z v x
noncomputable def du(Y:Lay)(Z:ZP)(es:List DictEntry)(fs:List (Str×D)):Prop:=
 es.length=fs.length/\(∀(i:Nat) (e:DictEntry) (p:Str×D),es[i]? =some e->fs[i]? =some p-> ∃t,e.key= .str p.1 t)/\ ∀(i:Nat) (e:DictEntry) (p:Str×D),es[i]? =some e->fs[i]? =some p->au Y Z e.val p.2
theorem aO.nil{Y:Lay}{Z:ZP}:aO Y Z [] []:=⟨rfl,λi v x h=>by simp at h⟩
theorem aO.cons{Y:Lay}{Z:ZP}{v:Value}{x:D}{vs:List Value}{xs:List D}(h:au Y Z v x)(t:aO Y Z vs xs):aO Y Z (v::vs) (x::xs):=by
 refine⟨by simp[t.1],λi w y X O=> ?_⟩;rcases i with _|i
 .simp at X O;subst X O;exact h
 .simp at X O;exact t.2 i w y X O
theorem aO.inv{Y:Lay}{Z:ZP}{v:Value}{x:D}{vs:List Value}{xs:List D}(h:aO Y Z (v::vs) (x::xs)):au Y Z v x/\aO Y Z vs xs:=
 ⟨h.2 0 v x rfl rfl,by simpa using h.1,λi w y X O=>h.2 (i+1) w y (by simpa using X) (by simpa using O)⟩
theorem aO.mono{Y:Lay}{Z Z':ZP}(hz: ∀a o,Z a o->Z' a o){vs:List Value}{xs:List D}(h:aO Y Z vs xs):aO Y Z' vs xs:=
 ⟨h.1,λi v x z hx=>(h.2 i v x z hx).mono hz⟩
theorem du.mono{Y:Lay}{Z Z':ZP}(hz: ∀a o,Z a o->Z' a o){es:List DictEntry}{fs:List (Str×D)}(h:du Y Z es fs):du Y Z' es fs:=
 ⟨h.1,h.2.1,λi v x z hx=>(h.2.2 i v x z hx).mono hz⟩
theorem aO.append{Y:Lay}{Z:ZP}{vs ws:List Value}{xs ys:List D}(h:aO Y Z vs xs)(t:aO Y Z ws ys):aO Y Z (vs++ws) (xs++ys):=by
 refine⟨by simp[h.1,t.1],λi v x z hx=> ?_⟩;by_cases u:i<vs.length
 .rw[List.getElem?_append_left u] at z;rw[List.getElem?_append_left (h.1▸u)] at hx;exact h.2 i v x z hx
 .rw[List.getElem?_append_right (by exact aj (Nat.le_of_not_lt u))] at z;rw[List.getElem?_append_right (by have:=h.1;exact bp (Nat.le_of_not_lt u) (Nat.le_of_eq (Eq.symm this))),<-h.1] at hx;exact t.2 _ v x z hx
theorem aO.get{Y:Lay}{Z:ZP}{vs:List Value}{xs:List D}(h:aO Y Z vs xs){i:Nat}{x:D}(hx:xs[i]? =some x): ∃v,vs[i]? =some v/\au Y Z v x:=by
 have u:i<vs.length:=by have:=(List.getElem?_eq_some_iff.mp hx).1;rw[h.1];exact this
 exact⟨vs[i],List.getElem?_eq_getElem u,h.2 i _ x (List.getElem?_eq_getElem u) hx⟩
inductive dD(Y:Lay)(Z:ZP):Value->List (Addr×Obj)->MO->Prop
 |lst {a:Addr} {vs:List Value} {n:Nat} {xs:List D} (h:aO Y Z vs xs):dD Y Z (.ref a) [(a,listOf vs.toArray n)] (.lst xs)
 |obj {a dx:Addr} {C:Nat} {es:List DictEntry} {n:Nat} {fs:List (Str×D)} (h:du Y Z es fs):
   dD Y Z (.ref a) [(a,instObj (Y.ca C) dx),(dx,dictOf es n)] (.obj C fs)
theorem dD.mono{Y:Lay}{Z Z':ZP}(hz: ∀a o,Z a o->Z' a o){v:Value}{os:List (Addr×Obj)}{o:MO}(h:dD Y Z v os o):dD Y Z' v os o:=by
 cases h with
 |lst h=>exact .lst (h.mono hz)
 |obj h=>exact .obj (h.mono hz)
theorem dD.lE{Y:Lay}{Z Z':ZP}(hz: ∀a o,Z a o->Z' a o){v:Value}{os:List (Addr×Obj)}{o:MO}(h:dD Y Z v os o)(O: ∀p∈os,Z' p.1 p.2):au Y Z' v o.D:=by
 cases h with
 |lst h=>exact .lst (O _ (.head _)) h.1 (h.mono hz).2
 |obj h=>exact .obj (O _ (.head _)) (O _ (.tail _ (.head _))) h.1 h.2.1 (h.mono hz).2.2
structure Slot where
 v:Value
 mv:MV
 os:List (Addr×Obj)
noncomputable def b_(Y:Lay)(Z:ZP)(s:Slot):Prop:=match s.mv with
 | .d x=>au Y Z s.v x/\s.os=[]
 | .own o=>dD Y Z s.v s.os o
theorem b_.mono{Y:Lay}{Z Z':ZP}(hz: ∀a o,Z a o->Z' a o){s:Slot}(h:b_ Y Z s):b_ Y Z' s:=by
 obtain⟨v,mv,os⟩:=s;rcases mv with x|o
 .exact⟨au.mono hz h.1,h.2⟩
 .exact dD.mono hz h
theorem b_.lE{Y:Lay}{Z Z':ZP}(hz: ∀a o,Z a o->Z' a o){s:Slot}(h:b_ Y Z s)(O: ∀p∈s.os,Z' p.1 p.2):au Y Z' s.v s.mv.D:=by
 obtain⟨v,mv,os⟩:=s;rcases mv with x|o
 .exact au.mono hz h.1
 .exact dD.lE hz h O
noncomputable abbrev GL:=List (Str×Slot)
noncomputable def GL.loc(G:GL):Loc:=G.map λp=>(p.1,p.2.mv)
noncomputable def GL.vals(G:GL):List (Str×Value):=G.map λp=>(p.1,p.2.v)
noncomputable def GL.aT(G:GL):List (Addr×Obj):=G.flatMap λp=>p.2.os
noncomputable def GL.get?(G:GL)(x:Str):Option Slot:=G.lookup x
noncomputable def GL.set:GL->Str->Slot->GL
 |[],x,v=>[(x,v)]
 |(y,u)::r,x,v=>if x=y then(y,v)::r else(y,u)::GL.set r x v
theorem GL.dE(G:GL)(x:Str)(s:Slot):(G.set x s).loc=G.loc.set x s.mv:=by
 induction G with
 |nil=>rfl
 |cons p r B=>
  obtain⟨y,u⟩:=p;unfold GL.set;show GL.loc (if x=y then _ else _)=Loc.set ((y,u.mv)::GL.loc r) x s.mv;unfold Loc.set;split
  .rfl
  .rw[<-B];rfl
theorem GL.bw(G:GL)(x:Str):G.loc.get? x=(G.get? x).map (·.mv):=by
 induction G with
 |nil=>rfl
 |cons p r B=>
  obtain⟨y,u⟩:=p;show List.lookup x ((y,u.mv)::GL.loc r)=(List.lookup x ((y,u)::r)).map (·.mv);simp only[List.lookup_cons];split
  .rfl
  .exact B
set_option tactic.hygienic true in
theorem GL.aS{G:GL}{x:Str}{s:Slot}(h:G.get? x=some s):(x,s)∈G:=by
 induction G with
 |nil=>cases h
 |cons p r B=>
  obtain⟨y,u⟩:=p;unfold GL.get? at h;simp only[List.lookup_cons] at h;split at h
  .rename_i e;cases h;rw[eq_of_beq e];exact .head _
  .exact .tail _ (B h)
set_option tactic.hygienic true in
theorem GL.mem_set{G:GL}{x:Str}{s:Slot}{p:Str×Slot}(h:p∈G.set x s):p=(x,s)\/(p∈G):=by
 induction G with
 |nil=>simp[GL.set] at h;exact .inl h
 |cons q r B=>
  obtain⟨y,u⟩:=q;unfold GL.set at h;split at h
  .rename_i e;rcases List.mem_cons.mp h with h|h
   .left;rw[h,e]
   .right;exact .tail _ h
  .rcases List.mem_cons.mp h with h|h
   .right;rw[h];exact .head _
   .rcases B h with h|h
    .exact .inl h
    .exact .inr (.tail _ h)
set_option tactic.hygienic true in
theorem GL.cut{G:GL}{x:Str}{s:Slot}(h:G.get? x=some s): ∃pre post,G=pre++(x,s)::post/\(∀p∈pre,p.1≠x)/\ ∀s',G.set x s'=pre++(x,s')::post:=by
 induction G with
 |nil=>cases h
 |cons p r O=>
  obtain⟨y,u⟩:=p;unfold GL.get? at h;simp only[List.lookup_cons] at h;split at h
  .rename_i e;cases h;have e:=eq_of_beq e;subst e;exact⟨[],r,rfl,(λB h=>nomatch h),λs'=>by simp[GL.set]⟩
  .rename_i e;obtain⟨pre,post,rfl,H,hs⟩:=O h;have ne:x≠y:= λq=>by subst q;simp at e
   refine⟨(y,u)::pre,post,rfl,λp z=> ?_,λs'=> ?_⟩
   .rcases List.mem_cons.mp z with rfl|z
    .exactλq=>ne q.symm
    .exact H p z
   .show GL.set ((y,u)::(pre++(x,s)::post)) x s'=_;unfold GL.set;rw[if_neg ne,hs s'];rfl
theorem GL.d6(a b:GL):GL.aT (a++b)=a.aT++b.aT:=by simp[GL.aT]
theorem GL.f5(x:Str)(s:Slot)(r:GL):GL.aT ((x,s)::r)=s.os++r.aT:=by simp[GL.aT]
noncomputable def jA(env:Env)(h:Heap)(x:Str)(v:Value):Prop:=
 (env.kindOf x=some .local/\ ∃m,h.Ns env.locals m/\m x=some v)\/
 (env.kindOf x=some .cell/\ ∃c,env.cells.lookup x=some c/\h.IsCell c (some v))
structure qO(Y:Lay)(env:Env):Prop where
 kind:env.scope.kind= .function
 globals:env.globals=mainGlobals
 builtins:env.builtins=builtinsNs
 nodup:(env.locals::env.cells.map (·.2)).Nodup
 above:Y.base.objs.size<=env.locals
 Ei: ∀p∈env.cells,Y.base.objs.size<=p.2
 x_: ∀x,env.kindOf x=some .cell->(env.cells.lookup x).isSome=true
noncomputable def hJ(env:Env):List Addr:=env.locals::env.cells.map (·.2)
structure Rel(Y:Lay)(env:Env)(T:List Addr)(os:List (Addr×Obj))(G:GL)(Z:ZP)(h:Heap):Prop where
 ns: ∃m,h.Ns env.locals m
 cells: ∀p∈env.cells,∃v,h.IsCell p.2 v
 vars: ∀p∈G,jA env h p.1 p.2.v/\b_ Y Z p.2
 own: ∀p∈os++G.aT,h.get? p.1=some p.2
 nodup:((os++G.aT).map (·.1)).Nodup
 b7: ∀p∈os++G.aT,p.1∉T/\p.1∉hJ env/\ ∀o,¬Z p.1 o
 Zh: ∀a o,Z a o->h.get? a=some o
 ZT: ∀a o,Z a o->a∉T/\a∉hJ env
 Zb: ∀a o,Y.base.get? a=some o->Z a o
 mu: ∀p∈env.cells,p.2∉T
 cK: ∀b∈T,∃o es n,h.get? b=some o/\o.data= .dict es n
 keys:(G.map (·.1)).Nodup
structure Go(T:List Addr)(W:List Addr)(Z:ZP)(h:Heap)(W':List Addr)(Z':ZP)(h':Heap):Prop where
 keep: ∀b o,h.get? b=some o->b∉W->b∉T->h'.get? b=some o
 slots: ∀b o,h.get? b=some o->b∉W->b∈T-> ∃sl,h'.get? b=some {o with slots:=sl}
 mono: ∀a o,Z a o->Z' a o
 pM: ∀a o,Z' a o->Z a o\/h.get? a=none\/a∈W
 dB: ∀a∈W',a∈W\/h.get? a=none
theorem Go.refl{T W:List Addr}{Z:ZP}{h:Heap}:Go T W Z h W Z h:=
 ⟨λB B e B B=>e,λB o e B B=>⟨o.slots,e⟩,λB B e=>e,λB B e=>.inl e,λB e=>.inl e⟩
theorem aK{h:Heap}{a:Addr}(e:h.objs.size<=a):h.get? a=none:=by
 rcases q:h.get? a with _|o
 .rfl
 .exact absurd (Heap.lt_size q) (Nat.not_lt.mpr e)
theorem Go.trans{T W W' X:List Addr}{Z Z' O:ZP}{h h' B:Heap}(x:Go T W Z h W' Z' h')(y:Go T W' Z' h' X O B):Go T W Z h X O B:=by
 have nw: ∀b o,h.get? b=some o->b∉W->b∉W':= λb o e n m=>by
  rcases x.dB b m with q|q
  .exact n q
  .rw[e] at q;cases q
 have back: ∀b,h'.get? b=none->b∈W\/h.get? b=none:= λb e=>by
  by_cases n:b∈W
  .exact .inl n
  .right
   rcases q:h.get? b with _|o
   .rfl
   .by_cases m:b∈T
    .obtain⟨sl,z⟩:=x.slots b o q n m;rw[e] at z;cases z
    .have z:=x.keep b o q n m;rw[e] at z;cases z
 refine⟨λb o e n m=>y.keep b o (x.keep b o e n m) (nw b o e n) m,λb o e n m=> ?_,λa o e=>y.mono a o (x.mono a o e),λa o e=> ?_,λa m=> ?_⟩
 .obtain⟨s1,u⟩:=x.slots b o e n m;obtain⟨s2,H⟩:=y.slots b _ u (nw b o e n) m;exact⟨s2,H⟩
 .rcases y.pM a o e with q|q|q
  .exact x.pM a o q
  .rcases back a q with z|z
   .exact .inr (.inr z)
   .exact .inr (.inl z)
  .rcases x.dB a q with z|z
   .exact .inr (.inr z)
   .exact .inr (.inl z)
 .rcases y.dB a m with q|q
  .exact x.dB a q
  .exact back a q
theorem Go.widen{T W V W':List Addr}{Z Z':ZP}{h h':Heap}(x:Go T W Z h W' Z' h')(u: ∀a∈W,a∈V):Go T V Z h W' Z' h':=
 ⟨λb o e n m=>x.keep b o e (λq=>n (u b q)) m,λb o e n m=>x.slots b o e (λq=>n (u b q)) m,x.mono,λa o e=>(x.pM a o e).elim .inl λq=>q.elim (λz=>.inr (.inl z)) λz=>.inr (.inr (u a z)),λa m=>(x.dB a m).elim (λz=>.inl (u a z)) .inr⟩
theorem Go.less{T W W' V':List Addr}{Z Z':ZP}{h h':Heap}(x:Go T W Z h W' Z' h')(z: ∀a∈V',a∈W'):Go T W Z h V' Z' h':=
 {x with dB:= λa m=>x.dB a (z a m)}
theorem Go.push{T W:List Addr}{Z:ZP}{h:Heap}(o:Obj):Go T W Z h (h.objs.size::W) Z (h.push o):=
 ⟨λB B e B B=>Heap.get?_push_of_some _ e,λB u e B B=>⟨u.slots,Heap.get?_push_of_some _ e⟩,λB B e=>e,λB B e=>.inl e,λa m=>by
  rcases List.mem_cons.mp m with rfl|m
  .exact .inr (aK (Nat.le_refl _))
  .exact .inl m⟩
structure bN(T:List Addr)(W:List Addr)(Z:ZP)(s:Shared)(W':List Addr)(Z':ZP)(s':Shared):Prop extends Go T W Z s.heap W' Z' s'.heap where
 os:s'.os=s.os
 gens:s'.gens=s.gens
theorem bN.refl{T W:List Addr}{Z:ZP}{s s':Shared}(z:s'.heap=s.heap:=by rfl)(O:s'.os=s.os:=by rfl)(u:s'.gens=s.gens:=by rfl):bN T W Z s W Z s':=⟨by rw[z];exact Go.refl,O,u⟩
theorem bN.trans{T W W' X:List Addr}{Z Z' O:ZP}{s s' B:Shared}(x:bN T W Z s W' Z' s')(y:bN T W' Z' s' X O B):bN T W Z s X O B:=⟨x.toGo.trans y.toGo,y.os.trans x.os,y.gens.trans x.gens⟩
theorem bN.widen{T W V W':List Addr}{Z Z':ZP}{s s':Shared}(x:bN T W Z s W' Z' s')(z: ∀a∈W,a∈V):bN T V Z s W' Z' s':=⟨x.toGo.widen z,x.os,x.gens⟩
theorem bN.less{T W W' V':List Addr}{Z Z':ZP}{s s':Shared}(x:bN T W Z s W' Z' s')(z: ∀a∈V',a∈W'):bN T W Z s V' Z' s':=⟨x.toGo.less z,x.os,x.gens⟩
noncomputable def qP(Y:Lay)(Z:ZP)(v:Value):D->Prop
 | .none=>v= .none
 | .bool b=>v= .bool b
 | .int i=> ∃t,v= .int i t
 | .str s=> ∃t,v= .str ⟨s.toArray⟩ t
 | .bytes b=> ∃t,v= .bytes b.toArray t
 | .tup xs=> ∃(a:Addr) (vs:List Value) (n:Nat),v= .ref a/\Z a {cls:=.type "tuple",data:=.seq vs.toArray n}/\vs.length=xs.length/\ ∀(i:Nat) (v:Value) (x:D),vs[i]? =some v->xs[i]? =some x->au Y Z v x
 | .lst xs=> ∃(a:Addr) (vs:List Value) (n:Nat),v= .ref a/\Z a {cls:=.type "list",data:=.seq vs.toArray n}/\vs.length=xs.length/\ ∀(i:Nat) (v:Value) (x:D),vs[i]? =some v->xs[i]? =some x->au Y Z v x
 | .dN kvs=> ∃(a:Addr) (o:Obj) (es:List DictEntry) (n:Nat),v= .ref a/\Z a o/\o.ExactDict/\o.data= .dict es.toArray n/\es.length=kvs.length/\(∀(i:Nat) (e:DictEntry) (p:List Nat×D),es[i]? =some e->kvs[i]? =some p->(∃t,e.key= .str ⟨p.1.toArray⟩ t)/\e.hash=Y.hs ⟨p.1.toArray⟩)/\∀(i:Nat) (e:DictEntry) (p:List Nat×D),es[i]? =some e->kvs[i]? =some p->au Y Z e.val p.2
 | .obj C fs=> ∃(a O:Addr) (es:List DictEntry) (n:Nat),v= .ref a/\Z a (instObj (Y.ca C) O)/\Z O (dictOf es n)/\es.length=fs.length/\(∀(i:Nat) (e:DictEntry) (p:Str×D),es[i]? =some e->fs[i]? =some p-> ∃t,e.key= .str p.1 t)/\∀(i:Nat) (e:DictEntry) (p:Str×D),es[i]? =some e->fs[i]? =some p->au Y Z e.val p.2
 | .fn i=>v= .ref (Y.fa i)
 |_=>False
theorem au.inv{Y:Lay}{Z:ZP}{v:Value}{x:D}(h:au Y Z v x):qP Y Z v x:=by
 cases h with
 |none=>exact rfl
 |bool b=>exact rfl
 |int i t=>exact⟨t,rfl⟩
 |str s t=>exact⟨t,rfl⟩
 |bytes s t=>exact⟨t,rfl⟩
 |tup a b c=>exact⟨_,_,_,rfl,a,b,c⟩
 |lst a b c=>exact⟨_,_,_,rfl,a,b,c⟩
 |dN a b c d e f=>exact⟨_,_,_,_,rfl,a,b,c,d,e,f⟩
 |obj a b c d e=>exact⟨_,_,_,_,rfl,a,b,c,d,e⟩
 |fn i=>exact rfl
theorem au.gZ{Y:Lay}{Z:ZP}{v:Value}(h:au Y Z v .none):v= .none:=h.inv
theorem au.g5{Y:Lay}{Z:ZP}{v:Value}{b:Bool}(h:au Y Z v (.bool b)):v= .bool b:=h.inv
theorem au.KP{Y:Lay}{Z:ZP}{v:Value}{i:Nat}(h:au Y Z v (.fn i)):v= .ref (Y.fa i):=h.inv
theorem au.cT{Y:Lay}{Z:ZP}{v:Value}{i:Int}(h:au Y Z v (.int i)): ∃t,v= .int i t:=h.inv
theorem au.f6{Y:Lay}{Z:ZP}{v:Value}{s:List Nat}(h:au Y Z v (.str s)): ∃t,v= .str ⟨s.toArray⟩ t:=h.inv
theorem au.bJ{Y:Lay}{Z:ZP}{v:Value}{s:List UInt8}(h:au Y Z v (.bytes s)): ∃t,v= .bytes s.toArray t:=h.inv
theorem au.Jx{Y:Lay}{Z:ZP}{v:Value}{xs:List D}(h:au Y Z v (.tup xs)):qP Y Z v (.tup xs):=h.inv
theorem au.G6{Y:Lay}{Z:ZP}{v:Value}{xs:List D}(h:au Y Z v (.lst xs)):qP Y Z v (.lst xs):=h.inv
theorem au.KR{Y:Lay}{Z:ZP}{v:Value}{xs:List (List Nat×D)}(h:au Y Z v (.dN xs)):qP Y Z v (.dN xs):=h.inv
theorem au.Jy{Y:Lay}{Z:ZP}{v:Value}{C:Nat}{xs:List (Str×D)}(h:au Y Z v (.obj C xs)):qP Y Z v (.obj C xs):=h.inv
theorem au.Lr{Y:Lay}{Z:ZP}{v:Value}{c:Int}{ls:List Nat}(h:au Y Z v (.si c ls)):False:=h.inv
theorem au.Ls{Y:Lay}{Z:ZP}{v:Value}{ls:List BI}(h:au Y Z v (.sb ls)):False:=h.inv
theorem au.KS{Y:Lay}{Z:ZP}{v:Value}{k:Nat}(h:au Y Z v (.seg k)):False:=h.inv
theorem au.KU{Y:Lay}{Z:ZP}{v:Value}{k:Nat}(h:au Y Z v (.aq k)):False:=h.inv
section
noncomputable def addrs(l:List (Addr×Obj)):List Addr:=l.map (·.1)
noncomputable abbrev WW(os:List (Addr×Obj))(G:GL):List Addr:=addrs (os++G.aT)
variable{Y:Lay}{env:Env}{T:List Addr}{os:List (Addr×Obj)}{G:GL}{Z:ZP}{h:Heap}
theorem cG{h h':Heap}{c:Addr}{v:Option Value}(x:h.IsCell c v)(k: ∀o,h.get? c=some o->h'.get? c=some o):h'.IsCell c v:=by
 obtain⟨o,O,r⟩:=x;exact⟨o,k o O,r⟩
theorem f7{h h':Heap}{a:Addr}{m:Str->Option Value}(x:h.Ns a m)(k: ∀o,h.get? a=some o-> ∃sl,h'.get? a=some {o with slots:=sl}):h'.Ns a m:=by
 obtain⟨o,es,ep,O,hd,r⟩:=x;obtain⟨sl,e⟩:=k o O;exact⟨_,es,ep,e,hd,r⟩
theorem Rel.lO(R:Rel Y env T os G Z h){a:Addr}(m:a∈hJ env): ∃o,h.get? a=some o:=by
 rcases List.mem_cons.mp m with rfl|m
 .obtain⟨_,o,_,_,O,_⟩:=R.ns;exact⟨o,O⟩
 .obtain⟨p,H,rfl⟩:=List.mem_map.mp m;obtain⟨v,o,O,_⟩:=R.cells p H;exact⟨o,O⟩
theorem Rel.qQ(R:Rel Y env T os G Z h){V V':List Addr}{Z':ZP}{h':Heap}(g:Go T V Z h V' Z' h')(z: ∀a∈V,a∉T/\a∉hJ env){a:Addr}(m:a∈hJ env){o:Obj}(e:h.get? a=some o):
  ∃sl,h'.get? a=some {o with slots:=sl}:=by
 have n:a∉V:= λq=>(z a q).2 m;by_cases t:a∈T
 .exact g.slots a o e n t
 .exact⟨o.slots,g.keep a o e n t⟩
set_option tactic.hygienic true in
theorem jA.move(R:Rel Y env T os G Z h){V V':List Addr}{Z':ZP}{h':Heap}(g:Go T V Z h V' Z' h')(z: ∀a∈V,a∉T/\a∉hJ env){x:Str}{v:Value}(w:jA env h x v):jA env h' x v:=by
 rcases w with⟨k,m,hm,e⟩|⟨k,c,hc,i⟩
 .exact .inl ⟨k,m,f7 hm λo O=>R.qQ g z (.head _) O,e⟩
 .have X:(x,c)∈env.cells:=by
   clear i k;revert hc;generalize env.cells=cs;intro hc;induction cs with
   |nil=>cases hc
   |cons p r B=>
    obtain⟨y,u⟩:=p;simp only[List.lookup_cons] at hc;split at hc
    .rename_i q;cases hc;rw[eq_of_beq q];exact .head _
    .exact .tail _ (B hc)
  have H:c∈hJ env:=.tail _ (List.mem_map_of_mem (f:=(·.2)) X);exact .inr ⟨k,c,hc,cG i λo O=>g.keep c o O (λq=>(z c q).2 H) (R.mu _ X)⟩
theorem mw{G:GL}{p:Str×Slot}(m:p∈G):(p.1,p.2.v)∈G.vals:=List.mem_map.mpr ⟨p,m,rfl⟩
theorem Rel.move(R:Rel Y env T os G Z h){V V':List Addr}{Z':ZP}{h':Heap}(g:Go T V Z h V' Z' h')(hV: ∀a∈V,a∉T/\a∉hJ env)
  {os':List (Addr×Obj)} {G':GL} (hv:G'.vals=G.vals) (hs: ∀p∈G',b_ Y Z' p.2) (O: ∀p∈os'++G'.aT,h'.get? p.1=some p.2) (hn:((os'++G'.aT).map (·.1)).Nodup)
  (hw: ∀p∈os'++G'.aT,p.1∈WW os G\/h.get? p.1=none) (hz: ∀p∈os'++G'.aT,∀o,¬Z' p.1 o) (hZ: ∀a o,Z' a o->h'.get? a=some o):Rel Y env T os' G' Z' h':=by
 have fr: ∀a,h.get? a=none->a∉T/\a∉hJ env:= λa e=>⟨(λm=>by
  obtain⟨o,es,n,O,_⟩:=R.cK a m;rw[e] at O;cases O),(λm=>by
  obtain⟨o,O⟩:=R.lO m;rw[e] at O;cases O)⟩
 refine⟨?_,λp H=> ?_,λp H=> ?_,O,hn,λp H=> ?_,hZ,λa o e=> ?_,λa o e=>g.mono a o (R.Zb a o e),R.mu,λb X=> ?_,?_⟩
 .obtain⟨m,B⟩:=R.ns;exact⟨m,f7 B λo O=>R.qQ g hV (.head _) O⟩
 .obtain⟨v,i⟩:=R.cells p H;have ms:p.2∈hJ env:=.tail _ (List.mem_map_of_mem (f:=(·.2)) H);exact⟨v,cG i λo O=>g.keep _ o O (λq=>(hV _ q).2 ms) (R.mu _ H)⟩
 .refine⟨?_,hs p H⟩;have:=mw H;rw[hv] at this;obtain⟨q,hq,e⟩:=List.mem_map.mp this;have w:=jA.move R g hV (R.vars q hq).1;rw[(Prod.mk.inj e).1,(Prod.mk.inj e).2] at w;exact w
 .refine⟨?_,?_,hz p H⟩
  .rcases hw p H with q|q
   .obtain⟨r,hr,e⟩:=List.mem_map.mp q;rw[<-e];exact(R.b7 r hr).1
   .exact(fr _ q).1
  .rcases hw p H with q|q
   .obtain⟨r,hr,e⟩:=List.mem_map.mp q;rw[<-e];exact(R.b7 r hr).2.1
   .exact(fr _ q).2
 .rcases g.pM a o e with q|q|q
  .exact R.ZT a o q
  .exact fr a q
  .exact hV a q
 .obtain⟨o,es,n,O,hd⟩:=R.cK b X;obtain⟨sl,e⟩:=g.slots b o O (λq=>(hV b q).1 X) X;exact⟨_,es,n,e,hd⟩
 .have u:G'.map (·.1)=G'.vals.map (·.1):=by simp[GL.vals]
  have z:G.map (·.1)=G.vals.map (·.1):=by simp[GL.vals]
  rw[u,hv,<-z];exact R.keys
theorem Rel.pN(R:Rel Y env T os G Z h): ∀a∈WW os G,a∉T/\a∉hJ env:= λa m=>by
 obtain⟨p,H,rfl⟩:=List.mem_map.mp m;exact⟨(R.b7 p H).1,(R.b7 p H).2.1⟩
theorem Rel.uO(R:Rel Y env T os G Z h): ∀a∈WW os G,∃o,h.get? a=some o:= λa m=>by
 obtain⟨p,H,rfl⟩:=List.mem_map.mp m;exact⟨_,R.own p H⟩
theorem Rel.grown(R:Rel Y env T os G Z h){h':Heap}(k: ∀b o,h.get? b=some o->h'.get? b=some o):Rel Y env T os G Z h':=
 R.move (V:=[]) (V':=[]) (Z':=Z) ⟨λb o e B B=>k b o e,λb o e B B=>⟨o.slots,k b o e⟩,λB B e=>e,λB B e=>.inl e,λB m=>nomatch m⟩ (λB m=>nomatch m)
  rfl (λp H=>(R.vars p H).2) (λp H=>k _ _ (R.own p H)) R.nodup (λp H=>.inl (List.mem_map_of_mem H)) (λp H=>(R.b7 p H).2.2) (λa o e=>k a o (R.Zh a o e))
theorem Go.grown{W:List Addr}{h':Heap}(k: ∀b o,h.get? b=some o->h'.get? b=some o):Go T W Z h W Z h':=
 ⟨λb o e B B=>k b o e,λb o e B B=>⟨o.slots,k b o e⟩,λB B e=>e,λB B e=>.inl e,λB m=>.inl m⟩
noncomputable def ZU(Z:ZP)(l:List (Addr×Obj)):ZP:= λa o=>Z a o\/(a,o)∈l
theorem cR{z O:Type}{l l':List z}{f:z->O}(h:(l.map f).Nodup)(s:l'.Sublist l):(l'.map f).Nodup:=(s.map f).nodup h
theorem Rel.lE{l:List (Addr×Obj)}(R:Rel Y env T (l++os) G Z h):Rel Y env T os G (ZU Z l) h:=by
 have u: ∀p∈os++G.aT,p.1∉addrs l:= λp H m=>by
  have X:=R.nodup;rw[List.append_assoc,List.map_append,List.nodup_append] at X;exact X.2.2 _ m _ (List.mem_map_of_mem H) rfl
 refine⟨R.ns,R.cells,λp H=>⟨(R.vars p H).1,(R.vars p H).2.mono λB B=>.inl⟩,λp H=>R.own p (by rw[List.append_assoc];exact List.mem_append_right _ H),cR R.nodup (by rw[List.append_assoc];exact List.sublist_append_right _ _),λp H=> ?_,λa o e=> ?_,λa o e=> ?_,λa o e=>.inl (R.Zb a o e),R.mu,R.cK,R.keys⟩
 .have:=R.b7 p (by rw[List.append_assoc];exact List.mem_append_right _ H);exact⟨this.1,this.2.1,λo q=>q.elim (this.2.2 o) λm=>u p H (List.mem_map.mpr ⟨_,m,rfl⟩)⟩
 .rcases e with e|e
  .exact R.Zh a o e
  .exact R.own _ (by rw[List.append_assoc];exact List.mem_append_left _ e)
 .rcases e with e|e
  .exact R.ZT a o e
  .have:=R.b7 (a,o) (by rw[List.append_assoc];exact List.mem_append_left _ e);exact⟨this.1,this.2.1⟩
theorem Go.lE{l:List (Addr×Obj)}:Go T (WW (l++os) G) Z h (WW os G) (ZU Z l) h:=
 ⟨λB B e B B=>e,λB o e B B=>⟨o.slots,e⟩,λB B=>.inl,λa o e=>e.elim .inl λm=>.inr (.inr (by
  delta WW addrs;rw[List.append_assoc];exact List.mem_map.mpr ⟨(a,o),List.mem_append_left _ m,rfl⟩)),λa m=>.inl (by
  delta WW addrs at m⊢;rw[List.append_assoc,List.map_append];exact List.mem_append_right _ m)⟩
theorem Rel.drop{l:List (Addr×Obj)}(R:Rel Y env T (l++os) G Z h):Rel Y env T os G Z h:=
 {R with
  own:= λp H=>R.own p (by rw[List.append_assoc];exact List.mem_append_right _ H)
  nodup:=cR R.nodup (by rw[List.append_assoc];exact List.sublist_append_right _ _)
  b7:= λp H=>R.b7 p (by rw[List.append_assoc];exact List.mem_append_right _ H)}
theorem Rel.alloc(R:Rel Y env T os G Z h)(o:Obj)(u:o.isFreed=false):Rel Y env T ((h.objs.size,o)::os) G Z (h.push o):=by
 have X:h.get? h.objs.size=none:=aK (Nat.le_refl _);refine R.move (V:=[]) (V':=[]) (Z':=Z) ⟨λb o e B B=>Heap.get?_push_of_some _ e,λb o e B B=>⟨o.slots,Heap.get?_push_of_some _ e⟩,λB B e=>e,λB B e=>.inl e,λB m=>nomatch m⟩ (λB m=>nomatch m)
  rfl (λp H=>(R.vars p H).2) (λp H=> ?_) ?_ (λp H=> ?_) (λp H=> ?_) (λa o e=>Heap.get?_push_of_some _ (R.Zh a o e))
 .rcases List.mem_cons.mp H with rfl|H
  .exact Heap.get?_push_size _ u
  .exact Heap.get?_push_of_some _ (R.own p H)
 .refine List.nodup_cons.mpr ⟨λm=> ?_,R.nodup⟩;obtain⟨q,hq,e⟩:=List.mem_map.mp m;have:=R.own q hq;rw[e,X] at this;cases this
 .rcases List.mem_cons.mp H with rfl|H
  .exact .inr X
  .exact .inl (List.mem_map_of_mem H)
 .rcases List.mem_cons.mp H with rfl|H
  .intro o q;have:=R.Zh _ _ q;rw[X] at this;cases this
  .exact(R.b7 p H).2.2
theorem Go.alloc(o:Obj):Go T (WW os G) Z h (WW ((h.objs.size,o)::os) G) Z (h.push o):=Go.push o
theorem bE{G:GL}{x:Str}{s:Slot}(e:G.get? x=some s): ∃a b,G.aT=a++s.os++b/\ ∀s',(G.set x s').aT=a++s'.os++b:=by
 obtain⟨pre,post,rfl,_,hs⟩:=GL.cut e;refine⟨pre.aT,GL.aT post,?_,λs'=> ?_⟩
 .rw[GL.d6,GL.f5,List.append_assoc]
 .rw[hs s',GL.d6,GL.f5,List.append_assoc]
theorem e_{G:GL}{x:Str}{s s':Slot}(e:G.get? x=some s)(z:s'.v=s.v):(G.set x s').vals=G.vals:=by
 obtain⟨pre,post,rfl,_,hs⟩:=GL.cut e;rw[hs s'];simp[GL.vals,z]
set_option tactic.hygienic true in
theorem Bt(G:GL)(x:Str)(s:Slot):(G.set x s).get? x=some s:=by
 induction G with
 |nil=>simp[GL.set,GL.get?]
 |cons p r B=>
  obtain⟨y,u⟩:=p;unfold GL.set;split
  .rename_i e;subst e;simp[GL.get?]
  .rename_i e;unfold GL.get? at B⊢;simp only[List.lookup_cons];rw[show(x==y)=false from by simpa using e];exact B
theorem Rel.Ej(R:Rel Y env T os G Z h){x:Str}{s:Slot}(e:G.get? x=some s):
  Rel Y env T os (G.set x ⟨s.v,.d s.mv.D,[]⟩) (ZU Z s.os) h/\au Y (ZU Z s.os) s.v s.mv.D/\Go T (WW os G) Z h (WW os (G.set x ⟨s.v,.d s.mv.D,[]⟩)) (ZU Z s.os) h:=by
 refine hide λu b9=> ?_;obtain⟨a,b,O,ac⟩:=bE e;refine b9 ?_;have X:(G.set x ⟨s.v,.d s.mv.D,[]⟩).aT=a++b:=by rw[ac];simp
 have hd:au Y (ZU Z s.os) s.v s.mv.D:=(R.vars _ (GL.aS e)).2.lE (λB B=>.inl) λp H=>.inr H;have sub:(os++(a++b)).Sublist (os++G.aT):=by
  rw[O,List.append_assoc];exact List.Sublist.append_left (List.Sublist.append_left (List.sublist_append_right _ _) _) _
 have al: ∀p∈s.os,p∈os++G.aT:= λp H=>by
  rw[O];exact List.mem_append_right _ (List.mem_append_left _ (List.mem_append_right _ H))
 have g:Go T (WW os G) Z h (WW os (G.set x ⟨s.v,.d s.mv.D,[]⟩)) (ZU Z s.os) h:=
  ⟨λB B e B B=>e,λB o e B B=>⟨o.slots,e⟩,λB B=>.inl,λc o e=>e.elim .inl λm=>.inr (.inr (List.mem_map.mpr ⟨(c,o),al _ m,rfl⟩)),λc m=>.inl (by
   delta WW addrs at m⊢;rw[X] at m;exact(sub.map _).subset m)⟩
 refine⟨R.move g R.pN (e_ e rfl) (λp H=> ?_) (λp H=> ?_) ?_ (λp H=> ?_) (λp H=> ?_) (λc o q=> ?_),hd,g⟩
 .rcases GL.mem_set H with rfl|H
  .exact⟨hd,rfl⟩
  .exact(R.vars p H).2.mono λB B=>.inl
 .rw[X] at H;exact R.own p (sub.subset H)
 .rw[X];exact cR R.nodup sub
 .rw[X] at H;exact .inl (List.mem_map_of_mem (sub.subset H))
 .rw[X] at H;intro o q;rcases q with q|q
  .exact(R.b7 p (sub.subset H)).2.2 o q
  .have nd:=R.nodup;rw[O] at nd;simp only[List.map_append,List.nodup_append,List.mem_append,List.mem_map] at nd;have m1:p.1∈s.os.map (·.1):=List.mem_map.mpr ⟨_,q,rfl⟩;refine hide λu b9=> ?_;obtain⟨q',z,e'⟩:=List.mem_map.mp m1;refine b9 ?_;rcases List.mem_append.mp H with m|m
   .exact nd.2.2 _ ⟨p,m,rfl⟩ _ (.inl (.inr ⟨_,q,rfl⟩)) rfl
   .rcases List.mem_append.mp m with m|m
    .exact nd.2.1.1.2.2 _ ⟨p,m,rfl⟩ _ ⟨_,q,rfl⟩ rfl
    .exact nd.2.1.2.2 _ (.inr ⟨_,q,rfl⟩) _ ⟨p,m,rfl⟩ rfl
 .rcases q with q|q
  .exact R.Zh c o q
  .exact R.own _ (al _ q)
end
section
structure uP(A:Around):Prop where
 handled:A.handled=none
 units:A.units+200<cLine
 depth:A.depth+100<recursionLimit
variable{Y:Lay}{env:Env}{T:List Addr}{os:List (Addr×Obj)}{G:GL}{Z:ZP}{prog:Program}{w:World}{A:Around}{E:Value->Shared->Prop}{s:Shared}
theorem bU{n:Nat}(h:n<=lim):n<=sizeLine:=h
theorem au.isList{Y:Lay}{Z:ZP}{h:Heap}(hz: ∀a o,Z a o->h.get? a=some o){v:Value}{xs:List D}(x:au Y Z v (.lst xs)): ∃a vs n,v= .ref a/\h.get? a=some (listOf vs.toArray n)/\aO Y Z vs xs:=by
 cases x with
 |lst h H u=>exact⟨_,_,_,rfl,hz _ _ h,H,u⟩
theorem au.isTup{Y:Lay}{Z:ZP}{h:Heap}(hz: ∀a o,Z a o->h.get? a=some o){v:Value}{xs:List D}(x:au Y Z v (.tup xs)): ∃a vs n,v= .ref a/\h.get? a=some {cls:=.type "tuple",data:=.seq vs.toArray n}/\aO Y Z vs xs:=by
 cases x with
 |tup h H u=>exact⟨_,_,_,rfl,hz _ _ h,H,u⟩
theorem aO.G7{Y:Lay}{Z:ZP}{vs:List Value}{xs:List D}(h:aO Y Z vs xs):aG xs=false:=by
 induction xs generalizing vs with
 |nil=>rfl
 |cons x xs B=>
  rcases vs with _|⟨v,vs⟩
  .cases h.1
  .have u:aC x=false:=by
    have:=h.inv.1;rcases x with _|_<;>first|rfl|(exact(this.inv:False).elim)
   show(aC x||aG xs)=false;rw[u,B h.inv.2];rfl
theorem au.sym{Y:Lay}{Z:ZP}{v:Value}{x:D}(h:au Y Z v x):bM x=false:=by
 rcases x with _|_|_|_|_|_|xs|_|_|_|⟨_,_⟩|_|_|_<;>try(rfl;done)
 .cases h with|lst _ H u=>exact aO.G7 ⟨H,u⟩
 .exact(h.inv:False).elim
 .exact(h.inv:False).elim
 .exact(h.inv:False).elim
 .exact(h.inv:False).elim
set_option tactic.hygienic true in
theorem au.deep{Y:Lay}{Z:ZP}: ∀(n:Nat) {v:Value} {x:D},au Y Z v x->cV n x=false:=by
 intro X;induction X with
 |zero=>
  intro B B B;exact rfl
 |succ n u=>
  intro v x h;show(bM x||(match dg x with
   |Option.some xs=>xs.any (cV n)
   |Option.none=>false))=false
  rw[h.sym];rcases e:dg x with _|xs
  .rfl
  .obtain rfl:=bI e;cases h with
   |lst hz H O=>
    rename_i a vs k;have z:aO Y Z vs xs:=⟨H,O⟩
    clear H O hz e;show xs.any (cV n)=false;induction xs generalizing vs with
    |nil=>rfl
    |cons x xs ih=>
     rcases vs with _|⟨v,vs⟩
     .cases z.1
     .rw[List.any_cons,u z.inv.1];exact ih z.inv.2
theorem Jz{z:Type}{Y:Lay}{Z:ZP}{op:CmpOp}{v w:Value}{x y:D}(hx:au Y Z v x)(O:au Y Z w y){a b:z}:(if((bM x||bM y)||(s6 op&&cV 10 x))=true then a else b)=b:=by
 rw[hx.sym,O.sym,hx.deep 10,Bool.and_false];rfl
theorem Ek{z:Type}{Y:Lay}{Z:ZP}{v w:Value}{x y:D}(hx:au Y Z v x)(O:au Y Z w y){a b:z}:(if(bM x||bM y)=true then a else b)=b:=by
 rw[hx.sym,O.sym];rfl
theorem jB{x y:D}{b:Bool}(h:xI x y=some b):(∃p q,x= .bool p/\y= .bool q/\(p==q)=b)\/(∃p q,x= .int p/\y= .int q/\(p==q)=b)\/(∃p q,x= .str p/\y= .str q/\(p==q)=b)\/(∃p q,x= .bytes p/\y= .bytes q/\(p==q)=b):=by
 rcases x with _|p|p|p|p|_|_|_|_|_|_|_|_|_<;>try(exact af h;done)
 .obtain⟨q,u,z⟩:=ar h;exact .inl ⟨p,q,rfl,fZ u,z⟩
 .obtain⟨q,u,z⟩:=ar h;exact .inr (.inl ⟨p,q,rfl,aD u,z⟩)
 .obtain⟨q,u,z⟩:=ar h;exact .inr (.inr (.inl ⟨p,q,rfl,cz u,z⟩))
 .obtain⟨q,u,z⟩:=ar h;exact .inr (.inr (.inr ⟨p,q,rfl,aU u,z⟩))
theorem lP{n:Nat}{x y:D}{b:Bool}(h:fQ (n+1) x y=some b):(x= .none/\y= .none/\true=b)\/xI x y=some b\/(∃xs ys,x= .lst xs/\y= .lst ys/\(if xs.length=ys.length then allEq (fQ n) xs ys else some false)=some b):=by
 rcases x with _|p|p|p|p|_|p|_|_|_|_|_|_|_<;>try(exact af h;done)
 .obtain⟨q,u,z⟩:=ar h;exact .inl ⟨rfl,dz u,z⟩
 .exact .inr (.inl h)
 .exact .inr (.inl h)
 .exact .inr (.inl h)
 .exact .inr (.inl h)
 .obtain⟨q,u,z⟩:=ae h;exact .inr (.inr ⟨p,q,rfl,bI u,jx z⟩)
theorem ya{Y:Lay}{Z:ZP}{h:Heap}(hz: ∀a o,Z a o->h.get? a=some o): ∀(n:Nat) {v:Value} {x y:D} {b:Bool},au Y Z v x->au Y Z v y->fQ n x y=some b->b=true:=by
 intro n;induction n with
 |zero=>intro v x y b _ _ e;exact af e
 |succ n B=>
  intro v x y b hx hy e;have al: ∀(vs:List Value) (xs ys:List D) (b:Bool),aO Y Z vs xs->aO Y Z vs ys->allEq (fQ n) xs ys=some b->b=true:=by
   intro vs;induction vs with
   |nil=>
    intro xs ys b hx hy e;have u:xs=[]:=List.eq_nil_of_length_eq_zero hx.1.symm;have z:ys=[]:=List.eq_nil_of_length_eq_zero hy.1.symm;subst u z;exact(Option.some.inj e).symm
   |cons v vs iv=>
    intro xs ys b hx hy e;rcases xs with _|⟨x,xs⟩
    .cases hx.1
    .rcases ys with _|⟨y,ys⟩
     .cases hy.1
     .obtain⟨c,e1,H⟩:=ae e;obtain⟨d,X,e4⟩:=ar H;rw[<-e4,B hx.inv.1 hy.inv.1 e1,iv _ _ _ hx.inv.2 hy.inv.2 X];rfl
  rcases lP e with⟨_,_,rfl⟩|q|⟨xs,ys,rfl,rfl,q⟩
  .rfl
  .rcases jB q with⟨p,r,rfl,rfl,rfl⟩|⟨p,r,rfl,rfl,rfl⟩|⟨p,r,rfl,rfl,rfl⟩|⟨p,r,rfl,rfl,rfl⟩
   .replace hx:=hx.g5;subst hx;have q9:=hy.g5;cases q9;exact beq_self_eq_true _
   .replace hx:=hx.cT;obtain⟨_,rfl⟩:=hx;obtain⟨_,q9⟩:=hy.cT;cases q9;exact beq_self_eq_true _
   .replace hx:=hx.f6;obtain⟨_,rfl⟩:=hx;obtain⟨_,q9⟩:=hy.f6;cases q9;exact beq_self_eq_true _
   .generalize hv:v=v' at hy;cases hx with
    |bytes _ t=>
     cases hy with
     |bytes _ t'=>
      obtain rfl:p=r:=by injection hv with q _;exact congrArg Array.toList q
      exact beq_self_eq_true _
  .obtain⟨a,vs,n1,rfl,u,l1⟩:=hx.isList hz;obtain⟨a',an,n2,O,z,l2⟩:=hy.isList hz;cases O;rw[u] at z;have q3:vs=an:=by
    have:=congrArg Obj.data (Option.some.inj z);injection this with t1 t2;exact congrArg Array.toList t1
   subst q3;rw[if_pos (l1.1.symm.trans l2.1)] at q;exact al vs xs ys b l1 l2 q
theorem oj{f:D->D->Option Bool}: ∀{xs ys:List D} {b:Bool},allEq f xs ys=some b->xs.length=ys.length/\ ∃e:Nat->Bool,(∀(i:Nat) (x y:D),xs[i]? =some x->ys[i]? =some y->f x y=some (e i))/\b=(List.range xs.length).all e
 |[],[],b,h=>⟨rfl,λB=>true,λi x y h=>by simp at h,(Option.some.inj h).symm⟩
 |[],_::_,_,h=>by cases h
 |_::_,[],_,h=>by cases h
 |x::xs,y::ys,b,h=>by
  replace h:((f x y).bind λc=>(allEq f xs ys).map λd=>c&&d)=some b:=h;rcases e1:f x y with _|c
  .rw[e1] at h;cases h
  .rcases e2:allEq f xs ys with _|d
   .rw[e1,e2] at h;cases h
   .rw[e1,e2] at h;obtain⟨H,e,z,hd⟩:=oj e2;refine⟨by simp[H],λi=>match i with|0=>c|i+1=>e i,λi X u hx O=> ?_,?_⟩
    .rcases i with _|i
     .simp at hx O;subst hx O;exact e1
     .exact z i X u (by simpa using hx) (by simpa using O)
    .have:b=(c&&d):=by simpa using h.symm
     rw[this,hd,List.length_cons,List.range_succ_eq_map,List.all_cons,List.all_map];rfl
set_option tactic.hygienic true in
theorem Dt{A:Around}{a c:Value}{x y:D}{b:Bool}(hx:au Y Z a x)(O:au Y Z c y)(e:xI x y=some b):EqAt A s a c b:=by
 rcases jB e with⟨p,r,rfl,rfl,rfl⟩|⟨p,r,rfl,rfl,rfl⟩|⟨p,r,rfl,rfl,rfl⟩|⟨p,r,rfl,rfl,rfl⟩
 .replace hx:=hx.g5;subst hx;replace O:=O.g5;subst O;exact EqAt.bool_bool _ _
 .replace hx:=hx.cT;obtain⟨_,rfl⟩:=hx;replace O:=O.cT;obtain⟨_,rfl⟩:=O;exact EqAt.int_int _ _ _ _
 .replace hx:=hx.f6;obtain⟨_,rfl⟩:=hx;replace O:=O.f6;obtain⟨_,rfl⟩:=O;rename_i u z;have:=EqAt.str_str (A:=A) (s:=s) ⟨p.toArray⟩ u ⟨r.toArray⟩ z;rw[<-str_beq] at this;exact this
 .replace hx:=hx.bJ;obtain⟨_,rfl⟩:=hx;replace O:=O.bJ;obtain⟨_,rfl⟩:=O;intro prog w E Q hq;have q:(p==r)=decide (p=r):=by
   by_cases q:p=r
   .rw[q];simp
   .simp[q]
  rw[q] at hq;exact eqBool_bytes hq
theorem mA{Z:ZP}{f:Value->Value->Bool->Prop}{P:Prop}{n a c:Nat}{vs B:List Value}{xs ys:List D}{b:Bool}(_:s.heap.IsList a vs.toArray)(_:s.heap.IsList c B.toArray)(O:aO Y Z vs xs)(l2:aO Y Z B ys)
  (q:(if xs.length=ys.length then allEq (fQ n) xs ys else some false)=some b)
  (k1:vs.toArray.size=B.toArray.size-> ∀e:Nat->Bool,(∀(j:Nat) (u:j<vs.toArray.size) (z:j<B.toArray.size),f vs.toArray[j] B.toArray[j] (e j))->b=(List.range vs.toArray.size).all e->P)
  (k2:(vs.toArray.size !=B.toArray.size)=true->b=false->P)
  (he: ∀{v v':Value} {x y:D} {b:Bool},au Y Z v x->au Y Z v' y->fQ n x y=some b->f v v' b):P:=by
 have s1:vs.toArray.size=xs.length:=O.1;have s2:B.toArray.size=ys.length:=l2.1;by_cases H:xs.length=ys.length
 .rw[if_pos H] at q;obtain⟨_,e,h,X⟩:=oj q;refine k1 (by rw[s1,s2,H]) e (λj u z=> ?_) (by rw[s1];exact X);have ac:j<vs.length:=u;have al:j<B.length:=z;have g1:xs[j]? =some (xs[j]'(O.1▸ac)):=List.getElem?_eq_getElem _;have g2:ys[j]? =some (ys[j]'(l2.1▸al)):=List.getElem?_eq_getElem _;exact he (O.2 j _ _ (List.getElem?_eq_getElem ac) g1) (l2.2 j _ _ (List.getElem?_eq_getElem al) g2) (h j _ _ g1 g2)
 .rw[if_neg H] at q;exact k2 (by rw[s1,s2];exact bne_iff_ne.mpr H) (Option.some.inj q).symm
theorem Du{Z:ZP}(hz: ∀a o,Z a o->s.heap.get? a=some o): ∀(n:Nat) {A:Around} {a c:Value} {x y:D} {b:Bool},A.units+n<cLine->au Y Z a x->au Y Z c y->fQ n x y=some b->EqAt A s a c b:=by
 intro n;induction n with
 |zero=>intro A a c x y b _ _ _ e;exact af e
 |succ n B=>
  intro A a c x y b hu hx O e;rcases lP e with⟨rfl,rfl,rfl⟩|q|⟨xs,ys,rfl,rfl,q⟩
  .replace hx:=hx.gZ;subst hx;replace O:=O.gZ;subst O;exact EqAt.same _
  .exact Dt hx O q
  .obtain⟨a,vs,n1,rfl,u,l1⟩:=hx.isList hz;obtain⟨c,aI,n2,rfl,z,l2⟩:=O.isList hz;by_cases qa:a=c
   .subst qa;rw[ya hz (n+1) hx O e];exact EqAt.same _
   .refine EqAt.of_refs qa (mA (f:=EqAt A.in1 s) ⟨_,u,rfl,_,rfl⟩ ⟨_,z,rfl,_,rfl⟩ l1 l2 q (λH e he X=> ?_) (λH X=> ?_) ?_)
    .rw[X];exact RcAt.lists ⟨_,u,rfl,_,rfl⟩ ⟨_,z,rfl,_,rfl⟩ H (by exact aj hu) he
    .rw[X];exact RcAt.lists_lengths ⟨_,u,rfl,_,rfl⟩ ⟨_,z,rfl,_,rfl⟩ H (by exact aj hu)
    .exactλk1 k2 e=>B (A:=A.in1) (by simp;exact aj hu) k1 k2 e
end
section
variable{Y:Lay}{env:Env}{T:List Addr}{os:List (Addr×Obj)}{G:GL}{Z:ZP}{prog:Program}{w:World}{A:Around}{E:Value->Shared->Prop}{s:Shared}
noncomputable def KQ(Y:Lay)(env:Env)(T:List Addr)(os:List (Addr×Obj))(G:GL)(Z:ZP)(s:Shared)(Q:Value->Shared->Prop)(mv:MV):Prop:=
 ∀(sl:Slot) (s':Shared),sl.mv=mv->Rel Y env T (sl.os++os) G Z s'.heap->b_ Y Z sl->bN T (WW os G) Z s (WW (sl.os++os) G) Z s'->Q sl.v s'
theorem KQ.same{Q:Value->Shared->Prop}{x:D}{v:Value}{s':Shared}(R:Rel Y env T os G Z s.heap)(k:KQ Y env T os G Z s Q (.d x))(h:au Y Z v x)(hs:s'.heap=s.heap)(O:s'.os=s.os:=by rfl)(u:s'.gens=s.gens:=by rfl):Q v s':=
 k ⟨v,.d x,[]⟩ s' rfl (by rw[hs];exact R) ⟨h,rfl⟩ ⟨by rw[hs];exact Go.refl,O,u⟩
theorem KQ.list{Q:Value->Shared->Prop}{xs:List D}{vs:List Value}{s':Shared}(R:Rel Y env T os G Z s.heap)(k:KQ Y env T os G Z s Q (.own (.lst xs)))(h:aO Y Z vs xs)
  (hs:s'.heap=s.heap.push {cls:=.type "list",data:=.seq vs.toArray}) (O:s'.os=s.os:=by rfl) (u:s'.gens=s.gens:=by rfl):Q (.ref s.heap.objs.size) s':=
 k ⟨_,.own (.lst xs),[(s.heap.objs.size,listOf vs.toArray 0)]⟩ s' rfl (by rw[hs];exact R.alloc _ rfl) (.lst h) ⟨by rw[hs];exact Go.alloc _,O,u⟩
theorem Rel.push(R:Rel Y env T os G Z s.heap)(o:Obj)(H:o.isFreed=false):Rel Y env T os G (ZU Z [(s.heap.objs.size,o)]) (s.heap.push o)/\Go T (WW os G) Z s.heap (WW os G) (ZU Z [(s.heap.objs.size,o)]) (s.heap.push o):=
 ⟨Rel.lE (l:=[_]) (R.alloc o H),(Go.alloc o).trans (Go.lE (l:=[_]))⟩
set_option tactic.hygienic true in
theorem intBits_le{a:Int}(h:a.natAbs<2^60):Builtin.Int.intBits a<=64:=by
 unfold Builtin.Int.intBits;split
 .simp+arith only
 .rename_i q;have B:a.natAbs≠0:=by simpa using q
  have:=(Nat.log2_lt B).mpr h;exact aj this
theorem mB{v:Value}{xs:List D}(R:Rel Y env T os G Z s.heap)(x:au Y Z v (.lst xs)): ∃a vs n,v= .ref a/\s.heap.get? a=some (listOf vs.toArray n)/\aO Y Z vs xs/\s.heap.IsList a vs.toArray:=by
 refine hide λu O=> ?_;obtain⟨a,vs,n,e,h,l⟩:=x.isList R.Zh;refine O ?_;exact⟨a,vs,n,e,h,l,⟨_,h,rfl,_,rfl⟩⟩
theorem yb{z:Type}: ∀(l:List (Array z)) (acc:Array z),List.foldl (λB H=>B++H) acc l=acc++(l.map (·.toList)).flatten.toArray:=by
 intro X;induction X with
 |nil=>
  intro acc;simp
 |cons a r u=>
  intro acc;rw[List.foldl_cons,u];apply Array.toList_inj.mp;simp
theorem pO{xs:List D}{a:D}(h:one? xs=some a):xs=[a]:=by
 rcases xs with _|⟨x,r⟩
 .exact af h
 .rcases r with _|⟨_,_⟩
  .cases h;rfl
  .exact af h
theorem qR{x y:D}{mv:MV}{f:Int->Int->Option MV}(e:((vInt x).bind λa=>(vInt y).bind λb=>f a b)=some mv): ∃p q,x= .int p/\y= .int q/\f p q=some mv:=by
 refine hide λB O=> ?_;obtain⟨p,u,e⟩:=ae e;obtain⟨q,z,e⟩:=ae e;refine O ?_;exact⟨p,q,aD u,aD z,e⟩
set_option tactic.hygienic true in
theorem Bu{x y:D}{mv:MV}{a b:Value}{Q:Value->Shared->Prop}(e:GS x y=some mv)(hu:A.units<cLine)(R:Rel Y env T os G Z s.heap)(O:au Y Z a x)(X:au Y Z b y)
  (k:KQ Y env T os G Z s Q mv):wpAny (model prog w) A (binaryOp .Add a b) Q E s:=by
 rcases x with _|_|p|s1|p|_|xs|_|_|_|_|_|_|_<;>try(exact af e;done)
 .obtain⟨q,u,rfl⟩:=ar e;obtain rfl:=aD u;replace O:=O.cT;obtain⟨_,rfl⟩:=O;replace X:=X.cT;obtain⟨_,rfl⟩:=X;exact PyProof.Rows.add_int (k.same R (.int _ _) rfl)
 .obtain⟨s2,u,e⟩:=ae e;obtain rfl:=cz u;obtain⟨B,rfl⟩:=aJ e;replace O:=O.f6;obtain⟨_,rfl⟩:=O;replace X:=X.f6;obtain⟨_,rfl⟩:=X;rename_i t1 t2;refine P.add_str ?_;split
  .rename_i q;have:s1=[]:=by simpa[Str.length] using q
   subst this;exact k.same R (au.str (Y:=Y) (Z:=Z) s2 t2) rfl
  .split
   .rename_i q;have:s2=[]:=by simpa[Str.length] using q
    subst this;exact k.same R (by simpa using au.str (Y:=Y) (Z:=Z) s1 t1) rfl
   .refine⟨?_,k.same R ?_ rfl⟩
    .show(Str.append _ _).length<=sizeLine;simp only[Str.append,Str.length];simpa using bU B
    .show au Y Z (.str (Str.append _ _) _) _;simpa[Str.append] using au.str (Y:=Y) (Z:=Z) (s1++s2) _
 .obtain⟨q,u,e⟩:=ae e;obtain rfl:=aU u;obtain⟨B,rfl⟩:=aJ e;replace O:=O.bJ;obtain⟨_,rfl⟩:=O;replace X:=X.bJ;obtain⟨_,rfl⟩:=X;refine KBy.add_bytes (by simpa[lim] using B) λz tk=> ?_;exact k.same R (by simpa using au.bytes (Y:=Y) (Z:=Z) _ z) rfl
 .obtain⟨ys,u,e⟩:=ae e;obtain rfl:=bI u;refine hide λP9 b9=> ?_;obtain⟨B,rfl⟩:=aJ e;obtain⟨l,vs,n,rfl,ho,H,i1⟩:=mB R O;obtain⟨c,ws,n',rfl,al,ac,i2⟩:=mB R X;refine b9 ?_;have e:vs.toArray++ws.toArray=(vs++ws).toArray:=List.append_toArray ..;refine concat_meets ⟨_,ho,rfl⟩ ⟨_,al,rfl⟩ noFill_list_add seq_list_add PySem.F.slot_list_add PySem.F.entry_list_add (PySem.F.args_list_add_2 _ _)
   (list_addW l c vs.toArray ws.toArray n n' none none #[] #[] (by simpa[H.1,ac.1] using bU B)) ⟨ho,al,?_⟩
  rw[e];exact k.list R (H.append ac) rfl
theorem Bv{x y:D}{mv:MV}{a b:Value}{Q:Value->Shared->Prop}(e:GU x y=some mv)(hu:A.units<cLine)(R:Rel Y env T os G Z s.heap)(O:au Y Z a x)(X:au Y Z b y)
  (k:KQ Y env T os G Z s Q mv):wpAny (model prog w) A (binaryOp .Mult a b) Q E s:=by
 rcases x with _|_|p|_|_|_|xs|_|_|_|_|_|_|_<;>try(exact af e;done)
 .obtain⟨q,h1,e⟩:=ae e;obtain rfl:=aD h1;obtain⟨B,rfl⟩:=aJ e;replace O:=O.cT;obtain⟨_,rfl⟩:=O;replace X:=X.cT;obtain⟨_,rfl⟩:=X;exact PyProof.Rows.mul_int (k.same R (.int _ _) rfl) (IntMulOk.of_left (intBits_le B.1))
 .obtain⟨b,h1,e⟩:=ae e;obtain rfl:=aD h1;obtain⟨x,z,e⟩:=ae e;obtain rfl:=pO z;obtain⟨B,rfl⟩:=aJ e;obtain⟨l,vs,n,rfl,ho,H,i1⟩:=mB R O;replace X:=X.cT;obtain⟨_,rfl⟩:=X;obtain⟨v,rfl⟩:=List.length_eq_one_iff.mp H.1;refine wpAny_binaryOp_repeat_ref (T:="list") (U:="int") (by decide) ⟨_,ho,rfl⟩ (λs'=>typeIs_int s' b _) noFill_list_mul PySem.F.fills_int_mul PySem.F.slot_int_rmul repeat_list PySem.F.slot_int_index.lookup
   (call_meets PySem.F.slot_int_rmul (typeIs_int s b _) PySem.F.entry_int_rmul (PySem.F.args_int_rmul_2 _ _) (int___rmul___int_list b _ l _ _)
    ⟨ho,rfl,⟨_,ho,rfl⟩,call_meets PySem.F.slot_list_mul ⟨_,ho,rfl⟩ PySem.F.entry_list_mul (PySem.F.args_list_mul_2 _ _)
     (AutoListH.list___mul___list_int_3 l _ _ b _ (by simp[Builtin.List.listFitsIndex];omega) (by simp;omega) (by simp[Builtin.List.listTooLong,sizeLine];omega)) ⟨ho,?_⟩⟩)
  have hx:=H.inv.1;refine k.list (vs:=List.replicate b.toNat v) R ⟨by simp,λi u y hu hy=> ?_⟩ ?_
  .rw[List.getElem?_replicate] at hu hy;revert hu;refine gp (λq9 hu=> ?_) (λq9 hu=> ?_)
   .rw[if_pos (by assumption)] at hy;cases hu;cases hy;exact hx
   .exact af hu
  .rw[yb];congr;simp
theorem yc{op:Operator}{x y:D}{mv:MV}{a b:Value}{Q:Value->Shared->Prop}(e:binop op x y=some mv)(H:A.units<cLine)(R:Rel Y env T os G Z s.heap)(O:au Y Z a x)(X:au Y Z b y)
  (k:KQ Y env T os G Z s Q mv):wpAny (model prog w) A (binaryOp op a b) Q E s:=by
 replace e:pq op x y=some mv:=(Ek O X).symm.trans e;rcases op with _|_|_|_|_|_|_|_|_|_|_|_|_<;>try(exact af e;done)
 .exact Bu e H R O X k
 .obtain⟨p,u,e⟩:=ae e;obtain⟨q,z,rfl⟩:=ar e;obtain rfl:=aD u;obtain rfl:=aD z;replace O:=O.cT;obtain⟨_,rfl⟩:=O;replace X:=X.cT;obtain⟨_,rfl⟩:=X;exact PyProof.Rows.sub_int (k.same R (.int _ _) rfl)
 .exact Bv e H R O X k
 .obtain⟨p,q,rfl,rfl,e⟩:=qR e;obtain⟨B,rfl⟩:=aJ e;replace O:=O.cT;obtain⟨_,rfl⟩:=O;replace X:=X.cT;obtain⟨_,rfl⟩:=X;exact PyProof.Rows.mod_int (Int.ne_of_gt B) (k.same R (.int _ _) rfl)
 .obtain⟨p,q,rfl,rfl,e⟩:=qR e;obtain⟨B,rfl⟩:=aJ e;replace O:=O.cT;obtain⟨_,rfl⟩:=O;replace X:=X.cT;obtain⟨_,rfl⟩:=X;exact floordiv_int (Int.ne_of_gt B.1) (k.same R (.int _ _) rfl) (.inl (PyProof.noPylong_small B.2))
end
section
variable{Y:Lay}{env:Env}{T:List Addr}{os:List (Addr×Obj)}{G:GL}{Z:ZP}{prog:Program}{w:World}{A:Around}{E:Value->Shared->Prop}{s:Shared}
theorem IV{z:Type}[BEq z][LawfulBEq z][DecidableEq z](a b:z):(a==b)=decide (a=b):=by
 by_cases q:a=b
 .rw[q];simp
 .simp[q]
theorem G8{x y:D}{b:Bool}{a c:Value}{Q:Value->Shared->Prop}(e:fQ 10 x y=some b)(B:A.units+10<cLine)(hz: ∀a o,Z a o->s.heap.get? a=some o)(hx:au Y Z a x)(O:au Y Z c y)(h:Q (.bool b) s):
  wpAny (model prog w) A (compareOp .Eq a c) Q E s:=by
 rcases lP e with⟨rfl,rfl,rfl⟩|q|⟨xs,ys,rfl,rfl,q⟩
 .replace hx:=hx.gZ;subst hx;replace O:=O.gZ;subst O;exact RcAt.none_none prog w E Q h
 .rcases jB q with⟨p,r,rfl,rfl,rfl⟩|⟨p,r,rfl,rfl,rfl⟩|⟨p,r,rfl,rfl,rfl⟩|⟨p,r,rfl,rfl,rfl⟩
  .replace hx:=hx.g5;subst hx;replace O:=O.g5;subst O;exact RcAt.bool_bool _ _ prog w E Q h
  .replace hx:=hx.cT;obtain⟨_,rfl⟩:=hx;replace O:=O.cT;obtain⟨_,rfl⟩:=O;exact RcAt.int_int _ _ _ _ prog w E Q h
  .replace hx:=hx.f6;obtain⟨_,rfl⟩:=hx;replace O:=O.f6;obtain⟨_,rfl⟩:=O;exact P.eq_str (by simpa using h)
  .replace hx:=hx.bJ;obtain⟨_,rfl⟩:=hx;replace O:=O.bJ;obtain⟨_,rfl⟩:=O;exact eq_bytes (by simpa using h)
 .obtain⟨a,vs,n1,rfl,u,l1⟩:=hx.isList hz;obtain⟨c,an,n2,rfl,z,l2⟩:=O.isList hz;refine mA (f:=EqAt A.in1 s) ⟨_,u,rfl,_,rfl⟩ ⟨_,z,rfl,_,rfl⟩ l1 l2 q (λH e he X=> ?_) (λH X=> ?_) λk1 k2 e=>Du hz 9 (A:=A.in1) (by simp;exact aj B) k1 k2 e
  .subst X;exact RcAt.lists ⟨_,u,rfl,_,rfl⟩ ⟨_,z,rfl,_,rfl⟩ H (by exact aj B) he prog w E Q h
  .subst X;exact RcAt.lists_lengths ⟨_,u,rfl,_,rfl⟩ ⟨_,z,rfl,_,rfl⟩ H (by exact aj B) prog w E Q h
theorem G9{x y:D}{b:Bool}{a c:Value}{Q:Value->Shared->Prop}(e:fQ 10 x y=some b)(B:A.units+10<cLine)(hz: ∀a o,Z a o->s.heap.get? a=some o)(hx:au Y Z a x)(O:au Y Z c y)(h:Q (.bool !b) s):
  wpAny (model prog w) A (compareOp .NotEq a c) Q E s:=by
 rcases lP e with⟨rfl,rfl,rfl⟩|q|⟨xs,ys,rfl,rfl,q⟩
 .replace hx:=hx.gZ;subst hx;replace O:=O.gZ;subst O;exact RcNeAt.none_none prog w E Q h
 .rcases jB q with⟨p,r,rfl,rfl,rfl⟩|⟨p,r,rfl,rfl,rfl⟩|⟨p,r,rfl,rfl,rfl⟩|⟨p,r,rfl,rfl,rfl⟩
  .replace hx:=hx.g5;subst hx;replace O:=O.g5;subst O;exact RcNeAt.bool_bool _ _ prog w E Q h
  .replace hx:=hx.cT;obtain⟨_,rfl⟩:=hx;replace O:=O.cT;obtain⟨_,rfl⟩:=O;exact RcNeAt.int_int _ _ _ _ prog w E Q h
  .replace hx:=hx.f6;obtain⟨_,rfl⟩:=hx;replace O:=O.f6;obtain⟨_,rfl⟩:=O;exact P.ne_str (by simpa[bne] using h)
  .replace hx:=hx.bJ;obtain⟨_,rfl⟩:=hx;replace O:=O.bJ;obtain⟨_,rfl⟩:=O;exact ne_bytes (by simpa[bne] using h)
 .obtain⟨a,vs,n1,rfl,u,l1⟩:=hx.isList hz;obtain⟨c,an,n2,rfl,z,l2⟩:=O.isList hz;refine mA (f:=EqAt A.in1 s) ⟨_,u,rfl,_,rfl⟩ ⟨_,z,rfl,_,rfl⟩ l1 l2 q (λH e he X=> ?_) (λH X=> ?_) λk1 k2 e=>Du hz 9 (A:=A.in1) (by simp;exact aj B) k1 k2 e
  .subst X;exact RcNeAt.lists ⟨_,u,rfl,_,rfl⟩ ⟨_,z,rfl,_,rfl⟩ H (by exact aj B) he prog w E Q h
  .subst X;exact RcNeAt.lists_lengths ⟨_,u,rfl,_,rfl⟩ ⟨_,z,rfl,_,rfl⟩ H (by exact aj B) prog w E Q h
noncomputable def GG(x:D):Value->Bool
 | .bool a=>(vBool x).any λb=>a==b
 | .int a _=>(vInt x).any λb=>a==b
 | .str a _=>(vStr x).any λb=>a.cps.toList==b
 | .bytes a _=>(bH x).any λb=>a.toList==b
 |_=>false
theorem El{x y:D}{b:Bool}{a c:Value}(e:xI y x=some b)(hx:au Y Z c x)(O:au Y Z a y):b=GG x a/\EqAt A s a c b:=by
 refine⟨?_,Dt O hx e⟩;rcases jB e with⟨p,r,rfl,rfl,rfl⟩|⟨p,r,rfl,rfl,rfl⟩|⟨p,r,rfl,rfl,rfl⟩|⟨p,r,rfl,rfl,rfl⟩<;>((first|have z:=O.g5|obtain⟨_,z⟩:=O.cT|obtain⟨_,z⟩:=O.f6|obtain⟨_,z⟩:=O.bJ)<;>(cases z;rfl))
theorem mC{x:D}: ∀{ys:List D} {b:Bool},eW x ys=some b-> ∃bs:List Bool,bs.length=ys.length/\(∀(i:Nat) (y:D) (c:Bool),ys[i]? =some y->bs[i]? =some c->xI y x=some c)/\b=bs.any id
 |[],b,h=>⟨[],rfl,λi y c h=>by simp at h,by simpa[eW] using h.symm⟩
 |y::ys,b,h=>by
  simp only[eW] at h;rcases e1:xI y x with _|c
  .rw[e1] at h;cases h
  .rcases e2:eW x ys with _|d
   .rw[e1,e2] at h;cases h
   .rw[e1,e2] at h;obtain⟨bs,H,z,hd⟩:=mC e2;refine⟨c::bs,by simp[H],λi u X hx O=> ?_,?_⟩
    .rcases i with _|i
     .simp at hx O;subst hx O;exact e1
     .exact z i u X (by simpa using hx) (by simpa using O)
    .have:b=(c||d):=by simpa using h.symm
     rw[this,hd];rfl
theorem yd{vs:List Value}{bs:List Bool}{f:Value->Bool}(H:bs.length=vs.length)(h: ∀(i:Nat) (v:Value) (c:Bool),vs[i]? =some v->bs[i]? =some c->c=f v):vs.any f=bs.any id:=by
 induction vs generalizing bs with
 |nil=>have:bs=[]:=List.eq_nil_of_length_eq_zero H;subst this;rfl
 |cons v vs B=>
  rcases bs with _|⟨b,bs⟩
  .cases H
  .have h0:=h 0 v b rfl rfl;have:=B (bs:=bs) (by simpa using H) λi v c z u=>h (i+1) v c (by simpa using z) (by simpa using u);simp[h0,this]
theorem Dv{x:D}{ys:List D}{b:Bool}{a c:Value}(e:eW x ys=some b)(hz: ∀a o,Z a o->s.heap.get? a=some o)(hx:au Y Z c x)(O:au Y Z a (.tup ys)):
  ∃(l:Addr) (vs:List Value),a= .ref l/\s.heap.IsTuple l vs.toArray/\(∀y∈vs.toArray,EqAt A.in1 s y c (GG x y))/\vs.toArray.any (GG x)=b:=by
 refine hide λP9 b9=> ?_;obtain⟨l,vs,n,rfl,h,H⟩:=O.isTup hz;obtain⟨bs,X,he,hd⟩:=mC e;refine b9 ?_;have al: ∀(i:Nat) (v:Value) (c':Bool),vs[i]? =some v->bs[i]? =some c'->c'=GG x v/\EqAt A.in1 s v c c':= λi v c' z B=>by
  have u:i<ys.length:=by rw[<-X];exact(List.getElem?_eq_some_iff.mp B).1
  have O:=List.getElem?_eq_getElem u;exact El (he i _ c' O B) hx (H.2 i v _ z O)
 refine⟨l,vs,rfl,⟨_,h,rfl,_,rfl⟩,λy O=> ?_,?_⟩
 .obtain⟨i,u,rfl⟩:=List.getElem_of_mem (by simpa using O);have z:=List.getElem?_eq_getElem u;have am:i<bs.length:=by rw[X,<-H.1];exact u
  have B:=List.getElem?_eq_getElem am;obtain⟨q,r⟩:=al i _ _ z B;rw[<-q];exact r
 .rw[hd,List.any_toArray];exact yd (by rw[X,H.1]) λi v c' z B=>(al i v c' z B).1
structure GH(prog:Program)(w:World):Prop where
 kf: ∀{A:Around} {E:Value->Shared->Prop} {s:Shared} {Q:Value->Shared->Prop} {i:Int} {t u:Tok} {b:List UInt8},0<=i/\i<256->Q (.bool (b.any λc=>(c.toNat:Int)==i)) s->wpAny (model prog w) A (compareOp .In (.int i t) (.bytes b.toArray u)) Q E s
 om: ∀{A:Around} {E:Value->Shared->Prop} {s:Shared} {Q:Value->Shared->Prop} {i:Int} {t u:Tok} {b:List UInt8},0<=i/\i<256->Q (.bool (!(b.any λc=>(c.toNat:Int)==i))) s->wpAny (model prog w) A (compareOp .NotIn (.int i t) (.bytes b.toArray u)) Q E s
 Dw: ∀{A:Around} {E:Value->Shared->Prop} {s:Shared} {Q:Value->Shared->Prop} {a b:List UInt8} {t u:Tok},A.handled=none->(∀h' tk,(∀c o,s.heap.get? c=some o->h'.get? c=some o)->Q (.bool (pv a b)) {s with heap:=h',toks:=tk})->wpAny (model prog w) A (compareOp .In (.bytes a.toArray t) (.bytes b.toArray u)) Q E s
theorem mD{i:Int}{b:List UInt8}{r:Bool}(h:kf i b=some r):(0<=i/\i<256)/\(b.any λc=>(c.toNat:Int)==i)=r:=aJ h
theorem oo{x:D}{b:Bool}{a:Value}(e:isNone x=some b)(O:au Y Z a x):PySem.plainIs a .none=true/\(a==Value.none)=b:=by
 rcases x with _|_<;>first|exact af e|exact(O.inv:False).elim|(cases e;(first|obtain rfl:=O.gZ|obtain⟨_,rfl⟩:=O.bJ|obtain⟨_,_,_,rfl,_,_,_⟩:=O.G6|obtain⟨_,_,_,_,rfl,_,_,_,_,_⟩:=O.Jy);exact⟨rfl,rfl⟩)
theorem jC{f:Int->Int->Bool}{x y:D}{b:Bool}{a c:Value}(e:qH f x y=some b)(O:au Y Z a x)(X:au Y Z c y): ∃p q t u,a= .int p t/\c= .int q u/\f p q=b:=by
 obtain⟨p,h1,B⟩:=ae e;obtain⟨q,z,H⟩:=ar B;obtain rfl:=aD h1;obtain rfl:=aD z;replace O:=O.cT;obtain⟨_,rfl⟩:=O;replace X:=X.cT;obtain⟨_,rfl⟩:=X;exact⟨_,_,_,_,rfl,rfl,H⟩
theorem Em(BI:GH prog w){x y:D}{b:Bool}{a c:Value}{Q:Value->Shared->Prop}(e:inD x y=some b)(H:uP A)(R:Rel Y env T os G Z s.heap)(O:au Y Z a x)(X:au Y Z c y)
  (k: ∀s',Rel Y env T os G Z s'.heap->bN T (WW os G) Z s (WW os G) Z s'->Q (.bool b) s'):wpAny (model prog w) A (compareOp .In a c) Q E s:=by
 have k0:Q (.bool b) s:=k s R bN.refl;unfold inD at e;rcases ht:kg y with _|xs
 .rw[ht] at e;obtain⟨r,u,e1⟩:=ae e;obtain rfl:=aU u;unfold mf at e1;rcases hi:vInt x with _|i
  .rw[hi] at e1;obtain⟨q,z,rfl⟩:=ar e1;obtain rfl:=aU z;replace O:=O.bJ;obtain⟨_,rfl⟩:=O;replace X:=X.bJ;obtain⟨_,rfl⟩:=X;exact BI.Dw H.handled λh' tk hk=>k _ (R.grown hk) ⟨Go.grown hk,rfl,rfl⟩
  .rw[hi] at e1;obtain rfl:=aD hi;obtain⟨B,rfl⟩:=mD e1;replace O:=O.cT;obtain⟨_,rfl⟩:=O;replace X:=X.bJ;obtain⟨_,rfl⟩:=X;exact BI.kf B k0
 .rw[ht] at e;obtain rfl:=eZ ht;obtain⟨l,vs,rfl,i,he,hr⟩:=Dv (A:=A) e R.Zh O X;exact in_tupleAt (GG x) i he (by rw[hr];exact k0)
theorem vM(BI:GH prog w){x y:D}{b:Bool}{a c:Value}{Q:Value->Shared->Prop}(e:kh x y=some b)(hA:uP A)(R:Rel Y env T os G Z s.heap)(O:au Y Z a x)(X:au Y Z c y)
  (k: ∀s',Rel Y env T os G Z s'.heap->bN T (WW os G) Z s (WW os G) Z s'->Q (.bool b) s'):wpAny (model prog w) A (compareOp .NotIn a c) Q E s:=by
 have k0:Q (.bool b) s:=k s R bN.refl;unfold kh at e;rcases ht:kg y with _|xs
 .rw[ht] at e;obtain⟨r,u,e1⟩:=ae e;obtain⟨i,z,H⟩:=ae e1;obtain⟨q,h3,rfl⟩:=ar H;obtain rfl:=aU u;obtain rfl:=aD z;obtain⟨B,rfl⟩:=mD h3;replace O:=O.cT;obtain⟨_,rfl⟩:=O;replace X:=X.bJ;obtain⟨_,rfl⟩:=X;exact BI.om B k0
 .rw[ht] at e;obtain rfl:=eZ ht;obtain⟨r,q,rfl⟩:=ar e;obtain⟨l,vs,rfl,i,he,hr⟩:=Dv (A:=A) q R.Zh O X;exact notIn_tupleAt (GG x) i he (by rw[hr];exact k0)
theorem ib(BI:GH prog w){op:CmpOp}{x y:D}{b:Bool}{a c:Value}{Q:Value->Shared->Prop}(e:n9 op x y=some b)(hA:uP A)(R:Rel Y env T os G Z s.heap)(O:au Y Z a x)(X:au Y Z c y)
  (k: ∀s',Rel Y env T os G Z s'.heap->bN T (WW os G) Z s (WW os G) Z s'->Q (.bool b) s'):wpAny (model prog w) A (compareOp op a c) Q E s:=by
 replace e:ki op x y=some b:=(Jz O X).symm.trans e;have k0:Q (.bool b) s:=k s R bN.refl;have B:A.units+10<cLine:=by have:=hA.units;exact aj this
 rcases op with _|_|_|_|_|_|_|_|_|_
 .exact G8 e B R.Zh O X k0
 .obtain⟨r,q,rfl⟩:=ar e;exact G9 q B R.Zh O X k0
 .obtain⟨p,q,t,u,rfl,rfl,rfl⟩:=jC e O X;exact P.lt_int k0
 .obtain⟨p,q,t,u,rfl,rfl,rfl⟩:=jC e O X;exact P.le_int k0
 .obtain⟨p,q,t,u,rfl,rfl,rfl⟩:=jC e O X;exact P.gt_int k0
 .obtain⟨p,q,t,u,rfl,rfl,rfl⟩:=jC e O X;exact P.ge_int k0
 .obtain⟨_,h1,e1⟩:=ae e;obtain rfl:=dz h1;replace X:=X.gZ;subst X;obtain⟨p1,z⟩:=oo e1 O;exact wpAny_is_plain p1 (by rw[z];exact k0)
 .obtain⟨_,h1,e1⟩:=ae e;obtain rfl:=dz h1;obtain⟨r,H,rfl⟩:=ar e1;replace X:=X.gZ;subst X;obtain⟨p1,z⟩:=oo H O;exact wpAny_isNot_plain p1 (by rw[z];exact k0)
 .exact Em BI e hA R O X k
 .exact vM BI e hA R O X k
set_option tactic.hygienic true in
theorem kx{x:D}{b:Bool}{a:Value}{Q:Bool->Shared->Prop}(e:x.truthy=some b)(hz: ∀a o,Z a o->s.heap.get? a=some o)(O:au Y Z a x)(k: ∀tk,Q b {s with toks:=tk}):wpAny (model prog w) A (truthy a) Q E s:=by
 rcases x with _|_<;>first|exact af e|skip
 .replace O:=O.gZ;subst O;cases e;exact truthy_none (k s.toks)
 .replace O:=O.g5;subst O;cases e;exact wpAny_truthy_bool (k s.toks)
 .rename_i xs;obtain⟨l,vs,n,rfl,h,H⟩:=O.isList hz;rw[i9] at e;revert e;refine gp (λu e=> ?_) (λz e=> ?_)
  .have B:xs.length<=lim:=Nat.le_trans (jy xs) u;obtain rfl:=mq e;have X:(vs.toArray.size:Int)<2^63:=by
    simp only[List.size_toArray];exact l8 (Nat.le_trans (Nat.le_of_eq H.1) B)
   refine wpAny_truthy_list ⟨_,h,rfl,_,rfl⟩ X ?_;have:(!vs.toArray.isEmpty)= !xs.isEmpty:=by
    have:=H.1;rcases vs with _|_<;>rcases xs with _|_<;>simp_all
   rw[this];exact k _
  .cases e
end
section
variable{Y:Lay}{env:Env}{T:List Addr}{os:List (Addr×Obj)}{G:GL}{Z:ZP}{prog:Program}{w:World}{A:Around}{E:Value->Shared->Prop}{s:Shared}
theorem pP(n:Nat)(i:Int):clip n i=clipAt n i:=by
 unfold clip clipAt;rw[vG];by_cases h:i<0
 .rw[if_pos h,if_pos h,Int.min_eq_left (Int.le_trans (Int.add_le_add_right (Int.le_of_lt h) _) (Int.le_of_eq (Int.zero_add _)))]
 .rw[if_neg h,if_neg h];obtain⟨k,rfl⟩:=Int.eq_ofNat_of_zero_le (Int.not_lt.mp h);rw[qE,Int.toNat_natCast,Int.toNat_natCast]
theorem qS{n:Nat}{i:Int}{j:Nat}(e:index n i=some j):0<=i/\i<n/\i.toNat=j/\j<n:=by
 unfold index at e;revert e;refine gp (λz e=> ?_) (λz e=> ?_)
 .cases e;exact⟨z.1,z.2,rfl,(Int.toNat_lt z.1).mpr z.2⟩
 .cases e
set_option tactic.hygienic true in
theorem f9{z:Expr}(hs: ∀lo u p,z≠.Slice lo u none p)(o i:Value):subscripted z false o i=operate [o,i] (getItem o i):=by
 rcases z with _|_<;>first|rfl|skip
 rename_i lo u st p;rcases st with _|_
 .exact absurd rfl (hs _ _ _)
 .rfl
theorem gw{B:Type}{xs:List B}{f:B->D}{y r:D}(h:gq xs f y=some r): ∃i j c,y= .int i/\ ¬lim<xs.length/\0<=i/\i<xs.length/\i.toNat=j/\xs[j]? =some c/\f c=r/\j<xs.length:=by
 refine hide λP9 O=> ?_;obtain⟨i,u,e⟩:=ae h;refine O ?_;by_cases H:lim<xs.length
 .rw[if_pos H] at e;exact af e
 .rw[if_neg H] at e;refine hide λP9 O=> ?_;obtain⟨j,z,e⟩:=ae e;obtain⟨c,X,e⟩:=ar e;obtain⟨a,b,d,g⟩:=qS z;refine O ?_;exact⟨i,j,c,aD u,H,a,b,d,X,e,g⟩
theorem vN{al value:Expr}(hs: ∀lo hi p,al≠.Slice lo hi none p){x y r:D}{a i:Value}{Q:Value->Shared->Prop}(hd: ∀es,x≠.dN es)(e:eu x y=some r)(hz: ∀a o,Z a o->s.heap.get? a=some o)
  (O:au Y Z a x) (hi:au Y Z i y) (k: ∀v tk,au Y Z v r->Q v {s with toks:=tk}):wpAny (model prog w) A (subscriptTail value al a i) Q E s:=by
 have ap:lim<2^63:=by decide
 replace e:pz x y=some r:=(Ek O hi).symm.trans e;rcases x with _|_|_|b|b|xs|xs|es|_|_|_|_|_|_<;>try(exact af e;done)
 .obtain⟨i,j,c,rfl,B,h0,u,z,X,rfl,_⟩:=gw e;replace O:=O.f6;obtain⟨_,rfl⟩:=O;replace hi:=hi.cT;obtain⟨_,rfl⟩:=hi;refine tail_any (T:="str") (typeIs_str _ _ _) PySem.F.slot_str_getitem.lookup (P.getItem_str (c:=c) (by simp;exact⟨Int.le_trans (by decide) h0,Int.lt_trans u (xS (Nat.le_of_not_lt B))⟩) ?_ (k _ _ (au.str (Y:=Y) (Z:=Z) [c] _))) (f9 hs _ _);have: ¬i<0:=Int.not_lt.mpr h0;simp[seqIndex?,this,Str.length,h0,u,z,X]
 .obtain⟨i,j,c,rfl,B,h0,u,z,X,rfl,_⟩:=gw e;replace O:=O.bJ;obtain⟨_,rfl⟩:=O;replace hi:=hi.cT;obtain⟨_,rfl⟩:=hi;have l1:lim<=1099511627776:=by decide
  refine tail_any (T:="bytes") (typeIs_bytes _ _ _) FB.slot_bytes_getitem.lookup (getItem_bytes (by exact bp (Nat.le_of_not_lt B) l1) h0 u ?_) (f9 hs _ _);have:b.getD i.toNat 0=c:=by rw[z,List.getD_eq_getElem?_getD,X];rfl
  rw[this];exact k _ _ (.int _ _)
 .obtain⟨i,j,c,rfl,B,h0,u,z,X,rfl,_⟩:=gw e;obtain⟨l,vs,n,rfl,h,H⟩:=O.isTup hz;replace hi:=hi.cT;obtain⟨_,rfl⟩:=hi;obtain⟨v,hv,hx⟩:=H.get X;refine item_tupleT ⟨_,h,rfl,_,rfl⟩ (Int.le_trans (by decide) h0) (Int.lt_trans u (l8 (Nat.le_of_not_lt B))) (j:=j) ?_ hv (k v s.toks hx) (f9 hs _ _);have: ¬i<0:=Int.not_lt.mpr h0;simp[seqIndex?,this,H.1,h0,u,z]
 .obtain⟨i,j,c,rfl,B,h0,u,z,X,rfl,_⟩:=gw e;obtain⟨l,vs,n,rfl,h,H⟩:=O.isList hz;replace hi:=hi.cT;obtain⟨_,rfl⟩:=hi;obtain⟨v,hv,hx⟩:=H.get X;exact tail_any (T:="list") ⟨_,h,rfl⟩ slot_list_getitem.lookup (wpAny_getItem_list ⟨_,h,rfl,_,rfl⟩ h0 (Int.lt_trans u (l8 (Nat.le_of_not_lt B))) (by rw[z];simpa using hv) (k v s.toks hx)) (f9 hs _ _)
 .exact absurd rfl (hd _)
theorem part_of(lo:Option Int)(n:Nat):(lo.map (clip n)).getD n=lo.elim n (clipAt n):=by
 rcases lo with _|_<;>simp[pP]
theorem qT(lo:Option Int)(n:Nat):(lo.map (clip n)).getD 0=lo.elim 0 (clipAt n):=by
 rcases lo with _|_<;>simp[pP]
theorem ye{n:Nat}{x:Int}:(if x<0 then n-(-x).toNat else min x.toNat n)=clipAt n x:=by
 rw[<-pP];unfold clip;by_cases h:x<0
 .rw[if_pos h,if_pos h];obtain⟨k,e⟩:=Int.eq_ofNat_of_zero_le (Int.neg_nonneg.mpr (Int.le_of_lt h));obtain rfl:x= -(k:Int):=by rw[<-e,Int.neg_neg]
  rw[Int.neg_neg,Int.toNat_natCast,Int.add_comm,<-Int.sub_eq_add_neg,Int.toNat_sub]
 .rw[if_neg h,if_neg h]
theorem vO(v:Option Int)(n:Nat):kms_lo v n=v.elim 0 (clipAt n):=by
 rcases v with _|x
 .rfl
 .exact ye
theorem vQ(v:Option Int)(n:Nat):kms_hi v n=v.elim n (clipAt n):=by
 rcases v with _|x
 .rfl
 .exact ye
theorem vR{value:Expr}{lo hi:Option Expr}{p:Pos}{x r:D}{a l u:Value}{i j:Option Int}{Q:Value->Shared->Prop}(e:jt x i j=some r)(R:Rel Y env T os G Z s.heap)
  (O:au Y Z a x) (X:IsPart l i) (pu:IsPart u j)
  (k: ∀v s' Z',Rel Y env T os G Z' s'.heap->au Y Z' v r->bN T (WW os G) Z s (WW os G) Z' s'->Q v s'):
  wpAny (model prog w) A (subscriptTail value (.Slice lo hi none p) a (.ref s.heap.objs.size)) Q E {s with heap:=s.heap.push {cls:=.type "slice",data:=.fields #[l,u,.none]}}:=by
 have R1:=R.grown (h':=s.heap.push {cls:=.type "slice",data:=.fields #[l,u,.none]}) (λB B e=>Heap.get?_push_of_some _ e);have g1:Go T (WW os G) Z s.heap (WW os G) Z (s.heap.push {cls:=.type "slice",data:=.fields #[l,u,.none]}):=Go.grown (λB B e=>Heap.get?_push_of_some _ e);rcases x with _|_|_|_|b|_|b|_|_|_|_|_|_|_<;>try(exact af e;done)
 .revert e;refine gp (λq9 e=> ?_) (λac e=> ?_)
  .cases e
  .replace O:=O.bJ;obtain⟨_,rfl⟩:=O;cases e;refine tail_any (T:="bytes") (typeIs_bytes _ _ _) FB.slot_bytes_getitem.lookup (getItem_meets (typeIs_bytes _ _ _) (by decide) FB.slot_bytes_getitem FB.entry_bytes_getitem (FB.args_bytes_getitem_2 _ _) (KBc.meets_slice2 _ _ _ X pu)
    ⟨Heap.IsSliceOf.new _ _ _ _,Nat.le_trans (KBc.size_picked_le _ i j) (by simp;exact bU (by exact aj (Nat.le_of_not_lt ac))),λt' tk=> ?_⟩) (ops:=[.ref s.heap.objs.size,_]) rfl
   refine k _ _ Z R1 ?_ ⟨g1,rfl,rfl⟩;have:KBy.picked b.toArray i j=(cut b ((i.map (clip b.length)).getD 0) ((j.map (clip b.length)).getD b.length)).toArray:=by
    rw[KBc.picked_eq,part_of,qT];simp[cut]
   rw[this];exact .bytes _ _
 .revert e;refine gp (λq9 e=> ?_) (λac e=> ?_)
  .cases e
  .cases e;obtain⟨c,vs,n,rfl,h,H⟩:=O.isList R1.Zh;have il:(s.heap.push {cls:=.type "slice",data:=.fields #[l,u,.none]}).IsList c vs.toArray:=⟨_,h,rfl,_,rfl⟩
   refine tail_any (T:="list") ⟨_,h,rfl⟩ slot_list_getitem.lookup (wpAny_getItem_list_slice il (Heap.IsSliceOf.new ..) X pu .none (by simp) ?_ (by have:=H.1;simp;exact bU (by exact bp (Nat.le_of_not_lt ac) (Nat.le_of_eq this)))) (ops:=[.ref s.heap.objs.size,_]) rfl;obtain⟨R2,g2⟩:=Rel.push (s:={s with heap:=s.heap.push {cls:=.type "slice",data:=.fields #[l,u,.none]}}) R1 {cls:=.type "list",data:=.seq (slicePick vs.toArray i j none)} rfl;refine k _ _ _ R2 ?_ ⟨g1.trans g2,rfl,rfl⟩;have q:slicePick vs.toArray i j none=(cut vs ((i.map (clip b.length)).getD 0) ((j.map (clip b.length)).getD b.length)).toArray:=by
    rw[kms_pick_eq,part_of,qT,<-H.1];simp[kms_pick,cut,vO,vQ]
   have hc:aO Y Z (cut vs ((i.map (clip b.length)).getD 0) ((j.map (clip b.length)).getD b.length)) (cut b ((i.map (clip b.length)).getD 0) ((j.map (clip b.length)).getD b.length)):=by
    refine⟨by simp[cut,H.1],λm v x z hx=> ?_⟩;unfold cut at z hx;rw[List.getElem?_take] at z hx;revert z;refine gp (λhm z=> ?_) (λhm z=> ?_)
    .rw[if_pos hm] at hx;rw[List.getElem?_drop] at z hx;exact H.2 _ v x z hx
    .cases z
   exact au.lst (n:=0) (.inr (by rw[q];exact .head _)) hc.1 (hc.mono λB B=>.inl).2
end
section
theorem bD{e:Expr}{x:Str}(h:nameOf e=some x): ∃p,e= .Name x p:=by
 rcases e with _|_<;>first|exact af h|(cases h;exact⟨_,rfl⟩)
theorem s_{e:Expr}{c:Const}(h:hN e=some c): ∃k p,e= .Constant c k p:=by
 rcases e with _|_<;>first|exact af h|(cases h;exact⟨_,_,rfl⟩)
theorem yf{e:Expr}{z:List Expr}(h:xV e=some z): ∃k p,e= .Tuple z k p:=by
 rcases e with _|_<;>first|exact af h|(cases h;exact⟨_,_,rfl⟩)
theorem vU{e:Expr}(h:xV e=none)(es:List Expr)(k:Nat)(p:Pos):e≠.Tuple es k p:= λq=>by subst q;cases h
set_option tactic.hygienic true in
theorem ta{e:Expr}{r:Option Expr×Option Expr}(h:i8 e=some r): ∃p,e= .Slice r.1 r.2 none p:=by
 rcases e with _|_<;>first|exact af h|skip
 rename_i lo u st p;rcases st with _|_
 .cases h;exact⟨_,rfl⟩
 .cases h
theorem qU{e:Expr}(h:i8 e=none)(lo u:Option Expr)(p:Pos):e≠.Slice lo u none p:= λq=>by subst q;cases h
set_option tactic.hygienic true in
theorem qV{e:Expr}{s:Str}(h:xX e=some s): ∃k p,e= .Constant (.str s) k p:=by
 rcases e with _|_<;>first|exact af h|skip
 rename_i c k p;rcases c with _|_<;>first|exact af h|(cases h;exact⟨_,_,rfl⟩)
set_option tactic.hygienic true in
theorem oq{e:Expr}{r:Str×List Expr}(h:og e=some r): ∃O p,e= .Call (.Name r.1 O) r.2 [] p:=by
 rcases e with _|_<;>first|exact af h|skip
 rename_i f u z p;rcases z with _|⟨_,_⟩
 .replace h:(nameOf f).map (λx=>(x,u))=some r:=h;rcases hn:nameOf f with _|x
  .rw[hn] at h;cases h
  .rw[hn] at h;cases h;obtain⟨q,rfl⟩:=bD hn;exact⟨q,p,rfl⟩
 .cases h
structure Fs(Y:Lay)(A:Around)(T:List Addr)(frames:List Env):Prop where
 stack:A.frames=some frames
 cK:T=frames.filterMap (·.frame)
 each: ∀env∈frames,env.scope.kind≠.module/\ ∃L,env.frame=some L/\Y.base.get? L=none
noncomputable def Exc(Y:Lay)(frames:List Env)(V:List Addr)(s:Shared)(e:Value)(s':Shared):Prop:=
 ∃a z B,e= .ref a/\Y.base.StaysIn B/\(∀b o,(hideAll s.heap V).get? b=some o->b∉frames.filterMap (·.frame)->B.get? b=some o)/\Heap.FlyingW B frames a (.ref Y.wf) z s'.heap/\(hideAll s.heap V).UpToSlots s'.heap/\s'.os=s.os/\s'.gens=s.gens
theorem Exc.back{Y:Lay}{frames:List Env}{T W W':List Addr}{Z Z':ZP}{ac z:Shared}{e:Value}{s':Shared}(hT:T=frames.filterMap (·.frame))(g:bN T W Z ac W' Z' z)(x:Exc Y frames W' z e s'):Exc Y frames W ac e s':=by
 refine hide λu b9=> ?_;obtain⟨a,a0,B,rfl,hB,hG,hf,hu,O,hg⟩:=x;refine b9 ?_;have nw: ∀b o,(hideAll ac.heap W).get? b=some o->b∉W:= λb o e m=>by rw[hideAll_none _ m] at e;cases e
 have al: ∀b o,(hideAll ac.heap W).get? b=some o->b∉W':= λb o e m=>by
  rcases g.dB b m with q|q
  .exact nw b o e q
  .rw[of_hideAll _ e] at q;cases q
 refine⟨a,a0,B,rfl,hB,λb o e nf=> ?_,hf,λb o e X=> ?_,O.trans g.os,hg.trans g.gens⟩
 .exact hG b o (hideAll_get _ (g.keep b o (of_hideAll _ e) (nw b o e) (by rw[hT];exact nf)) (al b o e)) nf
 .by_cases m:b∈T
  .obtain⟨sl,q⟩:=g.slots b o (of_hideAll _ e) (nw b o e) m;obtain⟨am,q'⟩:=hu b _ (hideAll_get _ q (al b o e)) X;exact⟨am,q'⟩
  .exact hu b o (hideAll_get _ (g.keep b o (of_hideAll _ e) (nw b o e) m) (al b o e)) X
noncomputable abbrev Tr(α:Type):=(α->Shared->Prop)->(Value->Shared->Prop)->Shared->Prop
structure Fix where
 Y:Lay
 prog:Program
 w:World
 A:Around
 env:Env
 T:List Addr
 frames:List Env
noncomputable def Fix.wp(F:Fix){α:Type}(t:Sem α):Tr α:= λQ E s=>wpAny (model F.prog F.w) F.A t Q E s
noncomputable def Sn(F:Fix){α β:Type}(W:Tr α)(l:Loc)(r:Res (β×Loc))(H:β->α->ZP->List (Addr×Obj)->Prop)(Pre:ZP->Prop):Prop:=
 ∀(os:List (Addr×Obj)) (G:GL) (Z:ZP) (s:Shared) (Q:α->Shared->Prop) (E:Value->Shared->Prop),Pre Z->G.loc=l->Rel F.Y F.env F.T os G Z s.heap->(∀b l',r= .ok (b,l')->(∀a z u Z' s',H b a Z' z->u.loc=l'->u.vals=G.vals->Rel F.Y F.env F.T (z++os) u Z' s'.heap->bN F.T (WW os G) Z s (WW (z++os) u) Z' s'->Q a s')->W Q E s)/\(r= .exc->(∀e s',Exc F.Y F.frames (WW os G) s e s'->E e s')->W Q E s)
variable{F:Fix}{α β γ δ:Type}
noncomputable def qW(Pre:ZP->Prop):Prop:= ∀Z Z',(∀a o,Z a o->Z' a o)->Pre Z->Pre Z'
theorem Sn.stuck{W:Tr α}{l:Loc}{H:β->α->ZP->List (Addr×Obj)->Prop}{Pre:ZP->Prop}:Sn F W l (.stuck:Res (β×Loc)) H Pre:=
 λB B B B B B B B B=>⟨(λB B e=>by cases e),(λe=>by cases e)⟩
theorem Sn.imp{W W':Tr α}{l:Loc}{r:Res (β×Loc)}{H:β->α->ZP->List (Addr×Obj)->Prop}{Pre:ZP->Prop}(h:Sn F W l r H Pre)(X: ∀Q E s,W Q E s->W' Q E s):Sn F W' l r H Pre:=
 λos G Z s Q E z u R=>⟨λb l' e k=>X _ _ _ ((h os G Z s Q E z u R).1 b l' e k),λe k=>X _ _ _ ((h os G Z s Q E z u R).2 e k)⟩
theorem Sn.pre{W:Tr α}{l:Loc}{r:Res (β×Loc)}{H:β->α->ZP->List (Addr×Obj)->Prop}{Pre u:ZP->Prop}(h:Sn F W l r H Pre)(B: ∀Z,u Z->Pre Z):Sn F W l r H u:=
 λos G Z s Q E p z R=>h os G Z s Q E (B Z p) z R
theorem Sn.bind{W₁:Tr α}{W₂:α->Tr γ}{l:Loc}{r₁:Res (β×Loc)}{f:β×Loc->Res (δ×Loc)}{cx:β->α->ZP->List (Addr×Obj)->Prop}{H₂:δ->γ->ZP->List (Addr×Obj)->Prop}{Pre:ZP->Prop}
  (hT:F.T=F.frames.filterMap (·.frame)) (hm:qW Pre) (bb: ∀b a Z ts,cx b a Z ts->ts=[]) (X:Sn F W₁ l r₁ cx Pre)
  (aI: ∀b u a,Sn F (W₂ a) u (f (b,u)) H₂ (λZ=>Pre Z/\cx b a Z [])):
  Sn F (λQ E s=>W₁ (λa z=>W₂ a Q E z) E s) l (r₁.bind f) H₂ Pre:=by
 intro os G Z s Q E hp hl R;rcases e:r₁ with _|_|p
 .exact⟨(λb l' q=>by cases q),(λq=>by cases q)⟩
 .refine⟨(λb l' q=>by cases q),λB k=> ?_⟩;exact(X os G Z s _ E hp hl R).2 e k
 .obtain⟨b,u⟩:=p;refine⟨λd l' q k=> ?_,λq k=> ?_⟩
  .refine(X os G Z s _ E hp hl R).1 b u e λa ts O an z hH al ap am ac=> ?_;obtain rfl:=bb _ _ _ _ hH;refine(aI b u a os O an z Q E ⟨hm _ _ ac.mono hp,hH⟩ al am).1 d l' q λc ts a4 a6 s₂ a0 a1 a2 a5 a7=> ?_;exact k c ts a4 a6 s₂ a0 a1 (a2.trans ap) a5 (ac.trans a7)
  .refine(X os G Z s _ E hp hl R).1 b u e λa ts O an z hH al ap am ac=> ?_;obtain rfl:=bb _ _ _ _ hH;exact(aI b u a os O an z Q E ⟨hm _ _ ac.mono hp,hH⟩ al am).2 q λe' s' x=>k e' s' (Exc.back hT ac x)
theorem Sn.opt{W:Tr α}{l:Loc}{o:Option β}{f:β->Res (δ×Loc)}{H:δ->α->ZP->List (Addr×Obj)->Prop}{Pre:ZP->Prop}(h: ∀x,o=some x->Sn F W l (f x) H Pre):Sn F W l ((Res.of o).bind f) H Pre:=by
 rcases o with _|x
 .exact Sn.stuck
 .exact h x rfl
theorem Sn.done{W:Tr α}{l:Loc}{b:β}{H:β->α->ZP->List (Addr×Obj)->Prop}{Pre:ZP->Prop}
  (h: ∀(os:List (Addr×Obj)) (G:GL) (Z:ZP) (s:Shared) (Q:α->Shared->Prop) (E:Value->Shared->Prop),Pre Z->G.loc=l->Rel F.Y F.env F.T os G Z s.heap->(∀a z Z' s',H b a Z' z->Rel F.Y F.env F.T (z++os) G Z' s'.heap->bN F.T (WW os G) Z s (WW (z++os) G) Z' s'->Q a s')->W Q E s):Sn F W l (.ok (b,l)) H Pre:=
 λos G Z s Q E X O R=>⟨λb' l' e k=>by
  cases e;exact h os G Z s Q E X O R λa z Z' s' B u g=>k a z G Z' s' B O rfl u g,λe=>by cases e⟩
noncomputable def HV(Y:Lay):MV->Value->ZP->List (Addr×Obj)->Prop:= λmv v Z z=>b_ Y Z ⟨v,mv,z⟩
noncomputable def HD(Y:Lay):D->Value->ZP->List (Addr×Obj)->Prop:= λx v Z z=>au Y Z v x/\z=[]
noncomputable def GI(Y:Lay):List D->List Value->ZP->List (Addr×Obj)->Prop:= λxs vs Z z=>aO Y Z vs xs/\z=[]
noncomputable def HB:Bool->Bool->ZP->List (Addr×Obj)->Prop:= λb c B z=>c=b/\z=[]
noncomputable def JA:Bool->Value->ZP->List (Addr×Obj)->Prop:= λb v B z=>v= .bool b/\z=[]
theorem Res.bind_assoc{α β γ:Type}(r:Res α)(f:α->Res β)(g:β->Res γ):(r.bind f).bind g=r.bind λa=>(f a).bind g:=by rcases r with _|_<;>rfl
theorem Res.jD{α β:Type}{c:Prop}[Decidable c](a b:Res α)(f:α->Res β):(if c then a else b).bind f=if c then a.bind f else b.bind f:=by split<;>rfl
noncomputable def cv(F:Fix){α β:Type}(V:List Addr)(os:List (Addr×Obj))(vs:List (Str×Value))(Z:ZP)(s:Shared)(H:β->α->ZP->List (Addr×Obj)->Prop)(r:Res (β×Loc))(Q:α->Shared->Prop)(E:Value->Shared->Prop):Prop:=match r with
 | .stuck=>False
 | .exc=> ∀e s',Exc F.Y F.frames V s e s'->E e s'
 | .ok p=> ∀a z u Z' s',H p.1 a Z' z->u.loc=p.2->u.vals=vs->Rel F.Y F.env F.T (z++os) u Z' s'.heap->bN F.T V Z s (WW (z++os) u) Z' s'->Q a s'
section
variable{W:Tr α}{l:Loc}{r:Res (β×Loc)}{H:β->α->ZP->List (Addr×Obj)->Prop}{Pre:ZP->Prop}{V V':List Addr}{os:List (Addr×Obj)}{vs:List (Str×Value)}{G:GL}{Z Z':ZP}{s s':Shared}{Q:α->Shared->Prop}{E:Value->Shared->Prop}
theorem Sn.run(h:Sn F W l r H Pre)(z:Pre Z)(u:G.loc=l)(R:Rel F.Y F.env F.T os G Z s.heap)(K:cv F (WW os G) os G.vals Z s H r Q E):W Q E s:=by
 rcases r with _|_|p
 .exact False.elim K
 .exact(h os G Z s Q E z u R).2 rfl K
 .exact(h os G Z s Q E z u R).1 _ _ rfl K
theorem Sn.of(h: ∀(os:List (Addr×Obj)) (G:GL) (Z:ZP) (s:Shared) (Q:α->Shared->Prop) (E:Value->Shared->Prop),Pre Z->G.loc=l->Rel F.Y F.env F.T os G Z s.heap->cv F (WW os G) os G.vals Z s H r Q E->W Q E s):Sn F W l r H Pre:=
 λos G Z s Q E z u R=>⟨λb l' e k=>h os G Z s Q E z u R (by rw[e];exact k),λe k=>h os G Z s Q E z u R (by rw[e];exact k)⟩
theorem cv.go(hT:F.T=F.frames.filterMap (·.frame))(g:bN F.T V Z s V' Z' s')(K:cv F V os vs Z s H r Q E):cv F V' os vs Z' s' H r Q E:=by
 rcases r with _|_|p
 .exact K
 .exactλe B x=>K e B (Exc.back hT g x)
 .exactλa ts G' ac B u z X O g'=>K a ts G' ac B u z X O (g.trans g')
theorem cv.opt{o:Option δ}{f:δ->Res (β×Loc)}{P:Prop}(K:cv F V os vs Z s H ((Res.of o).bind f) Q E)(k: ∀x,o=some x->cv F V os vs Z s H (f x) Q E->P):P:=by
 rcases o with _|x
 .exact False.elim K
 .exact k x rfl K
theorem cv.ite{c:Prop}[Decidable c]{P:Prop}(K:cv F V os vs Z s H (if c then r else .stuck) Q E)(k:c->cv F V os vs Z s H r Q E->P):P:=by
 by_cases h:c
 .rw[if_pos h] at K;exact k h K
 .rw[if_neg h] at K;exact False.elim K
variable{W₁:Tr γ}{r₁:Res (δ×Loc)}{cx:δ->γ->ZP->List (Addr×Obj)->Prop}{f:δ×Loc->Res (β×Loc)}{Q₁:γ->Shared->Prop}
theorem Sn.then(al:Sn F W₁ l r₁ cx Pre)(hT:F.T=F.frames.filterMap (·.frame))(hp:Pre Z)(hl:G.loc=l)(R:Rel F.Y F.env F.T os G Z s.heap)(K:cv F (WW os G) os G.vals Z s H (r₁.bind f) Q E)
  (k: ∀b ac a ts O B z,cx b a B ts->O.loc=ac->Rel F.Y F.env F.T (ts++os) O B z.heap->(∀a o,Z a o->B a o)->O.vals=G.vals->cv F (WW (ts++os) O) os O.vals B z H (f (b,ac)) Q E->Q₁ a z):W₁ Q₁ E s:=by
 refine al.run hp hl R ?_;rcases r₁ with _|_|p
 .exact K
 .exact K
 .exactλa ts G' Z' s' u h2 X h4 g=>k p.1 p.2 a ts G' Z' s' u h2 h4 g.mono X (by rw[X];exact cv.go hT g K)
end
theorem Sn.lE{W:Tr Value}{l:Loc}{r:Res (MV×Loc)}{Pre:ZP->Prop}(h:Sn F W l r (HV F.Y) Pre):Sn F W l (r.bind λ(v,l)=>.ok (v.D,l)) (HD F.Y) Pre:=by
 refine Sn.of λos G Z s Q E hp hl R K=>h.run hp hl R ?_;rcases r with _|_|p
 .exact K
 .exact K
 .exactλa ts O al z hH X ac u am=>K a [] O (ZU al ts) z ⟨b_.lE (s:=⟨a,p.1,ts⟩) (λB B=>.inl) hH λp hp=>.inr hp,rfl⟩ X ac u.lE (am.trans ⟨Go.lE,rfl,rfl⟩)
section
variable{l:Loc}{H:β->α->ZP->List (Addr×Obj)->Prop}{Pre:ZP->Prop}{os:List (Addr×Obj)}{G:GL}{Z:ZP}{s:Shared}{Q:α->Shared->Prop}{E:Value->Shared->Prop}
theorem Sn.lh{W₁:Tr Value}{r₁:Res (D×Loc)}{f:D×Loc->Res (β×Loc)}{Q₁:Value->Shared->Prop}(X:Sn F W₁ l r₁ (HD F.Y) Pre)(hT:F.T=F.frames.filterMap (·.frame))(hp:Pre Z)(hl:G.loc=l)(R:Rel F.Y F.env F.T os G Z s.heap)(K:cv F (WW os G) os G.vals Z s H (r₁.bind f) Q E)
  (k: ∀x u v O B z,au F.Y B v x->O.loc=u->Rel F.Y F.env F.T os O B z.heap->(∀a o,Z a o->B a o)->O.vals=G.vals->cv F (WW os O) os O.vals B z H (f (x,u)) Q E->Q₁ v z):W₁ Q₁ E s:=
 X.then hT hp hl R K λx u v ts O B z h=>by obtain⟨h,rfl⟩:=h;exact k x u v O B z h
theorem Sn.mE{W₁:Tr (List Value)}{r₁:Res (List D×Loc)}{f:List D×Loc->Res (β×Loc)}{Q₁:List Value->Shared->Prop}(X:Sn F W₁ l r₁ (GI F.Y) Pre)(hT:F.T=F.frames.filterMap (·.frame))(hp:Pre Z)(hl:G.loc=l)(R:Rel F.Y F.env F.T os G Z s.heap)(K:cv F (WW os G) os G.vals Z s H (r₁.bind f) Q E)
  (k: ∀x u v O B z,aO F.Y B v x->O.loc=u->Rel F.Y F.env F.T os O B z.heap->(∀a o,Z a o->B a o)->O.vals=G.vals->cv F (WW os O) os O.vals B z H (f (x,u)) Q E->Q₁ v z):W₁ Q₁ E s:=
 X.then hT hp hl R K λx u v ts O B z h=>by obtain⟨h,rfl⟩:=h;exact k x u v O B z h
theorem Sn.qX{W₁:Tr Bool}{r₁:Res (Bool×Loc)}{f:Bool×Loc->Res (β×Loc)}{Q₁:Bool->Shared->Prop}(X:Sn F W₁ l r₁ HB Pre)(hT:F.T=F.frames.filterMap (·.frame))(hp:Pre Z)(hl:G.loc=l)(R:Rel F.Y F.env F.T os G Z s.heap)(K:cv F (WW os G) os G.vals Z s H (r₁.bind f) Q E)
  (k: ∀x u O B z,O.loc=u->Rel F.Y F.env F.T os O B z.heap->(∀a o,Z a o->B a o)->O.vals=G.vals->cv F (WW os O) os O.vals B z H (f (x,u)) Q E->Q₁ x z):W₁ Q₁ E s:=
 X.then hT hp hl R K λx u v ts O B z h=>by obtain⟨rfl,rfl⟩:=h;exact k _ u O B z
end
structure jf(F:Fix){ρ:Type}(E:Value->Shared->Prop)(P:List Addr->GL->ZP->Shared->Res ρ->Prop):Prop where
 stuck: ∀{V G Z s},P V G Z s .stuck->False
 exc: ∀{V G Z s},P V G Z s .exc-> ∀e s',Exc F.Y F.frames V s e s'->E e s'
 go: ∀{V V' G G' Z Z' s s' r},bN F.T V Z s V' Z' s'->G'.vals=G.vals->P V G Z s r->P V' G' Z' s' r
theorem cv.tc(hT:F.T=F.frames.filterMap (·.frame)){os:List (Addr×Obj)}{H:β->α->ZP->List (Addr×Obj)->Prop}{Q:α->Shared->Prop}{E:Value->Shared->Prop}:jf F E (λV G Z s r=>cv F V os G.vals Z s H r Q E):=
 ⟨id,id,λg z K=>by rw[z];exact cv.go hT g K⟩
section
variable{ρ:Type}{E:Value->Shared->Prop}{P:List Addr->GL->ZP->Shared->Res ρ->Prop}{V:List Addr}{G:GL}{Z:ZP}{s:Shared}
theorem jf.opt(u:jf F E P){o:Option δ}{f:δ->Res ρ}{p:Prop}(K:P V G Z s ((Res.of o).bind f))(k: ∀x,o=some x->P V G Z s (f x)->p):p:=by
 rcases o with _|x
 .exact(u.stuck K).elim
 .exact k x rfl K
theorem jf.then(hP:jf F E P){l:Loc}{os:List (Addr×Obj)}{W₁:Tr γ}{r₁:Res (δ×Loc)}{cx:δ->γ->ZP->List (Addr×Obj)->Prop}{f:δ×Loc->Res ρ}{Q₁:γ->Shared->Prop}(am:Sn F W₁ l r₁ cx (λB=>True))(hl:G.loc=l)(R:Rel F.Y F.env F.T os G Z s.heap)(K:P (WW os G) G Z s (r₁.bind f))
  (k: ∀b al a ts O ac z,cx b a ac ts->O.loc=al->Rel F.Y F.env F.T (ts++os) O ac z.heap->P (WW (ts++os) O) O ac z (f (b,al))->Q₁ a z):W₁ Q₁ E s:=by
 refine am.run trivial hl R ?_;rcases r₁ with _|_|p
 .exact hP.stuck K
 .exact hP.exc K
 .exactλa ts G' Z' s' u h2 X h4 g=>k p.1 p.2 a ts G' Z' s' u h2 h4 (hP.go g X K)
end
end
section
noncomputable def yg(Y:Lay):GV->Value->Prop
 | .fn i,v=>v= .ref (Y.fa i)
 | .cls C _,v=>v= .ref (Y.ca C)
 | .exc C,v=>v= .ref (Y.ca C)
 | .data x,v=>au Y (λa o=>Y.base.get? a=some o) v x
 | .bi b,v=>v=match b with
   | .len=>.builtin "len"| .min=>.builtin "min"| .chr=>.builtin "chr"| .ord=>.builtin "ord"| .bytes=>.type "bytes"
   | .range=>.type "range"| .isinstance=>.builtin "isinstance"| .sorted=>.builtin "sorted"| .list=>.type "list"
structure dR(F:Fix)(X:Cx):Prop where
 ao:uP F.A
 fs:Fs F.Y F.A F.T F.frames
 env:qO F.Y F.env
 kind: ∀x,X.kind x=F.env.kindOf x
 G_:F.env.kindOf "__debug__"=none
 glob: ∀x g,X.glob x=some g-> ∃v,yg F.Y g v/\ ∀(env:Env) (E:Value->Shared->Prop) (s:Shared) (Q:Value->Shared->Prop),env.globals=mainGlobals->env.builtins=builtinsNs->env.scope.kind= .function->env.kindOf x=some .globalImplicit->F.Y.base.StaysIn s.heap->Q v s-> ∀A,wpAny (model F.prog F.w) A (loadName env x) Q E s
 bi:GH F.prog F.w
 lQ:F.Y.K.In F.Y.base
 hash:F.Y.hs=hashStr F.w
 top: ∃a o,F.Y.base.get? a=some o/\F.Y.base.objs.size=a+1
 attr: ∀C a,X.attr C a=true->plainGet F.Y.K (F.Y.ca C) a=true/\hasDictIn F.Y.K (F.Y.ca C)=true/\findIn F.Y.K (.ref (F.Y.ca C)) a=some none
variable{F:Fix}{X:Cx}
theorem dR.hT(O:dR F X):F.T=F.frames.filterMap (·.frame):=O.fs.cK
theorem dR.name(O:dR F X){x:Str}{k:NameKind}(h:F.env.kindOf x=some k):(x==("__debug__":Str))=false:=by
 rcases q:x==("__debug__":Str) with _|_
 .rfl
 .rw[eq_of_beq q,O.G_] at h;cases h
theorem Rel.stays{Y:Lay}{env:Env}{T:List Addr}{os:List (Addr×Obj)}{G:GL}{Z:ZP}{h:Heap}(R:Rel Y env T os G Z h):Y.base.StaysIn h:= λa o e=>R.Zh a o (R.Zb a o e)
theorem dR.Bw(O:dR F X){E:Value->Shared->Prop}{s:Shared}{Q:Value->Shared->Prop}{x:Str}{v:Value}(w:jA F.env s.heap x v)(h:Q v s):wpAny (model F.prog F.w) F.A (loadName F.env x) Q E s:=by
 rcases w with⟨k,m,B,e⟩|⟨k,c,u,i⟩
 .exact wpAny_loadName_local O.env.kind k B e h
 .exact wpAny_loadName_cell O.env.kind k u i h
theorem jA.kinds{env:Env}{h:Heap}{x:Str}{v:Value}(w:jA env h x v): ∃k,env.kindOf x=some k:=by
 rcases w with⟨k,_⟩|⟨k,_⟩<;>exact⟨_,k⟩
theorem dR.evalVar(O:dR F X){E:Value->Shared->Prop}{s:Shared}{Q:Value->Shared->Prop}{x:Str}{pos:Pos}{v:Value}(w:jA F.env s.heap x v)(h:Q v s):wpAny (model F.prog F.w) F.A (eval (.Name x pos) F.env) Q E s:=
 let⟨_,k⟩:=w.kinds
 wpAny_Name (O.Bw w h) (O.name k)
theorem b_.ofD{Y:Lay}{Z:ZP}{v:Value}{x:D}{z:List (Addr×Obj)}(h:b_ Y Z ⟨v,.d x,z⟩):au Y Z v x/\z=[]:=h
theorem Bx(O:dR F X)(x:Str)(pos:Pos)(l:Loc):Sn F (F.wp (eval (.Name x pos) F.env)) l (readName X x l) (HV F.Y) (λB=>True):=by
 refine Sn.of λos G Z s Q E B H R K=> ?_;subst H;unfold readName at K;by_cases c:isLocal X x=true
 .rw[if_pos c,GL.bw] at K;rcases eg:G.get? x with _|sl
  .rw[eg] at K;exact False.elim K
  .rw[eg] at K;obtain⟨w,hs⟩:=R.vars _ (GL.aS eg);refine O.evalVar w ?_;obtain⟨v,mv,z⟩:=sl;rcases mv with d|o
   .exact K v [] G Z s ⟨hs.1,rfl⟩ rfl rfl R bN.refl
   .obtain⟨u,hd,g⟩:=R.Ej eg;exact K v [] (G.set x ⟨v,.d (MV.own o).D,[]⟩) _ s ⟨hd,rfl⟩ (GL.dE ..) (e_ eg rfl) u ⟨g,rfl,rfl⟩
 .rw[if_neg c] at K;refine K.ite λhk K=> ?_;have ac:F.env.kindOf x=some .globalImplicit:=by rw[<-O.kind];exact eq_of_beq hk
  rcases e:X.glob x with _|g
  .rw[e] at K;exact False.elim K
  .rw[e] at K;obtain⟨v,hv,hw⟩:=O.glob x g e;have fin: ∀{d:D},au F.Y Z v d->cv F (WW os G) os G.vals Z s (HV F.Y) (.ok (.d d,G.loc)) Q E->wpAny (model F.prog F.w) F.A (eval (.Name x pos) F.env) Q E s:= λhd K=>
    wpAny_Name (hw F.env _ _ _ O.env.globals O.env.builtins O.env.kind ac R.stays (K v [] G Z s ⟨hd,rfl⟩ rfl rfl R bN.refl) F.A) (O.name ac)
   rcases g with i|_|d|_|_
   .exact fin (by rw[hv];exact .fn i) K
   .exact False.elim K
   .exact K.ite λB K=>fin (au.mono R.Zb hv) K
   .exact False.elim K
   .exact False.elim K
theorem bx:qW (λB=>True):= λB B B B=>trivial
theorem jE{Pre:ZP->Prop}{Y:Lay}{x:D}{v:Value}(h:qW Pre):qW (λZ=>Pre Z/\HD Y x v Z []):= λZ Z' m p=>⟨h Z Z' m p.1,au.mono m p.2.1,rfl⟩
theorem Ha{Pre:ZP->Prop}{Y:Lay}{x:List D}{v:List Value}(h:qW Pre):qW (λZ=>Pre Z/\GI Y x v Z []):= λZ Z' m p=>⟨h Z Z' m p.1,aO.mono m p.2.1,rfl⟩
theorem jF{Y:Lay}: ∀b a Z z,HD Y b a Z z->z=[]:= λB B B B h=>h.2
theorem pQ{Y:Lay}: ∀b a Z z,GI Y b a Z z->z=[]:= λB B B B h=>h.2
theorem Ke: ∀b a Z z,HB b a Z z->z=[]:= λB B B B h=>h.2
theorem dR.above(O:dR F X){h:Heap}(hs:F.Y.base.StaysIn h):F.Y.base.objs.size<=h.objs.size:=by
 obtain⟨a,o,u,z⟩:=O.top;rw[z];exact Nat.succ_le_of_lt (Heap.lt_size (hs a o u))
noncomputable abbrev jG:=Expr->Loc->Res (MV×Loc)
noncomputable def bV(F:Fix)(ev:jG):Prop:= ∀e l,Sn F (F.wp (eval e F.env)) l (ev e l) (HV F.Y) (λB=>True)
variable{ev:jG}
theorem aY(I:bV F ev)(e:Expr)(l:Loc):Sn F (F.wp (eval e F.env)) l (aF ev e l) (HD F.Y) (λB=>True):=(I e l).lE
theorem eI(O:dR F X)(I:bV F ev)(dZ: ∀e p l,ev (.Starred e p) l= .stuck)(pos:Pos): ∀(es:List Expr) (l:Loc),Sn F (F.wp (spliced (backTo pos (starEach es F.env)))) l (bu ev es l) (GI F.Y) (λB=>True):=by
 intro l9;induction l9 with
 |nil=>
  intro l;exact Sn.done λos G Z s Q E B B R k=>args_nil (k [] [] Z s ⟨aO.nil,rfl⟩ R bN.refl)
 |cons e es al=>
  intro l;by_cases hs: ∃e' p,e= .Starred e' p
  .obtain⟨e',p,rfl⟩:=hs;unfold bu;rw[dZ];exact Sn.stuck
  .have z:starEach (e::es) F.env=(false,eval e F.env)::starEach es F.env:=by
    rcases e with _|_<;>first|rfl|exact absurd ⟨_,_,rfl⟩ hs
   have am:=Sn.bind (W₂:= λv Q E s=>wpAny (model F.prog F.w) F.A (spliced (backTo pos (starEach es F.env))) (λvs s₂=>Q (v::vs) s₂) E s)
    (f:= λ(v,l)=>bu ev es l |>.bind λ(vs,l)=>.ok (v::vs,l)) (H₂:=GI F.Y) O.hT bx jF (aY I e l) (λx u v=>by
    refine Sn.bind (W₂:= λvs Q E s=>Q (v::vs) s) (f:= λ(vs,l)=>.ok (x::vs,l)) (cx:=GI F.Y) O.hT (jE bx) pQ ((al u).pre λB B=>trivial) λxs ap vs=> ?_;exact Sn.done λos G Z s Q E H B R k=>k _ [] Z s ⟨aO.cons H.1.2.1 H.2.1,rfl⟩ R bN.refl)
   have ac:bu ev (e::es) l=(aF ev e l).bind (λ(v,l)=>bu ev es l |>.bind λ(vs,l)=>.ok (v::vs,l)):=by
    show(ev e l).bind _=((ev e l).bind _).bind _;cases ev e l<;>rfl
   rw[ac];exact am.imp λQ E s h=>args_cons h z
end
section
variable{F:Fix}{X:Cx}{ev:jG}
noncomputable abbrev lR:=Expr->Loc->Res (Bool×Loc)
noncomputable def jg(F:Fix)(tv:lR):Prop:= ∀e l z,z=eval e F.env->Sn F (F.wp (isTrue e F.env z)) l (tv e l) HB (λB=>True)
theorem yh{B:Type}{c:Prop}[Decidable c]{a:B}{P:Res B->Prop}(u:c->P (.ok a))(z:P .stuck):P (if c then .ok a else .stuck):=by
 split
 .exact u (by assumption)
 .exact z
theorem yi(O:dR F X)(I:bV F ev)(dZ: ∀e p l,ev (.Starred e p) l= .stuck)(es:List Expr)(k:Nat)(pos:Pos)(l:Loc):
  Sn F (F.wp (eval (.Tuple es k pos) F.env)) l (bu ev es l |>.bind λ(ds,l)=>if ds.length<=lim then .ok (.d (.tup ds),l) else .stuck) (HV F.Y) (λB=>True):=by
 refine Sn.imp (Sn.bind (W₂:= λ(vs:List Value) Q E s=>vs.length<=sizeLine/\Q (Value.ref s.heap.objs.size) {s with heap:=s.heap.push {cls:=Value.type "tuple",data:=Data.seq vs.toArray}})
  (H₂:=HV F.Y) O.hT bx pQ (eI O I dZ pos es l) λds u vs=> ?_) λQ E s h=>wpAny_Tuple h
 refine yh (P:= λr=>Sn F _ u r _ _) (λz=> ?_) Sn.stuck;refine Sn.done λos G Z s Q E H B R k=>⟨by rw[H.2.1.1];exact bU z,?_⟩
 obtain⟨R',g⟩:=R.push {cls:=Value.type "tuple",data:=Data.seq vs.toArray} rfl;refine k _ [] _ _ ⟨au.tup (n:=0) (.inr (.head _)) H.2.1.1 (H.2.1.mono λB B=>.inl).2,rfl⟩ R' ⟨g,rfl,rfl⟩
theorem yj(O:dR F X)(I:bV F ev)(dZ: ∀e p l,ev (.Starred e p) l= .stuck)(es:List Expr)(pos:Pos)(l:Loc):
  Sn F (F.wp (eval (.List es pos) F.env)) l (bu ev es l |>.bind λ(ds,l)=>if ds.length<=lim/\aG ds=false then .ok (.own (.lst ds),l) else .stuck) (HV F.Y) (λB=>True):=by
 refine Sn.imp (Sn.bind (W₂:= λ(vs:List Value) Q E s=>vs.length<=sizeLine/\Q (Value.ref s.heap.objs.size) {s with heap:=s.heap.push {cls:=Value.type "list",data:=Data.seq vs.toArray}})
  (H₂:=HV F.Y) O.hT bx pQ (eI O I dZ pos es l) λds u vs=> ?_) λQ E s h=>wpAny_List h
 refine yh (P:= λr=>Sn F _ u r _ _) (λz=> ?_) Sn.stuck;refine Sn.done λos G Z s Q E H B R k=>⟨by rw[H.2.1.1];exact bU z.1,?_⟩
 exact k _ [(s.heap.objs.size,listOf vs.toArray 0)] Z _ (dD.lst H.2.1) (R.alloc _ rfl) ⟨Go.alloc _,rfl,rfl⟩
theorem yk(O:dR F X)(pos:Pos)(l:Loc):Sn F (F.wp (eval (.Dict [] [] pos) F.env)) l (.ok (.d (.dN []),l)) (HV F.Y) (λB=>True):=by
 refine Sn.done λos G Z s Q E H B R k=>wpAny_Dict_empty ?_;obtain⟨u,g⟩:=R.push {cls:=Value.type "dict",data:=Data.dict #[]} rfl;exact k _ [] _ _ ⟨au.dN (es:=[]) (n:=0) (.inr (.head _)) ⟨rfl,rfl,rfl⟩ rfl rfl (λi e p h=>by simp at h) (λi e p h=>by simp at h),rfl⟩ u ⟨g,rfl,rfl⟩
theorem yl(c:Const)(k:Nat)(pos:Pos)(l:Loc):Sn F (F.wp (eval (.Constant c k pos) F.env)) l ((Res.of (pB c)).bind λd=>.ok (.d d,l)) (HV F.Y) (λB=>True):=by
 refine Sn.opt λx e=>Sn.done λos G Z s Q E H B R k=> ?_;rcases c with _|_<;>first|exact af e|cases e
 .exact wpAny_Constant_none (k _ [] Z s ⟨.none,rfl⟩ R bN.refl)
 .exact wpAny_Constant_bool (k _ [] Z s ⟨.bool _,rfl⟩ R bN.refl)
 .exact wpAny_Constant_int (k _ [] Z _ ⟨.int _ _,rfl⟩ R bN.refl)
 .exact wpAny_Constant_str (k _ [] Z _ ⟨by simpa using au.str (Y:=F.Y) (Z:=Z) _ _,rfl⟩ R bN.refl)
 .exact Constant_bytes (k _ [] Z _ ⟨.bytes _ _,rfl⟩ R bN.refl)
theorem ym(O:dR F X)(I:bV F ev)(a b:Expr)(op:Operator)(pos:Pos)(l:Loc):
  Sn F (F.wp (eval (.BinOp a op b pos) F.env)) l (aF ev a l |>.bind λ(x,l)=>aF ev b l |>.bind λ(y,l)=>(Res.of (binop op x y)).bind λr=>.ok (r,l)) (HV F.Y) (λB=>True):=
 Sn.of λos G Z s Q E H hl R K=>wpAny_BinOp<|(aY I a l).lh O.hT H hl R K λx an u ap aI z hu hl R m B K=>(aY I b an).lh O.hT trivial hl R K λy a0 v ac al s₂ hv hl R m B K=>
  K.opt λr e K=>yc e (by have:=O.ao.units;exact aj this) R (hu.mono m) hv λsl s' em R' hs g=>K sl.v sl.os ac al s' (by rw[<-em];exact hs) hl rfl R' g
theorem yn(O:dR F X){W:Tr Value}{l:Loc}{r:Res (MV×Loc)}{Pre:ZP->Prop}(h:Sn F W l r (HV F.Y) Pre):
  Sn F (λQ E s=>W (λv z=>wpAny (model F.prog F.w) F.A (truthy v) Q E z) E s) l (r.bind λ(v,l)=>(Res.of v.D.truthy).bind λt=>.ok (t,l)) HB Pre:=
 Sn.of λos G Z s Q E H hl R K=>h.then O.hT H hl R K λv u a ts ac am z hH hl R B B K=>K.opt λt et K=>
  kx et R.lE.Zh (b_.lE (s:=⟨a,v,ts⟩) (λB B=>.inl) hH λp H=>.inr H) λtk=>K t [] ac _ _ ⟨rfl,rfl⟩ hl rfl R.lE ⟨Go.lE,rfl,rfl⟩
theorem En(O:dR F X)(I:bV F ev)(a:Expr)(pos:Pos)(l:Loc):
  Sn F (F.wp (eval (.UnaryOp .Not a pos) F.env)) l (ev a l |>.bind λ(v,l)=>(Res.of v.D.truthy).bind λt=>.ok (.d (.bool !t),l)) (HV F.Y) (λB=>True):=
 Sn.of λos G Z s Q E H hl R K=>wpAny_UnaryOp<|(I a l).then O.hT H hl R K λv an u ts ac am z hH hl R B B K=>K.opt λt et K=>
  not_of (kx et R.lE.Zh (b_.lE (s:=⟨u,v,ts⟩) (λB B=>.inl) hH λp H=>.inr H) λtk=>K (.bool !t) [] ac _ _ ⟨.bool _,rfl⟩ hl rfl R.lE ⟨Go.lE,rfl,rfl⟩)
theorem Eo(i:Int)(k:Nat)(p pos:Pos)(l:Loc):Sn F (F.wp (eval (.UnaryOp .USub (.Constant (.int i) k p) pos) F.env)) l (.ok (.d (.int (-i)),l)) (HV F.Y) (λB=>True):=
 Sn.done λos G Z s Q E H B R k=>wpAny_UnaryOp (wpAny_Constant_int (P.neg_int (k _ [] Z _ ⟨.int _ _,rfl⟩ R bN.refl)))
theorem Hb(O:dR F X){op:CmpOp}{x y:D}{b:Bool}{u v:Value}(e:n9 op x y=some b){Pre:ZP->Prop}(H: ∀Z,Pre Z->au F.Y Z u x/\au F.Y Z v y)(l:Loc):
  Sn F (λQ E s=>wpAny (model F.prog F.w) F.A (compareOp op u v) Q E s) l (.ok (b,l)) JA Pre:=
 Sn.done λos G Z s Q E p B R k=>ib O.bi e O.ao R (H Z p).1 (H Z p).2 λs' z g=>k _ [] Z s' ⟨rfl,rfl⟩ z g
theorem mF(O:dR F X)(I:bV F ev)(pos:Pos): ∀(ops:List CmpOp) (es:List Expr) (x:D) (u:Value) (l:Loc),Sn F (F.wp (compareChain pos u ops (evalEach es F.env))) l (ck ev x ops es l) JA (λZ=>au F.Y Z u x)/\Sn F (F.wp (testChain pos u ops (evalEach es F.env))) l (ck ev x ops es l) HB (λZ=>au F.Y Z u x)
 |[],es,x,u,l=>⟨Sn.stuck,Sn.stuck⟩
 |[op],[],x,u,l=>⟨Sn.stuck,Sn.stuck⟩
 |[op],_::_::_,x,u,l=>⟨Sn.stuck,Sn.stuck⟩
 |op::_::_,[],x,u,l=>⟨Sn.stuck,Sn.stuck⟩
 |op::_::_,[_],x,u,l=>⟨Sn.stuck,Sn.stuck⟩
 |[op],[e],x,u,l=>by
  constructor
  .exact Sn.of λos G Z s Q E p H R K=>wpAny_bind<|wpAny_holding<|(aY I e l).lh O.hT trivial H R K λy am v ac al z hv H R m B K=>K.opt λb e' K=>
    wpAny_bind<|wpAny_standAt<|wpAny_operate'<|ib O.bi e' O.ao R (au.mono m p) hv λs' R' g=>K _ [] ac al s' ⟨rfl,rfl⟩ H rfl R' g
  .exact Sn.of λos G Z s Q E p H R K=>wpAny_bind<|wpAny_holding<|(aY I e l).lh O.hT trivial H R K λy am v ac al z hv H R m B K=>K.opt λb e' K=>
    wpAny_bind<|wpAny_standAt<|wpAny_bind<|wpAny_operate'<|ib O.bi e' O.ao R (au.mono m p) hv λs' R' g=>wpAny_holding<|wpAny_truthy_bool<|K _ [] ac al s' ⟨rfl,rfl⟩ H rfl R' g
 |op::a0::ops,e::e0::es,x,u,l=>by
  have ih:=mF O I pos (a0::ops) (e0::es);constructor
  .refine Sn.of λos G Z s Q E p H R K=> ?_;refine wpAny_bind<|wpAny_holding<|(aY I e l).lh O.hT trivial H R K λy am v ac al z hv H R m B K=>K.opt λb e' K=>
    wpAny_bind<|wpAny_standAt<|wpAny_bind<|wpAny_holding<|ib O.bi e' O.ao R (au.mono m p) hv λs' R' g=>wpAny_bind<|wpAny_release'<|wpAny_bind<|wpAny_holding<|wpAny_truthy_bool ?_
   rcases b with _|_
   .exact wpAny_pure (K _ [] ac al s' ⟨rfl,rfl⟩ H rfl R' g)
   .exact(ih y v am).1.run hv H R' (cv.go O.hT g K)
  .refine Sn.of λos G Z s Q E p H R K=> ?_;show wpAny _ _ (holding [u] (eval e F.env)>>=_) _ _ _;refine wpAny_bind<|wpAny_holding<|(aY I e l).lh O.hT trivial H R K λy am v ac al z hv H R m B K=>K.opt λb e' K=>
    wpAny_bind<|wpAny_standAt<|wpAny_bind<|wpAny_holding<|ib O.bi e' O.ao R (au.mono m p) hv λs' R' g=>wpAny_bind<|wpAny_release'<|wpAny_bind<|wpAny_holding<|wpAny_truthy_bool ?_
   rcases b with _|_
   .exact wpAny_pure (K _ [] ac al s' ⟨rfl,rfl⟩ H rfl R' g)
   .exact(ih y v am).2.run hv H R' (cv.go O.hT g K)
end
section
variable{F:Fix}{X:Cx}{ev:jG}{tv:lR}
theorem vV(O:dR F X)(I:bV F ev)(a:Expr)(ops:List CmpOp)(es:List Expr)(pos:Pos)(l:Loc):
  Sn F (F.wp (eval (.Compare a ops es pos) F.env)) l (dy ev a ops es l |>.bind λ(t,l)=>.ok (.d (.bool t),l)) (HV F.Y) (λB=>True):=by
 unfold dy;rcases hm:lastMarks ops es with _|_
 .have h:=Sn.bind (W₂:= λu Q E s=>wpAny (model F.prog F.w) F.A (compareChain pos u ops (evalEach es F.env)) Q E s) (f:= λ(x,l)=>(ck ev x ops es l).bind λ(t,l)=>.ok (MV.d (.bool t),l)) (H₂:=HV F.Y) O.hT bx jF (aY I a l) λx ac u=>by
   refine Sn.imp (Sn.bind (W₂:= λ(v:Value) Q E s=>Q v s) (f:= λ(t,l)=>.ok (MV.d (.bool t),l)) (cx:=JA) (H₂:=HV F.Y) (Pre:= λZ=>True/\HD F.Y x u Z []) O.hT (jE bx) (λB B B B h=>h.2) ((mF O I pos ops es x u ac).1.pre λZ p=>p.2.1) λt z v=>
    Sn.done λos G Z s Q E H B R k=>k v [] Z s ⟨by rw[H.2.1];exact .bool _,rfl⟩ R bN.refl) λQ E s h=>h
  have al:((aF ev a l).bind λ(x,l)=>ck ev x ops es l).bind (λ(t,l)=>.ok (MV.d (.bool t),l))=(aF ev a l).bind (λ(x,l)=>(ck ev x ops es l).bind λ(t,l)=>.ok (MV.d (.bool t),l)):=by
   cases aF ev a l<;>rfl
  simp only[Bool.false_eq_true,if_false];rw[al];refine h.imp λQ E s h=> ?_;show wpAny _ _ (do compareChain pos (<-eval a F.env) ops (markedEach ops es (evalEach es F.env))) _ _ _;rw[markedEach_of_false _ _ _ hm];exact wpAny_bind h
 .exact Sn.stuck
theorem vW(O:dR F X)(I:bV F ev)(a:Expr)(ops:List CmpOp)(es:List Expr)(pos:Pos)(z:Sem Value)(l:Loc):
  Sn F (F.wp (isTrue (.Compare a ops es pos) F.env z)) l (dy ev a ops es l) HB (λB=>True):=by
 unfold dy;rcases hm:lastMarks ops es with _|_
 .have h:=Sn.bind (W₂:= λu Q E s=>wpAny (model F.prog F.w) F.A (testChain pos u ops (evalEach es F.env)) Q E s) (f:= λ(x,l)=>ck ev x ops es l) (H₂:=HB) O.hT bx jF (aY I a l) λx H u=>
   (mF O I pos ops es x u H).2.pre λZ p=>p.2.1
  simp only[Bool.false_eq_true,if_false];refine h.imp λQ E s h=> ?_;show wpAny _ _ (do testChain pos (<-eval a F.env) ops (markedEach ops es (evalEach es F.env))) _ _ _;rw[markedEach_of_false _ _ _ hm];exact wpAny_bind h
 .exact Sn.stuck
theorem yo(O:dR F X)(I:bV F ev)(J:jg F tv)(t a b:Expr)(pos:Pos)(l:Loc):
  Sn F (F.wp (eval (.IfExp t a b pos) F.env)) l (tv t l |>.bind λ(t,l)=>if t then ev a l else ev b l) (HV F.Y) (λB=>True):=
 Sn.of λos G Z s Q E H hl R K=>wpAny_IfExp<|(J t l _ rfl).qX O.hT H hl R K λc u al am z hl R m B K=>by
  cases c
  .exact(I b u).run trivial hl R K
  .exact(I a u).run trivial hl R K
theorem Ep(O:dR F X)(J:jg F tv)(t a b:Expr)(pos:Pos)(ac:Sem Value)(l:Loc):
  Sn F (F.wp (isTrue (.IfExp t a b pos) F.env ac)) l (tv t l |>.bind λ(t,l)=>if t then tv a l else tv b l) HB (λB=>True):=
 Sn.of λos G Z s Q E H hl R K=>isTrue_IfExp<|(J t l _ rfl).qX O.hT H hl R K λc u am an z hl R m B K=>by
  cases c
  .exact(J b u _ rfl).run trivial hl R K
  .exact(J a u _ rfl).run trivial hl R K
theorem By(O:dR F X)(J:jg F tv)(a:Expr)(pos:Pos)(ac:Sem Value)(l:Loc):
  Sn F (F.wp (isTrue (.UnaryOp .Not a pos) F.env ac)) l (tv a l |>.bind λ(t,l)=>.ok (!t,l)) HB (λB=>True):=
 Sn.of λos G Z s Q E H hl R K=>isTrue_not<|(J a l _ rfl).qX O.hT H hl R K λc u al am z hl R m B K=>K _ [] al am z ⟨rfl,rfl⟩ hl rfl R bN.refl
theorem Bz(O:dR F X)(J:jg F tv)(op:BoolOp): ∀(es:List Expr) (l:Loc),Sn F (F.wp (allTrue op es F.env)) l (iI tv (op==.And) es l) HB (λB=>True):=by
 intro l9;induction l9 with
 |nil=>
  intro l;exact Sn.done λos G Z s Q E H B R k=>wpAny_pure (k _ [] Z s ⟨rfl,rfl⟩ R bN.refl)
 |cons e es an=>
  intro l;have ih:=an;refine Sn.of λos G Z s Q E H hl R K=> ?_;cases op with
  |And=>
   refine wpAny_allTrue_And_cons ((J e l _ rfl).qX O.hT H hl R K λc u ac al z hl R m B K=> ?_);cases c
   .exact K _ [] ac al z ⟨rfl,rfl⟩ hl rfl R bN.refl
   .exact(ih u).run trivial hl R K
  |Or=>
   refine wpAny_allTrue_Or_cons ((J e l _ rfl).qX O.hT H hl R K λc u ac al z hl R m B K=> ?_);cases c
   .exact(ih u).run trivial hl R K
   .exact K _ [] ac al z ⟨rfl,rfl⟩ hl rfl R bN.refl
theorem yq(O:dR F X)(J:jg F tv)(op:BoolOp)(es:List Expr)(pos:Pos)(z:Sem Value)(l:Loc):
  Sn F (F.wp (isTrue (.BoolOp op es pos) F.env z)) l (iI tv (op==.And) es l) HB (λB=>True):=
 (Bz O J op es l).imp λQ E s h=>wpAny_isTrue_BoolOp h
theorem Go.drop{T:List Addr}{os z:List (Addr×Obj)}{G:GL}{Z:ZP}{h:Heap}:Go T (WW (z++os) G) Z h (WW os G) Z h:=
 {Go.refl with dB:= λa m=>.inl (by
   delta WW addrs at m⊢;rw[List.append_assoc,List.map_append];exact List.mem_append_right _ m)}
theorem qY(O:dR F X)(I:bV F ev)(op:BoolOp)(pos:Pos): ∀(es:List Expr) (l:Loc),Sn F (F.wp (boolOp pos op (evalEach es F.env))) l (fu ev (op==.And) es l) (HV F.Y) (λB=>True)
 |[],l=>Sn.stuck
 |[e],l=>I e l
 |e::e'::es,l=>by
  have ih:=qY O I op pos (e'::es);refine Sn.of λos G Z s Q E H hl R K=> ?_;refine wpAny_bind ((I e l).then O.hT H hl R K λv u a ts ac al z hH hl R m B K=>K.opt λt et K=>wpAny_bind (wpAny_standAt (wpAny_bind (wpAny_holding (kx et R.lE.Zh (b_.lE (s:=⟨a,v,ts⟩) (λB B=>.inl) hH λp H=>.inr H) λtk=> ?_)))));have ap:= λ{Q E} (K:cv F (WW (ts++os) ac) os ac.vals al z (HV F.Y) (fu ev (op==.And) (e'::es) u) Q E)=>(ih u).run (Z:=al) (s:={z with toks:=tk}) trivial hl R.drop (K.go O.hT (s':={z with toks:=tk}) (s:=z) ⟨Go.drop,rfl,rfl⟩);have no:= λ{Q E} (K:cv F (WW (ts++os) ac) os ac.vals al z (HV F.Y) (.ok (v,u)) Q E)=>wpAny_pure (M:=model F.prog F.w) (A:=F.A) (E:=E) (K a ts ac al {z with toks:=tk} hH hl rfl R bN.refl);rcases op with _|_<;>rcases t with _|_<;>first|exact no K|exact ap K
theorem yr(O:dR F X)(I:bV F ev)(op:BoolOp)(es:List Expr)(pos:Pos)(l:Loc):Sn F (F.wp (eval (.BoolOp op es pos) F.env)) l (fu ev (op==.And) es l) (HV F.Y) (λB=>True):=
 qY O I op pos es l
end
section
variable{F:Fix}{X:Cx}{ev:jG}{tv:lR}
theorem du.inv{Y:Lay}{Z:ZP}{e:DictEntry}{p:Str×D}{es:List DictEntry}{fs:List (Str×D)}(h:du Y Z (e::es) (p::fs)):(∃t,e.key= .str p.1 t)/\au Y Z e.val p.2/\du Y Z es fs:=
 ⟨h.2.1 0 e p rfl rfl,h.2.2 0 e p rfl rfl,by simpa using h.1,λi e p z H=>h.2.1 (i+1) e p (by simpa using z) (by simpa using H),λi e p z H=>h.2.2 (i+1) e p (by simpa using z) (by simpa using H)⟩
theorem du.nil{Y:Lay}{Z:ZP}:du Y Z [] []:=⟨rfl,(λi e p h=>by simp at h),λi e p h=>by simp at h⟩
theorem du.cons{Y:Lay}{Z:ZP}{e:DictEntry}{p:Str×D}{es:List DictEntry}{fs:List (Str×D)}(O: ∃t,e.key= .str p.1 t)(z:au Y Z e.val p.2)(h:du Y Z es fs):du Y Z (e::es) (p::fs):=by
 refine⟨by simp[h.1],λi u B he H=> ?_,λi u B he H=> ?_⟩
 .rcases i with _|i
  .simp at he H;subst he H;exact O
  .exact h.2.1 i u B (by simpa using he) (by simpa using H)
 .rcases i with _|i
  .simp at he H;subst he H;exact z
  .exact h.2.2 i u B (by simpa using he) (by simpa using H)
theorem du.noRef{Y:Lay}{Z:ZP}: ∀{es:List DictEntry} {fs:List (Str×D)},du Y Z es fs->es.any (·.refKey)=false
 |[],_,_=>rfl
 |e::es,[],h=>by cases h.1
 |e::es,p::fs,h=>by
  obtain⟨⟨t,O⟩,_,u⟩:=h.inv;rw[List.any_cons,du.noRef u];simp[DictEntry.refKey,O]
theorem du.getL{Y:Lay}{Z:ZP}{a:Str}: ∀{es:List DictEntry} {fs:List (Str×D)},du Y Z es fs->match fR fs a with
  |some d=> ∃v,W.getL a es=some (some v)/\au Y Z v d
  |none=>W.getL a es=some none
 |[],[],_=>rfl
 |[],_::_,h=>by cases h.1
 |e::es,[],h=>by cases h.1
 |e::es,(b,x)::fs,h=>by
  obtain⟨⟨t,O⟩,z,hr⟩:=h.inv;have B:=du.getL (a:=a) hr;have nr:=hr.noRef;unfold fR at B⊢;simp only[List.lookup_cons];have ac:e.key.isStr a=(b==a):=by rw[O];rfl
  have al:e.refKey=false:=by simp[DictEntry.refKey,O]
  by_cases q:a=b
  .subst q;simp only[beq_self_eq_true];refine⟨e.val,?_,z⟩;unfold W.getL;simp[List.find?_cons,ac]
  .have q1:(a==b)=false:=by simpa using q
   have H:(b==a)=false:=by simpa usingλh:b=a=>q h.symm
   simp only[q1];have u:W.getL a (e::es)=W.getL a es:=by
    unfold W.getL;simp only[List.find?_cons,ac,H,List.any_cons,al,Bool.false_or]
   rw[u];exact B
theorem au.handed{Y:Lay}{Z:ZP}{v:Value}{x:D}(h:au Y Z v x):handedIn v=true:=by
 cases h<;>rfl
theorem Rel.fr{Y:Lay}{env:Env}{T:List Addr}{os:List (Addr×Obj)}{G:GL}{Z:ZP}{h:Heap}(R:Rel Y env T os G Z h)(O:qO Y env): ∃m,Fr Y.base env.locals h m:=by
 obtain⟨m,B⟩:=R.ns;exact⟨m,B,R.stays,O.above⟩
theorem mG(O:dR F X){os:List (Addr×Obj)}{G:GL}{Z:ZP}{s:Shared}(R:Rel F.Y F.env F.T os G Z s.heap){a dx:Addr}{C n:Nat}{es:List DictEntry}{fs:List (Str×D)}{name:Str}{d:D}
  (u:s.heap.get? a=some (instObj (F.Y.ca C) dx)) (z:s.heap.get? dx=some (dictOf es n)) (hf:du F.Y Z es fs) (ha:X.attr C name=true) (hg:fR fs name=some d) {E:Value->Shared->Prop} {Q:Value->Shared->Prop} {ac:Bool}
  (k: ∀v tk,au F.Y Z v d->Q v {s with toks:=tk}):wpAny (model F.prog F.w) F.A (getAttr (.ref a) name ac) Q E s:=by
 obtain⟨m,Fm⟩:=R.fr O.env;obtain⟨p1,p2,B⟩:=O.attr C name ha;have H:=hf.getL (a:=name);rw[hg] at H;obtain⟨v,hv,hd⟩:=H;exact W.get_own (attr:=none) Fm O.lQ (I:=⟨u,rfl,rfl,z⟩) p1 p2 B rfl hv hd.handed (k v _ hd)
theorem uQ{v:Expr}(h:cQ v=true)(a:Str)(pos:Pos)(env:Env):eval (.Attribute v a pos) env=(do
  let o<-eval v env
  standAt pos.atName
  let r<-holding [o] (getAttr o a true)
  letTemporaryGo v o r
  pure r):=by
 rcases v with _|_|_|_|_|_|_|_|_|_|_|_|_|_|_|_|⟨f,u,z,p⟩|_|_|_|_|_|_|_|_|_|_<;>try(rfl;done)
 .rcases f with _|_<;>first|rfl|skip
  rcases u with _|_<;>first|rfl|skip
  rcases z with _|_<;>first|rfl|skip
  cases h
theorem au.jh{Y:Lay}{Z:ZP}{h:Heap}(hz: ∀a o,Z a o->h.get? a=some o){v:Value}{C:Nat}{fs:List (Str×D)}(x:au Y Z v (.obj C fs)):
  ∃a z es n,v= .ref a/\h.get? a=some (instObj (Y.ca C) z)/\h.get? z=some (dictOf es n)/\du Y Z es fs:=by
 cases x with
 |obj h hd H O u=>exact⟨_,_,_,_,rfl,hz _ _ h,hz _ _ hd,H,O,u⟩
set_option tactic.hygienic true in
theorem yt(O:dR F X)(I:bV F ev){v:Expr}(hb:cQ v=true)(a:Str)(pos:Pos)(l:Loc):
  Sn F (F.wp (eval (.Attribute v a pos) F.env)) l (aF ev v l |>.bind λ(d,l)=>(eX X d a).bind λd=>.ok (.d d,l)) (HV F.Y) (λB=>True):=by
 refine Sn.imp (Sn.bind (W₂:= λ(o:Value) Q E s=>wpAny (model F.prog F.w) F.A (getAttr o a true) Q E s) (H₂:=HV F.Y) O.hT bx jF (aY I v l) λd ac o=> ?_) λQ E s h=>Attribute_any_ h (uQ hb a pos F.env);unfold eX;rcases d with _|_<;>first|exact Sn.stuck|skip
 rename_i C fs;show Sn F _ ac ((if X.attr C a=true then Res.of (fR fs a) else Res.stuck).bind λd=>Res.ok (MV.d d,ac)) _ _;by_cases ha:X.attr C a=true
 case neg=>rw[if_neg ha];exact Sn.stuck
 case pos=>
  rw[if_pos ha];refine Sn.opt λd e=>Sn.done λos G Z s Q E H B R k=> ?_;refine hide λP9 b9=> ?_;obtain⟨b,dx,es,n,rfl,u,z,hf⟩:=H.2.1.jh R.Zh;refine b9 ?_;exact mG O R u z hf ha e λv tk hv=>k v [] Z _ ⟨hv,rfl⟩ R bN.refl
theorem b_.jh{Y:Lay}{Z:ZP}{h:Heap}(hz: ∀a o,Z a o->h.get? a=some o){s:Slot}(O: ∀p∈s.os,h.get? p.1=some p.2){C:Nat}{fs:List (Str×D)}(x:b_ Y Z s)(e:s.mv.D= .obj C fs):
  ∃a u es n,s.v= .ref a/\h.get? a=some (instObj (Y.ca C) u)/\h.get? u=some (dictOf es n)/\du Y Z es fs:=by
 obtain⟨v,mv,os⟩:=s;rcases mv with d|o
 .simp only[MV.D] at e;subst e;exact au.jh hz x.1
 .rcases x with _|hf
  .cases e
  .cases e;exact⟨_,_,_,_,rfl,O _ (.head _),O _ (.tail _ (.head _)),hf⟩
theorem Rel.td{Y:Lay}{env:Env}{T:List Addr}{os:List (Addr×Obj)}{G:GL}{Z:ZP}{h:Heap}(R:Rel Y env T os G Z h){x:Str}{s:Slot}(e:G.get? x=some s): ∀p∈s.os,h.get? p.1=some p.2:= λp H=>by
 obtain⟨a,b,O,_⟩:=bE e;exact R.own p (by rw[O];exact List.mem_append_right _ (List.mem_append_left _ (List.mem_append_right _ H)))
set_option tactic.hygienic true in
theorem yu(O:dR F X)(x a:Str)(xp pos:Pos)(l:Loc):
  Sn F (F.wp (eval (.Attribute (.Name x xp) a pos) F.env)) l (match l.get? x with
   |some v=>(eX X v.D a).bind λd=>.ok (.d d,l)
   |none=>.stuck) (HV F.Y) (λB=>True):=by
 intro os G Z s Q E _ hl R;rcases e:l.get? x with _|mv
 .exact⟨(λB B q=>by cases q),(λq=>by cases q)⟩
 .rw[<-hl,GL.bw] at e;rcases eg:G.get? x with _|sl
  .rw[eg] at e;cases e
  .rw[eg] at e;have em:sl.mv=mv:=by simpa using e
   obtain⟨w,hs⟩:=R.vars _ (GL.aS eg);subst em;refine(show Sn F _ l ((eX X sl.mv.D a).bind λd=>.ok (.d d,l)) (HV F.Y) (λZ'=>Z'=Z/\True) from ?_) os G Z s Q E ⟨rfl,trivial⟩ hl R;clear Q E;unfold eX;rcases ed:sl.mv.D with _|_<;>first|exact Sn.stuck|skip
   rename_i C fs;show Sn F _ l ((if X.attr C a=true then Res.of (fR fs a) else Res.stuck).bind λd=>Res.ok (MV.d d,l)) _ _;by_cases ha:X.attr C a=true
   case neg=>rw[if_neg ha];exact Sn.stuck
   case pos=>
    rw[if_pos ha];refine Sn.opt λd e'=> ?_;intro os' G' Z' s' Q E H am R';refine⟨λb a8 q k=> ?_,(λq=>by cases q)⟩;cases q;have e2:G'.loc.get? x=some sl.mv:=by rw[am,<-hl,GL.bw,eg];rfl
    rw[GL.bw] at e2;rcases eg':G'.get? x with _|a2
    .rw[eg'] at e2;cases e2
    .rw[eg'] at e2;have ap:a2.mv=sl.mv:=by simpa using e2
     refine hide λP9 b9=> ?_;obtain⟨w',a1⟩:=R'.vars _ (GL.aS eg');obtain⟨b,dx,es,n,hv,u,z,hf⟩:=b_.jh R'.Zh (R'.td eg') a1 (by rw[ap];exact ed);refine b9 ?_;refine Attribute_Name_ (O.evalVar w' ?_) (uQ rfl a pos F.env);rw[hv];exact mG O R' u z hf ha e' λv tk hd=>k v [] G' Z' _ ⟨hd,rfl⟩ am rfl R' bN.refl
theorem vX(O:dR F X)(I:bV F ev)(e:Expr)(l:Loc)(u: ∀x p,e≠.UnaryOp .Not x p)(z: ∀op es p,e≠.BoolOp op es p)(H: ∀t a b p,e≠.IfExp t a b p)(h4: ∀a ops es p,e≠.Compare a ops es p):
  Sn F (F.wp (isTrue e F.env (eval e F.env))) l (ev e l |>.bind λ(v,l)=>(Res.of v.D.truthy).bind λt=>.ok (t,l)) HB (λB=>True):=by
 refine(yn O (I e l)).imp λQ E s h=>isTrue_plain h ?_;rcases e with⟨op,es,p⟩|_|_|⟨op,x,p⟩|_|⟨t,a,b,p⟩|_|_|_|_|_|_|_|_|_|⟨a,ops,es,p⟩|_|_|_|_|_|_|_|_|_|_|_<;>try(rfl;done)
 .exact absurd rfl (z _ _ _)
 .rcases op with _|_<;>first|rfl|exact absurd rfl (u _ _)
 .exact absurd rfl (H _ _ _ _)
 .exact absurd rfl (h4 _ _ _ _)
noncomputable def Er(v:Value)(i:Option SI):Prop:=IsPart v (i.map (·.c))/\s7 i=false
theorem yw(O:dR F X)(I:bV F ev)(e:Option Expr)(l:Loc):
  Sn F (F.wp (evalPart e F.env)) l (i_ ev e l) (λi v B z=>Er v i/\z=[]) (λB=>True):=by
 rcases e with _|e
 .exact Sn.done λos G Z s Q E H B R k=>wpAny_pure (k .none [] Z s ⟨⟨.none,rfl⟩,rfl⟩ R bN.refl)
 .refine Sn.imp (W:= λQ E s=>wpAny (model F.prog F.w) F.A (eval e F.env) Q E s) (Sn.bind (W₂:= λ(v:Value) Q E s=>Q v s) (H₂:= λi v B z=>Er v i/\z=[]) O.hT bx jF (aY I e l) λd u v=> ?_) λQ E s h=>h;refine Sn.opt λr er=>Sn.done λos G Z s Q E H B R k=> ?_;obtain⟨_,hd,_⟩:=H;rcases d with _|_<;>first|exact af er|exact(hd.inv:False).elim|skip
  replace hd:=hd.cT;obtain⟨_,rfl⟩:=hd;cases er;exact k _ [] Z s ⟨⟨.int _ _,rfl⟩,rfl⟩ R bN.refl
theorem BA(O:dR F X)(I:bV F ev)(v i:Expr)(hs: ∀lo hi p,i≠.Slice lo hi none p)(pos:Pos)(l:Loc)
  (dN: ∀{s:Shared} {Z:ZP} {a c:Value} {es:List (List Nat×D)} {y r:D} {Q:Value->Shared->Prop} {E:Value->Shared->Prop},(∀a o,Z a o->s.heap.get? a=some o)->au F.Y Z a (.dN es)->au F.Y Z c y->eu (.dN es) y=some r->(∀v tk,au F.Y Z v r->Q v {s with toks:=tk})->wpAny (model F.prog F.w) F.A (subscriptTail v i a c) Q E s):
  Sn F (F.wp (eval (.Subscript v i pos) F.env)) l (aF ev v l |>.bind λ(d,l)=>aF ev i l |>.bind λ(j,l)=>(Res.of (eu d j)).bind λr=>.ok (.d r,l)) (HV F.Y) (λB=>True):=by
 refine Sn.imp (Sn.bind (W₂:= λ(o:Value) Q E s=>wpAny (model F.prog F.w) F.A (eval i F.env) (λj s₂=>wpAny (model F.prog F.w) F.A (subscriptTail v i o j) Q E s₂) E s) (H₂:=HV F.Y) O.hT bx jF (aY I v l) λd ac o=> ?_) λQ E s h=>Subscript_ h;refine Sn.bind (W₂:= λ(j:Value) Q E s=>wpAny (model F.prog F.w) F.A (subscriptTail v i o j) Q E s) (H₂:=HV F.Y) O.hT (jE bx) jF ((aY I i ac).pre λB B=>trivial) λy z j=> ?_;refine Sn.opt λr e=>Sn.done λos G Z s Q E H B R k=> ?_;have k': ∀u tk,au F.Y Z u r->Q u {s with toks:=tk}:= λu tk hu=>k u [] Z _ ⟨hu,rfl⟩ R bN.refl;by_cases hd: ∃es,d= .dN es
 .obtain⟨es,rfl⟩:=hd;exact dN R.Zh H.1.2.1 H.2.1 e k'
 .exact vN hs (λes q=>hd ⟨es,q⟩) e R.Zh H.1.2.1 H.2.1 k'
theorem vY(O:dR F X)(I:bV F ev)(v:Expr)(lo hi:Option Expr)(p pos:Pos)(l:Loc):
  Sn F (F.wp (eval (.Subscript v (.Slice lo hi none p) pos) F.env)) l (aF ev v l |>.bind λ(d,l)=>i_ ev lo l |>.bind λ(i,l)=>i_ ev hi l |>.bind λ(j,l)=>(Res.of (sliced d i j)).bind λr=>.ok (.d r,l)) (HV F.Y) (λB=>True):=by
 have mp: ∀{Pre:ZP->Prop} {i:Option SI} {v:Value},qW Pre->qW (λZ=>Pre Z/\(Er v i/\([]:List (Addr×Obj))=[])):= λh Z Z' m q=>⟨h Z Z' m q.1,q.2⟩
 refine Sn.imp (Sn.bind (W₂:= λ(o:Value) Q E s=>wpAny (model F.prog F.w) F.A (evalPart lo F.env) (λa z=>wpAny (model F.prog F.w) F.A (evalPart hi F.env) (λb s₂=>
  wpAny (model F.prog F.w) F.A (subscriptTail v (.Slice lo hi none p) o (.ref s₂.heap.objs.size)) Q E {s₂ with heap:=s₂.heap.push {cls:=.type "slice",data:=.fields #[a,b,.none]}}) E z) E s) (H₂:=HV F.Y) O.hT bx jF (aY I v l) λd ap o=> ?_) λQ E s h=> ?_
 .refine Sn.bind (W₂:= λ(a:Value) Q E s=>wpAny (model F.prog F.w) F.A (evalPart hi F.env) (λb s₂=>
   wpAny (model F.prog F.w) F.A (subscriptTail v (.Slice lo hi none p) o (.ref s₂.heap.objs.size)) Q E {s₂ with heap:=s₂.heap.push {cls:=.type "slice",data:=.fields #[a,b,.none]}}) E s) (H₂:=HV F.Y) O.hT (jE bx) (λB B B B h=>h.2) ((yw O I lo ap).pre λB B=>trivial) λi aI a=> ?_
  refine Sn.bind (W₂:= λ(b:Value) Q E s=>wpAny (model F.prog F.w) F.A (subscriptTail v (.Slice lo hi none p) o (.ref s.heap.objs.size)) Q E {s with heap:=s.heap.push {cls:=.type "slice",data:=.fields #[a,b,.none]}}) (H₂:=HV F.Y) O.hT (mp (jE bx)) (λB B B B h=>h.2) ((yw O I hi aI).pre λB B=>trivial) λj a0 b=> ?_;refine Sn.opt λr e=>Sn.done λos G Z s Q E H B R k=> ?_;refine vR (x:=d) (i:=i.map (·.c)) (j:=j.map (·.c)) (Eq.trans ?_ e) R H.1.1.2.1 H.1.2.1.1 H.2.1.1 λu s' Z' R' hu g=>k u [] Z' s' ⟨hu,rfl⟩ R' g;unfold sliced;rw[H.1.1.2.1.sym,H.1.2.1.2,H.2.1.2];rfl
 .refine Subscript_ (wpAny_mono h (λo z al=>wpAny_Slice (wpAny_mono al (λa s₂ am=>wpAny_mono am (λb a1 an=> ?_) λB B x=>x) λB B x=>x)) λB B x=>x);exact wpAny_evalPart_none an
end
structure HR(Y:Lay)(T:List Addr)(W:List (Addr×Obj))(Z:ZP)(h:Heap):Prop where
 own: ∀p∈W,h.get? p.1=some p.2
 nodup:(W.map (·.1)).Nodup
 b7: ∀p∈W,p.1∉T/\ ∀o,¬Z p.1 o
 Zh: ∀a o,Z a o->h.get? a=some o
 ZT: ∀a o,Z a o->a∉T
 Zb: ∀a o,Y.base.get? a=some o->Z a o
 cK: ∀b∈T,∃o es n,h.get? b=some o/\o.data= .dict es n
theorem Rel.te{Y:Lay}{env:Env}{T:List Addr}{os:List (Addr×Obj)}{G:GL}{Z:ZP}{h:Heap}(R:Rel Y env T os G Z h):HR Y T (os++G.aT) Z h:=
 ⟨R.own,R.nodup,λp H=>⟨(R.b7 p H).1,(R.b7 p H).2.2⟩,R.Zh,λa o e=>(R.ZT a o e).1,R.Zb,R.cK⟩
theorem HR.sub{Y:Lay}{T:List Addr}{W W':List (Addr×Obj)}{Z:ZP}{h:Heap}(H:HR Y T W Z h)(s:W'.Sublist W):HR Y T W' Z h:=
 ⟨λp u=>H.own p (s.subset u),cR H.nodup s,λp u=>H.b7 p (s.subset u),H.Zh,H.ZT,H.Zb,H.cK⟩
theorem HR.frame{Y:Lay}{T:List Addr}{pre ap post r b:List (Addr×Obj)}{Z Z':ZP}{h h':Heap}(H:HR Y T (pre++(ap++post)) Z h)(B:HR Y T (r++b) Z' h')(g:Go T (addrs ap) Z h (addrs (r++b)) Z' h'):
  HR Y T (r++(pre++(b++post))) Z' h'/\Go T (addrs (pre++(ap++post))) Z h (addrs (r++(pre++(b++post)))) Z' h':=by
 have X:=H.nodup;simp only[List.map_append,List.nodup_append,List.mem_append] at X;obtain⟨n1,⟨n2,n3,n4⟩,n5⟩:=X;have rest: ∀p,p∈pre\/p∈post->p∈pre++(ap++post):= λp hp=>by
  rcases hp with m|m
  .exact List.mem_append_left _ m
  .exact List.mem_append_right _ (List.mem_append_right _ m)
 have am: ∀p,p∈pre\/p∈post->p.1∉addrs ap:= λp hp m=>by
  rcases hp with q|q
  .exact n5 _ (List.mem_map_of_mem q) _ (.inl m) rfl
  .exact n4 _ m _ (List.mem_map_of_mem q) rfl
 have keep: ∀p,p∈pre\/p∈post->h'.get? p.1=some p.2:= λp hp=>g.keep _ _ (H.own p (rest p hp)) (am p hp) (H.b7 p (rest p hp)).1;have ac: ∀a∈addrs (r++b),∀p,p∈pre\/p∈post->a≠p.1:= λa O p hp e=>by
  rcases g.dB a O with q|q
  .exact am p hp (e▸q)
  .rw[e,H.own p (rest p hp)] at q;cases q
 have mem: ∀p,p∈r++(pre++(b++post))->p∈r++b\/(p∈pre\/p∈post):= λp hp=>by
  simp only[List.mem_append] at hp⊢;rcases hp with m|m|m|m<;>simp[m]
 have a0:=B.nodup;simp only[List.map_append,List.nodup_append] at a0;obtain⟨m1,m2,m3⟩:=a0;have inR: ∀a,a∈r.map (·.1)->a∈addrs (r++b):= λa m=>by unfold addrs;rw[List.map_append];exact List.mem_append_left _ m
 have aI: ∀a,a∈b.map (·.1)->a∈addrs (r++b):= λa m=>by unfold addrs;rw[List.map_append];exact List.mem_append_right _ m
 refine⟨⟨λp hp=> ?_,?_,λp hp=> ?_,B.Zh,B.ZT,B.Zb,B.cK⟩,?_⟩
 .rcases mem p hp with m|m
  .exact B.own p m
  .exact keep p m
 .simp only[List.map_append,List.nodup_append,List.mem_append];refine⟨m1,⟨n1,⟨m2,n3,λx hx y hy=> ?_⟩,λx hx y hy=> ?_⟩,λx hx y hy=> ?_⟩
  .obtain⟨q,hq,rfl⟩:=List.mem_map.mp hy;exact ac x (aI x hx) q (.inr hq)
  .obtain⟨q,hq,rfl⟩:=List.mem_map.mp hx;rcases hy with hy|hy
   .exactλe=>ac y (aI y hy) q (.inl hq) e.symm
   .obtain⟨q',a1,rfl⟩:=List.mem_map.mp hy;exact n5 _ (List.mem_map_of_mem hq) _ (.inr (List.mem_map_of_mem a1))
  .rcases hy with hy|hy|hy
   .obtain⟨q,hq,rfl⟩:=List.mem_map.mp hy;exact ac x (inR x hx) q (.inl hq)
   .exact m3 x hx y hy
   .obtain⟨q,hq,rfl⟩:=List.mem_map.mp hy;exact ac x (inR x hx) q (.inr hq)
 .rcases mem p hp with m|m
  .exact B.b7 p m
  .refine⟨(H.b7 p (rest p m)).1,λo z=> ?_⟩;rcases g.pM _ _ z with q|q|q
   .exact(H.b7 p (rest p m)).2 o q
   .rw[H.own p (rest p m)] at q;cases q
   .exact am p m q
 .have u:=g.widen (V:=addrs (pre++(ap++post))) λa m=>by
   unfold addrs at m⊢;simp only[List.map_append,List.mem_append];exact .inr (.inl m)
  refine {u with dB:= λa m=> ?_};obtain⟨p,hp,rfl⟩:=List.mem_map.mp m;rcases mem p hp with q|q
  .exact u.dB _ (List.mem_map_of_mem q)
  .exact .inl (List.mem_map_of_mem (rest p q))
structure BB(n:Nat)(A:Around):Prop where
 handled:A.handled=none
 depth:A.depth+7*n+120<recursionLimit
 units:A.units+60*n+220<cLine
noncomputable def lj(Y:Lay)(T:List Addr)(frames:List Env)(sls:List Slot)(Z:ZP)(s:Shared)(r:Res (MV×MV))(R:Result->Shared->Prop):Prop:=match r with
 | .stuck=>False
 | .exc=> ∀e s',Exc Y frames (addrs (sls.flatMap (·.os))) s e s'->R (.error e) s'
 | .ok p=> ∀slR slB Z' s',slR.mv=p.1->slB.mv=p.2->(∀sl,sls.head?=some sl->slB.v=sl.v)->b_ Y Z' slR->b_ Y Z' slB->HR Y T (slR.os++slB.os) Z' s'.heap->bN T (addrs (sls.flatMap (·.os))) Z s (addrs (slR.os++slB.os)) Z' s'->R (.ok (.ret slR.v)) s'
noncomputable def qZ(Y:Lay)(prog:Program)(w:World)(n i:Nat)(u:List MV)(r:Res (MV×MV)):Prop:=
 ∀(A:Around) (T:List Addr) (frames:List Env) (sls:List Slot) (Z:ZP) (s:Shared) (R:Result->Shared->Prop),BB n A->Fs Y A T frames->sls.map (·.mv)=u->(∀sl∈sls,b_ Y Z sl)->HR Y T (sls.flatMap (·.os)) Z s.heap->lj Y T frames sls Z s r R->codeAny (model prog w) A (.call (.ref (Y.fa i)) ⟨sls.map (·.v),[]⟩) R s
noncomputable def cZ(vs:List Value)(xs:List D):List Slot:=(vs.zip xs).map λp=>⟨p.1,.d p.2,[]⟩
theorem eU: ∀(vs:List Value) (xs:List D),(cZ vs xs).flatMap (·.os)=[]
 |[],_=>rfl
 |_::_,[]=>rfl
 |v::vs,x::xs=>eU vs xs
theorem ie: ∀{vs:List Value} {xs:List D},vs.length=xs.length->(cZ vs xs).map (·.v)=vs
 |[],[],_=>rfl
 |v::vs,x::xs,h=>congrArg (v:: ·) (ie (by simpa using h))
theorem f_: ∀{vs:List Value} {xs:List D},vs.length=xs.length->(cZ vs xs).map (·.mv)=xs.map .d
 |[],[],_=>rfl
 |v::vs,x::xs,h=>congrArg (MV.d x:: ·) (f_ (by simpa using h))
theorem fb{Y:Lay}{Z:ZP}: ∀{vs:List Value} {xs:List D},aO Y Z vs xs-> ∀sl∈cZ vs xs,b_ Y Z sl
 |[],_,_,sl,h=>nomatch h
 |_::_,[],_,sl,h=>nomatch h
 |v::vs,x::xs,H,sl,h=>by
  rcases List.mem_cons.mp h with rfl|h
  .exact⟨H.inv.1,rfl⟩
  .exact fb H.inv.2 sl h
theorem Rel.called{Y:Lay}{env:Env}{T:List Addr}{os:List (Addr×Obj)}{G:GL}{Z Z':ZP}{h h':Heap}(R:Rel Y env T os G Z h){x:Str}{sl slR slB:Slot}(e:G.get? x=some sl)(z:slB.v=sl.v)
  (X:b_ Y Z' slR) (hB:b_ Y Z' slB) (H':HR Y T (slR.os++slB.os) Z' h') (g:Go T (addrs sl.os) Z h (addrs (slR.os++slB.os)) Z' h'):
  Rel Y env T (slR.os++os) (G.set x slB) Z' h'/\Go T (WW os G) Z h (WW (slR.os++os) (G.set x slB)) Z' h':=by
 refine hide λP9 b9=> ?_;obtain⟨a,c,O,B⟩:=bE e;refine b9 ?_;have u:os++G.aT=(os++a)++(sl.os++c):=by rw[O];simp
 have e2:(slR.os++os)++(G.set x slB).aT=slR.os++((os++a)++(slB.os++c)):=by rw[B];simp
 have H:HR Y T ((os++a)++(sl.os++c)) Z h:=u▸R.te;obtain⟨K,gK⟩:=H.frame H' g;have gW:Go T (WW os G) Z h (WW (slR.os++os) (G.set x slB)) Z' h':=by
  delta WW
  rw[u,e2];exact gK
 refine⟨R.move g (λq m=>R.pN q ?_) (e_ e z) (λp hp=> ?_) (λp hp=>K.own p (e2▸hp)) (by rw[e2];exact K.nodup) (λp hp=> ?_) (λp hp=>(K.b7 p (e2▸hp)).2) K.Zh,gW⟩
 .delta WW addrs at*
  rw[u];simp only[List.map_append,List.mem_append];exact .inr (.inl m)
 .rcases GL.mem_set hp with rfl|hp
  .exact hB
  .exact(R.vars p hp).2.mono g.mono
 .exact gW.dB p.1 (List.mem_map_of_mem hp)
theorem Rel.BC{Y:Lay}{env:Env}{T:List Addr}{os:List (Addr×Obj)}{G:GL}{Z Z':ZP}{h h':Heap}(R:Rel Y env T os G Z h){slR:Slot}{b:List (Addr×Obj)}
  (B:HR Y T (slR.os++b) Z' h') (g:Go T [] Z h (addrs (slR.os++b)) Z' h'):
  Rel Y env T (slR.os++os) G Z' h'/\Go T (WW os G) Z h (WW (slR.os++os) G) Z' h':=by
 have H:HR Y T ([]++([]++(os++G.aT))) Z h:=R.te;have O:HR Y T (slR.os++[]) Z' h':=B.sub (List.Sublist.append_left (List.nil_sublist _) _);have g2:Go T (addrs []) Z h (addrs (slR.os++[])) Z' h':=g.less λa m=>by
  unfold addrs at*;simp only[List.append_nil,List.map_append,List.mem_append] at*;exact .inl m
 obtain⟨K,z⟩:=H.frame O g2;have e2:(slR.os++os)++G.aT=slR.os++([]++([]++(os++G.aT))):=by simp
 have u:Go T (WW os G) Z h (WW (slR.os++os) G) Z' h':=by
  unfold WW;rw[e2];exact z
 refine⟨R.move g (λq m=>nomatch m) rfl (λp X=>(R.vars p X).2.mono g.mono) (λp X=>K.own p (e2▸X)) (by rw[e2];exact K.nodup) (λp X=> ?_) (λp X=>(K.b7 p (e2▸X)).2) K.Zh,u⟩;exact u.dB p.1 (List.mem_map_of_mem X)
theorem Exc.widen{Y:Lay}{frames:List Env}{V W:List Addr}{h:Shared}{e:Value}{s':Shared}(x:Exc Y frames V h e s')(z: ∀a∈V,a∈W):Exc Y frames W h e s':=by
 refine hide λu b9=> ?_;obtain⟨a,a0,B,rfl,hB,hG,H,hu,O⟩:=x;refine b9 ?_;have nv: ∀b o,(hideAll h.heap W).get? b=some o->(hideAll h.heap V).get? b=some o:= λb o e=>hideAll_get _ (of_hideAll _ e) λm=>by
  rw[hideAll_none _ (z b m)] at e;cases e
 exact⟨a,a0,B,rfl,hB,λb o e nf=>hG b o (nv b o e) nf,H,λb o e X=>hu b o (nv b o e) X,O⟩
section
structure lS(F:Fix)(X:Cx)(n:Nat):Prop extends dR F X where
 depth:F.A.depth+7*n+125<recursionLimit
 units:F.A.units+60*n+240<cLine
 call: ∀i args,qZ F.Y F.prog F.w n i args (X.call i args)
 mH: ∀i,X.isFn i=true->keepIn F.Y.K (.ref (F.Y.fa i))=true
 cC: ∀C m i,X.cC C m=some i->plainGet F.Y.K (F.Y.ca C) m=true/\findIn F.Y.K (.ref (F.Y.ca C)) m=some (some (.ref (F.Y.fa i)))/\W.isFn F.Y.K (.ref (F.Y.fa i))=true/\keepIn F.Y.K (.ref (F.Y.fa i))=true
 cls: ∀x C i,X.glob x=some (.cls C i)->makesIn F.Y.K (F.Y.ca C)=true/\findIn F.Y.K (.ref (F.Y.ca C)) "__init__"=some (some (.ref (F.Y.fa i)))/\W.isFn F.Y.K (.ref (F.Y.fa i))=true/\keepIn F.Y.K (.ref (F.Y.ca C))=true
variable{F:Fix}{X:Cx}{ev:jG}{n:Nat}
theorem lS.Kf(O:lS F X n):BB n F.A:=⟨O.ao.handled,by have:=O.depth;exact aj this,by have:=O.units;exact aj this⟩
noncomputable def uR(Q:Value->Shared->Prop)(E:Value->Shared->Prop):Result->Shared->Prop:= λr s'=>match r with| .ok (.ret v)=>Q v s'| .ok _=>False| .error e=>E e s'
theorem vZ(O:lS F X n){os:List (Addr×Obj)}{G:GL}{Z:ZP}{s:Shared}(R:Rel F.Y F.env F.T os G Z s.heap){x:Str}{sl:Slot}(e:G.get? x=some sl){vs:List Value}{ds:List D}(H:aO F.Y Z vs ds){i:Nat}
  {Q:Value->Shared->Prop} {E:Value->Shared->Prop} (K:cv F (WW os G) os G.vals Z s (HV F.Y) ((X.call i (sl.mv::ds.map .d)).bind λ(r,v')=>.ok (r,G.loc.set x v')) Q E):
  wpAny (model F.prog F.w) F.A (PySem.call (.ref (F.Y.fa i)) (sl.v::vs)) Q E s:=by
 have ac:(sl::cZ vs ds).flatMap (·.os)=sl.os:=by rw[List.flatMap_cons,eU,List.append_nil]
 obtain⟨a,c,ho,_⟩:=bE e;have sub:sl.os.Sublist (os++G.aT):=by
  rw[ho,List.append_assoc];exact((List.sublist_append_left _ _).trans (List.sublist_append_right _ _)).trans (List.sublist_append_right _ _)
 have B:=O.call i (sl.mv::ds.map .d) F.A F.T F.frames (sl::cZ vs ds) Z s (uR Q E) O.Kf O.fs (by rw[List.map_cons,f_ H.1])
  (λq hq=>(List.mem_cons.mp hq).elim (λq=>q▸(R.vars _ (GL.aS e)).2) (fb H q)) (by rw[ac];exact R.te.sub sub)
 rw[List.map_cons,ie H.1] at B;unfold lj at B;rw[ac] at B;generalize X.call i (sl.mv::ds.map .d)=r at K B;refine wpAny_call (B ?_);rcases r with _|_|p
 .exact K
 .exactλe' s' x=>K e' s' (x.widen λa m=>(sub.map _).subset m)
 .intro slR slB Z' s' u e2 z hR hB H' g;have al:slB.v=sl.v:=z sl rfl;obtain⟨R',g'⟩:=R.called e al hR hB H' g.toGo;exact K slR.v slR.os (G.set x slB) Z' s' (by rw[<-u];exact hR) (by rw[GL.dE,e2]) (e_ e al) R' ⟨g',g.os,g.gens⟩
theorem mI(O:lS F X n){os:List (Addr×Obj)}{G:GL}{Z:ZP}{s:Shared}(R:Rel F.Y F.env F.T os G Z s.heap){vs:List Value}{ds:List D}(H:aO F.Y Z vs ds){i:Nat}
  {Q:Value->Shared->Prop} {E:Value->Shared->Prop} (K:cv F (WW os G) os G.vals Z s (HV F.Y) ((X.call i (ds.map .d)).bind λ(r,_)=>.ok (r,G.loc)) Q E):
  wpAny (model F.prog F.w) F.A (PySem.call (.ref (F.Y.fa i)) vs) Q E s:=by
 have B:=O.call i (ds.map .d) F.A F.T F.frames (cZ vs ds) Z s (uR Q E) O.Kf O.fs (f_ H.1) (fb H) (by rw[eU];exact R.te.sub (List.nil_sublist _));rw[ie H.1] at B;unfold lj at B;rw[eU] at B;generalize X.call i (ds.map .d)=r at K B;refine wpAny_call (B ?_);rcases r with _|_|p
 .exact K
 .exactλe' s' x=>K e' s' (x.widen λa m=>nomatch m)
 .intro slR slB Z' s' u e2 z hR hB H' g;obtain⟨R',g'⟩:=R.BC H' g.toGo;exact K slR.v slR.os G Z' s' (by rw[<-u];exact hR) rfl rfl R' ⟨g',g.os,g.gens⟩
theorem q0{G H:GL}{x:Str}{sl:Slot}(hv:H.vals=G.vals)(e:G.get? x=some sl): ∃O,H.get? x=some O/\O.v=sl.v:=by
 induction G generalizing H with
 |nil=>cases e
 |cons p r B=>
  rcases H with _|⟨p',r'⟩
  .simp[GL.vals] at hv
  .obtain⟨y,u⟩:=p;obtain⟨y',u'⟩:=p';have h0:(y',u'.v)=(y,u.v)/\GL.vals r'=GL.vals r:=by
    have:=hv;simp only[GL.vals,List.map_cons] at this;exact List.cons.inj this
   obtain⟨h1,z⟩:=h0;obtain⟨rfl,h3⟩:=Prod.mk.inj h1;unfold GL.get? at e B⊢;simp only[List.lookup_cons] at e⊢;split at e
   .cases e;exact⟨u',rfl,h3⟩
   .exact B z e
theorem q5{G H:GL}{x:Str}{sl:Slot}(B:H.vals=G.vals)(e:G.get? x=some sl): ∃O,H.get? x=some O/\O.v=sl.v/\H.loc.get? x=some O.mv:=by
 obtain⟨O,u,z⟩:=q0 B e;exact⟨O,u,z,by rw[GL.bw,u];rfl⟩
theorem uS(O:lS F X n)(I:bV F ev)(dZ: ∀e p l,ev (.Starred e p) l= .stuck){i:Nat}{x:Str}{rest:List Expr}{pos:Pos}{os:List (Addr×Obj)}{G:GL}{Z:ZP}{s:Shared}(R:Rel F.Y F.env F.T os G Z s.heap){sl:Slot}(e:G.get? x=some sl)
  {Q:Value->Shared->Prop} {E:Value->Shared->Prop} (K:cv F (WW os G) os G.vals Z s (HV F.Y) (cy X ev i x rest G.loc) Q E):
  wpAny (model F.prog F.w) F.A (spliced (backTo pos (starEach rest F.env))) (λvs z=>F.Y.K.In z.heap/\wpAny (model F.prog F.w) F.A (PySem.call (.ref (F.Y.fa i)) (sl.v::vs)) Q E z) E s:=by
 unfold cy at K;rw[show G.loc.get? x=some sl.mv by rw[GL.bw,e];rfl] at K;refine(eI O.todR I dZ pos rest G.loc).mE O.hT trivial rfl R K λds u vs am B z ac H R m hv K=>⟨O.lQ.keeps R.stays,?_⟩
 obtain⟨al,e1,e2,e3⟩:=q5 hv e;subst H;dsimp only at K;rw[e3] at K;rw[<-e2];exact vZ O R e1 ac K
theorem yx(O:lS F X n)(I:bV F ev)(dZ: ∀e p l,ev (.Starred e p) l= .stuck)(i:Nat)(u:List Expr)(pos:Pos)(l:Loc):
  Sn F (λQ E s=>wpAny (model F.prog F.w) F.A (spliced (backTo pos (starEach u F.env))) (λvs z=>F.Y.K.In z.heap/\wpAny (model F.prog F.w) F.A (PySem.call (.ref (F.Y.fa i)) vs) Q E z) E s) l (dQ X ev i u l) (HV F.Y) (λB=>True):=
 Sn.of λos G Z s Q E B H R K=>(eI O.todR I dZ pos u l).mE O.hT trivial H R K λds an vs al am z ac H R m hv K=>by
  subst H;exact⟨O.lQ.keeps R.stays,mI O R ac K⟩
end
section
variable{F:Fix}{X:Cx}{ev:jG}{n:Nat}
theorem ot{env:Env}{e:Expr}{r:List Expr}(h:notStar e=true):starEach (e::r) env=(false,eval e env)::starEach r env:=by
 rcases e with _|_<;>first|rfl|(cases h;done)
theorem iY{u:List Expr}(h:aP u=true):u.all notStar=true:=(Bool.and_eq_true_iff.mp h).2
theorem tf{env:Env}{u:List Expr}(h:aP u=true):starEach u env=u.map λe=>(false,eval e env):=by
 replace h:=iY h;induction u with
 |nil=>rfl
 |cons e r B=>
  rw[List.all_cons,Bool.and_eq_true] at h;rw[ot h.1,B h.2];rfl
theorem plain_any{env:Env}{u:List Expr}(pos:Pos)(h:aP u=true):((backTo pos (starEach u env)).any λx=>x.1)=false:=by
 rw[tf h];simp only[backTo,List.map_map,List.any_map];rw[List.any_eq_false];intro x hx;simp
theorem cw{M:Model}{A:Around}{E:Value->Shared->Prop}{s:Shared}{env:Env}{pos:Pos}{f:Value}{first:List Value}{u:List Expr}{P:Heap->Prop}{Q:Value->Shared->Prop}(H:aP u=true)
  (O: ∀h,P h-> ∃k,(k=Keeper.frame\/k=Keeper.machine\/k=Keeper.boundFrame)/\Looks M h (keeperOf f) k)
  (h:wpAny M A (spliced (backTo pos (starEach u env))) (λvs z=>P z.heap/\wpAny M A (PySem.call f (first++vs)) Q E z) E s):
  wpAny M A (callWith pos f first (backTo pos (starEach u env)) []) Q E s:=by
 refine callWith_of (P:=P) (by rw[plain_any pos H];rfl) O ?_;rcases u with _|⟨e,rest⟩
 .exactλΓ p B=>h Γ p B
 .have e1:starEach (e::rest) env=(false,eval e env)::starEach rest env:=ot (Bool.and_eq_true_iff.mp (iY H)).1;rw[e1] at h⊢;exact evalArgs_plain h
theorem ji{M:Model}{f:Value}(H: ∀a,f≠.ref a)(h:Heap)(_:True): ∃k,(k=Keeper.frame\/k=Keeper.machine\/k=Keeper.boundFrame)/\Looks M h (keeperOf f) k:=by
 refine⟨.machine,.inr (.inl rfl),Looks.of_pure ?_⟩;rcases f with _|_<;>first|rfl|exact absurd rfl (H _)
noncomputable def jH(F:Fix)(l:Loc)(e:Expr)(v:Value):Prop:= ∀(os:List (Addr×Obj)) (G:GL) (Z:ZP) (s:Shared) (Q:Value->Shared->Prop) (E:Value->Shared->Prop),G.loc=l->Rel F.Y F.env F.T os G Z s.heap->Q v s->wpAny (model F.prog F.w) F.A (eval e F.env) Q E s
theorem Sn.pR{l:Loc}{e:Expr}{v:Value}(N:jH F l e v){O u:Type}{W:Value->Tr u}{r:Res (O×Loc)}{H:O->u->ZP->List (Addr×Obj)->Prop}(h:Sn F (W v) l r H (λB=>True)):
  Sn F (λQ E s=>wpAny (model F.prog F.w) F.A (eval e F.env) (λf z=>W f Q E z) E s) l r H (λB=>True):= λos G Z s Q E hp hl R=>
 ⟨λb l' q k=>N os G Z s _ E hl R ((h os G Z s Q E hp hl R).1 b l' q k),λq k=>N os G Z s _ E hl R ((h os G Z s Q E hp hl R).2 q k)⟩
theorem ou(O:lS F X n)(I:bV F ev)(dZ: ∀e p l,ev (.Starred e p) l= .stuck)(i:Nat){f:Expr}{u:List Expr}(hf: ∃x p,f= .Name x p)(H:aP u=true)(pos:Pos)(l:Loc)(N:jH F l f (.ref (F.Y.fa i))):
  Sn F (F.wp (eval (.Call f u [] pos) F.env)) l (ja X ev i u l) (HV F.Y) (λB=>True):=by
 obtain⟨x,p,rfl⟩:=hf;refine Sn.of λos G Z s Q E B el R K=>wpAny_Call_NameR (N os G Z s _ E el R ?_);unfold ja at K;rcases hi:X.isFn i with _|_
 .rw[hi] at K;exact False.elim K
 .rw[hi] at K;have hk:=keeps_K (M:=model F.prog F.w) (O.mH i hi);have ac:= λ(K:cv F (WW os G) os G.vals Z s (HV F.Y) (dQ X ev i u l) Q E)=>cw (first:=[]) H hk ((yx O I dZ i u pos l).run trivial el R K);rcases u with _|⟨z,rest⟩
  .exact ac K
  .rcases hn:nameOf z with _|y
   .simp only[hn] at K;exact ac K
   .simp only[hn] at K;obtain⟨yp,rfl⟩:=bD hn;rcases hl:isLocal X y with _|_
    .rw[hl] at K;exact ac K
    .rw[hl] at K;subst el;have K:cv F (WW os G) os G.vals Z s (HV F.Y) (cy X ev i y rest G.loc) Q E:=K;rcases e:G.get? y with _|sl
     .unfold cy at K;rw[GL.bw,e] at K;exact False.elim K
     .exact cw H hk (args_cons (O.evalVar (R.vars _ (GL.aS e)).1 (uS O I dZ R e K)))
noncomputable def yy(F:Fix)(C:Nat)(s:Shared):Slot:=⟨.ref (s.heap.objs.size+1),.own (.obj C []),[(s.heap.objs.size+1,instObj (F.Y.ca C) s.heap.objs.size),(s.heap.objs.size,dictOf [] 0)]⟩
noncomputable def BD(F:Fix)(C:Nat)(s:Shared):Shared:=⟨(s.heap.push (dictOf [] 0)).push (instObj (F.Y.ca C) s.heap.objs.size),s.gens,s.drawn,s.toks,s.os⟩
theorem BE{os:List (Addr×Obj)}{G:GL}{Z:ZP}{s:Shared}(R:Rel F.Y F.env F.T os G Z s.heap)(C:Nat):
  Rel F.Y F.env F.T ((yy F C s).os++os) G Z (BD F C s).heap/\bN F.T (WW os G) Z s (WW ((yy F C s).os++os) G) Z (BD F C s):=by
 have u:=(R.alloc (dictOf [] 0) rfl).alloc (instObj (F.Y.ca C) s.heap.objs.size) rfl;have z:Go F.T (WW os G) Z s.heap _ Z _:=(Go.alloc (dictOf [] 0)).trans (Go.alloc (instObj (F.Y.ca C) s.heap.objs.size));rw[show(s.heap.push (dictOf [] 0)).objs.size=s.heap.objs.size+1 from Heap.size_push ..] at u z;exact⟨u,z,rfl,rfl⟩
theorem Rel.BG{os:List (Addr×Obj)}{G:GL}{Z Z':ZP}{h h':Heap}{sl slB:Slot}(R:Rel F.Y F.env F.T (sl.os++os) G Z h)(B:HR F.Y F.T ([]++slB.os) Z' h')(g:Go F.T (addrs sl.os) Z h (addrs ([]++slB.os)) Z' h'):
  Rel F.Y F.env F.T (slB.os++os) G Z' h'/\Go F.T (WW (sl.os++os) G) Z h (WW (slB.os++os) G) Z' h':=by
 have O:HR F.Y F.T ([]++(sl.os++(os++G.aT))) Z h:=by
  have:=R.te
  rwa [List.append_assoc] at this
 obtain⟨K,z⟩:=O.frame (r:=[]) B g;have e2:(slB.os++os)++G.aT=[]++([]++(slB.os++(os++G.aT))):=by simp
 have u:Go F.T (WW (sl.os++os) G) Z h (WW (slB.os++os) G) Z' h':=by
  delta WW
  rw[e2,List.append_assoc];exact z
 refine⟨R.move g (λq m=>R.pN q ?_) rfl (λp H=>(R.vars p H).2.mono g.mono) (λp H=>K.own p (e2▸H)) (by rw[e2];exact K.nodup) (λp H=> ?_) (λp H=>(K.b7 p (e2▸H)).2) K.Zh,u⟩
 .delta WW addrs at*
  simp only[List.map_append,List.mem_append];exact .inl (.inl m)
 .exact u.dB p.1 (List.mem_map_of_mem H)
theorem tg{mv:MV}(h:ml mv=true):mv= .d .none:=by
 rcases mv with d|_
 .rcases d with _|_<;>first|rfl|(cases h;done)
 .cases h
theorem yz(O:lS F X n)(C:Addr)(vs:List Value):BB n (F.A.under (.builtin "type.__call__" ⟨.ref C::vs,[]⟩))/\Fs F.Y (F.A.under (.builtin "type.__call__" ⟨.ref C::vs,[]⟩)) F.T F.frames:=by
 refine⟨⟨O.ao.handled,?_,?_⟩,?_,O.fs.cK,O.fs.each⟩
 .have:=O.depth;show F.A.depth+1+7*n+120<recursionLimit;exact aj this
 .have:=O.units;have B:(Code.builtin "type.__call__" ⟨.ref C::vs,[]⟩).cUnits=1:=rfl;show F.A.units+(Code.builtin "type.__call__" ⟨.ref C::vs,[]⟩).cUnits+60*n+220<cLine;rw[B];exact aj this
 .have z:(Code.builtin "type.__call__" ⟨.ref C::vs,[]⟩).envs=[]:=rfl;show pushEnvs (Code.builtin "type.__call__" ⟨.ref C::vs,[]⟩).envs F.A.frames=_;rw[z,O.fs.stack];rfl
theorem v_(O:lS F X n){os:List (Addr×Obj)}{G:GL}{Z:ZP}{s:Shared}(R:Rel F.Y F.env F.T os G Z s.heap){vs:List Value}{ds:List D}(ac:aO F.Y Z vs ds){C i:Nat}
  {Q:Value->Shared->Prop} {E:Value->Shared->Prop} (K:cv F (WW os G) os G.vals Z s (HV F.Y) ((X.call i (.own (.obj C [])::ds.map .d)).bind λ(r,v)=>if ml r then .ok (v,G.loc) else .stuck) Q E):
  codeAny (model F.prog F.w) (F.A.under (.builtin "type.__call__" ⟨.ref (F.Y.ca C)::vs,[]⟩)) (.call (.ref (F.Y.fa i)) ⟨.ref (s.heap.objs.size+1)::vs,[]⟩) (InitBack (s.heap.objs.size+1) (uR Q E)) (BD F C s):=by
 obtain⟨R1,g1⟩:=BE R C;have K:=K.go O.hT g1;have al:(yy F C s::cZ vs ds).flatMap (·.os)=(yy F C s).os:=by rw[List.flatMap_cons,eU,List.append_nil]
 obtain⟨A1,F1⟩:=yz O (F.Y.ca C) vs;have B:=O.call i (.own (.obj C [])::ds.map .d) _ F.T F.frames (yy F C s::cZ vs ds) Z (BD F C s) (InitBack (s.heap.objs.size+1) (uR Q E)) A1 F1 (by rw[List.map_cons,f_ ac.1];rfl)
  (λq hq=>(List.mem_cons.mp hq).elim (λq=>q▸dD.obj du.nil) (fb ac q)) (by rw[al];exact R1.te.sub (by rw[List.append_assoc];exact List.sublist_append_left _ _))
 rw[List.map_cons,ie ac.1] at B
 delta lj at B
 rw[al] at B;generalize X.call i (.own (.obj C [])::ds.map .d)=r at K B;refine B ?_;rcases r with _|_|p
 .exact K
 .exactλe' s' x=>K e' s' (x.widen λa m=>by delta WW addrs at*;rw[List.append_assoc,List.map_append];exact List.mem_append_left _ m)
 .obtain⟨mv,back⟩:=p;refine cv.ite K λhb K=> ?_;obtain rfl:=tg hb;intro slR slB Z' s' e1 H hv hR hB H' g;obtain⟨v,mv,z⟩:=slR;cases e1;obtain⟨u,rfl⟩:=hR;replace u:=u.gZ;subst u;obtain⟨R2,g2⟩:=R1.BG (slB:=slB) H' g.toGo;have hx:=hv _ rfl;obtain⟨bv,bm,bo⟩:=slB;cases hx;cases H;exact⟨rfl,K _ bo G Z' s' hB rfl rfl R2 ⟨g2,g.os,g.gens⟩⟩
theorem th(O:lS F X n)(I:bV F ev)(dZ: ∀e p l,ev (.Starred e p) l= .stuck){x:Str}{C i:Nat}(hg:X.glob x=some (.cls C i)){f:Expr}{u:List Expr}(hf: ∃x p,f= .Name x p)(H:aP u=true)(pos:Pos)(l:Loc)
  (N:jH F l f (.ref (F.Y.ca C))):Sn F (F.wp (eval (.Call f u [] pos) F.env)) l (lN X ev C i u l) (HV F.Y) (λB=>True):=by
 refine hide λP9 b9=> ?_;obtain⟨x',p,rfl⟩:=hf;obtain⟨k1,k2,k3,k4⟩:=O.cls x C i hg;refine b9 ?_;refine Sn.of λos G Z s Q E B hl R K=>wpAny_Call_NameR (N os G Z s _ E hl R (cw H (keeps_K k4) ((eI O.todR I dZ pos u l).mE O.hT trivial hl R K λds aI vs an ap z am hl R m hv K=> ?_)));subst hl;have lQ:=O.lQ.keeps R.stays;exact⟨lQ,wpAny_call (make_core (h:=z.heap) (makes_of lQ k1) (looks_findIn lQ k2) (λac=>bind_fn lQ ac (beq_iff_eq.mp k3)) (.inl rfl) (v_ O R am K))⟩
end
section
variable{F:Fix}{X:Cx}{ev:jG}{n:Nat}
noncomputable def q6:Bi->Value
 | .len=>.builtin "len"| .min=>.builtin "min"| .chr=>.builtin "chr"| .ord=>.builtin "ord"| .bytes=>.type "bytes"
 | .range=>.type "range"| .isinstance=>.builtin "isinstance"| .sorted=>.builtin "sorted"| .list=>.type "list"
theorem lT(b:Bi): ∀a,q6 b≠.ref a:= λa h=>by rcases b with _|_<;>cases h
structure GJ(prog:Program)(w:World):Prop where
 hU: ∀{Y:Lay} {env:Env} {T:List Addr} {os:List (Addr×Obj)} {G:GL} {Z:ZP} {A:Around} {E:Value->Shared->Prop} {s:Shared} {Q:Value->Shared->Prop} {b:Bi} {ds:List D} {vs:List Value} {mv:MV},uP A->(∃o,Y.base.get? sysModules=some o/\ ∀es n,o.data= .dict es n->2<=es.size)->Y.hs=hashStr w->Rel Y env T os G Z s.heap->aO Y Z vs ds->Mine.hU b ds=some mv->(∀(sl:Slot) (Z':ZP) (s':Shared),sl.mv=mv->Rel Y env T (sl.os++os) G Z' s'.heap->b_ Y Z' sl->bN T (WW os G) Z s (WW (sl.os++os) G) Z' s'->Q sl.v s')->wpAny (model prog w) A (PySem.call (q6 b) vs) Q E s
 Hc: ∀{x:D} {m:Str} {id:String},Mine.mid x m=some id-> ∀{Y:Lay} {Z:ZP} {A:Around} {E:Value->Shared->Prop} {s:Shared} {Q:Value×List Value->Shared->Prop} {pl:Sem Bool} {a:Value},au Y Z a x->Q (.builtin id,[a]) s->wpAny (model prog w) A (getMethod a m pl) Q E s
 fV: ∀{x:D} {m:Str} {ds:List D} {mv:MV} {id:String},Mine.mid x m=some id->Mine.fV x m ds=some mv->
  ∀{Y:Lay} {env:Env} {T:List Addr} {os:List (Addr×Obj)} {G:GL} {Z:ZP} {A:Around} {E:Value->Shared->Prop} {s:Shared} {Q:Value->Shared->Prop} {vs:List Value} {a:Value},uP A->Rel Y env T os G Z s.heap->au Y Z a x->aO Y Z vs ds->(∀(sl:Slot) (Z':ZP) (s':Shared),sl.mv=mv->Rel Y env T (sl.os++os) G Z' s'.heap->b_ Y Z' sl->bN T (WW os G) Z s (WW (sl.os++os) G) Z' s'->Q sl.v s')->wpAny (model prog w) A (PySem.call (.builtin id) (a::vs)) Q E s
 Hd: ∀{A:Around} {E:Value->Shared->Prop} {s:Shared} {Q:Value×List Value->Shared->Prop} {pl:Sem Bool} {a:Addr} {vs:Array Value} {k:Nat} {m:Str},s.heap.get? a=some (listOf vs k)->(m="append"\/m="extend")->Q (.builtin (if m="append" then "list.append" else "list.extend"),[.ref a]) s->wpAny (model prog w) A (getMethod (.ref a) m pl) Q E s
 extend: ∀{A:Around} {E:Value->Shared->Prop} {s:Shared} {Q:Value->Shared->Prop} {a b:Addr} {us vs:List Value} {k k':Nat},a≠b->s.heap.get? a=some (listOf us.toArray k)->s.heap.get? b=some (listOf vs.toArray k')->us.length+vs.length<lim->(∀h' k'',h'.get? a=some (listOf (us++vs).toArray k'')->Heap.SameBut a s.heap h'->Q .none {s with heap:=h'})->wpAny (model prog w) A (PySem.call (.builtin "list.extend") [.ref a,.ref b]) Q E s
theorem BH{o:Expr}(hb:cQ o=true){u:List Expr}(H:aP u=true){O pos:Pos}(hl:(O.endLine==pos.line)=true)(name:Str)(env:Env):
  eval (.Call (.Attribute o name O) u [] pos) env=(do
   let B<-eval o env
   standAt O.atName
   let(f,first)<-holding [B] (getMethod B name (do return(<-importBound o env).getD true))
   callWith pos f first (backTo pos (starEach u env)) []):=by
 have al:attributeBase o name env (eval o env)=eval o env:=by
  rcases o with _|_|_|_|_|_|_|_|_|_|_|_|_|_|_|_|⟨f,u,kw,p⟩|_|_|_|_|_|_|_|_|_|_<;>try(rfl;done)
  .rcases f with _|_<;>first|rfl|skip
   rcases u with _|_<;>first|rfl|skip
   rcases kw with _|_<;>first|rfl|skip
   cases hb
 have ac:methodCallForm (u.length+([]:List Keyword).length) (backTo pos (starEach u env)) (backToKw pos (keywordEach [] env))=true:=by
  delta methodCallForm
  have h1:(backTo pos (starEach u env)).all (λx=> !x.1)=true:=by
   have:=plain_any (env:=env) pos H;rw[List.any_eq_false] at this;rw[List.all_eq_true];intro x hx;simpa using this x hx
  have z:u.length<30:=by
   simp only[aP,Bool.and_eq_true,decide_eq_true_eq] at H;exact H.1
  rw[h1];simp[backToKw,keywordEach,z]
 show(do
  let B<-attributeBase o name env (eval o env)
  standAt O.atName
  methodCall o name O pos env B (u.length+([]:List Keyword).length) (backTo pos (starEach u env)) (backToKw pos (keywordEach [] env)))=_
 rw[al]
 delta methodCall calleeOf methodCallPos
 rw[ac,hl];rfl
theorem MC{o:Expr}(hb:cQ o=true){u:List Expr}(H:aP u=true){O pos:Pos}(hl:(O.endLine==pos.line)=true){name:Str}{Q:Value->Shared->Prop}{E:Value->Shared->Prop}{s:Shared}{M:Model}{A:Around}{env:Env}
  (h:wpAny M A (eval o env) (λov z=> ∀pl,wpAny M A (getMethod ov name pl) (λfx s₂=>wpAny M A (callWith pos fx.1 fx.2 (backTo pos (starEach u env)) []) Q E s₂) E z) E s):
  wpAny M A (eval (.Call (.Attribute o name O) u [] pos) env) Q E s:=
 MethodCall_ (wpAny_mono h (λov z ac=>ac _) λB B x=>x) (BH hb H hl name env)
theorem uT{Y:Lay}{Z:ZP}{es:List DictEntry}{fs:List (Str×D)}{m:Str}(H:du Y Z es fs)(u: ¬(fR fs m).isSome=true):W.getL m es=some none:=by
 have:=H.getL (a:=m);rcases hg:fR fs m with _|d
 .rw[hg] at this;exact this
 .exact absurd (by rw[hg];rfl) u
theorem wa(O:lS F X n)(BJ:GJ F.prog F.w)(I:bV F ev)(dZ: ∀e p l,ev (.Starred e p) l= .stuck){o:Expr}(hb:cQ o=true){u:List Expr}(H:aP u=true){a0 pos:Pos}(hl:(a0.endLine==pos.line)=true)(m:Str)(l:Loc):
  Sn F (F.wp (eval (.Call (.Attribute o m a0) u [] pos) F.env)) l (hX X ev o m u l) (HV F.Y) (λB=>True):=by
 refine Sn.of λos G Z s Q E B an R K=>MC hb H hl ((aY I o l).lh O.hT trivial an R K λd am ov ap a3 z hd an R B B K pl=> ?_);have al:cv F (WW os ap) os ap.vals a3 z (HV F.Y) ((Res.of (mid d m)).bind λB=>bu ev u am |>.bind λ(ds,l)=>(Res.of (fV d m ds)).bind λr=>.ok (r,l)) Q E->wpAny (model F.prog F.w) F.A (getMethod ov m pl) (λfx s₂=>wpAny (model F.prog F.w) F.A (callWith pos fx.1 fx.2 (backTo pos (starEach u F.env)) []) Q E s₂) E z:= λK=>K.opt λid a5 K=>
  BJ.Hc a5 hd (cw (P:= λB=>True) H (ji (λa h=>nomatch h)) ((eI O.todR I dZ pos u am).mE O.hT trivial an R K λds a6 vs aI a4 s₂ a2 ac R mm B K=>⟨trivial,K.opt λr e K=>
   BJ.fV a5 e O.ao R (au.mono mm hd) a2 λsl Z' s' em R' hs g=>K sl.v sl.os aI Z' s' (by rw[<-em];exact hs) ac rfl R' g⟩))
 cases d with
 |obj C fs=>
  dsimp only at K;by_cases a1:(fR fs m).isSome=true
  .rw[if_pos a1] at K;exact False.elim K
  rw[if_neg a1] at K;cases hm:X.cC C m with
  |none=>rw[hm] at K;exact False.elim K
  |some i=>
   rw[hm] at K;refine hide λP9 b9=> ?_;obtain⟨k1,k2,k3,k4⟩:=O.cC C m i hm;obtain⟨mm,Fm⟩:=R.fr O.env;obtain⟨b,dx,es,nn,rfl,h1,h2,hf⟩:=hd.jh R.Zh;refine b9 ?_;refine W.method_inst Fm O.lQ (I:=⟨h1,rfl,rfl,h2⟩) k1 k2 k3 (uT hf a1) (cw H (keeps_K k4) ((eI O.todR I dZ pos u am).mE O.hT trivial an R K λds a6 vs aI a4 s₂ a2 ac R mm B K=>⟨O.lQ.keeps R.stays,?_⟩));subst ac;exact mI O R (aO.cons (au.mono mm hd) a2) K
 |_=>exact al K
end
section
variable{F:Fix}{X:Cx}{ev:jG}{tv:lR}{n:Nat}
theorem Rel.upd{Y:Lay}{env:Env}{T:List Addr}{os:List (Addr×Obj)}{G:GL}{Z:ZP}{h h':Heap}(R:Rel Y env T os G Z h){x:Str}{sl:Slot}(e:G.get? x=some sl){a:Addr}(O:a∈addrs sl.os)(hs:Heap.SameBut a h h')
  {mv:MV} {os':List (Addr×Obj)} (hm:b_ Y Z ⟨sl.v,mv,os'⟩) (u:addrs os'=addrs sl.os) (h2: ∀p∈os',h'.get? p.1=some p.2):
  Rel Y env T os (G.set x ⟨sl.v,mv,os'⟩) Z h'/\Go T (WW os G) Z h (WW os (G.set x ⟨sl.v,mv,os'⟩)) Z h':=by
 refine hide λP9 b9=> ?_;obtain⟨pa,pc,ho,_⟩:=bE e;refine b9 ?_;have sub:sl.os.Sublist (os++G.aT):=by
  rw[ho,List.append_assoc];exact((List.sublist_append_left _ _).trans (List.sublist_append_right _ _)).trans (List.sublist_append_right _ _)
 refine hide λP9 b9=> ?_;obtain⟨q,hq,rfl⟩:=List.mem_map.mp O;refine b9 ?_;have hT:=R.b7 q (sub.subset hq);have keep: ∀b o,h.get? b=some o->b≠q.1->h'.get? b=some o:= λb o e n=>(hs.2 b n).trans e;have g:Go T (addrs sl.os) Z h (addrs (([]:List (Addr×Obj))++os')) Z h':=by
  refine⟨λb o e n B=>keep b o e λz=>n (z▸O),λb o e n B=>⟨o.slots,keep b o e λz=>n (z▸O)⟩,λB B e=>e,λB B e=>.inl e,λb m=>.inl ?_⟩;rw[List.nil_append,u] at m;exact m
 have H':HR Y T (([]:List (Addr×Obj))++os') Z h':=by
  have nd:(addrs sl.os).Nodup:=cR R.nodup sub;refine⟨h2,by rw[List.nil_append];show(addrs os').Nodup;rw[u];exact nd,λp H=> ?_,λb o z=>keep b o (R.Zh b o z) λw=>hT.2.2 o (w▸z),λb o z=>(R.ZT b o z).1,R.Zb,λb hb=> ?_⟩
  .have m:p.1∈addrs sl.os:=u▸List.mem_map_of_mem H;refine hide λP9 b9=> ?_;obtain⟨r,hr,er⟩:=List.mem_map.mp m;refine b9 ?_;have:=R.b7 r (sub.subset hr);rw[er] at this;exact⟨this.1,this.2.2⟩
  .obtain⟨o,es,k,h3,h4⟩:=R.cK b hb;exact⟨o,es,k,keep b o h3 λw=>hT.1 (w▸hb),h4⟩
 exact R.called (slR:=⟨.none,.d .none,[]⟩) (slB:=⟨sl.v,mv,os'⟩) e rfl ⟨.none,rfl⟩ hm H' g
theorem oy{os:List (Addr×Obj)}{G:GL}{Z:ZP}{h:Heap}{x:Str}{sl:Slot}{xs:List D}(R:Rel F.Y F.env F.T os G Z h)(e:G.get? x=some sl)(u:sl.mv= .own (.lst xs)): ∃a vs k,sl.v= .ref a/\sl.os=[(a,listOf vs.toArray k)]/\aO F.Y Z vs xs/\h.get? a=some (listOf vs.toArray k):=by
 have hs:=(R.vars _ (GL.aS e)).2;have O:=R.td e;obtain⟨v,mv,z⟩:=sl;cases u;cases hs with
 |lst B=>exact⟨_,_,_,rfl,rfl,B,O _ (.head _)⟩
theorem yA{os:List (Addr×Obj)}{G:GL}{Z:ZP}{s s':Shared}{x:Str}{sl:Slot}{a:Addr}{vs ws:List Value}{k k2:Nat}{ys:List D}{Q:Value->Shared->Prop}{E:Value->Shared->Prop}(R:Rel F.Y F.env F.T os G Z s.heap)(e:G.get? x=some sl)(hv:sl.v= .ref a)(O:sl.os=[(a,listOf vs.toArray k)])
  (hs:Heap.SameBut a s.heap s'.heap) (H:s'.heap.get? a=some (listOf ws.toArray k2)) (B:aO F.Y Z ws ys) (u:s'.os=s.os) (z:s'.gens=s.gens) (K:cv F (WW os G) os G.vals Z s (HV F.Y) (.ok (.d .none,G.loc.set x (.own (.lst ys)))) Q E):Q .none s':=by
 have am:b_ F.Y Z ⟨sl.v,.own (.lst ys),[(a,listOf ws.toArray k2)]⟩:=by rw[hv];exact dD.lst B
 obtain⟨ac,al⟩:=R.upd e (a:=a) (by rw[O];exact .head _) hs am (by rw[O];rfl) (λp hq=>by rw[List.mem_singleton.mp hq];exact H);exact K .none [] (G.set x ⟨sl.v,.own (.lst ys),[(a,listOf ws.toArray k2)]⟩) Z s' ⟨.none,rfl⟩ (GL.dE ..) (e_ e rfl) ac ⟨al,u,z⟩
theorem q7(O:lS F X n)(BJ:GJ F.prog F.w)(I:bV F ev){x m:Str}{xp:Pos}{u:List Expr}(H:aP u=true){an pos:Pos}(hl:(an.endLine==pos.line)=true){os:List (Addr×Obj)}{G:GL}{Z:ZP}{s:Shared}
  (R:Rel F.Y F.env F.T os G Z s.heap) {sl:Slot} (e:G.get? x=some sl) {b4:List D} (em:sl.mv= .own (.lst b4)) {Q:Value->Shared->Prop} {E:Value->Shared->Prop} (K:cv F (WW os G) os G.vals Z s (HV F.Y) (fW ev x m u G.loc) Q E):
  wpAny (model F.prog F.w) F.A (eval (.Call (.Attribute (.Name x xp) m an) u [] pos) F.env) Q E s:=by
 unfold fW at K;by_cases hm:m≠"append"/\m≠"extend"
 .rw[if_pos hm] at K;exact False.elim K
 rw[if_neg hm] at K;have b1:m="append"\/m="extend":=Classical.byContradiction λr=>hm ⟨λq=>r (.inl q),λq=>r (.inr q)⟩
 match u,H with
 |[],_=>exact False.elim K
 |_::_::_,_=>exact False.elim K
 |[a],H=>
  obtain⟨a0,c5,k0,a8,c4,cs,bv⟩:=oy R e em;refine MC rfl H hl (O.evalVar (R.vars _ (GL.aS e)).1 λpl=> ?_);rw[a8];have dZ:notStar a=true:=by
   simp only[aP,Bool.and_eq_true,List.all_cons] at H;exact H.2.1
  have he:starEach [a] F.env=(false,eval a F.env)::starEach [] F.env:=by
   rcases a with _|_<;>first|rfl|cases dZ
  refine BJ.Hd bv b1 (cw (P:= λB=>True) H (ji (λa h=>nomatch h)) (args_cons ((aY I a G.loc).lh O.hT trivial rfl R K λd ce v b6 b9 bb hd aI ac B a3 K=>args_nil ⟨trivial,?_⟩) he));obtain⟨a4,e1,e2,e3⟩:=q5 a3 e;subst aI;dsimp only at K;rw[e3] at K;cases em1:a4.mv with
  |d _=>rw[em1] at K;exact False.elim K
  |own o=>
   cases o with
   |obj _ _=>rw[em1] at K;exact False.elim K
   |lst xs=>
    rw[em1] at K;obtain⟨a1,vs,k1,a9,a7,hL,a6⟩:=oy ac e1 em1;obtain rfl:a1=a0:=by
     have:=a9.symm.trans (e2.trans a8);injection this
    have ap:= λ{ws k2 ys} {s':Shared}=>yA (F:=F) (s:=bb) (s':=s') (ws:=ws) (k2:=k2) (ys:=ys) (Q:=Q) (E:=E) ac e1 a9 a7;dsimp only at K;by_cases qa:m="append"
    .rw[if_pos qa] at K⊢;refine K.ite λal K=>wpAny_list_append_plain ⟨_,a6⟩ (λh' am a2=> ?_) (by have:=hL.1;simp;exact bU (Nat.le_trans (Nat.le_of_eq hL.1) (Nat.le_of_lt (Nat.lt_of_le_of_lt (jy xs) al.1))));obtain⟨k2,am⟩:=am;exact ap (ws:=vs++[v]) a2 (by simpa using am) (hL.append (aO.cons hd aO.nil)) rfl rfl K
    .rw[if_neg qa] at K⊢;cases d with
     |lst ys=>
      refine cv.ite K λal K=> ?_;obtain⟨c,ws,kk,rfl,hc,hw⟩:=hd.isList ac.Zh;have b2:a1≠c:= λz=>by
       subst z;cases hd with
       |lst hz _ _=>
        obtain⟨pa,pc,b3,_⟩:=bE e1;exact(ac.b7 (a1,listOf vs.toArray k1) (by rw[b3,a7];simp)).2.2 _ hz
      exact BJ.extend b2 a6 hc (by rw[hL.1,hw.1];exact Nat.lt_of_le_of_lt (Nat.add_le_add (jy xs) (jy ys)) al) (λh' k2 am a2=>ap (ws:=vs++ws) a2 am (hL.append hw) rfl rfl K)
     |_=>exact False.elim K
theorem q8(O:lS F X n)(BJ:GJ F.prog F.w)(I:bV F ev)(dZ: ∀e p l,ev (.Starred e p) l= .stuck){o:Expr}(hb:cQ o=true){u:List Expr}(H:aP u=true){ac pos:Pos}(hl:(ac.endLine==pos.line)=true)(m:Str)(l:Loc):
  Sn F (F.wp (eval (.Call (.Attribute o m ac) u [] pos) F.env)) l (eY X ev o m u l) (HV F.Y) (λB=>True):=by
 refine Sn.of λos G Z s Q E B el R K=> ?_;have base:= λK=>(wa O BJ I dZ hb H hl m l).run (Q:=Q) (E:=E) trivial el R K;unfold eY at K;rcases hn:nameOf o with _|x
 .rw[hn] at K;exact base K
 .rw[hn] at K;obtain⟨xp,rfl⟩:=bD hn;subst el;dsimp only at K;by_cases hx:isLocal X x=true
  case neg=>rw[if_neg hx] at K;exact base K
  rw[if_pos hx,GL.bw] at K;rcases e:G.get? x with _|sl
  .rw[e] at K;exact False.elim K
  .rw[e] at K;dsimp only[Option.map] at K;by_cases al: ∃xs,sl.mv= .own (.lst xs)
   .obtain⟨xs,em⟩:=al;rw[em] at K;exact q7 O BJ I H hl R e em K
   .have K:cv F (WW os G) os G.vals Z s (HV F.Y) (if IQ sl.mv.D then .stuck else(match sl.mv.D with
     | .obj C fs=>if(fR fs m).isSome then .stuck else(match X.cC C m with|some i=>cy X ev i x u G.loc|none=>.stuck)
     |_=>hX X ev (.Name x xp) m u G.loc)) Q E:=by
     rcases em:sl.mv with d|o
     .rw[em] at K;exact K
     .cases o with
      |obj _ _=>rw[em] at K;exact K
      |lst xs=>exact absurd ⟨xs,em⟩ al
    by_cases hu:IQ sl.mv.D=true
    .rw[if_pos hu] at K;exact False.elim K
    rw[if_neg hu] at K;by_cases ho: ∃C fs,sl.mv.D= .obj C fs
    .obtain⟨C,fs,hD⟩:=ho;rw[hD] at K;dsimp only at K;by_cases am:(fR fs m).isSome=true
     .rw[if_pos am] at K;exact False.elim K
     rw[if_neg am] at K;rcases hm:X.cC C m with _|i
     .rw[hm] at K;exact False.elim K
     .rw[hm] at K;refine hide λP9 b9=> ?_;obtain⟨k1,k2,k3,k4⟩:=O.cC C m i hm;obtain⟨w,hs⟩:=R.vars _ (GL.aS e);obtain⟨b,dx,es,nn,a0,h1,z,hf⟩:=b_.jh R.Zh (R.td e) hs hD;obtain⟨mm,Fm⟩:=R.fr O.env;refine b9 ?_;refine MC hb H hl (O.evalVar w λpl=> ?_);have L:=uS O I dZ (pos:=pos) R e K;rw[show sl.v= .ref b from a0] at L⊢;exact W.method_inst Fm O.lQ (I:=⟨h1,rfl,rfl,z⟩) k1 k2 k3 (uT hf am) (cw H (keeps_K k4) L)
    .refine base ?_;rcases hD:sl.mv.D with _|_<;>rw[hD] at K<;>first|exact K|exact absurd ⟨_,_,hD⟩ ho
end
section
variable{F:Fix}{X:Cx}{ev:jG}{tv:lR}{n:Nat}
noncomputable def lU(n:String):Bool:=["enumerate","zip","dict_itemiterator","dict_reverseitemiterator","odict_iterator","itertools.zip_longest","itertools.pairwise"].contains n
noncomputable def Iter(Y:Lay)(prog:Program)(w:World)(A:Around)(T:List Addr)(Z:ZP)(z:Heap)(ds:List D)(I:Addr)(h:Heap):Prop:=
 ∃(fp:List Addr) (P:Nat->Value->Prop) (St:Nat->Heap->Prop),Walks prog w A I fp [I] ds.length P St/\St 0 h/\(z.objs.size<=I/\I<h.objs.size/\ ∀i h,St i h-> ∃o,h.get? I=some o/\ ∃n,o.cls= .type n/\lU n=false)/\(∀b∈fp,b=I\/ ∃o,Z b o)/\∀(i:Nat) (u:Value),P i u-> ∃x,ds[i]? =some x/\au Y Z u x
structure Kp(s s':Shared):Prop where
 get: ∀b o,s.heap.get? b=some o->s'.heap.get? b=some o
 os:s'.os=s.os
 gens:s'.gens=s.gens
theorem q_{d:D}{ds:List D}(e:itemsOf d=some ds):(∃x,d= .str x/\ds=x.map λc=>.str [c])\/(∃b,d= .bytes b/\ds=b.map λc=>.int c.toNat)\/d= .tup ds\/d= .lst ds\/(d= .dN []/\ds=[]):=by
 rcases d with _|_|_|x|b|ys|xs|es|_|_|_|_|_|_<;>try(exact af e;done)
 .exact .inl ⟨x,rfl,(Option.some.inj e).symm⟩
 .exact .inr (.inl ⟨b,rfl,(Option.some.inj e).symm⟩)
 .exact .inr (.inr (.inl (congrArg D.tup (Option.some.inj e))))
 .replace e:(if aG xs then none else some xs)=some ds:=e;exact .inr (.inr (.inr (.inl (congrArg D.lst (mq e)))))
 .rcases es with _|_
  .exact .inr (.inr (.inr (.inr ⟨rfl,(Option.some.inj e).symm⟩)))
  .exact af e
theorem uU{Y:Lay}{env:Env}{T:List Addr}{os:List (Addr×Obj)}{G:GL}{Z:ZP}{prog:Program}{w:World}{A:Around}{E:Value->Shared->Prop}{s:Shared}{Q:Value->Shared->Prop}{d:D}{ds:List D}{v:Value}
  (e:itemsOf d=some ds) (hA:uP A) (R:Rel Y env T os G Z s.heap) (z:au Y Z v d)
  (k: ∀I s',Kp s s'->s.heap.objs.size<=s'.heap.objs.size->Iter Y prog w A T Z s.heap ds I s'.heap->Q (.ref I) s')
  (dN: ∀{a:Value},d= .dN []->au Y Z a (.dN [])->(∀I s',Kp s s'->s.heap.objs.size<=s'.heap.objs.size->Iter Y prog w A T Z s.heap [] I s'.heap->Q (.ref I) s')->wpAny (model prog w) A (pyIter a) Q E s):
  wpAny (model prog w) A (pyIter v) Q E s:=by
 have fresh:s.heap.get? s.heap.objs.size=none:=aK (Nat.le_refl _);have ne: ∀{a:Addr} {o:Obj},s.heap.get? a=some o->a≠s.heap.objs.size:= λ{a o} h q=>by rw[q,fresh] at h;cases h
 have ac: ∀(o:Obj) (b:Addr) (o':Obj),s.heap.get? b=some o'->(s.heap.push o).get? b=some o':= λo b o' h=>Heap.get?_push_of_some _ h;have sz: ∀(o:Obj),s.heap.objs.size<=(s.heap.push o).objs.size:= λo=>by rw[Heap.size_push];simp+arith only
 have lt: ∀(o:Obj),s.heap.objs.size<(s.heap.push o).objs.size:= λo=>by rw[Heap.size_push];simp+arith only
 have q:=q_ e;clear e;rcases q with⟨x,rfl,rfl⟩|⟨b,rfl,rfl⟩|rfl|rfl|⟨rfl,rfl⟩
 .obtain⟨t,rfl⟩:=z.f6
  .clear z;have fin: ∀{St:Nat->Heap->Prop} {o:Obj},Walks prog w A s.heap.objs.size [s.heap.objs.size] [s.heap.objs.size] (⟨x.toArray⟩:Str).cps.size (SignAt ⟨x.toArray⟩) St->St 0 (s.heap.push o)->(∀i h,St i h-> ∃o,h.get? s.heap.objs.size=some o/\ ∃n,o.cls= .type n/\lU n=false)->Q (.ref s.heap.objs.size) {s with heap:=s.heap.push o}:= λ{St o} hW hS a2=>by
    refine k _ _ ⟨ac _,rfl,rfl⟩ (sz _) ⟨[s.heap.objs.size],SignAt ⟨x.toArray⟩,St,(by simpa using hW),hS,⟨Nat.le_refl _,lt _,a2⟩,?_,?_⟩
    .intro c B;exact .inl (by simpa using B)
    .intro i u q9;refine hide λP9 O=> ?_;obtain⟨c,t',B,rfl⟩:=q9;refine O ?_;refine⟨.str [c],?_,.str [c] _⟩;have:x[i]? =some c:=by simpa using B
     simp[this]
   cases ha:(⟨x.toArray⟩:Str).cps.all (· <128)
   .exact wpAny_pyIter_wide ha (fin (Walks.strWide hA.handled _ _ t) ⟨_,Heap.get?_push_size _ rfl,rfl,rfl⟩ λi h q=>⟨_,q.choose_spec.1,_,q.choose_spec.2.1,by decide⟩)
   .exact wpAny_pyIter_ascii ha (fin (Walks.strAscii hA.handled _ _ t) ⟨_,Heap.get?_push_size _ rfl,rfl,rfl⟩ λi h q=>⟨_,q.choose_spec.1,_,q.choose_spec.2.1,by decide⟩)
 .obtain⟨t,rfl⟩:=z.bJ
  .clear z;refine KBw.pyIter_bytes (k _ _ ⟨ac _,rfl,rfl⟩ (sz _) ⟨[s.heap.objs.size],λi v=> ∃c u,b.toArray[i]? =some c/\v= .int (c.toNat:Int) u,λi h=>KBw.IsBytesIter h s.heap.objs.size b.toArray t i,?_,?_,⟨Nat.le_refl _,lt _,λi h q=>⟨_,q.choose_spec.1,_,q.choose_spec.2.1,by decide⟩⟩,?_,?_⟩)
   .have:=KBw.walks (prog:=prog) (w:=w) hA.handled s.heap.objs.size b.toArray t;simpa using this
   .exact⟨_,Heap.get?_push_size _ rfl,rfl,rfl⟩
   .intro c B;exact .inl (by simpa using B)
   .intro i u q9;refine hide λP9 O=> ?_;obtain⟨c,t',B,rfl⟩:=q9;refine O ?_;refine⟨.int c.toNat,?_,.int _ _⟩;have:b[i]? =some c:=by simpa using B
    simp[this]
 .replace z:=z.Jx;obtain⟨a,vs,m,rfl,h,H,hi⟩:=z
  .skip
   have hg:=R.Zh _ _ h;have it:s.heap.IsTuple a vs.toArray:=⟨_,hg,rfl,_,rfl⟩
   refine wpAny_pyIter_tuple it (k _ _ ⟨ac _,rfl,rfl⟩ (sz _) ⟨[s.heap.objs.size,a],λi v=>vs.toArray[i]? =some v,λi h=>h.IsTupleIter s.heap.objs.size a i/\h.IsTuple a vs.toArray,?_,⟨⟨_,Heap.get?_push_size _ rfl,rfl,rfl⟩,_,ac _ _ _ hg,rfl,_,rfl⟩,⟨Nat.le_refl _,lt _,λi h q=>⟨_,q.1.choose_spec.1,_,q.1.choose_spec.2.1,by decide⟩⟩,?_,?_⟩)
   .rw[<-H,<-List.size_toArray];exact Walks.tuple hA.handled _ a (ne hg) vs.toArray
   .intro b hb;simp only[List.mem_cons,List.not_mem_nil,or_false] at hb;rcases hb with rfl|rfl
    .exact .inl rfl
    .exact .inr ⟨_,h⟩
   .intro i u hu;have am:vs[i]? =some u:=by simpa using hu
    have al:i<vs.length:=(List.getElem?_eq_some_iff.mp am).1;exact⟨_,List.getElem?_eq_getElem (H▸al),hi i u _ am (List.getElem?_eq_getElem (H▸al))⟩
 .replace z:=z.G6;obtain⟨a,vs,m,rfl,h,H,hi⟩:=z
  .skip
   have hg:=R.Zh _ _ h;have it:s.heap.IsList a vs.toArray:=⟨_,hg,rfl,_,rfl⟩
   refine wpAny_pyIter_list it (k _ _ ⟨ac _,rfl,rfl⟩ (sz _) ⟨[s.heap.objs.size,a],λi v=>vs.toArray[i]? =some v,λi h=>h.IsListIter s.heap.objs.size a i/\h.IsList a vs.toArray,?_,⟨⟨_,Heap.get?_push_size _ rfl,rfl,rfl⟩,_,ac _ _ _ hg,rfl,_,rfl⟩,⟨Nat.le_refl _,lt _,λi h q=>⟨_,q.1.choose_spec.1,_,q.1.choose_spec.2.1,by decide⟩⟩,?_,?_⟩)
   .rw[<-H,<-List.size_toArray];exact Walks.list hA.handled _ a (ne hg) vs.toArray
   .intro b hb;simp only[List.mem_cons,List.not_mem_nil,or_false] at hb;rcases hb with rfl|rfl
    .exact .inl rfl
    .exact .inr ⟨_,h⟩
   .intro i u hu;have am:vs[i]? =some u:=by simpa using hu
    have al:i<vs.length:=(List.getElem?_eq_some_iff.mp am).1;exact⟨_,List.getElem?_eq_getElem (H▸al),hi i u _ am (List.getElem?_eq_getElem (H▸al))⟩
 .exact dN rfl z k
end
section
variable{Y:Lay}{env:Env}{T:List Addr}{os:List (Addr×Obj)}{G:GL}{Z:ZP}{h h':Heap}
set_option tactic.hygienic true in
theorem GL.get_none{G:GL}{x:Str}(e:G.get? x=none):(∀p∈G,p.1≠x)/\ ∀s,G.set x s=G++[(x,s)]:=by
 induction G with
 |nil=>exact⟨(λB h=>nomatch h),λs=>rfl⟩
 |cons p r X=>
  obtain⟨y,u⟩:=p;unfold GL.get? at e;simp only[List.lookup_cons] at e;split at e
  .cases e
  .rename_i q;have ne:x≠y:= λw=>by subst w;simp at q
   obtain⟨z,O⟩:=X e;refine⟨λp H=> ?_,λs=> ?_⟩
   .rcases List.mem_cons.mp H with rfl|H
    .exactλw=>ne w.symm
    .exact z p H
   .show(if x=y then _ else _)=_;rw[if_neg ne,O s];rfl
theorem ti{G:GL}(O:(G.map (·.1)).Nodup){x:Str}{s:Slot}{p:Str×Slot}(H:p∈G.set x s):p=(x,s)\/(p∈G/\p.1≠x):=by
 rcases e:G.get? x with _|s0
 .obtain⟨u,z⟩:=GL.get_none e;rw[z s] at H;rcases List.mem_append.mp H with m|m
  .exact .inr ⟨m,u p m⟩
  .exact .inl (List.mem_singleton.mp m)
 .obtain⟨pre,post,rfl,ac,B⟩:=GL.cut e;rw[B s] at H;have X: ∀q∈post,q.1≠x:= λq hq w=>by
   simp only[List.map_append,List.map_cons,List.nodup_append,List.nodup_cons] at O;exact O.2.1.1 (w▸List.mem_map_of_mem hq)
  rcases List.mem_append.mp H with m|m
  .exact .inr ⟨List.mem_append_left _ m,ac p m⟩
  .rcases List.mem_cons.mp m with m|m
   .exact .inl m
   .exact .inr ⟨List.mem_append_right _ (.tail _ m),X p m⟩
theorem yB{G:GL}(hk:(G.map (·.1)).Nodup)(x:Str)(s:Slot):((G.set x s).map (·.1)).Nodup:=by
 rcases e:G.get? x with _|s0
 .obtain⟨u,z⟩:=GL.get_none e;rw[z s,List.map_append,List.nodup_append];refine⟨hk,by simp,λa O b X=> ?_⟩;obtain⟨p,H,rfl⟩:=List.mem_map.mp O;have:b=x:=by simpa using X
  rw[this];exact u p H
 .obtain⟨pre,post,rfl,al,B⟩:=GL.cut e;rw[B s];simpa using hk
theorem jI(G:GL)(x:Str)(s:Slot): ∃a b,(G.set x s).aT=a++(s.os++b)/\(a++b).Sublist G.aT:=by
 rcases e:G.get? x with _|s0
 .obtain⟨_,z⟩:=GL.get_none e;refine⟨G.aT,[],?_,by simp⟩;rw[z s,GL.d6,GL.f5];rfl
 .obtain⟨a,b,u,z⟩:=bE e;refine⟨a,b,by rw[z s,List.append_assoc],?_⟩;rw[u,List.append_assoc];exact List.Sublist.append_left (List.sublist_append_right _ _) _
noncomputable def wr(env:Env)(x:Str):Option Addr:=match env.kindOf x with
 |some .local=>some env.locals
 |some .cell=>env.cells.lookup x
 |_=>none
set_option tactic.hygienic true in
theorem lookup_mem{z:Type}{x:Str}{c:z}: ∀{O:List (Str×z)},O.lookup x=some c->(x,c)∈O
 |[],h=>by cases h
 |(y,u)::r,h=>by
  simp only[List.lookup_cons] at h;split at h
  .rename_i q;cases h;rw[eq_of_beq q];exact .head _
  .exact .tail _ (lookup_mem h)
theorem pS{z:Type}{x y:Str}{c:z}: ∀{O:List (Str×z)},(O.map (·.2)).Nodup->(x,c)∈O->(y,c)∈O->x=y
 |[],_,m1,_=>nomatch m1
 |q::r,X,m1,m2=>by
  simp only[List.map_cons,List.nodup_cons] at X;rcases List.mem_cons.mp m1 with u|m1
  .rcases List.mem_cons.mp m2 with H|m2
   .rw[<-u] at H;exact(Prod.mk.inj H).1.symm
   .exact absurd (List.mem_map_of_mem (f:=(·.2)) m2) (by rw[<-u] at X;exact X.1)
  .rcases List.mem_cons.mp m2 with H|m2
   .exact absurd (List.mem_map_of_mem (f:=(·.2)) m1) (by rw[<-H] at X;exact X.1)
   .exact pS X.2 m1 m2
theorem Rel.stored{sl:Slot}(R:Rel Y env T (sl.os++os) G Z h)(O:qO Y env)(hs:b_ Y Z sl){x:Str}{a:Addr}(X:Heap.SameBut a h h')
  (hw:(env.kindOf x=some .local/\a=env.locals/\ ∃m,h.Ns env.locals m/\h'.Ns env.locals λy=>if y=x then some sl.v else m y)\/(env.kindOf x=some .cell/\env.cells.lookup x=some a/\h'.IsCell a (some sl.v)))
  (hd:a∈T-> ∃o es n,h'.get? a=some o/\o.data= .dict es n):
  Rel Y env T os (G.set x sl) Z h'/\Go T (a::WW (sl.os++os) G) Z h (WW os (G.set x sl)) Z h':=by
 have ha:a∈hJ env:=by
  rcases hw with⟨_,rfl,_⟩|⟨_,hc,_⟩
  .exact .head _
  .exact .tail _ (List.mem_map_of_mem (f:=(·.2)) (lookup_mem hc))
 have keep: ∀b o,h.get? b=some o->b≠a->h'.get? b=some o:= λb o e n=>(X.2 b n).trans e;obtain⟨p1,p2,ho,aI⟩:=jI G x sl;have ac:env.locals∉env.cells.map (·.2):=(List.nodup_cons.mp O.nodup).1;have ap:(env.cells.map (·.2)).Nodup:=(List.nodup_cons.mp O.nodup).2;have mem: ∀p,p∈os++(G.set x sl).aT->p∈(sl.os++os)++G.aT:= λp H=>by
  rw[ho] at H;simp only[List.mem_append] at H⊢;rcases H with m|m|m|m
  .exact .inl (.inr m)
  .exact .inr (aI.subset (List.mem_append_left _ m))
  .exact .inl (.inl m)
  .exact .inr (aI.subset (List.mem_append_right _ m))
 have a5: ∀p∈os++(G.set x sl).aT,h'.get? p.1=some p.2:= λp H=>keep _ _ (R.own p (mem p H)) λq=>(R.b7 p (mem p H)).2.1 (q▸ha);refine⟨⟨?_,λp H=> ?_,λp H=> ?_,a5,?_,λp H=>R.b7 p (mem p H),λb o z=>keep b o (R.Zh b o z) λq=>(R.ZT b o z).2 (q▸ha),R.ZT,R.Zb,R.mu,λb a3=> ?_,yB R.keys x sl⟩,?_⟩
 .rcases hw with⟨_,rfl,m,hm,al⟩|⟨_,hc,_⟩
  .exact⟨_,al⟩
  .obtain⟨m,hm⟩:=R.ns;refine⟨m,f7 hm λo ho=>⟨o.slots,keep _ o ho λq=>ac ?_⟩⟩;rw[q];exact List.mem_map_of_mem (f:=(·.2)) (lookup_mem hc)
 .rcases hw with⟨_,rfl,_⟩|⟨_,hc,hi⟩
  .obtain⟨v,i⟩:=R.cells p H;exact⟨v,cG i λo ho=>keep _ o ho λq=>ac (q▸List.mem_map_of_mem (f:=(·.2)) H)⟩
  .by_cases q:p.2=a
   .exact⟨_,q▸hi⟩
   .obtain⟨v,i⟩:=R.cells p H;exact⟨v,cG i λo ho=>keep _ o ho q⟩
 .rcases ti R.keys H with rfl|⟨m,ne⟩
  .refine⟨?_,hs⟩;rcases hw with⟨k,rfl,m,hm,al⟩|⟨k,hc,hi⟩
   .exact .inl ⟨k,_,al,by simp⟩
   .exact .inr ⟨k,a,hc,hi⟩
  .obtain⟨w,bd⟩:=R.vars p m;refine⟨?_,bd⟩;rcases w with⟨k,m',al,e⟩|⟨k,c,hc,i⟩
   .rcases hw with⟨_,rfl,m0,bb,a4⟩|⟨_,hc,_⟩
    .refine .inl ⟨k,_,a4,?_⟩;rw[if_neg ne,<-e];obtain⟨o1,b6,b4,g1,d1,_,f1⟩:=bb;obtain⟨o2,b9,b5,g2,d2,_,f2⟩:=al;rw[g1] at g2;cases g2;rw[d1] at d2;cases d2;rw[<-f1,<-f2]
    .refine .inl ⟨k,m',f7 al λo ho=>⟨o.slots,keep _ o ho λq=>ac ?_⟩,e⟩;rw[q];exact List.mem_map_of_mem (f:=(·.2)) (lookup_mem hc)
   .refine .inr ⟨k,c,hc,cG i λo ho=>keep _ o ho λq=> ?_⟩;rcases hw with⟨_,rfl,_⟩|⟨_,a7,_⟩
    .exact ac (q▸List.mem_map_of_mem (f:=(·.2)) (lookup_mem hc))
    .subst q;have:=lookup_mem hc;have h2:=lookup_mem a7;exact ne (pS ap this h2)
 .rw[ho];have p:(os++(p1++(sl.os++p2))).Perm ((sl.os++os)++(p1++p2)):=by
   have e1:(p1++(sl.os++p2)).Perm (sl.os++(p1++p2)):=by
    rw[<-List.append_assoc,<-List.append_assoc];exact List.perm_append_comm.append_right _
   have e2:(os++(sl.os++(p1++p2))).Perm ((sl.os++os)++(p1++p2)):=by
    rw[<-List.append_assoc];exact List.perm_append_comm.append_right _
   exact(e1.append_left os).trans e2
  exact((p.map (·.1)).nodup_iff).mpr (cR R.nodup (List.Sublist.append_left aI _))
 .by_cases q:b=a
  .subst q;exact hd a3
  .obtain⟨o,es,n,u,h2⟩:=R.cK b a3;exact⟨o,es,n,keep b o u q,h2⟩
 .refine⟨λb o e n B=>keep b o e λq=>n (q▸.head _),λb o e n B=>⟨o.slots,keep b o e λq=>n (q▸.head _)⟩,λB B z=>z,λB B z=>.inl z,λb m=>.inl (.tail _ ?_)⟩;obtain⟨p,H,rfl⟩:=List.mem_map.mp m;exact List.mem_map_of_mem (mem p H)
end
section
variable{F:Fix}{X:Cx}{ev:jG}{tv:lR}{n:Nat}
noncomputable def aZ(cells:List (Str×Addr)):List (Str×NameKind)->List (Str×Addr)->List (Str×Addr)
 |[],acc=>acc
 |(x,k)::r,acc=>if k==.free then aZ cells r ((x,(cells.lookup x).getD 0)::acc) else aZ cells r acc
theorem BK(scope:Scope)(env:Env)(h: ∀p∈scope.names,p.2= .free->(env.cells.lookup p.1).isSome=true):closureFor scope env=pure (aZ env.cells scope.names []):=by
 simp only[closureFor];generalize scope.names=ns at h⊢;have O: ∀(ns:List (Str×NameKind)) (acc:List (Str×Addr)),(∀p∈ns,p.2= .free->(env.cells.lookup p.1).isSome=true)->
   (forIn (m:=Sem) ns acc λx r=>do
    if(x.2==NameKind.free)=true then do
     let c<-cellOf env x.1
     pure (ForInStep.yield ((x.1,c)::r))
    else pure (ForInStep.yield r))=pure (aZ env.cells ns acc):=by
  intro ns;induction ns with
  |nil=>intro acc _;rfl
  |cons p r B=>
   intro acc z;obtain⟨x,k⟩:=p;rw[List.forIn_cons];rcases hk:k==NameKind.free with _|_
   .simp only[hk,Bool.false_eq_true,if_false,pure_bind];rw[B _ λp H=>z p (.tail _ H)];simp[aZ,hk]
   .have hx:=z (x,k) (.head _) (eq_of_beq hk);obtain⟨c,hc⟩:=Option.isSome_iff_exists.mp hx;have u:cellOf env x=pure c:=by unfold cellOf;rw[hc]
    simp only[hk,if_true,u,pure_bind];rw[B _ λp H=>z p (.tail _ H)];simp[aZ,hk,hc]
 have:=O ns [] h;simpa using this
set_option tactic.hygienic true in
theorem gx{cells:List (Str×Addr)}: ∀{ns:List (Str×NameKind)} {acc:List (Str×Addr)} {q:Str×Addr},q∈aZ cells ns acc->q∈acc\/((q.1,.free)∈ns/\q.2=(cells.lookup q.1).getD 0)
 |[],_,_,h=>.inl h
 |(x,k)::r,acc,q,h=>by
  unfold aZ at h;split at h
  .rename_i O;rcases gx h with m|⟨m,e⟩
   .rcases List.mem_cons.mp m with rfl|m
    .exact .inr ⟨by rw[eq_of_beq O];exact .head _,rfl⟩
    .exact .inl m
   .exact .inr ⟨.tail _ m,e⟩
  .rcases gx h with m|⟨m,e⟩
   .exact .inl m
   .exact .inr ⟨.tail _ m,e⟩
theorem jk{cells:List (Str×Addr)}: ∀{ns:List (Str×NameKind)} {acc:List (Str×Addr)} {q:Str×Addr},q∈acc->q∈aZ cells ns acc
 |[],_,_,h=>h
 |(x,k)::r,acc,q,h=>by
  unfold aZ;split
  .exact jk (.tail _ h)
  .exact jk h
theorem gy{cells:List (Str×Addr)}: ∀{ns:List (Str×NameKind)} {acc:List (Str×Addr)} {x:Str},(x,.free)∈ns->(x,(cells.lookup x).getD 0)∈aZ cells ns acc
 |(y,k)::r,acc,x,h=>by
  unfold aZ;rcases List.mem_cons.mp h with e|h
  .obtain⟨rfl,rfl⟩:=Prod.mk.inj e;simp only[beq_self_eq_true,if_true];exact jk (.head _)
  .split
   .exact gy h
   .exact gy h
theorem fv{cells:List (Str×Addr)}: ∀{ns:List (Str×NameKind)} {acc:List (Str×Addr)},(ns.map (·.1)).Nodup->(acc.map (·.1)).Nodup->(∀p∈ns,p.1∉acc.map (·.1))->((aZ cells ns acc).map (·.1)).Nodup
 |[],_,_,h,_=>h
 |(x,k)::r,acc,z,O,hd=>by
  simp only[List.map_cons,List.nodup_cons] at z;unfold aZ;split
  .refine fv z.2 (by simp only[List.map_cons,List.nodup_cons];exact⟨hd _ (.head _),O⟩) λp H m=> ?_;rcases List.mem_cons.mp m with e|m
   .have e:p.1=x:=e;exact z.1 (e▸List.mem_map_of_mem (f:=(·.1)) H)
   .exact hd p (.tail _ H) m
  .exact fv z.2 O λp H=>hd p (.tail _ H)
theorem bF{z:Type}{x:Str}{c:z}: ∀{O:List (Str×z)},(O.map (·.1)).Nodup->(x,c)∈O->O.lookup x=some c
 |q::r,B,h=>by
  obtain⟨y,u⟩:=q;simp only[List.map_cons,List.nodup_cons] at B;simp only[List.lookup_cons];rcases List.mem_cons.mp h with e|h
  .obtain⟨rfl,rfl⟩:=Prod.mk.inj e;simp
  .have:(x==y)=false:=by
    rcases q:x==y with _|_
    .rfl
    .exact absurd (List.mem_map_of_mem (f:=(·.1)) h) (by rw[eq_of_beq q];exact B.1)
   rw[this];exact bF B.2 h
theorem ky{scope:Scope}{x:Str}(h:cF X scope x=true):scope.kind= .function/\scope.names.lookup x=some .local/\scope.names.lookup ("__debug__":Str)=none/\(scope.names.map (·.1)).Nodup/\∀p∈scope.names,p.2≠.cell/\(p.2= .free->X.kind p.1=some .cell):=by
 unfold cF at h;simp only[Bool.and_eq_true,List.all_eq_true,decide_eq_true_eq,Option.isNone_iff_eq_none] at h;refine hide λP9 b9=> ?_;obtain⟨⟨⟨⟨u,z⟩,h3⟩,O⟩,B⟩:=h;refine b9 ?_;refine⟨eq_of_beq u,eq_of_beq z,h3,B,λp H=> ?_⟩;have:=O p H;refine hide λP9 b9=> ?_;obtain⟨⟨a,b⟩,c⟩:=this;refine b9 ?_;refine⟨by simpa using a,λq=> ?_⟩;rw[q] at b;simp only[Bool.or_eq_true,Bool.and_eq_true] at b;rcases b with b|b
 .simp at b
 .exact eq_of_beq b.1
noncomputable def Fix.comp(F:Fix)(scope:Scope)(cl:List (Str×Addr))(C:Addr):Fix:={F with env:=compEnvC scope cl C F.env}
theorem lk{scope:Scope}{env:Env}(O:env.scope.kind= .function)(h: ∀p∈scope.names,p.2= .free->env.kindOf p.1=some .cell)(cl:List (Str×Addr))(C:Addr)(x:Str):
  dk scope x=(compEnvC scope cl C env).kindOf x:=by
 show(match scope.names.lookup x with|some .free=>some NameKind.cell|k=>k)=List.lookup x (scope.names.map λ(n,k)=>if(k==.free&&env.scope.kind==.function&&env.kindOf n==some .cell) then(n,NameKind.cell) else(n,k));generalize scope.names=ns at h;induction ns with
 |nil=>rfl
 |cons p r B=>
  obtain⟨y,k⟩:=p;have B:=B λp H=>h p (.tail _ H);rw[List.map_cons];have u:(if(k==.free&&env.scope.kind==.function&&env.kindOf y==some .cell) then(y,NameKind.cell) else(y,k))=(y,match k with| .free=>.cell|k=>k):=by
   by_cases z:k= .free
   .subst z;have h0:env.kindOf y=some .cell:=h (y,.free) (.head _) rfl;rw[h0,O];rfl
   .have u:(k==NameKind.free)=false:=by simpa using z
    simp only[u,Bool.false_and,Bool.false_eq_true,if_false];rcases k with _|_<;>first|rfl|exact absurd rfl z
  show(match List.lookup x ((y,k)::r) with|some .free=>some NameKind.cell|k=>k)=List.lookup x ((if(k==.free&&env.scope.kind==.function&&env.kindOf y==some .cell) then(y,NameKind.cell) else(y,k))::_);rw[u];simp only[List.lookup_cons];rcases q:x==y with _|_
  .exact B
  .rcases k with _|_<;>rfl
theorem lS.comp(O:lS F X n){scope:Scope}{x:Str}(h:cF X scope x=true){C:Addr}(hC:F.Y.base.objs.size<=C)(hc: ∀p∈F.env.cells,p.2≠C)(hl: ∀p∈scope.names,p.2= .free->(F.env.cells.lookup p.1).isSome=true):
  lS (F.comp scope (aZ F.env.cells scope.names []) C) (X.comp scope) n:=by
 obtain⟨u,z,h3,h4,h5⟩:=ky h;have ac: ∀p∈scope.names,p.2= .free->F.env.kindOf p.1=some .cell:= λp H q=>by rw[<-O.kind];exact(h5 p H).2 q
 have sub: ∀q∈aZ F.env.cells scope.names [],q∈F.env.cells:= λq hq=>by
  rcases gx hq with m|⟨m,e⟩
  .cases m
  .obtain⟨c,al⟩:=Option.isSome_iff_exists.mp (hl _ m rfl);rw[al] at e;have:=lookup_mem al;rw[show q=(q.1,c) from Prod.ext rfl e];exact this
 have keys:=fv (cells:=F.env.cells) (acc:=[]) h4 (by simp) (λB B m=>nomatch m);have an:((aZ F.env.cells scope.names []).map (·.2)).Nodup:=by
  have cn:(F.env.cells.map (·.2)).Nodup:=(List.nodup_cons.mp O.env.nodup).2;revert sub keys;generalize aZ F.env.cells scope.names []=cl;intro sub keys;induction cl with
  |nil=>simp
  |cons q r ih=>
   simp only[List.map_cons,List.nodup_cons] at keys⊢;refine⟨λm=> ?_,ih (λp H=>sub p (.tail _ H)) keys.2⟩;obtain⟨p,H,e⟩:=List.mem_map.mp m;have:=pS (x:=q.1) (y:=p.1) (c:=q.2) cn (sub q (.head _)) (by have:=sub p (.tail _ H);rw[show p=(p.1,q.2) from Prod.ext rfl e] at this;exact this);exact keys.1 (this▸List.mem_map_of_mem (f:=(·.1)) H)
 have kd: ∀y,dk scope y=(compEnvC scope (aZ F.env.cells scope.names []) C F.env).kindOf y:=lk O.env.kind ac _ _;exact
  {ao:=O.ao
   fs:=O.fs
   env:=⟨u,O.env.globals,O.env.builtins,List.nodup_cons.mpr ⟨λm=>by
     obtain⟨p,H,e⟩:=List.mem_map.mp m;exact hc p (sub p H) e,an⟩,hC,λp H=>O.env.Ei p (sub p H),λx hx=>by
     have hx:dk scope x=some .cell:=(kd x).trans hx;unfold dk at hx;rcases e:scope.names.lookup x with _|k
     .rw[e] at hx;cases hx
     .rw[e] at hx;have hm:=lookup_mem e;cases k with
      |free=>
       show((aZ F.env.cells scope.names []).lookup x).isSome=true;rw[bF keys (gy hm)];rfl
      |cell=>exact absurd rfl (h5 _ hm).1
      |_=>cases hx⟩
   kind:=kd
   G_:=by rw[show(F.comp scope (aZ F.env.cells scope.names []) C).env.kindOf ("__debug__":Str)=dk scope ("__debug__":Str) from(kd _).symm];unfold dk;rw[h3]
   glob:=O.glob
   bi:=O.bi
   lQ:=O.lQ
   hash:=O.hash
   top:=O.top
   attr:=O.attr
   depth:=O.depth
   units:=O.units
   call:=O.call
   mH:=O.mH
   cC:=O.cC
   cls:=O.cls}
end
section
section
variable{Y:Lay}{env:Env}{T:List Addr}{os:List (Addr×Obj)}{G G':GL}{Z Z':ZP}{h h':Heap}
theorem Go.fix{W W' V:List Addr}(g:Go T W Z h W' Z' h')(z: ∀a∈W,a∈V):Go T V Z h V Z' h':={g.widen z with dB:= λB m=>.inl m}
theorem jJ{G:GL}(h: ∀p∈G,p.2.os=[]):G.aT=[]:=by
 induction G with
 |nil=>rfl
 |cons p r B=>
  show p.2.os++GL.aT r=[]
  rw[h p (.head _),B λq hq=>h q (.tail _ hq)];rfl
theorem Rel.Es(R:Rel Y env T os G' Z' h')(hv:G'.vals=G.vals)(B: ∀p∈G,p.2.os=[]/\b_ Y Z p.2)(hz: ∀a o,Z a o->Z' a o):Rel Y env T os G Z' h':=by
 have O:G.aT=[]:=jJ λp H=>(B p H).1;have sub:(os++G.aT).Sublist (os++G'.aT):=by rw[O];exact List.Sublist.append_left (List.nil_sublist _) _
 refine {R with vars:= λp H=>⟨?_,(B p H).2.mono hz⟩,own:= λp H=>R.own p (sub.subset H),nodup:=cR R.nodup sub,b7:= λp H=>R.b7 p (sub.subset H),keys:= ?_}
 .have:=mw H;rw[<-hv] at this;obtain⟨q,hq,e⟩:=List.mem_map.mp this;have w:=(R.vars q hq).1;rw[(Prod.mk.inj e).1,(Prod.mk.inj e).2] at w;exact w
 .have u:G'.map (·.1)=G'.vals.map (·.1):=by simp[GL.vals]
  have z:G.map (·.1)=G.vals.map (·.1):=by simp[GL.vals]
  rw[z,<-hv,<-u];exact R.keys
theorem Rel.He{a:Addr}{o u:Obj}(R:Rel Y env T ((a,o)::os) G Z h)(hs:Heap.SameBut a h h')(O:h'.get? a=some u):Rel Y env T ((a,u)::os) G Z h':=by
 have hT:=R.b7 (a,o) (.head _);have nd:=R.nodup;simp only[List.cons_append,List.map_cons,List.nodup_cons] at nd;have g:Go T [a] Z h [a] Z h':=by
  have keep: ∀b o,h.get? b=some o->b∉[a]->h'.get? b=some o:= λb o e n=>(hs.2 b λq=>n (by rw[q];exact .head _)).trans e;exact⟨λb o e n B=>keep b o e n,λb o e n B=>⟨o.slots,keep b o e n⟩,λB B z=>z,λB B z=>.inl z,λB m=>.inl m⟩
 refine R.move g (λb m=>by rw[List.mem_singleton.mp m];exact⟨hT.1,hT.2.1⟩) rfl (λp H=>(R.vars p H).2) (λp H=> ?_) (by simpa using R.nodup) (λp H=> ?_) (λp H=> ?_) (λb o z=>(hs.2 b λq=>hT.2.2 o (q▸z)).trans (R.Zh b o z))
 .rcases List.mem_cons.mp H with rfl|H
  .exact O
  .exact(hs.2 p.1 λq=>nd.1 (q▸List.mem_map_of_mem H)).trans (R.own p (.tail _ H))
 .rcases List.mem_cons.mp H with rfl|H
  .exact .inl (.head _)
  .exact .inl (List.mem_map_of_mem (f:=(·.1)) (List.mem_cons_of_mem _ H))
 .rcases List.mem_cons.mp H with rfl|H
  .exact hT.2.2
  .exact(R.b7 p (.tail _ H)).2.2
end
variable{F:Fix}{X:Cx}{ev:jG}{tv:lR}{n:Nat}
noncomputable abbrev jK(F:Fix):Expr->Bool->Sem (ForInStep Bool):= λc r=>if r=true then do let ok<-isTrue c F.env (eval c F.env);pure (ForInStep.yield ok) else pure (ForInStep.yield r)
theorem ra(F:Fix): ∀(O:List Expr),(forIn (m:=Sem) O false (jK F))=pure false:=by
 intro z;induction z with
 |nil=>
  exact rfl
 |cons c O u=>
  rw[List.forIn_cons];show(pure (ForInStep.yield false)>>=_)=_;rw[pure_bind];exact u
theorem yC(O:dR F X)(J:jg F tv): ∀(cs:List Expr) {os:List (Addr×Obj)} {G:GL} {Z:ZP} {s:Shared} {t:Bool} {l':Loc} {Q:Bool->Shared->Prop} {E:Value->Shared->Prop},bS tv cs G.loc= .ok (t,l')->Rel F.Y F.env F.T os G Z s.heap->(∀G' Z' s',G'.loc=l'->G'.vals=G.vals->Rel F.Y F.env F.T os G' Z' s'.heap->bN F.T (WW os G) Z s (WW os G') Z' s'->Q t s')->wpAny (model F.prog F.w) F.A (forIn cs true (jK F)) Q E s:=by
 intro l9;induction l9 with
 |nil=>
  intro os G Z s t l' Q E e R k;cases e;exact wpAny_pure (k G Z s rfl rfl R bN.refl)
 |cons c cs a2=>
  intro os G Z s t l' Q E e R k;unfold bS at e;rcases ec:tv c G.loc with _|_|p
  .rw[ec] at e;cases e
  .rw[ec] at e;cases e
  .obtain⟨b,a1⟩:=p;rw[ec] at e;rw[List.forIn_cons];refine wpAny_bind (m:=jK F c true) ?_;refine wpAny_bind ((J c G.loc _ rfl os G Z s _ E trivial rfl R).1 b a1 ec λa ts am B z hH ac al an ap=> ?_);obtain⟨rfl,rfl⟩:=hH;refine wpAny_pure ?_;rcases a with _|_
   .cases e;show wpAny _ _ (forIn cs false (jK F)) _ _ _;rw[ra];exact wpAny_pure (k am B z ac al an ap)
   .have e':bS tv cs am.loc= .ok (t,l'):=by rw[ac];exact e
    exact a2 e' an λH aI s₂ u h2 h3 h4=>k H aI s₂ u (h2.trans al) h3 (ap.trans h4)
end
section
variable{F:Fix}{X:Cx}{ev:jG}{tv:lR}{n:Nat}
theorem yD{G:GL}{x:Str}{s t:Slot}:(G.set x s).set x t=G.set x t:=by
 induction G with
 |nil=>simp[GL.set]
 |cons p r B=>
  obtain⟨y,u⟩:=p;by_cases e:x=y
  .simp[GL.set,e]
  .simp[GL.set,e,B]
noncomputable def ll(l:Loc)(p:Str×NameKind):Option (Str×MV):=(l.get? p.1).bind λv=>match v with
  | .d x=>some (p.1,.d x)
  | .own _=>none
theorem yE{G:GL}: ∀(ns:List (Str×NameKind)) {cl:Loc},cE (ll G.loc) ns=some cl-> ∃Gc:GL,Gc.loc=cl/\(∀p∈Gc,G.get? p.1=some p.2/\ ∃x,p.2.mv= .d x)/\Gc.map (·.1)=ns.map (·.1):=by
 intro l9;induction l9 with
 |nil=>
  intro cl e;cases e;exact⟨[],rfl,(λp H=>nomatch H),rfl⟩
 |cons B r u=>
  obtain⟨y,k⟩:=B;intro cl e;unfold cE at e;rcases eg:G.get? y with _|sl
  .have:ll G.loc (y,k)=none:=by unfold ll;rw[GL.bw,eg];rfl
   rw[this] at e;cases e
  .rcases em:sl.mv with x|o
   .have:ll G.loc (y,k)=some (y,.d x):=by unfold ll;rw[GL.bw,eg,Option.map_some,em];rfl
    rw[this] at e;rcases e2:cE (ll G.loc) r with _|ac
    .rw[e2] at e;cases e
    .obtain⟨Gc,z,h3,O⟩:=u e2;rw[e2] at e;cases e;refine⟨(y,sl)::Gc,?_,λp H=> ?_,by simp[O]⟩
     .show(y,sl.mv)::GL.loc Gc=_;rw[z,em]
     .rcases List.mem_cons.mp H with rfl|H
      .exact⟨eg,x,em⟩
      .exact h3 p H
   .have:ll G.loc (y,k)=none:=by unfold ll;rw[GL.bw,eg,Option.map_some,em];rfl
    rw[this] at e;cases e
theorem rb{ns:List (Str×NameKind)}(h:(ns.map (·.1)).Nodup)(f:Str×NameKind->Bool):((ns.filter f).map (·.1)).Nodup:=
 cR h List.filter_sublist
theorem jL{cl:Loc}{x:Str}{ifs:List Expr}{elt:Expr}{d:D}{ds:List D}{O:List D}(e:aR ev tv cl x ifs elt (d::ds)= .ok O):
  ∃t l,bS tv ifs (cl.set x (.d d))= .ok (t,l)/\((t=true/\ ∃v l' vs,aF ev elt l= .ok (v,l')/\aR ev tv cl x ifs elt ds= .ok vs/\vs.length<lim/\O=v::vs)\/(t=false/\aR ev tv cl x ifs elt ds= .ok O)):=by
 unfold aR at e;rcases e1:bS tv ifs (cl.set x (.d d)) with _|_|p
 .rw[e1] at e;cases e
 .rw[e1] at e;cases e
 .obtain⟨t,l⟩:=p;rw[e1] at e;refine⟨t,l,rfl,?_⟩;simp only[Res.bind] at e;rcases t with _|_
  .exact .inr ⟨rfl,by simpa using e⟩
  .left
   simp only[if_true] at e;rcases e2:aF ev elt l with _|_|p
   .rw[e2] at e;cases e
   .rw[e2] at e;cases e
   .obtain⟨v,l'⟩:=p;rw[e2] at e;simp only[d5] at e;rcases e3:aR ev tv cl x ifs elt ds with _|_|vs
    .rw[e3] at e;cases e
    .rw[e3] at e;cases e
    .rw[e3] at e;dsimp only at e;revert e;refine gp (λh e=> ?_) (λz e=> ?_)
     .cases e;exact⟨rfl,v,l',vs,rfl,rfl,h.1,rfl⟩
     .cases e
theorem lq{cl:Loc}{x:Str}{ifs:List Expr}{elt:Expr}: ∀{ds:List D} {O:List D},aR ev tv cl x ifs elt ds= .ok O->O.length<=lim
 |[],O,e=>by cases e;exact Nat.zero_le _
 |d::ds,O,e=>by
  obtain⟨t,l,_,⟨_,v,l',vs,_,_,h,rfl⟩|⟨_,h⟩⟩:=jL e
  .simp only[List.length_cons];exact h
  .exact lq h
theorem lr{cl:Loc}{x:Str}{ifs:List Expr}{elt:Expr}: ∀{ds:List D},aR ev tv cl x ifs elt ds≠.exc
 |[],e=>by cases e
 |d::ds,e=>by
  have B:=lr (cl:=cl) (x:=x) (ifs:=ifs) (elt:=elt) (ds:=ds);have H: ∀(O:List Expr) (l:Loc),bS tv O l≠.exc:=by
   intro O;induction O with
   |nil=>intro l e;cases e
   |cons c O u=>
    intro l e;unfold bS at e;rcases q:tv c l with _|_|p
    .rw[q] at e;cases e
    .rw[q] at e;cases e
    .rw[q] at e;simp only[d5,Res.bind] at e;revert e;refine gp (λz e=> ?_) (λz e=> ?_)
     .exact u _ e
     .cases e
  unfold aR at e;rcases e1:bS tv ifs (cl.set x (.d d)) with _|_|p
  .rw[e1] at e;cases e
  .exact H _ _ e1
  .obtain⟨t,l⟩:=p;rw[e1] at e;simp only[Res.bind] at e;split at e
   .rcases e2:aF ev elt l with _|_|p
    .rw[e2] at e;cases e
    .rw[e2] at e;cases e
    .rw[e2] at e;simp only[d5] at e;rcases e3:aR ev tv cl x ifs elt ds with _|_|vs
     .rw[e3] at e;cases e
     .exact B e3
     .rw[e3] at e;dsimp only at e;split at e<;>cases e
   .exact B e
structure JB(F:Fix)(X:Cx)(evc:jG)(tvc:lR):Prop where
 o:dR F X
 ev:bV F evc
 tv:jg F tvc
theorem uV{scope:Scope}{env:Env}(H: ∀p∈scope.names,p.2= .free->(env.cells.lookup p.1).isSome=true): ∀q∈aZ env.cells scope.names [],q∈env.cells:= λq hq=>by
 rcases gx hq with m|⟨m,e⟩
 .cases m
 .obtain⟨c,u⟩:=Option.isSome_iff_exists.mp (H _ m rfl);rw[u] at e;have:=lookup_mem u;rw[show q=(q.1,c) from Prod.ext rfl e];exact this
end
section
section
variable{Y:Lay}{env:Env}{T:List Addr}{os:List (Addr×Obj)}{G:GL}{Z:ZP}{h h':Heap}
theorem Rel.inner(R:Rel Y env T os G Z h){scope:Scope}{Gc:GL}{C D:Addr}{k:Nat}{m:Str->Option Value}
  (hk:env.scope.kind= .function) (am: ∀p∈scope.names,p.2= .free->env.kindOf p.1=some .cell) (aI:(scope.names.map (·.1)).Nodup)
  (a0: ∀p∈Gc,G.get? p.1=some p.2/\ ∃x,p.2.mv= .d x) (an:Gc.map (·.1)=(scope.names.filter λp=>p.2==.free).map (·.1))
  (keep: ∀b o,h.get? b=some o->h'.get? b=some o) (hC:h'.Ns C m) (hD:h'.get? D=some (listOf ([]:List Value).toArray k)) (fC:h.get? C=none) (fD:h.get? D=none) (ne:C≠D)
  (hl: ∀p∈scope.names,p.2= .free->(env.cells.lookup p.1).isSome=true):
  Rel Y (compEnvC scope (aZ env.cells scope.names []) C env) T ((D,listOf ([]:List Value).toArray k)::(os++G.aT)) Gc Z h':=by
 have sub:=uV hl;have a4: ∀p∈Gc,p.2.os=[]:= λp H=>by
  obtain⟨e,x,em⟩:=a0 p H;have hs:=(R.vars _ (GL.aS e)).2;obtain⟨nm,v,mv,ts⟩:=p;simp only at em;subst em;exact hs.2
 have O:Gc.aT=[]:=jJ a4;have ac: ∀a∈hJ (compEnvC scope (aZ env.cells scope.names []) C env),a=C\/a∈hJ env:= λa m=>by
  rcases List.mem_cons.mp m with rfl|m
  .exact .inl rfl
  .obtain⟨q,hq,rfl⟩:=List.mem_map.mp m;exact .inr (.tail _ (List.mem_map_of_mem (f:=(·.2)) (sub q hq)))
 have al: ∀{a o},h.get? a=some o->a≠C:= λ{a o} e q=>by rw[q,fC] at e;cases e
 have fT: ∀{a},h.get? a=none->a∉T:= λ{a} e m=>by
  obtain⟨o,es,n,O,_⟩:=R.cK a m;rw[e] at O;cases O
 have mem: ∀p,p∈((D,listOf ([]:List Value).toArray k)::(os++G.aT))++Gc.aT->p=(D,listOf ([]:List Value).toArray k)\/p∈os++G.aT:= λp H=>by
  rw[O,List.append_nil] at H;exact List.mem_cons.mp H
 refine⟨⟨m,hC⟩,λp H=> ?_,λp H=> ?_,λp H=> ?_,?_,λp H=> ?_,λa o z=>keep a o (R.Zh a o z),λa o z=> ?_,R.Zb,λp H=>R.mu p (sub p H),λb hb=> ?_,?_⟩
 .obtain⟨v,i⟩:=R.cells p (sub p H);exact⟨v,cG i λo O=>keep _ o O⟩
 .obtain⟨e,x,em⟩:=a0 p H;obtain⟨w,hs⟩:=R.vars _ (GL.aS e);refine⟨?_,hs⟩;have ap:(p.1,NameKind.free)∈scope.names:=by
   have:=List.mem_map_of_mem (f:=(·.1)) H;rw[an] at this;obtain⟨q,hq,e⟩:=List.mem_map.mp this;have u:=List.mem_filter.mp hq;have:q.2= .free:=by simpa using u.2
   rw[<-e,<-this];exact u.1
  have a3:=am _ ap rfl;rcases w with⟨k1,_⟩|⟨_,c,hc,i⟩
  .dsimp only at k1;rw[a3] at k1;cases k1
  .refine .inr ⟨?_,c,?_,cG i λo O=>keep _ o O⟩
   .rw[<-lk hk am];unfold dk;rw[bF aI ap]
   .have u:=gy (cells:=env.cells) (acc:=[]) ap;rw[show env.cells.lookup p.1=some c from hc] at u;exact bF (fv aI (by simp) (λB B m=>nomatch m)) u
 .rcases mem p H with rfl|H
  .exact hD
  .exact keep _ _ (R.own p H)
 .rw[O,List.append_nil,List.map_cons,List.nodup_cons];refine⟨λm=> ?_,R.nodup⟩;obtain⟨q,hq,e⟩:=List.mem_map.mp m;have:=R.own q hq;rw[e] at this;rw[fD] at this;cases this
 .rcases mem p H with rfl|H
  .refine⟨fT fD,λq=> ?_,λo z=>by have:=R.Zh _ _ z;dsimp only at this;rw[fD] at this;cases this⟩;rcases ac _ q with q|q
   .exact ne q.symm
   .obtain⟨o,e⟩:=R.lO q;dsimp only at e;rw[fD] at e;cases e
  .refine⟨(R.b7 p H).1,λq=> ?_,(R.b7 p H).2.2⟩;rcases ac _ q with q|q
   .exact al (R.own p H) q
   .exact(R.b7 p H).2.1 q
 .refine⟨(R.ZT a o z).1,λq=> ?_⟩;rcases ac _ q with q|q
  .exact al (R.Zh a o z) q
  .exact(R.ZT a o z).2 q
 .obtain⟨o,es,n,u,h2⟩:=R.cK b hb;exact⟨o,es,n,keep b o u,h2⟩
 .rw[an];exact rb aI _
end
theorem kz{prog:Program}{w:World}{A:Around}{I:Addr}{fp:List Addr}{n:Nat}{P:Nat->Value->Prop}{St:Nat->Heap->Prop}(W:Walks prog w A I fp [I] n P St){Z:ZP}(H: ∀b∈fp,b=I\/ ∃o,Z b o)
  {i:Nat} {a b:Heap} (st:St i a) (O: ∀c o,Z c o->a.get? c=some o) (hb: ∀c o,Z c o->b.get? c=some o) (hI: ∀o,a.get? I=some o->b.get? I=some o):St i b:=
 W.frame i a b st λc B o e=>by
  rcases H c B with rfl|⟨u,z⟩
  .exact hI o e
  .have:=O c u z;rw[e] at this;cases this;exact hb c o z
variable{F:Fix}{X:Cx}{ev:jG}{tv:lR}{n:Nat}
structure CD where
 x:Str
 Gc:GL
 ow:List (Addr×Obj)
 I:Addr
 da:Addr
 V:List Addr
 Z:ZP
 s:Shared
 ds:List D
 fp:List Addr
 P:Nat->Value->Prop
 St:Nat->Heap->Prop
structure mJ(F:Fix)(c:CD):Prop where
 hx:F.env.kindOf c.x=some .local
 W:Walks F.prog F.w F.A c.I c.fp [c.I] c.ds.length c.P c.St
 fp: ∀b∈c.fp,b=c.I\/ ∃o,c.Z b o
 P: ∀(i:Nat) (u:Value),c.P i u-> ∃x,c.ds[i]? =some x/\au F.Y c.Z u x
 Gc: ∀p∈c.Gc,p.2.os=[]/\b_ F.Y c.Z p.2
 IT:c.I∉F.T
 Is:c.I∉hJ F.env
 Io:c.I∉addrs c.ow
 ID:c.I≠c.da
 Ia: ∀i h,c.St i h-> ∃o,h.get? c.I=some o
 V: ∀a,a=F.env.locals\/a=c.I\/a=c.da\/a∈addrs c.ow->a∈c.V
structure gz(F:Fix)(c:CD)(acc:List D)(vs:List Value)(k:Nat)(Z:ZP)(G:GL)(s:Shared):Prop where
 has:aO F.Y Z vs acc
 rel:Rel F.Y F.env F.T ((c.da,listOf vs.toArray k)::c.ow) G Z s.heap
 os: ∀p∈G,p.2.os=[]
 set: ∀sl,G.set c.x sl=c.Gc.set c.x sl
 go:bN F.T c.V c.Z c.s c.V Z s
 nI: ∀o,¬Z c.I o
section
variable{c:CD}{acc:List D}{vs:List Value}{k:Nat}{Z:ZP}{G:GL}{s:Shared}
theorem mJ.own(C:mJ F c)(O: ∀p∈G,p.2.os=[]): ∀a∈WW ((c.da,listOf vs.toArray k)::c.ow) G,a∈c.V/\a≠c.I:= λa m=>by
 unfold WW addrs at m;rw[jJ O,List.append_nil,List.map_cons] at m;rcases List.mem_cons.mp m with rfl|m
 .exact⟨C.V _ (.inr (.inr (.inl rfl))),C.ID.symm⟩
 .exact⟨C.V _ (.inr (.inr (.inr m))),λq=>C.Io (q▸m)⟩
theorem mJ.Hf(C:mJ F c){v:Value}{d:D}: ∀p∈c.Gc.set c.x ⟨v,.d d,[]⟩,p.2.os=[]:= λp H=>by
 rcases GL.mem_set H with rfl|H
 .rfl
 .exact(C.Gc p H).1
theorem gz.yF{ac:List D}{B:List Value}{k' i:Nat}{Z':ZP}{H:GL}{s':Shared}(U:gz F c acc vs k Z G s)(C:mJ F c)(O:gz F c ac B k' Z' H s')(u: ∀o,s.heap.get? c.I=some o->s'.heap.get? c.I=some o)(st:c.St i s.heap):c.St i s'.heap:=
 kz C.W C.fp st (λb o z=>U.rel.Zh b o (U.go.mono b o z)) (λb o z=>O.rel.Zh b o (O.go.mono b o z)) u
theorem gz.move(U:gz F c acc vs k Z G s)(C:mJ F c){h:Heap}{tk:Tok}(O: ∀b o,b∉[c.I]->s.heap.get? b=some o->h.get? b=some o):gz F c acc vs k Z G {s with heap:=h,toks:=tk}:=by
 have g:Go F.T [c.I] Z s.heap [] Z h:=⟨λb o e n B=>O b o n e,λb o e n B=>⟨o.slots,O b o n e⟩,λB B e=>e,λB B e=>.inl e,λB m=>nomatch m⟩
 have nI: ∀p∈(((c.da,listOf vs.toArray k)::c.ow)++G.aT:List (Addr×Obj)),p.1∉[c.I]:= λp H m=>(C.own U.os _ (List.mem_map_of_mem H)).2 (List.mem_singleton.mp m);have u:=g.widen (V:=c.V) λa m=>by rw[List.mem_singleton.mp m];exact C.V _ (.inr (.inl rfl))
 exact⟨U.has,U.rel.move g (λa m=>by rw[List.mem_singleton.mp m];exact⟨C.IT,C.Is⟩) rfl (λp H=>(U.rel.vars p H).2) (λp H=>O _ _ (nI p H) (U.rel.own p H)) U.rel.nodup (λp H=>.inl (List.mem_map_of_mem H)) (λp H=>(U.rel.b7 p H).2.2)
   (λa o z=>O a o (λm=>U.nI o (List.mem_singleton.mp m▸z)) (U.rel.Zh a o z)),U.os,U.set,U.go.trans ⟨{u with dB:= λB m=>.inl m},rfl,rfl⟩,U.nI⟩
theorem gz.store(U:gz F c acc vs k Z G s)(C:mJ F c)(O:dR F X){v:Value}{d:D}(hd:au F.Y Z v d){m:Str->Option Value}{h:Heap}{tk:Tok}(hm:s.heap.Ns F.env.locals m)(z:h.Ns F.env.locals (λy=>if y=c.x then some v else m y))(hs:Heap.SameBut F.env.locals s.heap h):
  gz F c acc vs k Z (c.Gc.set c.x ⟨v,.d d,[]⟩) {s with heap:=h,toks:=tk}:=by
 obtain⟨R2,H⟩:=Rel.stored (sl:=⟨v,.d d,[]⟩) (x:=c.x) (os:=(c.da,listOf vs.toArray k)::c.ow) U.rel O.env ⟨hd,rfl⟩ hs (.inl ⟨C.hx,rfl,m,hm,z⟩) (λB=>by
  refine hide λu b9=> ?_;obtain⟨o,es,ep,a1,a2,_⟩:=z;refine b9 ?_;exact⟨o,es,ep,a1,a2⟩)
 rw[U.set] at R2 H;refine⟨U.has,R2,C.Hf,λsl=>yD,U.go.trans ⟨H.fix λa m=> ?_,rfl,rfl⟩,U.nI⟩;rcases List.mem_cons.mp m with rfl|m
 .exact C.V _ (.inl rfl)
 .exact(C.own U.os _ m).1
theorem gz.uW{v:Value}{d:D}{i:Nat}{B:GL}{Z':ZP}{s':Shared}(U:gz F c acc vs k Z (c.Gc.set c.x ⟨v,.d d,[]⟩) s)(C:mJ F c)(hd:au F.Y c.Z v d)(st:c.St i s.heap)(u:Rel F.Y F.env F.T ((c.da,listOf vs.toArray k)::c.ow) B Z' s'.heap)(hv:B.vals=(c.Gc.set c.x ⟨v,.d d,[]⟩).vals)
  (g:bN F.T (WW ((c.da,listOf vs.toArray k)::c.ow) (c.Gc.set c.x ⟨v,.d d,[]⟩)) Z s (WW ((c.da,listOf vs.toArray k)::c.ow) B) Z' s'):gz F c acc vs k Z' (c.Gc.set c.x ⟨v,.d d,[]⟩) s'/\c.St i s'.heap:=by
 have nI:c.I∉WW ((c.da,listOf vs.toArray k)::c.ow) (c.Gc.set c.x ⟨v,.d d,[]⟩):= λm=>(C.own U.os _ m).2 rfl;have O:gz F c acc vs k Z' (c.Gc.set c.x ⟨v,.d d,[]⟩) s':=by
  refine⟨U.has.mono g.mono,u.Es hv (λp H=>⟨U.os p H,?_⟩) g.mono,U.os,U.set,U.go.trans ⟨g.toGo.fix λa m=>(C.own U.os _ m).1,g.os,g.gens⟩,λo z=> ?_⟩
  .rcases GL.mem_set H with rfl|H
   .exact⟨hd.mono U.go.mono,rfl⟩
   .exact(C.Gc p H).2.mono U.go.mono
  .rcases g.pM c.I o z with q|q|q
   .exact U.nI o q
   .obtain⟨o',e'⟩:=C.Ia _ _ st;rw[e'] at q;cases q
   .exact nI q
 exact⟨O,U.yF C O (λo e=>g.keep c.I o e nI C.IT) st⟩
theorem gz.push(U:gz F c acc vs k Z G s)(C:mJ F c){v:Value}{y:D}{k':Nat}{h:Heap}(O:au F.Y Z v y)(hs:Heap.SameBut c.da s.heap h)(H:h.get? c.da=some (listOf (vs.toArray.push v) k')):gz F c (acc++[y]) (vs++[v]) k' Z G {s with heap:=h}:=by
 rw[show vs.toArray.push v=(vs++[v]).toArray by simp] at H;have u: ∀b o,s.heap.get? b=some o->b∉c.V->h.get? b=some o:= λb o e n=>(hs.2 b λq=>n (q▸C.V _ (.inr (.inr (.inl rfl))))).trans e;exact⟨U.has.append (aO.cons O aO.nil),U.rel.He hs H,U.os,U.set,U.go.trans ⟨⟨λb o e n B=>u b o e n,λb o e n B=>⟨o.slots,u b o e n⟩,λB B z=>z,λB B z=>.inl z,λB m=>.inl m⟩,rfl,rfl⟩,U.nI⟩
end
inductive Hg(F:Fix)(c:CD)(ev:jG)(tv:lR)(ifs:List Expr)(elt:Expr)(rs:List D)(k:Nat)(s':Shared):Prop
 |mk (i:Nat) (acc:List D) (vs:List Value) (kk:Nat) (rest:List D) (Z:ZP) (G:GL) (hik:i+k=c.ds.length+1) (hi:i<=c.ds.length) (hrun:aR ev tv c.Gc.loc c.x ifs elt (c.ds.drop i)= .ok rest) (hrs:rs=acc++rest)
  (st:c.St i s'.heap) (U:gz F c acc vs kk Z G s')
theorem wb(O:dR F X)(I':bV F ev)(J:jg F tv){c:CD}(C:mJ F c){elt iter:Expr}{ifs:List Expr}{px:Pos}{scope:Scope}{pos:Pos}{rs:List D}{a1:Nat}{R:Result->Shared->Prop}
  (e:aR ev tv c.Gc.loc c.x ifs elt c.ds= .ok rs) (a0:gz F c [] [] a1 c.Z c.Gc c.s) (ap:c.St 0 c.s.heap) (hR: ∀(s':Shared) (Z':ZP) (vs:List Value) (k:Nat) (H:GL),gz F c rs vs k Z' H s'->R (.ok .next) s'):
  codeAny (model F.prog F.w) F.A (.compLoop (.ListComp elt [⟨.Name c.x px,iter,ifs,0⟩] scope pos) 0 (.ref c.I) (.ref c.da) F.env) R c.s:=by
 have B:=lq e;refine codeAny_compLoop_tests (Hg F c ev tv ifs elt rs) ?_ (c.ds.length+1) ⟨0,[],[],a1,rs,c.Z,c.Gc,Nat.zero_add _,Nat.zero_le _,e,rfl,ap,a0⟩;clear a0 ap;intro k s' U;refine hide λP back=> ?_;obtain⟨i,acc,vs,kk,rest,Z,G,aI,hi,al,am,st,U⟩:=U;by_cases ac:i<c.ds.length
 case neg=>
  obtain rfl:i=c.ds.length:=Nat.le_antisymm hi (Nat.le_of_not_lt ac);rw[List.drop_length] at al;cases al;rw[List.append_nil] at am;subst am;exact back (C.W.done s' _ _ st λu tk hk=>hR _ Z vs kk G (U.move C hk))
 case pos=>
  refine back (C.W.item i s' _ _ ac st λv u tk b3 an hk=>hide λP back=> ?_);have D1:=U.move C (tk:=tk) hk;clear U st;replace an:c.St (i+1) (Shared.mk u s'.gens s'.drawn tk s'.os).heap:=an;generalize(Shared.mk u s'.gens s'.drawn tk s'.os)=s1 at D1 an back;obtain⟨d,hd,a4⟩:=C.P i v b3;have a3:c.ds.drop i=d::c.ds.drop (i+1):=by
   obtain⟨u,z⟩:=List.getElem?_eq_some_iff.mp hd;rw[<-z];exact List.drop_eq_getElem_cons u
  rw[a3] at al;obtain⟨m1,a5⟩:=D1.rel.ns;refine back (wpAny_assign_Name (wpAny_storeName_local C.hx a5 (λz bv a7=>hide λP back=> ?_) (by rw[O.env.kind];rfl)));have D2:=D1.store C O (tk:=s1.toks+1) (a4.mono D1.go.mono) a5 bv a7;have a8:=D1.yF C D2 (λo e=>(a7.2 c.I λq=>C.Is (q▸.head _)).trans e) an;clear D1 an bv a7 a5;generalize(Shared.mk z s1.gens s1.drawn (s1.toks+1) s1.os)=s2 at D2 a8 back;obtain⟨t,l,ht,a2⟩:=jL al;rw[<-GL.dE c.Gc c.x ⟨v,.d d,[]⟩] at ht;refine back (yC O J ifs ht D2.rel λG3 Z3 s3 b5 b1 R3 g3=>hide λP back=> ?_);rcases a2 with⟨rfl,y,l',ce,hy,hrest,_,rfl⟩|⟨rfl,hrest⟩
  .rw[<-b5] at hy;refine back ((aY I' elt G3.loc).run trivial rfl R3 ?_);rw[hy];intro yv ts G4 Z4 s4 hH c9 b6 R4 g4;refine hide λP back=> ?_;obtain⟨b9,rfl⟩:=hH;obtain⟨D4,a9⟩:=D2.uW C a4 a8 R4 (b6.trans b1) (g3.trans g4);refine back (wpAny_list_append_plain ⟨kk,D4.rel.own _ (.head _)⟩ (λh5 a6 b0=> ?_) (by
    rw[am,List.length_append,<-D4.has.1] at B;rw[List.size_toArray];exact bU (Nat.le_trans (Nat.le_add_right _ _) B)))
   obtain⟨k5,a6⟩:=a6;have D5:=D4.push C b9 b0 a6;exact⟨k-1,(iG aI ac).1,⟨i+1,acc++[y],vs++[yv],k5,ce,Z4,_,(iG aI ac).2,ac,hrest,by rw[am];simp,D4.yF C D5 (λo e=>(b0.2 c.I C.ID).trans e) a9,D5⟩⟩
  .obtain⟨D4,a9⟩:=D2.uW C a4 a8 R3 b1 g3;exact back ⟨k-1,(iG aI ac).1,⟨i+1,acc,vs,kk,rest,Z3,_,(iG aI ac).2,ac,hrest,am,a9,D4⟩⟩
end
section
variable{F:Fix}{X:Cx}{ev evc:jG}{tvc:lR}{n:Nat}
noncomputable def oz(Y:Lay):Prop:= ∃o,Y.base.get? sysModules=some o/\ ∀es n,o.data= .dict es n->2<=es.size
theorem oz.ne{Y:Lay}(S:oz Y){Z:ZP}{h:Heap}(hz: ∀a o,Z a o->h.get? a=some o)(H: ∀a o,Y.base.get? a=some o->Z a o){a:Addr}{o:Obj}{es:Array DictEntry}{n:Nat}(z:Z a o)(hd:o.data= .dict es n)(hs:es.size<2):(a==sysModules)=false:=by
 rcases q:a==sysModules with _|_
 .rfl
 .obtain⟨o',e,O⟩:=S;have u:=hz _ _ (H _ _ e);have B:=hz _ _ z;rw[eq_of_beq q,u] at B;cases B;have:=O es n hd;exact absurd hs (Nat.not_lt.mpr this)
theorem Rel.other{Y:Lay}{env:Env}{T:List Addr}{os:List (Addr×Obj)}{G:GL}{Z:ZP}{h h':Heap}{C:Addr}(R:Rel Y env T os G Z h)(hs:Heap.SameBut C h h')(u:C∉hJ env)(h2:C∉T)(h3:C∉WW os G)(O: ∀o,¬Z C o):Rel Y env T os G Z h':=by
 have kp: ∀b o,h.get? b=some o->b∉[C]->h'.get? b=some o:= λb o e n=>(hs.2 b λq=>n (by rw[q];exact .head _)).trans e;have g:Go T [C] Z h [] Z h':=⟨λb o e n B=>kp b o e n,λb o e n B=>⟨o.slots,kp b o e n⟩,λB B e=>e,λB B e=>.inl e,λB m=>nomatch m⟩
 have nC: ∀p∈os++G.aT,p.1∉[C]:= λp H m=>h3 (List.mem_singleton.mp m▸List.mem_map_of_mem H);exact R.move g (λa m=>by rw[List.mem_singleton.mp m];exact⟨h2,u⟩) rfl (λp H=>(R.vars p H).2) (λp H=>kp _ _ (R.own p H) (nC p H)) R.nodup (λp H=>.inl (List.mem_map_of_mem H)) (λp H=>(R.b7 p H).2.2)
  (λa o z=>kp a o (R.Zh a o z) λm=>O o (List.mem_singleton.mp m▸z))
theorem Go.other{T W W':List Addr}{Z Z':ZP}{h h' u:Heap}{C:Addr}(g:Go T W Z h W' Z' h')(hs:Heap.SameBut C h' u)(H:C∈W\/h.get? C=none):Go T W Z h W' Z' u:=by
 have O: ∀b o,h'.get? b=some o->b∉C::W'->u.get? b=some o:= λb o e n=>(hs.2 b λq=>n (by rw[q];exact .head _)).trans e;have z:Go T W Z h (C::W') Z' h':=⟨g.keep,g.slots,g.mono,g.pM,λa m=>(List.mem_cons.mp m).elim (λq=>q▸H) (g.dB a)⟩
 exact z.trans ⟨λb o e n B=>O b o e n,λb o e n B=>⟨o.slots,O b o e n⟩,λB B e=>e,λB B e=>.inl e,λB m=>.inl (.tail _ m)⟩
theorem tj(O:dR F X){scope:Scope}{os:List (Addr×Obj)}{G:GL}{Z:ZP}{h:Heap}(R:Rel F.Y F.env F.T os G Z h)(hf:bR scope G.loc=true)(z: ∀p∈scope.names,p.2= .free->F.env.kindOf p.1=some .cell): ∀p∈scope.names,p.2= .free->(F.env.cells.lookup p.1).isSome=true:= λp H hq=>by
 unfold bR at hf;have u:=List.all_eq_true.mp hf p H;rw[hq] at u;simp only[bne_self_eq_false,Bool.false_or] at u;rw[GL.bw] at u;rcases eg:G.get? p.1 with _|sl
 .rw[eg] at u;cases u
 .have hk:=z p H hq;rcases(R.vars _ (GL.aS eg)).1 with⟨k1,_⟩|⟨_,c,B,_⟩
  .dsimp only at k1;rw[hk] at k1;cases k1
  .dsimp only at B;rw[B];rfl
structure CompEnd(F:Fix)(os:List (Addr×Obj))(G₁:GL)(Z₁:ZP)(s₁:Shared)(da C:Addr)(vs:List Value)(kk:Nat)(Z':ZP)(s':Shared):Prop where
 rel:Rel F.Y F.env F.T ((da,listOf vs.toArray kk)::os) G₁ Z' s'.heap
 go:bN F.T (WW os G₁) Z₁ s₁ (C::WW ((da,listOf vs.toArray kk)::os) G₁) Z' s'
 hJ:C∉hJ F.env
 T:C∉F.T
 W:C∉WW ((da,listOf vs.toArray kk)::os) G₁
 Z: ∀o,¬Z' C o
theorem yG{an:Env}{os:List (Addr×Obj)}{O G':GL}{am Z':ZP}{ac s₂ s':Shared}{da C It:Addr}{vs:List Value}{kk:Nat}(al:Rel F.Y F.env F.T os O am ac.heap)(C1:ac.heap.get? C=none)(a0:ac.heap.get? da=none)(a7:ac.heap.get? It=none)(a6:da≠C)
  (a2: ∀b o,ac.heap.get? b=some o->s₂.heap.get? b=some o) (u:s₂.os=ac.os) (h2:s₂.gens=ac.gens) (hC:C∈hJ an) (R':Rel F.Y an F.T ((da,listOf vs.toArray kk)::(os++O.aT)) G' Z' s'.heap)
  (g':bN F.T (C::It::da::addrs (os++O.aT)) am s₂ (C::It::da::addrs (os++O.aT)) Z' s'):CompEnd F os O am ac da C vs kk Z' s':=by
 have ga:Go F.T (WW os O) am ac.heap (C::It::da::addrs (os++O.aT)) am s₂.heap:=
  ⟨λb o e B B=>a2 b o e,λb o e B B=>⟨o.slots,a2 b o e⟩,λB B z=>z,λB B z=>.inl z,λa m=>by
   rcases List.mem_cons.mp m with rfl|m
   .exact .inr C1
   rcases List.mem_cons.mp m with rfl|m
   .exact .inr a7
   rcases List.mem_cons.mp m with rfl|m
   .exact .inr a0
   .exact .inl m⟩
 have gt:bN F.T (WW os O) am ac (C::WW ((da,listOf vs.toArray kk)::os) O) Z' s':=(bN.trans (s':=s₂) ⟨ga,u,h2⟩ g').less λa m=>(List.mem_cons.mp m).elim (λq=>q▸.head _) λm=>.tail _ (.tail _ m);have a8: ∀p∈((da,listOf vs.toArray kk)::(os++O.aT)),p.1≠C:= λp H q=>by
  rcases List.mem_cons.mp H with rfl|H
  .exact a6 q
  .have:=al.own p H;rw[q,C1] at this;cases this
 have inR: ∀p∈((da,listOf vs.toArray kk)::(os++O.aT)),p∈((da,listOf vs.toArray kk)::(os++O.aT))++G'.aT:= λp H=>List.mem_append_left _ H;refine⟨al.move gt.toGo al.pN rfl (λp H=>(al.vars p H).2.mono gt.mono) (λp H=>R'.own p (inR p H)) (cR R'.nodup (List.sublist_append_left _ _)) (λp H=>(List.mem_cons.mp H).elim (λq=>.inr (by rw[q];exact a0)) λH=>.inl (List.mem_map_of_mem H)) (λp H=>(R'.b7 p (inR p H)).2.2) (λa o z=>R'.Zh a o z),gt,λm=> ?_,λm=> ?_,λm=> ?_,λo z=>(R'.ZT _ o z).2 hC⟩
 .obtain⟨o,ho⟩:=al.lO m;rw[C1] at ho;cases ho
 .obtain⟨o,es,k',ho,_⟩:=al.cK _ m;rw[C1] at ho;cases ho
 .obtain⟨p,H,e⟩:=List.mem_map.mp m;exact a8 p H e
theorem wd(O:lS F X n){scope:Scope}{x:Str}{px pos:Pos}{elt iter:Expr}{ifs:List Expr}{use:Option (Value->Sem Unit)}(hc:cF X scope x=true)
  (IH: ∀C,lS (F.comp scope (aZ F.env.cells scope.names []) C) (X.comp scope) n->bV (F.comp scope (aZ F.env.cells scope.names []) C) evc/\jg (F.comp scope (aZ F.env.cells scope.names []) C) tvc)
  {os:List (Addr×Obj)} {am:GL} {aI:ZP} {ac s₂:Shared} {Q:Value->Shared->Prop} {E:Value->Shared->Prop} (u:Rel F.Y F.env F.T os am aI ac.heap) (hl: ∀p∈scope.names,p.2= .free->(F.env.cells.lookup p.1).isSome=true)
  {items rs:List D} {cl:Loc} (ec:bX scope am.loc=some cl) (ed:aR evc tvc cl x ifs elt items= .ok rs) {It:Addr} (keep:Kp ac s₂) (a8:ac.heap.objs.size<=s₂.heap.objs.size) (it:Iter F.Y F.prog F.w F.A F.T aI ac.heap items It s₂.heap)
  (k: ∀da C vs kk Z' s' m,aO F.Y Z' vs rs->CompEnd F os am aI ac da C vs kk Z' s'->s'.heap.Ns C m->compPost (model F.prog F.w) F.A E use Q (.ref da) C (.ok .next) s'):
  wpAny (model F.prog F.w) F.A (newList []) (λacc b5=>wpAny (model F.prog F.w) F.A (newFunctionEnv scope F.env.globals (aZ F.env.cells scope.names []) [] F.env.qual none .none (some F.env)) (λa5 b6=>
   codeAny (model F.prog F.w) F.A (.compStart (.ListComp elt [⟨.Name x px,iter,ifs,0⟩] scope pos) 0 (.ref It) acc {a5 with scope:=relabel scope F.env}) (compPost (model F.prog F.w) F.A E use Q acc a5.locals) b6) E b5) E s₂:=by
 obtain⟨be,hx,dt,c7,a0⟩:=ky hc;have bd: ∀p∈scope.names,p.2= .free->F.env.kindOf p.1=some .cell:= λp H q=>by rw[<-O.kind];exact(a0 p H).2 q
 obtain⟨fp,P,St,Wk,c',⟨cr,bb,c1⟩,c4,hP⟩:=it;refine wpAny_newObj_type (wpAny_newFunctionEnv (λy hy=>(a0 y hy).1) (by intro y hy;simp at hy) (λan ap al=> ?_) be);dsimp only at ap al⊢;generalize a4:s₂.heap.push {cls:=.type "list",dict:=none,data:=.seq ([]:List Value).toArray}=H2 at ap al⊢;have hC:H2.objs.size=s₂.heap.objs.size+1:=by rw[<-a4,Heap.size_push]
 have c3:s₂.heap.get? s₂.heap.objs.size=none:=aK (Nat.le_refl _);have b1:s₂.heap.get? H2.objs.size=none:=aK (by rw[hC];exact Nat.le_succ _);have ch:ac.heap.get? s₂.heap.objs.size=none:=aK a8;have bv: ∀b o,s₂.heap.get? b=some o->an.get? b=some o:= λb o e=>
  (al.2 b λq=>by rw[q,b1] at e;cases e).trans (Heap.get?_push_of_some _ (a4▸Heap.get?_push_of_some _ e))
 have a9:s₂.heap.objs.size≠H2.objs.size:=by rw[hC];exact Nat.ne_of_lt (Nat.lt_succ_self _)
 have b3:an.get? s₂.heap.objs.size=some (listOf ([]:List Value).toArray 0):=(al.2 _ a9).trans (Heap.get?_push_of_some _ (by rw[<-a4];exact Heap.get?_push_size _ rfl));have c2:It≠s₂.heap.objs.size:=Nat.ne_of_lt bb;have cs:It≠H2.objs.size:=by rw[hC];exact Nat.ne_of_lt (Nat.lt_succ_of_lt bb)
 have C1:ac.heap.get? H2.objs.size=none:=aK (by rw[hC];exact Nat.le_succ_of_le a8);have ci:F.Y.base.objs.size<=H2.objs.size:=by
  have:=O.above (u.grown keep.get).stays;rw[hC];exact Nat.le_succ_of_le this
 clear hC bb a4;generalize s₂.heap.objs.size=da at*;generalize H2.objs.size=C at*;have a2:ac.heap.get? It=none:=aK cr;obtain⟨Gc,cn,b2,cm⟩:=yE (G:=am) (scope.names.filter λp=>p.2==.free) ec;have cd:=(u.grown keep.get).inner (C:=C) (D:=da) (k:=0) O.env.kind bd c7 b2 cm bv ap b3 b1 c3 (λq=>a9 q.symm) hl;have a1: ∀{a},ac.heap.get? a=none-> ∀p∈F.env.cells,p.2≠a:= λ{a} ha p H q=>by
  obtain⟨v,o,ho,_⟩:=u.cells p H;rw[q,ha] at ho;cases ho
 have K2:=O.comp hc ci (a1 C1) hl;obtain⟨Ic,Jc⟩:=IH C K2;have b4:St 0 an:=Wk.frame _ _ _ c' λb B o e=>bv b o e;have a7:codeAny (model F.prog F.w) F.A (.compLoop (.ListComp elt [⟨.Name x px,iter,ifs,0⟩] scope pos) 0 (.ref It) (.ref da) (compEnvC scope (aZ F.env.cells scope.names []) C F.env)) (compPost (model F.prog F.w) F.A E use Q (.ref da) C)
   {s₂ with heap:=an,toks:=s₂.toks+([]:List (Str×Value)).length}:=by
  have C:mJ (F.comp scope (aZ F.env.cells scope.names []) C) ⟨x,Gc,os++am.aT,It,da,C::It::da::addrs (os++am.aT),aI,{s₂ with heap:=an,toks:=s₂.toks+([]:List (Str×Value)).length},items,fp,P,St⟩:=by
   refine⟨by rw[<-K2.kind];show dk scope x=_;unfold dk;rw[hx],Wk,c4,hP,λp H=> ?_,λm=> ?_,λm=> ?_,λm=> ?_,c2,λi h q=>let⟨o,e,_⟩:=c1 i h q;⟨o,e⟩,λa m=> ?_⟩
   .obtain⟨e,y,em⟩:=b2 p H;have hs:=(u.vars _ (GL.aS e)).2;refine⟨?_,hs⟩;obtain⟨nm,v,mv,ts⟩:=p;simp only at em;subst em;exact hs.2
   .obtain⟨o,es,k,ho,_⟩:=u.cK It m;rw[a2] at ho;cases ho
   .rcases List.mem_cons.mp m with m|m
    .exact cs m
    .obtain⟨q,hq,e⟩:=List.mem_map.mp m;exact a1 a2 q (uV hl q hq) e
   .obtain⟨o,ho⟩:=u.uO It m;rw[a2] at ho;cases ho
   .rcases m with rfl|rfl|rfl|m
    .exact .head _
    .exact .tail _ (.head _)
    .exact .tail _ (.tail _ (.head _))
    .exact .tail _ (.tail _ (.tail _ m))
  refine wb K2.todR Ic Jc C (by rw[cn];exact ed) ⟨aO.nil,cd,λp H=>(C.Gc p H).1,λB=>rfl,bN.refl,λo z=>by have:=u.Zh _ _ z;rw[a2] at this;cases this⟩ b4 λs' Z' vs kk G' U=> ?_;obtain⟨m',c6⟩:=U.rel.ns;exact k da _ vs kk Z' s' m' U.has (yG (s₂:={s₂ with heap:=an,toks:=s₂.toks+([]:List (Str×Value)).length}) u C1 ch a2 a9 (λb o e=>bv b o (keep.get b o e)) keep.os keep.gens (.head _) U.rel U.go) c6
 exact codeAny_compStart_list a7 (Wk.self 0 _ _ _ b4 a7)
theorem rd{ρ:Type}{P:List Addr->GL->ZP->Shared->Res ρ->Prop}{fin:List D->Loc->Res ρ}{E:Value->Shared->Prop}(O:lS F X n)(hP:jf F E P)(I:bV F ev)(a3: ∀es k p l,ev (.Set es k p) l= .stuck){scope:Scope}{x:Str}{px pos:Pos}{elt iter:Expr}{ifs:List Expr}{use:Option (Value->Sem Unit)}
  (dN: ∀{os:List (Addr×Obj)} {G:GL} {Z:ZP} {s:Shared} {a:Value} {Q:Value->Shared->Prop} {E:Value->Shared->Prop},Rel F.Y F.env F.T os G Z s.heap->au F.Y Z a (.dN [])->(∀I s',Kp s s'->s.heap.objs.size<=s'.heap.objs.size->Iter F.Y F.prog F.w F.A F.T Z s.heap [] I s'.heap->Q (.ref I) s')->wpAny (model F.prog F.w) F.A (pyIter a) Q E s)
  (IH: ∀C,lS (F.comp scope (aZ F.env.cells scope.names []) C) (X.comp scope) n->bV (F.comp scope (aZ F.env.cells scope.names []) C) evc/\jg (F.comp scope (aZ F.env.cells scope.names []) C) tvc)
  {os:List (Addr×Obj)} {G:GL} {Z:ZP} {s:Shared} {Q:Value->Shared->Prop} (R:Rel F.Y F.env F.T os G Z s.heap)
  (K:P (WW os G) G Z s (if !(cF X scope x&&bR scope G.loc) then .stuck else
   aF ev iter G.loc |>.bind λ(d,l)=>(Res.of (itemsOf d)).bind λitems=>(Res.of (bX scope l)).bind λcl=>aR evc tvc cl x ifs elt items |>.bind λds=>fin ds l))
  (k: ∀da C vs kk rs ac Z' s' m,aO F.Y Z' vs rs->Rel F.Y F.env F.T ((da,listOf vs.toArray kk)::os) ac Z' s'.heap->s'.heap.Ns C m->C∉hJ F.env->C∉F.T->C∉WW ((da,listOf vs.toArray kk)::os) ac->(∀o,¬Z' C o)->P (C::WW ((da,listOf vs.toArray kk)::os) ac) ac Z' s' (fin rs ac.loc)->compPost (model F.prog F.w) F.A E use Q (.ref da) C (.ok .next) s'):
  wpAny (model F.prog F.w) F.A (comprehension (.ListComp elt [⟨.Name x px,iter,ifs,0⟩] scope pos) scope F.env (firstIterPos [⟨.Name x px,iter,ifs,0⟩] pos) (newList []) (firstAsync [⟨.Name x px,iter,ifs,0⟩]) (firstIter [⟨.Name x px,iter,ifs,0⟩] F.env) use) Q E s:=by
 rcases hc:cF X scope x with _|_
 .rw[hc] at K;exact(hP.stuck K).elim
 .rcases hf:bR scope G.loc with _|_
  .rw[hc,hf] at K;exact(hP.stuck K).elim
  .rw[hc,hf] at K;obtain⟨ap,hx,a7,a5,am⟩:=ky hc;have hl:=tj O.todR R hf λp H q=>by rw[<-O.kind];exact(am p H).2 q
   have K:P (WW os G) G Z s (aF ev iter G.loc |>.bind λ(d,l)=>(Res.of (itemsOf d)).bind λitems=>(Res.of (bX scope l)).bind λcl=>aR evc tvc cl x ifs elt items |>.bind λds=>fin ds l):=K;have hs: ∀v,foldedSetIterable iter F.env v=pure v:= λv=>by
    rcases iter with _|_|_|_|_|_|_|⟨es,k,p⟩|_|_|_|_|_|_|_|_|_|_|_|_|_|_|_|_|_|_|_<;>try(rfl;done)
    .unfold aF at K;rw[a3] at K;exact(hP.stuck K).elim
   refine wpAny_comprehension_free (use:=use) rfl hs (BK scope F.env hl) ap (λy hy e=>bF a5 (by rw[<-e];exact hy)) (hP.then (aY I iter G.loc) rfl R K λd u xv ts ac a2 z hH aI al K=>hP.opt K λitems ei K=>hP.opt K λcl ec K=> ?_);obtain⟨hd,rfl⟩:=hH;subst aI;rcases ed:aR evc tvc cl x ifs elt items with _|_|rs
   .rw[ed] at K;exact(hP.stuck K).elim
   .exact absurd ed lr
   .rw[ed] at K;refine wpAny_mono (uU (Q:= λit s₂=> ∃It,it= .ref It/\Kp z s₂/\z.heap.objs.size<=s₂.heap.objs.size/\Iter F.Y F.prog F.w F.A F.T a2 z.heap items It s₂.heap) (E:=E) ei O.ao al hd (λIt s₂ a b c=>⟨It,rfl,a,b,c⟩) (λ{a} b1 ha kk=>dN al ha kk)) (λit s₂ ⟨It,e,a,b,c⟩=> ?_) λB B h=>h;subst e;exact wd O hc IH al hl ec ed a b c λda C vs kk Z' s' m a6 D hm=>k da C vs kk rs ac Z' s' m a6 D.rel hm D.hJ D.T D.W D.Z (hP.go D.go rfl K)
theorem BL(O:lS F X n)(I:bV F ev)(am: ∀es k p l,ev (.Set es k p) l= .stuck){scope:Scope}{x:Str}{px pos:Pos}{elt iter:Expr}{ifs:List Expr}
  (dN: ∀{os:List (Addr×Obj)} {G:GL} {Z:ZP} {s:Shared} {a:Value} {Q:Value->Shared->Prop} {E:Value->Shared->Prop},Rel F.Y F.env F.T os G Z s.heap->au F.Y Z a (.dN [])->(∀I s',Kp s s'->s.heap.objs.size<=s'.heap.objs.size->Iter F.Y F.prog F.w F.A F.T Z s.heap [] I s'.heap->Q (.ref I) s')->wpAny (model F.prog F.w) F.A (pyIter a) Q E s)
  (IH: ∀C,lS (F.comp scope (aZ F.env.cells scope.names []) C) (X.comp scope) n->bV (F.comp scope (aZ F.env.cells scope.names []) C) evc/\jg (F.comp scope (aZ F.env.cells scope.names []) C) tvc) (l:Loc):
  Sn F (F.wp (eval (.ListComp elt [⟨.Name x px,iter,ifs,0⟩] scope pos) F.env)) l
   (if !(cF X scope x&&bR scope l) then .stuck else
   aF ev iter l |>.bind λ(d,l)=>(Res.of (itemsOf d)).bind λitems=>(Res.of (bX scope l)).bind λcl=>
    aR evc tvc cl x ifs elt items |>.bind λds=>.ok (.own (.lst ds),l)) (HV F.Y) (λB=>True):=by
 refine Sn.of λos G Z s Q E B H R K=> ?_;subst H;rw[eval_ListComp];refine rd (P:= λV G Z s r=>cv F V os G.vals Z s (HV F.Y) r Q E) (fin:= λds l=>.ok (.own (.lst ds),l)) (use:=none) O (cv.tc O.hT) I am dN IH R K λda C vs kk rs al Z' s' m an R' hm u z h3 h4 K=>⟨m,hm,λa0 ac=> ?_⟩
 exact K (.ref da) [(da,listOf vs.toArray kk)] al Z' _ (dD.lst an) rfl rfl (R'.other ac u z h3 h4) ⟨(Go.refl.less λa m=>.tail _ m).other ac (.inl (.head _)),rfl,rfl⟩
end
section
variable{F:Fix}{X:Cx}{ev:jG}{tv:lR}{n:Nat}
noncomputable def kvsOf(w:World):List DictEntry->List (List Nat×D)->List (Str×Value)
 |e::es,p::ps=>(⟨p.1.toArray⟩,e.val)::kvsOf w es ps
 |_,_=>[]
theorem iL{z O:Type}{xs:List z}{ys:List O}(H:xs.length=ys.length)(hs:ys.length<2):(xs=[]/\ys=[])\/ ∃x y,xs=[x]/\ys=[y]:=by
 rcases xs with _|⟨x,_|⟨B,xs⟩⟩<;>rcases ys with _|⟨y,_|⟨u,ys⟩⟩<;>simp at H hs⊢
 exact Jm (aj hs)
set_option tactic.hygienic true in
theorem pT{Y:Lay}{prog:Program}{w:World}(hh:Y.hs=hashStr w){Z:ZP}{h:Heap}(hz: ∀a o,Z a o->h.get? a=some o){v:Value}{kvs:List (List Nat×D)}(x:au Y Z v (.dN kvs))(hs:kvs.length<2):
  ∃a o es n,v= .ref a/\Z a o/\o.data= .dict (List.toArray es) n/\es.length=kvs.length/\h.DictAt (strKind prog w) a (kvsOf w es kvs) n/\ ∀(i:Nat) (e:DictEntry) (p:List Nat×D),es[i]? =some e->kvs[i]? =some p->au Y Z e.val p.2:=by
 cases x with
 |dN h0 hx hd H O hi=>
  rename_i a o es n;refine⟨a,o,es,n,rfl,h0,hd,H,⟨o,es.toArray,hz _ _ h0,hx,hd,λe he=> ?_,?_,?_⟩,hi⟩
  .have he:e∈es:=by simpa using he
   obtain⟨i,B,rfl⟩:=List.getElem_of_mem he;obtain⟨⟨t,u⟩,z⟩:=O i _ _ (List.getElem?_eq_getElem B) (List.getElem?_eq_getElem (H▸B));refine⟨_,?_,z.trans (by rw[hh];rfl)⟩;show Value.isStrOf _ _=true;rw[u];simp[Value.isStrOf]
  .rcases iL H hs with⟨rfl,rfl⟩|⟨e,p,rfl,rfl⟩
   .exact .nil
   .obtain⟨⟨t,u⟩,_⟩:=O 0 e p rfl rfl;refine .cons ?_ rfl .nil;show Value.isStrOf _ _=true;rw[u];simp[Value.isStrOf]
  .rcases iL H hs with⟨rfl,rfl⟩|⟨e,p,rfl,rfl⟩
   .simp[kvsOf]
   .simp[kvsOf]
theorem kA(O:dR F X)(S:oz F.Y){os:List (Addr×Obj)}{G:GL}{Z:ZP}{s:Shared}{a:Value}{Q:Value->Shared->Prop}{E:Value->Shared->Prop}(R:Rel F.Y F.env F.T os G Z s.heap)(ha:au F.Y Z a (.dN []))
  (k: ∀I s',Kp s s'->s.heap.objs.size<=s'.heap.objs.size->Iter F.Y F.prog F.w F.A F.T Z s.heap [] I s'.heap->Q (.ref I) s'):wpAny (model F.prog F.w) F.A (pyIter a) Q E s:=by
 obtain⟨d,o,es,m,rfl,hz,hd,H,ac,_⟩:=pT (prog:=F.prog) O.hash R.Zh ha (by decide);have am:es=[]:=List.eq_nil_of_length_eq_zero H;subst am;have B:=S.ne R.Zh R.Zb hz hd (by simp);refine wpAny_pyIter_dict B ac ?_;have fresh:s.heap.get? s.heap.objs.size=none:=aK (Nat.le_refl _);have al:d≠s.heap.objs.size:= λq=>by have:=R.Zh _ _ hz;rw[q,fresh] at this;cases this
 have lt: ∀(o:Obj),s.heap.objs.size<(s.heap.push o).objs.size:= λo=>by rw[Heap.size_push];simp+arith only
 refine k _ _ ⟨λb o e=>Heap.get?_push_of_some _ e,rfl,rfl⟩ (Nat.le_of_lt (lt _)) ⟨[s.heap.objs.size,d],_,_,Walks.dictKeys (knd:=strKind F.prog F.w) O.ao.handled _ d al (kvsOf F.w [] []) m,⟨⟨_,Heap.get?_push_size _ rfl,rfl,rfl⟩,ac.push _⟩,⟨Nat.le_refl _,lt _,λi h q=>⟨_,q.1.choose_spec.1,_,q.1.choose_spec.2.1,by decide⟩⟩,?_,?_⟩
 .intro b hb;simp only[List.mem_cons,List.not_mem_nil,or_false] at hb;rcases hb with rfl|rfl
  .exact .inl rfl
  .exact .inr ⟨_,hz⟩
 .intro i u z;refine hide λP9 b9=> ?_;obtain⟨k,x,hk,_⟩:=z;refine b9 ?_;simp[kvsOf] at hk
set_option tactic.hygienic true in
theorem BM(O:dR F X){ac value:Expr}(hs: ∀lo hi p,ac≠.Slice lo hi none p){Z:ZP}{s:Shared}{a c:Value}{es:List (List Nat×D)}{y r:D}{Q:Value->Shared->Prop}{E:Value->Shared->Prop}(hz: ∀a o,Z a o->s.heap.get? a=some o)
  (ha:au F.Y Z a (.dN es)) (hc:au F.Y Z c y) (e:eu (.dN es) y=some r) (k: ∀v tk,au F.Y Z v r->Q v {s with toks:=tk}):wpAny (model F.prog F.w) F.A (subscriptTail value ac a c) Q E s:=by
 obtain⟨k',d,rfl,rfl,rfl⟩: ∃k' d,es=[(k',d)]/\y= .str k'/\d=r:=by
  replace e:pz (.dN es) y=some r:=(Ek ha hc).symm.trans e;obtain⟨k,u,e⟩:=ae e;obtain rfl:=cz u;rcases es with _|⟨p,es⟩
  .exact af e
  .obtain⟨k',d⟩:=p;have hc:(es.isEmpty&&decide (k=k'))=true:=by
    by_cases q:(es.isEmpty&&decide (k=k'))=true
    .exact q
    .exact af ((if_neg q).symm.trans e)
   have e:(vStr d).map .str=some r:=(if_pos hc).symm.trans e;obtain⟨t,h3,rfl⟩:=ar e;obtain rfl:=cz h3;rw[Bool.and_eq_true,decide_eq_true_eq] at hc;obtain⟨z,rfl⟩:=hc;rcases es with _|⟨_,_⟩
   .exact⟨_,_,rfl,rfl,rfl⟩
   .cases z
 obtain⟨d',o,es,m,rfl,a0,hd,H,am,hi⟩:=pT (prog:=F.prog) O.hash hz ha (by simp);obtain⟨e,rfl⟩:=List.length_eq_one_iff.mp H;replace hc:=hc.f6;obtain⟨_,rfl⟩:=hc;rename_i t;have B:=am.dictOf.mapOf;refine tail_any (T:="dict") am.dictOf.typeIs slot_dict_getitem.lookup (wpAny_getItem_of (k:=(⟨k'.toArray⟩:Str)) (v:=e.val) (by show Value.isStrOf (⟨k'.toArray⟩:Str) (Value.str ⟨k'.toArray⟩ t)=true;simp[Value.isStrOf]) B ?_ (k _ _ (hi 0 _ _ rfl rfl))) (f9 hs _ _);simp[valueAt,kvsOf]
theorem yH(O:dR F X)(k:Str)(t:Str)(i j:Nat)(p q pos:Pos)(l:Loc):
  Sn F (F.wp (eval (.Dict [some (.Constant (.str k) i p)] [.Constant (.str t) j q] pos) F.env)) l (.ok (.d (.dN [(k.cps.toList,.str t.cps.toList)]),l)) (HV F.Y) (λB=>True):=by
 refine Sn.done λos G Z s Q E B B R kk=> ?_;refine wpAny_Dict_walk (knd:=strKind F.prog F.w) (by rfl) rfl (by simp) (by simp) (pairTrees_cons_walk (wpAny_Constant_str (wpAny_Constant_str (pairTrees_nil_walk ⟨[(k,.str t (s.toks+1))],?_,?_,λh' hd hs=> ?_⟩))))
 .refine⟨?_,rfl,trivial⟩;show Value.isStrOf k (Value.str k s.toks)=true;simp[Value.isStrOf]
 .exact⟨_,#[],0,Heap.get?_push_size _ rfl,⟨rfl,rfl,rfl⟩,rfl,(λe he=>by simp at he),.nil,by simp⟩
 .obtain⟨o,es,ep,ho,hx,hd,hk,H,_⟩:=hd;have hm:merged ([]:List (Str×Value)) [(k,.str t (s.toks+1))]=[(k,.str t (s.toks+1))]:=by simp[merged,stored]
  rw[hm] at H;obtain⟨e,he,h1,h2⟩: ∃e,es.toList=[e]/\(strKind F.prog F.w).is k e.key=true/\e.val= .str t (s.toks+1):=by
   generalize es.toList=l at H;cases H with
   |cons a b c=>cases c;exact⟨_,rfl,a,b⟩
  obtain⟨u,hu⟩:=Value.isStrOf_shape h1;obtain⟨k',h3,h4⟩:=hk e (by rw[<-Array.mem_toList_iff,he];exact .head _);have an:k'=k:=Value.isStrOf_inj e.key _ _ h3 h1;subst an;have R1:=(R.alloc ({cls:=.type "dict",data:=.dict #[]}:Obj) rfl).He hs ho;have R2:=R1.lE (l:=[(s.heap.objs.size,o)]);have g1:Go F.T (WW os G) Z s.heap (WW ((s.heap.objs.size,o)::os) G) Z h':=by
   refine(Go.alloc (os:=os) (G:=G) ({cls:=.type "dict",data:=.dict #[]}:Obj)).trans ?_;have kp: ∀b o',(s.heap.push {cls:=.type "dict",data:=.dict #[]}).get? b=some o'->b∉(WW ((s.heap.objs.size,({cls:=.type "dict",data:=.dict #[]}:Obj))::os) G)->h'.get? b=some o':= λb o' e n=>(hs.2 b λq=>n (by rw[q];exact .head _)).trans e;exact⟨λb o e n B=>kp b o e n,λb o e n B=>⟨o.slots,kp b o e n⟩,λB B z=>z,λB B z=>.inl z,λB m=>.inl m⟩
  refine kk _ [] _ _ ⟨au.dN (es:=[e]) (n:=ep) (.inr (.head _)) hx (by rw[hd,<-he]) rfl (λi e' p ac al=> ?_) (λi e' p ac al=> ?_),rfl⟩ R2 ⟨g1.trans (Go.lE (l:=[(s.heap.objs.size,o)])),rfl,rfl⟩
  .rcases i with _|i
   .simp at ac al;subst ac al;exact⟨⟨u,by simpa using hu⟩,by rw[h4,O.hash];rfl⟩
   .simp at ac
  .rcases i with _|i
   .simp at ac al;subst ac al;rw[h2];simpa using au.str (Y:=F.Y) t.cps.toList _
   .simp at ac
theorem BN{z:Type}{c:Prop}[Decidable c]{a m:z}(h:(if c then some a else none)=some m):c/\a=m:=by
 by_cases q:c
 .rw[if_pos q] at h;exact⟨q,Option.some.inj h⟩
 .rw[if_neg q] at h;exact af h
theorem Et{Y:Lay}{Z:ZP}{prog:Program}{w:World}{A:Around}{s:Shared}{x:D}{m:Nat}{a:Value}{Q:Value->Shared->Prop}{E:Value->Shared->Prop}(e:x.size?=some m)(hz: ∀a o,Z a o->s.heap.get? a=some o)(O:au Y Z a x)
  (k: ∀t tk,Q (.int m t) {s with toks:=tk}):wpAny (model prog w) A (PySem.call (.builtin "len") [a]) Q E s:=by
 have z:lim<2^63:=by decide
 have u:lim<=1099511627776:=by decide
 rcases x with _|_<;>first|exact af e|skip
 all_goals (obtain⟨B,rfl⟩:=BN e)
 .replace O:=O.f6;obtain⟨_,rfl⟩:=O;refine PyProof.Rows.len_str (by simp[Str.length];exact xS B) ?_;simpa[Str.length] using k _ _
 .replace O:=O.bJ;obtain⟨_,rfl⟩:=O;refine len_bytes (by simp;exact bp u B) ?_;simpa using k _ _
 .obtain⟨l,vs,n,rfl,h,H⟩:=O.isTup hz;refine len_tuple ⟨_,h,rfl,_,rfl⟩ (by simp;exact xS (Nat.le_trans (Nat.le_of_eq H.1) B)) ?_;have:=H.1;simpa[this] using k _ _
 .obtain⟨l,vs,n,rfl,h,H⟩:=O.isList hz;refine call_len_list ⟨_,h,rfl,_,rfl⟩ (by simp;exact xS (Nat.le_trans (Nat.le_of_eq H.1) B)) ?_;have:=H.1;simpa[this] using k _ _
noncomputable def yI(K:Frag)(ca:Nat->Addr)(hK:Nat->Nat->Bool):Prop:= ∀C H,hK C H=true->C=H\/
 (kin_not K (ca C) (ca H)=true/\plainGet K (ca C) "__class__"=true/\hasDictIn K (ca C)=true/\findIn K (.ref (ca C)) "__class__"=some (some (.builtin "object.__class__"))/\specialIn K (.builtin "object.__class__") "__get__"=some (some (.builtin "getset_descriptor.__get__"))/\takesIn K (.builtin "object.__class__")=some true/\mroIn K (ca C) (.type "object")=some true)
theorem Eu{Y:Lay}{K:Frag}{Z:ZP}{hK:Nat->Nat->Bool}{prog:Program}{w:World}{A:Around}{s:Shared}{C C':Nat}{fs:List (Str×D)}{a:Value}{Q:Value->Shared->Prop}{E:Value->Shared->Prop}(hi:yI K Y.ca hK)(lQ:K.In s.heap)(e:hK C C'=true)
  (hz: ∀a o,Z a o->s.heap.get? a=some o) (O:au Y Z a (.obj C fs)) (k: ∀tk,Q (.bool (C==C')) {s with toks:=tk}):wpAny (model prog w) A (PySem.call (.builtin "isinstance") [a,.ref (Y.ca C')]) Q E s:=by
 obtain⟨b,dx,es,n,rfl,u,z,H⟩:=O.jh hz;have I:W.InstAt s.heap b (instObj (Y.ca C) dx) (Y.ca C) (some (dictOf es n)):=⟨u,rfl,rfl,z⟩
 rcases hi C C' e with rfl|⟨k1,k2,k3,k4,k5,k6,k7⟩
 .refine isi_call lQ (t:=.ref (Y.ca C)) (λM=>I.type) (by unfold isIn;simp) (λh=>nomatch h) ?_;simpa using k s.toks
 .have B:(C==C')=false:=by
   rcases q:C==C' with _|_
   .rfl
   .unfold kin_not at k1;rw[eq_of_beq q] at k1;simp at k1
  rw[B] at k;exact kin_callC lQ I k1 k2 k3 k4 k5 k6 k7 (k _)
end
section
variable{F:Fix}{X:Cx}{ev:jG}{tv:lR}{n:Nat}
structure Bf(F:Fix)(X:Cx)(n:Nat):Prop extends lS F X n where
 bj:GJ F.prog F.w
 sys:oz F.Y
 hK:yI F.Y.K F.Y.ca X.hK
 sets: ∀C a,X.attr C a=true->findIn F.Y.K (.ref (F.Y.ca C)) "__setattr__"=some (some (.builtin "object.__setattr__"))/\plainOver F.Y.K (F.Y.ca C)=true
theorem gA(O:dR F X){x:Str}{g:GV}(H:X.kind x=some .globalImplicit)(e:X.glob x=some g)(p:Pos)(l:Loc): ∃v,yg F.Y g v/\jH F l (.Name x p) v:=by
 obtain⟨v,z,hw⟩:=O.glob x g e;have u:F.env.kindOf x=some .globalImplicit:=by rw[<-O.kind];exact H
 exact⟨v,z,λos G Z s Q E B R h=>wpAny_Name (hw F.env _ _ _ O.env.globals O.env.builtins O.env.kind u R.stays h F.A) (O.name u)⟩
theorem rf(O:dR F X){x:Str}{i:Nat}{l:Loc}(e:l.get? x=some (.d (.fn i)))(p:Pos):jH F l (.Name x p) (.ref (F.Y.fa i)):=by
 intro os G Z s Q E H R h;rw[<-H,GL.bw] at e;rcases eg:G.get? x with _|sl
 .rw[eg] at e;cases e
 .rw[eg] at e;have u:sl.mv= .d (.fn i):=by simpa using e
  obtain⟨w,hs⟩:=R.vars _ (GL.aS eg);obtain⟨v,mv,z⟩:=sl;simp only at u;subst u;have:=hs.1;replace this:=this.KP;subst this;exact O.evalVar w h
theorem ig(O:Bf F X n)(I:bV F ev)(dZ: ∀e p l,ev (.Starred e p) l= .stuck){x:Str}{b:Bi}{p pos:Pos}{u:List Expr}(H:aP u=true)(l:Loc)(N:jH F l (.Name x p) (q6 b)):
  Sn F (F.wp (eval (.Call (.Name x p) u [] pos) F.env)) l (bu ev u l |>.bind λ(ds,l)=>(Res.of (hU b ds)).bind λr=>.ok (r,l)) (HV F.Y) (λB=>True):=by
 refine Sn.imp (Sn.pR N (W:= λf Q E s=>wpAny (model F.prog F.w) F.A (callWith pos f [] (backTo pos (starEach u F.env)) []) Q E s) ?_) λQ E s h=>wpAny_Call_NameR h;refine Sn.imp (Sn.bind (W₂:= λ(vs:List Value) Q E s=>True/\wpAny (model F.prog F.w) F.A (PySem.call (q6 b) vs) Q E s) (H₂:=HV F.Y) O.hT bx pQ (eI O.todR I dZ pos u l) λds ac vs=> ?_) λQ E s h=>cw (P:= λB=>True) H (ji (lT b)) h;refine Sn.opt λr e=>Sn.done λos G Z s Q E z B R k=>⟨trivial,?_⟩
 exact O.bj.hU O.ao O.sys O.hash R z.2.1 e λsl Z' s' em R' hs g=>k sl.v sl.os Z' s' (by rw[<-em];exact hs) R' g
theorem BO(O:Bf F X n){x y:Str}{p q pos:Pos}(l:Loc)(N:jH F l (.Name x p) (q6 .len)):
  Sn F (F.wp (eval (.Call (.Name x p) [.Name y q] [] pos) F.env)) l (match l.get? y with
   |some v=>(Res.of (fU v.D)).bind λn=>.ok (.d n,l)
   |none=>.stuck) (HV F.Y) (λB=>True):=by
 refine Sn.imp (Sn.pR N (W:= λf Q E s=>wpAny (model F.prog F.w) F.A (callWith pos f [] (backTo pos (starEach [.Name y q] F.env)) []) Q E s) ?_) λQ E s h=>wpAny_Call_NameR h;intro os G Z s Q E _ hl R;subst hl;rcases eg:G.get? y with _|sl
 .have e0:G.loc.get? y=none:=by rw[GL.bw,eg];rfl
  rw[e0];exact⟨(λB B q=>by cases q),(λq=>by cases q)⟩
 .have e0:G.loc.get? y=some sl.mv:=by rw[GL.bw,eg];rfl
  rw[e0];rcases em:fU sl.mv.D with _|m
  .constructor<;>(simp only[em,Res.of,Res.bind];intros;contradiction)
  .refine⟨λb l' q k=> ?_,(λq=>by simp only[em,Res.of,Res.bind] at q;cases q)⟩;simp only[em,Res.of,Res.bind] at q;cases q;obtain⟨w,hs⟩:=R.vars _ (GL.aS eg);have hd:au F.Y (ZU Z sl.os) sl.v sl.mv.D:=hs.lE (λB B=>.inl) λp H=>.inr H;unfold fU at em;rw[hd.sym] at em;refine hide λu b9=> ?_;obtain⟨n',al,rfl⟩:=ar (show sl.mv.D.size?.map (λ(n:Nat)=>D.int n)=some m from em);refine b9 ?_;refine cw (P:= λB=>True) rfl (ji (lT .len)) (args_cons (O.evalVar w (args_nil ⟨trivial,?_⟩)));refine Et al (Z:=ZU Z sl.os) (λa o z=> ?_) hd λt tk=>k _ [] G Z _ ⟨.int _ _,rfl⟩ rfl rfl R bN.refl;rcases z with z|z
   .exact R.Zh a o z
   .exact R.td eg _ z
set_option tactic.hygienic true in
theorem Ew(O:Bf F X n)(I:bV F ev){x c:Str}{p cp pos:Pos}{a:Expr}{C':Nat}(H:aP [a,.Name c cp]=true)(l:Loc)(N:jH F l (.Name x p) (q6 .isinstance))(hc: ∀l,jH F l (.Name c cp) (.ref (F.Y.ca C'))):
  Sn F (F.wp (eval (.Call (.Name x p) [a,.Name c cp] [] pos) F.env)) l (aF ev a l |>.bind λ(d,l)=>pG X C' d l) (HV F.Y) (λB=>True):=by
 refine Sn.imp (Sn.pR N (W:= λf Q E s=>wpAny (model F.prog F.w) F.A (callWith pos f [] (backTo pos (starEach [a,.Name c cp] F.env)) []) Q E s) ?_) λQ E s h=>wpAny_Call_NameR h;have he:starEach [a,.Name c cp] F.env=(false,eval a F.env)::starEach [.Name c cp] F.env:=by
  have:notStar a=true:=by
   simp only[aP,Bool.and_eq_true,List.all_cons] at H;exact H.2.1
  rcases a with _|_<;>first|rfl|cases this
 refine Sn.imp (Sn.bind (W₂:= λ(v:Value) Q E s=>wpAny (model F.prog F.w) F.A (eval (.Name c cp) F.env) (λu s₂=>True/\wpAny (model F.prog F.w) F.A (PySem.call (q6 .isinstance) [v,u]) Q E s₂) E s) (H₂:=HV F.Y) O.hT bx jF (aY I a l) λd ac v=> ?_)
  λQ E s h=>cw (P:= λB=>True) H (ji (lT .isinstance)) (args_cons (wpAny_mono h (λv z am=>args_cons (wpAny_mono am (λu s₂ an=>args_nil an) λB B x=>x)) λB B x=>x) he)
 cases d with
 |obj C fs=>
  show Sn F _ _ (if X.hK C C' then(Res.ok (MV.d (.bool (C==C')),ac)) else .stuck) _ _;split
  .rename_i hi;refine Sn.done λos G Z s Q E al hl R k=>hc ac os G Z s _ E hl R ⟨trivial,?_⟩;exact Eu O.hK (O.lQ.keeps R.stays) hi R.Zh al.2.1 λtk=>k _ [] Z _ ⟨.bool _,rfl⟩ R bN.refl
  .exact Sn.stuck
 |_=>exact Sn.stuck
theorem Bf.comp(O:Bf F X n){scope:Scope}{x:Str}(h:cF X scope x=true){C:Addr}(K:lS (F.comp scope (aZ F.env.cells scope.names []) C) (X.comp scope) n):Bf (F.comp scope (aZ F.env.cells scope.names []) C) (X.comp scope) n:=
 {K with bj:=O.bj,sys:=O.sys,hK:=O.hK,sets:=O.sets}
theorem i0(k:Nat)(X:Cx)(e:Expr)(p:Pos)(l:Loc):ak k X (.Starred e p) l= .stuck:=by rcases k with _|_<;>rfl
theorem kB(k:Nat)(X:Cx)(es:List Expr)(j:Nat)(p:Pos)(l:Loc):ak k X (.Set es j p) l= .stuck:=by rcases k with _|_<;>rfl
end
section
variable{F:Fix}{X:Cx}{ev:jG}{tv:lR}{n:Nat}
theorem rg{B:List Comprehension}{x:Str}{g:Comprehension}(h:pH B=some (x,g)): ∃H iter ifs,g=⟨.Name x H,iter,ifs,0⟩/\B=[g]:=by
 rcases B with _|⟨u,B⟩
 .cases h
 .rcases B with _|⟨_,_⟩
  .obtain⟨t,iter,ifs,a⟩:=u;replace h:(if a=0 then(nameOf t).map λx=>(x,(⟨t,iter,ifs,a⟩:Comprehension)) else none)=some (x,g):=h;revert h;refine gp (λO h=> ?_) (λz h=> ?_)
   .rcases hn:nameOf t with _|y
    .rw[hn] at h;cases h
    .rw[hn] at h;cases h;obtain⟨p,rfl⟩:=bD hn;subst O;exact⟨p,iter,ifs,rfl,rfl⟩
   .cases h
  .cases h
theorem BP{o:Option MV}{i:Nat}(h:GF o=some i):o=some (.d (.fn i)):=by
 rcases o with _|v
 .cases h
 .rcases v with x|_
  .rcases x with _|_<;>first|(cases h;rfl)|(cases h;done)
  .cases h
theorem we{o:Option GV}{C:Nat}(h:qL o=some C): ∃i,o=some (.cls C i):=by
 rcases o with _|v
 .cases h
 .rcases v with _|_<;>first|(cases h;exact⟨_,rfl⟩)|(cases h;done)
set_option tactic.hygienic true in
theorem rh(O:Bf F X n)(I:bV F ev)(dZ: ∀e p l,ev (.Starred e p) l= .stuck)(f:Str)(fp pos:Pos)(u:List Expr)(l:Loc):
  Sn F (F.wp (eval (.Call (.Name f fp) u [] pos) F.env)) l (iJ X ev f u l) (HV F.Y) (λB=>True):=by
 have OX:=O.todR;have OK:=O.tolS;unfold iJ;rcases hp:aP u with _|_
 .exact Sn.stuck
 .simp only[Bool.not_true,Bool.false_eq_true,if_false];rcases hl:isLocal X f with _|_
  .simp only[Bool.false_eq_true,if_false];rcases hk:X.kind f==some .globalImplicit with _|_
   .exact Sn.stuck
   .simp only[if_true];have hk:=eq_of_beq hk;rcases e:X.glob f with _|g
    .exact Sn.stuck
    .obtain⟨v,z,N⟩:=gA OX hk e fp l;rcases g with i|⟨C,i⟩|_|b|_
     .subst z;exact ou OK I dZ _ ⟨_,_,rfl⟩ hp _ l N
     .subst z;exact th OK I dZ e ⟨_,_,rfl⟩ hp _ l N
     .exact Sn.stuck
     .have z:v=q6 b:=by rw[z];rcases b with _|_<;>rfl
      subst z;show Sn F _ l (Ju X ev b u l) _ _;unfold Ju;split
      .rename_i hb;subst hb;rcases u with _|⟨a,_|⟨c,_|_⟩⟩<;>try(exact Sn.stuck;done)
       unfold xY;dsimp only;rcases hc:nameOf c with _|cn
       .exact Sn.stuck
       .obtain⟨cp,rfl⟩:=bD hc;dsimp only;rcases hck:X.kind cn !=some .globalImplicit with _|_
        .simp only[Bool.false_eq_true,if_false];simp only[bne_eq_false_iff_eq] at hck;rcases hC:qL (X.glob cn) with _|H
         .exact Sn.stuck
         .obtain⟨i',e'⟩:=we hC;refine Ew O I hp l N λl'=> ?_;obtain⟨v,z,N'⟩:=gA OX hck e' cp l';subst z;exact N'
        .exact Sn.stuck
      .split
       .rename_i hb;subst hb;unfold s8;rcases u with _|⟨a,r⟩
        .exact ig O I dZ hp l N
        .dsimp only[List.head?,Option.bind];rcases ha:nameOf a with _|y
         .exact ig O I dZ hp l N
         .obtain⟨yp,rfl⟩:=bD ha;dsimp only;rcases r with _|⟨b,r⟩
          .rcases hy:isLocal X y with _|_
           .exact ig O I dZ hp l N
           .exact BO O l N
          .have:(isLocal X y&&((Expr.Name y yp::b::r).length==1))=false:=by cases isLocal X y<;>rfl
           rw[this];exact ig O I dZ hp l N
       .exact ig O I dZ hp l N
     .exact Sn.stuck
  .simp only[if_true];rcases hf:GF (l.get? f) with _|i
   .exact Sn.stuck
   .exact ou OK I dZ _ ⟨_,_,rfl⟩ hp _ l (rf OX (BP hf) _)
set_option tactic.hygienic true in
theorem fc: ∀(k:Nat) {F:Fix} {X:Cx} {n:Nat},Bf F X n->bV F (ak k X)/\jg F (bT k X):=by
 intro k;induction k with
 |zero=>intro F X n O;exact⟨λe l=>Sn.stuck,λe l am B=>Sn.stuck⟩
 |succ k ih=>
  intro F X n O;obtain⟨I,J⟩:=ih O;have OX:=O.todR;have OK:=O.tolS;have dZ:=i0 k X;have aI:=kB k X;refine⟨λe l=> ?_,λe l am hw=> ?_⟩
  .rcases e with⟨op,es,p⟩|_|⟨a,op,b,p⟩|⟨op,a,p⟩|_|⟨t,a,b,p⟩|⟨ks,vs,p⟩|_|⟨elt,gs,scope,pos⟩|_|_|_|_|_|_|⟨a,ops,es,p⟩|⟨f,u,a0,pos⟩|_|_|⟨c,i,p⟩|⟨v,a,p⟩|⟨v,i,p⟩|_|⟨x,p⟩|⟨es,p⟩|⟨es,i,p⟩|_<;>try(exact Sn.stuck;done)
   .exact yr OX I op _ _ l
   .exact ym OX I _ _ _ _ l
   .rcases op with _|_|_|_
    .exact Sn.stuck
    .exact En OX I _ _ l
    .exact Sn.stuck
    .show Sn F _ l (G1 (ak k X) .USub a l) _ _;unfold G1;dsimp only;rcases h:hN a with _|c
     .exact Sn.stuck
     .obtain⟨_,_,rfl⟩:=s_ h;rcases c with _|_|i|_|_|_|_|_|_|_|_|_|_|_<;>try(exact Sn.stuck;done)
      .exact Eo _ _ _ _ l
   .exact yo OX I J _ _ _ _ l
   .refine Sn.opt λd e=> ?_;rcases ks with _|⟨k0,ks⟩
    .rcases vs with _|⟨_,_⟩
     .cases e;exact yk OX _ l
     .cases e
    .rcases ks with _|⟨_,_⟩
     .rcases k0 with _|k0
      .cases e
      .rcases vs with _|⟨v0,vs⟩
       .cases e
       .rcases vs with _|⟨_,_⟩
        .replace e:((xX k0).bind λs=>(xX v0).map λt=>D.dN [(s.cps.toList,.str t.cps.toList)])=some d:=e;obtain⟨s1,h1,e⟩:=ae e;obtain⟨s2,z,rfl⟩:=ar e;obtain⟨_,_,rfl⟩:=qV h1;obtain⟨_,_,rfl⟩:=qV z;exact yH OX _ _ _ _ _ _ _ l
        .cases e
     .rcases k0 with _|_<;>cases e
   .show Sn F _ l (gY X (ak k X) (ak k (X.comp scope)) (bT k (X.comp scope)) elt gs scope l) _ _;unfold gY;rcases hg:pH gs with _|r
    .exact Sn.stuck
    .obtain⟨x,g⟩:=r;obtain⟨px,iter,ifs,rfl,rfl⟩:=rg hg;by_cases hc:cF X scope x=true
     .exact BL OK I aI (λR ha H=>kA OX O.sys R ha H) (λC K=>ih (O.comp hc K)) l
     .have hc:cF X scope x=false:=by simpa using hc
      dsimp only;rw[hc];exact Sn.stuck
   .exact vV OX I _ _ _ _ l
   .show Sn F _ l (oa X (ak k X) f u a0 pos l) _ _;unfold oa;rcases a0 with _|⟨_,_⟩
    .dsimp only;rcases hn:nameOf f with _|x
     .dsimp only;rcases f with _|_|_|_|_|_|_|_|_|_|_|_|_|_|_|_|_|_|_|_|⟨al,m,ap⟩|_|_|_|_|_|_<;>try(exact Sn.stuck;done)
      .show Sn F _ l (if cQ al&&aP u&&ap.endLine==pos.line then eY X (ak k X) al m u l else .stuck) _ _;split
       .rename_i h;simp only[Bool.and_eq_true] at h;exact q8 OK O.bj I dZ h.1.1 h.1.2 h.2 _ l
       .exact Sn.stuck
     .obtain⟨xp,rfl⟩:=bD hn;exact rh O I dZ x xp pos u l
    .exact Sn.stuck
   .exact yl _ _ _ l
   .show Sn F _ l (n_ X (ak k X) v a l) _ _;unfold n_;rcases hb:cQ v with _|_
    .exact Sn.stuck
    .simp only[Bool.not_true,Bool.false_eq_true,if_false];rcases hn:nameOf v with _|x
     .exact yt OX I hb _ _ l
     .obtain⟨xp,rfl⟩:=bD hn;dsimp only;rcases hl:isLocal X x with _|_
      .exact Sn.stuck
      .exact yu OX _ _ _ _ l
   .show Sn F _ l (qK (ak k X) v i l) _ _;unfold qK;rcases hs:i8 i with _|r
    .have hs:=qU hs;exact BA OX I _ _ (λlo hi p q=>hs lo hi p q) _ l λhz ha hc e k=>BM OX (λlo hi p q=>hs lo hi p q) hz ha hc e k
    .obtain⟨q,rfl⟩:=ta hs;exact vY OX I _ _ _ _ _ l
   .exact Bx OX _ _ l
   .exact yj OX I dZ _ _ l
   .exact yi OX I dZ _ _ _ l
  .subst hw;have pl: ∀e l,(∀x p,e≠.UnaryOp .Not x p)->(∀op es p,e≠.BoolOp op es p)->(∀t a b p,e≠.IfExp t a b p)->(∀a ops es p,e≠.Compare a ops es p)->Sn F (F.wp (isTrue e F.env (eval e F.env))) l (plainT (ak k X) e l) HB (λB=>True):=vX OX I;rcases e with⟨op,es,p⟩|_|_|⟨op,a,p⟩|_|⟨t,a,b,p⟩|_|_|_|_|_|_|_|_|_|⟨a,ops,es,p⟩|⟨f,c,w,p⟩|_|_|⟨c,i,p⟩|⟨v,c,p⟩|⟨v,c,p⟩|_|⟨c,p⟩|_|_|_<;>try(exact Sn.stuck;done)
   .exact yq OX J op _ _ _ l
   .rcases op with _|_|_|_
    .exact Sn.stuck
    .exact By OX J _ _ _ l
    .exact Sn.stuck
    .exact Sn.stuck
   .exact Ep OX J _ _ _ _ _ l
   .exact vW OX I _ _ _ _ _ l
   .exact pl _ l (λB B q=>nomatch q) (λB B B q=>nomatch q) (λB B B B q=>nomatch q) (λB B B B q=>nomatch q)
   .exact pl _ l (λB B q=>nomatch q) (λB B B q=>nomatch q) (λB B B B q=>nomatch q) (λB B B B q=>nomatch q)
   .exact pl _ l (λB B q=>nomatch q) (λB B B q=>nomatch q) (λB B B B q=>nomatch q) (λB B B B q=>nomatch q)
   .exact pl _ l (λB B q=>nomatch q) (λB B B q=>nomatch q) (λB B B B q=>nomatch q) (λB B B B q=>nomatch q)
   .exact pl _ l (λB B q=>nomatch q) (λB B B q=>nomatch q) (λB B B B q=>nomatch q) (λB B B B q=>nomatch q)
end
section
noncomputable def MadeX(B:Heap)(l:List Env)(a:Addr)(cls z:Value)(h:Heap):Prop:=
 B.StaysIn h/\B.get? a=none/\h.FunFrames B l/\ ∃u vs,h.get? a=some u/\u.cls=cls/\u.data= .fields vs/\vs[0]? =some z/\vs[1]? =some .none
noncomputable def fJ(F:Fix)(u:Bool)(V:List Addr)(s:Shared)(e:Value)(s':Shared):Prop:=
 ∃a z B,e= .ref a/\F.Y.base.StaysIn B/\(∀b o,(hideAll s.heap V).get? b=some o->b∉F.frames.filterMap (·.frame)->B.get? b=some o)/\(Heap.HeldW B F.frames a (.ref F.Y.wf) z F.env.locals s'.heap\/(u=false/\(Heap.FlyingW B F.frames a (.ref F.Y.wf) z s'.heap\/MadeX B F.frames a (.ref F.Y.wf) z s'.heap)))/\(hideAll s.heap V).UpToSlots s'.heap/\s'.os=s.os/\s'.gens=s.gens
variable{F:Fix}{X:Cx}{ev:jG}{tv:lR}{n:Nat}
structure yJ(F:Fix):Prop where
 top: ∃outer,F.frames=F.env::outer
 frame:F.env.frame=some F.env.locals
 stack:F.A.frames=some F.frames
 cK:F.T=F.frames.filterMap (·.frame)
theorem Exc.toF{V:List Addr}{h:Shared}{e:Value}{s':Shared}(x:Exc F.Y F.frames V h e s'):fJ F false V h e s':=by
 obtain⟨a,z,B,rfl,u,O,H,hu⟩:=x;exact⟨a,z,B,rfl,u,O,.inr ⟨rfl,.inl H⟩,hu⟩
theorem fJ.un{b:Bool}{V:List Addr}{h:Shared}{e:Value}{s':Shared}(x:fJ F b V h e s'):fJ F false V h e s':=by
 obtain⟨a,z,B,rfl,u,O,H,hu⟩:=x;exact⟨a,z,B,rfl,u,O,H.imp id λ⟨_,q⟩=>⟨rfl,q⟩,hu⟩
theorem fJ.back{b:Bool}{W W':List Addr}{Z Z':ZP}{h h':Shared}{e:Value}{s':Shared}(hT:F.T=F.frames.filterMap (·.frame))(g:bN F.T W Z h W' Z' h')(x:fJ F b W' h' e s'):fJ F b W h e s':=by
 refine hide λu b9=> ?_;obtain⟨a,z,B,rfl,hB,hG,H,hu,O,hg⟩:=x;refine b9 ?_;have nw: ∀b o,(hideAll h.heap W).get? b=some o->b∉W:= λb o e m=>by rw[hideAll_none _ m] at e;cases e
 have ac: ∀b o,(hideAll h.heap W).get? b=some o->b∉W':= λb o e m=>by
  rcases g.dB b m with q|q
  .exact nw b o e q
  .rw[of_hideAll _ e] at q;cases q
 refine⟨a,z,B,rfl,hB,λb o e nf=> ?_,H,λb o e nd=> ?_,O.trans g.os,hg.trans g.gens⟩
 .exact hG b o (hideAll_get _ (g.keep b o (of_hideAll _ e) (nw b o e) (by rw[hT];exact nf)) (ac b o e)) nf
 .by_cases m:b∈F.T
  .obtain⟨sl,q⟩:=g.slots b o (of_hideAll _ e) (nw b o e) m;obtain⟨al,q'⟩:=hu b _ (hideAll_get _ q (ac b o e)) nd;exact⟨al,q'⟩
  .exact hu b o (hideAll_get _ (g.keep b o (of_hideAll _ e) (nw b o e) m) (ac b o e)) nd
theorem fJ.widen{b:Bool}{V W:List Addr}{h:Shared}{e:Value}{s':Shared}(x:fJ F b V h e s')(z: ∀a∈V,a∈W):fJ F b W h e s':=by
 refine hide λu O=> ?_;obtain⟨a,a0,B,rfl,hB,hG,H,hu,ac⟩:=x;refine O ?_;have nv: ∀b o,(hideAll h.heap W).get? b=some o->(hideAll h.heap V).get? b=some o:= λb o e=>hideAll_get _ (of_hideAll _ e) λm=>by
  rw[hideAll_none _ (z b m)] at e;cases e
 exact⟨a,a0,B,rfl,hB,λb o e nf=>hG b o (nv b o e) nf,H,λb o e nd=>hu b o (nv b o e) nd,ac⟩
section
variable{M:Model}{A:Around}{E:Value->Shared->Prop}{s:Shared}
theorem wg{B:Heap}{env:Env}{ac:List Env}{L a:Addr}{cls a0:Value}{Q:Unit->Shared->Prop}(am:A.frames=some (env::ac))(hf:env.frame=some L)(x:MadeX B (env::ac) a cls a0 s.heap)
  (hQ: ∀h',Heap.HeldW B (env::ac) a cls a0 L h'->s.heap.UpToSlots h'->Q () {s with heap:=h'}):wpAny M A (noteFrame (.ref a) env) Q E s:=by
 refine hide λP9 O=> ?_;obtain⟨an,al,H,oe,vs,z,hc,hd,h0,u⟩:=x;refine O ?_;unfold noteFrame;simp only[hf];refine wpAny_bind (wpAny_field z hd u ?_);rw[if_neg (by decide)];refine wpAny_entryW am H hf z an al hd (Array.getElem?_eq_some_iff.mp u).1 h0 λh' ⟨k1,k2,k3,k4⟩=>hQ h' ⟨k1,al,k2,?_⟩ k4;rw[hc] at k3;exact k3
theorem flight_again{B:Heap}{l:List Env}{a L:Addr}{cls a0:Value}{Q:Unit->Shared->Prop}(x:Heap.HeldW B l a cls a0 L s.heap)
  (hQ: ∀h',Heap.HeldW B l a cls a0 L h'->s.heap.UpToSlots h'->Q () {s with heap:=h'}):wpAny M A (setFlight (.ref a) (some L)) Q E s:=by
 refine hide λP9 O=> ?_;obtain⟨a5,a4,H,oe,vs,T,oT,z,he,a2,hd,u,a3,a1,hT,am,h3⟩:=x;refine O ?_;have an:3<z.size:=(Array.getElem?_eq_some_iff.mp h3).1;have other: ∀b,b≠T->(s.heap.update T (Obj.mapFields (·.setIfInBounds 3 ((some L:Option Addr).elim Value.none λf=>rawInt f)))).get? b=s.heap.get? b:=
  λb hb=>Heap.get?_update_other _ _ (Ne.symm hb)
 have ac: ∀b o,s.heap.get? b=some o->(∀vs,o.data≠.fields vs)->b≠T:= λb o hb aI q=>by
  rw[q,hT] at hb;injection hb with hb;subst hb;exact aI z am
 unfold setFlight;refine wpAny_bind (wpAny_field he hd u ?_);rw[if_pos (show(Value.ref T !=Value.none)=true from by simp)];refine wpAny_setField hT am an (hQ _ ⟨λb o ap=>(other b λq=>by rw[q,a3] at ap;cases ap).trans (a5 b o ap),a4,H.of_keeps λb o hb aI=>⟨o,(other b (ac b o hb aI)).trans hb,rfl⟩,?_⟩ λb o hb hn=>⟨o.slots,(other b (ac b o hb hn)).trans hb⟩);exact⟨oe,vs,T,_,_,(other a (Ne.symm a1)).trans he,a2,hd,u,a3,a1,Heap.get?_update_self _ hT (Obj.isFreed_of_fields (Obj.data_mapFields am _)),Obj.data_mapFields am _,by simp[an]⟩
theorem tm{B:Heap}{env:Env}{ac:List Env}{L a:Addr}{cls a0:Value}{Q:Unit->Shared->Prop}(am:A.frames=some (env::ac))(hf:env.frame=some L)(x:MadeX B (env::ac) a cls a0 s.heap)
  (hQ: ∀h',Heap.FlyingW B ac a cls a0 h'->s.heap.UpToSlots h'->Q () {s with heap:=h'}):wpAny M A (leaving env (.ref a)) Q E s:=by
 refine hide λP9 O=> ?_;obtain⟨an,al,H,oe,vs,z,hc,hd,h0,u⟩:=x;refine O ?_;refine wpAny_leaving_firstW am H hf z an al hd u h0 λh' ⟨k1,⟨_,_,k2⟩,k3,k4⟩=>hQ h' ⟨k1,al,k2,?_⟩ k4;rw[hc] at k3;exact k3
theorem leave_held{B:Heap}{env:Env}{z:List Env}{L a:Addr}{cls a0:Value}{Q:Unit->Shared->Prop}(H:env.frame=some L)
  (hh:Heap.HeldW B (env::z) a cls a0 L s.heap) (hQ: ∀h',Heap.FlyingW B z a cls a0 h'->s.heap.UpToSlots h'->Q () {s with heap:=h'}):wpAny M A (leaving env (.ref a)) Q E s:=by
 unfold leaving;refine wpAny_bind (wpAny_noteFrame_againW H hh.2.2.2 ?_);refine wpAny_landsW hh λh' ac hu=> ?_;refine hide λu O=> ?_;obtain⟨k1,k2,⟨_,_,k3⟩,k4⟩:=ac;refine O ?_;exact hQ h' ⟨k1,k2,k3,k4⟩ hu
end
theorem yK(P:yJ F){M:Model}{b:Bool}{V:List Addr}{h:Shared}{e:Value}{s:Shared}{E:Value->Shared->Prop}(x:fJ F b V h e s)(k: ∀s',fJ F true V h e s'->E e s'):notedBy M F.A F.env E e s:=by
 refine hide λP9 O=> ?_;obtain⟨z,H⟩:=P.top;obtain⟨a,a0,B,rfl,hB,hG,hx,hu,ac⟩:=x;refine O ?_;have al:F.A.frames=some (F.env::z):=by rw[P.stack,H]
 rcases hx with hx|⟨_,hx|hx⟩
 .exact wpAny_noteFrame_againW P.frame hx.2.2.2 (k s ⟨a,a0,B,rfl,hB,hG,.inl hx,hu,ac⟩)
 .rw[H] at hx;exact wpAny_looks_onW al P.frame hx λh' y u=>k _ ⟨a,a0,B,rfl,hB,hG,.inl (by rw[H];exact y),hu.trans u,ac⟩
 .rw[H] at hx;exact wg al P.frame hx λh' y u=>k _ ⟨a,a0,B,rfl,hB,hG,.inl (by rw[H];exact y),hu.trans u,ac⟩
theorem BQ(P:yJ F){M:Model}{V:List Addr}{h:Shared}{e:Value}{s:Shared}{E:Value->Shared->Prop}(x:fJ F true V h e s)(k: ∀s',fJ F true V h e s'->E e s'):cameBackBy M F.A F.env E e s:=by
 refine hide λP9 O=> ?_;obtain⟨a,a0,B,rfl,hB,hG,hx,hu,ac⟩:=x;refine O ?_;have hx:Heap.HeldW B F.frames a (.ref F.Y.wf) a0 F.env.locals s.heap:=by
  rcases hx with hx|⟨q,_⟩
  .exact hx
  .cases q
 refine hide λP9 O=> ?_;obtain⟨a6,a5,H,oe,vs,T,oT,z,he,am,hd,h1,a7,a2,hT,a3,h3⟩:=id hx;refine O ?_;unfold cameBackBy;refine wpAny_bind (wpAny_field he hd h1 ?_);rw[if_neg (show ¬((Value.ref T==Value.none)=true) from by simp)];rw[P.frame];exact flight_again hx λh' y u=>k _ ⟨a,a0,B,rfl,hB,hG,.inl y,hu.trans u,ac⟩
theorem yL(P:yJ F){M:Model}{z:List Env}(O:F.frames=F.env::z){b:Bool}{V:List Addr}{h:Shared}{e:Value}{s:Shared}{E:Value->Shared->Prop}{Q:Unit->Shared->Prop}(x:fJ F b V h e s)(hL:F.env.locals∈V)
  (k: ∀s',Exc F.Y z V h e s'->Q () s'):wpAny M F.A (leaving F.env e) Q E s:=by
 obtain⟨a,a0,B,rfl,hB,hG,hx,hu,al⟩:=x;have am:F.A.frames=some (F.env::z):=by rw[P.stack,O]
 have ac: ∀b o,(hideAll h.heap V).get? b=some o->b∉z.filterMap (·.frame)->B.get? b=some o:= λb o e nf=>hG b o e λm=>by
  rw[O] at m;obtain⟨env,he,H⟩:=List.mem_filterMap.mp m;rcases List.mem_cons.mp he with rfl|he
  .rw[P.frame] at H;cases H;rw[hideAll_none _ hL] at e;cases e
  .exact nf (List.mem_filterMap.mpr ⟨env,he,H⟩)
 rw[O] at hx;rcases hx with hx|⟨_,hx|hx⟩
 .exact leave_held P.frame hx λh' y u=>k _ ⟨a,a0,B,rfl,hB,ac,y,hu.trans u,al⟩
 .exact wpAny_leaves_onW am P.frame hx λh' y u=>k _ ⟨a,a0,B,rfl,hB,ac,y,hu.trans u,al⟩
 .exact tm am P.frame hx λh' y u=>k _ ⟨a,a0,B,rfl,hB,ac,y,hu.trans u,al⟩
end
section
variable{F:Fix}{X:Cx}{ev:jG}{tv:lR}{n:Nat}
noncomputable abbrev WS(env:Env)(ts:List (Addr×Obj))(G:GL):List Addr:=hJ env++WW ts G
theorem Go.toS{env:Env}{T:List Addr}{os z:List (Addr×Obj)}{G G':GL}{Z Z':ZP}{h h':Heap}(g:Go T (WW os G) Z h (WW z G') Z' h'):Go T (WS env os G) Z h (WS env z G') Z' h':=by
 have H:=g.widen (V:=WS env os G) λa m=>List.mem_append_right _ m;refine {H with dB:= λa m=> ?_};rcases List.mem_append.mp m with m|m
 .exact .inl (List.mem_append_left _ m)
 .exact H.dB a m
theorem bN.toS{env:Env}{T:List Addr}{os z:List (Addr×Obj)}{G G':GL}{Z Z':ZP}{s s':Shared}(g:bN T (WW os G) Z s (WW z G') Z' s'):bN T (WS env os G) Z s (WS env z G') Z' s':=⟨g.toGo.toS,g.os,g.gens⟩
theorem Go.uX{env:Env}{T:List Addr}{a:Addr}{os z:List (Addr×Obj)}{G G':GL}{Z Z':ZP}{h h':Heap}(O:a∈hJ env)(g:Go T (a::WW os G) Z h (WW z G') Z' h'):Go T (WS env os G) Z h (WS env z G') Z' h':=by
 have H:=g.widen (V:=WS env os G) λb m=>by
  rcases List.mem_cons.mp m with rfl|m
  .exact List.mem_append_left _ O
  .exact List.mem_append_right _ m
 refine {H with dB:= λb m=> ?_};rcases List.mem_append.mp m with m|m
 .exact .inl (List.mem_append_left _ m)
 .exact H.dB b m
noncomputable def bW(pin:Option Str)(G G':GL):Prop:= ∀p,pin=some p->(G'.get? p).map (·.v)=(G.get? p).map (·.v)
theorem bW.refl{pin:Option Str}{G:GL}:bW pin G G:= λB B=>rfl
theorem bW.trans{pin:Option Str}{G G' H:GL}(a:bW pin G G')(b:bW pin G' H):bW pin G H:= λp h=>(b p h).trans (a p h)
theorem ri{G:GL}{x:Str}:(G.get? x).map (·.v)=G.vals.lookup x:=by
 induction G with
 |nil=>rfl
 |cons p r B=>
  obtain⟨y,u⟩:=p;show(List.lookup x ((y,u)::r)).map (·.v)=List.lookup x ((y,u.v)::GL.vals r);simp only[List.lookup_cons];split
  .rfl
  .exact B
theorem bW.jl{pin:Option Str}{G G':GL}(h:G'.vals=G.vals):bW pin G G':= λp B=>by rw[ri,ri,h]
set_option tactic.hygienic true in
theorem tn(G:GL){x y:Str}(s:Slot)(h:y≠x):(G.set x s).get? y=G.get? y:=by
 induction G with
 |nil=>
  show List.lookup y [(x,s)]=none;simp only[List.lookup_cons];rw[show(y==x)=false from by simpa using h];rfl
 |cons p r B=>
  obtain⟨z,u⟩:=p;unfold GL.set;split
  .rename_i e;subst e;show List.lookup y _=List.lookup y _;simp only[List.lookup_cons];rw[show(y==x)=false from by simpa using h]
  .show List.lookup y ((z,u)::GL.set r x s)=List.lookup y ((z,u)::r);simp only[List.lookup_cons];split
   .rfl
   .exact B
theorem bW.set{pin:Option Str}{G:GL}{x:Str}{s:Slot}(h:(pin==some x)=false):bW pin G (G.set x s):= λp H=>by
 have:p≠x:= λq=>by subst q;subst H;simp at h
 rw[tn G s this]
noncomputable def Out(F:Fix)(pin:Option Str)(f:Fl)(l':Loc)(O:Flow)(z:List (Addr×Obj))(G':GL)(Z':ZP):Prop:=match f with
 | .next=>O= .next/\z=[]/\G'.loc=l'
 | .brk=>O= .brk/\z=[]/\G'.loc=l'
 | .cont=>O= .cont/\z=[]/\G'.loc=l'
 | .ret mv=> ∃v,O= .ret v/\b_ F.Y Z' ⟨v,mv,z⟩/\ ∀p,pin=some p->G'.loc.get? p=l'.get? p
noncomputable def bz(F:Fix)(pin:Option Str)(W:Tr Flow)(l:Loc)(r:Res (Fl×Loc)):Prop:=
 ∀(G:GL) (Z:ZP) (s:Shared) (Q:Flow->Shared->Prop) (E:Value->Shared->Prop),G.loc=l->Rel F.Y F.env F.T [] G Z s.heap->(∀f l',r= .ok (f,l')->(∀O z G' Z' s',Out F pin f l' O z G' Z'->Rel F.Y F.env F.T z G' Z' s'.heap->bN F.T (WS F.env [] G) Z s (WS F.env z G') Z' s'->bW pin G G'->Q O s')->W Q E s)/\(r= .exc->(∀e s',fJ F false (WS F.env [] G) s e s'->E e s')->W Q E s)
theorem bz.stuck{pin:Option Str}{W:Tr Flow}{l:Loc}:bz F pin W l .stuck:= λB B B B B B B=>⟨(λB B e=>by cases e),(λe=>by cases e)⟩
noncomputable def aL(F:Fix)(pin:Option Str)(V:List Addr)(G:GL)(Z:ZP)(s:Shared)(r:Res (Fl×Loc))(Q:Flow->Shared->Prop)(E:Value->Shared->Prop):Prop:=match r with
 | .stuck=>False
 | .exc=> ∀e s',fJ F false V s e s'->E e s'
 | .ok p=> ∀O z G' Z' s',Out F pin p.1 p.2 O z G' Z'->Rel F.Y F.env F.T z G' Z' s'.heap->bN F.T V Z s (WS F.env z G') Z' s'->bW pin G G'->Q O s'
section
variable{pin:Option Str}{W W':Tr Flow}{l:Loc}{r:Res (Fl×Loc)}{V V':List Addr}{G G':GL}{Z Z':ZP}{s s':Shared}{Q:Flow->Shared->Prop}{E:Value->Shared->Prop}
theorem bz.run(h:bz F pin W l r)(H:G.loc=l)(R:Rel F.Y F.env F.T [] G Z s.heap)(K:aL F pin (WS F.env [] G) G Z s r Q E):W Q E s:=by
 rcases r with _|_|p
 .exact False.elim K
 .exact(h G Z s Q E H R).2 rfl K
 .exact(h G Z s Q E H R).1 _ _ rfl K
theorem bz.of(h: ∀(G:GL) (Z:ZP) (s:Shared) (Q:Flow->Shared->Prop) (E:Value->Shared->Prop),G.loc=l->Rel F.Y F.env F.T [] G Z s.heap->aL F pin (WS F.env [] G) G Z s r Q E->W Q E s):bz F pin W l r:=
 λG Z s Q E H R=>⟨λf l' e k=>h G Z s Q E H R (by rw[e];exact k),λe k=>h G Z s Q E H R (by rw[e];exact k)⟩
theorem bz.imp(h:bz F pin W l r)(u: ∀Q E s,W Q E s->W' Q E s):bz F pin W' l r:=bz.of λB B B B B H R K=>u _ _ _ (h.run H R K)
theorem aL.go(hT:F.T=F.frames.filterMap (·.frame))(g:bN F.T V Z s V' Z' s')(p:bW pin G G')(K:aL F pin V G Z s r Q E):aL F pin V' G' Z' s' r Q E:=by
 rcases r with _|_|q
 .exact K
 .exactλe B x=>K e B (fJ.back hT g x)
 .exactλO ts H ac B u z g' p'=>K O ts H ac B u z (g.trans g') (p.trans p')
theorem aL.opt{u:Type}{o:Option u}{f:u->Res (Fl×Loc)}{P:Prop}(K:aL F pin V G Z s ((Res.of o).bind f) Q E)(k: ∀x,o=some x->aL F pin V G Z s (f x) Q E->P):P:=by
 rcases o with _|x
 .exact False.elim K
 .exact k x rfl K
theorem aL.ite{c:Prop}[Decidable c]{P:Prop}(K:aL F pin V G Z s (if c then r else .stuck) Q E)(k:c->aL F pin V G Z s r Q E->P):P:=by
 by_cases h:c
 .rw[if_pos h] at K;exact k h K
 .rw[if_neg h] at K;exact False.elim K
theorem aL.not{c:Prop}[Decidable c]{P:Prop}(K:aL F pin V G Z s (if c then .stuck else r) Q E)(k: ¬c->aL F pin V G Z s r Q E->P):P:=by
 by_cases h:c
 .rw[if_pos h] at K;exact False.elim K
 .rw[if_neg h] at K;exact k h K
theorem Sn.Ex{os:List (Addr×Obj)}{γ δ:Type}{W₁:Tr γ}{r₁:Res (δ×Loc)}{cx:δ->γ->ZP->List (Addr×Obj)->Prop}{f:δ×Loc->Res (Fl×Loc)}{al:γ->Shared->Prop}(an:Sn F W₁ l r₁ cx (λB=>True))(hT:F.T=F.frames.filterMap (·.frame))(H:G.loc=l)(R:Rel F.Y F.env F.T os G Z s.heap)(K:aL F pin (WS F.env os G) G Z s (r₁.bind f) Q E)
  (k: ∀b am a ts O ac z,cx b a ac ts->O.loc=am->Rel F.Y F.env F.T (ts++os) O ac z.heap->(∀a o,Z a o->ac a o)->aL F pin (WS F.env (ts++os) O) O ac z (f (b,am)) Q E->al a z):W₁ al E s:=by
 refine an.run trivial H R ?_;rcases r₁ with _|_|p
 .exact K
 .exactλe s' x=>K e s' (x.toF.widen λa m=>List.mem_append_right _ m)
 .exactλa ts G' Z' s' u h2 h3 h4 g=>k p.1 p.2 a ts G' Z' s' u h2 h4 g.mono (aL.go hT ⟨g.toGo.toS,g.os,g.gens⟩ (bW.jl h3) K)
theorem Sn.lu{γ δ:Type}{W₁:Tr γ}{r₁:Res (δ×Loc)}{cx:δ->γ->ZP->List (Addr×Obj)->Prop}{f:δ×Loc->Res (Fl×Loc)}{al:γ->Shared->Prop}(an:Sn F W₁ l r₁ cx (λB=>True))(hT:F.T=F.frames.filterMap (·.frame))(H:G.loc=l)(R:Rel F.Y F.env F.T [] G Z s.heap)(K:aL F pin (WS F.env [] G) G Z s (r₁.bind f) Q E)
  (k: ∀b am a ts O ac z,cx b a ac ts->O.loc=am->Rel F.Y F.env F.T ts O ac z.heap->(∀a o,Z a o->ac a o)->O.vals=G.vals->aL F pin (WS F.env ts O) O ac z (f (b,am)) Q E->al a z):W₁ al E s:=by
 refine an.run trivial H R ?_;rcases r₁ with _|_|p
 .exact K
 .exactλe s' x=>K e s' (x.toF.widen λa m=>List.mem_append_right _ m)
 .intro a ts G' Z' s' u h2 h3 h4 g;rw[List.append_nil] at h4 g;exact k p.1 p.2 a ts G' Z' s' u h2 h4 g.mono h3 (aL.go hT ⟨g.toGo.toS,g.os,g.gens⟩ (bW.jl h3) K)
theorem Sn.kC{W₁:Tr Value}{r₁:Res (D×Loc)}{f:D×Loc->Res (Fl×Loc)}{al:Value->Shared->Prop}(am:Sn F W₁ l r₁ (HD F.Y) (λB=>True))(hT:F.T=F.frames.filterMap (·.frame))(H:G.loc=l)(R:Rel F.Y F.env F.T [] G Z s.heap)(K:aL F pin (WS F.env [] G) G Z s (r₁.bind f) Q E)
  (k: ∀b u a O ac z,au F.Y ac a b->O.loc=u->Rel F.Y F.env F.T [] O ac z.heap->(∀a o,Z a o->ac a o)->O.vals=G.vals->aL F pin (WS F.env [] O) O ac z (f (b,u)) Q E->al a z):W₁ al E s:=
 am.lu hT H R K λb u a ts O ac z h=>by obtain⟨h,rfl⟩:=h;exact k b u a O ac z h
theorem Sn.Ey{W₁:Tr Bool}{r₁:Res (Bool×Loc)}{f:Bool×Loc->Res (Fl×Loc)}{al:Bool->Shared->Prop}(am:Sn F W₁ l r₁ HB (λB=>True))(hT:F.T=F.frames.filterMap (·.frame))(H:G.loc=l)(R:Rel F.Y F.env F.T [] G Z s.heap)(K:aL F pin (WS F.env [] G) G Z s (r₁.bind f) Q E)
  (k: ∀b u O ac z,O.loc=u->Rel F.Y F.env F.T [] O ac z.heap->aL F pin (WS F.env [] O) O ac z (f (b,u)) Q E->al b z):W₁ al E s:=
 am.lu hT H R K λb u a ts O ac z h H R B B K=>by obtain⟨rfl,rfl⟩:=h;exact k _ u O ac z H R K
theorem bz.lu{W₁:Tr Flow}{r₁:Res (Fl×Loc)}{f:Fl×Loc->Res (Fl×Loc)}{ac:Flow->Shared->Prop}(am:bz F pin W₁ l r₁)(hT:F.T=F.frames.filterMap (·.frame))(hl:G.loc=l)(R:Rel F.Y F.env F.T [] G Z s.heap)(K:aL F pin (WS F.env [] G) G Z s (r₁.bind f) Q E)
  (kn: ∀u O B z,O.loc=u->Rel F.Y F.env F.T [] O B z.heap->aL F pin (WS F.env [] O) O B z (f (.next,u)) Q E->ac .next z)
  (kb: ∀u O B z,O.loc=u->Rel F.Y F.env F.T [] O B z.heap->aL F pin (WS F.env [] O) O B z (f (.brk,u)) Q E->ac .brk z)
  (kc: ∀u O B z,O.loc=u->Rel F.Y F.env F.T [] O B z.heap->aL F pin (WS F.env [] O) O B z (f (.cont,u)) Q E->ac .cont z)
  (kr: ∀mv u v ts O B z,b_ F.Y B ⟨v,mv,ts⟩->(∀p,pin=some p->O.loc.get? p=u.get? p)->Rel F.Y F.env F.T ts O B z.heap->aL F pin (WS F.env ts O) O B z (f (.ret mv,u)) Q E->ac (.ret v) z):W₁ ac E s:=by
 refine am.run hl R ?_;rcases r₁ with _|_|p
 .exact K
 .exact K
 .obtain⟨fl,u⟩:=p;intro fw ts G' Z' s' o R' g p;have K:=aL.go hT g p K;rcases fl with _|mv|_|_
  .obtain⟨rfl,rfl,hl⟩:=o;exact kn u G' Z' s' hl R' K
  .obtain⟨v,rfl,h,H⟩:=o;exact kr mv u v ts G' Z' s' h H R' K
  .obtain⟨rfl,rfl,hl⟩:=o;exact kb u G' Z' s' hl R' K
  .obtain⟨rfl,rfl,hl⟩:=o;exact kc u G' Z' s' hl R' K
end
theorem Go.yM{S T W W':List Addr}{Z Z':ZP}{h h':Heap}(g:Go T W Z h W' Z' h'):Go T (S++W) Z h (S++W') Z' h':=by
 have H:=g.widen (V:=S++W) λa m=>List.mem_append_right _ m;exact {H with dB:= λa m=>(List.mem_append.mp m).elim (λm=>.inl (List.mem_append_left _ m)) (H.dB a)}
theorem aL.tc(hT:F.T=F.frames.filterMap (·.frame)){pin:Option Str}{Q:Flow->Shared->Prop}{E:Value->Shared->Prop}:jf F E (λV G Z s r=>aL F pin (hJ F.env++V) G Z s r Q E):=
 ⟨id,λK e s' x=>K e s' (x.toF.widen λa m=>List.mem_append_right _ m),λg z K=>aL.go hT ⟨g.toGo.yM,g.os,g.gens⟩ (bW.jl z) K⟩
theorem bz.seq{pin:Option Str}{W₁ W₂:Tr Flow}{l:Loc}{r₁:Res (Fl×Loc)}{f:Loc->Res (Fl×Loc)}(hT:F.T=F.frames.filterMap (·.frame))(am:bz F pin W₁ l r₁)(an: ∀u,bz F pin W₂ u (f u)):
  bz F pin (λQ E s=>W₁ (λfl s'=>match fl with| .next=>W₂ Q E s'|fl=>Q fl s') E s) l (r₁.bind λ(fl,l)=>match fl with| .next=>f l|fl=>.ok (fl,l)):=
 bz.of λG Z s Q E hl R K=>am.lu hT hl R K (λu O B z hl R K=>(an u).run hl R K) (λu O B z hl R K=>K .brk [] O B z ⟨rfl,rfl,hl⟩ R bN.refl bW.refl) (λu O B z hl R K=>K .cont [] O B z ⟨rfl,rfl,hl⟩ R bN.refl bW.refl)
  λmv u v ts O B z h H R K=>K (.ret v) ts O B z ⟨v,rfl,h,H⟩ R bN.refl bW.refl
theorem bz.next{pin:Option Str}{W:Tr Flow}{l:Loc}(u: ∀Q E s,Q .next s->W Q E s):bz F pin W l (.ok (.next,l)):=
 bz.of λG Z s Q E H R K=>u _ _ _ (K .next [] G Z s ⟨rfl,rfl,H⟩ R bN.refl bW.refl)
theorem tq(O:dR F X){x:Str}(h:isLocal X x=true):F.env.kindOf x=some .local\/F.env.kindOf x=some .cell:=by
 unfold isLocal at h;rw[O.kind] at h;rcases Bool.or_eq_true_iff.mp h with h|h
 .exact .inl (eq_of_beq h)
 .exact .inr (eq_of_beq h)
theorem ij(O:dR F X){x:Str}(hx:isLocal X x=true){sl:Slot}{os:List (Addr×Obj)}{G:GL}{Z:ZP}{s:Shared}{Q:Unit->Shared->Prop}{E:Value->Shared->Prop}(R:Rel F.Y F.env F.T (sl.os++os) G Z s.heap)(hs:b_ F.Y Z sl)
  (k: ∀s',Rel F.Y F.env F.T os (G.set x sl) Z s'.heap->bN F.T (WS F.env (sl.os++os) G) Z s (WS F.env os (G.set x sl)) Z s'->(∀c,c∉hJ F.env->s'.heap.get? c=s.heap.get? c)->Q () s'):wpAny (model F.prog F.w) F.A (storeName F.env x sl.v) Q E s:=by
 have al: ∀{a c:Addr},a∈hJ F.env->c∉hJ F.env->c≠a:= λ{a c} u z q=>z (q▸u);rcases tq O hx with hk|hk
 .obtain⟨m,hm⟩:=R.ns;refine wpAny_storeName_local hk hm (λz a0 ac=> ?_) (by rw[O.env.kind];rfl);obtain⟨R2,H⟩:=Rel.stored R O.env hs ac (.inl ⟨hk,rfl,m,hm,a0⟩) (λB=>by
   obtain⟨o,es,ep,a1,a2,_⟩:=a0;exact⟨o,es,ep,a1,a2⟩)
  exact k _ R2 ⟨Go.uX (.head _) H,rfl,rfl⟩ λc hc=>ac.2 c (al (.head _) hc)
 .obtain⟨c,hc⟩:=Option.isSome_iff_exists.mp (O.env.x_ x hk);have hm:=lookup_mem hc;obtain⟨v,hv⟩:=R.cells _ hm;have aI:c∈hJ F.env:=.tail _ (List.mem_map_of_mem (f:=(·.2)) hm);refine wpAny_storeName_cell O.env.kind hk hc hv λz hi ac=> ?_;obtain⟨R2,H⟩:=Rel.stored R O.env hs ac (.inr ⟨hk,hc,hi⟩) (λm=>absurd m (R.mu _ hm));exact k _ R2 ⟨Go.uX aI H,rfl,rfl⟩ λc' a4=>ac.2 c' (al aI a4)
structure lF(F:Fix)(X:Cx)(n:Nat):Prop extends Bf F X n where
 fr:yJ F
theorem BR{pin:Option Str}(p:Pos)(l:Loc):bz F pin (F.wp (exec (.Pass p) F.env)) l (.ok (.next,l)):=bz.next λB B B h=>wpAny_Pass h
theorem Ez{pin:Option Str}(p:Pos)(l:Loc):bz F pin (F.wp (exec (.Break p) F.env)) l (.ok (.brk,l)):=bz.of λG Z s Q E H R K=>wpAny_Break (K _ [] G Z s ⟨rfl,rfl,H⟩ R bN.refl bW.refl)
theorem Hh(O:lF F X n)(J:jg F tv){pin:Option Str}{xb:List Stmt->Loc->Res (Fl×Loc)}(hb: ∀b l,bz F pin (F.wp (execs b F.env)) l (xb b l))(t:Expr)(a b:List Stmt)(p:Pos)(l:Loc):
  bz F pin (F.wp (exec (.If t a b p) F.env)) l (tv t l |>.bind λ(t,l)=>if t then xb a l else xb b l):=
 bz.of λG Z s Q E H R K=>wpAny_If<|(J t l _ rfl).Ey O.hT H R K λc u al B z H R K=>by
  cases c
  .exact(hb b u).run H R K
  .exact(hb a u).run H R K
theorem BS{pin:Option Str}(p:Pos)(l:Loc):bz F pin (F.wp (exec (.Return none p) F.env)) l (.ok (.ret (.d .none),l)):=bz.of λG Z s Q E H R K=>
 wpAny_Return_none (K _ [] G Z s ⟨.none,rfl,⟨.none,rfl⟩,λB B=>by rw[H]⟩ R bN.refl bW.refl)
theorem yN(O:lF F X n)(I:bV F ev){pin:Option Str}(e:Expr)(p:Pos)(l:Loc):
  bz F pin (F.wp (exec (.Return (some e) p) F.env)) l (ev e l |>.bind λ(v,l)=>.ok (.ret v,l)):=
 bz.of λG Z s Q E H R K=>wpAny_Return_some<|(I e l).lu O.hT H R K λmv u a ts ac al z hH H R B B K=>K _ ts ac al z ⟨a,rfl,hH,λB B=>by rw[H]⟩ R bN.refl bW.refl
theorem BU{pin:Option Str}(p:Pos)(l:Loc):bz F pin (F.wp (exec (.Continue p) F.env)) l (.ok (.cont,l)):=bz.of λG Z s Q E H R K=>wpAny_Continue (K _ [] G Z s ⟨rfl,rfl,H⟩ R bN.refl bW.refl)
theorem au.flat{Y:Lay}{Z:ZP}{v:Value}{mv:MV}{B:List (Addr×Obj)}(h:b_ Y Z ⟨v,mv,B⟩)(H:mn mv=true):(∀a,v≠.ref a)/\B=[]:=by
 rcases mv with x|_
 .obtain⟨u,z⟩:=h;refine⟨λa q=> ?_,z⟩;simp only at u;subst q;rcases x with _|_<;>first|(cases H;done)|(exact nomatch u.gZ)|(exact nomatch u.g5)|(obtain⟨_,O⟩: ∃t,_=_:=u.inv;cases O;done)
 .cases H
theorem BV(O:lF F X n)(I:bV F ev){pin:Option Str}(e:Expr)(p:Pos)(l:Loc):
  bz F pin (F.wp (exec (.Expr e p) F.env)) l (if x5 e then .stuck else ev e l |>.bind λ(v,l)=>if mn v then .ok (.next,l) else .stuck):=by
 refine bz.of λG Z s Q E H R K=>K.not λhc K=> ?_;have ac:swapsWith e none p.line F.env=pure false:=by rcases e with _|_<;>first|rfl|exact absurd rfl hc
 have hi:interactive F.env=false:=by unfold interactive;rw[O.env.kind];rfl
 refine wpAny_Expr ((I e l).lu O.hT H R K λmv al a z G Z s hH H R B B K=>aL.ite K λhf K=> ?_) hi ac;obtain⟨u,rfl⟩:=au.flat hH hf;have:=K .next [] G Z s ⟨rfl,rfl,H⟩ R bN.refl bW.refl;rcases a with _|_<;>first|exact this|exact absurd rfl (u _)
theorem uY{pre post:GL}{x y:Str}{s:Slot}(h:y≠x):GL.get? (pre++(x,s)::post) y=GL.get? (pre++post) y:=by
 induction pre with
 |nil=>
  show List.lookup y ((x,s)::post)=List.lookup y post;simp only[List.lookup_cons];rw[show(y==x)=false from by simpa using h]
 |cons p r B=>
  obtain⟨z,u⟩:=p;show List.lookup y ((z,u)::(r++(x,s)::post))=List.lookup y ((z,u)::(r++post));simp only[List.lookup_cons];split
  .rfl
  .exact B
theorem tr(O:lF F X n)(x:Str)(xp p:Pos)(l:Loc):
  bz F X.pin (F.wp (exec (.Return (some (.Name x xp)) p) F.env)) l (if X.pin==some x then .stuck else
     match l.get? x with
     |some v=>.ok (.ret v,l)
     |none=>.stuck):=by
 refine bz.of λG Z s Q E hl R K=>aL.not K λH K=> ?_;subst hl;rw[GL.bw] at K;rcases eg:G.get? x with _|sl
 .rw[eg] at K;exact False.elim K
 .rw[eg] at K;obtain⟨w,hs⟩:=R.vars _ (GL.aS eg);refine wpAny_Return_some (O.evalVar w ?_);obtain⟨pre,post,rfl,_,_⟩:=GL.cut eg;have ho:GL.aT (pre++(x,sl)::post)=pre.aT++(sl.os++GL.aT post):=by rw[GL.d6,GL.f5]
  have al:sl.os++GL.aT (pre++post)=sl.os++(pre.aT++GL.aT post):=by rw[GL.d6]
  have ac:(sl.os++GL.aT (pre++post)).Perm ([]++GL.aT (pre++(x,sl)::post)):=by
   rewrite[ho,al,List.nil_append,<-List.append_assoc,<-List.append_assoc];exact List.perm_append_comm.append_right _
  have u:Rel F.Y F.env F.T sl.os (pre++post) Z s.heap:=
   {R with
    vars:= λq hq=>R.vars q ((List.mem_append.mp hq).elim (List.mem_append_left _) λm=>List.mem_append_right _ (.tail _ m))
    own:= λq hq=>R.own q (ac.subset hq)
    nodup:=((ac.map (·.1)).nodup_iff).mpr R.nodup
    b7:= λq hq=>R.b7 q (ac.subset hq)
    keys:=cR R.keys (List.Sublist.append_left (List.sublist_cons_self _ _) _)}
  have ne: ∀q,X.pin=some q->q≠x:= λq e z=>H (by rw[e,z];simp);refine K _ sl.os (pre++post) Z s ⟨sl.v,rfl,hs,λq e=>by rw[GL.bw,GL.bw,uY (ne q e)]⟩ u ⟨⟨λB B e B B=>e,λB o e B B=>⟨o.slots,e⟩,λB B e=>e,λB B e=>.inl e,λa m=>.inl ?_⟩,rfl,rfl⟩ λq e=>by rw[uY (ne q e)]
  rcases List.mem_append.mp m with m|m
  .exact List.mem_append_left _ m
  .obtain⟨q,hq,rfl⟩:=List.mem_map.mp m;exact List.mem_append_right _ (List.mem_map_of_mem (ac.subset hq))
theorem tu(O:lF F X n)(I:bV F ev)(x:Str)(xp p:Pos)(e:Expr)(al:swapsWith e (some (.Name x xp)) p.line F.env=pure false)(l:Loc):
  bz F X.pin (F.wp (exec (.Assign [.Name x xp] e p) F.env)) l (if X.pin==some x then .stuck else if isLocal X x then ev e l |>.bind λ(v,l)=>.ok (.next,l.set x v) else .stuck):=
 bz.of λG Z s Q E hl R K=>K.not λH K=>K.ite λhx K=>wpAny_Assign_Name ((I e l).lu O.hT hl R K λmv u a z G Z s hH hl R B B K=>
  ij (sl:=⟨a,mv,z⟩) (os:=[]) O.todR hx (by rw[List.append_nil];exact R) hH λs' R' g' B=>K .next [] (G.set x ⟨a,mv,z⟩) Z s' ⟨rfl,rfl,by rw[GL.dE,hl]⟩ R' (by rw[List.append_nil] at g';exact g') (bW.set (by simpa using H))) al
end
section
section
variable{prog:Program}{w:World}{A:Around}{E:Value->Shared->Prop}{s:Shared}{K:Frag}
theorem yO{R:Result->Shared->Prop}{x dx C:Addr}{ox:Obj}{es:List DictEntry}{n:Nat}{name:Str}{tk:Tok}{v:Value}(X:K.In s.heap)(I:W.InstAt s.heap x ox C (some (dictOf es n)))(hd:ox.dict=some dx)(D:s.heap.get? dx=some (dictOf es n))
  (H:plainOver K C=true) (ht:takerIn K C name=some none) (hh:hasDictIn K C=true) (an:es.any (·.refKey)=false) (hz:es.length<900)
  (h: ∀h' aI,Heap.SameBut dx s.heap h'->h'.get? dx=some (dictOf (putL name aI (.str name s.toks) v es) (putN name es n))->R (.ok (.ret .none)) {s with heap:=h',toks:=s.toks+1}):
  codeAny (model prog w) A (.call (.builtin "object.__setattr__") ⟨[.ref x,.str name tk,v],[]⟩) R s:=by
 have am:(putL name (PyData.keyHash w.params name) (.str name s.toks) v es).length<=es.length+1:=by
  clear D I h an hz;induction es with
  |nil=>simp[putL]
  |cons e r B=>unfold putL;split<;>simp;exact aj B
 refine osa_open X I H ht λb=> ?_;refine hide λP9 O=> ?_;obtain⟨cd,hc,ap⟩:=any_some hh;obtain⟨hx,al,z,-⟩:=I;obtain⟨oc,a6,a5,a7⟩:=ox;refine O ?_;dsimp only at al hd;subst al hd;refine wpAny_bind (wpAny_pure (wpAny_bind (wpAny_bind (wpAny_loadPart hx (wpAny_bind ((looks_clsIn X hc).here ?_))))));rw[ap];refine wpAny_pure (a:=some dx) (wpAny_bind (wpAny_pure (wpAny_bind ?_)));unfold nsSet;refine wpAny_bind (wpAny_bind (wpAny_askSetting (wpAny_pure (wpAny_bind (wpAny_mkText (wpAny_bind (wpAny_loadPart D ?_)))))));have c:(!(es.toArray).any (·.key.isStr name)&&(es.toArray).any (·.refKey))=false:=by
  rw[<-Array.any_toList (p:= λ(e:DictEntry)=>e.refKey),List.toList_toArray,an,Bool.and_false]
 dsimp only[dictOf];rw[aRefKeyMayBeTheName_at,c];have u:Obj.putName name (PyData.keyHash w.params name) (.str name s.toks) v (dictOf es n)=dictOf (putL name (PyData.keyHash w.params name) (.str name s.toks) v es) (putN name es n):=putName_dict ..;have D':(s.heap.update dx (Obj.putName name (PyData.keyHash w.params name) (.str name s.toks) v)).get? dx=some (dictOf (putL name (PyData.keyHash w.params name) (.str name s.toks) v es) (putN name es n)):=by
  rw[Heap.get?_update_self _ D (by rw[u];rfl),u]
 refine wpAny_updatePart D ?_;refine wpAny_bind (wpAny_lookBehind D' (pastItsLine_dict (by rw[List.size_toArray,sizeLine_eq];exact bp hz am)) ?_);exact wpAny_pure (h _ _ (Heap.SameBut.update ..) D')
theorem set_same{x O C:Addr}{ox:Obj}{es:List DictEntry}{n:Nat}{name:Str}{v:Value}{Q:Unit->Shared->Prop}(X:K.In s.heap)(I:W.InstAt s.heap x ox C (some (dictOf es n)))(hd:ox.dict=some O)(D:s.heap.get? O=some (dictOf es n))
  (hs:findIn K (.ref C) "__setattr__"=some (some (.builtin "object.__setattr__"))) (H:plainOver K C=true) (B:takerIn K C name=some none) (z:hasDictIn K C=true) (u:es.any (·.refKey)=false) (hz:es.length<900)
  (h: ∀h' ac,Heap.SameBut O s.heap h'->h'.get? O=some (dictOf (putL name ac (.str name (s.toks+1)) v es) (putN name es n))->Q () {s with heap:=h',toks:=s.toks+2}):
  wpAny (model prog w) A (setAttr (.ref x) name v) Q E s:=
 set_plain X I hs (yO (s:={s with toks:=s.toks+1}) X I hd D H B z u hz λh' ac a b=>h h' ac a b)
theorem pU{l:Addr}{vs:List Value}{n:Nat}{k:Int}{t:Tok}{v:Value}{Q:Unit->Shared->Prop}(O:s.heap.get? l=some (listOf vs.toArray n))(h0:0<=k)(X:k.toNat<vs.length)(al:k<2^63)
  (B: ∀h' u,h'.get? l=some (listOf (vs.set k.toNat v).toArray u)->Heap.SameBut l s.heap h'->Q () {s with heap:=h'}):
  wpAny (model prog w) A (setItem (.ref l) (.int k t) v) Q E s:=by
 have H:s.heap.IsList l vs.toArray:=⟨_,O,rfl,_,rfl⟩
 unfold setItem;try with_reducible refine wpAny_holding ?_
 first|refine wpAny_bind (wpAny_pure ?_)|skip
 refine wpAny_bind (wpAny_sequenceKey H.typeIs (by decide) ?_);refine wpAny_bind (wpAny_callSpecial?_slot (name:=Str.ofString "__setitem__") H.typeIs slot_list_setitem
  (wpAny_call_entry slot_list_setitem H.typeIs entry_list_setitem ?_ (args_list_setitem _ _ _)))
 show wpAny _ _ (Builtin.List.listSubscript? (.int k t)>>=_) _ _ s;refine wpAny_bind (wpAny_listSubscript_int (fitsIndex_of h0 al) ?_);clear al;obtain⟨j,rfl⟩:=Int.eq_ofNat_of_zero_le h0;simp only[Int.toNat_natCast] at X B;have am:j<vs.toArray.size:=by simpa using X
 have an:vs.toArray[j]? =some vs.toArray[j]:=Array.getElem?_eq_getElem am;show wpAny _ _ ((seqItemAt l j>>= λr=>pure (r.map (j,·)))>>=_) _ _ s;refine wpAny_bind (wpAny_bind (wpAny_seqItemAt O rfl (wpAny_pure ?_)));rw[an];show wpAny _ _ (setSeqItemAt l j v>>=_) _ _ s;have z: ∃u,Obj.mapSeq (·.setIfInBounds j v) (listOf vs.toArray n)=listOf (vs.set j v).toArray u:=by
  refine⟨if(vs.toArray.setIfInBounds j v).size==vs.toArray.size then n else n+1,?_⟩;simp[Obj.mapSeq]
 obtain⟨u,z⟩:=z;have ac:(s.heap.update l (Obj.mapSeq (·.setIfInBounds j v))).get? l=some (listOf (vs.set j v).toArray u):=by
  rw[Heap.get?_update_self _ O (by rw[z];rfl),z]
 refine wpAny_bind (wpAny_setSeqItemAt O rfl ?_);first
  |exact wpAny_bind (wpAny_pure (wpAny_pure ⟨.none,rfl,wpAny_pure (B _ u ac (Heap.SameBut.update ..))⟩))
  |exact wpAny_pure ⟨.none,rfl,wpAny_pure (B _ u ac (Heap.SameBut.update ..))⟩
end
theorem du.put{Y:Lay}{Z:ZP}{a:Str}{d:D}{v:Value}{B:Int}{t:Tok}(z:au Y Z v d): ∀{es:List DictEntry} {fs:List (Str×D)},du Y Z es fs->du Y Z (putL a B (.str a t) v es) (nX fs a d)
 |[],[],_=>du.cons ⟨t,rfl⟩ z du.nil
 |[],_::_,h=>by cases h.1
 |e::es,[],h=>by cases h.1
 |e::es,(b,x)::fs,h=>by
  obtain⟨⟨u,O⟩,al,X⟩:=h.inv;have ac:e.key.isStr a=(b==a):=by rw[O];rfl
  unfold putL nX;rw[ac];by_cases q:a=b
  .subst q;simp only[beq_self_eq_true,if_true];exact du.cons ⟨u,O⟩ z X
  .have H:(b==a)=false:=by simpa usingλh:b=a=>q h.symm
   simp only[H,Bool.false_eq_true,if_false,q];exact du.cons ⟨u,O⟩ al (du.put z X)
end
section
variable{F:Fix}{X:Cx}{ev:jG}{tv:lR}{n:Nat}
theorem Rel.kept{Y:Lay}{env:Env}{T:List Addr}{os:List (Addr×Obj)}{G:GL}{Z:ZP}{h h':Heap}(R:Rel Y env T os G Z h)(k: ∀b o,h.get? b=some o->h'.get? b=some o):Rel Y env T os G Z h':=
 R.move (V:=[]) (V':=[]) (Z':=Z) ⟨λb o e B B=>k b o e,λb o e B B=>⟨o.slots,k b o e⟩,λB B e=>e,λB B e=>.inl e,λB m=>nomatch m⟩ (λB m=>nomatch m)
  rfl (λp H=>(R.vars p H).2) (λp H=>k _ _ (R.own p H)) R.nodup (λp H=>.inl (List.mem_map_of_mem H)) (λp H=>(R.b7 p H).2.2) (λa o e=>k a o (R.Zh a o e))
theorem Go.kept{T W:List Addr}{Z:ZP}{h h':Heap}(k: ∀b o,h.get? b=some o->h'.get? b=some o):Go T W Z h W Z h':=
 ⟨λb o e B B=>k b o e,λb o e B B=>⟨o.slots,k b o e⟩,λB B e=>e,λB B e=>.inl e,λB m=>.inl m⟩
theorem ik{h h':Heap}(z:Heap.ExtBut h.objs.size h h'): ∀b o,h.get? b=some o->h'.get? b=some o:= λb o e=>z b o (λq=>by
 rw[q,aK (Nat.le_refl _)] at e;cases e) e
theorem tw{o:Option MV}{r:Nat×List (Str×D)}(h:hY o=some r):o=some (.own (.obj r.1 r.2)):=by
 rcases o with _|v
 .cases h
 .cases v with
  |d _=>cases h
  |own o=>cases o with
   |lst _=>cases h
   |obj C fs=>cases h;rfl
theorem tx{o:Option MV}{xs:List D}(h:h_ o=some xs):o=some (.own (.lst xs)):=by
 rcases o with _|v
 .cases h
 .cases v with
  |d _=>cases h
  |own o=>cases o with
   |obj _ _=>cases h
   |lst xs=>cases h;rfl
set_option tactic.hygienic true in
theorem tA(O:lF F X n)(I:bV F ev)(x a:Str)(xp ap p:Pos)(e:Expr)(l:Loc):
  bz F X.pin (F.wp (exec (.Assign [.Attribute (.Name x xp) a ap] e p) F.env)) l (aF ev e l |>.bind λ(d,l)=>
   (match hY (l.get? x) with
    |some (C,fs)=>if isLocal X x&&X.attr C a&&fs.length<900 then .ok (.next,l.set x (.own (.obj C (nX fs a d)))) else .stuck
    |none=>.stuck)):=by
 have a7:swapsWith e (some (.Attribute (.Name x xp) a ap)) p.line F.env=pure false:=by rcases e with _|_<;>rfl
 refine bz.of λG Z s Q E H R K=>plainObj_wpAny_Assign_Attribute ((aY I e l).kC O.hT H R K λd be v G Z s hv H R B B K=> ?_) a7;subst H;dsimp only at K;rcases eo:hY (G.loc.get? x) with _|r
 .rw[eo] at K;exact False.elim K
 .rw[eo] at K;have e1:=tw eo;refine aL.ite K λhc K=> ?_;simp only[Bool.and_eq_true,decide_eq_true_eq] at hc;refine hide λP9 b9=> ?_;obtain⟨⟨hx,ha⟩,a0⟩:=hc;refine b9 ?_;rw[GL.bw] at e1;refine hide λP9 b9=> ?_;obtain⟨⟨sv,ch,ci⟩,eg,em⟩:=Option.map_eq_some_iff.mp e1;refine b9 ?_;cases em;obtain⟨w,hs⟩:=R.vars _ (GL.aS eg);have ac:=R.td eg;cases hs with
  |obj hf=>
   rename_i b dx es m;refine hide λP9 b9=> ?_;obtain⟨p1,p2,p3⟩:=O.attr r.1 a ha;obtain⟨p4,p5⟩:=O.sets r.1 a ha;refine b9 ?_;have u:=ac _ (.head _);have z:=ac _ (.tail _ (.head _));have ne:b≠dx:= λq=>by
    refine hide λP9 b9=> ?_;obtain⟨pa,pc,ho,_⟩:=bE eg;refine b9 ?_;have nd:=R.nodup;rw[ho] at nd;simp[q,List.nodup_append] at nd
   have ht:takerIn F.Y.K (F.Y.ca r.1) a=some none:=by unfold takerIn;rw[p3];rfl
   refine O.evalVar w (set_same (O.lQ.keeps R.stays) ⟨u,rfl,rfl,z⟩ rfl z p4 p5 ht p2 hf.noRef (by rw[hf.1];exact a0) λh' a6 a1 a4=> ?_);obtain⟨am,aI⟩:=R.upd eg (a:=dx) (.tail _ (.head _)) a1 (mv:=.own (.obj r.1 (nX r.2 a d))) (os':=[(b,instObj (F.Y.ca r.1) dx),(dx,dictOf (putL a a6 (.str a (s.toks+1)) v es) (putN a es m))])
    (dD.obj (hf.put hv)) rfl (λq hq=>by
     rcases List.mem_cons.mp hq with rfl|hq
     .exact(a1.2 b ne).trans u
     .rw[List.mem_singleton.mp hq];exact a4)
   exact K .next [] _ Z _ ⟨rfl,rfl,by rw[GL.dE]⟩ am ⟨aI.toS,rfl,rfl⟩ (bW.jl (e_ eg rfl))
theorem aO.set{Y:Lay}{Z:ZP}{vs:List Value}{xs:List D}{v:Value}{d:D}(H:aO Y Z vs xs)(z:au Y Z v d)(m:Nat):aO Y Z (vs.set m v) (xs.set m d):=by
 refine⟨by simp[H.1],λa u y B O=> ?_⟩;rw[List.getElem?_set] at B O;revert B;refine gp (λq B=> ?_) (λq B=> ?_)
 .rw[if_pos q] at O;split at B
  .rw[if_pos (by have:=H.1;omega)] at O;cases B;cases O;exact z
  .cases B
 .rw[if_neg q] at O;exact H.2 a u y B O
set_option tactic.hygienic true in
theorem wi(O:lF F X n)(I:bV F ev)(x:Str)(xp sp p:Pos)(i e:Expr)(l:Loc):
  bz F X.pin (F.wp (exec (.Assign [.Subscript (.Name x xp) i sp] e p) F.env)) l (aF ev e l |>.bind λ(d,l)=>
  if(l.get? x).isNone then .stuck else
  aF ev i l |>.bind λ(j,l)=>
    (match h_ (l.get? x) with
    |none=>.stuck
    |some xs=>if isLocal X x&&(xs.length<=lim&& !(aG xs||aC d)) then(Res.of ((vInt j).bind (index xs.length))).bind λj=>.ok (.next,l.set x (.own (.lst (xs.set j d)))) else .stuck)):=by
 have a5:swapsWith e (some (.Subscript (.Name x xp) i sp)) p.line F.env=pure false:=by rcases e with _|_<;>rfl
 refine bz.of λG Z s Q E H R K=>wpAny_Assign_Subscript ((aY I e l).kC O.hT H R K λd bb v G Z s hv H R B B K=>aL.not K λhn K=> ?_) a5;subst H;rw[GL.bw] at hn;rcases eg:G.get? x with _|sl
 .rw[eg] at hn;exact absurd rfl hn
 .obtain⟨w,_⟩:=R.vars _ (GL.aS eg);refine O.evalVar w ((aY I i G.loc).kC O.hT rfl R K λj bd iv G Z s hj H R mz al K=> ?_);subst H;dsimp only at K;rcases eo:h_ (G.loc.get? x) with _|xs
  .rw[eo] at K;exact False.elim K
  .rw[eo] at K;refine aL.ite K λhc K1=>aL.opt K1 λm ei K2=> ?_;clear K K1;simp only[Bool.and_eq_true,decide_eq_true_eq] at hc;obtain⟨jj,ej,ei⟩:=Option.bind_eq_some_iff.mp ei;obtain rfl:=aD ej;obtain⟨h0,u,z,h3⟩:=qS ei;replace hj:=hj.cT;obtain⟨_,rfl⟩:=hj;have e1:=tx eo;obtain⟨⟨sv,cd,ce⟩,e2,e3⟩:=q0 al eg;rw[GL.bw,e2] at e1;cases e1;obtain⟨bv,ac⟩:=R.vars _ (GL.aS e2);have a0:=R.td e2;rw[<-e3];cases ac with
   |lst hL=>
    rename_i b vs m';refine pU (a0 _ (.head _)) h0 (by rw[hL.1,z];exact h3) (Int.lt_trans u (l8 hc.2.1)) λh' n' aI a4=> ?_;rw[z] at aI;obtain⟨am,ap⟩:=R.upd e2 (a:=b) (.head _) a4 (mv:=.own (.lst (xs.set m d))) (os':=[(b,listOf (vs.set m v).toArray n')]) (dD.lst (hL.set (hv.mono mz) m)) rfl (λq hq=>by rw[List.mem_singleton.mp hq];exact aI);exact K2 .next [] _ Z _ ⟨rfl,rfl,by rw[GL.dE]⟩ am ⟨ap.toS,rfl,rfl⟩ (bW.jl (e_ e2 rfl))
set_option tactic.hygienic true in
theorem mK(O:dR F X): ∀(ts:List Expr) {vs:List Value} {ds:List D} {l':Loc} {os:List (Addr×Obj)} {G:GL} {Z:ZP} {s:Shared} {Q:Unit->Shared->Prop} {E:Value->Shared->Prop},(ts.all λt=>match t with| .Name x _=>isLocal X x|_=>false)=true->(ts.any λt=>match t with| .Name x _=>X.pin==some x|_=>true)=false->aO F.Y Z vs ds->ay.go G.loc ts ds= .ok l'->Rel F.Y F.env F.T os G Z s.heap->(∀G' s',G'.loc=l'->Rel F.Y F.env F.T os G' Z s'.heap->bN F.T (WS F.env os G) Z s (WS F.env os G') Z s'->bW X.pin G G'->(∀c,c∉hJ F.env->s'.heap.get? c=s.heap.get? c)->Q () s')->wpAny (model F.prog F.w) F.A (assignInOrder ((assignEach ts F.env).map (·.2)) vs) Q E s
 |[],vs,ds,l',os,G,Z,s,Q,E,_,_,H,e,R,k=>by
  rcases ds with _|⟨_,_⟩
  .replace e:=Res.ok.inj e;exact assignInOrder_nil (k G s e R bN.refl bW.refl λB B=>rfl)
  .cases e
 |t::ts,vs,ds,l',os,G,Z,s,Q,E,u,z,H,e,R,k=>by
  simp only[List.all_cons,Bool.and_eq_true] at u;obtain⟨q,u⟩:=u;rcases t with _|_<;>first|(cases q;done)|skip
  rename_i x xp;simp only[List.any_cons,Bool.or_eq_false_iff] at z;rcases ds with _|⟨d,ds⟩
  .cases e
  .rcases vs with _|⟨v,vs⟩
   .cases H.1
   .replace e:ay.go (Loc.set G.loc x (.d d)) ts ds= .ok l':=e;refine assignInOrder_cons (wpAny_assign_Name (ij (sl:=⟨v,.d d,[]⟩) (os:=os) O q R ⟨H.inv.1,rfl⟩ λs' R' g' hc=> ?_));rw[show Loc.set G.loc x (.d d)=(G.set x ⟨v,.d d,[]⟩).loc from by rw[GL.dE]] at e;exact mK O ts u z.2 H.inv.2 e R' λan a1 e1 ap aI a0 al=>k an a1 e1 ap (bN.trans g' aI) ((bW.set z.1).trans a0) λc m=>(al c m).trans (hc c m)
theorem tB(l:Loc): ∀(z:List Expr) (ds:List D) (l:Loc),ay.go l z ds≠.exc
 |[],[],_,h=>by cases h
 |[],_::_,_,h=>by cases h
 |t::z,[],l,h=>by rcases t with _|_<;>(cases h;done)
 |t::z,d::ds,l,h=>by
  rcases t with _|_<;>first|(cases h;done)|exact tB l z ds _ h
theorem mL(l:Loc)(t:Expr)(d:D):ay l t d≠.exc:=by
 intro h;rcases t with _|_<;>first|(cases h;done)|skip
 rcases d with _|_<;>first|(cases h;done)|exact tB l _ _ _ h|exact tB l _ _ _ (pI h (λq=>nomatch q))
theorem mM(env:Env): ∀(z:List Expr),(assignEach z env).length=z.length:=by
 intro B;induction B with
 |nil=>
  exact rfl
 |cons t z u=>
  rcases t with _|_<;>exact congrArg (· +1) (u)
theorem iM{X:Cx}(env:Env): ∀{z:List Expr},(z.all λt=>match t with| .Name x _=>isLocal X x|_=>false)=true->(assignEach z env).findIdx? (·.1)=none
 |[],_=>rfl
 |t::z,h=>by
  simp only[List.all_cons,Bool.and_eq_true] at h;obtain⟨q,h⟩:=h;rcases t with _|_<;>first|(cases q;done)|skip
  show List.findIdx? (·.1) ((false,_)::assignEach z env)=none;rw[List.findIdx?_cons,iM env h];rfl
theorem pV: ∀{z:List Expr} {ds:List D} {l l':Loc},ay.go l z ds= .ok l'->z.length=ds.length
 |[],[],_,_,_=>rfl
 |[],_::_,_,_,h=>by cases h
 |t::z,[],_,_,h=>by rcases t with _|_<;>(cases h;done)
 |t::z,d::ds,_,_,h=>by
  rcases t with _|_<;>first|(cases h;done)|exact congrArg (· +1) (pV h)
set_option tactic.hygienic true in
theorem kD(O:dR F X){t:Expr}{v:Value}{d:D}{l':Loc}{os:List (Addr×Obj)}{G:GL}{Z:ZP}{s:Shared}{Q:Unit->Shared->Prop}{E:Value->Shared->Prop}(u:bq X t=true)(z:pinned X t=false)(hv:au F.Y Z v d)(e:ay G.loc t d= .ok l')
  (R:Rel F.Y F.env F.T os G Z s.heap)
  (k: ∀H s',H.loc=l'->Rel F.Y F.env F.T os H Z s'.heap->bN F.T (WS F.env os G) Z s (WS F.env os H) Z s'->bW X.pin G H->(∀c o,c∉hJ F.env->s.heap.get? c=some o->s'.heap.get? c=some o)->Q () s'):
  wpAny (model F.prog F.w) F.A (assign t F.env v) Q E s:=by
 rcases t with _|_<;>first|(cases e;done)|skip
 .rename_i x xp;obtain rfl:=Res.ok.inj e;refine wpAny_assign_Name (ij (sl:=⟨v,.d d,[]⟩) (os:=os) O u R ⟨hv,rfl⟩ λs' R' g' hc=> ?_);exact k _ s' (by rw[GL.dE]) R' g' (bW.set z) λc o m e=>(hc c m).trans e
 .rename_i ts kk tp;have fin: ∀{h':Heap} {vs:List Value} {ds:List D} {Q':Unit->Shared->Prop},Heap.ExtBut s.heap.objs.size s.heap h'->aO F.Y Z vs ds->ay.go G.loc ts ds= .ok l'->(∀x y,Q' x y=Q x y)->wpAny (model F.prog F.w) F.A (assignInOrder ((assignEach ts F.env).map (·.2)) vs) Q' E {s with heap:=h'}:= λ{h' vs ds Q'} he hL e' hQ=>by
   have kp:=ik he;refine mK O ts u z hL e' (R.kept kp) λH s' e1 R' g' p' hc=> ?_;rw[hQ];exact k H s' e1 R' (bN.trans (s':={s with heap:=h'}) ⟨Go.kept kp,rfl,rfl⟩ g') p' λc o m e=>(hc c m).trans (kp c o e)
  rcases d with _|_<;>first|(cases e;done)|skip
  .replace e:ay.go G.loc ts _= .ok l':=e;obtain⟨a,vs,m,rfl,ho,hL⟩:=hv.isTup R.Zh;refine wpAny_assign_Tuple O.ao.handled ⟨_,ho,rfl,_,rfl⟩ (by rw[mM,pV e,<-hL.1];simp) (iM _ u) λh' he=> ?_;simpa using fin he hL e λB B=>rfl
  .replace e:ay.go G.loc ts _= .ok l':=pI e (λq=>nomatch q);obtain⟨a,vs,m,rfl,ho,hL⟩:=hv.isList R.Zh;rw[arm_assign_Tuple];refine wpAny_bind (wpAny_standAt ?_);unfold unpack;rw[iM _ u];have an:(assignEach ts F.env).length=vs.toArray.size:=by rw[mM,pV e,<-hL.1];simp
   rw[an];refine wpAny_bind (wpAny_holding (kun_itemsOf O.ao.handled ⟨_,ho,rfl,_,rfl⟩ λh' he=> ?_));simpa using fin he hL e λB B=>rfl
end
section
variable{F:Fix}{X:Cx}{ev:jG}{tv:lR}{n:Nat}
theorem rj(O:dR F X){ts:List Expr}{kk:Nat}{tp:Pos}{a:Addr}{vs:List Value}{m:Nat}{ds:List D}{l':Loc}{os:List (Addr×Obj)}{G:GL}{Z:ZP}{s:Shared}{Q:Unit->Shared->Prop}{E:Value->Shared->Prop}(u:bq X (.Tuple ts kk tp)=true)(z:pinned X (.Tuple ts kk tp)=false)
  (ho:s.heap.get? a=some (listOf vs.toArray m)) (hL:aO F.Y Z vs ds) (e:ay.go G.loc ts ds= .ok l') (R:Rel F.Y F.env F.T os G Z s.heap)
  (k: ∀H s',H.loc=l'->Rel F.Y F.env F.T os H Z s'.heap->bN F.T (WS F.env os G) Z s (WS F.env os H) Z s'->bW X.pin G H->Q () s'):
  wpAny (model F.prog F.w) F.A (assign (.Tuple ts kk tp) F.env (.ref a)) Q E s:=by
 rw[arm_assign_Tuple];refine wpAny_bind (wpAny_standAt ?_);unfold unpack;rw[iM _ u];have al:(assignEach ts F.env).length=vs.toArray.size:=by rw[mM,pV e,<-hL.1];simp
 rw[al];refine wpAny_bind (wpAny_holding (kun_itemsOf O.ao.handled ⟨_,ho,rfl,_,rfl⟩ λh' he=> ?_));have kp:=ik he;have:=mK O ts (Q:=Q) (E:=E) (s:={s with heap:=h'}) u z hL e (R.kept kp) λH s' e1 R' g' p' B=>k H s' e1 R' (bN.trans (s':={s with heap:=h'}) ⟨Go.kept kp,rfl,rfl⟩ g') p';simpa using this
theorem wj(O:lF F X n)(I:bV F ev)(ts:List Expr)(kk:Nat)(tp p:Pos)(e:Expr)(am: ∀es k q,e≠.Tuple es k q)(u:bq X (.Tuple ts kk tp)=true)(z:pinned X (.Tuple ts kk tp)=false)(l:Loc):
  bz F X.pin (F.wp (exec (.Assign [.Tuple ts kk tp] e p) F.env)) l (aF ev e l |>.bind λ(d,l)=>(ay l (.Tuple ts kk tp) d).bind λl=>.ok (.next,l)):=by
 have hs:swapsWithSole [.Tuple ts kk tp] e p.line F.env=pure false:=by rcases e with _|_<;>rfl
 have hw:swappedStores [.Tuple ts kk tp] e F.env=pure none:=by rcases e with _|_<;>first|rfl|exact absurd rfl (am _ _ _)
 refine bz.of λG Z s Q E H R K=>wpAny_Assign_stores ((aY I e l).kC O.hT H R K λd an v G Z s hv H R B B K=> ?_) hs hw;subst H;dsimp only at K;rcases eb:ay G.loc (.Tuple ts kk tp) d with _|_|l'
 .rw[eb] at K;exact False.elim K
 .exact absurd eb (mL _ _ _)
 .rw[eb] at K;exact kD O.todR u z hv eb R λG' s' e1 R' g' p' B=>K .next [] G' Z s' ⟨rfl,rfl,e1⟩ R' g' p'
theorem tC(O:lF F X n)(ts:List Expr)(kk:Nat)(tp p:Pos)(x:Str)(xp:Pos)(u:bq X (.Tuple ts kk tp)=true)(z:pinned X (.Tuple ts kk tp)=false)(l:Loc):
  bz F X.pin (F.wp (exec (.Assign [.Tuple ts kk tp] (.Name x xp) p) F.env)) l (match l.get? x with
   |some v=>(ay l (.Tuple ts kk tp) v.D).bind λl=>.ok (.next,l)
   |none=>.stuck):=by
 have hs:swapsWithSole [.Tuple ts kk tp] (.Name x xp) p.line F.env=pure false:=rfl;have hw:swappedStores [.Tuple ts kk tp] (.Name x xp) F.env=pure none:=rfl;refine bz.of λG Z s Q E H R K=> ?_;subst H;rw[GL.bw] at K;rcases eg:G.get? x with _|sl
 .rw[eg] at K;exact False.elim K
 .rw[eg] at K;obtain⟨w,an⟩:=R.vars _ (GL.aS eg);have am:=R.td eg;dsimp only[Option.map] at K;rcases eb:ay G.loc (.Tuple ts kk tp) sl.mv.D with _|_|l'
  .rw[eb] at K;exact False.elim K
  .exact absurd eb (mL _ _ _)
  .rw[eb] at K;refine wpAny_Assign_stores (O.evalVar w ?_) hs hw;show wpAny _ _ (assign (.Tuple ts kk tp) F.env sl.v) _ _ _;obtain⟨sv,a3,a7⟩:=sl;rcases a3 with d|o
   .exact kD O.todR u z an.1 eb R λG' s' e1 R' g' p' B=>K .next [] G' Z s' ⟨rfl,rfl,e1⟩ R' g' p'
   .rcases an with hL|_
    .exact rj O.todR u z (am _ (.head _)) hL (pI eb (λq=>nomatch q)) R λG' s' e1 R' g' p'=>K .next [] G' Z s' ⟨rfl,rfl,e1⟩ R' g' p'
    .exact nomatch(show Res.stuck=Res.ok _ from eb)
theorem EA(O:dR F X)(I:bV F ev)(pos:Pos){pin:Option Str}{Q:Flow->Shared->Prop}{E:Value->Shared->Prop}: ∀(es:List Expr),es.all notStar=true-> ∀{os:List (Addr×Obj)} {G:GL} {Z:ZP} {s:Shared} {ac:List Value->Shared->Prop} {f:List MV×Loc->Res (Fl×Loc)},Rel F.Y F.env F.T os G Z s.heap->aL F pin (WS F.env os G) G Z s ((gu ev es G.loc).bind f) Q E->(∀(sls:List Slot) H Z' s',sls.length=es.length->(∀a o,Z a o->Z' a o)->(∀sl∈sls,b_ F.Y Z' sl)->Rel F.Y F.env F.T (sls.reverse.flatMap (·.os)++os) H Z' s'.heap->aL F pin (WS F.env (sls.reverse.flatMap (·.os)++os) H) H Z' s' (f (sls.map (·.mv),H.loc)) Q E->ac (sls.map (·.v)) s')->wpAny (model F.prog F.w) F.A (spliced (backTo pos (starEach es F.env))) ac E s:=by
 intro l9;induction l9 with
 |nil=>
  intro B os G Z s ac f R K k;exact args_nil (k [] G Z s rfl (λB B h=>h) (λB h=>nomatch h) R K)
 |cons e es aI=>
  intro dZ os G Z s ac f R K k;simp only[List.all_cons,Bool.and_eq_true] at dZ;have he:starEach (e::es) F.env=(false,eval e F.env)::starEach es F.env:=by
   rcases e with _|_<;>first|rfl|cases dZ.1
  unfold gu at K;rw[Res.bind_assoc] at K;refine args_cons ((I e G.loc).Ex O.hT rfl R K λmv a2 v ts a0 a1 a3 hH al an ap K=> ?_) he;subst al;rw[Res.bind_assoc] at K;refine aI dZ.2 an K λsls H Z' s' u m2 h2 h5 K=>k (⟨v,mv,ts⟩::sls) H Z' s' (congrArg Nat.succ u) (λa o z=>m2 a o (ap a o z)) (λsl am=> ?_) ?_ ?_
  .rcases List.mem_cons.mp am with rfl|am
   .exact b_.mono m2 hH
   .exact h2 sl am
  .simpa[List.append_assoc] using h5
  .have K:aL F pin _ H Z' s' (f (mv::sls.map (·.mv),H.loc)) Q E:=K;simpa[List.append_assoc] using K
theorem oB(O:dR F X): ∀(ns:List Str) (sls:List Slot) {l':Loc} {os:List (Addr×Obj)} {G:GL} {Z:ZP} {s:Shared} {Q:Unit->Shared->Prop} {E:Value->Shared->Prop},(∀x∈ns,isLocal X x=true/\(X.pin==some x)=false)->gv G.loc ns (sls.map (·.mv))= .ok l'->(∀sl∈sls,b_ F.Y Z sl)->Rel F.Y F.env F.T (sls.flatMap (·.os)++os) G Z s.heap->(∀H s',H.loc=l'->Rel F.Y F.env F.T os H Z s'.heap->bN F.T (WS F.env (sls.flatMap (·.os)++os) G) Z s (WS F.env os H) Z s'->bW X.pin G H->Q () s')->wpAny (model F.prog F.w) F.A (assignInOrder (ns.map λx=>bindName F.env x) (sls.map (·.v))) Q E s
 |[],[],l',os,G,Z,s,Q,E,_,e,_,R,k=>by
  cases e;exact assignInOrder_nil (k G s rfl R bN.refl bW.refl)
 |[],_::_,l',os,G,Z,s,Q,E,_,e,_,R,k=>by cases e
 |_::_,[],l',os,G,Z,s,Q,E,_,e,_,R,k=>by cases e
 |x::ns,sl::sls,l',os,G,Z,s,Q,E,hx,e,hs,R,k=>by
  refine assignInOrder_cons (wpAny_bindName (ij (sl:=sl) (os:=sls.flatMap (·.os)++os) O (hx x (.head _)).1 (by simpa[List.append_assoc] using R) (hs sl (.head _)) λs' R' g' B=> ?_));have e':gv (G.set x sl).loc ns (sls.map (·.mv))= .ok l':=by rw[GL.dE];exact e
  refine oB O ns sls (λy hy=>hx y (.tail _ hy)) e' (λq hq=>hs q (.tail _ hq)) R' λH ac u z h3 h4=>k H ac u z ?_ ((bW.set (hx x (.head _)).2).trans h4);have:=bN.trans g' h3;simpa[List.append_assoc] using this
theorem swap_eq(O:dR F X){z es:List Expr}{k j:Nat}{p q:Pos}(h:jb X z es=true):swappedStores [.Tuple z k p] (.Tuple es j q) F.env=pure (some (bf X z)):=by
 have hk:X.kind=F.env.kindOf:=funext O.kind;unfold jb at h;simp only[Bool.and_eq_true] at h;refine hide λu b9=> ?_;obtain⟨⟨⟨⟨⟨⟨H,B⟩,a3⟩,a4⟩,a5⟩,a6⟩,a7⟩:=h;refine b9 ?_;have hn:bf X z=z.filterMap λt=>match t with
  | .Name id pos=>if F.env.kindOf id==some .local&&pos.line==(z.head?.map (·.pos.line)).getD 0 then some id else none
  |_=>none:=by unfold bf;rw[hk];try rfl
 have b3:(es.any λt=>match t with| .Starred _ _=>true|_=>false)=false:=by
  rw[List.any_eq_false];intro x hx;have:=List.all_eq_true.mp a3 x hx;rcases x with _|_|_|_|_|_|_|_|_|_|_|_|_|_|_|_|_|_|_|_|_|_|⟨a,b⟩|_|_|_|_<;>try(simp;done)
  .cases this
 have hb:F.env.blockKind= .function:=by unfold Env.blockKind;rw[O.env.kind];rfl
 have c1:(!(z.length==2||z.length==3)||es.length !=z.length||F.env.blockKind !=.function)=false:=by
  rw[H,hb,eq_of_beq B];simp
 have c4:((bf X z).length !=z.length||(bf X z).eraseDups.length !=(bf X z).length)=false:=by
  rw[eq_of_beq a4,eq_of_beq a5];simp;exact eq_of_beq a4
 have c6:es.all (foldedForSure 8)=false:=by simpa using a6
 have c7:es.all (constantsAlone 8)=false:=by simpa using a7
 unfold swappedStores;refine(if_neg λq=>Bool.false_ne_true (c1.symm.trans q)).trans ?_;refine(if_neg λq=>Bool.false_ne_true (b3.symm.trans q)).trans ?_;rw[hn] at c4⊢;refine(if_neg λq=>Bool.false_ne_true (c4.symm.trans q)).trans ?_;refine(if_neg λq=>Bool.false_ne_true (c6.symm.trans q)).trans ?_;refine(if_neg λq=>Bool.false_ne_true (c7.symm.trans q)).trans ?_;rfl
end
section
variable{F:Fix}{X:Cx}{ev:jG}{tv:lR}{n:Nat}
theorem mN: ∀(ns:List Str) (vs:List MV) (l:Loc),gv l ns vs≠.exc
 |[],[],_,h=>by cases h
 |[],_::_,_,h=>by cases h
 |_::_,[],_,h=>by cases h
 |x::ns,v::vs,l,h=>mN ns vs _ h
theorem tD{H:List Expr}{k:Nat}{p:Pos}(u:bq X (.Tuple H k p)=true)(z:pinned X (.Tuple H k p)=false): ∀x∈bf X H,isLocal X x=true/\(X.pin==some x)=false:=by
 intro x hx;unfold bf at hx;obtain⟨t,B,e⟩:=List.mem_filterMap.mp hx;rcases t with _|_<;>simp only at e<;>first|(cases e;done)|skip
 revert e;refine gp (λO e=> ?_) (λO e=> ?_)
 .cases e;have a:=List.all_eq_true.mp u _ B;have b:=List.any_eq_false.mp z _ B;exact⟨a,by simpa using b⟩
 .cases e
theorem tE(O:lF F X n)(I:bV F ev)(ts es:List Expr)(kk j:Nat)(tp q p:Pos)(u:bq X (.Tuple ts kk tp)=true)(z:pinned X (.Tuple ts kk tp)=false)(an:jb X ts es=true)(l:Loc):
  bz F X.pin (F.wp (exec (.Assign [.Tuple ts kk tp] (.Tuple es j q) p) F.env)) l (gu ev es l |>.bind λ(vs,l)=>(if vs.length<=lim then gv l (bf X ts).reverse vs.reverse else .stuck).bind λl=>.ok (.next,l)):=by
 have hs:swapsWithSole [.Tuple ts kk tp] (.Tuple es j q) p.line F.env=pure false:=rfl;have ac:=an;unfold jb at ac;simp only[Bool.and_eq_true] at ac;have dZ:es.all notStar=true:=ac.1.1.1.1.2;have a0:(bf X ts).length=es.length:=by rw[eq_of_beq ac.1.1.1.2,eq_of_beq ac.1.1.1.1.1.2]
 clear ac;refine bz.of λG Z s Q E H R K=> ?_;subst H;rw[exec_Assign_arm];refine wpAny_bind (wpAny_standAt ?_);rw[hs];refine wpAny_bind (wpAny_pure ?_);rw[if_neg (by decide)];refine wpAny_bind (wpAny_Tuple (EA O.todR I q es dZ R K λsls G' Z' s' e1 B e2 R' K=> ?_));dsimp only at K;by_cases al:(sls.map (·.mv)).length<=lim
 case neg=>rw[if_neg al] at K;exact False.elim K
 rw[if_pos al] at K;refine⟨by rw[List.length_map] at al⊢;exact bU al,?_⟩;rw[swap_eq O.todR an];refine wpAny_bind (wpAny_pure ?_);show wpAny _ _ (do
  rule "assign.swapped-stores"
  let items<-unpackItems (.ref s'.heap.objs.size) (bf X ts).length none
  assignInOrder ((bf X ts).reverse.map λn=>bindName F.env n) items.reverse
  pure Flow.next) _ _ _
 rw[show(bf X ts).length=((sls.map (·.v)).toArray).size by simp[a0,e1]];refine wpAny_bind (wpAny_rule (wpAny_bind (wpAny_unpackItems_tuple O.ao.handled ⟨_,Heap.get?_push_size _ rfl,rfl,_,rfl⟩ λh' he=> ?_)));have kp: ∀b o,s'.heap.get? b=some o->h'.get? b=some o:= λb o e=>ik he b o (Heap.get?_push_of_some _ e);rw[show(((sls.map (·.v)).toArray).toList).reverse=sls.reverse.map (·.v) by simp[List.map_reverse]];rcases eb:gv G'.loc (bf X ts).reverse (sls.map (·.mv)).reverse with _|_|l'
 .rw[eb] at K;exact False.elim K
 .exact absurd eb (mN _ _ _)
 .rw[eb] at K;rw[<-List.map_reverse] at eb;exact wpAny_bind (oB O.todR (bf X ts).reverse sls.reverse (l':=l') (s:={s' with heap:=h'}) (λx hx=>tD u z x (List.mem_reverse.mp hx)) eb (λsl a1=>e2 sl (List.mem_reverse.mp a1)) (R'.kept kp) λaI a2 a b c d=>
   wpAny_pure (K .next [] aI Z' a2 ⟨rfl,rfl,a⟩ b (bN.trans (s':={s' with heap:=h'}) ⟨Go.kept kp,rfl,rfl⟩ c) d))
theorem tF(O:lF F X n){k:Nat}(I:bV F (ak k X))(IH: ∀{F:Fix} {X:Cx} {n:Nat},Bf F X n->bV F (ak k X)/\jg F (bT k X))(y:Str)(yp p:Pos){scope:Scope}{x:Str}{px pos:Pos}{elt iter:Expr}{ifs:List Expr}
  (a3:swapsWith (.ListComp elt [⟨.Name x px,iter,ifs,0⟩] scope pos) (some (.Name y yp)) p.line F.env=pure true) (l:Loc):
  bz F X.pin (F.wp (exec (.Assign [.Name y yp] (.ListComp elt [⟨.Name x px,iter,ifs,0⟩] scope pos) p) F.env)) l (if X.pin==some y then .stuck else if isLocal X y then(if !(cF X scope x&&bR scope l) then .stuck else
   aF (ak k X) iter l |>.bind λ(d,l)=>(Res.of (itemsOf d)).bind λitems=>(Res.of (bX scope l)).bind λcl=>
    aR (ak k (X.comp scope)) (bT k (X.comp scope)) cl x ifs elt items |>.bind λds=>.ok (.own (.lst ds),l)) |>.bind λ(v,l)=>.ok (.next,l.set y v) else .stuck):=by
 refine bz.of λG Z s Q E hl R K=>K.not λH K=>K.ite λhy K=> ?_;subst hl;rw[exec_Assign_Name_used _ _ _ _ a3];refine wpAny_bind (wpAny_standAt (wpAny_bind ?_));refine wpAny_bind (Q:= λB s'=>wpAny (model F.prog F.w) F.A (pure ()>>= λB=>pure Flow.next) Q E s') ?_;rcases hc:cF X scope x with _|_
 .rw[hc] at K;exact False.elim K
 .have K:aL F X.pin (WS F.env [] G) G Z s (if !(cF X scope x&&bR scope G.loc) then .stuck else aF (ak k X) iter G.loc |>.bind λ(d,l)=>(Res.of (itemsOf d)).bind λitems=>(Res.of (bX scope l)).bind λcl=>
    aR (ak k (X.comp scope)) (bT k (X.comp scope)) cl x ifs elt items |>.bind λds=>.ok (.next,l.set y (.own (.lst ds)))) Q E:=by
   revert K;rw[Res.jD];simp only[Res.bind_assoc];exact id
  refine rd (P:= λV G Z s r=>aL F X.pin (hJ F.env++V) G Z s r Q E) (fin:= λds l=>.ok (.next,l.set y (.own (.lst ds)))) O.tolS (aL.tc O.hT) I (kB k X) (λR ha kk=>kA O.todR O.sys R ha kk) (λC K=>IH (O.toBf.comp hc K)) R K
   λda C vs kk rs ac Z' s' m a4 R' hm u z h3 h4 K=> ?_
  show wpAny _ _ (assign (.Name y yp) F.env (.ref da)) _ _ _;refine wpAny_assign_Name (ij (sl:=⟨.ref da,.own (.lst rs),[(da,listOf vs.toArray kk)]⟩) (os:=[]) O.todR hy R' (dD.lst a4) λs2 R2 g2 a1=>⟨m,f7 hm λo ho=>⟨o.slots,(a1 C u).trans ho⟩,λbe al=> ?_⟩);have a0:C∉WW [] (ac.set y ⟨.ref da,.own (.lst rs),[(da,listOf vs.toArray kk)]⟩):= λmm=>by
   obtain⟨p,H,e⟩:=List.mem_map.mp mm;refine h3 ?_;obtain⟨p1,p2,ho,am⟩:=jI ac y ⟨.ref da,.own (.lst rs),[(da,listOf vs.toArray kk)]⟩;rw[List.nil_append,ho] at H;rw[<-e];refine List.mem_map_of_mem ?_;simp only[List.mem_append] at H⊢;rcases H with m1|m1|m1
   .exact .inr (am.subset (List.mem_append_left _ m1))
   .rcases List.mem_singleton.mp m1 with rfl;exact .inl (.head _)
   .exact .inr (am.subset (List.mem_append_right _ m1))
  have gV:Go F.T (hJ F.env++(C::WW ((da,listOf vs.toArray kk)::[]) ac)) Z' s'.heap (C::WS F.env [] (ac.set y ⟨.ref da,.own (.lst rs),[(da,listOf vs.toArray kk)]⟩)) Z' s2.heap:=by
   have g3:=g2.toGo.widen (V:=hJ F.env++(C::WW ((da,listOf vs.toArray kk)::[]) ac)) λa m=>(List.mem_append.mp m).elim (λm=>List.mem_append_left _ m) λm=>List.mem_append_right _ (.tail _ m);exact {g3 with dB:= λa m=>(List.mem_cons.mp m).elim (λq=>.inl (q▸List.mem_append_right _ (.head _))) (g3.dB a)}
  exact wpAny_pure (wpAny_pure (K .next [] _ Z' _ ⟨rfl,rfl,GL.dE ..⟩ (R2.other al u z a0 h4) ⟨(gV.less λa m=>.tail _ m).other al (.inl (List.mem_append_right _ (.head _))),g2.os,g2.gens⟩ (bW.set (by simpa using H))))
end
section
variable{F:Fix}{X:Cx}{ev:jG}{tv:lR}{n:Nat}
noncomputable def yP(F:Fix)(E E₁:Value->Shared->Prop):Prop:= ∀V s e s',fJ F false V s e s'->(∀B,fJ F false V s e B->E e B)->E₁ e s'
noncomputable def uZ(F:Fix)(E:Value->Shared->Prop):Value->Shared->Prop:= λe s'=>notedBy (model F.prog F.w) F.A F.env (λe s'=>cameBackBy (model F.prog F.w) F.A F.env E e s') e s'
theorem kF(O:lF F X n)(E:Value->Shared->Prop):yP F E (uZ F E):= λB B B B x k=>yK O.fr x λB u=>BQ O.fr u λB z=>k _ z.un
theorem bz.Dx{pin:Option Str}{J:List Addr}{l:Loc}{W₁:Tr Flow}{r₁:Res (Fl×Loc)}{f:Fl×Loc->Res (Fl×Loc)}{ac Q:Flow->Shared->Prop}{E E₁:Value->Shared->Prop}{G:GL}{Z:ZP}{s:Shared}(am:bz F pin W₁ l r₁)(hT:F.T=F.frames.filterMap (·.frame))(hE:yP F E E₁)(H:G.loc=l)(R:Rel F.Y F.env F.T [] G Z s.heap)
  (K:aL F pin (J++WS F.env [] G) G Z s (r₁.bind f) Q E)
  (k: ∀fl u fw ts O B z,Out F pin fl u fw ts O B->Rel F.Y F.env F.T ts O B z.heap->bN F.T (WS F.env [] G) Z s (WS F.env ts O) B z->aL F pin (J++WS F.env ts O) O B z (f (fl,u)) Q E->ac fw z):W₁ ac E₁ s:=by
 refine am.run H R ?_;rcases r₁ with _|_|p
 .exact K
 .exactλe s' x=>hE _ _ e s' x λan y=>K e an (y.widen λa m=>List.mem_append_right _ m)
 .exactλfw ts G' Z' s' o R' g p'=>k p.1 p.2 fw ts G' Z' s' o R' g (aL.go hT ⟨g.toGo.yM,g.os,g.gens⟩ p' K)
theorem Sn.EB{pin:Option Str}{l:Loc}{W₁:Tr Bool}{r₁:Res (Bool×Loc)}{f:Bool×Loc->Res (Fl×Loc)}{ac:Bool->Shared->Prop}{Q:Flow->Shared->Prop}{E E₁:Value->Shared->Prop}{G:GL}{Z:ZP}{s:Shared}(an:Sn F W₁ l r₁ HB (λB=>True))(hT:F.T=F.frames.filterMap (·.frame))(hE:yP F E E₁)(H:G.loc=l)(R:Rel F.Y F.env F.T [] G Z s.heap)
  (K:aL F pin (WS F.env [] G) G Z s (r₁.bind f) Q E) (k: ∀b am O al z,O.loc=am->Rel F.Y F.env F.T [] O al z.heap->aL F pin (WS F.env [] O) O al z (f (b,am)) Q E->ac b z):W₁ ac E₁ s:=by
 refine an.run trivial H R ?_;rcases r₁ with _|_|p
 .exact K
 .exactλe s' x=>hE _ _ e s' (x.toF.widen (W:=WS F.env [] G) λa m=>List.mem_append_right _ m) (K e)
 .intro a ts G' Z' s' u h2 h3 h4 g;obtain⟨rfl,rfl⟩:=u;exact k _ p.2 G' Z' s' h2 h4 (aL.go hT ⟨g.toGo.toS,g.os,g.gens⟩ (bW.jl h3) K)
theorem yQ(O:lF F X n)(J:jg F tv){pin:Option Str}{xb:List Stmt->Loc->Res (Fl×Loc)}(hb: ∀b l,bz F pin (F.wp (execs b F.env)) l (xb b l))(t:Expr)(b:List Stmt)(p:Pos)(N:Nat)(l:Loc):
  bz F pin (F.wp (exec (.While t b [] p) F.env)) l (bg (tv t) (xb b) N l):=by
 refine bz.of λG Z s Q E H R K=>wpAny_While ?_;subst H;refine codeAny_whileLoop (λk s'=> ∃Gi Zi,Rel F.Y F.env F.T [] Gi Zi s'.heap/\aL F pin (WS F.env [] Gi) Gi Zi s' (bg (tv t) (xb b) k Gi.loc) Q E) ?_ N ⟨G,Z,R,K⟩;rintro k s' ⟨Gi,Zi,Ri,K⟩;rcases k with _|k
 .exact False.elim K
 .unfold bg at K;refine(J t Gi.loc _ rfl).EB (E₁:=uZ F E) O.hT (kF O E) rfl Ri K λc u an ap z H R K=> ?_;rcases c with _|_
  .exact wpAny_execs_nil (K .next [] an ap z ⟨rfl,rfl,H⟩ R bN.refl bW.refl)
  .refine(hb b u).Dx (J:=[]) (E₁:=uZ F E) O.hT (kF O E) H R K λf a1 fw ts ac al s₂ o R B K=> ?_;rcases f with _|mv|_|_
   .obtain⟨rfl,rfl,rfl⟩:=o;exact⟨k,Nat.lt_succ_self _,ac,al,R,K⟩
   .have o':=o;obtain⟨v,rfl,_⟩:=o;exact K (.ret v) ts ac al s₂ o' R bN.refl bW.refl
   .obtain⟨rfl,rfl,H⟩:=o;exact K .next [] ac al s₂ ⟨rfl,rfl,H⟩ R bN.refl bW.refl
   .obtain⟨rfl,rfl,rfl⟩:=o;exact⟨k,Nat.lt_succ_self _,ac,al,R,K⟩
theorem Rel.EC{Y:Lay}{env:Env}{T:List Addr}{os:List (Addr×Obj)}{G:GL}{Z:ZP}{h h':Heap}{C:Addr}(R:Rel Y env T os G Z h)(kp: ∀b o,b∉[C]->h.get? b=some o->h'.get? b=some o)(u:C∉hJ env)(h2:C∉T)(h3:C∉WW os G)(O: ∀o,¬Z C o):Rel Y env T os G Z h':=by
 have g:Go T [C] Z h [] Z h':=⟨λb o e n B=>kp b o n e,λb o e n B=>⟨o.slots,kp b o n e⟩,λB B e=>e,λB B e=>.inl e,λB m=>nomatch m⟩
 have nC: ∀p∈os++G.aT,p.1∉[C]:= λp H m=>h3 (List.mem_singleton.mp m▸List.mem_map_of_mem H);exact R.move g (λa m=>by rw[List.mem_singleton.mp m];exact⟨h2,u⟩) rfl (λp H=>(R.vars p H).2) (λp H=>kp _ _ (nC p H) (R.own p H)) R.nodup (λp H=>.inl (List.mem_map_of_mem H)) (λp H=>(R.b7 p H).2.2)
  (λa o z=>kp a o (λm=>O o (List.mem_singleton.mp m▸z)) (R.Zh a o z))
theorem rk{M:Model}{A:Around}{E:Value->Shared->Prop}{s:Shared}{Q:Unit->Shared->Prop}{t:Expr}{I:Addr}{v:Value}{o:Obj}{nm:String}(O:s.heap.get? I=some o)(B:o.cls= .type nm)(z:lU nm=false)(h:Q () s):
  wpAny M A (letOwnedTupleGo t (.ref I) v) Q E s:=by
 have u: ∀a:Addr,wpAny M A (do
   let o<-load I
   match o.cls,o.data with
    |Value.type n,Data.fields vs=>
     if(["enumerate","zip","dict_itemiterator","dict_reverseitemiterator","odict_iterator","itertools.zip_longest","itertools.pairwise"].contains n&&vs[0]? ==some (rawInt ↑a))=true then do
      rule "for.unpacks-the-owned-tuple"
      updateField I 0 Value.none
     else pure ()
    |_,_=>pure ()) Q E s:= λa=>by
  refine wpAny_bind (wpAny_load O ?_);rw[B];rcases o.data with _|_<;>first|exact wpAny_pure h|skip
  dsimp only;unfold lU at z;rw[z];exact wpAny_pure h
 rcases t with _|_<;>first|exact wpAny_pure h|skip
 .rcases v with _|_<;>first|exact wpAny_pure h|exact u _
 .rcases v with _|_<;>first|exact wpAny_pure h|exact u _
theorem yR(O:lF F X n){xb:List Stmt->Loc->Res (Fl×Loc)}(hb: ∀b l,bz F X.pin (F.wp (execs b F.env)) l (xb b l)){t:Expr}{b:List Stmt}(u:bq X t=true)(h2:pinned X t=false){ds:List D}{I:Addr}{G:GL}{Z:ZP}{s:Shared}{Q:Flow->Shared->Prop}{E:Value->Shared->Prop}{ce:Heap}
  (R:Rel F.Y F.env F.T [] G Z s.heap) (it:Iter F.Y F.prog F.w F.A F.T Z ce ds I s.heap) (c4:I∉WS F.env [] G) (b2:I∉F.T) (c5: ∀o,¬Z I o) (K:aL F X.pin ([I]++WS F.env [] G) G Z s (forL t (xb b) ds G.loc) Q E):
  codeAny (model F.prog F.w) F.A (.forLoop t (.ref I) b [] F.env) (λr s'=>match r with| .ok f=>Q f s'| .error e=>cameBackBy (model F.prog F.w) F.A F.env E e s') s:=by
 obtain⟨fp,P,St,Wk,dt,⟨_,_,b3⟩,c',hP⟩:=it;refine codeAny_forLoop_any (λk s'=> ∃(i:Nat) (Gi:GL) (Zi:ZP),i+k=ds.length+1/\i<=ds.length/\St i s'.heap/\Rel F.Y F.env F.T [] Gi Zi s'.heap/\(∀a o,Z a o->Zi a o)/\I∉WS F.env [] Gi/\(∀o,¬Zi I o)/\aL F X.pin ([I]++WS F.env [] Gi) Gi Zi s' (forL t (xb b) (ds.drop i) Gi.loc) Q E) ?_ (ds.length+1)
  ⟨0,G,Z,by simp+arith only,Nat.zero_le _,dt,R,λB B z=>z,c4,c5,K⟩
 intro k s' q9;refine hide λP9 b9=> ?_;obtain⟨i,Gi,Zi,cd,hi,st,Ri,mi,bd,b5,K⟩:=q9;refine b9 ?_;have c6:I∉WW [] Gi:= λm=>bd (List.mem_append_right _ m);have b4:I∉hJ F.env:= λm=>bd (List.mem_append_left _ m);have a8: ∀{Z':ZP},(∀a o,Zi a o->Z' a o)-> ∀c∈fp,c=I\/ ∃o,Z' c o:= λ{Z'} hm c hc=>(c' c hc).imp id λ⟨o,z⟩=>⟨o,hm c o (mi c o z)⟩
 have an: ∀{ha:Heap} (tk:Nat),(∀c o,c∉[I]->s'.heap.get? c=some o->ha.get? c=some o)->Rel F.Y F.env F.T [] Gi Zi ha/\bN F.T ([I]++WS F.env [] Gi) Zi s' ([I]++WS F.env [] Gi) Zi {s' with heap:=ha,toks:=tk}:= λ{ha} tk kp=>by
  refine⟨Ri.EC kp b4 b2 c6 b5,?_⟩;have ch: ∀c o,s'.heap.get? c=some o->c∉[I]++WS F.env [] Gi->ha.get? c=some o:= λc o e n=>kp c o (λm=>n (List.mem_append_left _ m)) e;exact⟨⟨λc o e n B=>ch c o e n,λc o e n B=>⟨o.slots,ch c o e n⟩,λB B z=>z,λB B z=>.inl z,λB m=>.inl m⟩,rfl,rfl⟩
 by_cases a5:i<ds.length
 case neg=>
  have hn:i=ds.length:=by exact Nat.le_antisymm (aj hi) (aj (Nat.le_of_not_lt a5))
  subst hn;rw[List.drop_length] at K;refine Wk.done s' _ _ st λha tk kp=> ?_;obtain⟨R1,g1⟩:=an tk kp;exact wpAny_execs_nil (K .next [] Gi Zi _ ⟨rfl,rfl,rfl⟩ R1 (g1.less λa m=>List.mem_append_right _ m) bW.refl)
 case pos=>
  refine Wk.item i s' _ _ a5 st λv ha tk c7 cn kp=> ?_;obtain⟨R1,g1⟩:=an tk kp;obtain⟨d,hd,c9⟩:=hP i v c7;have be:ds.drop i=d::ds.drop (i+1):=by
   obtain⟨q1,q2⟩:=List.getElem?_eq_some_iff.mp hd;rw[<-q2];exact List.drop_eq_getElem_cons q1
  rw[be] at K;have K:aL F X.pin ([I]++WS F.env [] Gi) Gi Zi s' ((ay Gi.loc t d).bind λl=>(xb b l).bind λ(f,l)=>match f with
   | .next=>forL t (xb b) (ds.drop (i+1)) l
   | .cont=>forL t (xb b) (ds.drop (i+1)) l
   | .brk=>.ok (.next,l)
   | .ret v=>.ok (.ret v,l)) Q E:=K
  obtain⟨o,ho,nm,hc,b6⟩:=b3 _ _ cn;refine rk (s:=⟨ha,_,_,tk,_⟩) ho hc b6 ?_;rcases et:ay Gi.loc t d with _|_|ci
  .rw[et] at K;exact False.elim K
  .exact absurd et (mL _ _ _)
  .rw[et] at K;refine kD O.todR u h2 (c9.mono mi) et R1 λb1 cs bv a4 a3 cm db=> ?_;have K:=aL.go O.hT (g1.trans ⟨a3.toGo.yM (S:=[I]),a3.os,a3.gens⟩) cm K;have a1:I∉WS F.env [] b1:= λm=>by
    rcases a3.dB I m with q|q
    .exact bd q
    .rw[ho] at q;cases q
   have cr:St (i+1) cs.heap:=kz Wk (Z:=Zi) (a8 λB B z=>z) cn R1.Zh a4.Zh λo' e=>db I o' b4 e;refine(hb b ci).Dx (J:=[I]) (E₁:=uZ F E) O.hT (kF O E) bv a4 K λf d1 fw ts ac am s₂ o a2 a0 K=> ?_;obtain⟨oI,aI,_⟩:=b3 _ _ cr;have again:ts=[]->aL F X.pin ([I]++WS F.env ts ac) ac am s₂ (forL t (xb b) (ds.drop (i+1)) ac.loc) Q E-> ∃m,m<k/\ ∃(i:Nat) (Gi:GL) (Zi:ZP),i+m=ds.length+1/\i<=ds.length/\St i s₂.heap/\Rel F.Y F.env F.T [] Gi Zi s₂.heap/\(∀a o,Z a o->Zi a o)/\I∉WS F.env [] Gi/\(∀o,¬Zi I o)/\aL F X.pin ([I]++WS F.env [] Gi) Gi Zi s₂ (forL t (xb b) (ds.drop i) Gi.loc) Q E:= λa6 K=>by
    subst a6;refine⟨k-1,(iG cd a5).1,i+1,ac,am,(iG cd a5).2,a5,kz Wk (Z:=Zi) (a8 λB B z=>z) cr a4.Zh (λc o z=>a2.Zh c o (a0.mono c o z)) λo e=>a0.keep I o e a1 b2,a2,λa o z=>a0.mono a o (mi a o z),λm=> ?_,λo z=> ?_,K⟩
    .rcases a0.dB I m with q|q
     .exact a1 q
     .rw[aI] at q;cases q
    .rcases a0.pM I o z with q|q|q
     .exact b5 o q
     .rw[aI] at q;cases q
     .exact a1 q
   have gl: ∀{ts},bN F.T ([I]++WS F.env ts ac) am s₂ (WS F.env ts ac) am s₂:= λ{ts}=>bN.less (W':=[I]++WS F.env ts ac) bN.refl λa m=>List.mem_append_right _ m;rcases f with _|mv|_|_
   .obtain⟨rfl,a6,rfl⟩:=o;exact again a6 K
   .have o':=o;obtain⟨v,rfl,_⟩:=o;exact K (.ret v) ts ac am s₂ o' a2 gl bW.refl
   .obtain⟨rfl,rfl,H⟩:=o;exact K .next [] ac am s₂ ⟨rfl,rfl,H⟩ a2 gl bW.refl
   .obtain⟨rfl,a6,rfl⟩:=o;exact again a6 K
end
section
variable{F:Fix}{X:Cx}{ev:jG}{tv:lR}{n:Nat}
theorem rl(O:lF F X n){xb:List Stmt->Loc->Res (Fl×Loc)}(hb: ∀b l,bz F X.pin (F.wp (execs b F.env)) l (xb b l)){t:Expr}{b:List Stmt}(u:bq X t=true)(h2:pinned X t=false){ds:List D}{I:Addr}{G:GL}{Z:ZP}{s s':Shared}{Q:Flow->Shared->Prop}{E:Value->Shared->Prop}
  (R:Rel F.Y F.env F.T [] G Z s.heap) (H:Kp s s') (it:Iter F.Y F.prog F.w F.A F.T Z s.heap ds I s'.heap) (K:aL F X.pin (WS F.env [] G) G Z s (forL t (xb b) ds G.loc) Q E):
  codeAny (model F.prog F.w) F.A (.forLoop t (.ref I) b [] F.env) (λr s'=>match r with| .ok f=>Q f s'| .error e=>cameBackBy (model F.prog F.w) F.A F.env E e s') s':=by
 have am:s.heap.objs.size<=I:=by
  obtain⟨_,_,_,_,_,⟨h,_⟩,_⟩:=it;exact h
 have hI:s.heap.get? I=none:=aK am;have g0:bN F.T (WS F.env [] G) Z s ([I]++WS F.env [] G) Z s':=⟨⟨λb o e B B=>H.get b o e,λb o e B B=>⟨o.slots,H.get b o e⟩,λB B z=>z,λB B z=>.inl z,λa m=>(List.mem_cons.mp m).elim (λq=>.inr (q▸hI)) .inl⟩,H.os,H.gens⟩
 refine yR O hb u h2 (R.kept H.get) it (λm=> ?_) (λm=> ?_) (λo z=> ?_) (aL.go O.hT g0 bW.refl K)
 .rcases List.mem_append.mp m with m|m
  .obtain⟨o,ho⟩:=R.lO m;rw[hI] at ho;cases ho
  .obtain⟨o,ho⟩:=R.uO I m;rw[hI] at ho;cases ho
 .obtain⟨o,es,k,ho,_⟩:=R.cK I m;rw[hI] at ho;cases ho
 .have:=R.Zh _ _ z;rw[hI] at this;cases this
theorem ED(O:lF F X n)(I:bV F ev)(ac: ∀es k p l,ev (.Set es k p) l= .stuck){xb:List Stmt->Loc->Res (Fl×Loc)}(hb: ∀b l,bz F X.pin (F.wp (execs b F.env)) l (xb b l)){t it:Expr}{b:List Stmt}(u:bq X t=true)(z:pinned X t=false)(p:Pos)(l:Loc):
  bz F X.pin (F.wp (exec (.For t it b [] p) F.env)) l (aF ev it l |>.bind λ(d,l)=>(Res.of (itemsOf d)).bind λitems=>forL t (xb b) items l):=by
 refine bz.of λG Z s Q E H R K=> ?_;have am: ∀x,foldedSetIterable it F.env x=pure x:= λx=>by
  rcases it with _|_|_|_|_|_|_|⟨es,k,q⟩|_|_|_|_|_|_|_|_|_|_|_|_|_|_|_|_|_|_|_<;>try(rfl;done)
  .unfold aF at K;rw[ac] at K;exact False.elim K
 refine wpAny_For ((aY I it l).kC O.hT H R K λd an v G Z s hv H R B B K=>K.opt λds ei K=> ?_) am;subst H;exact uU ei O.ao R hv (λI s' kp B hit=>rl O hb u z R kp hit K) λhd ha kk=>kA O.todR O.sys R ha kk
theorem rm{n:Int}(h0:0<=n)(u:n<lim):Builtin.Range.small 0 n 1=true:=by
 have:(lim:Int)=16777216:=rfl;unfold Builtin.Range.small;rw[rangeSize_one];have z:Builtin.Range.rangeFitsLong n=true:=by
  unfold Builtin.Range.rangeFitsLong;simp only[Bool.and_eq_true,decide_eq_true_eq];exact⟨Int.le_trans (by decide) h0,Int.lt_trans u (by decide)⟩
 have H:Builtin.Range.rangeFitsLong (n+(1-1))=true:=by rw[show n+(1-1)=n by(simp+arith only[Int.natCast_add];done)];exact z
 have O:Builtin.Range.rangeFitsLong 0=true:=by decide
 have B:Builtin.Range.rangeFitsLong 1=true:=by decide
 split<;>simp[z,H,O,B]
theorem pW{X:Cx}{z a:Expr}(O:cJ X z=some a): ∃f fp pos,z= .Call (.Name f fp) [a] [] pos/\(X.kind f==some .globalImplicit)=true/\aP [a]=true/\X.glob f=some (.bi .range):=by
 unfold cJ at O;rcases hv:og z with _|r
 .rw[hv] at O;cases O
 .obtain⟨fp,pos,rfl⟩:=oq hv;rw[hv] at O;obtain⟨f,u⟩:=r;dsimp only at O;rcases u with _|⟨b,_|_⟩<;>try(exact af O;done)
  obtain⟨B,O⟩:=js O;rw[Bool.and_eq_true] at B;rcases e:X.glob f with _|(_|_|_|b|_)<;>rw[e] at O<;>try(exact af O;done)
  rcases b with _|_<;>try(exact af O;done)
  obtain rfl:=Option.some.inj O;exact⟨f,fp,pos,rfl,B.1,B.2,e⟩
theorem tG(H:uP F.A){T:List Addr}{Z:ZP}{s:Shared}{m:Int}{tk:Tok}{Q:Value->Shared->Prop}{E:Value->Shared->Prop}(B:0<=m/\m<lim)
  (k: ∀I s',Kp s s'->Iter F.Y F.prog F.w F.A T Z s.heap (bP m.toNat) I s'.heap->Q (.ref I) s'):
  wpAny (model F.prog F.w) F.A (PySem.call (.type "range") [.int m tk]) (λr s₂=>wpAny (model F.prog F.w) F.A (pyIter r) Q E s₂) E s:=by
 refine call_range_1 ?_;refine wpAny_pyIter_range (s:={s with heap:=_,toks:=_}) (IsRange.new ..) (rm B.1 B.2) ?_;refine k _ _ ⟨λc o e=>Heap.get?_push_of_some _ (Heap.get?_push_of_some _ e),rfl,rfl⟩ ?_;have O: ∀o:Obj,s.heap.objs.size<(s.heap.push o).objs.size:= λo=>by rw[Heap.size_push];exact Nat.lt_succ_self _
 generalize al:s.heap.push {cls:=.type "range",data:=.fields #[.int 0 s.toks,.int m tk,.int 1 (s.toks+1)]}=H1 at*;have ac:s.heap.objs.size<H1.objs.size:=by rw[<-al];exact O _
 refine⟨[H1.objs.size],λi v=>i<m.toNat/\ ∃t,v= .int (0+i*1) t,λi h=>IsRangeIter h H1.objs.size (0+(i:Nat)*1) ((m.toNat:Int)-(i:Nat)) 1,?_,?_,⟨Nat.le_of_lt ac,by show H1.objs.size<(H1.push _).objs.size;rw[Heap.size_push];exact Nat.lt_succ_self _,λi h q=>⟨_,q,"range_iterator",rfl,by decide⟩⟩,λc hc=>.inl (by simpa using hc),?_⟩
 .have:=(Walks.range (prog:=F.prog) (w:=F.w) H.handled H1.objs.size 0 1 m.toNat).bound;simpa[bP] using this
 .show IsRangeIter (H1.push _) _ _ _ _;rw[rangeSize_nat];simpa using Heap.get?_push_size _ rfl
 .rintro i u ⟨hi,z,rfl⟩;refine⟨.int (i:Nat),by simp[bP,hi],?_⟩;rw[Int.mul_one,Int.zero_add];exact .int _ _
theorem BW(O:lF F X n)(I:bV F ev){xb:List Stmt->Loc->Res (Fl×Loc)}(hb: ∀b l,bz F X.pin (F.wp (execs b F.env)) l (xb b l)){t it a:Expr}{b:List Stmt}(u:bq X t=true)(z:pinned X t=false)(ha:cJ X it=some a)(p:Pos)(l:Loc):
  bz F X.pin (F.wp (exec (.For t it b [] p) F.env)) l (aF ev a l |>.bind λ(d,l)=>(Res.of (vInt d)).bind λn=>x6 t (xb b) n l):=by
 obtain⟨f,fp,pos,rfl,hk,H,e⟩:=pW ha;refine bz.of λG Z s Q E hl R K=> ?_;obtain⟨v,hv,N⟩:=gA O.todR (eq_of_beq hk) e fp l;subst hv;have he:starEach [a] F.env=(false,eval a F.env)::starEach [] F.env:=by
  have:notStar a=true:=by
   simp only[aP,Bool.and_eq_true,List.all_cons] at H;exact H.2.1
  rcases a with _|_<;>first|rfl|cases this
 refine wpAny_For (wpAny_Call_NameR (N [] G Z s _ E hl R (cw (P:= λB=>True) H (ji (lT .range)) (args_cons ((aY I a l).kC O.hT hl R K λd aI v G Z s hv hl R B B K0=>args_nil ⟨trivial,K0.opt λm em K1=>aL.ite K1 λhm K2=> ?_⟩) he)))) λB=>rfl;clear K K0 K1;obtain rfl:=aD em;replace hv:=hv.cT;obtain⟨_,rfl⟩:=hv;subst hl;exact tG O.ao hm λI s' kp it=>rl O hb u z R kp it K2
end
noncomputable def fills(S:List (Str×Value)):List (Str×Value)->List (Str×Value)
 |[]=>S
 |p::r=>fills (if(S.lookup p.1).isNone then S++[p] else S) r
theorem yS{M:Model}{A:Around}{E:Value->Shared->Prop}{s:Shared}: ∀(L S:List (Str×Value)) {Q:List (Str×Value)->Shared->Prop},Q (fills S L) s->wpAny M A (forIn L S λx z=>if(List.lookup x.fst z).isNone=true then(pure (ForInStep.yield (z++[(x.fst,x.snd)])):Sem (ForInStep (List (Str×Value)))) else pure (ForInStep.yield z)) Q E s:=by
 intro X;induction X with
 |nil=>
  intro S Q h;exact wpAny_pure h
 |cons p L u=>
  intro S Q h;rw[List.forIn_cons];unfold fills at h;by_cases c:(List.lookup p.1 S).isNone=true
  .rw[if_pos c] at h⊢;exact wpAny_bind (wpAny_pure (u _ h))
  .rw[if_neg c] at h⊢;exact wpAny_bind (wpAny_pure (u _ h))
theorem wk{s:Shared}{fd:FuncData}{vals dv:List Value}{names:List Str}{r:Option (Array Value)}(u:fd.params.posonlyargs=[])(z:fd.params.kwonlyargs=[])(X:fd.params.vararg=none)(O:fd.params.kwarg=none)(hn:fd.params.args.map (·.arg)=names)
  (hr: ∀(M:Model) (A:Around) (E:Value->Shared->Prop) (Q:Option (Array Value)->Shared->Prop),Q r s->wpAny M A (seqItems? fd.defaults) Q E s) (B:(r.getD #[]).toList=dv) (hk:vals.length<=names.length)
  (ac:(names.take (names.length-(dv.drop (dv.length-names.length)).length)).filter (λn=>(List.lookup n (names.zip vals)).isNone)=[]):
  BindsTo s fd ⟨vals,[]⟩ (names.filterMap λn=>(List.lookup n (fills (names.zip vals) ((names.drop (names.length-(dv.drop (dv.length-names.length)).length)).zip (dv.drop (dv.length-names.length))))).map (n,·)):=by
 obtain⟨H,a2,ps,a4,a5,a6,a7,a8,a9,b1,b2,b3,b4,b5,b6⟩:=fd;obtain⟨po,as,va,Hi,kd,Hj,de⟩:=ps;replace u:po=[]:=u;replace z:Hi=[]:=z;replace X:va=none:=X;replace O:Hj=none:=O;replace hn:as.map (·.arg)=names:=hn;subst u z X O;intro M A E Q hq;refine wpAny_bind (wpAny_pure ?_);rw[hn];refine wpAny_bind (hr _ _ _ _ ?_);rw[B];rw[if_neg (show ¬((decide (vals.length>names.length)&&Option.isNone (none:Option Arg))=true) from by simp;exact aj hk)];rw[if_neg (show ¬((!(List.filter (λn=>(List.lookup n (names.zip vals)).isNone) (List.take (names.length-(List.drop (dv.length-names.length) dv).length) names)).isEmpty)=true) from by rw[ac];simp)];refine wpAny_bind (yS _ _ ?_);refine wpAny_bind (wpAny_pure (wpAny_pure ?_));show Q (List.filterMap _ (names++[])) s;rw[List.append_nil];exact hq
theorem mO{S:List (Str×Value)}: ∀{u z:List (Str×Value)},(∀p∈u,(S.lookup p.1).isNone=false)->fills S (u++z)=fills S z
 |[],_,_=>rfl
 |p::u,z,h=>by
  show fills (if(S.lookup p.1).isNone then S++[p] else S) (u++z)=_;rw[h p (.head _)];exact mO λq hq=>h q (.tail _ hq)
theorem g8{x:Str}: ∀{S:List (Str×Value)},x∉S.map (·.1)->S.lookup x=none
 |[],_=>rfl
 |(y,v)::S,h=>by
  simp only[List.map_cons,List.mem_cons,not_or] at h;simp only[List.lookup_cons];rw[show(x==y)=false from by simpa using h.1];exact g8 h.2
theorem fe{x:Str}: ∀{S:List (Str×Value)},x∈S.map (·.1)->(S.lookup x).isNone=false
 |(y,v)::S,h=>by
  simp only[List.lookup_cons];by_cases q:x=y
  .subst q;simp
  .rw[show(x==y)=false from by simpa using q];exact fe (by simpa[q] using h)
theorem oD: ∀{L S:List (Str×Value)},(L.map (·.1)).Nodup->(∀p∈L,p.1∉S.map (·.1))->fills S L=S++L
 |[],S,_,_=>by simp[fills]
 |p::L,S,z,h=>by
  simp only[List.map_cons,List.nodup_cons] at z;show fills (if(S.lookup p.1).isNone then S++[p] else S) L=_;rw[g8 (h p (.head _))];simp only[Option.isNone_none,if_true];rewrite[oD z.2 λq hq m=> ?_]
  .simp
  .simp only[List.map_append,List.map_cons,List.map_nil,List.mem_append,List.mem_singleton] at m;rcases m with m|m
   .exact h q (.tail _ hq) m
   .exact z.1 (m▸List.mem_map_of_mem hq)
theorem n0{S:List (Str×Value)}{names:List Str}: ∀{vs:List Value},names.length=vs.length->(∀p∈names.zip vs,S.lookup p.1=some p.2)->names.filterMap (λn=>(List.lookup n S).map (n,·))=names.zip vs:=by
 induction names with
 |nil=>exactλB B=>rfl
 |cons x names z=>
  intro vs u h;rcases vs with _|⟨v,vs⟩
  .exact nomatch u
  rw[List.filterMap_cons,h (x,v) (.head _)];exact congrArg ((x,v):: ·) (z (Nat.succ.inj u) λp H=>h p (.tail _ H))
theorem tH{x:Str}{v:Value}{S:List (Str×Value)}(z:(S.map (·.1)).Nodup)(h:(x,v)∈S):S.lookup x=some v:=bF z h
theorem pX: ∀(a:List Str) (b:List Value),(a.zip b).map (·.1)=a.take b.length
 |[],_=>by simp
 |_::_,[]=>by simp
 |x::a,y::b=>by simp[pX a b]
theorem rn: ∀(n:Nat) (a:List Str) (b:List Value),(a.zip b).drop n=(a.drop n).zip (b.drop n)
 |0,_,_=>rfl
 |_+1,[],_=>by simp
 |_+1,_::_,[]=>by simp
 |n+1,x::a,y::b=>by simp[rn n a b]
theorem ro: ∀(n:Nat) (a:List Str) (b:List Value),(a.zip b).take n=(a.take n).zip (b.take n)
 |0,_,_=>by simp
 |_+1,[],_=>by simp
 |_+1,_::_,[]=>by simp
 |n+1,x::a,y::b=>by simp[ro n a b]
theorem u0: ∀(a:List Str) (vs ws:List Value),vs.length<=a.length->a.zip (vs++ws)=a.zip vs++(a.drop vs.length).zip ws
 |_,[],_,_=>by simp
 |[],_::_,_,h=>by simp at h
 |x::a,v::vs,ws,h=>by simp[u0 a vs ws (by simpa using h)]
theorem lx{s:Shared}{fd:FuncData}{vals dv:List Value}{names:List Str}{r:Option (Array Value)}(u:fd.params.posonlyargs=[])(z:fd.params.kwonlyargs=[])(X:fd.params.vararg=none)(O:fd.params.kwarg=none)(hn:fd.params.args.map (·.arg)=names)
  (hr: ∀(M:Model) (A:Around) (E:Value->Shared->Prop) (Q:Option (Array Value)->Shared->Prop),Q r s->wpAny M A (seqItems? fd.defaults) Q E s) (a2:(r.getD #[]).toList=dv) (aI:names.Nodup) (hk:vals.length<=names.length) (am:names.length<=vals.length+dv.length) (hq:dv.length<=names.length):
  BindsTo s fd ⟨vals,[]⟩ (names.zip (vals++dv.drop (dv.length-(names.length-vals.length)))):=by
 have e0:dv.drop (dv.length-names.length)=dv:=by rw[Nat.sub_eq_zero_of_le hq];rfl
 have ac: ∀{a:List Str} {b:List Value},b.length<=a.length->(a.zip b).map (·.1)=a.take b.length:= λ{a b} _=>pX a b;have hS:(names.zip vals).map (·.1)=names.take vals.length:=ac hk;have an:=wk (s:=s) (fd:=fd) (vals:=vals) (dv:=dv) (names:=names) u z X O hn hr a2 hk (by
  rw[e0,List.filter_eq_nil_iff];intro n a3;have:n∈(names.zip vals).map (·.1):=by
   rw[hS];exact(List.take_subset_take_left names (Nat.sub_le_iff_le_add.mpr am)) a3
  rw[fe this];simp)
 rw[e0] at an;have B:names.length=(vals++dv.drop (dv.length-(names.length-vals.length))).length:=by rw[List.length_append,List.length_drop];exact(xU hk am).symm
 have hL:(names.drop (names.length-dv.length)).zip dv=((names.drop (names.length-dv.length)).zip dv).take (vals.length-(names.length-dv.length))++(names.drop vals.length).zip (dv.drop (dv.length-(names.length-vals.length))):=by
  conv=>lhs;rw[<-List.take_append_drop (vals.length-(names.length-dv.length)) ((names.drop (names.length-dv.length)).zip dv)]
  congr 1;rw[rn,List.drop_drop];rw[Kb am,KN hk hq]
 have ap:fills (names.zip vals) ((names.drop (names.length-dv.length)).zip dv)=names.zip (vals++dv.drop (dv.length-(names.length-vals.length))):=by
  rw[hL,mO,oD]
  .exact(u0 names vals _ hk).symm
  .rw[ac (by simp;exact Nat.sub_le_iff_le_add'.mp (Nat.le_refl _))];exact(aI.sublist (List.drop_sublist _ _)).sublist (List.take_sublist _ _)
  .intro p H m;rw[hS] at m;have al:p.1∈names.drop vals.length:=(List.of_mem_zip (a:=p.1) (b:=p.2) H).1;have:=aI;rw[<-List.take_append_drop vals.length names,List.nodup_append] at this;exact this.2.2 _ m _ al rfl
  .intro p H;refine fe ?_;rw[hS];rw[ro] at H;have al:p.1∈(names.drop (names.length-dv.length)).take (vals.length-(names.length-dv.length)):=(List.of_mem_zip (a:=p.1) (b:=p.2) H).1;rw[List.take_drop] at al;have e:names.length-dv.length+(vals.length-(names.length-dv.length))=vals.length:=Kb am;rw[e] at al;exact List.mem_of_mem_drop al
 rw[ap] at an;rw[n0 B λp H=>tH (by rw[ac (by exact aj (Nat.le_of_eq (Eq.symm B)))];exact aI.sublist (List.take_sublist _ _)) H] at an;exact an
structure FnAt(Y:Lay)(i:Nat)(f:Fd)(o:Obj)(d:FuncData):Prop where
 at_:Y.base.get? (Y.fa i)=some o
 data:o.data= .func d
 body:d.body= .stmts f.body
 scope:d.scope=f.scope
 globals:d.globals=mainGlobals
 builtins:d.builtins=builtinsNs
 closure:d.closure=[]
 code:Y.base.CodeRec d.code d.qualname
 co:f.scope.isCoroutine=false
 gen:f.scope.isGenerator=false
 kind:f.scope.kind= .function
 pos:d.params.posonlyargs=[]
 Hi:d.params.kwonlyargs=[]
 var:d.params.vararg=none
 Hj:d.params.kwarg=none
 names:d.params.args.map (·.arg)=f.params
 nodup:f.params.Nodup
 pY:(f.scope.names.map (·.1)).Nodup
 G_:f.scope.names.lookup ("__debug__":Str)=none
 locals: ∀x∈f.params,f.scope.names.lookup x=some .local\/f.scope.names.lookup x=some .cell
 KV:f.defaults.length<=f.params.length
 dflt: ∃(r:Option (Array Value)) (dv:List Value),(∀s:Shared,Y.base.StaysIn s.heap-> ∀(M:Model) (A:Around) (E:Value->Shared->Prop) (Q:Option (Array Value)->Shared->Prop),Q r s->wpAny M A (seqItems? d.defaults) Q E s)/\(r.getD #[]).toList=dv/\aO Y (λa o=>Y.base.get? a=some o) dv f.defaults
theorem jM{kindOf:Str->Option NameKind}: ∀{H:List (Str×Value)} {m:Str->Option Value} {x:Str} {v:Value},(H.map (·.1)).Nodup->(x,v)∈H->kindOf x=some .local->bindL kindOf H m x=some v:=by
 have keep: ∀{H:List (Str×Value)} {m:Str->Option Value} {x:Str},x∉H.map (·.1)->bindL kindOf H m x=m x:=by
  intro H;induction H with
  |nil=>intro m x _;rfl
  |cons p r B=>
   intro m x h;obtain⟨y,u⟩:=p;simp only[List.map_cons,List.mem_cons,not_or] at h;unfold bindL;rw[B h.2];split
   .simp[h.1]
   .rfl
 intro H;induction H with
 |nil=>intro m x v _ h _;cases h
 |cons p r B=>
  intro m x v z h O;simp only[List.map_cons,List.nodup_cons] at z;rcases List.mem_cons.mp h with rfl|h
  .unfold bindL;rw[keep z.1,if_pos O];simp
  .unfold bindL;exact B z.2 h O
theorem yT{kindOf:Str->Option NameKind}: ∀{H:List (Str×Value)} {m:Str->Option Value} {x:Str} {v:Value},(H.map (·.1)).Nodup->(x,v)∈H->kindOf x=some .cell->bindC kindOf H m x=some v:=by
 have keep: ∀{H:List (Str×Value)} {m:Str->Option Value} {x:Str},x∉H.map (·.1)->bindC kindOf H m x=m x:=by
  intro H;induction H with
  |nil=>intro m x _;rfl
  |cons p r B=>
   intro m x h;obtain⟨y,u⟩:=p;simp only[List.map_cons,List.mem_cons,not_or] at h;unfold bindC;rw[B h.2];split
   .rfl
   .simp[h.1]
 intro H;induction H with
 |nil=>intro m x v _ h _;cases h
 |cons p r B=>
  intro m x v z h O;simp only[List.map_cons,List.nodup_cons] at z;rcases List.mem_cons.mp h with rfl|h
  .unfold bindC;rw[keep z.1,if_neg (by rw[O];intro q;cases q)];simp
  .unfold bindC;exact B z.2 h O
theorem fK{x:Str}{c:Addr}: ∀{ns:List (Str×NameKind)} {n:Nat} {acc:List (Str×Addr)},(x,c)∈acc->(x,c)∈cellsFrom n ns acc
 |[],_,_,h=>h
 |(y,k)::r,n,acc,h=>by
  unfold cellsFrom;split
  .exact fK (.tail _ h)
  .exact fK h
theorem dm{x:Str}: ∀{ns:List (Str×NameKind)} {n:Nat} {acc:List (Str×Addr)},(x,.cell)∈ns-> ∃c,(x,c)∈cellsFrom n ns acc
 |(y,k)::r,n,acc,h=>by
  unfold cellsFrom;rcases List.mem_cons.mp h with e|h
  .obtain⟨rfl,rfl⟩:=Prod.mk.inj e;simp only[beq_self_eq_true,if_true];exact⟨n,fK (.head _)⟩
  .split
   .exact dm h
   .exact dm h
theorem c0: ∀{ns:List (Str×NameKind)} {n:Nat} {acc:List (Str×Addr)},(ns.map (·.1)).Nodup->(acc.map (·.1)).Nodup->(∀p∈ns,p.1∉acc.map (·.1))->((cellsFrom n ns acc).map (·.1)).Nodup
 |[],_,_,_,h,_=>h
 |(x,k)::r,n,acc,z,O,hd=>by
  simp only[List.map_cons,List.nodup_cons] at z;unfold cellsFrom;split
  .refine c0 z.2 (by simp only[List.map_cons,List.nodup_cons];exact⟨hd _ (.head _),O⟩) λp H m=> ?_;rcases List.mem_cons.mp m with e|m
   .have e:p.1=x:=e;exact z.1 (e▸List.mem_map_of_mem (f:=(·.1)) H)
   .exact hd p (.tail _ H) m
  .exact c0 z.2 O λp H=>hd p (.tail _ H)
theorem wm{Y:Lay}{T:List Addr}{W:List (Addr×Obj)}{Z:ZP}{s a0:Shared}{f:Fd}{d:FuncData}{o:Obj}{i:Nat}{G₀:GL}{ac:List (Str×Value)}(H:HR Y T W Z s.heap)(Fn:FnAt Y i f o d)
  (hG:G₀.vals=ac) (hk:ac.map (·.1)=f.params) (O:G₀.aT=W) (hs: ∀p∈G₀,b_ Y Z p.2)
  (x:InCallC s (callEnvC d s.heap.objs.size (Y.fa i)).locals (bindL (callEnvC d s.heap.objs.size (Y.fa i)).kindOf ac λB=>none) (callEnvC d s.heap.objs.size (Y.fa i)).cells (bindC (callEnvC d s.heap.objs.size (Y.fa i)).kindOf ac λB=>none) a0):
  Rel Y (callEnvC d s.heap.objs.size (Y.fa i)) (s.heap.objs.size::T) [] G₀ Z a0.heap:=by
 have ap: ∀y,(callEnvC d s.heap.objs.size (Y.fa i)).kindOf y=f.scope.names.lookup y:= λy=>by rw[<-Fn.scope];rfl
 have hL:(callEnvC d s.heap.objs.size (Y.fa i)).locals=s.heap.objs.size:=rfl;have kp:=x.toInCall.keep;have fresh:s.heap.get? s.heap.objs.size=none:=aK (Nat.le_refl _);have nL: ∀{a o},s.heap.get? a=some o->a≠s.heap.objs.size:= λ{a o} e q=>by rw[q,fresh] at e;cases e
 have am: ∀p∈(callEnvC d s.heap.objs.size (Y.fa i)).cells,s.heap.objs.size<p.2:= λp hp=>x.above p.1 p.2 hp;have aI: ∀{a o},s.heap.get? a=some o->a∉hJ (callEnvC d s.heap.objs.size (Y.fa i)):= λ{a o} e m=>by
  rcases List.mem_cons.mp m with m|m
  .exact nL e (m.trans hL)
  .obtain⟨p,hp,q⟩:=List.mem_map.mp m;have:=am p hp;rw[q] at this;exact absurd (Heap.lt_size e) (Nat.not_lt.mpr (Nat.le_of_lt this))
 have a2:((callEnvC d s.heap.objs.size (Y.fa i)).cells.map (·.1)).Nodup:=c0 (by rw[Fn.scope];exact Fn.pY) (by simp) (λB B m=>nomatch m);have a5: ∀p∈(callEnvC d s.heap.objs.size (Y.fa i)).cells,(callEnvC d s.heap.objs.size (Y.fa i)).cells.lookup p.1=some p.2:= λp hp=>bF a2 (by exact hp);have an:G₀.map (·.1)=f.params:=by rw[<-hk,<-hG];simp[GL.vals]
 have own: ∀p∈[]++G₀.aT,p∈W:= λp hp=>by rw[List.nil_append,O] at hp;exact hp
 refine⟨⟨_,x.toInCall.ns⟩,λp hp=>⟨_,x.cell p.1 p.2 (a5 p hp)⟩,λp hp=>⟨?_,hs p hp⟩,λp hp=>kp _ _ (H.own p (own p hp)),by rw[List.nil_append,O];exact H.nodup,λp hp=> ?_,λa o z=>kp a o (H.Zh a o z),λa o z=> ?_,H.Zb,λp hp m=> ?_,λb X=> ?_,by rw[an];exact Fn.nodup⟩
 .have hm:(p.1,p.2.v)∈ac:=hG▸mw hp;have a4:p.1∈f.params:=an▸List.mem_map_of_mem hp;have a3:(ac.map (·.1)).Nodup:=by rw[hk];exact Fn.nodup
  rcases Fn.locals p.1 a4 with q|q
  .exact .inl ⟨by rw[ap,q],_,x.toInCall.ns,jM a3 hm (by rw[ap,q])⟩
  .obtain⟨c,hc⟩:=dm (n:=s.heap.objs.size+1) (acc:=[]) (lookup_mem q);have a7:(p.1,c)∈(callEnvC d s.heap.objs.size (Y.fa i)).cells:=by
    show _∈cellsFrom _ d.scope.names [];rw[Fn.scope];exact hc
   have hl:=a5 _ a7;refine .inr ⟨by rw[ap,q],c,hl,?_⟩;have:=x.cell p.1 c hl
   rwa [yT a3 hm (by rw[ap,q])] at this
 .have u:=H.own p (own p hp);refine⟨λm=> ?_,aI u,(H.b7 p (own p hp)).2⟩;rcases List.mem_cons.mp m with m|m
  .exact nL u m
  .exact(H.b7 p (own p hp)).1 m
 .have u:=H.Zh a o z;refine⟨λm=> ?_,aI u⟩;rcases List.mem_cons.mp m with m|m
  .exact nL u m
  .exact H.ZT a o z m
 .rcases List.mem_cons.mp m with m|m
  .have:=am p hp;rw[m] at this;exact Nat.lt_irrefl _ this
  .obtain⟨o,es,k,O,_⟩:=H.cK _ m;have:=am p hp;exact absurd (Heap.lt_size O) (Nat.not_lt.mpr (Nat.le_of_lt this))
 .rcases List.mem_cons.mp X with rfl|X
  .obtain⟨o,es,ep,u,h2,_⟩:=x.toInCall.ns;exact⟨o,es,ep,u,h2⟩
  .obtain⟨o,es,k,u,h2⟩:=H.cK b X;exact⟨o,es,k,kp b o u,h2⟩
theorem wo{Y:Lay}{s z:Shared}{f:Fd}{d:FuncData}{o:Obj}{i:Nat}{m cm:Str->Option Value}(X:Y.base.objs.size<=s.heap.objs.size)(Fn:FnAt Y i f o d)
  (x:InCallC s (callEnvC d s.heap.objs.size (Y.fa i)).locals m (callEnvC d s.heap.objs.size (Y.fa i)).cells cm z):qO Y (callEnvC d s.heap.objs.size (Y.fa i)):=by
 have am: ∀y,(callEnvC d s.heap.objs.size (Y.fa i)).kindOf y=f.scope.names.lookup y:= λy=>by rw[<-Fn.scope];rfl
 have al:((callEnvC d s.heap.objs.size (Y.fa i)).cells.map (·.1)).Nodup:=c0 (by rw[Fn.scope];exact Fn.pY) (by simp) (λB B m=>nomatch m);refine⟨by show d.scope.kind=_;rw[Fn.scope];exact Fn.kind,Fn.globals,Fn.builtins,List.nodup_cons.mpr ⟨λm=> ?_,?_⟩,X,λp H=> ?_,λy O=> ?_⟩
 .obtain⟨p,H,q⟩:=List.mem_map.mp m;have:=x.above p.1 p.2 H;rw[q] at this;exact Nat.lt_irrefl _ this
 .have:=x.apart;rw[List.nodup_iff_pairwise_ne,List.pairwise_map];exact this
 .exact Nat.le_trans X (Nat.le_of_lt (x.above p.1 p.2 H))
 .rw[am] at O;obtain⟨c,hc⟩:=dm (n:=s.heap.objs.size+1) (acc:=[]) (lookup_mem O);have u:(y,c)∈(callEnvC d s.heap.objs.size (Y.fa i)).cells:=by
   show _∈cellsFrom _ d.scope.names [];rw[Fn.scope];exact hc
  rw[bF al u];rfl
section
variable{F:Fix}{X:Cx}{ev:jG}{tv:lR}{n:Nat}
structure lG where
 nm:Str
 q:Str
 N:Addr
 bs:List Value
 bm:List Value
 hd:Bool
 sn:List Str
 sub:List Value
 ab:Bool
 col:Option Bool
 dd:Option Addr
 k0:Option Value
 k1:Option Value
 k2:Option Value
 k3:Option Value
 k5:Option Value
 nw:String
noncomputable abbrev lG.obj(p:lG)(C:Addr):Obj:=excClassObj p.nm p.q C p.N p.bs p.bm p.hd p.sn p.sub p.ab p.col p.dd p.k0 p.k1 p.k2 p.k3 p.k5 p.nw
noncomputable def cX(B:Addr):List Value:=[.ref B,.type "Exception",.type "BaseException",.type "object"]
noncomputable abbrev dF(p:lG)(C B:Addr):Obj:=excClassObj p.nm p.q C p.N p.bs (cX B) true p.sn p.sub p.ab p.col p.dd p.k0 p.k1 p.k2 p.k3 p.k5 "Exception.__new__"
noncomputable def mP(C t:Addr)(u:Option Addr):Obj:={cls:=.ref C,dict:=u,data:=.fields #[.ref t,.none,.none,.none,.bool false,.none]}
noncomputable def Dy(Y:Lay):Prop:= ∃p:lG,Y.base.get? Y.wf=some (p.obj Y.wf)/\p.bm.contains (.type "BaseException")=true
structure u1(Y:Lay)(h h':Heap)(e:Addr):Prop where
 keep: ∀b o,h.get? b=some o->h'.get? b=some o
 new:h.get? e=none
 obj: ∃t dx,h'.get? e=some (mP Y.wf t (some dx))
structure XR(F:Fix)(X:Cx):Prop where
 glob: ∀C,X.glob "WordFault"=some (.exc C)->F.Y.ca C=F.Y.wf
 obj:Dy F.Y
 keep:keepIn F.Y.K (.ref F.Y.wf)=true
 make: ∀{E:Value->Shared->Prop} {s:Shared} {Q:Value->Shared->Prop} {vs:List Value},F.Y.base.StaysIn s.heap->vs.length=2->(∀h' tk e,u1 F.Y s.heap h' e->Q (.ref e) {s with heap:=h',toks:=tk})->wpAny (model F.prog F.w) F.A (PySem.call (.ref F.Y.wf) vs) Q E s
theorem tI{M:Model}{A:Around}{E:Value->Shared->Prop}{env:Env}{p:lG}{C:Addr}{s:Shared}{x:Sem Value}{Q:Flow->Shared->Prop}(ac:p.bm.contains (.type "BaseException")=true)(hh:A.handled=none)
  (h:wpAny M A x (λv z=> ∃e t dx,v= .ref e/\z.heap.get? C=some (p.obj C)/\z.heap.get? e=some (mP C t (some dx))/\E (.ref e) z) E s):
  wpAny M A (raiseStmt env (some x) none) Q E s:=by
 have am:(Value.ref C::p.bm).contains (.type "BaseException")=true:=by rw[List.contains_cons,ac,Bool.or_true]
 unfold raiseStmt;refine wpAny_bind (wpAny_mono h (λv z al=> ?_) λB B x=>x);refine hide λu O=> ?_;obtain⟨e,t,dx,rfl,hC,he,hE⟩:=al;obtain⟨H,g,d,tk,os⟩:=z;refine O ?_;unfold mP at he
 repeat (first|with_reducible refine wpAny_loadPart_at he ?_ |with_reducible refine wpAny_loadPart_at hC ?_ |(with_reducible refine wpAny_isSubtype_exc hC ?_;rw[am])|wp_step)
 exact wpAny_raiseNew_none hh hE
theorem jN{h B:Heap}: ∀{fr:List Env},(∀env∈fr,env.scope.kind≠.module/\ ∃L,env.frame=some L/\B.get? L=none/\ ∃o es n,h.get? L=some o/\o.data= .dict es n)->h.FunFrames B fr
 |[],_=>trivial
 |env::fr,H=>by
  refine hide λP9 b9=> ?_;obtain⟨u,L,z,h3,o,es,n,O,h5⟩:=H env (.head _);refine b9 ?_;exact⟨u,⟨L,o,z,h3,O,λvs q=>by rw[h5] at q;cases q⟩,jN λe he=>H e (.tail _ he)⟩
theorem mQ: ∀{es:List Expr} {l:Loc} {r:List D×Loc},bu ev es l= .ok r->r.1.length=es.length
 |[],l,r,e=>by cases e;rfl
 |e::es,l,r,h=>by
  unfold bu at h;rcases h1:ev e l with _|_|u
  .rw[h1] at h;cases h
  .rw[h1] at h;cases h
  .rw[h1] at h;simp only[Res.bind] at h;rcases h2:bu ev es u.2 with _|_|v
   .rw[h2] at h;cases h
   .rw[h2] at h;cases h
   .rw[h2] at h;cases h;simp[mQ h2]
theorem yU(O:lF F X n){G:GL}{Z:ZP}{s:Shared}(R:Rel F.Y F.env F.T [] G Z s.heap){h':Heap}{tk:Tok}{e:Addr}(m:u1 F.Y s.heap h' e):fJ F false (WS F.env [] G) s (.ref e) {s with heap:=h',toks:=tk}:=by
 refine hide λP9 b9=> ?_;obtain⟨kp,an,t,dx,he⟩:=m;refine b9 ?_;refine⟨e,.ref t,hideAll s.heap (WS F.env [] G++F.frames.filterMap (·.frame)),rfl,λb o hb=> ?_,λb o hb nf=> ?_,.inr ⟨rfl,.inr ⟨λb o hb=>kp b o (of_hideAll _ hb),?_,?_,_,_,he,rfl,rfl,rfl,rfl⟩⟩,λb o hb B=>⟨o.slots,kp b o (of_hideAll _ hb)⟩,rfl,rfl⟩
 .refine hideAll_get _ (R.stays b o hb) λm=> ?_;have hz:=R.Zb b o hb;rcases List.mem_append.mp m with m|m
  .rcases List.mem_append.mp m with m|m
   .exact(R.ZT b o hz).2 m
   .obtain⟨p,H,e⟩:=List.mem_map.mp m;exact(R.b7 p H).2.2 o (e▸hz)
  .exact(R.ZT b o hz).1 (by rw[O.hT];exact m)
 .refine hideAll_get _ (of_hideAll _ hb) λm=> ?_;rcases List.mem_append.mp m with m|m
  .rw[hideAll_none _ m] at hb;cases hb
  .exact nf m
 .rcases q:(hideAll s.heap (WS F.env [] G++F.frames.filterMap (·.frame))).get? e with _|o
  .rfl
  .rw[of_hideAll _ q] at an;cases an
 .refine jN λenv cu=> ?_;refine hide λP9 b9=> ?_;obtain⟨u,L,z,_⟩:=O.fs.each env cu;refine b9 ?_;have am:L∈F.frames.filterMap (·.frame):=List.mem_filterMap.mpr ⟨env,cu,z⟩;refine hide λP9 b9=> ?_;obtain⟨o,es,m,h3,h4⟩:=R.cK L (by rw[O.hT];exact am);refine b9 ?_;exact⟨u,L,z,hideAll_none _ (List.mem_append_right _ am),o,es,m,kp _ _ h3,h4⟩
theorem mR{o:Option GV}(h:ku o=true): ∃C,o=some (.exc C):=by
 unfold ku at h;split at h
 .exact⟨_,rfl⟩
 .cases h
theorem yV(O:lF F X n)(XR:XR F X)(I:bV F ev)(dZ: ∀e p l,ev (.Starred e p) l= .stuck)(c:Str)(np ac pos:Pos)(u:List Expr)(l:Loc):
  bz F X.pin (F.wp (exec (.Raise (some (.Call (.Name c np) u [] ac)) none pos) F.env)) l (if c="WordFault"&&X.kind c==some NameKind.globalImplicit&&ku (X.glob c)&&aP u&&u.length==2 then bu ev u l |>.bind λB=>.exc else .stuck):=by
 refine bz.of λG Z s Q E hl R K=>K.ite λhc K1=> ?_;clear K;simp only[Bool.and_eq_true,decide_eq_true_eq] at hc;refine hide λP9 b9=> ?_;obtain⟨⟨⟨⟨rfl,hk⟩,hg⟩,H⟩,an⟩:=hc;obtain⟨C,e⟩:=mR hg;obtain⟨p,hC,al⟩:=XR.obj;obtain⟨v,hv,Nn⟩:=gA O.todR (eq_of_beq hk) e np l;refine b9 ?_;have hv:v= .ref F.Y.wf:=by rw[show v= .ref (F.Y.ca C) from hv,XR.glob C e]
 subst hv;have K:aL F X.pin (WS F.env [] G) G Z s ((bu ev u l).bind λr=>if r.1.length=u.length then .exc else .stuck) Q E:=by
  rcases er:bu ev u l with _|_|r
  .rw[er] at K1;exact K1
  .rw[er] at K1;exact K1
  .rw[er] at K1;simp only[Res.bind,mQ er,if_true];exact K1
 rw[arm_exec_Raise];refine wpAny_bind (wpAny_standAt ?_);simp only[evalOpt,Option.map];refine tI (p:=p) (C:=F.Y.wf) al O.ao.handled (wpAny_bind (wpAny_Call_NameR (Nn [] G Z s _ E hl R (cw H (keeps_K XR.keep) ((eI O.todR I dZ ac u l).lu O.hT hl R K λds a6 vs ts a3 a4 z hH hl R B B K=>aL.ite K λhn K=> ?_)))));obtain⟨aI,rfl⟩:=hH;refine⟨O.lQ.keeps R.stays,XR.make R.stays (show vs.length=2 by rw[aI.1,hn];exact eq_of_beq an) λh' tk e hm=>wpAny_bind (wpAny_standAt (wpAny_pure ?_))⟩;have hx:=K _ _ (yU O R (tk:=tk) hm);refine hide λP9 b9=> ?_;obtain⟨t,dx,he⟩:=hm.obj;refine b9 ?_;exact⟨e,t,dx,rfl,hm.keep _ _ (R.stays _ _ hC),he,hx⟩
theorem Hk{G:GL}{Y:Lay}{Z:ZP}(hs: ∀p∈G,b_ Y Z p.2)(h:(G.loc.all λp=>match p.2 with| .d _=>true| .own _=>false)=true):G.aT=[]:=by
 refine jJ λp H=> ?_;have:=List.all_eq_true.mp h (p.1,p.2.mv) (List.mem_map.mpr ⟨p,H,rfl⟩);have hq:=hs p H;obtain⟨x,v,mv,z⟩:=p;rcases mv with d|o
 .exact hq.2
 .cases this
set_option tactic.hygienic true in
theorem rq{b:List Stmt}{e:Expr}(h:vI b=some e): ∃p,b=[.Return (some e) p]:=by
 rcases b with _|⟨s,r⟩
 .cases h
 .rcases r with _|⟨_,_⟩
  .rcases s with _|_<;>first|exact af h|skip
   rename_i v p;have h:v=some e:=h;subst h;exact⟨p,rfl⟩
  .cases h
set_option tactic.hygienic true in
theorem wq{hs:List ExceptHandler}{c:Str}(h:oh hs=some c): ∃O lp rp H,hs=[.ExceptHandler (some (.Name c O)) none [.Return (some (.List [] lp)) rp] H]:=by
 rcases hs with _|⟨x,r⟩
 .cases h
 .rcases r with _|⟨_,_⟩
  .obtain⟨t,nm,b,H⟩:=x;unfold oh at h;dsimp only at h;revert h;refine gp (λB h=> ?_) (λq9 h=> ?_)
   .simp only[Bool.and_eq_true] at B;obtain⟨u,z⟩:=B;rcases nm with _|_
    .unfold x7 at z;rcases hr:vI b with _|e
     .rw[hr] at z;exact Bool.noConfusion z
     .rw[hr] at z;obtain⟨rp,rfl⟩:=rq hr;rcases t with _|t
      .cases h
      .obtain⟨O,rfl⟩:=bD h;rcases e with _|_<;>first|exact Bool.noConfusion z|skip
       rename_i es lp;rcases es with _|⟨_,_⟩
       .exact⟨_,_,_,_,rfl⟩
       .cases z
    .cases u
   .cases h
  .cases h
theorem tJ(O:lF F X n){G:GL}{Z:ZP}{h h6 B:Heap}(R:Rel F.Y F.env F.T [] G Z h)(ho:G.aT=[])(hG: ∀b o,h.get? b=some o->b∉F.frames.filterMap (·.frame)->B.get? b=some o)(hB: ∀b o,B.get? b=some o->h6.get? b=some o)(hu:h.UpToSlots h6):
  Rel F.Y F.env F.T [(h6.objs.size,listOf ([]:List Value).toArray 0)] G Z (h6.push (listOf ([]:List Value).toArray 0))/\Go F.T (WW [] G) Z h (WW [(h6.objs.size,listOf ([]:List Value).toArray 0)] G) Z (h6.push (listOf ([]:List Value).toArray 0)):=by
 have e1:WW [] G=[]:=by unfold WW;rw[ho];rfl
 have g6:Go F.T [] Z h [] Z h6:=by
  refine⟨λb o e ω nt=>hB b o (hG b o e (by rw[<-O.hT];exact nt)),λb o e ω ht=> ?_,λω ω z=>z,λω ω z=>.inl z,λω m=>nomatch m⟩;refine hide λP9 b9=> ?_;obtain⟨o',es,m,u,h2⟩:=R.cK b ht;refine b9 ?_;rw[e] at u;cases u;exact hu b o e (λvs q=>by rw[h2] at q;cases q)
 have no: ∀{p:Addr×Obj} {P:Prop},p∈[]++G.aT->P:= λH=>by rw[List.nil_append,ho] at H;nomatch H
 have R6:Rel F.Y F.env F.T [] G Z h6:=R.move g6 (λω m=>nomatch m) rfl (λp H=>(R.vars p H).2) (λp H=>no H) (by rw[List.nil_append,ho];exact List.nodup_nil) (λp H=>no H) (λp H=>no H) (λa o z=>g6.keep a o (R.Zh a o z) (λm=>nomatch m) (R.ZT a o z).1);exact⟨R6.alloc _ rfl,(show Go F.T (WW [] G) Z h (WW [] G) Z h6 by rw[e1];exact g6).trans (Go.alloc (os:=[]) (G:=G) (listOf ([]:List Value).toArray 0))⟩
theorem EE(O:lF F X n)(XR:XR F X)(I:bV F ev)(e:Expr)(hd:ExceptHandler)(hs:List ExceptHandler)(rp pos:Pos)(l:Loc):
  bz F X.pin (F.wp (exec (.Try [.Return (some e) rp] (hd::hs) [] [] pos) F.env)) l (match ev e l with
   | .ok (v,l')=>.ok (.ret v,l')
   | .stuck=>.stuck
   | .exc=>
    (match oh (hd::hs) with
    |none=>.stuck
    |some c=>if c="WordFault"&&X.kind c==some NameKind.globalImplicit&&ku (X.glob c)&&l.all (λp=>match p.2 with| .d _=>true| .own _=>false) then .ok (.ret (.own (.lst [])),l) else .stuck)):=by
 refine bz.of λG Z s Q E hl R K=>wpAny_Try_except (wpAny_execs_cons (wpAny_Return_some ((I e l).run trivial hl R ?_)));generalize ev e l=r at K;rcases r with _|_|p
 .exact K
 .dsimp only at K;rcases hh:oh (hd::hs) with _|c
  .rw[hh] at K;exact False.elim K
  .rw[hh] at K;obtain⟨np,lp,db,ce,hq⟩:=wq hh;obtain⟨rfl,rfl⟩:=List.cons.inj hq;refine aL.ite K λhc K1=> ?_;clear K hh;simp only[Bool.and_eq_true,decide_eq_true_eq] at hc;obtain⟨⟨⟨rfl,hk⟩,hg⟩,aI⟩:=hc;subst hl;have ho:G.aT=[]:=Hk (λp H=>(R.vars p H).2) aI;obtain⟨C,eC⟩:=mR hg;obtain⟨v,hv,hw⟩:=O.glob _ _ eC;have hv:v= .ref F.Y.wf:=by rw[show v= .ref (F.Y.ca C) from hv,XR.glob C eC]
   subst hv;have a1:F.env.kindOf "WordFault"=some .globalImplicit:=by rw[<-O.kind];exact eq_of_beq hk
   obtain⟨p,hC,am⟩:=XR.obj;obtain⟨ap,ac⟩:=O.fr.top;have a5:F.A.frames=some (F.env::ap):=by rw[O.fr.stack,ac]
   intro e' s' q9;refine hide λu b9=> ?_;obtain⟨a,a0,B,rfl,hB,hG,hf,hu,a9,a8⟩:=q9;refine b9 ?_;rw[show WW [] G=[] from by unfold WW;rw[ho];rfl] at hG hu;rw[ac] at hf;refine wpAny_looks_onW a5 O.fr.frame hf λh4 an u4=>wpAny_landsW an λh5 al u5=> ?_;have a3:F.Y.base.StaysIn h5:= λb o hb=>al.1 b o (hB b o hb);obtain⟨ob,a7,a2⟩:=al.there;refine wpAny_handleBy_cons (codeAny_handlers_test (wpAny_Name (hw F.env _ _ _ O.env.globals O.env.builtins O.env.kind a1 a3 ?_ _) (O.name a1))) (by intro q;cases q);refine wpAny_excMatches_sub_self (a3 _ _ hC) a7 a2 am (codeAny_handlers_suite ?_);refine lands_againW al λh6 a4 u6=> ?_;refine wpAny_execs_cons (wpAny_Return_some (wpAny_List (args_nil ⟨Nat.zero_le _,?_⟩)));obtain⟨R7,g7⟩:=tJ O R ho hG (λb o e=>a4.1 b o e) (((Heap.UpToSlots.trans (show s.heap.UpToSlots s'.heap from hu) u4).trans u5).trans u6);exact K1 (.ret (.ref h6.objs.size)) [(h6.objs.size,listOf ([]:List Value).toArray 0)] G Z _ ⟨_,rfl,dD.lst aO.nil,λω ω=>rfl⟩ R7 ⟨g7.toS,a9,a8⟩ bW.refl
 .intro a z G' Z' s' hH a6 bd R' g';rw[List.append_nil] at R' g';exact K _ z G' Z' s' ⟨a,rfl,hH,λω ω=>by rw[a6]⟩ R' g'.toS (bW.jl bd)
end
section
variable{F:Fix}{X:Cx}{ev:jG}{tv:lR}{n:Nat}
theorem bz.eq{pin:Option Str}{W:Tr Flow}{l:Loc}{r z:Res (Fl×Loc)}(h:bz F pin W l r)(e:z=r):bz F pin W l z:=e▸h
set_option tactic.hygienic true in
theorem yW(O:lF F X n)(k:Nat)(x:Str)(B p:Pos)(e:Expr)(l:Loc):
  bz F X.pin (F.wp (exec (.Assign [.Name x B] e p) F.env)) l (if X.pin==some x then .stuck else if isLocal X x then ak k X e l |>.bind λ(v,l)=>.ok (.next,l.set x v) else .stuck):=by
 obtain⟨I,_⟩:=fc k O.toBf;have ac: ∀{e:Expr},(∀l,ak k X e l= .stuck)->bz F X.pin (F.wp (exec (.Assign [.Name x B] e p) F.env)) l (if X.pin==some x then .stuck else if isLocal X x then ak k X e l |>.bind λ(v,l)=>.ok (.next,l.set x v) else .stuck):= λ{e} h=>by
  rw[h];split
  .exact bz.stuck
  .split
   .exact bz.stuck
   .exact bz.stuck
 by_cases z:swapsWith e (some (.Name x B)) p.line F.env=pure false
 .exact tu O I x B p e z l
 .rcases e with _|_<;>first|exact absurd rfl z|skip
  case SetComp=>exact ac λl=>by rcases k with _|_<;>rfl
  case DictComp=>exact ac λl=>by rcases k with _|_<;>rfl
  case ListComp elt gs scope pos=>
   rcases k with _|k
   .exact ac λl=>rfl
   .rcases hg:pH gs with _|r
    .refine ac λl=> ?_;show gY X (ak k X) (ak k (X.comp scope)) (bT k (X.comp scope)) elt gs scope l=_;unfold gY;rw[hg]
    .refine hide λu b9=> ?_;obtain⟨y,g⟩:=r;obtain⟨py,iter,ifs,rfl,rfl⟩:=rg hg;refine b9 ?_;have al:swapsWith (.ListComp elt [⟨.Name y py,iter,ifs,0⟩] scope pos) (some (.Name x B)) p.line F.env=pure true:=by
      unfold swapsWith at z⊢;dsimp only at z⊢;generalize(F.env.blockKind==ScopeKind.function&&F.env.kindOf x==some NameKind.local&&B.line==(Expr.ListComp elt [⟨.Name y py,iter,ifs,0⟩] scope pos).pos.line&& !(scope.names.any λ(n,k)=>n==x&&(k==NameKind.local||k==NameKind.cell)))=b at z⊢;cases b
      .exact absurd rfl z
      .rfl
     obtain⟨I',_⟩:=fc k O.toBf;refine bz.eq (tF O I' (fc k) x B p al l) ?_;have H:ak (k+1) X (.ListComp elt [⟨.Name y py,iter,ifs,0⟩] scope pos) l=gY X (ak k X) (ak k (X.comp scope)) (bT k (X.comp scope)) elt [⟨.Name y py,iter,ifs,0⟩] scope l:=rfl;rw[H];unfold gY;rw[hg]
theorem EF(O:lF F X n)(k:Nat)(t e:Expr)(p:Pos)(l:Loc):
  bz F X.pin (F.wp (exec (.Assign [t] e p) F.env)) l ((fX X (ak k X) t e l).bind λl=>.ok (.next,l)):=by
 obtain⟨I,_⟩:=fc k O.toBf;unfold fX;rcases hp:pinned X t with _|_
 .show bz F X.pin _ l ((G2 X (ak k X) t e l).bind _);rcases t with _|_|_|_|_|_|_|_|_|_|_|_|_|_|_|_|_|_|_|_|⟨o,a,ap⟩|⟨o,i,sp⟩|_|⟨x,B⟩|_|⟨z,H,tp⟩|_<;>try(exact bz.stuck;done)
  .show bz F X.pin _ l ((iK X (ak k X) o a e l).bind _);unfold iK;rcases hn:nameOf o with _|x
   .exact bz.stuck
   .obtain⟨B,rfl⟩:=bD hn;refine bz.eq (tA O I x a B ap p e l) ?_;dsimp only;rw[Res.bind_assoc];congr 1;funext r;obtain⟨d,l'⟩:=r;dsimp only;rcases hY (l'.get? x) with _|r
    .rfl
    .exact Res.jD _ _ _
  .show bz F X.pin _ l ((kq X (ak k X) o i e l).bind _);unfold kq;rcases hn:nameOf o with _|x
   .exact bz.stuck
   .obtain⟨B,rfl⟩:=bD hn;refine bz.eq (wi O I x B sp p i e l) ?_;dsimp only;rw[Res.bind_assoc];congr 1;funext r;obtain⟨d,l'⟩:=r;dsimp only;rw[Res.jD];congr 1;rw[Res.bind_assoc];congr 1;funext r;obtain⟨j,u⟩:=r;dsimp only;rcases h_ (u.get? x) with _|xs
    .rfl
    .dsimp only;rw[Res.jD,Res.bind_assoc];rfl
  .refine bz.eq (yW O k x B p e l) ?_;have ac:(X.pin==some x)=false:=hp;rw[ac,if_neg Bool.false_ne_true];show(if isLocal X x=true then _ else _:Res Loc).bind _=_;cases isLocal X x
   .rfl
   .simp only[if_true];rw[Res.bind_assoc];rfl
  .show bz F X.pin _ l ((ko X (ak k X) (.Tuple z H tp) z e l).bind _);unfold ko;rcases ht:bq X (.Tuple z H tp) with _|_
   .exact bz.stuck
   .simp only[Bool.not_true,Bool.false_eq_true,if_false];rcases hv:xV e with _|es
    .dsimp only;rcases hn:nameOf e with _|x
     .refine bz.eq (wj O I z H tp p e (vU hv) ht hp l) ?_;dsimp only;rw[Res.bind_assoc]
     .obtain⟨B,rfl⟩:=bD hn;dsimp only;rcases isLocal X x with _|_
      .exact bz.stuck
      .simp only[if_true];refine bz.eq (tC O z H tp p x B ht hp l) ?_;cases l.get? x<;>rfl
    .obtain⟨j,q,rfl⟩:=yf hv;dsimp only;rcases hs:jb X z es with _|_
     .exact bz.stuck
     .simp only[if_true];refine bz.eq (tE O I z es H j tp q p ht hp hs l) ?_;rw[Res.bind_assoc]
 .exact bz.stuck
theorem tK: ∀(k:Nat) {F:Fix} {X:Cx} {n:Nat},lF F X n->XR F X-> ∀b l,bz F X.pin (F.wp (execs b F.env)) l (aw k X b l):=by
 intro k;induction k with
 |zero=>intro F X n O _ b l;exact bz.stuck
 |succ k B=>
  intro F X n O XR b l;have hb:= λb l=>B O XR b l;rcases b with _|⟨st,ss⟩
  .exact bz.next λQ E s h=>wpAny_execs_nil h
  .refine bz.imp (bz.seq (W₁:=F.wp (exec st F.env)) (W₂:=F.wp (execs ss F.env)) (r₁:=fY X (ak k X) (bT k X) (aw k X) st l) O.hT ?_ λu=>hb ss u) λQ E s h=>wpAny_execs_cons h;obtain⟨I,J⟩:=fc k O.toBf;have dZ:=i0 k X;have am:=kB k X;rcases st with _|_|_|⟨e,p⟩|_|⟨z,e,p⟩|_|_|_|⟨t,it,b,ac,p⟩|_|⟨t,b,ac,p⟩|⟨t,a,b,p⟩|_|_|_|⟨e,c,p⟩|⟨b,hs,ac,fin,p⟩|_|_|_|_|_|_|⟨e,p⟩|p|p|p<;>try(exact bz.stuck;done)
   .rcases e with _|e
    .exact BS _ l
    .show bz F _ _ l (retS X (ak k X) (some e) l);unfold retS;dsimp only;rcases hn:nameOf e with _|x
     .exact yN O I _ _ l
     .obtain⟨xp,rfl⟩:=bD hn;dsimp only;rcases isLocal X x with _|_
      .exact yN O I _ _ l
      .exact tr O _ _ _ l
   .rcases z with _|⟨t,r⟩
    .exact bz.stuck
    .rcases r with _|⟨_,_⟩
     .exact EF O k _ _ _ l
     .exact bz.stuck
   .rcases ac with _|⟨_,_⟩
    .show bz F _ _ l (lC X (ak k X) (aw k X b) t it l);unfold lC;rcases hc:pinned X t|| !bq X t with _|_
     .simp only[Bool.or_eq_false_iff,Bool.not_eq_false'] at hc;simp only[Bool.false_eq_true,if_false];rcases ha:cJ X it with _|a
      .exact ED O I am hb hc.2 hc.1 _ l
      .exact BW O I hb hc.2 hc.1 ha _ l
     .exact bz.stuck
    .exact bz.stuck
   .rcases ac with _|⟨_,_⟩
    .exact yQ O J hb _ _ _ _ l
    .exact bz.stuck
   .exact Hh O J hb _ _ _ _ l
   .rcases e with _|e
    .exact bz.stuck
    .rcases c with _|_
     .show bz F _ _ l (kv X (ak k X) (some e) none l);unfold kv;dsimp only;rcases hv:og e with _|r
      .exact bz.stuck
      .obtain⟨np,cp,rfl⟩:=oq hv;exact yV O XR I dZ _ _ _ _ _ l
     .exact bz.stuck
   .show bz F _ _ l (vJ X (ak k X) b hs ac fin l);unfold vJ;rcases hs with _|⟨hd,hs⟩
    .exact bz.stuck
    .rcases ac with _|⟨_,_⟩
     .rcases fin with _|⟨_,_⟩
      .simp only[List.isEmpty,Bool.not_true,Bool.or_self,Bool.false_eq_true,if_false];rcases hr:vI b with _|e
       .exact bz.stuck
       .obtain⟨H,rfl⟩:=rq hr;exact EE O XR I _ _ _ _ _ l
      .exact bz.stuck
     .exact bz.stuck
   .exact BV O I _ _ l
   .exact BR _ l
   .exact Ez _ l
   .exact BU _ l
end
section
structure PF(Y:Lay)(prog:Program)(w:World)(fd:Nat->Option Fd)(gl:Str->Option GV)(me:Nat->Str->Option Nat)(att:Nat->Str->Bool)(ii:Nat->Nat->Bool):Prop where
 fn: ∀i f,fd i=some f-> ∃o d,FnAt Y i f o d
 lim:Y.base.NoLimit
 glob: ∀x g,gl x=some g-> ∃v,yg Y g v/\ ∀(env:Env) (E:Value->Shared->Prop) (s:Shared) (Q:Value->Shared->Prop),env.globals=mainGlobals->env.builtins=builtinsNs->env.scope.kind= .function->env.kindOf x=some .globalImplicit->Y.base.StaysIn s.heap->Q v s-> ∀A,wpAny (model prog w) A (loadName env x) Q E s
 bi:GH prog w
 bj:GJ prog w
 lQ:Y.K.In Y.base
 hash:Y.hs=hashStr w
 top: ∃a o,Y.base.get? a=some o/\Y.base.objs.size=a+1
 attr: ∀C a,att C a=true->plainGet Y.K (Y.ca C) a=true/\hasDictIn Y.K (Y.ca C)=true/\findIn Y.K (.ref (Y.ca C)) a=some none
 sys:oz Y
 hK:yI Y.K Y.ca ii
 sets: ∀C a,att C a=true->findIn Y.K (.ref (Y.ca C)) "__setattr__"=some (some (.builtin "object.__setattr__"))/\plainOver Y.K (Y.ca C)=true
 mH: ∀i f,fd i=some f->keepIn Y.K (.ref (Y.fa i))=true
 cC: ∀C m i,me C m=some i->plainGet Y.K (Y.ca C) m=true/\findIn Y.K (.ref (Y.ca C)) m=some (some (.ref (Y.fa i)))/\W.isFn Y.K (.ref (Y.fa i))=true/\keepIn Y.K (.ref (Y.fa i))=true
 cls: ∀x C i,gl x=some (.cls C i)->makesIn Y.K (Y.ca C)=true/\findIn Y.K (.ref (Y.ca C)) "__init__"=some (some (.ref (Y.fa i)))/\W.isFn Y.K (.ref (Y.fa i))=true/\keepIn Y.K (.ref (Y.ca C))=true
 Kg: ∀C,gl "WordFault"=some (.exc C)->Y.ca C=Y.wf
 Kh:Dy Y
 Ki:keepIn Y.K (.ref Y.wf)=true
 make: ∀{A:Around} {E:Value->Shared->Prop} {s:Shared} {Q:Value->Shared->Prop} {vs:List Value},uP A->A.frames.isSome=true->Y.base.StaysIn s.heap->vs.length=2->(∀h' tk e,u1 Y s.heap h' e->Q (.ref e) {s with heap:=h',toks:=tk})->wpAny (model prog w) A (PySem.call (.ref Y.wf) vs) Q E s
variable{Y:Lay}{prog:Program}{w:World}{fd:Nat->Option Fd}{glob:Str->Option GV}{cC:Nat->Str->Option Nat}{attr:Nat->Str->Bool}{hK:Nat->Nat->Bool}
theorem kG{x:Str}{n:Nat}{ns:List (Str×NameKind)}(z:(ns.map (·.1)).Nodup)(h:ns.lookup x=some .cell):((cellsFrom n ns []).lookup x).isSome=true:=by
 obtain⟨c,u⟩:=dm (n:=n) (acc:=[]) (lookup_mem h);rw[bF (c0 z (by simp) (λB B m=>by cases m)) u];rfl
theorem mS: ∀{ps:List Str} {sls:List Slot},GL.vals (ps.zip sls)=ps.zip (sls.map (·.v))
 |[],_=>rfl
 |_::_,[]=>rfl
 |p::ps,s::sls=>congrArg ((p,s.v):: ·) (mS (ps:=ps) (sls:=sls))
theorem u2: ∀{ps:List Str} {sls:List Slot},GL.loc (ps.zip sls)=ps.zip (sls.map (·.mv))
 |[],_=>rfl
 |_::_,[]=>rfl
 |p::ps,s::sls=>congrArg ((p,s.mv):: ·) (u2 (ps:=ps) (sls:=sls))
theorem rr: ∀{ps:List Str} {sls:List Slot},sls.length<=ps.length->GL.aT (ps.zip sls)=sls.flatMap (·.os)
 |[],[],_=>rfl
 |[],_::_,h=>by simp at h
 |_::_,[],_=>rfl
 |p::ps,s::sls,h=>by
  show GL.aT ((p,s)::ps.zip sls)=_;rw[GL.f5,rr (by simpa using h)];rfl
theorem pZ{G:GL}{x:Str}{sl:Slot}(e:G.get? x=some sl):sl.os.Sublist G.aT:=by
 obtain⟨a,c,O,_⟩:=bE e;rw[O];first
  |exact(List.sublist_append_left _ _).trans (List.sublist_append_right _ _)
  |exact(List.sublist_append_right _ _).trans (List.sublist_append_left _ _)
noncomputable def yX(fd:Nat->Option Fd)(glob:Str->Option GV)(cC:Nat->Str->Option Nat)(attr:Nat->Str->Bool)(hK:Nat->Nat->Bool)(n:Nat)(f:Fd):Cx:=
 {kind:= λx=>f.scope.names.lookup x,glob:=glob,cC:=cC,attr:=attr,isFn:= λi=>(fd i).isSome,hK:=hK,call:=jw fd glob cC attr hK 3000 n,w:=3000,pin:=f.params.head?}
theorem yY(P:PF Y prog w fd glob cC attr hK){n:Nat}{A:Around}{T:List Addr}{frames:List Env}{env:Env}{L:Addr}{f:Fd}(H:BB (n+1) A)(al:Fs Y A T frames)(ac:qO Y env)(O: ∀y,env.kindOf y=f.scope.names.lookup y)
  (hd:f.scope.names.lookup ("__debug__":Str)=none) (am:env.frame=some L) (hL:env.locals=L) (hn:Y.base.get? L=none) (B: ∀i u,qZ Y prog w n i u (jw fd glob cC attr hK 3000 n i u)):
  lF ⟨Y,prog,w,A.deeper env,env,L::T,env::frames⟩ (yX fd glob cC attr hK n f) n/\XR ⟨Y,prog,w,A.deeper env,env,L::T,env::frames⟩ (yX fd glob cC attr hK n f):=by
 have dZ:(A.deeper env).frames=some (env::frames):=Around.frames_deeper al.stack;have hT:L::T=(env::frames).filterMap (·.frame):=by rw[al.cK,List.filterMap_cons,am]
 have a1:=H.depth;have a2:=H.units;have ao:uP (A.deeper env):=⟨H.handled,show A.units+3+200<_ by exact aj a2,show A.depth+1+100<_ by exact aj a1⟩
 refine⟨{ao:=ao,fs:=⟨dZ,hT,λe he=> ?_⟩,env:=ac,kind:= λy=>(O y).symm,G_:=(O _).trans hd,glob:=P.glob,bi:=P.bi,lQ:=P.lQ,hash:=P.hash,top:=P.top,attr:=P.attr,depth:=show A.depth+1+7*n+125<recursionLimit by exact aj a1,units:=show A.units+3+60*n+240<cLine by exact aj a2,call:=B,mH:= λj hj=> ?_,cC:=P.cC,cls:=P.cls,bj:=P.bj,sys:=P.sys,hK:=P.hK,sets:=P.sets,fr:=⟨⟨_,rfl⟩,hL▸am,dZ,hT⟩},⟨P.Kg,P.Kh,P.Ki,λh1 z X=>P.make ao (by rw[dZ];rfl) h1 z X⟩⟩
 .rcases List.mem_cons.mp he with rfl|he
  .exact⟨by rw[ac.kind];decide,_,am,hn⟩
  .exact al.each e he
 .obtain⟨f',e'⟩:=Option.isSome_iff_exists.mp hj;exact P.mH j f' e'
theorem wt{Z:ZP}{sls ds:List Slot}: ∀{ps:List Str} {G':GL},(sls++ds).length=ps.length->(∀p∈G',b_ Y Z p.2)->bW ps.head? (ps.zip (sls++ds)) G'->∃slB:Slot,slB.os.Sublist G'.aT/\b_ Y Z slB/\slB.mv=((ps.head?).bind G'.loc.get?).getD (.d .none)/\ ∀sl,sls.head?=some sl->slB.v=sl.v:=by
 intro X;induction X with
 |nil=>
  intro G' H B B;exact⟨⟨.none,.d .none,[]⟩,List.nil_sublist _,⟨.none,rfl⟩,rfl,λsl e=>by
   rcases sls with _|⟨_,_⟩
   .cases e
   .cases H⟩
 |cons p ps u=>
  intro G' H R' p';rcases hs:sls++ds with _|⟨s0,sr⟩
  .rw[hs] at H;cases H
  .have z:=p' p rfl;rw[hs] at z;have am:GL.get? ((p::ps).zip (s0::sr)) p=some s0:=by
    show List.lookup p ((p,s0)::_)=_;rw[List.lookup_cons_self]
   rw[am] at z;obtain⟨sl,al,z⟩:=Option.map_eq_some_iff.mp z;refine⟨sl,pZ al,R' _ (GL.aS al),?_,λO e=> ?_⟩
   .show sl.mv=(G'.loc.get? p).getD _;rw[GL.bw,al];rfl
   .rw[z];rcases sls with _|⟨a,r⟩
    .cases e
    .cases e;cases hs;rfl
theorem yZ{T:List Addr}{Z:ZP}{s z:Shared}{env:Env}{G₀:GL}(H: ∀b o,s.heap.get? b=some o->z.heap.get? b=some o)(X: ∀b∈hJ env,s.heap.get? b=none)(O:z.os=s.os)(u:z.gens=s.gens):
  bN T (addrs G₀.aT) Z s (WS env [] G₀) Z z:=
 ⟨⟨λb o e B B=>H b o e,λb o e B B=>⟨o.slots,H b o e⟩,λB B e=>e,λB B e=>.inl e,λb m=>(List.mem_append.mp m).elim (λm=>.inr (X b m)) .inl⟩,O,u⟩
theorem bN.y5{L:Addr}{T W W':List Addr}{Z Z':ZP}{s s':Shared}(B:L∈W)(g:bN (L::T) W Z s W' Z' s'):bN T W Z s W' Z' s':=
 ⟨⟨λb o e n t=>g.keep b o e n λm=>(List.mem_cons.mp m).elim (λq=>n (q▸B)) t,λb o e n t=>g.slots b o e n (.tail _ t),g.mono,g.pM,g.dB⟩,g.os,g.gens⟩
theorem HR.y5{L:Addr}{T:List Addr}{W:List (Addr×Obj)}{Z:ZP}{h:Heap}(H:HR Y (L::T) W Z h):HR Y T W Z h:=
 ⟨H.own,H.nodup,λq hq=>⟨λm=>(H.b7 q hq).1 (.tail _ m),(H.b7 q hq).2⟩,H.Zh,λa o z m=>H.ZT a o z (.tail _ m),H.Zb,λb X=>H.cK b (.tail _ X)⟩
noncomputable def Hl:Flow->Value
 | .ret v=>v
 |_=>.none
noncomputable def Dz(pin:Option Str):Fl×Loc->Res (MV×MV):= λ(O,l)=>
 let back:MV:=(pin.bind l.get?).getD (.d .none)
 match O with
 | .next=>.ok (.d .none,back)
 | .ret v=>.ok (v,back)
 |_=>.stuck
theorem y6{F:Fix}(O:yJ F){L:Addr}{T:List Addr}{frames:List Env}(hf:F.frames=F.env::frames)(hT:F.T=L::T)(a2:T=frames.filterMap (·.frame))(hL:F.env.locals=L){ps:List Str}{sls ds:List Slot}{Z:ZP}{s z:Shared}{r:Res (Fl×Loc)}{R:Result->Shared->Prop}
  (an:(sls++ds).length=ps.length) (ho:GL.aT (ps.zip (sls++ds))=sls.flatMap (·.os)) (X:bN T (addrs (GL.aT (ps.zip (sls++ds)))) Z s (WS F.env [] (ps.zip (sls++ds))) Z z) (K:lj F.Y T frames sls Z s (r.bind (Dz ps.head?)) R):
  aL F ps.head? (WS F.env [] (ps.zip (sls++ds))) (ps.zip (sls++ds)) Z z r (λf s'=>R (.ok (.ret (Hl f))) s') (λe s'=>wpAny (model F.prog F.w) F.A (leaving F.env e) (λB ac=>R (.error e) ac) (λe' ac=>R (.error e') ac) s'):=by
 have am:F.env.locals∈WS F.env [] (ps.zip (sls++ds)):=List.mem_append_left _ (.head _);rw[ho] at X;rcases r with _|_|p
 .exact K
 .exactλe s' x=>yL O hf x am λac x=>K e ac (Exc.back a2 X x)
 .intro fl ts G' Z' s' o u g p';rw[hT] at g u;obtain⟨slB,sub,aI,ap,a0⟩:=wt an (λp H=>(u.vars p H).2) p';have al:(ts++slB.os).Sublist (ts++G'.aT):=List.Sublist.append_left sub _;have H':=(u.te.sub al).y5;have g':=(X.trans (g.y5 (hL▸am))).less (V':=addrs (ts++slB.os)) λa m=>by
   obtain⟨q,hq,rfl⟩:=List.mem_map.mp m;exact List.mem_append_right _ (List.mem_map_of_mem (al.subset hq))
  obtain⟨f,l'⟩:=p;rcases f with _|v|_|_
  .obtain⟨rfl,rfl,rfl⟩:=o;exact K ⟨.none,.d .none,[]⟩ slB Z' s' rfl ap a0 ⟨.none,rfl⟩ aI H' g'
  .obtain⟨a,rfl,hR,H⟩:=o;refine K ⟨a,v,ts⟩ slB Z' s' rfl (ap.trans ?_) a0 hR aI H' g';rcases ps with _|⟨p,_⟩
   .rfl
   .exact congrArg (Option.getD · _) (H p rfl)
  .exact False.elim K
  .exact False.elim K
theorem ru{Z:ZP}{vs:List Value}{ds:List D}{ps:List Str}{u:List MV}{sls:List Slot}(O:sls.map (·.mv)=u)(B:u.length+ds.length=ps.length)(hd:aO Y Z vs ds)(z: ∀sl∈sls,b_ Y Z sl):
  (sls++cZ vs ds).length=ps.length/\GL.loc (ps.zip (sls++cZ vs ds))=ps.zip (u++ds.map .d)/\GL.vals (ps.zip (sls++cZ vs ds))=ps.zip (sls.map (·.v)++vs)/\GL.aT (ps.zip (sls++cZ vs ds))=sls.flatMap (·.os)/\ ∀p∈ps.zip (sls++cZ vs ds),b_ Y Z p.2:=by
 have e:(sls++cZ vs ds).map (·.mv)=u++ds.map .d:=by rw[List.map_append,O,f_ hd.1]
 have X:(sls++cZ vs ds).length=ps.length:=by rw[<-B,<-List.length_map (as:=sls++_) (f:=(·.mv)),e,List.length_append,List.length_map]
 refine⟨X,by rw[u2,e],by rw[mS,List.map_append,ie hd.1],by rw[rr (Nat.le_of_eq X),List.flatMap_append,eU,List.append_nil],λp H=> ?_⟩;exact(List.mem_append.mp (List.of_mem_zip (a:=p.1) (b:=p.2) H).2).elim (z _) (fb hd _)
theorem lj.opt{u:Type}{T:List Addr}{frames:List Env}{sls:List Slot}{Z:ZP}{s:Shared}{o:Option u}{f:u->Res (MV×MV)}{R:Result->Shared->Prop}{P:Prop}(K:lj Y T frames sls Z s ((Res.of o).bind f) R)(k: ∀x,o=some x->lj Y T frames sls Z s (f x) R->P):P:=by
 rcases o with _|x
 .exact False.elim K
 .exact k x rfl K
theorem aO.drop{Z:ZP}{vs:List Value}{xs:List D}(h:aO Y Z vs xs)(k:Nat):aO Y Z (vs.drop k) (xs.drop k):=
 ⟨by simp[h.1],λi v x u H=>h.2 (k+i) v x (by simpa[List.getElem?_drop] using u) (by simpa[List.getElem?_drop] using H)⟩
theorem wu(P:PF Y prog w fd glob cC attr hK){n i:Nat}{u:List MV}{f:Fd}{o:Obj}{d:FuncData}{l:Loc}(B: ∀i u,qZ Y prog w n i u (jw fd glob cC attr hK 3000 n i u))(Fn:FnAt Y i f o d)(X:cf f.params f.defaults u=some l):
  qZ Y prog w (n+1) i u ((aw 60 (yX fd glob cC attr hK n f) f.body l).bind (Dz f.params.head?)):=by
 intro A T frames sls Z s R hA a3 a8 hS H K;unfold cf at X;by_cases hc:u.length<=f.params.length/\f.params.length<=u.length+f.defaults.length
 case neg=>rw[if_neg hc] at X;cases X
 rw[if_pos hc] at X;obtain rfl:=Option.some.inj X;obtain⟨r,dv,hr,a9,ap⟩:=Fn.dflt;have am:Y.base.StaysIn s.heap:= λa o e=>H.Zh a o (H.Zb a o e);have a7:sls.length=u.length:=by rw[<-a8,List.length_map]
 have aI:(sls.map (·.v)).length=u.length:=by rw[List.length_map,a7]
 have a5:=Fn.KV;have al:=lx (s:=s) (vals:=sls.map (·.v)) Fn.pos Fn.Hi Fn.var Fn.Hj Fn.names (λM A E Q=>hr s am M A E Q) a9 Fn.nodup (by rw[aI];exact hc.1) (by rw[aI,ap.1];exact hc.2) (by rw[ap.1];exact a5);rw[aI,ap.1] at al;have a6:u.length+(f.defaults.drop (f.defaults.length-(f.params.length-u.length))).length=f.params.length:=by rw[List.length_drop];exact xU hc.1 hc.2
 generalize f.defaults.length-(f.params.length-u.length)=k at al a6 K;obtain⟨p1,p2,p3,p4,p5⟩:=ru a8 a6 ((ap.mono H.Zb).drop k) hS;rw[<-p2] at K;rw[<-p3] at al;generalize cZ (dv.drop k) (f.defaults.drop k)=ds at*;have a4:(GL.vals (f.params.zip (sls++ds))).map (·.1)=f.params:=by
  rw[mS,pX,List.take_of_length_le (by rw[List.length_map,p1];exact Nat.le_refl _)]
 have hsz:Y.base.objs.size<=s.heap.objs.size:=by
  obtain⟨a,o,e,q⟩:=P.top;rw[q];exact Heap.lt_size (am _ _ e)
 refine codeAny_call_function (by have:=hA.depth;exact aj this) (am _ _ Fn.at_) Fn.data (by rw[Fn.scope];exact Fn.co) (by rw[Fn.scope];exact Fn.gen) Fn.body (Fn.code.keeps am) (al _ _ _ _ ?_);rw[Fn.closure];refine wpAny_newFunctionEnv_cells (by rw[Fn.scope];exact Fn.kind) (λx hx=> ?_) λenv he z x=> ?_
 .rw[Fn.scope];exact(Fn.locals x.1 (a4▸List.mem_map_of_mem hx)).imp id λq=>⟨q,kG Fn.pY q⟩
 obtain rfl:=he;refine⟨(P.lim.keeps am).keeps x.toInCall.keep,codeAny_func ?_⟩;have a1:=wm H Fn rfl a4 p4 p5 x;have an:=wo hsz Fn x;have fresh:s.heap.get? s.heap.objs.size=none:=aK (Nat.le_refl _);have bb: ∀y,(callEnvC d s.heap.objs.size (Y.fa i)).kindOf y=f.scope.names.lookup y:= λy=>by rw[<-Fn.scope];rfl
 have same:z.os=s.os/\z.gens=s.gens:=by obtain⟨_,_,q,_⟩:=x.done;rw[q];exact⟨rfl,rfl⟩
 have a2:=yZ (T:=T) (Z:=Z) (G₀:=f.params.zip (sls++ds)) x.toInCall.keep (λb m=>(List.mem_cons.mp m).elim (λq=>q▸fresh) λm=>by
  obtain⟨p,hp,rfl⟩:=List.mem_map.mp m;exact aK (Nat.le_of_lt (x.above p.1 p.2 hp))) same.1 same.2
 obtain⟨O,XR⟩:=yY P (L:=s.heap.objs.size) hA a3 an bb Fn.G_ rfl rfl (aK hsz) B;exact(tK 60 O XR f.body _).run rfl a1 (y6 O.fr rfl rfl a3.cK rfl p1 p4 a2 K)
theorem tM(P:PF Y prog w fd glob cC attr hK): ∀(n i:Nat) (u:List MV),qZ Y prog w n i u (jw fd glob cC attr hK 3000 n i u):=by
 intro X;induction X with
 |zero=>
  intro B B
  exactλB B B B B B B B B B B B K=>False.elim K
 |succ n z=>
  intro i u;unfold jw;rcases ef:fd i with _|f
  .exactλB B B B B B B B B B B B K=>False.elim K
  .refine hide λP9 O=> ?_;obtain⟨o,d,H⟩:=P.fn i f ef;refine O ?_;dsimp only;rcases eb:cf f.params f.defaults u with _|l
   .exactλB B B B B B B B B B B B K=>False.elim K
   .exact wu P (z) H eb
end
section
namespace BF
open Builtin
theorem BX:typeLookup (.type "bytes") "__index__"=pure none:=by rw[typeLookup_type,builtinLookup_eq_fast];kernel_rfl
end BF
theorem rv{i:Int}{b:List UInt8}(h:0<=i/\i<256):(b.toArray.contains i.toNat.toUInt8)=b.any λc=>(c.toNat:Int)==i:=by
 rw[List.contains_toArray,List.contains_eq_any_beq];induction b with
 |nil=>rfl
 |cons c r B=>
  simp only[List.any_cons];rw[B];congr 1;rw[Bool.eq_iff_iff];simp only[beq_iff_eq];constructor
  .intro e;rw[<-e,Nat.toUInt8_eq,UInt8.toNat_ofNat']
   omega
  .intro e;rw[<-UInt8.toNat_inj,Nat.toUInt8_eq,UInt8.toNat_ofNat']
   omega
theorem Bg{u:Type}[BEq u][LawfulBEq u]{a b:List u}{i:Nat}:((b.drop i).take a.length==a)=true->i+a.length<=b.length\/a=[]:=by
 intro e;have:=congrArg List.length (eq_of_beq e);simp only[List.length_take,List.length_drop] at this;by_cases h:i+a.length<=b.length
 .exact .inl h
 .right
  exact List.eq_nil_of_length_eq_zero (Classical.byContradiction λz=>h (xT this z))
theorem y7{a b:List UInt8}:(Builtin.Bytes.find? b.toArray a.toArray 0 b.toArray.size).isSome=pv a b:=by
 unfold Builtin.Bytes.find? pv;rw[Bool.eq_iff_iff,List.find?_isSome,List.any_eq_true];simp only[List.mem_map,List.mem_range,List.size_toArray,Nat.add_zero,exists_eq_right,Nat.zero_add,beq_iff_eq];constructor
 .rintro⟨i,u,e⟩;refine⟨i,Nat.lt_of_lt_of_le u (Nat.sub_le _ _),?_⟩;have:=congrArg Array.toList e;simpa[List.extract_eq_drop_take,Nat.add_sub_cancel_left] using this
 .rintro⟨i,u,e⟩;by_cases O:a=[]
  .exact⟨0,by subst O;simp,by subst O;simp⟩
  refine⟨i,?_,?_⟩
  .have:=congrArg List.length e;simp only[List.length_take,List.length_drop] at this;have q:=xT this λq=>O (List.eq_nil_of_length_eq_zero q);exact Nat.lt_sub_of_add_lt (Nat.lt_succ_of_le q)
  .apply Array.toList_inj.mp;simpa[List.extract_eq_drop_take,Nat.add_sub_cancel_left] using e
theorem i3{M:Model}{A:Around}{E:Value->Shared->Prop}{s:Shared}{Q:Bool->Shared->Prop}{i:Int}{b:Array UInt8}{t u:Tok}{id:String}(h:0<=i/\i<256)(k:Q (b.contains i.toNat.toUInt8) s):
  wpAny M A (Builtin.Bytes.containsIn id (.bytes b t) (.int i u)) Q E s:=by
 refine wpAny_bind (wpAny_attempt (wpAny_pure ?_));refine wpAny_bind (wpAny_of_eq KBy.buffer_eq ?_);show wpAny M A (if(decide (i<0)||decide (i>=256))=true then _ else _) _ E s;rw[if_neg (by rw[decide_eq_false (Int.not_lt.mpr h.1),decide_eq_false (Int.not_le.mpr h.2)];decide)];exact wpAny_pure k
theorem p0{M:Model}{A:Around}{E:Value->Shared->Prop}{s:Shared}{Q:Bool->Shared->Prop}{a b:Array UInt8}{t u:Tok}{id:String}(B:A.handled=none)
  (k: ∀h' tk,(∀c o,s.heap.get? c=some o->h'.get? c=some o)->Q (Builtin.Bytes.find? b a 0 b.size).isSome {s with heap:=h',toks:=tk}):
  wpAny M A (Builtin.Bytes.containsIn id (.bytes b t) (.bytes a u)) Q E s:=by
 refine wpAny_bind (wpAny_attempt ?_);show wpAny M A (callSpecial? (.bytes a u) "__index__" [] []>>= λr=>_) _ _ s;refine wpAny_bind (wpAny_callSpecial?_none (typeIs_bytes s a u) BF.BX ?_);refine wpAny_bind ?_
 delta typeNameOfCut shownTypeOf
 refine wpAny_bind (wpAny_bind (wpAny_typeOf (typeIs_bytes s a u) ?_));simp only[show(Value.type "bytes"==Value.type "builtin_function_or_method")=false by decide,Bool.false_eq_true,if_false];refine wpAny_pure ?_;refine wpAny_pure ?_;refine wpAny_raiseTypeError B ?_ (by decide+kernel);intro h' tk e z;refine wpAny_bind (wpAny_of_eq KBy.buffer_eq ?_);refine wpAny_bind (wpAny_of_eq KBy.buffer_eq ?_);exact wpAny_bind (wpAny_rule (wpAny_pure (k h' tk z.1)))
theorem wx(prog:Program)(w:World):GH prog w where
 kf:= λ{A E s Q i t u b} h k=>In_slot (typeIs_bytes s _ u) FB.slot_bytes_contains (wpAny_call_entry FB.slot_bytes_contains (typeIs_bytes s _ u) FB.entry_bytes_contains
  (show wpAny _ _ (Builtin.Bytes.containsIn "bytes.__contains__" (.bytes b.toArray u) (.int i t)>>= λr=>_) _ _ s from wpAny_bind (i3 h (wpAny_pure ⟨_,rfl,wpAny_truthy_bool (by rw[rv h];exact k)⟩))) (FB.args_bytes_contains_2 _ _))
 om:= λ{A E s Q i t u b} h k=>NotIn_slot (typeIs_bytes s _ u) FB.slot_bytes_contains (wpAny_call_entry FB.slot_bytes_contains (typeIs_bytes s _ u) FB.entry_bytes_contains
  (show wpAny _ _ (Builtin.Bytes.containsIn "bytes.__contains__" (.bytes b.toArray u) (.int i t)>>= λr=>_) _ _ s from wpAny_bind (i3 h (wpAny_pure ⟨_,rfl,wpAny_truthy_bool (by rw[rv h];exact k)⟩))) (FB.args_bytes_contains_2 _ _))
 Dw:= λ{A E s Q a b t u} z k=>In_slot (typeIs_bytes s _ u) FB.slot_bytes_contains (wpAny_call_entry FB.slot_bytes_contains (typeIs_bytes s _ u) FB.entry_bytes_contains
  (show wpAny _ _ (Builtin.Bytes.containsIn "bytes.__contains__" (.bytes b.toArray u) (.bytes a.toArray t)>>= λr=>_) _ _ s from wpAny_bind (p0 z λh' tk H=>wpAny_pure ⟨_,rfl,wpAny_truthy_bool (by rw[y7];exact k h' tk H)⟩)) (FB.args_bytes_contains_2 _ _))
end
section
namespace BF
open Builtin
theorem oG:PySem.Slot "bytes" "find" "bytes.find":=
 .of (owner:="bytes") (n:="find") (by rw[typeLookup_type,builtinLookup_eq_fast];kernel_rfl) (by decide+kernel) (by decide+kernel) (by decide+kernel)
  (by first|exact .inl (by decide+kernel)|exact .inr (by decide+kernel)) (by rw[isSubtype_type];kernel_rfl)
theorem iN:PySem.Slot "bytes" "join" "bytes.join":=
 .of (owner:="bytes") (n:="join") (by rw[typeLookup_type,builtinLookup_eq_fast];kernel_rfl) (by decide+kernel) (by decide+kernel) (by decide+kernel)
  (by first|exact .inl (by decide+kernel)|exact .inr (by decide+kernel)) (by rw[isSubtype_type];kernel_rfl)
theorem mT:PySem.Slot "bytes" "strip" "bytes.strip":=
 .of (owner:="bytes") (n:="strip") (by rw[typeLookup_type,builtinLookup_eq_fast];kernel_rfl) (by decide+kernel) (by decide+kernel) (by decide+kernel)
  (by first|exact .inl (by decide+kernel)|exact .inr (by decide+kernel)) (by rw[isSubtype_type];kernel_rfl)
theorem mU:PySem.Slot "bytes" "split" "bytes.split":=
 .of (owner:="bytes") (n:="split") (by rw[typeLookup_type,builtinLookup_eq_fast];kernel_rfl) (by decide+kernel) (by decide+kernel) (by decide+kernel)
  (by first|exact .inl (by decide+kernel)|exact .inr (by decide+kernel)) (by rw[isSubtype_type];kernel_rfl)
theorem wy:typeOf (.builtin "bytes.find")=pure (.type "method_descriptor"):=by show builtinType _=_;rw[builtinType_eq_fast];kernel_rfl
theorem wz:typeOf (.builtin "bytes.join")=pure (.type "method_descriptor"):=by show builtinType _=_;rw[builtinType_eq_fast];kernel_rfl
theorem tO:typeOf (.builtin "bytes.strip")=pure (.type "method_descriptor"):=by show builtinType _=_;rw[builtinType_eq_fast];kernel_rfl
theorem tP:typeOf (.builtin "bytes.split")=pure (.type "method_descriptor"):=by show builtinType _=_;rw[builtinType_eq_fast];kernel_rfl
theorem tQ:entryFor table "bytes.find"=some Builtin.«bytes.find»:=entryFor_of_tree (by kernel_rfl)
theorem jm:entryFor table "bytes.join"=some Builtin.«bytes.join»:=entryFor_of_tree (by kernel_rfl)
theorem rA:entryFor table "bytes.strip"=some Builtin.«bytes.strip»:=entryFor_of_tree (by kernel_rfl)
theorem rC:entryFor table "bytes.split"=some Builtin.«bytes.split»:=entryFor_of_tree (by kernel_rfl)
theorem wA(a b c d:Value):argsOk "bytes.find" ⟨[a,b,c,d],[]⟩:=by
 unfold argsOk;rw[signature?_of (id:="bytes.find") (n:=['d','n','i','f']) (o:=['s','e','t','y','b']) (by kernel_rfl) FB.owner_bytes];kernel_rfl
theorem kH(a b:Value):argsOk "bytes.join" ⟨[a,b],[]⟩:=by
 unfold argsOk;rw[signature?_of (id:="bytes.join") (n:=['n','i','o','j']) (o:=['s','e','t','y','b']) (by kernel_rfl) FB.owner_bytes];kernel_rfl
theorem tR(a b:Value):argsOk "bytes.strip" ⟨[a,b],[]⟩:=by
 unfold argsOk;rw[signature?_of (id:="bytes.strip") (n:=['p','i','r','t','s']) (o:=['s','e','t','y','b']) (by kernel_rfl) FB.owner_bytes];kernel_rfl
theorem tS(a b:Value):argsOk "bytes.split" ⟨[a,b],[]⟩:=by
 unfold argsOk;rw[signature?_of (id:="bytes.split") (n:=['t','i','l','p','s']) (o:=['s','e','t','y','b']) (by kernel_rfl) FB.owner_bytes];kernel_rfl
end BF
variable{prog:Program}{w:World}
theorem BY{name:Str}{id:String}(sl:PySem.Slot "bytes" name id)(O:typeOf (.builtin id)=pure (.type "method_descriptor")){A:Around}{E:Value->Shared->Prop}{s:Shared}{Q:Value×List Value->Shared->Prop}{X:Sem Bool}{b:Array UInt8}{t:Tok}
  (q:Q (.builtin id,[.bytes b t]) s):wpAny (model prog w) A (getMethod (.bytes b t) name X) Q E s:=
 getMethod_builtin (typeIs_bytes _ _ _) FB.plainAttrs_bytes sl O (λB e=>nomatch e) q
theorem jO{m:Str}{id:String}{r:Option String}{n:Str}{i:String}(h:(if m=n then some i else r)=some id):(m=n/\i=id)\/r=some id:=by
 by_cases e:m=n
 .rw[if_pos e] at h;exact .inl ⟨e,Option.some.inj h⟩
 .rw[if_neg e] at h;exact .inr h
theorem tT{x:D}{m:Str}{id:String}(h:Mine.mid x m=some id){Y:Lay}{Z:ZP}{A:Around}{E:Value->Shared->Prop}{s:Shared}{Q:Value×List Value->Shared->Prop}{X:Sem Bool}{a:Value}
  (O:au Y Z a x) (q:Q (.builtin id,[a]) s):wpAny (model prog w) A (getMethod a m X) Q E s:=by
 rcases x with _|_<;>first|(cases h;done)|exact(O.inv:False).elim|skip
 .replace O:=O.f6;obtain⟨_,rfl⟩:=O;rcases jO (n:=Str.ofString "join") h with⟨rfl,rfl⟩|h
  .exact GM.join q
  .cases h
 .replace O:=O.bJ;obtain⟨_,rfl⟩:=O;rcases jO (n:=Str.ofString "find") h with⟨rfl,rfl⟩|h
  .exact BY BF.oG BF.wy q
  rcases jO (n:=Str.ofString "join") h with⟨rfl,rfl⟩|h
  .exact BY BF.iN BF.wz q
  rcases jO (n:=Str.ofString "strip") h with⟨rfl,rfl⟩|h
  .exact BY BF.mT BF.tO q
  rcases jO (n:=Str.ofString "split") h with⟨rfl,rfl⟩|h
  .exact BY BF.mU BF.tP q
  cases h
theorem tU{A:Around}{E:Value->Shared->Prop}{s:Shared}{Q:Value×List Value->Shared->Prop}{X:Sem Bool}{a:Addr}{vs:Array Value}{k:Nat}{m:Str}(h:s.heap.get? a=some (listOf vs k))(B:m="append"\/m="extend")
  (q:Q (.builtin (if m="append" then "list.append" else "list.extend"),[.ref a]) s):wpAny (model prog w) A (getMethod (.ref a) m X) Q E s:=by
 rcases B with e|e<;>subst e
 .rw[if_pos rfl] at q;exact Calls.getMethod_list_append h rfl rfl q
 .rw[if_neg (by decide+kernel)] at q;exact getMethod_builtin ⟨_,h,rfl⟩ PySem.F.plainAttrs_list PySem.F.slot_list_extend PySem.F.type_list_extend (λa e=>by cases e;exact⟨_,h,rfl⟩) q
theorem p7{A:Around}{E:Value->Shared->Prop}{s:Shared}{Q:Value->Shared->Prop}{a b:Addr}{z vs:List Value}{k k':Nat}(_:a≠b)(O:s.heap.get? a=some (listOf z.toArray k))(X:s.heap.get? b=some (listOf vs.toArray k'))(H:z.length+vs.length<lim)
  (q: ∀h' u,h'.get? a=some (listOf (z++vs).toArray u)->Heap.SameBut a s.heap h'->Q .none {s with heap:=h'}):wpAny (model prog w) A (PySem.call (.builtin "list.extend") [.ref a,.ref b]) Q E s:=by
 have hs:sizeLine=lim:=rfl;refine call_meets PySem.F.slot_list_extend ⟨_,O,rfl⟩ PySem.F.entry_list_extend (PySem.F.args_list_extend_2 _ _) (AutoSeq1.list_extend_list_list_0 a z.toArray k b vs.toArray k' ?_ ?_ ?_) ⟨O,X,?_⟩
 .have:Builtin.List.listTooLong (z.toArray.size+vs.toArray.size)=false:=by
   unfold Builtin.List.listTooLong;rw[hs];exact decide_eq_false (by simp;exact aj H)
  rw[this];simp
 .rw[hs];simp;exact aj H
 .rw[hs];simp;exact aj H
 .obtain⟨u,e⟩: ∃u,Obj.mapSeq (· ++vs.toArray) (listOf z.toArray k)=listOf (z.toArray++vs.toArray) u:=⟨_,rfl⟩
  refine q _ u ?_ (.update _ _ _);rw[Heap.get?_update_self _ O rfl,e,List.append_toArray]
end
theorem u3(pre:List UInt8)(x:UInt8)(r:List UInt8)(c:UInt8){n:Nat}(z:n=pre.length):((pre++x::r).toArray.extract n (n+1)== #[c])=(x==c):=by
 subst z;have:(pre++x::r).toArray.extract pre.length (pre.length+1)= #[x]:=by
  apply Array.toList_inj.mp;simp[List.extract_eq_drop_take]
 rw[this];rw[Bool.eq_iff_iff];simp
theorem tV(c:UInt8): ∀(n:Nat) (pre b:List UInt8),n<=b.length->((List.range n).map (· +pre.length)).find? (λi=>(pre++b).toArray.extract i (i+1)== #[c])=((b.take n).findIdx? (· ==c)).map (pre.length+ ·):=by
 intro X;induction X with
 |zero=>
  intro B B B;exact rfl
 |succ n u=>
  intro pre b h;rcases b with _|⟨x,r⟩
  .simp at h
  .have z:=u (pre++[x]) r (by simpa using h);rw[List.range_succ_eq_map,List.map_cons,List.find?_cons,List.take_succ_cons,List.findIdx?_cons];rw[u3 pre x r c (by simp+arith only)];rcases hx:x==c with _|_
   .simp only[List.map_map];have e:((λx=>x+pre.length)∘Nat.succ)=(· +(pre++[x]).length):=by
     funext i;simp;simp+arith only
    rw[e];have:pre++x::r=(pre++[x])++r:=by simp
    rw[this,z];rcases hq:(r.take n).findIdx? (· ==c) with _|k
    .rfl
    .simp;simp+arith only
   .simp
theorem y8(c:UInt8)(b:List UInt8)(i j:Nat)(h:j<=b.length)(u:i<j):Builtin.Bytes.find? b.toArray #[c] i j=(((b.drop i).take (j-i)).findIdx? (· ==c)).map (i+ ·):=by
 unfold Builtin.Bytes.find?;have:=tV c (j-i) (b.take i) (b.drop i) (by rw[List.length_drop];exact Nat.sub_le_sub_right h i);rw[List.take_append_drop,List.length_take,Nat.min_eq_left (by exact bp h u)] at this;have e:j+1-(i+(#[c]:Array UInt8).size)=j-i:=by simp
 rw[e];exact this
noncomputable def cH(c:UInt8):Nat->List UInt8->List Nat
 |_,[]=>[]
 |n,x::r=>if x==c then n::cH c (n+1) r else cH c (n+1) r
theorem y_(c:UInt8): ∀(ac pre:List UInt8) (acc:List Nat) (e:Nat),e<=pre.length->(((List.range ac.length).map (· +pre.length)).foldl (λ(acc:List Nat×Nat) (i:Nat)=>if i>=acc.2&&(pre++ac).toArray.extract i (i+(#[c]:Array UInt8).size)== #[c] then(i::acc.1,i+(#[c]:Array UInt8).size) else acc) (acc,e)).1=(cH c pre.length ac).reverse++acc:=by
 intro X;induction X with
 |nil=>
  intro B B B B;exact rfl
 |cons x r u=>
  intro pre acc e z;rw[List.length_cons,List.range_succ_eq_map,List.map_cons,List.foldl_cons];have e1:((λx=>x+pre.length)∘Nat.succ)=(· +(pre++[x]).length):=by
   funext i;simp;simp+arith only
  rw[List.map_map,e1];have H:pre++x::r=(pre++[x])++r:=by simp
  have e3:((pre++x::r).toArray.extract (0+pre.length) (0+pre.length+(#[c]:Array UInt8).size)== #[c])=(x==c):=u3 pre x r c (Nat.zero_add _);rw[e3];have O:decide (0+pre.length>=e)=true:=decide_eq_true (by exact aj z);simp only[O,Bool.true_and];rw[H];unfold cH;rcases hx:x==c with _|_
  .rw[if_neg (by decide),if_neg (by decide),u (pre++[x]) _ _ (by simp;exact aj z)];simp
  .rw[if_pos rfl,if_pos rfl,u (pre++[x]) _ _ (by simp)];simp
theorem occ_eq(c:UInt8)(b:List UInt8):Builtin.Bytes.occurrences b.toArray #[c] 0 b.toArray.size=cH c 0 b:=by
 have:=y_ c b [] [] 0 (Nat.le_refl _);simp only[List.nil_append,List.length_nil] at this;unfold Builtin.Bytes.occurrences;have e:b.toArray.size+1-(0+(#[c]:Array UInt8).size)=b.length:=by simp
 rw[e];exact(congrArg List.reverse this).trans (by simp)
noncomputable def BZ(p:List UInt8):List (List UInt8)->List (List UInt8)
 |[]=>[]
 |x::r=>(p++x)::r
theorem rD(c:UInt8): ∀b,aX c b≠[]:=by
 intro X;induction X with
 |nil=>
  intro h;cases h
 |cons x r u=>
  unfold aX;split
  .intro h;cases h
  .split
   .intro h;cases h
   .intro h;cases h
theorem za(c:UInt8): ∀(B pre:List UInt8) (z:Array (Array UInt8)) (last:Nat),last<=pre.length->
  (λ(r:Array (Array UInt8)×Nat)=>(r.1.push ((pre++B).toArray.extract r.2 (pre++B).toArray.size)).toList) ((cH c pre.length B).foldl (λ(x:Array (Array UInt8)×Nat) p=>(x.1.push ((pre++B).toArray.extract x.2 p),p+1)) (z,last))=
   z.toList++(BZ (pre.drop last) (aX c B)).map List.toArray:=by
 intro X;induction X with
 |nil=>
  intro pre z last h;show(z.push ((pre++[]).toArray.extract last (pre++[]).toArray.size)).toList=z.toList++[(pre.drop last++[]).toArray]
  rw[Array.toList_push];congr 2;apply Array.toList_inj.mp;simp[List.extract_eq_drop_take];exact List.take_of_length_le (by rw[List.length_drop];exact Nat.le_refl _)
 |cons x r u=>
  intro pre z last h;have H:pre++x::r=(pre++[x])++r:=by simp
  have O:(pre++[x]).length=pre.length+1:=by simp
  unfold cH aX;rcases hx:x==c with _|_
  .rw[if_neg (by decide),if_neg (by decide),H,<-O];refine(u (pre++[x]) _ _ (by exact bp h (Nat.le_of_eq (Eq.symm O)))).trans ?_;congr 2;rw[List.drop_append_of_le_length h];rcases hs:aX c r with _|⟨y,ys⟩
   .exact absurd hs (rD c r)
   .simp[BZ]
  .rw[if_pos rfl,if_pos rfl,List.foldl_cons,H,<-O];refine(u (pre++[x]) _ _ (by simp+arith only)).trans ?_;rw[Array.toList_push,List.append_assoc];congr 1;have e6:(pre++[x]).drop (pre++[x]).length=[]:=List.drop_length;rw[e6];have e7:BZ [] (aX c r)=aX c r:=by cases aX c r<;>rfl
   rw[e7];refine congrArg (· ::List.map List.toArray (aX c r)) ?_;apply Array.toList_inj.mp;simp only[List.append_nil,Array.toList_extract,List.extract_eq_drop_take];rw[List.append_assoc,List.drop_append_of_le_length h,List.take_append_of_le_length (by rw[List.length_drop];simp+arith only)];rw[List.take_of_length_le (by rw[List.length_drop];simp+arith only)]
theorem EG(c:UInt8)(b:List UInt8):Builtin.Bytes.between b.toArray 1 (cH c 0 b)=(aX c b).map List.toArray:=by
 have:=za c b [] #[] 0 (Nat.le_refl _);simp only[List.nil_append,List.length_nil,List.drop_nil] at this;have u:BZ [] (aX c b)=aX c b:=by cases aX c b<;>rfl
 rw[u] at this;unfold Builtin.Bytes.between;exact this
theorem pos_none(c:UInt8): ∀(b:List UInt8) (n:Nat),cH c n b=[]->aX c b=[b]:=by
 intro X;induction X with
 |nil=>
  intro B B;exact rfl
 |cons x r u=>
  intro n h;unfold cH at h;unfold aX;rcases hx:x==c with _|_
  .rw[hx,if_neg (by decide)] at h;rw[if_neg (by decide),u _ h]
  .rw[hx,if_pos rfl] at h;cases h
theorem B0(c:UInt8): ∀(b:List UInt8) (n:Nat),(cH c n b).length<=b.length:=by
 intro X;induction X with
 |nil=>
  intro B;exact Nat.le_refl _
 |cons x r u=>
  intro n;unfold cH;rcases hx:x==c with _|_
  .rw[if_neg (by decide)];exact Nat.le_succ_of_le (u _)
  .rw[if_pos rfl];exact Nat.succ_le_succ (u _)
theorem split_len(c:UInt8): ∀(b:List UInt8),(aX c b).length<=b.length+1/\ ∀y∈aX c b,y.length<=b.length:=by
 intro X;induction X with
 |nil=>
  exact⟨Nat.le_refl _,λy m=>by cases m with|head=>exact Nat.le_refl _|tail _ m=>cases m⟩
 |cons x r H=>
  obtain⟨u,B⟩:=H;unfold aX;rcases hx:x==c with _|_
  .rw[if_neg (by decide)];rcases hs:aX c r with _|⟨y,ys⟩
   .exact absurd hs (rD c r)
   .rw[hs] at u B;refine⟨Nat.le_succ_of_le u,λz m=> ?_⟩;rcases List.mem_cons.mp m with rfl|m
    .exact Nat.succ_le_succ (B y (.head _))
    .exact Nat.le_succ_of_le (B z (.tail _ m))
  .rw[if_pos rfl];refine⟨Nat.succ_le_succ u,λy m=> ?_⟩;rcases List.mem_cons.mp m with rfl|m
   .exact Nat.zero_le _
   .exact Nat.le_succ_of_le (B y m)
theorem Hm{p:UInt8->Bool}: ∀b:List UInt8,(b.dropWhile p).Sublist b:= λb=>List.dropWhile_sublist p
theorem strip_eq{O b:List UInt8}(h:(ek O b).length=b.length):ek O b=b:=by
 have u:(ek O b).Sublist b:=by
  unfold ek;have a:=(List.dropWhile_sublist (l:=(b.dropWhile (O.contains ·)).reverse) (O.contains ·)).reverse;rw[List.reverse_reverse] at a;exact a.trans (List.dropWhile_sublist _)
 exact u.eq_of_length h
theorem wC{O b:List UInt8}:(ek O b).length<=b.length:=by
 have u:(ek O b).Sublist b:=by
  unfold ek;have a:=(List.dropWhile_sublist (l:=(b.dropWhile (O.contains ·)).reverse) (O.contains ·)).reverse;rw[List.reverse_reverse] at a;exact a.trans (List.dropWhile_sublist _)
 exact u.length_le
section
variable{prog:Program}{w:World}{Y:Lay}{env:Env}{T:List Addr}{os:List (Addr×Obj)}{G:GL}{Z:ZP}{A:Around}{E:Value->Shared->Prop}{s:Shared}{Q:Value->Shared->Prop}
noncomputable def Left(Y:Lay)(env:Env)(T:List Addr)(os:List (Addr×Obj))(G:GL)(Z:ZP)(s:Shared)(mv:MV)(Q:Value->Shared->Prop):Prop:=
 ∀(sl:Slot) (Z':ZP) (s':Shared),sl.mv=mv->Rel Y env T (sl.os++os) G Z' s'.heap->b_ Y Z' sl->bN T (WW os G) Z s (WW (sl.os++os) G) Z' s'->Q sl.v s'
theorem gb(R:Rel Y env T os G Z s.heap){x:D}(k:Left Y env T os G Z s (.d x) Q){v:Value}(z:au Y Z v x){s':Shared}(B: ∀b o,s.heap.get? b=some o->s'.heap.get? b=some o)(O:s'.os=s.os:=by rfl)(u:s'.gens=s.gens:=by rfl):Q v s':=
 k ⟨v,.d x,[]⟩ Z s' rfl (R.grown B) ⟨z,rfl⟩ ⟨Go.grown B,O,u⟩
theorem Rel.JC(R:Rel Y env T os G Z s.heap){a:Addr}{o:Obj}{h':Heap}(u: ∀b o,s.heap.get? b=some o->h'.get? b=some o)(X:s.heap.get? a=none)(O:h'.get? a=some o):Rel Y env T ((a,o)::os) G Z h':=by
 refine R.move (V:=[]) (V':=[]) (Z':=Z) ⟨λb o e B B=>u b o e,λb o e B B=>⟨o.slots,u b o e⟩,λB B e=>e,λB B e=>.inl e,λB m=>nomatch m⟩ (λB m=>nomatch m)
  rfl (λp H=>(R.vars p H).2) (λp H=> ?_) ?_ (λp H=> ?_) (λp H=> ?_) (λa o e=>u a o (R.Zh a o e))
 .rcases List.mem_cons.mp H with rfl|H
  .exact O
  .exact u _ _ (R.own p H)
 .refine List.nodup_cons.mpr ⟨λm=> ?_,R.nodup⟩;obtain⟨q,hq,e⟩:=List.mem_map.mp m;have:=R.own q hq;rw[e,X] at this;cases this
 .rcases List.mem_cons.mp H with rfl|H
  .exact .inr X
  .exact .inl (List.mem_map_of_mem H)
 .rcases List.mem_cons.mp H with rfl|H
  .intro o q;have:=R.Zh _ _ q;rw[X] at this;cases this
  .exact(R.b7 p H).2.2
theorem zb(R:Rel Y env T os G Z s.heap){xs:List D}(k:Left Y env T os G Z s (.own (.lst xs)) Q){a:Addr}{vs:List Value}{n:Nat}(z:aO Y Z vs xs){s':Shared}(H: ∀b o,s.heap.get? b=some o->s'.heap.get? b=some o)(X:s.heap.get? a=none)
  (O:s'.heap.get? a=some (listOf vs.toArray n)) (ho:s'.os=s.os:=by rfl) (u:s'.gens=s.gens:=by rfl):Q (.ref a) s':=
 k ⟨.ref a,.own (.lst xs),[(a,listOf vs.toArray n)]⟩ Z s' rfl (R.JC H X O) (dD.lst z)
  ⟨⟨λb o e B B=>H b o e,λb o e B B=>⟨o.slots,H b o e⟩,λB B e=>e,λB B e=>.inl e,λb m=>by
   rcases List.mem_cons.mp m with rfl|m
   .exact .inr X
   .exact .inl m⟩,ho,u⟩
theorem d0{vs:List Value}{ds:List D}{x:D}(h:aO Y Z vs ds)(e:one? ds=some x): ∃v,vs=[v]/\au Y Z v x:=by
 obtain rfl:=pO e
 match vs,h with
 |[v],h=>exact⟨v,rfl,h.inv.1⟩
 |[],h=>exact absurd h.1 (by simp)
 |_::_::_,h=>exact absurd h.1 (by simp)
theorem u7{vs:List Value}{ds:List D}{p:D×D}(h:aO Y Z vs ds)(e:sW ds=some p): ∃u v,vs=[u,v]/\au Y Z u p.1/\au Y Z v p.2:=by
 rcases ds with _|⟨a,r⟩
 .cases e
 .obtain⟨b,z,rfl⟩:=ar e;obtain rfl:=pO z
  match vs,h with
  |[u,v],h=>exact⟨u,v,rfl,h.inv.1,h.inv.2.inv.1⟩
  |[],h=>exact absurd h.1 (by simp)
  |[_],h=>exact absurd h.1 (by simp)
  |_::_::_::_,h=>exact absurd h.1 (by simp)
theorem zc{vs:List Value}{xs:List D}{b:List UInt8}(h:aO Y Z vs xs)(e:cE mh xs=some b): ∃ns:List Int,IntsAre vs ns/\(∀n∈ns,0<=n/\n<256)/\byteArr ns=b.toArray:=by
 induction xs generalizing vs b with
 |nil=>
  cases e
  match vs,h with
  |[],_=>exact⟨[],.nil,(λn m=>by cases m),rfl⟩
  |_::_,h=>exact absurd h.1 (by simp)
 |cons x xs B=>
  obtain⟨c,e1,H⟩:=ae e;obtain⟨r,e3,rfl⟩:=ar H
  match vs,h with
  |[],h=>exact absurd h.1 (by simp)
  |v::vs,h=>
   obtain⟨ns,u,z,X⟩:=B h.inv.2 e3;have O:=h.inv.1;rcases x with _|_|i|_|_|_|_|_|_|_|_|_|_|_<;>try(cases e1;done)
   .replace O:=O.cT;obtain⟨_,rfl⟩:=O;obtain⟨hi,rfl⟩:=aJ e1;refine⟨i::ns,.cons i _ u,λn m=> ?_,?_⟩
    .rcases List.mem_cons.mp m with rfl|m
     .exact hi
     .exact z n m
    .unfold byteArr at X⊢;have:=congrArg Array.toList X;simp only[List.map_cons];apply Array.toList_inj.mp;simpa using this
theorem rE{ns:List Int}{b:List UInt8}(h:byteArr ns=b.toArray):ns.length=b.length:=by
 have:=congrArg Array.size h;simpa[byteArr] using this
theorem Hn(R:Rel Y env T os G Z s.heap){ds:List D}{vs:List Value}{mv:MV}(h:aO Y Z vs ds)(e:gr .len ds=some mv)(k:Left Y env T os G Z s mv Q):wpAny (model prog w) A (PySem.call (.builtin "len") vs) Q E s:=by
 obtain⟨x,e1,e2⟩:=ae e;obtain⟨n,X,rfl⟩:=ar e2;obtain⟨v,rfl,z⟩:=d0 h e1;rcases x with _|_|_|u|u|u|u|_|_|_|_|_|_|_<;>try(cases X;done)
 .obtain⟨H,rfl⟩:=aJ X;replace z:=z.f6;obtain⟨_,rfl⟩:=z;exact P.len_str (by show ¬((u.toArray.size:Int)>=2^63);simp only[List.size_toArray];exact Int.not_le.mpr (l8 H)) (by
   have:(PySem.Str.length ⟨u.toArray⟩:Int)=(u.length:Int):=by show((u.toArray.size:Nat):Int)=_;simp
   rw[this];exact gb R k (.int _ _) λB B e=>e)
 .obtain⟨H,rfl⟩:=aJ X;replace z:=z.bJ;obtain⟨_,rfl⟩:=z;exact len_bytes (by simp only[List.size_toArray];unfold lim at H;exact aj H) (by rw[List.size_toArray];exact gb R k (.int _ _) λB B e=>e)
 .obtain⟨H,rfl⟩:=aJ X;obtain⟨a,vs,m,rfl,O,hh⟩:=z.isTup R.Zh;exact len_tuple (items:=vs.toArray) ⟨_,O,rfl,m,rfl⟩ (by simp only[List.size_toArray];rw[hh.1];exact l8 H) (by rw[List.size_toArray,hh.1];exact gb R k (.int _ _) λB B e=>e)
 .obtain⟨H,rfl⟩:=aJ X;obtain⟨a,vs,m,rfl,O,hh⟩:=z.isList R.Zh;exact Calls.call_len_list (items:=vs.toArray) ⟨_,O,rfl,m,rfl⟩ (by simp only[List.size_toArray];rw[hh.1];exact l8 H) (by rw[List.size_toArray,hh.1];exact gb R k (.int _ _) λB B e=>e)
theorem Ho(R:Rel Y env T os G Z s.heap)(hA:uP A){ds:List D}{vs:List Value}{mv:MV}(h:aO Y Z vs ds)(e:gr .min ds=some mv)(k:Left Y env T os G Z s mv Q):wpAny (model prog w) A (PySem.call (.builtin "min") vs) Q E s:=by
 obtain⟨p,e1,H⟩:=ae e;obtain⟨a,X,e4⟩:=ae H;obtain⟨b,e5,rfl⟩:=ar e4;obtain⟨u,v,rfl,B,z⟩:=u7 h e1;rw[aD X] at B;rw[aD e5] at z;replace B:=B.cT;obtain⟨_,rfl⟩:=B;replace z:=z.cT;obtain⟨_,rfl⟩:=z;refine PySem.min_two_ints hA.handled λh' tk O=> ?_;by_cases c:b<a
 .rw[if_pos c];rw[if_pos c] at k;exact gb R k (.int _ _) O
 .rw[if_neg c];rw[if_neg c] at k;exact gb R k (.int _ _) O
theorem Hp(R:Rel Y env T os G Z s.heap){ds:List D}{vs:List Value}{mv:MV}(h:aO Y Z vs ds)(e:gr .chr ds=some mv)(k:Left Y env T os G Z s mv Q):wpAny (model prog w) A (PySem.call (.builtin "chr") vs) Q E s:=by
 obtain⟨x,e1,H⟩:=ae e;obtain⟨i,X,O⟩:=ae H;obtain⟨u,rfl⟩:=aJ O;obtain⟨v,rfl,z⟩:=d0 h e1;rw[aD X] at z;replace z:=z.cT;obtain⟨_,rfl⟩:=z;exact P.chr_of_int (by rw[decide_eq_false (Int.not_lt.mpr u.1),decide_eq_false (Int.not_lt.mpr (Int.le_sub_one_of_lt u.2))];rfl) (gb R k (.str [i.toNat] _) λB B e=>e)
theorem Hq(R:Rel Y env T os G Z s.heap){ds:List D}{vs:List Value}{mv:MV}(h:aO Y Z vs ds)(e:gr .ord ds=some mv)(k:Left Y env T os G Z s mv Q):wpAny (model prog w) A (PySem.call (.builtin "ord") vs) Q E s:=by
 obtain⟨x,u,H⟩:=ae e;obtain⟨i,X,e4⟩:=ae H;obtain⟨c,O,rfl⟩:=ar e4;obtain⟨v,rfl,z⟩:=d0 h u;rw[cz X] at z
 match i,O with
 |[],O=>cases O
 |[a],O=>
  cases O;replace z:=z.f6;obtain⟨_,rfl⟩:=z;exact P.ord_of_char (gb R k (.int _ _) λB B e=>e)
 |_::_::_,O=>cases O
theorem EH(R:Rel Y env T os G Z s.heap){ds:List D}{vs:List Value}{mv:MV}(h:aO Y Z vs ds)(e:gr .list ds=some mv)(k:Left Y env T os G Z s mv Q):wpAny (model prog w) A (PySem.call (.type "list") vs) Q E s:=by
 obtain⟨x,u,H⟩:=ae e;obtain⟨xs,X,e4⟩:=ae H;obtain⟨B,rfl⟩:=aJ e4;obtain⟨v,rfl,z⟩:=d0 h u;rw[bI X] at z;obtain⟨a,vs,m,rfl,O,hh⟩:=z.isList R.Zh;exact call_list_seq (items:=vs.toArray) (n:=m) a (.inl rfl) O rfl rfl (λh' c' hk hs=>zb R k hh hk (aK (Nat.le_refl _)) hs) (hsz:=by rw[List.size_toArray,hh.1];exact Nat.le_trans (jy xs) B)
theorem B1(R:Rel Y env T os G Z s.heap)(hA:uP A){ds:List D}{vs:List Value}{mv:MV}(h:aO Y Z vs ds)(e:gr .bytes ds=some mv)(k:Left Y env T os G Z s mv Q):wpAny (model prog w) A (PySem.call (.type "bytes") vs) Q E s:=by
 refine hide λP9 b9=> ?_;obtain⟨x,e1,H⟩:=ae e;obtain⟨xs,e3,e4⟩:=ae H;obtain⟨b,e5,B⟩:=ae e4;obtain⟨X,rfl⟩:=aJ B;obtain⟨v,rfl,hv⟩:=d0 h e1;refine b9 ?_;rw[bI e3] at hv;refine hide λP9 b9=> ?_;obtain⟨a,vs,m,rfl,O,hh⟩:=hv.isList R.Zh;obtain⟨ns,u,z,h3⟩:=zc hh e5;refine b9 ?_;exact call_bytes_ints ⟨_,O,rfl,m,rfl⟩ u z (by rw[u.length,rE h3];exact X) hA.handled λh' t tk hk=>gb R k (by rw[h3];exact .bytes _ _) hk
end
section
variable{prog:Program}{w:World}{Y:Lay}{env:Env}{T:List Addr}{os:List (Addr×Obj)}{G:GL}{Z:ZP}{A:Around}{E:Value->Shared->Prop}{s:Shared}{Q:Value->Shared->Prop}
theorem oH{M:Model}{i:Int}{t:Tok}{Q:Option Int->Shared->Prop}(h:Q (some i) s):wpAny M A (Builtin.Bytes.bound? (some (.int i t))) Q E s:=by
 refine wpAny_bind (wpAny_specialOf (typeIs_int s i t) PySem.F.slot_int_index.lookup ?_);exact wpAny_bind (wpAny_pure (wpAny_pure h))
theorem tW(b:List UInt8)(c:UInt8){i j:Int}(u:0<=i)(X:0<=j):
  (match(if(Builtin.Bytes.window b.toArray.size (some i) (some j)).2-(Builtin.Bytes.window b.toArray.size (some i) (some j)).1<((#[c]:Array UInt8).size:Int) then none else some ((Builtin.Bytes.window b.toArray.size (some i) (some j)).1.toNat,(Builtin.Bytes.window b.toArray.size (some i) (some j)).2.toNat):Option (Nat×Nat)).bind λx=>Builtin.Bytes.find? b.toArray #[c] x.1 x.2 with
   |some k=>(k:Int)
   |none=> -1)=findB c b (min i.toNat b.length) (min j.toNat b.length):=by
 have z:(Builtin.Bytes.window b.toArray.size (some i) (some j)).1=i:=by
  show(if i<0 then max 0 (i+_) else i)=i;rw[if_neg (Int.not_lt.mpr u)]
 have H:(Builtin.Bytes.window b.toArray.size (some i) (some j)).2=min (b.length:Int) j:=by
  show min (b.toArray.size:Int) (if j<0 then max 0 (j+_) else j)=_;rw[if_neg (Int.not_lt.mpr X),List.size_toArray]
 rw[z,H];clear z H;obtain⟨i,rfl⟩:=Int.eq_ofNat_of_zero_le u;obtain⟨j,rfl⟩:=Int.eq_ofNat_of_zero_le X;rw[qE,Int.toNat_natCast,Int.toNat_natCast,Int.toNat_natCast,Nat.min_comm b.length]
 delta findB cut
 by_cases h:min j b.length<=i
 .rw[if_pos (by simpa using l_.mpr h)];have:((b.drop (min i b.length)).take (min j b.length-min i b.length))=[]:=by
   rw[Nat.sub_eq_zero_of_le (Nat.le_min.mpr ⟨h,Nat.min_le_right _ _⟩),List.take_zero]
  rw[this];rfl
 .rw[if_neg (by simpa usingλq=>h (l_.mp q))];have h':=Nat.lt_of_not_le h;have B:min i b.length=i:=Nat.min_eq_left (Nat.le_of_lt (Nat.lt_of_lt_of_le h' (Nat.min_le_right _ _)));show(match Builtin.Bytes.find? b.toArray #[c] i (min j b.length) with|some k=>(k:Int)|none=> -1)=_;rw[B,y8 c b _ _ (Nat.min_le_right _ _) h'];rcases((b.drop i).take (min j b.length-i)).findIdx? (· ==c) with _|k
  .rfl
  .exact Int.natCast_add i k
theorem wD(b:List UInt8)(c:UInt8){i j:Int}{t u p q:Tok}(H:0<=i)(X:0<=j)(k: ∀v z,v= .int (findB c b (min i.toNat b.length) (min j.toNat b.length)) z-> ∀tk,Q v {s with toks:=tk}):
  wpAny (model prog w) A (PySem.call (.builtin "bytes.find") [.bytes b.toArray t,.bytes [c].toArray u,.int i p,.int j q]) Q E s:=by
 refine wpAny_call_entry BF.oG (typeIs_bytes s _ t) BF.tQ ?_ (BF.wA _ _ _ _);refine wpAny_bind ?_;show wpAny _ _ (Builtin.Bytes.bound? (some (.int i p))>>= λr=>_) _ _ s;refine wpAny_bind (oH ?_);show wpAny _ _ (Builtin.Bytes.bound? (some (.int j q))>>= λr=>_) _ _ s;refine wpAny_bind (oH ?_);show wpAny _ _ (Builtin.Bytes.buffer? _ (.bytes [c].toArray u)>>= λr=>_) _ _ s;refine wpAny_bind (wpAny_of_eq KBy.buffer_eq ?_);refine wpAny_bind (wpAny_pure ?_);have B:=tW b c H X;refine wpAny_pure ?_;show wpAny _ _ (match(if(Builtin.Bytes.window b.toArray.size (some i) (some j)).2-(Builtin.Bytes.window b.toArray.size (some i) (some j)).1<((#[c]:Array UInt8).size:Int) then none else some ((Builtin.Bytes.window b.toArray.size (some i) (some j)).1.toNat,(Builtin.Bytes.window b.toArray.size (some i) (some j)).2.toNat):Option (Nat×Nat)).bind λx=>Builtin.Bytes.find? b.toArray #[c] x.1 x.2 with
   |some k=>retInt k
   |none=>_) _ _ s
 rcases hq:(if(Builtin.Bytes.window b.toArray.size (some i) (some j)).2-(Builtin.Bytes.window b.toArray.size (some i) (some j)).1<((#[c]:Array UInt8).size:Int) then none else some ((Builtin.Bytes.window b.toArray.size (some i) (some j)).1.toNat,(Builtin.Bytes.window b.toArray.size (some i) (some j)).2.toNat):Option (Nat×Nat)).bind λx=>Builtin.Bytes.find? b.toArray #[c] x.1 x.2 with _|n
 .rw[hq] at B;refine wpAny_bind (wpAny_rule ?_);show wpAny _ _ (retInt (-1)) _ _ s;exact wpAny_bind (wpAny_mkInt (wpAny_pure ⟨_,rfl,k _ _ (by rw[<-B]) _⟩))
 .rw[hq] at B;exact wpAny_bind (wpAny_mkInt (wpAny_pure ⟨_,rfl,k _ _ (by rw[<-B]) _⟩))
theorem tX(b O:List UInt8){t u:Tok}(X:b.length<=lim)(k: ∀B tk,Q (.bytes (ek O b).toArray B) {s with toks:=tk}):
  wpAny (model prog w) A (PySem.call (.builtin "bytes.strip") [.bytes b.toArray t,.bytes O.toArray u]) Q E s:=by
 refine wpAny_call_entry BF.mT (typeIs_bytes s _ t) BF.rA ?_ (BF.tR _ _);show wpAny _ _ (Builtin.Bytes.bytesLike _ (.bytes O.toArray u)>>= λr=>_) _ _ s;refine wpAny_bind ?_;refine wpAny_bind (wpAny_of_eq KBy.buffer_eq ?_);refine wpAny_pure ?_;have e:(O.toArray.contains:UInt8->Bool)=(O.contains ·):=by funext x;exact List.contains_toArray
 have H:((b.toArray.toList.dropWhile O.toArray.contains).reverse.dropWhile O.toArray.contains).reverse=ek O b:=by rw[e];rfl
 show wpAny _ _ (if((((b.toArray.toList.dropWhile O.toArray.contains).reverse.dropWhile O.toArray.contains).reverse).length==b.toArray.size)=true then _ else(Builtin.Bytes.Kind.new .bytes ((((b.toArray.toList.dropWhile O.toArray.contains).reverse.dropWhile O.toArray.contains).reverse).toArray)>>= λr=>ret r)) _ _ s;rw[H];by_cases h:((ek O b).length==b.toArray.size)=true
 .rw[if_pos h];refine wpAny_bind (wpAny_rule ?_);have z:ek O b=b:=strip_eq (by simpa using h);rw[z] at k;refine wpAny_bind ?_;show wpAny _ _ (typeOf (.bytes b.toArray t)>>= λr=>_) _ _ s;refine wpAny_bind (wpAny_typeOf (typeIs_bytes s _ t) ?_);exact wpAny_pure (wpAny_pure ⟨_,rfl,k _ _⟩)
 .rw[if_neg h];refine wpAny_bind ?_;exact wpAny_mkBytes (wpAny_pure ⟨_,rfl,k _ _⟩) (by rw[List.size_toArray];exact Nat.le_trans wC X)
theorem tY{M:Model}: ∀(l:List (List UInt8)) {s:Shared} {Q:List Value->Shared->Prop},(∀y∈l,y.length<=lim)->(∀vs tk,aO Y Z vs (l.map .bytes)->Q vs {s with toks:=tk})->wpAny M A ((l.map List.toArray).mapM (Builtin.Bytes.Kind.new .bytes)) Q E s:=by
 intro X;induction X with
 |nil=>
  intro s Q B k;rw[List.map_nil,List.mapM_nil];exact wpAny_pure (k [] s.toks .nil)
 |cons x r u=>
  intro s Q h k;rw[List.map_cons,List.mapM_cons];refine wpAny_bind (wpAny_mkBytes ?_ (by rw[List.size_toArray];exact h x (.head _)));refine wpAny_bind (u (λy m=>h y (.tail _ m)) λvs tk z=> ?_);exact wpAny_pure (k _ tk (.cons (.bytes _ _) z))
theorem tZ(b:List UInt8)(c:UInt8){t u:Tok}(X:b.length<lim)(k: ∀vs tk,aO Y Z vs ((aX c b).map .bytes)->Q (.ref s.heap.objs.size) {s with heap:=s.heap.push {cls:=.type "list",data:=.seq vs.toArray},toks:=tk}):
  wpAny (model prog w) A (PySem.call (.builtin "bytes.split") [.bytes b.toArray t,.bytes [c].toArray u]) Q E s:=by
 refine wpAny_call_entry BF.mU (typeIs_bytes s _ t) BF.rC ?_ (BF.tS _ _);have H: ∀id:String,Builtin.Bytes.bindOptional id "split" ["sep","maxsplit"] [.bytes [c].toArray u] []=pure [some (.bytes [c].toArray u),none]:= λid=>by kernel_rfl
 refine wpAny_bind (wpAny_of_eq (H _) ?_);show wpAny _ _ (Builtin.Bytes.bytesLike _ (.bytes [c].toArray u)>>= λr=>_) _ _ s;refine wpAny_bind ?_;refine wpAny_bind (wpAny_of_eq KBy.buffer_eq ?_);refine wpAny_pure ?_;have B:cH c 0 b=(cH c 0 b).take (b.length+1):=(List.take_of_length_le (Nat.le_succ_of_le (B0 c b 0))).symm;show wpAny _ _ (if(((Builtin.Bytes.occurrences b.toArray #[c] 0 b.toArray.size).take (b.toArray.size+1)).isEmpty)=true then _ else((Builtin.Bytes.between b.toArray 1 ((Builtin.Bytes.occurrences b.toArray #[c] 0 b.toArray.size).take (b.toArray.size+1))).mapM (Builtin.Bytes.Kind.new .bytes)>>= λl=>newList l>>= λr=>ret r)) _ _ s;rw[occ_eq,List.size_toArray,<-B,EG];obtain⟨O,l2⟩:=split_len c b;by_cases h:(cH c 0 b).isEmpty=true
 .rw[if_pos h];refine wpAny_bind (wpAny_rule ?_);rw[pos_none c b 0 (by simpa using h)] at k;refine wpAny_bind ?_;show wpAny _ _ (typeOf (.bytes b.toArray t)>>= λr=>_) _ _ s;refine wpAny_bind (wpAny_typeOf (typeIs_bytes s _ t) ?_);refine wpAny_pure ?_;refine wpAny_bind (wpAny_newList ?_);exact wpAny_pure ⟨_,rfl,k [_] s.toks (.cons (.bytes _ _) .nil)⟩
 .rw[if_neg h];refine wpAny_bind (tY (Y:=Y) (Z:=Z) (aX c b) (λy m=>Nat.le_trans (l2 y m) (Nat.le_of_lt X)) λvs tk z=> ?_);refine wpAny_bind (wpAny_newList ?_ (by rw[z.1,List.length_map];exact Nat.le_trans O X));exact wpAny_pure ⟨_,rfl,k _ _ z⟩
end
section
variable{prog:Program}{w:World}{Y:Lay}{env:Env}{T:List Addr}{os:List (Addr×Obj)}{G:GL}{Z:ZP}{A:Around}{E:Value->Shared->Prop}{s:Shared}{Q:Value->Shared->Prop}
theorem zd{vs:List Value}{xs:List D}{l:List (List Nat)}(h:aO Y Z vs xs)(e:cE uH xs=some l):StrsAre vs (l.map λx=>(⟨x.toArray⟩:Str)):=by
 induction xs generalizing vs l with
 |nil=>
  cases e
  match vs,h with
  |[],_=>exact .nil
  |_::_,h=>exact absurd h.1 (by simp)
 |cons x xs B=>
  obtain⟨c,u,H⟩:=ae e;obtain⟨r,X,rfl⟩:=ar H
  match vs,h with
  |[],h=>exact absurd h.1 (by simp)
  |v::vs,h=>
   have z:=h.inv.1;rcases x with _|_|_|i|_|_|_|_|_|_|_|_|_|_<;>try(cases u;done)
   .replace z:=z.f6;obtain⟨_,rfl⟩:=z;cases u;exact .cons _ _ (B h.inv.2 X)
theorem wF{vs:List Value}{xs:List D}{l:List (List UInt8)}(h:aO Y Z vs xs)(e:cE ju xs=some l):xs=l.map .bytes:=by
 induction xs generalizing vs l with
 |nil=>cases e;rfl
 |cons x xs B=>
  obtain⟨c,u,H⟩:=ae e;obtain⟨r,X,rfl⟩:=ar H
  match vs,h with
  |[],h=>exact absurd h.1 (by simp)
  |v::vs,h=>
   rw[B h.inv.2 X,List.map_cons];rcases x with _|_<;>first|(cases u;done)|(cases u;rfl)
theorem oK(u:List Nat): ∀l:List (List Nat),PySem.Str.join ⟨u.toArray⟩ (l.map λx=>(⟨x.toArray⟩:Str))=⟨(fS u l).toArray⟩
 |[]=>rfl
 |[x]=>rfl
 |x::y::r=>by
  have B:=oK u (y::r);show(Str.append (Str.append ⟨x.toArray⟩ ⟨u.toArray⟩) (PySem.Str.join ⟨u.toArray⟩ ((y::r).map λx=>(⟨x.toArray⟩:Str))))=⟨(x++u++fS u (y::r)).toArray⟩
  rw[B];show(⟨(x.toArray++u.toArray)++(fS u (y::r)).toArray⟩:Str)=_;simp
theorem ze(u:List Nat)(l:List (List Nat)):Txt.join ⟨u.toArray⟩ (l.map λx=>(⟨x.toArray⟩:Str))=⟨(fS u l).toArray⟩:=(PySem.StrLaws.glued_eq_join _ _).trans (oK u l)
theorem oM(u:List Nat): ∀l:List (List Nat),((l.map λx=>(⟨x.toArray⟩:Str)).map (·.length)).sum+(l.map λx=>(⟨x.toArray⟩:Str)).length*u.length<=(fS u l).length+u.length
 |[]=>by simp
 |[x]=>by
  show(x.toArray.size+0)+1*u.length<=x.length+u.length;simp
 |x::y::r=>by
  have B:=oM u (y::r);have e:(fS u (x::y::r)).length=x.length+u.length+(fS u (y::r)).length:=by
   show(x++u++fS u (y::r)).length=_;simp only[List.length_append]
  rw[e];simp only[List.map_cons,List.sum_cons,List.length_cons] at B⊢;have:(⟨x.toArray⟩:Str).length=x.length:=by show x.toArray.size=_;simp
  rw[this];rw[Nat.succ_mul];exact aj B
theorem p8{u:List Nat}{l:List (List Nat)}{a:Addr}{vs:List Value}{n:Nat}{t:Tok}(O:s.heap.get? a=some (listOf vs.toArray n))(hs:StrsAre vs (l.map λx=>(⟨x.toArray⟩:Str)))(H:(fS u l).length+u.length<=lim)
  (k: ∀z tk,Q (.str ⟨(fS u l).toArray⟩ z) {s with toks:=tk}):wpAny (model prog w) A (PySem.call (.builtin "str.join") [.str ⟨u.toArray⟩ t,.ref a]) Q E s:=by
 refine join_list (items:=vs.toArray) ⟨_,O,rfl,n,rfl⟩ (by rw[List.toList_toArray];exact hs) ?_ λz tk=>by rw[ze];exact k z tk
 refine Nat.le_trans ?_ (Nat.le_trans (oM u l) H);have:(⟨u.toArray⟩:Str).length=u.length:=by show u.toArray.size=_;simp
 rw[this];exact Nat.le_refl _
end
section
variable{prog:Program}{w:World}{Y:Lay}{Z:ZP}{A:Around}{E:Value->Shared->Prop}{s:Shared}{Q:Value->Shared->Prop}
theorem B2{b:Array UInt8}{t:Tok}{id:String}:Builtin.Bytes.takeBufferQuiet? id (.bytes b t) 0=pure (some (b,none)):=by
 have e:Builtin.Bytes.takeBuffer? id (.bytes b t) 0=pure (some (b,none)):=by
  unfold Builtin.Bytes.takeBuffer?;rw[KBy.special_eq KBy.look_buffer,KBy.own_buffer];have:((0:Int)==Builtin.Bytes.fullReadOnly)=false:=by decide
  rw[this,KBy.buffer_eq];kernel_rfl
 unfold Builtin.Bytes.takeBufferQuiet?;rw[e];rfl
theorem jn(u x:List UInt8): ∀r:List (List UInt8),dj u (x::r)=x++r.flatMap (u++ ·)
 |[]=>(List.append_nil x).symm
 |y::r=>by
  show x++u++dj u (y::r)=_;rw[jn u y r,List.flatMap_cons,List.append_assoc,List.append_assoc]
theorem rF(H:List UInt8): ∀(l:List (List UInt8)) (n:Nat) (out:List UInt8),0<n->((l.map List.toArray).zipIdx n).foldl (λout (p:Array UInt8×Nat)=>(if p.2>0 then out++H.toArray else out)++p.1) out.toArray=(out++l.flatMap (H++ ·)).toArray:=by
 intro X;induction X with
 |nil=>
  intro B out B;simp
 |cons x r u=>
  intro n out h;rw[List.map_cons,List.zipIdx_cons,List.foldl_cons];have e:((if n>0 then out.toArray++H.toArray else out.toArray)++x.toArray)=(out++(H++x)).toArray:=by rw[if_pos h];simp
  refine(congrArg (λz=>List.foldl _ z _) e).trans ?_;rw[u (n+1) _ (Nat.succ_pos _),List.flatMap_cons];simp
theorem wG(u:List UInt8)(l:List (List UInt8)):Builtin.Bytes.joined u.toArray (l.map List.toArray)=(dj u l).toArray:=by
 unfold Builtin.Bytes.joined;rcases l with _|⟨x,r⟩
 .rfl
 .rw[jn,List.map_cons,List.zipIdx_cons,List.foldl_cons];refine(congrArg (λz=>List.foldl _ z _) (show _=x.toArray from ?_)).trans (rF u r 1 x Nat.one_pos);simp
theorem wH(l:List (List UInt8)): ∀n:Nat,(l.map List.toArray).foldl (λ(n:Nat) (p:Array UInt8)=>n+p.size) n=n+(l.map List.length).sum:=by
 induction l with
 |nil=>intro n;rfl
 |cons x r B=>intro n;rw[List.map_cons,List.foldl_cons,B];simp;simp+arith only
theorem zf(z:List UInt8): ∀r:List (List UInt8),(r.flatMap (z++ ·)).length=z.length*r.length+(r.map List.length).sum:=by
 intro X;induction X with
 |nil=>
  simp
 |cons x r u=>
  rw[List.flatMap_cons,List.length_append,u,List.length_append,List.length_cons,List.map_cons,List.sum_cons,Nat.mul_succ];simp+arith only
theorem size_joined(u:List UInt8)(l:List (List UInt8)):(l.map List.toArray).toArray.foldl (λ(n:Nat) (p:Array UInt8)=>n+p.size) (u.toArray.size*((l.map List.toArray).toArray.size-1))=(dj u l).length:=by
 rw[List.foldl_toArray,wH];rcases l with _|⟨x,r⟩
 .simp[dj]
 .rw[jn,List.length_append,zf];simp;simp+arith only
theorem p_{M:Model}{keep:List Value}: ∀(H:List (Value×Option Value)) {s:Shared} {Q:Unit->Shared->Prop},(∀p∈H,p.2=none)->Q () s->wpAny M A (Builtin.Bytes.joinLetGo H keep) Q E s:=by
 intro X;induction X with
 |nil=>
  intro s Q B h;exact wpAny_pure h
 |cons p9 r O=>
  obtain⟨x,u⟩:=p9;intro s Q z h;obtain rfl:u=none:=z (x,u) (.head _);unfold Builtin.Bytes.joinLetGo;exact wpAny_bind (wpAny_letGo (O (λp m=>z p (.tail _ m)) h))
theorem mV{vs:List Value}{l:List (List UInt8)}(h:aO Y Z vs (l.map .bytes)){i:Nat}(u:i<l.length): ∃b t,l[i]? =some b/\vs[i]? =some (.bytes b.toArray t):=by
 obtain⟨v,z,hd⟩:=h.get (i:=i) (x:=.bytes l[i]) (by rw[List.getElem?_map,List.getElem?_eq_getElem u];rfl);replace hd:=hd.bJ;obtain⟨_,rfl⟩:=hd;exact⟨l[i],_,List.getElem?_eq_getElem u,z⟩
noncomputable def jp(l:List (List UInt8))(vs:List Value)(i:Nat):Array (Array UInt8)×List (Value×Option Value):=(((l.take i).map List.toArray).toArray,(vs.take i).map λv=>(v,none))
theorem B3{l:List (List UInt8)}{vs:List Value}{i:Nat}{b:List UInt8}{v:Value}(h:l[i]? =some b)(z:vs[i]? =some v):((jp l vs i).1.push b.toArray,(jp l vs i).2++[(v,none)])=jp l vs (i+1):=by
 unfold jp;rw[List.take_add_one,List.take_add_one,h,z];simp
theorem join_loop{M:Model}{l:List (List UInt8)}{vs:List Value}(am:vs.length=l.length){m:Nat}(B:m=l.length){f:Nat->Array (Array UInt8)×List (Value×Option Value)->Sem (ForInStep (Array (Array UInt8)×List (Value×Option Value)))}{Q:Array (Array UInt8)×List (Value×Option Value)->Shared->Prop}
  (H: ∀i,i<l.length-> ∀Q',Q' (.yield (jp l vs (i+1))) s->wpAny M A (f i (jp l vs i)) Q' E s) (k:Q (jp l vs l.length) s):wpAny M A (forIn [:m] ((#[]:Array (Array UInt8)),([]:List (Value×Option Value))) f) Q E s:=by
 subst B;rw[Std.Legacy.Range.forIn_eq_forIn_range'];simp only[Std.Legacy.Range.size,Nat.sub_zero,Nat.add_sub_cancel,Nat.div_one];refine wpAny_forIn_list _ (λrest st s'=> ∃i,s'=s/\st=jp l vs i/\rest=List.range' i (l.length-i)/\i<=l.length) _ ?_ ?_ _ _ ⟨0,rfl,rfl,by simp,Nat.zero_le _⟩
 .rintro x rest b s' ⟨i,rfl,rfl,X,hi⟩;have O:i<l.length:=by
   rcases Nat.lt_or_ge i l.length with h|h
   .exact h
   .rw[Nat.sub_eq_zero_of_le h] at X;simp at X
  obtain⟨rfl,hrest⟩:x=i/\rest=List.range' (i+1) (l.length-(i+1)):=by
   have e:=ma O;rw[e,List.range'_succ] at X;injection X with u z;exact⟨u,z⟩
  exact H x O _ ⟨x+1,rfl,rfl,hrest,O⟩
 .rintro st s' ⟨i,rfl,rfl,X,hi⟩;have:i=l.length:=by
   rcases Nat.lt_or_ge i l.length with h|h
   .have e:=ma h;rw[e,List.range'_succ] at X;cases X
   .exact Nat.le_antisymm (aj hi) (aj h)
  subst this;exact k
theorem oP{u:List UInt8}{l:List (List UInt8)}{vs:List Value}{t:Tok}{a:Addr}{id id':String}(H:(dj u l).length<=lim)(B:vs.length=l.length)
  (k: ∀t' tk,Q (.bytes (dj u l).toArray t') {s with toks:=tk}):
  wpAny (model prog w) A (do
   let u<-Builtin.Bytes.payload (.bytes u.toArray t)
   if Builtin.Bytes.tooLong ((jp l vs l.length).1.foldl (λ(n:Nat) (p:Array UInt8)=>n+p.size) (u.size*((jp l vs l.length).1.size-1))) then(unsupported id:Sem PUnit)
   let O<-Builtin.Bytes.Kind.new .bytes (Builtin.Bytes.joined u (jp l vs l.length).1.toList)
   holding (O::(jp l vs l.length).2.flatMap λ(x:Value×Option Value)=>x.1::x.2.toList) point
   Builtin.Bytes.joinLetGo (jp l vs l.length).2 [O]
   ret O) (λ(fin:Fin) s'=> ∃v,fin= .done (.ret v)/\Q v s') E s:=by
 have X:(jp l vs l.length).1=(l.map List.toArray).toArray:=by unfold jp;rw[List.take_length]
 refine wpAny_bind (wpAny_pure ?_);rw[X,size_joined,wG];have e2:Builtin.Bytes.tooLong (dj u l).length=false:=KBy.tooLong_not H;rw[e2];rw[if_neg Bool.false_ne_true];refine wpAny_bind (wpAny_mkBytes ?_ (by rw[List.size_toArray];exact H));refine wpAny_bind (wpAny_holding (wpAny_point ?_));refine wpAny_bind (p_ _ (λp m=> ?_) ?_)
 .obtain⟨z,_,rfl⟩:=List.mem_map.mp m;rfl
 .exact wpAny_pure ⟨_,rfl,k _ _⟩
theorem Hr{u:List UInt8}{a:Addr}{n:Nat}{t:Tok}(O:s.heap.get? a=some (listOf #[] n))
  (k: ∀z tk,Q (.bytes #[] z) {s with toks:=tk}):wpAny (model prog w) A (PySem.call (.builtin "bytes.join") [.bytes u.toArray t,.ref a]) Q E s:=by
 refine wpAny_call_entry BF.iN (typeIs_bytes s _ t) BF.jm ?_ (BF.kH _ _);show wpAny _ _ (Builtin.Bytes.joinItems (.ref a)>>= λr=>_) _ _ s;refine wpAny_bind ?_;refine wpAny_bind (wpAny_typeOf (T:="list") ⟨_,O,rfl⟩ ?_);refine wpAny_pure ?_;refine wpAny_bind (wpAny_seqItems O rfl ?_);show wpAny _ _ (forIn [:([]:List Value).toArray.size] _ _>>= λr=>_) _ _ s;refine wpAny_bind (join_loop (l:=[]) (vs:=[]) rfl rfl (λi h=>absurd h (Nat.not_lt_zero _)) ?_);exact oP (l:=[]) (vs:=[]) (id':="") (a:=0) (Nat.zero_le _) rfl k
theorem Hs{B x:List UInt8}{a:Addr}{n:Nat}{t u:Tok}(O:s.heap.get? a=some (listOf #[.bytes x.toArray u] n))
  (k: ∀z tk,Q (.bytes x.toArray z) {s with toks:=tk}):wpAny (model prog w) A (PySem.call (.builtin "bytes.join") [.bytes B.toArray t,.ref a]) Q E s:=by
 refine wpAny_call_entry BF.iN (typeIs_bytes s _ t) BF.jm ?_ (BF.kH _ _);show wpAny _ _ (Builtin.Bytes.joinItems (.ref a)>>= λr=>_) _ _ s;refine wpAny_bind ?_;refine wpAny_bind (wpAny_typeOf (T:="list") ⟨_,O,rfl⟩ ?_);refine wpAny_pure ?_;refine wpAny_bind (wpAny_seqItems O rfl ?_);show wpAny _ _ (typeOf (.bytes x.toArray _)>>= λr=>_) _ _ s;refine wpAny_bind (wpAny_typeOf (typeIs_bytes s _ _) ?_);refine wpAny_bind (wpAny_rule ?_);exact wpAny_pure ⟨_,rfl,k _ s.toks⟩
theorem EI{l:List (List UInt8)}{vs:List Value}(hs:aO Y Z vs (l.map .bytes))(B:vs.length=l.length)(i:Nat):((jp l vs i).2.any λx=>x.fst.onHeap)=false:=by
 rw[List.any_eq_false];intro p m;obtain⟨z,hz,rfl⟩:=List.mem_map.mp m;have hz:=List.mem_of_mem_take hz;obtain⟨j,X,H⟩:=List.getElem_of_mem hz;obtain⟨b',O,_,u⟩:=mV hs (i:=j) (by rw[<-B];exact X);rw[List.getElem?_eq_getElem X] at u;rw[<-H,Option.some.inj u];exact Bool.false_ne_true
theorem Ht{u x y:List UInt8}{r:List (List UInt8)}{a:Addr}{v v':Value}{vs:List Value}{n:Nat}{t:Tok}(O:s.heap.get? a=some (listOf (v::v'::vs).toArray n))(hs:aO Y Z (v::v'::vs) ((x::y::r).map .bytes))(H:(dj u (x::y::r)).length<=lim)
  (k: ∀t' tk,Q (.bytes (dj u (x::y::r)).toArray t') {s with toks:=tk}):wpAny (model prog w) A (PySem.call (.builtin "bytes.join") [.bytes u.toArray t,.ref a]) Q E s:=by
 have B:(v::v'::vs).length=(x::y::r).length:=hs.1.trans (List.length_map ..);refine wpAny_call_entry BF.iN (typeIs_bytes s _ t) BF.jm ?_ (BF.kH _ _);show wpAny _ _ (Builtin.Bytes.joinItems (.ref a)>>= λr=>_) _ _ s;refine wpAny_bind ?_;refine wpAny_bind (wpAny_typeOf (T:="list") ⟨_,O,rfl⟩ ?_);refine wpAny_pure ?_;refine wpAny_bind (wpAny_seqItems O rfl ?_);show wpAny _ _ (forIn [:(v::v'::vs).toArray.size] _ _>>= λr=>_) _ _ s;refine wpAny_bind (join_loop (l:=x::y::r) (vs:=v::v'::vs) B (by rw[List.size_toArray];exact B) (λi h Q' hq=> ?_) ?_)
 .refine hide λP back=> ?_;obtain⟨b,t',X,z⟩:=mV hs h;have hg:(v::v'::vs).toArray.getD i Value.none= .bytes b.toArray t':=by simp[z]
  refine back (wpAny_bind (wpAny_seqItems O rfl ?_));dsimp only;rw[EI hs B];rw[if_neg (by decide),hg];refine wpAny_bind (wpAny_holding (wpAny_of_eq B2 ?_));refine wpAny_bind (wpAny_seqItems O rfl ?_);dsimp only;rw[if_neg (by simp)];refine wpAny_pure ?_;rw[B3 X z];exact hq
 .exact oP (l:=x::y::r) (vs:=v::v'::vs) (id':="") (a:=0) H B k
theorem wI{u:List UInt8}{l:List (List UInt8)}{a:Addr}{vs:List Value}{n:Nat}{t:Tok}(O:s.heap.get? a=some (listOf vs.toArray n))(hs:aO Y Z vs (l.map .bytes))(H:(dj u l).length<=lim)
  (k: ∀X tk,Q (.bytes (dj u l).toArray X) {s with toks:=tk}):wpAny (model prog w) A (PySem.call (.builtin "bytes.join") [.bytes u.toArray t,.ref a]) Q E s:=by
 rcases l with _|⟨x,l⟩
 .obtain rfl:=List.eq_nil_of_length_eq_zero hs.1;exact Hr O k
 rcases vs with _|⟨v,vs⟩
 .exact nomatch hs.1
 rcases l with _|⟨y,r⟩
 .obtain rfl:=List.eq_nil_of_length_eq_zero (Nat.succ.inj hs.1);have z:=hs.inv.1;replace z:=z.bJ;obtain⟨_,rfl⟩:=z;exact Hs O k
 rcases vs with _|⟨B,vs⟩
 .exact nomatch hs.1
 exact Ht O hs H k
end
section
variable{prog:Program}{w:World}{Y:Lay}{env:Env}{T:List Addr}{os:List (Addr×Obj)}{G:GL}{Z:ZP}{A:Around}{E:Value->Shared->Prop}{s:Shared}{Q:Value->Shared->Prop}
theorem rG{O:List UInt8}{c:UInt8}(h:uI O=some c):O=[c]:=by
 rcases O with _|⟨a,r⟩
 .cases h
 .rcases r with _|⟨_,_⟩
  .cases h;rfl
  .cases h
theorem EJ(R:Rel Y env T os G Z s.heap){b:List UInt8}{t:Tok}{ds:List D}{vs:List Value}{mv:MV}(h:aO Y Z vs ds)(e:findD b ds=some mv)(k:Left Y env T os G Z s mv Q):wpAny (model prog w) A (PySem.call (.builtin "bytes.find") (.bytes b.toArray t::vs)) Q E s:=by
 rcases ds with _|⟨c,r⟩
 .cases e
 .obtain⟨O,e1,H⟩:=ae e;obtain⟨c',e3,e4⟩:=ae H;obtain⟨p,e5,e6⟩:=ae e4;obtain⟨i,e7,e8⟩:=ae e6;obtain⟨j,e9,am⟩:=ae e8;obtain⟨X,rfl⟩:=aJ am
  match vs,h with
  |[],h=>exact absurd h.1 (by simp)
  |v::vs,h=>
   have h1:=h.inv.1;obtain⟨u,v',rfl,hu,z⟩:=u7 h.inv.2 e5;rw[aU e1] at h1;rw[aD e7] at hu;rw[aD e9] at z;replace h1:=h1.bJ;obtain⟨_,rfl⟩:=h1;replace hu:=hu.cT;obtain⟨_,rfl⟩:=hu;replace z:=z.cT;obtain⟨_,rfl⟩:=z;obtain rfl:=rG e3;exact wD b c' X.1 X.2.1 λv t' ev tk=>by subst ev;exact gb R k (.int _ _) λB B e=>e
theorem B4(R:Rel Y env T os G Z s.heap){b:List UInt8}{t:Tok}{ds:List D}{vs:List Value}{mv:MV}(h:aO Y Z vs ds)(e:sX b ds=some mv)(k:Left Y env T os G Z s mv Q):wpAny (model prog w) A (PySem.call (.builtin "bytes.strip") (.bytes b.toArray t::vs)) Q E s:=by
 obtain⟨x,u,H⟩:=ae e;obtain⟨O,e3,e4⟩:=ae H;obtain⟨X,rfl⟩:=aJ e4;obtain⟨v,rfl,z⟩:=d0 h u;rw[aU e3] at z;replace z:=z.bJ;obtain⟨_,rfl⟩:=z;exact tX b O X λt' tk=>gb R k (.bytes _ _) λB B e=>e
theorem B5(R:Rel Y env T os G Z s.heap){b:List UInt8}{t:Tok}{ds:List D}{vs:List Value}{mv:MV}(h:aO Y Z vs ds)(e:sY b ds=some mv)(k:Left Y env T os G Z s mv Q):wpAny (model prog w) A (PySem.call (.builtin "bytes.split") (.bytes b.toArray t::vs)) Q E s:=by
 obtain⟨x,u,H⟩:=ae e;obtain⟨O,e3,e4⟩:=ae H;obtain⟨c,e5,e6⟩:=ae e4;obtain⟨X,rfl⟩:=aJ e6;obtain⟨v,rfl,z⟩:=d0 h u;rw[aU e3] at z;replace z:=z.bJ;obtain⟨_,rfl⟩:=z;obtain rfl:=rG e5;exact tZ b c X λvs tk hh=>zb R k (n:=0) hh (λB B e=>Heap.get?_push_of_some _ e) (aK (Nat.le_refl _)) (Heap.get?_push_size _ rfl)
theorem EK(R:Rel Y env T os G Z s.heap){b:List UInt8}{t:Tok}{ds:List D}{vs:List Value}{mv:MV}(h:aO Y Z vs ds)(e:uJ b ds=some mv)(k:Left Y env T os G Z s mv Q):wpAny (model prog w) A (PySem.call (.builtin "bytes.join") (.bytes b.toArray t::vs)) Q E s:=by
 refine hide λP9 b9=> ?_;obtain⟨x,u,H⟩:=ae e;obtain⟨xs,e3,e4⟩:=ae H;obtain⟨l,e5,e6⟩:=ae e4;obtain⟨X,rfl⟩:=aJ e6;obtain⟨v,rfl,z⟩:=d0 h u;refine b9 ?_;rw[bI e3] at z;refine hide λP9 b9=> ?_;obtain⟨a,vs,m,rfl,O,hh⟩:=z.isList R.Zh;refine b9 ?_;rw[wF hh e5] at hh;exact wI O hh X λt' tk=>gb R k (.bytes _ _) λB B e=>e
theorem B6(R:Rel Y env T os G Z s.heap){b:List Nat}{t:Tok}{ds:List D}{vs:List Value}{mv:MV}(h:aO Y Z vs ds)(e:pA b ds=some mv)(k:Left Y env T os G Z s mv Q):wpAny (model prog w) A (PySem.call (.builtin "str.join") (.str ⟨b.toArray⟩ t::vs)) Q E s:=by
 refine hide λP9 b9=> ?_;obtain⟨x,u,H⟩:=ae e;obtain⟨xs,e3,e4⟩:=ae H;obtain⟨l,e5,e6⟩:=ae e4;obtain⟨X,rfl⟩:=aJ e6;obtain⟨v,rfl,z⟩:=d0 h u;refine b9 ?_;rw[bI e3] at z;refine hide λP9 b9=> ?_;obtain⟨a,vs,m,rfl,O,hh⟩:=z.isList R.Zh;refine b9 ?_;exact p8 O (zd hh e5) X λt' tk=>gb R k (.str _ _) λB B e=>e
theorem DA{vs:List Value}{ds:List D}(h:aO Y Z vs ds):ds.any bM=false:=by
 rw[List.any_eq_false];intro x m;obtain⟨i,u,rfl⟩:=List.getElem_of_mem m;obtain⟨v,_,hd⟩:=h.get (List.getElem?_eq_getElem u);rw[hd.sym];exact Bool.false_ne_true
theorem ip{m:Str}{id:String}{r:Option String}{n:Str}{i:String}(h:(if m=n then some i else r)=some id):(m=n/\i=id)\/(m≠n/\r=some id):=by
 by_cases e:m=n
 .rw[if_pos e] at h;exact .inl ⟨e,Option.some.inj h⟩
 .rw[if_neg e] at h;exact .inr ⟨e,h⟩
set_option tactic.hygienic true in
theorem rH(R:Rel Y env T os G Z s.heap){x:D}{m:Str}{ds:List D}{mv:MV}{id:String}(B:Mine.mid x m=some id)(e:Mine.fV x m ds=some mv){a:Value}{vs:List Value}(O:au Y Z a x)(h:aO Y Z vs ds)(k:Left Y env T os G Z s mv Q):
  wpAny (model prog w) A (PySem.call (.builtin id) (a::vs)) Q E s:=by
 unfold fV at e;rw[O.sym,DA h] at e;replace e:kj x m ds=some mv:=e;rcases x with _|_<;>first|(cases B;done)|exact(O.inv:False).elim|skip
 .replace O:=O.f6;obtain⟨_,rfl⟩:=O;rename_i b t;change(if m=Str.ofString "join" then pA b ds else none)=some mv at e;rcases ip (n:=Str.ofString "join") B with⟨c,rfl⟩|⟨_,B⟩
  .rw[if_pos c] at e;exact B6 R h e k
  .cases B
 .replace O:=O.bJ;obtain⟨_,rfl⟩:=O;rename_i b t;change(if m=Str.ofString "find" then findD b ds else if m=Str.ofString "join" then uJ b ds else if m=Str.ofString "strip" then sX b ds else if m=Str.ofString "split" then sY b ds else none)=some mv at e;rcases ip (n:=Str.ofString "find") B with⟨c,rfl⟩|⟨c,B⟩
  .rw[if_pos c] at e;exact EJ R h e k
  rw[if_neg c] at e;rcases ip (n:=Str.ofString "join") B with⟨c,rfl⟩|⟨c,B⟩
  .rw[if_pos c] at e;exact EK R h e k
  rw[if_neg c] at e;rcases ip (n:=Str.ofString "strip") B with⟨c,rfl⟩|⟨c,B⟩
  .rw[if_pos c] at e;exact B4 R h e k
  rw[if_neg c] at e;rcases ip (n:=Str.ofString "split") B with⟨c,rfl⟩|⟨c,B⟩
  .rw[if_pos c] at e;exact B5 R h e k
  cases B
end
section
variable{prog:Program}{w:World}{Y:Lay}{env:Env}{T:List Addr}{os:List (Addr×Obj)}{G:GL}{Z:ZP}{A:Around}{E:Value->Shared->Prop}{s:Shared}{Q:Value->Shared->Prop}
theorem zg{vs:List Value}{ss:List Str}(h:StrsAre vs ss):aO Y Z vs (ss.map λx=>.str x.cps.toList):=by
 induction h with
 |nil=>exact .nil
 |cons y t _ B=>exact .cons (au.str y.cps.toList t) B
theorem rI{k:Str}{v:Value}(h:(strKind prog w).is k v=true): ∃t,v= .str k t:=by
 cases v with
 |str x t=>
  have:k=x:=by
   have h:Value.isStrOf k (.str x t)=true:=h;simp[Value.isStrOf] at h;first|exact h|exact h.symm
  exact⟨t,by rw[this]⟩
 |_=>cases h
set_option maxHeartbeats 1000000 in
theorem zh{z:Type}{a b:List z}(h:b.length<=1)(p:a.Perm b):a=b:=by
 rcases b with _|⟨x,_|_⟩
 .exact p.eq_nil
 .exact List.perm_singleton.mp p
 .exact absurd h (Nat.not_le.mpr (Nat.succ_lt_succ (Nat.succ_pos _)))
theorem zi(S:oz Y)(hh:Y.hs=hashStr w)(hA:uP A)(R:Rel Y env T os G Z s.heap){ds:List D}{vs:List Value}{mv:MV}(h:aO Y Z vs ds)(e:gr .sorted ds=some mv)(k:Left Y env T os G Z s mv Q):wpAny (model prog w) A (PySem.call (.builtin "sorted") vs) Q E s:=by
 refine hide λP9 b9=> ?_;obtain⟨x,e1,e2⟩:=ae e;obtain⟨es,e3,e4⟩:=ae e2;obtain⟨ks,e5,rfl⟩:=ar e4;obtain⟨v,rfl,hv⟩:=d0 h e1;refine b9 ?_;obtain rfl:x= .dN es:=by rcases x with _|_<;>first|(cases e3;done)|(cases e3;rfl)
 have al:es.length<2:=by
  rcases es with _|⟨p,r⟩
  .decide
  .cases r with
   |nil=>exact Nat.lt_succ_self _
   |cons _ _=>cases e5
 refine hide λP9 b9=> ?_;obtain⟨d,o,a4,n,rfl,hz,hd,H,bd,_⟩:=pT (prog:=prog) hh R.Zh hv al;refine b9 ?_;have be:=S.ne R.Zh R.Zb hz hd (by rw[List.size_toArray,H];exact al);have K:=kdl_dict (prog:=prog) (w:=w) (knd:=strKind prog w) (kvs:=kvsOf w a4 es) (ep:=n) be;have a6:(kvsOf w a4 es).length<=1:=by
  rcases iL H al with⟨rfl,rfl⟩|⟨a,p,rfl,rfl⟩
  .exact Nat.zero_le _
  .exact Nat.le_refl _
 refine Calls.call_function_entry kind_sorted plain_sorted entry_sorted (args_sorted1 _) ?_;unfold Builtin.«sorted»;refine wpAny_bind (m:=checkCount "sorted" 1 1 _) (wpAny_pure ?_);refine wpAny_bind (kdu_collect (A:=A.in1) K hA.handled bd (Nat.le_trans a6 (by decide)) λh' tk acc O ac=> ?_);have am:acc.toList.length<=1:=by rw[Array.length_toList,ac.1];exact a6
 refine wpAny_bind (wpAny_newList ?_ (Nat.le_trans am (by decide)));obtain⟨ss,hs,a8⟩: ∃ss,StrsAre acc.toList ss/\ss.map (λx=>D.str x.cps.toList)=ks:=by
  rcases iL H al with⟨rfl,rfl⟩|⟨a,p,rfl,rfl⟩
  .cases e5;have:acc.toList=[]:=List.eq_nil_of_length_eq_zero (by rw[Array.length_toList,ac.1];rfl);rw[this];exact⟨[],.nil,rfl⟩
  .cases e5;have h1:acc.toList.length=1:=by rw[Array.length_toList,ac.1];rfl
   obtain⟨u,hq⟩:=List.length_eq_one_iff.mp h1
   .rw[hq];refine hide λP9 b9=> ?_;obtain⟨k',x',a7,hi⟩:=ac.2 0 u (by rw[<-Array.getElem?_toList,hq];rfl);refine b9 ?_;have:k'=⟨p.1.toArray⟩:=by
     have:(kvsOf w [a] [p])[0]? =some (⟨p.1.toArray⟩,a.val):=rfl;rw[this] at a7;exact(congrArg Prod.fst (Option.some.inj a7)).symm
    obtain⟨t,rfl⟩:=rI hi;exact⟨[k'],.cons _ _ .nil,by rw[this];rfl⟩
 have aI:(h'.push (seqObj "list" acc.toList.toArray 0)).get? h'.objs.size=some (seqObj "list" acc.toList.toArray 0):=Heap.get?_push_size _ rfl;refine wpAny_bind (wpAny_holding (wpAny_call_entry slot_list_sort ⟨_,aI,rfl⟩ entry_list_sort (list_sort_treeK strKind_oneLt (n:=0) aI hs.keysOf (λb4 b5 rest e=>by rw[e] at am;simp at am) (Nat.lt_of_le_of_lt am (by decide)) λan a1 a2=>⟨_,rfl,?_⟩) (args_list_sort _)));refine wpAny_pure ⟨_,rfl,?_⟩;refine hide λP9 b9=> ?_;obtain⟨b0,h1,z,_⟩:=sorted_out_str hs a1 a2;refine b9 ?_;have bv:b0=ss:=by
  have:ss.length<=1:=by
   have:=congrArg List.length a8;rw[List.length_map] at this;rw[this];have hq:ks.length=es.length:=by
    rcases es with _|⟨p,r⟩
    .cases e5;rfl
    .cases r with
     |nil=>cases e5;rfl
     |cons _ _=>cases e5
   exact bp al (Nat.le_of_eq hq)
  exact zh this z
 rw[bv] at h1;obtain⟨ep,a5⟩:=sortedHeap_at (vs:=acc.toList) (out:=(arrOf an).map (·.2)) aI;have B: ∀b o',s.heap.get? b=some o'->(sortedHeap (h'.push (seqObj "list" acc.toList.toArray 0)) h'.objs.size acc.toList ((arrOf an).map (·.2))).get? b=some o':= λb o' eb=>by
  have X:=Heap.lt_size (O b o' eb);rw[sortedHeap_old (Nat.ne_of_lt X) (by rw[size_push'];exact Nat.lt_succ_of_lt X)];exact Heap.get?_push_of_some _ (O b o' eb)
 have nn:s.heap.get? h'.objs.size=none:=by
  rcases q:s.heap.get? h'.objs.size with _|o'
  .rfl
  .exact absurd (Heap.lt_size (O _ _ q)) (Nat.lt_irrefl _)
 exact zb (s':={s with heap:=sortedHeap (h'.push (seqObj "list" acc.toList.toArray 0)) h'.objs.size acc.toList ((arrOf an).map (·.2)),toks:=tk}) R k (a:=h'.objs.size) (vs:=((arrOf an).map (·.2)).toList) (n:=ep) (by rw[<-a8];exact zg h1) B nn a5
theorem wJ(prog:Program)(w:World):GJ prog w where
 hU:= λ{Y env T os G Z A E s Q b ds vs mv} u S z R h e k=>by
  unfold Mine.hU at e;rw[DA h] at e;replace e:gr b ds=some mv:=e;rcases b with _|_|_|_|_|_|_|_|_
  .exact Hn R h e k
  .exact Ho R u h e k
  .exact Hp R h e k
  .exact Hq R h e k
  .exact B1 R u h e k
  .cases e
  .cases e
  .exact zi S z u R h e k
  .exact EH R h e k
 Hc:=by
  intro x m id B Y Z A E s Q pl a O q;exact tT B O q
 fV:=by
  intro x m ds mv id B e Y env T os G Z A E s Q vs a u R O h k;exact rH R B e O h k
 Hd:= λh B q=>tU h B q
 extend:= λac O X H q=>p7 ac O X H q
end
section
open Sem (wp)
section
variable{M:Model}{A:Around}{E:Value->Shared->Prop}{h:Heap}{g:Array GenState}{d:Drawn}{t:Nat}{os:OsState}
variable{p:lG}{C B:Addr}
theorem dh{C B:Addr}{X:String}{b:Bool}(u:([Value.type "Exception",.type "BaseException",.type "object"]:List Value).contains (.type X)=b):(Value.ref C::cX B).contains (.type X)=b:=by
 rw[List.contains_cons];unfold cX;rw[List.contains_cons,u];rfl
theorem rJ{rest:List Value}{Q:Unit->Shared->Prop}(H:h.get? C=some (dF p C B))
  (hq:Q () ⟨h,g,d,t,os⟩):wpAny M A (checkBuiltinCall "Exception.__new__" ⟨.ref C::rest,[]⟩) Q E ⟨h,g,d,t,os⟩:=by
 have F:=PySem.F.excBase_Exception;have u:(Value.ref C::cX B).contains (.type "Exception")=true:=dh F.hasB;have z:=F.noStar;simp only[checkBuiltinCall,F.newKind,F.newSplit,F.newRow]
 repeat (first|refine wpAny_loadPart_at H ?_ |(refine wpAny_isSubtype_exc H ?_;rw[u])|refine wpAny_staticBase_exc H ?_ |refine wpAny_madeBy_exc H ?_ |simp only[bne_self_eq_false,Bool.false_eq_true,if_false]|wp_step)
 exact hq
end
section
variable{prog:Program}{w:World}{A:Around}{R:Result->Shared->Prop}{h:Heap}{g:Array GenState}{d:Drawn}{t:Nat}{os:OsState}
variable{p:lG}{C B:Addr}
theorem wK{rest:List Value}(H:h.get? C=some (dF p C B))
  (hq:R (.ok (.ret (.ref (h.objs.size+1)))) ⟨(h.push {cls:=.type "tuple",data:=.seq rest.toArray}).push
   {cls:=.ref C,data:=.fields #[.ref h.objs.size,.none,.none,.none,.bool false,.none]},g,d,t,os⟩) (hrest:rest.length<=sizeLine:=by size_fits):
  codeAny (model prog w) A (.builtin "Exception.__new__" ⟨.ref C::rest,[]⟩) R ⟨h,g,d,t,os⟩:=by
 have F:=PySem.F.excBase_Exception;have ac:=F.ends;have O:(Value.ref C::cX B).contains (.type "Exception")=true:=dh F.hasB;have z:(Value.ref C::cX B).contains (.type "AttributeError")=false:=dh F.noAttr;have X:(Value.ref C::cX B).contains (.type "NameError")=false:=dh F.noName;refine PySem.codeAny_builtinAt F.entry ?_;unfold Builtin.«BaseException.__new__»;refine PySem.wpAt_bind ?_;refine PySem.wpAt_bind (PySem.wpAt_stack λp u=>PySem.wpAt_of_wpAny ?_)
 wp_walk
 refine PySem.wpAt_of_wpAny ?_;rw[F.owner]
 repeat (first|with_reducible refine wpAny_madeHere_exc F.canon H ?_ |with_reducible refine wpAny_loadPart_at H ?_ |(with_reducible refine wpAny_isSubtype_exc H ?_;first|rw[O]|rw[z]|rw[X])|wp_step)
 show R _ _;rw[Heap.size_push];exact hq
noncomputable def fL(h:Heap)(C:Addr)(rest:List Value):Heap:=(h.push {cls:=.type "tuple",data:=.seq rest.toArray}).push {cls:=.ref C,data:=.fields #[.ref h.objs.size,.none,.none,.none,.bool false,.none]}
theorem lH{fI:Addr}{rest:List Value}{Q:Fin->Shared->Prop}{E:Value->Shared->Prop}(H:h.get? C=some (dF p C B))
  (u:Looks (model prog w) h (typeLookup (.ref C) "__init__") (some (.ref fI))) (X: ∀O,Looks (model prog w) h (bindSpecial (.ref fI) O) (.ref fI,[O]))
  (hq:wpAny (model prog w) A (PySem.call (.ref fI) (.ref (h.objs.size+1)::rest)) (λv s'=>v= .none/\Q (.done (.ret (.ref (h.objs.size+1)))) s') E ⟨fL h C rest,g,d,t,os⟩) (hrest:rest.length<=sizeLine:=by size_fits):
  wpAny (model prog w) A (Builtin.«type.__call__» ⟨.ref C::rest,[]⟩) Q E ⟨h,g,d,t,os⟩:=by
 have F:=PySem.F.excBase_Exception
 repeat (first|with_reducible refine wpAny_loadPart_at H ?_ |with_reducible refine wpAny_madeBy_exc H ?_ |wp_step)
 refine PySem.codeAny_call_builtin_code (Code.quiet_builtin _ F.quiet) (rJ H ?_);refine wK H ?_ hrest;have kp: ∀b o,h.get? b=some o->(fL h C rest).get? b=some o:= λb o e=>Heap.get?_push_of_some _ (Heap.get?_push_of_some _ e);have ac:=kp _ _ H;have al:(fL h C rest).get? (h.objs.size+1)=some {cls:=.ref C,data:=.fields #[.ref h.objs.size,.none,.none,.none,.bool false,.none]}:=by unfold fL;heap_get
 have an:(Value.ref C::cX B).contains (.ref C)=true:=by simp
 unfold isInstance;change wpAny _ _ _ _ _ ⟨fL h C rest,g,d,t,os⟩
 repeat (first|with_reducible refine wpAny_loadPart_at al ?_ |(with_reducible refine wpAny_isSubtype_exc ac ?_;rw[an])|wp_step)
 show wpAny _ _ (typeLookup (.ref C) _) _ _ _;refine(u.keeps kp).at ?_;refine wpAny_holding (wpAny_bind (((X _).keeps kp).at ?_));refine wpAny_bind (wpAny_mono hq (λv s' z=> ?_) λω ω e=>e);obtain⟨rfl,z⟩:=z
 wp_walk
 exact z
theorem t5{z:Addr}{rest:List Value}{Q:Value->Shared->Prop}{E:Value->Shared->Prop}(H:h.get? C=some (dF p C B))
  (u:Looks (model prog w) h (typeLookup (.ref C) "__init__") (some (.ref z))) (X: ∀O,Looks (model prog w) h (bindSpecial (.ref z) O) (.ref z,[O]))
  (hq:wpAny (model prog w) (A.under (.builtin "type.__call__" ⟨.ref C::rest,[]⟩)) (PySem.call (.ref z) (.ref (h.objs.size+1)::rest)) (λv s'=>v= .none/\Q (.ref (h.objs.size+1)) s') E ⟨fL h C rest,g,d,t,os⟩) (hrest:rest.length<=sizeLine:=by size_fits):
  wpAny (model prog w) A (PySem.call (.ref C) rest) Q E ⟨h,g,d,t,os⟩:=by
 have f1:=tc_lookup;have f2:=tc_bind (.ref C);have hT:(⟨h,g,d,t,os⟩:Shared).TypeIs (.ref C) "type":=⟨_,H,rfl⟩
 refine wpAny_call (codeAny_of_tree ?_)
 repeat (any_goals (first|assumption|with_reducible refine wpAny_loadPart_at H ?_ |wp_step))
 refine⟨rfl,?_⟩;exact PySem.codeAny_call_builtin_at (Code.quiet_builtin _ (by decide+kernel)) entry_typeCall (wpAny_check_type_call_sub H (lH (hrest:=hrest) H u X hq))
theorem kI{M:Model}{E:Value->Shared->Prop}{e:Addr}{oe:Obj}{rest:List Value}{Q:Unit->Shared->Prop}
  (H:h.get? C=some (dF p C B)) (z:h.get? e=some oe) (u:oe.cls= .ref C) (hq:Q () ⟨h,g,d,t,os⟩):
  wpAny M A (checkBuiltinCall "Exception.__init__" ⟨.ref e::rest,[]⟩) Q E ⟨h,g,d,t,os⟩:=by
 have F:=PySem.F.excBase_Exception;have O:(Value.ref C::cX B).contains (.type "Exception")=true:=dh F.hasB;have X:=F.noStar;simp only[checkBuiltinCall,F.initKind,F.initSplit,F.initRow]
 repeat (first|(with_reducible refine wpAny_loadPart_at z ?_;rw[u])|with_reducible refine wpAny_loadPart_at H ?_ |(with_reducible refine wpAny_isSubtype_exc H ?_;rw[O])|wp_step)
 refine wpAny_onRaise ?_;rw[show∀(a b:String) (n:Nat),Bind.check ⟨.positional,"*","Exception",.self,[⟨"args",.varPos,false⟩]⟩ a b n (List.map (λx=>x.fst) ({pos:=Value.ref e::rest}:Args).kw)=pure () from
  λa b n=>check_star_args _ _ _ _ _ _]
 exact wpAny_pure hq
theorem t6{E:Value->Shared->Prop}{e O:Addr}{rest:List Value}{Q:Value->Shared->Prop}
  (H:h.get? C=some (dF p C B)) (z:h.get? e=some {cls:=.ref C,data:=.fields #[.ref O,.none,.none,.none,.bool false,.none]})
  (hq: ∀h' t',(∀b o,b≠e->h.get? b=some o->h'.get? b=some o)->h'.get? e=some {cls:=.ref C,data:=.fields #[.ref t',.none,.none,.none,.bool false,.none]}->Q .none ⟨h',g,d,t,os⟩) (hrest:rest.length<=sizeLine:=by size_fits):
  wpAny (model prog w) A (PySem.call (.builtin "Exception.__init__") (.ref e::rest)) Q E ⟨h,g,d,t,os⟩:=by
 have F:=PySem.F.excBase_Exception;refine wpAny_call (PySem.codeAny_call_builtin F.init.plain F.initEntry (kI H z rfl ?_))
 wp_walk
 refine hq _ h.objs.size (λb o X u=> ?_) ?_
 .rw[Heap.get?_update_other _ _ (Ne.symm X)];exact Heap.get?_push_of_some _ u
 .rw[Heap.get?_update_self _ (Heap.get?_push_of_some _ z) rfl];rfl
end
theorem rK(O:Value):refuseLoop O "__setattr__" [.type "Exception",.type "BaseException",.type "object"]=pure ():=by kernel_rfl
theorem qb(O:Value)(C B:Addr):refuseLoop O "__setattr__" (.ref C::cX B)=pure ():=by
 unfold cX;rw[refuseLoop_ref,refuseLoop_ref];exact rK O
open PySem.Builtin PySem.Builtin.ObjectAttr
section
variable{prog:Program}{w:World}{A:Around}{R:Result->Shared->Prop}{h:Heap}{g:Array GenState}{d:Drawn}{t:Nat}{os:OsState}
variable{p:lG}{C B:Addr}
theorem oR{e:Addr}{od:Option Addr}{fs:Array Value}{name:Str}{tk:Tok}{v:Value}(hC:h.get? C=some (dF p C B))
  (z:h.get? e=some {cls:=.ref C,dict:=od,data:=.fields fs}) (H:Looks (model prog w) h (typeLookup (.ref C) name) none)
  (k:wpAny (model prog w) A.in1 (storeInOwnDict (.ref e) (.ref C) (.str name tk) name v false) (λ(fin:PySem.Fin) s'=>match fin with| .done f=>R (.ok f) s'| .again X=>X.quiet=true/\codeAny (model prog w) A X R s') (λe s'=>R (.error e) s') ⟨h,g,d,t,os⟩):
  codeAny (model prog w) A (.call (.builtin "object.__setattr__") ⟨[.ref e,.str name tk,v],[]⟩) R ⟨h,g,d,t,os⟩:=by
 have SF:=PySem.F.store_object;have O:Looks (model prog w) h (typeOf (.ref e)) (.ref C):=(Looks.ld z).andThen .now;have mr:Looks (model prog w) h (mroOf (.ref C)) (.ref C::cX B):=((Looks.ld (part:=none) hC).andThen .now).andThen .now;have u:(Value.ref C::cX B).contains (.type "object")=true:=dh (by decide);have sub:Looks (model prog w) h (isInstance (.ref e) (.type "object")) true:=O.andThen (mr.andThen (by rw[<-u];exact .now));refine PySem.codeAny_call_builtin SF.slot.plain SF.entry (@check_slot (model prog w) _ _ ⟨h,g,d,t,os⟩ "object.__setattr__" "object" "__setattr__" (.ref e) [.str name tk,v] [] _ SF.kind SF.split sub (SF.args (.ref e) (.str name tk) v) ?_);rw[osa_eq,refuse_eq];refine wpAny_bind (wpAny_bind (O.here (wpAny_bind (mr.here ?_))));rw[qb];refine wpAny_pure (wpAny_bind (O.here (wpAny_bind (H.here (wpAny_bind (wpAny_pure ?_))))));exact k
end
end
section
open PySem.Builtin PySem.Builtin.ObjectAttr
section
variable{prog:Program}{w:World}{A:Around}{R:Result->Shared->Prop}{h:Heap}{g:Array GenState}{d:Drawn}{t:Nat}{os:OsState}
variable{p:lG}{C B:Addr}
theorem wL{e:Addr}{fs:Array Value}{name:Str}{tk:Tok}{v:Value}(H:h.get? C=some (dF p C B))
  (z:h.get? e=some {cls:=.ref C,data:=.fields fs})
  (k: ∀h' O es n,(∀b o,b≠e->h.get? b=some o->h'.get? b=some o)->h'.get? e=some {cls:=.ref C,dict:=some O,data:=.fields fs}->h'.get? O=some (dictOf es n)->es.any (·.refKey)=false->es.length<=1->h.get? O=none->R (.ok (.ret .none)) ⟨h',g,d,t+1,os⟩):
  wpAny (model prog w) A.in1 (storeInOwnDict (.ref e) (.ref C) (.str name tk) name v false) (λ(fin:PySem.Fin) s'=>match fin with| .done f=>R (.ok f) s'| .again c'=>c'.quiet=true/\codeAny (model prog w) A c' R s') (λe s'=>R (.error e) s') ⟨h,g,d,t,os⟩:=by
 refine wpAny_bind (wpAny_pure (wpAny_bind (wpAny_bind (wpAny_loadPart z (wpAny_bind (wpAny_bind (wpAny_loadPart H ?_)))))));have nC:e≠C:= λq=>by rw[q,H] at z;cases z
 have X:h.get? h.objs.size=none:=aK (Nat.le_refl _);have ne:h.objs.size≠e:= λq=>by rw[q,z] at X;cases X
 refine wpAny_pure ?_;refine wpAny_bind (wpAny_alloc (wpAny_bind (wpAny_update (Heap.get?_push_of_some _ z) (wpAny_pure (wpAny_bind (wpAny_pure ?_))))));refine wpAny_bind ?_;unfold nsSet;have D:((h.push {cls:=.type "dict",data:=.dict #[]}).update e λo=>{o with dict:=some h.objs.size}).get? h.objs.size=some (dictOf [] 0):=by
  rw[Heap.get?_update_other _ _ ne.symm];exact Heap.get?_push_at rfl rfl
 have E':((h.push {cls:=.type "dict",data:=.dict #[]}).update e λo=>{o with dict:=some h.objs.size}).get? e=some {cls:=.ref C,dict:=some h.objs.size,data:=.fields fs}:=by
  rw[Heap.get?_update_self _ (Heap.get?_push_of_some _ z) rfl]
 refine wpAny_bind (wpAny_bind (wpAny_askSetting (wpAny_pure (wpAny_bind (wpAny_mkText (wpAny_bind (wpAny_loadPart D ?_)))))));have up: ∀b o,b≠e->h.get? b=some o->((h.push {cls:=.type "dict",data:=.dict #[]}).update e λo=>{o with dict:=some h.objs.size}).get? b=some o:= λb o nb eb=>by
  rw[Heap.get?_update_other _ _ (Ne.symm nb)];exact Heap.get?_push_of_some _ eb
 generalize((h.push {cls:=.type "dict",data:=.dict #[]}).update e λo=>{o with dict:=some h.objs.size})=h1 at D E' up⊢;have u:Obj.putName name (PyData.keyHash w.params name) (.str name t) v (dictOf [] 0)=dictOf (putL name (PyData.keyHash w.params name) (.str name t) v []) (putN name [] 0):=putName_dict ..;have D':(h1.update h.objs.size (Obj.putName name (PyData.keyHash w.params name) (.str name t) v)).get? h.objs.size=some (dictOf (putL name (PyData.keyHash w.params name) (.str name t) v []) (putN name [] 0)):=by
  rw[Heap.get?_update_self _ D (by rw[u];rfl),u]
 refine wpAny_updatePart D ?_;refine wpAny_bind (wpAny_lookBehind D' rfl ?_);refine wpAny_pure (k _ _ _ _ (λb o nb eb=> ?_) ?_ D' rfl (Nat.le_refl _) X)
 .rw[Heap.get?_update_other _ _ λq=>by rw[<-q,X] at eb;cases eb];exact up b o nb eb
 .rw[Heap.get?_update_other _ _ ne];exact E'
theorem wM{e O:Addr}{fs:Array Value}{name:Str}{tk:Tok}{v:Value}{es:List DictEntry}{n:Nat}(H:h.get? C=some (dF p C B))
  (z:h.get? e=some {cls:=.ref C,dict:=some O,data:=.fields fs}) (D:h.get? O=some (dictOf es n)) (al:es.any (·.refKey)=false) (hz:es.length<=1)
  (k: ∀h' es n,(∀b o,b≠O->h.get? b=some o->h'.get? b=some o)->h'.get? O=some (dictOf es n)->R (.ok (.ret .none)) ⟨h',g,d,t+1,os⟩):
  wpAny (model prog w) A.in1 (storeInOwnDict (.ref e) (.ref C) (.str name tk) name v false) (λ(fin:PySem.Fin) s'=>match fin with| .done f=>R (.ok f) s'| .again X=>X.quiet=true/\codeAny (model prog w) A X R s') (λe s'=>R (.error e) s') ⟨h,g,d,t,os⟩:=by
 have ac:(putL name (PyData.keyHash w.params name) (.str name t) v es).length<=es.length+1:=by
  clear D al hz k;induction es with
  |nil=>simp[putL]
  |cons e r ih=>unfold putL;split<;>simp;exact aj ih
 refine wpAny_bind (wpAny_pure (wpAny_bind (wpAny_bind (wpAny_loadPart z (wpAny_bind (wpAny_bind (wpAny_loadPart H (wpAny_pure ?_))))))));refine wpAny_pure (a:=some O) (wpAny_bind (wpAny_pure (wpAny_bind ?_)));unfold nsSet;refine wpAny_bind (wpAny_bind (wpAny_askSetting (wpAny_pure (wpAny_bind (wpAny_mkText (wpAny_bind (wpAny_loadPart D ?_)))))));have c:(!(es.toArray).any (·.key.isStr name)&&(es.toArray).any (·.refKey))=false:=by
  rw[<-Array.any_toList (p:= λ(e:DictEntry)=>e.refKey),List.toList_toArray,al,Bool.and_false]
 dsimp only[dictOf];rw[aRefKeyMayBeTheName_at,c];have u:Obj.putName name (PyData.keyHash w.params name) (.str name t) v (dictOf es n)=dictOf (putL name (PyData.keyHash w.params name) (.str name t) v es) (putN name es n):=putName_dict ..;have D':(h.update O (Obj.putName name (PyData.keyHash w.params name) (.str name t) v)).get? O=some (dictOf (putL name (PyData.keyHash w.params name) (.str name t) v es) (putN name es n)):=by
  rw[Heap.get?_update_self _ D (by rw[u];rfl),u]
 refine wpAny_updatePart D ?_;refine wpAny_bind (wpAny_lookBehind D' (pastItsLine_dict (by rw[List.size_toArray,sizeLine_eq];exact bp hz ac)) ?_);exact wpAny_pure (k _ _ _ (λb o nb eb=>by rw[Heap.get?_update_other _ _ (Ne.symm nb)];exact eb) D')
end
end
section
open PySem.Builtin PySem.Builtin.ObjectAttr
section
variable{prog:Program}{w:World}{A:Around}
variable{p:lG}{C B:Addr}
theorem zj:findCls [] (.type "Exception") (.type "type") "__init__"=some (.val (.builtin "Exception.__init__")):=by kernel_rfl
theorem zk:typeOf (.type "Exception")=pure (.type "type"):=by first|rfl|kernel_rfl
theorem oS{h:Heap}{g:Array GenState}{d:Drawn}{t:Nat}{os:OsState}{e:Addr}{u:Option Addr}{X:Addr}{name:Str}{v:Value}{Q:Unit->Shared->Prop}{E:Value->Shared->Prop}
  (hs:Looks (model prog w) h (typeLookup (.ref C) "__setattr__") (some (.builtin "object.__setattr__")))
  (he:h.get? e=some (mP C X u)) (k:codeAny (model prog w) A (.call (.builtin "object.__setattr__") ⟨[.ref e,.str name t,v],[]⟩) (λr s'=>match r with| .ok (.ret _)=>Q () s'| .ok _=>False| .error e=>E e s') ⟨h,g,d,t+1,os⟩):
  wpAny (model prog w) A (setAttr (.ref e) name v) Q E ⟨h,g,d,t,os⟩:=by
 have O:Looks (model prog w) h (typeOf (.ref e)) (.ref C):=(Looks.ld he).andThen .now;refine wpAny_bind (wpAny_mkText (wpAny_bind (wpAny_bind (wpAny_bind (O _ _ _ _ (λH H e=>e) (hs _ _ _ _ (λH H e=>e) (wpAny_holding ?_)))))));rw[PySem.F.store_object.slot.bind];refine wpAny_bind (wpAny_pure (wpAny_bind (wpAny_call (codeAny_mono k λr s' z=> ?_))));rcases r with e|(v|_|_|_)<;>first|exact z|exact wpAny_pure (wpAny_pure z)
theorem B7{h:Heap}{g:Array GenState}{d:Drawn}{t:Nat}{os:OsState}{e:Addr}{X:Addr}{name:Str}{v:Value}{u:Unit->Shared->Prop}{E:Value->Shared->Prop}
  (hC:h.get? C=some (dF p C B)) (hs:Looks (model prog w) h (typeLookup (.ref C) "__setattr__") (some (.builtin "object.__setattr__"))) (H:Looks (model prog w) h (typeLookup (.ref C) name) none)
  (z:h.get? e=some (mP C X none))
  (k: ∀h' O es n,(∀b o,b≠e->h.get? b=some o->h'.get? b=some o)->h'.get? e=some (mP C X (some O))->h'.get? O=some (dictOf es n)->es.any (·.refKey)=false->es.length<=1->h.get? O=none->u () ⟨h',g,d,t+2,os⟩):
  wpAny (model prog w) A (setAttr (.ref e) name v) u E ⟨h,g,d,t,os⟩:=
 oS hs z (oR (R:= λr s'=>match r with| .ok (.ret _)=>u () s'| .ok _=>False| .error e=>E e s') hC z H (wL (R:= λr s'=>match r with| .ok (.ret _)=>u () s'| .ok _=>False| .error e=>E e s') hC z k))
theorem B8{h:Heap}{g:Array GenState}{d:Drawn}{t:Nat}{os:OsState}{e O:Addr}{X:Addr}{name:Str}{v:Value}{u:Unit->Shared->Prop}{E:Value->Shared->Prop}{es:List DictEntry}{n:Nat}
  (hC:h.get? C=some (dF p C B)) (hs:Looks (model prog w) h (typeLookup (.ref C) "__setattr__") (some (.builtin "object.__setattr__"))) (H:Looks (model prog w) h (typeLookup (.ref C) name) none)
  (z:h.get? e=some (mP C X (some O))) (D:h.get? O=some (dictOf es n)) (ac:es.any (·.refKey)=false) (hz:es.length<=1)
  (k: ∀h' es n,(∀b o,b≠O->h.get? b=some o->h'.get? b=some o)->h'.get? O=some (dictOf es n)->u () ⟨h',g,d,t+2,os⟩):
  wpAny (model prog w) A (setAttr (.ref e) name v) u E ⟨h,g,d,t,os⟩:=
 oS hs z (oR (R:= λr s'=>match r with| .ok (.ret _)=>u () s'| .ok _=>False| .error e=>E e s') hC z H (wM (R:= λr s'=>match r with| .ok (.ret _)=>u () s'| .ok _=>False| .error e=>E e s') hC z D ac hz k))
noncomputable def mW(u z p3 p4 p5 p6 X H q3 q4 r1 O r3 r4:Pos):List Stmt:=
 [.Expr (.Call (.Attribute (.Name "Exception" u) "__init__" z) [.Name "self" p3,.Name "what" p4] [] p5) p6,.Assign [.Attribute (.Name "self" X) "what" H] (.Name "what" q3) q4,.Assign [.Attribute (.Name "self" r1) "at" O] (.Name "at" r3) r4]
theorem t7{p1 p2 p3 p4 p5 p6 q1 q2 q3 q4 r1 r2 r3 r4:Pos}(H:(p2.endLine==p5.line)=true){env:Env}{b0:Heap}{m:Str->Option Value}{e f0:Addr}{v1 v2:Value}{Q:Flow->Shared->Prop}{E:Value->Shared->Prop}{s:Shared}
  (hC:b0.get? C=some (dF p C B))
  (a4:Looks (model prog w) b0 (typeLookup (.ref C) "__setattr__") (some (.builtin "object.__setattr__")))
  (a8:Looks (model prog w) b0 (typeLookup (.ref C) "what") none) (b2:Looks (model prog w) b0 (typeLookup (.ref C) "at") none)
  (O:env.scope.kind= .function) (ks:env.kindOf "self"=some .local) (kw:env.kindOf "what"=some .local) (ka:env.kindOf "at"=some .local)
  (hex: ∀{E:Value->Shared->Prop} {s:Shared} {Q:Value->Shared->Prop},b0.StaysIn s.heap->Q (.type "Exception") s->wpAny (model prog w) A (loadName env "Exception") Q E s)
  (aI:b0.StaysIn s.heap) (hL:b0.objs.size<=env.locals) (ns:s.heap.Ns env.locals m) (m1:m "self"=some (.ref e)) (m2:m "what"=some v1) (m3:m "at"=some v2)
  (he:s.heap.get? e=some (mP C f0 none)) (b4:b0.get? e=none) (nL:env.locals≠e)
  (hQ: ∀h' tk t' dx,(∀b o,b≠e->s.heap.get? b=some o->h'.get? b=some o)->h'.get? e=some (mP C t' (some dx))->Q .next {s with heap:=h',toks:=tk}):
  wpAny (model prog w) A (execs (mW p1 p2 p3 p4 p5 p6 q1 q2 q3 q4 r1 r2 r3 r4) env) Q E s:=by
 obtain⟨h,g,d,t,os⟩:=s;dsimp only at aI ns he hQ;have hi:interactive env=false:=by unfold interactive;rw[O];rfl
 have nb: ∀{b o},b0.get? b=some o->b≠e:= λ{b o} z q=>by rw[q,b4] at z;cases z
 have nd:("self"==("__debug__":Str))=false/\("what"==("__debug__":Str))=false/\("at"==("__debug__":Str))=false/\("Exception"==("__debug__":Str))=false:=by decide
 have a3: ∀{h':Heap},(∀b o,b≠e->h.get? b=some o->h'.get? b=some o)->h'.Ns env.locals m:= λ{h'} u=>f7 ns λo z=>⟨o.slots,u _ _ nL z⟩
 refine wpAny_execs_cons (wpAny_Expr (MC (by rfl) (by rfl) H ?_) hi rfl);refine wpAny_Name (hex aI λpl=> ?_);refine method_type (K:=[]) (F:=⟨ns,aI,hL⟩) (λa o e=>nomatch e) zk (by decide+kernel) zj rfl ?_;refine cw (by rfl) (ji (λa h=>nomatch h)) (args_cons (wpAny_Name (wpAny_loadName_local O ks ns m1 (args_cons (wpAny_Name (wpAny_loadName_local O kw ns m2 (args_nil ⟨trivial,?_⟩)) nd.2.1) rfl)) nd.1) rfl);refine t6 (aI _ _ hC) he (λX be al am=> ?_);have an:b0.StaysIn X:= λb o z=>al b o (nb z) (aI b o z);refine wpAny_execs_cons (plainObj_wpAny_Assign_Attribute ?_);refine wpAny_Name (wpAny_loadName_local O kw (a3 al) m2 (wpAny_Name (wpAny_loadName_local O ks (a3 al) m1 ?_) nd.1)) nd.2.1;refine B7 (an _ _ hC) (a4.keeps an) (a8.keeps an) am λa5 dx es n a9 a1 a7 hr hz bd=> ?_;have ac: ∀b o,b≠e->h.get? b=some o->a5.get? b=some o:= λb o nb z=>a9 b o nb (al b o nb z);have ap:b0.StaysIn a5:= λb o z=>ac b o (nb z) (aI b o z);refine wpAny_execs_cons (plainObj_wpAny_Assign_Attribute ?_);refine wpAny_Name (wpAny_loadName_local O ka (a3 ac) m3 (wpAny_Name (wpAny_loadName_local O ks (a3 ac) m1 ?_) nd.1)) nd.2.2.1;refine B8 (ap _ _ hC) (a4.keeps ap) (b2.keeps ap) a1 a7 hr hz λcd es n a2 b3=> ?_;refine wpAny_execs_nil (hQ _ _ be dx (λb o nb z=>a2 b o (λq=> ?_) (ac b o nb z)) (a2 e _ (λq=> ?_) a1))
 .rw[q] at z;have:=al dx o (q▸nb) z;rw[bd] at this;cases this
 .rw[q,bd] at am;cases am
end
end
section
variable{p:lG}{B:Addr}
theorem EL{z:Type}{l:List z}(h:l.length=2): ∃a b,l=[a,b]:=by
 rcases l with _|⟨a,_|⟨b,_|_⟩⟩<;>first|exact⟨_,_,rfl⟩|exact absurd h (by simp)
theorem B9{Y:Lay}{prog:Program}{w:World}{i:Nat}{f:Fd}{o:Obj}{d:FuncData}{p1 p2 p3 p4 p5 p6 q1 q2 q3 q4 r1 r2 r3 r4:Pos}(H:(p2.endLine==p5.line)=true)(O:FnAt Y i f o d)
  (hf:f.body=mW p1 p2 p3 p4 p5 p6 q1 q2 q3 q4 r1 r2 r3 r4) (an:f.params=[("self":Str),"what","at"]) (b1:f.defaults.length=1)
  (ks:f.scope.names.lookup ("self":Str)=some .local) (kw:f.scope.names.lookup ("what":Str)=some .local) (ka:f.scope.names.lookup ("at":Str)=some .local) (kE:f.scope.names.lookup ("Exception":Str)=some .globalImplicit)
  (lim:Y.base.NoLimit) (top: ∃a o,Y.base.get? a=some o/\Y.base.objs.size=a+1)
  (hC:Y.base.get? Y.wf=some (dF p Y.wf B))
  (u:Looks (model prog w) Y.base (typeLookup (.ref Y.wf) "__init__") (some (.ref (Y.fa i)))) (X: ∀ap,Looks (model prog w) Y.base (bindSpecial (.ref (Y.fa i)) ap) (.ref (Y.fa i),[ap]))
  (bb:Looks (model prog w) Y.base (typeLookup (.ref Y.wf) "__setattr__") (some (.builtin "object.__setattr__")))
  (a5:Looks (model prog w) Y.base (typeLookup (.ref Y.wf) "what") none) (b0:Looks (model prog w) Y.base (typeLookup (.ref Y.wf) "at") none)
  (hex: ∀(env:Env) (E:Value->Shared->Prop) (s:Shared) (Q:Value->Shared->Prop),env.globals=mainGlobals->env.builtins=builtinsNs->env.scope.kind= .function->env.kindOf "Exception"=some .globalImplicit->Y.base.StaysIn s.heap->Q (.type "Exception") s-> ∀A,wpAny (model prog w) A (loadName env "Exception") Q E s)
  {A:Around} {E:Value->Shared->Prop} {s:Shared} {Q:Value->Shared->Prop} {vs:List Value} (hA:uP A) (al:Y.base.StaysIn s.heap) (b3:vs.length=2)
  (k: ∀h' tk e,u1 Y s.heap h' e->Q (.ref e) {s with heap:=h',toks:=tk}):wpAny (model prog w) A (PySem.call (.ref Y.wf) vs) Q E s:=by
 obtain⟨v1,v2,rfl⟩:=EL b3;obtain⟨h,g,dr,t,os⟩:=s;dsimp only at al k;refine t5 (al _ _ hC) (u.keeps al) (λap=>(X ap).keeps al) ?_ (by rw[sizeLine_eq];show 2<=_;decide);have kp: ∀b o,h.get? b=some o->(fL h Y.wf [v1,v2]).get? b=some o:= λb o e=>Heap.get?_push_of_some _ (Heap.get?_push_of_some _ e);have he:(fL h Y.wf [v1,v2]).get? (h.objs.size+1)=some (mP Y.wf h.objs.size none):=by delta fL mP;heap_get
 have am:h.get? (h.objs.size+1)=none:=aK (Nat.le_succ _);have a8:Y.base.get? (h.objs.size+1)=none:=by
  rcases z:Y.base.get? (h.objs.size+1) with _|o
  .rfl
  .have:=al _ _ z;rw[am] at this;cases this
 generalize fL h Y.wf [v1,v2]=h₁ at kp he⊢;generalize h.objs.size+1=e at he am a8⊢;generalize h.objs.size=f0 at he;have ac:Y.base.StaysIn h₁:= λb o z=>kp b o (al b o z);have hsz:Y.base.objs.size<=h₁.objs.size:=by
  obtain⟨a,o,e,q⟩:=top;rw[q];exact Heap.lt_size (ac _ _ e)
 obtain⟨r,dv,hr,a9,b2⟩:=O.dflt;have a3:dv.length=1:=b2.1.trans b1;have a0:BindsTo ⟨h₁,g,dr,t,os⟩ d ⟨[.ref e,v1,v2],[]⟩ [(("self":Str),Value.ref e),("what",v1),("at",v2)]:=by
  have:=lx (s:=⟨h₁,g,dr,t,os⟩) (vals:=[.ref e,v1,v2]) O.pos O.Hi O.var O.Hj O.names (λM A E Q=>hr _ ac M A E Q) a9 O.nodup (by rw[an];exact Nat.le_refl _) (by rw[an];show 3<=3+_;simp+arith only) (by rw[an,a3];decide);rw[an,a3] at this;rw[show dv.drop (1-([("self":Str),"what","at"].length-[Value.ref e,v1,v2].length))=[] from List.drop_eq_nil_of_le (by rw[a3];exact Nat.le_refl _)] at this;exact this
 have kd: ∀x,d.scope.names.lookup x=f.scope.names.lookup x:= λx=>by rw[O.scope]
 refine wpAny_call (codeAny_call_function (by have:=hA.depth;show A.depth+1<_;exact aj this) (ac _ _ O.at_) O.data (by rw[O.scope];exact O.co) (by rw[O.scope];exact O.gen) O.body (O.code.keeps ac) ?_);refine a0 _ _ _ _ ?_;rw[O.closure];refine wpAny_newFunctionEnv_cells (by rw[O.scope];exact O.kind) (λx hx=>.inl ?_) λenv hE s' x=> ?_
 .rw[kd];rcases List.mem_cons.mp hx with rfl|hx
  .exact ks
  .rcases List.mem_cons.mp hx with rfl|hx
   .exact kw
   .rcases List.mem_cons.mp hx with rfl|hx
    .exact ka
    .cases hx
 have k1:env.kindOf "self"=some .local:=by rw[hE];exact(kd _).trans ks
 have k2:env.kindOf "what"=some .local:=by rw[hE];exact(kd _).trans kw
 have k3:env.kindOf "at"=some .local:=by rw[hE];exact(kd _).trans ka
 have eL:env.locals=h₁.objs.size:=by rw[hE];rfl
 have nd:(([("self",Value.ref e),("what",v1),("at",v2)]:List (Str×Value)).map (·.1)).Nodup:=show[("self":Str),"what","at"].Nodup by decide
 have up:=x.toInCall.keep;refine⟨(lim.keeps ac).keeps up,codeAny_func ?_⟩;obtain⟨ce,tk,rfl⟩:=x.toInCall.same;rw[hf];refine t7 H hC bb a5 b0 (by rw[hE];show d.scope.kind=_;rw[O.scope];exact O.kind) k1 k2 k3 (λ{E s Q} a b=>hex env E s Q (by rw[hE];exact O.globals) (by rw[hE];exact O.builtins) (by rw[hE];show d.scope.kind=_;rw[O.scope];exact O.kind) (by rw[hE];exact(kd _).trans kE) a b _)
  (λb o z=>up b o (ac b o z)) (by rw[eL];exact hsz) x.toInCall.ns (jM nd (.head _) k1) (jM nd (.tail _ (.head _)) k2) (jM nd (.tail _ (.tail _ (.head _))) k3)
  (up _ _ he) a8 (by rw[eL];intro q;rw[<-q] at he;exact Nat.lt_irrefl _ (Heap.lt_size he)) λbd tk t' dx a6 a4=>⟨rfl,?_⟩
 refine k bd tk e ⟨λb o z=>a6 b o (λq=>by rw[q,am] at z;cases z) (up b o (kp b o z)),am,t',dx,a4⟩
end
section
structure Val where
 B:Nat->List UInt8
 L:Nat->List D
 O:Nat->D
 C:Nat->UInt8
namespace Val
variable(ρ:Val)
noncomputable def b(k:Nat):List UInt8:=if k<split0 then ρ.B k else dj [44] ((ρ.L 7).filterMap bH)
noncomputable def l(k:Nat):List D:=if k<split0 then ρ.L k else(aX 10 (ρ.B (k-split0))).map .bytes
noncomputable def n(j:Nat):Nat:=if j%2=0 then(ρ.b (j/2)).length else(ρ.l (j/2)).length
noncomputable def sum(ls:List Nat):Nat:=(ls.map ρ.n).sum
structure Ok:Prop where
 bB: ∀k,(ρ.b k).length<=big
 bL: ∀k,(ρ.l k).length<=big
 dL: ∀k,∀d∈ρ.l k,∀n,cV n d=false
 dO: ∀k n,cV n (ρ.O k)=false
 same: ∀k,500<=k->k<1000-> ∀d∈ρ.L k,∀n,4<=n->fQ n d d=some true
 l7: ∀d∈ρ.L 7,∃b,d= .bytes b
 cO: ∀k,ρ.O (100+k)= .int ((ρ.C k).toNat:Nat)
 cW: ∀k,ρ.C k≠32/\ρ.C k≠9
noncomputable def oct:List BI->List UInt8
 |[]=>[]
 | .b c::r=>c::oct r
 | .s k::r=>ρ.b k++oct r
 | .t k n::r=>(ρ.b k).take n++oct r
 | .n k::r=>ρ.C k::oct r
end Val
theorem zl{x:D}(h:cV 1 x=false):bM x=false:=(Bool.or_eq_false_iff.mp h).1
theorem Val.Ok.nL{ρ:Val}(H:ρ.Ok)(k:Nat)(d:D)(m:d∈ρ.l k):bM d=false:=zl (H.dL k d m 1)
theorem Val.Ok.nO{ρ:Val}(H:ρ.Ok)(k:Nat):bM (ρ.O k)=false:=zl (H.dO k 1)
noncomputable def rowOf(ρ:Val)(x:D)(v:D):List D:=match d4 x with
 |some k=>ρ.l k
 |none=>[v]
noncomputable def gD(ρ:Val)(x:D):D:=
 D.rec (motive_1:= λB=>D) (motive_2:= λB=>List D×List D) (motive_3:= λB=>Unit) (motive_4:= λB=>List (Str×D)) (motive_5:= λB=>Unit) (motive_6:= λB=>Str×D)
  .none .bool .int .str .bytes (λB u=>.tup u.1) (λB u=>.lst u.2) (λes B=>.dN es) (λC B u=>.obj C u) .fn (λc ls=>.int (c+(ρ.sum ls:Nat))) (λb=>.bytes (ρ.oct b)) .seg ρ.O
  ([],[]) (λx B v r=>(v::r.1,rowOf ρ x v++r.2)) () (λB B B B=>()) [] (λB B v r=>v::r) (λB B B=>()) (λa B v=>(a,v)) x
variable{ρ:Val}
noncomputable def gL(ρ:Val)(xs:List D):List D:=xs.flatMap λx=>rowOf ρ x (gD ρ x)
noncomputable def gF(ρ:Val)(fs:List (Str×D)):List (Str×D):=fs.map λp=>(p.1,gD ρ p.2)
noncomputable def gO(ρ:Val):MO->MO
 | .lst xs=>.lst (gL ρ xs)
 | .obj C fs=>.obj C (gF ρ fs)
noncomputable def gM(ρ:Val):MV->MV
 | .d x=>.d (gD ρ x)
 | .own o=>.own (gO ρ o)
noncomputable def ax(ρ:Val)(l:Loc):Loc:=l.map λp=>(p.1,gM ρ p.2)
noncomputable def gS(ρ:Val)(i:SI):SI:=⟨i.c+(ρ.sum i.ls:Nat),[]⟩
theorem gB(xs:List D):gD ρ (.tup xs)= .tup (xs.map (gD ρ)):=by
 show D.tup _=D.tup _;congr 1;induction xs with
 |nil=>rfl
 |cons x r B=>exact congrArg (gD ρ x:: ·) B
theorem bc(xs:List D):gD ρ (.lst xs)= .lst (gL ρ xs):=by
 show D.lst _=D.lst _;congr 1;induction xs with
 |nil=>rfl
 |cons x r B=>exact congrArg (rowOf ρ x (gD ρ x)++ ·) B
theorem fM(C:Nat)(fs:List (Str×D)):gD ρ (.obj C fs)= .obj C (gF ρ fs):=by
 show D.obj _ _=D.obj _ _;congr 1;induction fs with
 |nil=>rfl
 |cons p r B=>exact congrArg ((p.1,gD ρ p.2):: ·) B
theorem EM(o:MO):(gO ρ o).D=gD ρ o.D:=by
 rcases o with xs|⟨C,fs⟩
 .exact(bc xs).symm
 .exact(fM C fs).symm
theorem rL(v:MV):(gM ρ v).D=gD ρ v.D:=by
 rcases v with x|o
 .rfl
 .exact EM o
theorem bt(x:D)(r:List D):gL ρ (x::r)=rowOf ρ x (gD ρ x)++gL ρ r:=rfl
theorem dS(a b:List D):gL ρ (a++b)=gL ρ a++gL ρ b:=List.flatMap_append
theorem iq{x v:D}(h:aC x=false):rowOf ρ x v=[v]:=by
 rcases x with _|_<;>first|rfl|cases h
theorem d7{x:D}{r:List D}:aG (x::r)=false↔aC x=false/\aG r=false:=by
 exact Bool.or_eq_false_iff
theorem cL{xs:List D}(h:aG xs=false):gL ρ xs=xs.map (gD ρ):=by
 induction xs with
 |nil=>rfl
 |cons x r B=>
  rw[d7] at h;rw[bt,iq h.1,B h.2];rfl
theorem bk{xs:List D}:aG xs=false↔ ∀x∈xs,aC x=false:=by
 unfold aG;rw[List.any_eq_false];exact⟨λh x m=>by simpa using h x m,λh x m=>by simpa using h x m⟩
theorem cY{x:D}(h:bM x=false):aC x=false:=by
 rcases x with _|_<;>first|rfl|cases h
section
variable(H:ρ.Ok)
include H
theorem u9: ∀{x:D},aC x=false->aC (gD ρ x)=false:= λ{x} h=>by
 rcases x with _|_|_|_|_|_|_|_|_|_|_|_|k|k<;>try(rfl;done)
 .cases h
 .exact cY (H.nO k)
theorem cA(xs:List D):aG (gL ρ xs)=false:=by
 induction xs with
 |nil=>rfl
 |cons x r B=>
  rw[bt];rw[bk] at B⊢;intro y m;rcases List.mem_append.mp m with m|m
  .unfold rowOf at m;rcases hx:d4 x with _|k
   .rw[hx] at m;rw[List.mem_singleton.mp m];refine u9 H ?_;rcases x with _|_<;>first|rfl|cases hx
   .rw[hx] at m;exact cY (H.nL k y m)
  .exact B y m
theorem i4{x:D}(h:aC x=false):bM (gD ρ x)=false:=by
 rcases x with _|_|_|_|_|_|xs|_|_|_|_|_|k|k<;>try(rfl;done)
 .rw[bc];exact cA H xs
 .cases h
 .exact H.nO k
theorem EN: ∀(n:Nat) {x:D},aC x=false->cV n (gD ρ x)=false:=by
 intro X;induction X with
 |zero=>
  intro B B;exact rfl
 |succ n u=>
  intro x h;rcases x with _|_|_|_|_|_|xs|_|_|_|_|_|k|k<;>try(rfl;done)
  .rw[bc];show(aG (gL ρ xs)||(gL ρ xs).any (cV n))=false;rw[cA H,Bool.false_or,List.any_eq_false];intro y m;obtain⟨x,O,z⟩:=List.mem_flatMap.mp m;unfold rowOf at z;rcases hx:d4 x with _|k
   .rw[hx] at z;rw[List.mem_singleton.mp z,u (by rcases x with _|_<;>first|rfl|cases hx)];decide
   .rw[hx] at z;rw[H.dL k y z n];decide
  .cases h
  .exact H.dO k (n+1)
theorem mX(xs:List D):(gL ρ xs).length<=dP xs:=by
 induction xs with
 |nil=>exact Nat.le_refl _
 |cons x r B=>
  rw[bt,List.length_append];refine Nat.add_le_add ?_ B;rcases x with _|_|_|_|_|_|_|_|_|_|_|_|k|_<;>try(exact Nat.le_refl _;done)
  .exact H.bL k
theorem oU(xs:List D):dP (gL ρ xs)<=dP xs:=by
 have h:=cA H xs;have q: ∀ys:List D,aG ys=false->dP ys=ys.length:=by
  intro ys;induction ys with
  |nil=>intro _;rfl
  |cons y r B=>
   intro h;rw[d7] at h;show(if aC y then big else 1)+dP r=r.length+1;rw[h.1,B h.2,Nat.add_comm];rfl
 rw[q _ h];exact mX H xs
theorem mY(b:List BI):(ρ.oct b).length<=g_ b:=by
 induction b with
 |nil=>exact Nat.le_refl _
 |cons x r B=>
  rcases x with c|k|⟨k,n⟩|k
  .show(ρ.oct r).length+1<=1+g_ r;exact aj B
  .show(ρ.b k++ρ.oct r).length<=big+g_ r;rw[List.length_append];exact Nat.add_le_add (H.bB k) B
  .show((ρ.b k).take n++ρ.oct r).length<=big+g_ r;rw[List.length_append];exact Nat.add_le_add (Nat.le_trans (List.length_take_le' _ _) (H.bB k)) B
  .show(ρ.oct r).length+1<=1+g_ r;exact aj B
end
theorem mZ(a b:List BI):ρ.oct (a++b)=ρ.oct a++ρ.oct b:=by
 induction a with
 |nil=>rfl
 |cons x r B=>
  rcases x with c|k|⟨k,n⟩|c
  .exact congrArg (c:: ·) B
  .show ρ.b k++ρ.oct (r++b)=(ρ.b k++ρ.oct r)++ρ.oct b;rw[B,List.append_assoc]
  .show(ρ.b k).take n++ρ.oct (r++b)=((ρ.b k).take n++ρ.oct r)++ρ.oct b;rw[B,List.append_assoc]
  .exact congrArg (ρ.C c:: ·) B
theorem rM(b:List UInt8):ρ.oct (b.map .b)=b:=by
 induction b with
 |nil=>rfl
 |cons x r B=>exact congrArg (x:: ·) B
theorem wN{b:List BI}{p:List UInt8}(h:pC b=some p):ρ.oct b=p:=by
 induction b generalizing p with
 |nil=>cases h;rfl
 |cons x r B=>
  rcases x with c|k|⟨k,n⟩|k
  .obtain⟨q,u,rfl⟩:=ar h;exact congrArg (c:: ·) (B u)
  .cases h
  .cases h
  .cases h
theorem zm(b:List BI):gD ρ (GC b)= .bytes (ρ.oct b):=by
 unfold GC;rcases h:pC b with _|p
 .rfl
 .rw[wN h];rfl
theorem rN(c:Int)(ls:List Nat):gD ρ (Dp c ls)= .int (c+(ρ.sum ls:Nat)):=by
 rcases ls with _|⟨k,r⟩
 .show D.int c=D.int (c+((0:Nat):Int));rw[Int.natCast_zero,Int.add_zero]
 .rfl
theorem cg{x:D}{i:SI}(h:bQ x=some i):gD ρ x= .int (gS ρ i).c:=by
 rcases x with _|_|j|_|_|_|_|_|_|_|⟨c,ls⟩|_|_|_<;>try(exact af h;done)
 .cases h;show D.int j=D.int (j+((0:Nat):Int));rw[Int.natCast_zero,Int.add_zero]
 .cases h;rfl
theorem eK{x:D}{b:List BI}(h:ey x=some b):gD ρ x= .bytes (ρ.oct b):=by
 rcases x with _|_|_|_|p|_|_|_|_|_|_|p|_|_<;>try(exact af h;done)
 .cases h;rw[rM];rfl
 .cases h;rfl
theorem ff{x:D}{xs:List D}(h:dg x=some xs):gD ρ x= .lst (gL ρ xs):=by
 rw[bI h,bc]
theorem qc(k:Nat)(a:List Nat):ρ.sum (pD k a)=ρ.n k+ρ.sum a:=by
 induction a with
 |nil=>rfl
 |cons j r B=>
  unfold pD;split
  .rfl
  .show ρ.n j+ρ.sum (pD k r)=ρ.n k+(ρ.n j+ρ.sum r)
   rw[B];simp+arith only
theorem wO(a b:List Nat):ρ.sum (pE a b)=ρ.sum a+ρ.sum b:=by
 induction a with
 |nil=>exact(Nat.zero_add _).symm
 |cons j r B=>
  show ρ.sum (pD j (pE r b))=ρ.n j+ρ.sum r+ρ.sum b;rw[qc,B,Nat.add_assoc]
theorem t8{k:Nat}{a c:List Nat}(h:Ec k a=some c):ρ.sum a=ρ.n k+ρ.sum c:=by
 induction a generalizing c with
 |nil=>cases h
 |cons j r B=>
  unfold Ec at h;revert h;refine gp (λe h=> ?_) (λz h=> ?_)
  .cases h;rw[e];rfl
  .obtain⟨d,u,rfl⟩:=ar h;show ρ.n j+ρ.sum r=ρ.n k+(ρ.n j+ρ.sum d)
   rw[B u];simp+arith only
theorem gC{a b c:List Nat}(h:mj a b=some c):ρ.sum a=ρ.sum b+ρ.sum c:=by
 induction b generalizing a with
 |nil=>cases h;exact(Nat.zero_add _).symm
 |cons k r B=>
  obtain⟨d,u,z⟩:=ae h;rw[t8 u,B z];show _=ρ.n k+ρ.sum r+ρ.sum c;simp+arith only
theorem zo(k:Nat):ρ.n (2*k)=(ρ.b k).length:=by
 unfold Val.n;rw[if_pos (Nat.mul_mod_right 2 k),Nat.mul_div_cancel_left k (by decide)]
theorem DB(k:Nat):ρ.n (2*k+1)=(ρ.l k).length:=by
 unfold Val.n;rw[if_neg (by rw[Nat.mul_add_mod];decide),show(2*k+1)/2=k from Nat.mul_add_div (by decide) k 1]
theorem EO(b:List BI)(X:GY b=true):(hO b).c+(ρ.sum (hO b).ls:Nat)=((ρ.oct b).length:Nat):=by
 induction b with
 |nil=>rfl
 |cons x r B=>
  rcases x with c|k|⟨k,n⟩|c
  .have B:=B X;show(hO r).c+1+(ρ.sum (hO r).ls:Nat)=(((ρ.oct r).length+1:Nat):Int);rw[Int.add_right_comm,B];rfl
  .have B:=B X;show(hO r).c+(ρ.sum (pD (2*k) (hO r).ls):Nat)=((ρ.b k++ρ.oct r).length:Nat)
   rw[qc,zo,List.length_append,Int.natCast_add,Int.natCast_add,Int.add_left_comm,B]
  .cases X
  .have B:=B X;show(hO r).c+1+(ρ.sum (hO r).ls:Nat)=(((ρ.oct r).length+1:Nat):Int);rw[Int.add_right_comm,B];rfl
theorem EP(xs:List D):(pF xs).c+(ρ.sum (pF xs).ls:Nat)=((gL ρ xs).length:Nat):=by
 induction xs with
 |nil=>rfl
 |cons x r B=>
  rw[bt];unfold pF rowOf;rcases d4 x with _|k
  .dsimp only;rw[List.length_append];simp only[List.length_singleton];rw[Int.add_right_comm,B,Nat.add_comm];rfl
  .dsimp only;rw[qc,DB,List.length_append,Int.natCast_add,Int.natCast_add,Int.add_left_comm,B]
theorem qd{b r:List BI}{n:Nat}{ls:List Nat}(h:lb b n ls=some r): ∃p,ρ.oct b=p++ρ.oct r/\p.length=n+ρ.sum ls:=by
 have nil: ∀{b:List BI} {n:Nat} {ls:List Nat},(n=0&&ls.isEmpty)=true-> ∃p,ρ.oct b=p++ρ.oct b/\p.length=n+ρ.sum ls:= λ{b n ls} q=>by
  rw[Bool.and_eq_true,decide_eq_true_eq,List.isEmpty_iff] at q;obtain⟨rfl,rfl⟩:=q;exact⟨[],rfl,rfl⟩
 induction b generalizing n ls with
 |nil=>
  replace h:(if n=0&&ls.isEmpty then some [] else none)=some r:=h;obtain⟨q,h⟩:=js h;cases h;exact nil q
 |cons x b B=>
  rcases x with c|k|⟨k,n⟩|c
  .rcases n with _|n
   .replace h:(if ls.isEmpty then some ((.b c:BI)::b) else none)=some r:=h;obtain⟨q,h⟩:=js h;cases h;exact nil (by rw[q];rfl)
   .obtain⟨p,u,z⟩:=B h;exact⟨c::p,congrArg (c:: ·) u,by rw[List.length_cons,z];simp+arith only⟩
  .replace h:(if n=0&&ls.isEmpty then some (.s k::b) else(Ec (2*k) ls).bind λls=>lb b n ls)=some r:=h;by_cases q:(n=0&&ls.isEmpty)=true
   .rw[if_pos q] at h;cases h;exact nil q
   .rw[if_neg q] at h;obtain⟨m,u,z⟩:=ae h;obtain⟨p,X,O⟩:=B z;refine⟨ρ.b k++p,?_,?_⟩
    .show ρ.b k++ρ.oct b=_;rw[X,List.append_assoc]
    .rw[List.length_append,O,t8 u,zo];simp+arith only
  .cases h
  .rcases n with _|n
   .replace h:(if ls.isEmpty then some ((.n c:BI)::b) else none)=some r:=h;obtain⟨q,h⟩:=js h;cases h;exact nil (by rw[q];rfl)
   .obtain⟨p,u,z⟩:=B h;exact⟨ρ.C c::p,congrArg (ρ.C c:: ·) u,by rw[List.length_cons,z];simp+arith only⟩
theorem B_{b r:List D}{n:Nat}{ls:List Nat}(h:qI b n ls=some r): ∃p,gL ρ b=p++gL ρ r/\p.length=n+ρ.sum ls:=by
 induction b generalizing n ls with
 |nil=>cases h
 |cons x b B=>
  unfold qI at h;rw[bt];unfold rowOf;rcases hx:d4 x with _|k
  .rw[hx] at h;dsimp only at h⊢;rcases n with _|n
   .dsimp only at h;revert h;refine gp (λq h=> ?_) (λq9 h=> ?_)
    .cases h;rw[List.isEmpty_iff] at q;subst q;refine⟨[],?_,rfl⟩;rw[bt];unfold rowOf;rw[hx];rfl
    .cases h
   .obtain⟨p,u,z⟩:=B h;exact⟨gD ρ x::p,by rw[u];rfl,by rw[List.length_cons,z];simp+arith only⟩
  .rw[hx] at h;dsimp only at h⊢;obtain⟨m,u,z⟩:=ae h;obtain⟨p,X,O⟩:=B z;exact⟨ρ.l k++p,by rw[X,List.append_assoc],by rw[List.length_append,O,t8 u,DB];simp+arith only⟩
theorem B'{n:Nat}{b p:List BI}(h:uK n b=some p):(ρ.oct b).take n=ρ.oct p:=by
 induction n generalizing b p with
 |zero=>rcases b with _|_<;>(cases h;rfl)
 |succ n B=>
  rcases b with _|⟨x,r⟩
  .cases h;rfl
  .rcases x with c|k|⟨k,m⟩|c
   .obtain⟨q,u,rfl⟩:=ar h;exact congrArg (c:: ·) (B u)
   .obtain⟨u,rfl⟩:=aJ h;rw[List.isEmpty_iff] at u;subst u;show(ρ.b k++[]).take (n+1)=(ρ.b k).take (n+1)++[]
    rw[List.append_nil,List.append_nil]
   .cases h
   .obtain⟨q,u,rfl⟩:=ar h;exact congrArg (ρ.C c:: ·) (B u)
theorem Hu{a b:List BI}{r:Bool}(h:eqB a b=some r):(ρ.oct a==ρ.oct b)=r:=by
 induction a generalizing b r with
 |nil=>
  rcases b with _|⟨y,b⟩
  .cases h;rfl
  .rcases y with _|_<;>first|exact af h|(cases h;rfl)
 |cons x a B=>
  rcases x with c|_|_|_
  .rcases b with _|⟨y,b⟩
   .cases h;rfl
   .rcases y with d|_|_|_
    .have h:(if c==d then eqB a b else some false)=some r:=h;show((c==d)&&(ρ.oct a==ρ.oct b))=r;by_cases q:(c==d)=true
     .rw[if_pos q] at h;rw[q,B h];rfl
     .rw[if_neg q] at h;cases h;rw[Bool.eq_false_iff.mpr q];rfl
    .exact af h
    .exact af h
    .exact af h
  .exact af h
  .exact af h
  .exact af h
end
section
variable{ρ:Val}
theorem fN{x:D}{i:Int}(h:vInt x=some i):vInt (gD ρ x)=some i:=by rw[aD h];rfl
theorem lV{x:D}{i:Unit}(h:gX x=some i):gX (gD ρ x)=some i:=by rw[dz h];rfl
theorem jP{x:D}{i:List UInt8}(h:bH x=some i):bH (gD ρ x)=some i:=by rw[aU h];rfl
theorem ER{x:D}{i:List Nat}(h:vStr x=some i):vStr (gD ρ x)=some i:=by rw[cz h];rfl
theorem DC{x y:D}{b:Bool}(h:xI x y=some b):xI (gD ρ x) (gD ρ y)=some b:=by
 rcases x with _|p|p|p|p|_|_|_|_|_|_|_|_|_<;>try(exact af h;done)
 .obtain⟨q,u,z⟩:=ar h;rw[fZ u] at h⊢;exact h
 .obtain⟨q,u,z⟩:=ar h;rw[aD u] at h⊢;exact h
 .obtain⟨q,u,z⟩:=ar h;rw[cz u] at h⊢;exact h
 .obtain⟨q,u,z⟩:=ar h;rw[aU u] at h⊢;exact h
theorem bind_some{z O:Type}{o:Option z}{f:z->Option O}{a:z}{b:O}(h:o=some a)(k:f a=some b):o.bind f=some b:=by rw[h];exact k
theorem aQ{z O:Type}{o:Option z}{f:z->O}{a:z}{b:O}(h:o=some a)(k:f a=b):o.map f=some b:=by rw[h];exact congrArg some k
theorem rO{x:D}{xs:List D}{b:Bool}(h:eW x xs=some b):eW (gD ρ x) (xs.map (gD ρ))=some b:=by
 induction xs generalizing b with
 |nil=>exact h
 |cons y r B=>
  refine hide λP9 b9=> ?_;obtain⟨a,u,z⟩:=ae h;obtain⟨c,X,O⟩:=ar z;refine b9 ?_;exact bind_some (DC u) (aQ (B X) O)
theorem Ca{f:D->D->Option Bool}{a b:List D}{r:Bool}(hf: ∀x y r,f x y=some r->f (gD ρ x) (gD ρ y)=some r)(h:allEq f a b=some r):allEq f (a.map (gD ρ)) (b.map (gD ρ))=some r:=by
 induction a generalizing b r with
 |nil=>cases b with
  |nil=>exact h
  |cons _ _=>exact af h
 |cons x a B=>cases b with
  |nil=>exact af h
  |cons y b=>
   refine hide λP9 b9=> ?_;obtain⟨c,u,z⟩:=ae h;obtain⟨d,X,O⟩:=ar z;refine b9 ?_;exact bind_some (hf _ _ _ u) (aQ (B X) O)
theorem jQ{a b:Bool}(h: ¬(a||b)=true):a=false/\b=false:=by
 rcases a with _|_<;>rcases b with _|_<;>simp at h⊢
section
variable(H:ρ.Ok)
include H
theorem DD(n:Nat): ∀(x y:D) (b:Bool),fQ n x y=some b->fQ n (gD ρ x) (gD ρ y)=some b:=by
 induction n with
 |zero=>intro x y b h;exact af h
 |succ n B=>
  intro x y b h;rcases x with _|p|p|p|p|_|a|_|_|_|_|_|_|_<;>try(exact af h;done)
  .obtain⟨q,u,z⟩:=ar h;rw[dz u] at h⊢;exact h
  .obtain⟨q,u,z⟩:=ar h;rw[fZ u] at h⊢;exact h
  .obtain⟨q,u,z⟩:=ar h;rw[aD u] at h⊢;exact h
  .obtain⟨q,u,z⟩:=ar h;rw[cz u] at h⊢;exact h
  .obtain⟨q,u,z⟩:=ar h;rw[aU u] at h⊢;exact h
  .obtain⟨c,u,z⟩:=ae h;rw[ff u,bc];by_cases q:(aG a||aG c)=true
   .rw[if_pos q] at z;exact af z
   rw[if_neg q] at z;obtain⟨X,q2⟩:=jQ q;show(if aG (gL ρ a)||aG (gL ρ c) then none else if(gL ρ a).length=(gL ρ c).length then allEq (fQ n) (gL ρ a) (gL ρ c) else some false)=some b;rw[cA H,cA H];show(if(gL ρ a).length=(gL ρ c).length then allEq (fQ n) (gL ρ a) (gL ρ c) else some false)=some b;rw[cL X,cL q2,List.length_map,List.length_map];by_cases O:a.length=c.length
   .rw[if_pos O] at z⊢;exact Ca B z
   .rw[if_neg O] at z⊢;exact z
set_option tactic.hygienic true in
theorem m_{x:D}{b:Bool}(h:x.truthy=some b):(gD ρ x).truthy=some b:=by
 cases x with
 |lst xs=>
  rw[bc];rw[i9] at h⊢;split at h
  case isFalse=>exact af h
  rename_i u;rw[if_pos (Nat.le_trans (oU H xs) u)];split at h
  .exact af h
  rename_i z;cases h;have ne:(gL ρ xs).isEmpty=xs.isEmpty:=by
   clear u;cases xs with
   |nil=>rfl
   |cons x r=>
    have: ∃y∈x::r,aC y=false:=by
     refine Classical.byContradiction λno=>z ?_;rw[Bool.and_eq_true];refine⟨List.all_eq_true.mpr λy m=> ?_,rfl⟩;cases q:aC y with
     |true=>rfl
     |false=>exact absurd ⟨y,m,q⟩ no
    obtain⟨y,m,q⟩:=this;have B:gD ρ y∈gL ρ (x::r):=List.mem_flatMap.mpr ⟨y,m,by rw[iq q];exact .head _⟩;cases e:gL ρ (x::r) with
    |nil=>rw[e] at B;cases B
    |cons _ _=>rfl
  have X:((gL ρ xs).all aC&& !(gL ρ xs).isEmpty)=false:=by
   cases e:gL ρ xs with
   |nil=>rfl
   |cons y r=>
    have:=cA H xs;rw[e,d7] at this;show((aC y&&r.all aC)&&_)=false;rw[this.1];rfl
  rw[X,ne];rfl
 |_=>first|exact af h|exact h
theorem jR{x:D}{b:Bool}(h:isNone x=some b):isNone (gD ρ x)=some b:=by
 cases x with
 |lst xs=>rw[bc];exact h
 |obj C fs=>rw[fM];exact h
 |_=>first|exact af h|exact h
omit H in
theorem u_{n:Nat}{x y:D}{b:Bool}(h:xI x y=some b):fQ (n+1) x y=some b:=by
 rcases x with _|_<;>first|exact af h|exact h
omit H in
theorem wQ{f:D->D->Option Bool}{a b a' b':List D}(h:allEq f a a'=some true)(k:allEq f b b'=some true):allEq f (a++b) (a'++b')=some true:=by
 induction a generalizing a' with
 |nil=>cases a' with
  |nil=>exact k
  |cons _ _=>exact af h
 |cons x a B=>cases a' with
  |nil=>exact af h
  |cons y a'=>
   obtain⟨c,u,z⟩:=ae h;obtain⟨d,X,O⟩:=ar z;have:c=true/\d=true:=by rcases c with _|_<;>rcases d with _|_<;>first|exact⟨rfl,rfl⟩|cases O
   obtain⟨rfl,rfl⟩:=this;exact bind_some u (aQ (B X) rfl)
omit H in
theorem nc{f:D->D->Option Bool}{a:List D}(h: ∀d∈a,f d d=some true):allEq f a a=some true:=by
 induction a with
 |nil=>rfl
 |cons x a B=>exact bind_some (h x (.head _)) (aQ (B λd m=>h d (.tail _ m)) rfl)
omit H in
theorem wR{f:D->D->Option Bool}{a b:List D}{r:Bool}(h:allEq f a b=some r):a.length=b.length:=by
 induction a generalizing b r with
 |nil=>cases b with
  |nil=>rfl
  |cons _ _=>exact af h
 |cons x a B=>cases b with
  |nil=>exact af h
  |cons y b=>
   obtain⟨c,_,z⟩:=ae h;obtain⟨d,X,_⟩:=ar z;exact congrArg (· +1) (B X)
theorem Cb: ∀(n:Nat) {x y:D},jv n x y=true->aC x=false/\aC y=false/\fQ n (gD ρ x) (gD ρ y)=some true:=by
 intro l9;induction l9 with
 |zero=>
  intro B B h;cases h
 |succ n al=>
  intro x y h;unfold jv at h;rcases ha:dg x with _|a
  .rw[ha] at h;dsimp only at h;rcases hi:bQ x with _|i
   .rw[hi] at h;dsimp only at h;rcases Bool.or_eq_true_iff.mp h with h|h
    .have h:=eq_of_beq h;refine⟨by rcases x with _|_<;>first|rfl|exact af h,?_,u_ (DC h)⟩;rcases x with _|_|_|_|_|_|_|_|_|_|_|_|_|_<;>try(exact af h;done)
     .obtain⟨q,u,_⟩:=ar h;rw[fZ u];rfl
     .obtain⟨q,u,_⟩:=ar h;rw[aD u];rfl
     .obtain⟨q,u,_⟩:=ar h;rw[cz u];rfl
     .obtain⟨q,u,_⟩:=ar h;rw[aU u];rfl
    .rw[Bool.and_eq_true] at h;obtain⟨a,u⟩:=Option.isSome_iff_exists.mp h.1;obtain⟨b,z⟩:=Option.isSome_iff_exists.mp h.2;rw[dz u,dz z];exact⟨rfl,rfl,rfl⟩
   .rw[hi] at h;dsimp only at h;rcases hj:bQ y with _|j
    .rw[hj] at h;cases h
    .rw[hj] at h;obtain⟨e1,e2⟩:=of_decide_eq_true h;refine⟨by rcases x with _|_<;>first|rfl|exact af hi,by rcases y with _|_<;>first|rfl|exact af hj,?_⟩;rw[cg hi,cg hj];show some ((gS ρ i).c==(gS ρ j).c)=some true;unfold gS;rw[e1,e2];exact congrArg some (beq_self_eq_true _)
  .rw[ha] at h;rcases hb:dg y with _|b
   .rw[hb] at h;cases h
   .rw[hb] at h;have h:qJ (jv n) n a b=true:=h;refine⟨by rw[bI ha];rfl,by rw[bI hb];rfl,?_⟩;rw[ff ha,ff hb];have am: ∀a b:List D,qJ (jv n) n a b=true->allEq (fQ n) (gL ρ a) (gL ρ b)=some true:=by
     intro a;induction a with
     |nil=>intro b h;cases b with
      |nil=>rfl
      |cons _ _=>cases h
     |cons x a ih=>intro b h;cases b with
      |nil=>cases h
      |cons y b=>
       have h:((match d4 x with
        |some k=>decide (4<=n/\500<=k/\k<1000/\d4 y=some k)
        |none=>jv n x y)&&qJ (jv n) n a b)=true:=h
       rw[Bool.and_eq_true] at h;rw[bt,bt];refine wQ ?_ (ih b h.2);have u:=h.1;unfold rowOf;rcases hx:d4 x with _|k
       .rw[hx] at u;obtain⟨z,X,O⟩:=al u;have hy:d4 y=none:=by rcases y with _|_<;>first|rfl|cases X
        rw[hy];exact bind_some O rfl
       .rw[hx] at u;obtain⟨n4,k5,k1,hy⟩:=of_decide_eq_true u;rw[hy];have e:ρ.l k=ρ.L k:=if_pos k1;show allEq (fQ n) (ρ.l k) (ρ.l k)=_;rw[e];exact nc λd m=>H.same k k5 k1 d m n n4
    have q:=am a b h;show(if aG (gL ρ a)||aG (gL ρ b) then none else if(gL ρ a).length=(gL ρ b).length then allEq (fQ n) (gL ρ a) (gL ρ b) else some false)=some true;rw[cA H,cA H];show(if(gL ρ a).length=(gL ρ b).length then allEq (fQ n) (gL ρ a) (gL ρ b) else some false)=some true;rw[if_pos (wR q)];exact q
theorem ES{x y:D}{op:CmpOp}(hx:aC x=false)(O:aC y=false){z:Type}{a b:z}:(if((bM (gD ρ x)||bM (gD ρ y))||(s6 op&&cV 10 (gD ρ x)))=true then a else b)=b:=by
 rw[i4 H hx,i4 H O,EN H 10 hx,Bool.and_false];rfl
theorem ly{x y:D}(hx:aC x=false)(O:aC y=false){z:Type}{a b:z}:(if(bM (gD ρ x)||bM (gD ρ y))=true then a else b)=b:=by
 rw[i4 H hx,i4 H O];rfl
omit H in
theorem bO{x:D}{i:SI}(h:bQ x=some i):aC x=false:=by rcases x with _|_<;>first|rfl|exact af h
omit H in
theorem dT{x:D}{i:List BI}(h:ey x=some i):aC x=false:=by rcases x with _|_<;>first|rfl|exact af h
omit H in
theorem fg{x:D}{i:List D}(h:dg x=some i):aC x=false:=by rcases x with _|_<;>first|rfl|exact af h
omit H in
theorem oV{x:D}{i:Unit}(h:gX x=some i):aC x=false:=by rcases x with _|_<;>first|rfl|exact af h
omit H in
theorem Hv{x:D}{i:Int}(h:vInt x=some i):aC x=false:=by rcases x with _|_<;>first|rfl|exact af h
omit H in
theorem i5{xs:List D}{a:D}(h:one? xs=some a):one? (xs.map (gD ρ))=some (gD ρ a):=by
 rcases xs with _|⟨x,r⟩
 .exact af h
 .cases r with
  |nil=>cases h;rfl
  |cons _ _=>exact af h
omit H in
theorem DE{xs:List D}{a:D×D}(h:sW xs=some a):sW (xs.map (gD ρ))=some (gD ρ a.1,gD ρ a.2):=by
 rcases xs with _|⟨x,r⟩
 .exact af h
 .obtain⟨b,u,rfl⟩:=ar h;exact aQ (i5 u) rfl
theorem zp{op:Operator}{x y:D}{r:MV}(hx:bM x=false)(hy:bM y=false)(h:pq op x y=some r):pq op (gD ρ x) (gD ρ y)=some (gM ρ r):=by
 rcases op with _|_|_|_|_|_|_|_|_|_|_|_|_<;>try(exact af h;done)
 .rcases x with _|_|a|a|a|_|a|_|_|_|_|_|_|_<;>try(exact af h;done)
  .obtain⟨b,u,rfl⟩:=ar h;rw[aD u];rfl
  .obtain⟨b,u,z⟩:=ae h;obtain⟨X,rfl⟩:=aJ z;rw[cz u];exact if_pos X
  .obtain⟨b,u,z⟩:=ae h;obtain⟨X,rfl⟩:=aJ z;rw[aU u];exact if_pos X
  .obtain⟨b,u,z⟩:=ae h;obtain⟨X,rfl⟩:=aJ z;obtain rfl:=bI u;rw[bc,bc];show(if(gL ρ a).length+(gL ρ b).length<=lim then some (MV.own (.lst (gL ρ a++gL ρ b))) else none)=some (.own (.lst (gL ρ (a++b))));rw[dS,cL hx,cL hy,List.length_map,List.length_map,if_pos X]
 .obtain⟨a,u,z⟩:=ae h;obtain⟨b,X,rfl⟩:=ar z;rw[aD u,aD X];rfl
 .rcases x with _|_|a|_|_|_|a|_|_|_|_|_|_|_<;>try(exact af h;done)
  .obtain⟨b,u,z⟩:=ae h;obtain⟨X,rfl⟩:=aJ z;rw[aD u];exact if_pos X
  .obtain⟨b,u,z⟩:=ae h;obtain⟨c,X,O⟩:=ae z;obtain⟨h5,rfl⟩:=aJ O;rw[aD u,bc,cL hx];refine Eq.trans (b:=(one? (a.map (gD ρ))).bind λa=>if 0<=b/\b<=100 then some (.own (.lst (List.replicate b.toNat a))) else none) rfl (bind_some (i5 X) ((if_pos h5).trans ?_));have hc:aC c=false:=by
    rcases a with _|⟨x,r⟩
    .exact af X
    .cases r with
     |nil=>cases X;exact(d7.mp hx).1
     |cons _ _=>exact af X
   have: ∀n,gL ρ (List.replicate n c)=List.replicate n (gD ρ c):= λn=>by
    induction n with
    |zero=>rfl
    |succ n B=>rw[List.replicate_succ,List.replicate_succ,bt,iq hc,B];rfl
   show some (MV.own (.lst _))=some (MV.own (.lst (gL ρ _)));rw[this]
 .obtain⟨a,u,z⟩:=ae h;obtain⟨b,X,O⟩:=ae z;obtain⟨h5,rfl⟩:=aJ O;rw[aD u,aD X];exact if_pos h5
 .obtain⟨a,u,z⟩:=ae h;obtain⟨b,X,O⟩:=ae z;obtain⟨h5,rfl⟩:=aJ O;rw[aD u,aD X];exact if_pos h5
theorem Cc{op:Operator}{x y:D}{r:MV}(h:binop op x y=some r):binop op (gD ρ x) (gD ρ y)=some (gM ρ r):=by
 unfold binop at h⊢;by_cases q:(bM x||bM y)=true
 case neg=>
  rw[if_neg q] at h;obtain⟨B,q2⟩:=jQ q;rw[ly H (cY B) (cY q2)];exact zp H B q2 h
 rw[if_pos q] at h;rcases op with _|_|_|_|_|_|_|_|_|_|_|_|_<;>try(exact af h;done)
 .change(match bQ x with
  |some a=>(bQ y).map λb=>.d (Dp (a.c+b.c) (pE a.ls b.ls))
  |none=>(match ey x with
   |some a=>(ey y).bind λb=>if g_ a+g_ b<=lim then some (.d (GC (a++b))) else none
   |none=>(dg x).bind λa=>(dg y).bind λb=>if dP a+dP b<=lim then some (.own (.lst (a++b))) else none))=some r at h
  rcases hx:bQ x with _|a
  .rw[hx] at h;dsimp only at h;rcases hb:ey x with _|a
   .rw[hb] at h;obtain⟨a,h0,u⟩:=ae h;obtain⟨b,z,X⟩:=ae u;obtain⟨O,rfl⟩:=aJ X;rw[ly H (fg h0) (fg z),ff h0,ff z];refine(if_pos (Nat.le_trans (Nat.add_le_add (mX H a) (mX H b)) O)).trans ?_;show some (MV.own (.lst _))=some (.own (.lst (gL ρ _)));rw[dS]
   .rw[hb] at h;obtain⟨b,u,z⟩:=ae h;obtain⟨X,rfl⟩:=aJ z;rw[ly H (dT hb) (dT u),eK hb,eK u];refine(if_pos (Nat.le_trans (Nat.add_le_add (mY H a) (mY H b)) X)).trans ?_;show some (MV.d (.bytes _))=some (.d (gD ρ _));rw[zm,mZ]
  .rw[hx] at h;obtain⟨b,u,rfl⟩:=ar h;rw[ly H (bO hx) (bO u),cg hx,cg u];show some (MV.d (.int _))=some (.d (gD ρ _));rw[rN,wO];congr 3;show(a.c+_+(b.c+_):Int)=_
   (simp+arith only[Int.natCast_add];done)
 .obtain⟨a,h0,u⟩:=ae h;obtain⟨b,z,X⟩:=ae u;obtain⟨ls,O,rfl⟩:=ar X;rw[ly H (bO h0) (bO z),cg h0,cg z];show some (MV.d (.int _))=some (.d (gD ρ _));rw[rN];congr 3;have:=gC (ρ:=ρ) O;show(a.c+(ρ.sum a.ls:Nat)-(b.c+(ρ.sum b.ls:Nat)):Int)=_;rw[this]
  (simp+arith only[Int.natCast_add];done)
omit H in
theorem rP{a b:SI}{r:Bool}(h:Be a b=some r):decide ((gS ρ a).c<(gS ρ b).c)=r:=by
 unfold Be at h;show decide (a.c+(ρ.sum a.ls:Nat)<b.c+(ρ.sum b.ls:Nat))=r;rcases e:mj b.ls a.ls with _|c
 .rw[e] at h;obtain⟨c,u,z⟩:=ae h;have:=gC (ρ:=ρ) u;obtain⟨X,rfl⟩:=aJ z;exact decide_eq_false (Int.not_lt.mpr (Dn this X))
 .rw[e] at h;have:=gC (ρ:=ρ) e;dsimp only at h;by_cases q:a.c<b.c
  .rw[if_pos q] at h;cases h;exact decide_eq_true (xQ this q)
  .rw[if_neg q] at h;revert h;refine gp (λB h=> ?_) (λO h=> ?_)
   .rw[List.isEmpty_iff] at B;subst B;cases h;exact decide_eq_false (Int.not_lt.mpr (Dn (c:=0) this.symm (Int.not_lt.mp q)))
   .exact af h
omit H in
theorem Hw{a b:SI}{r:Bool}(h:Jp a b=some r):((gS ρ a).c==(gS ρ b).c)=r:=by
 unfold Jp at h;show(a.c+(ρ.sum a.ls:Nat)==b.c+(ρ.sum b.ls:Nat))=r;have ne: ∀{i j:Int},i≠j->(i==j)=false:= λ{i j} h=>by simpa using h
 rcases e:mj b.ls a.ls with _|c
 .rw[e] at h;obtain⟨c,u,O⟩:=ae h;have:=gC (ρ:=ρ) u;obtain⟨X,rfl⟩:=aJ O;exact ne (Int.ne_of_gt (xQ this X))
 .rw[e] at h;have:=gC (ρ:=ρ) e;dsimp only at h;revert h;refine gp (λB h=> ?_) (λq9 h=> ?_)
  .rw[List.isEmpty_iff] at B;subst B;cases h;have z:ρ.sum []=0:=rfl;rw[this,z,Nat.add_zero];by_cases q:a.c=b.c
   .rw[q];simp
   .rw[ne q];exact ne λz=>q ((Int.add_left_inj _).mp z)
  .obtain⟨X,rfl⟩:=aJ h;exact ne (Int.ne_of_lt (xQ this X))
theorem Cd{j:Nat}{ys:List D}(h:ys.all iH=true):eW (.int ((ρ.C j).toNat:Nat)) (ys.map (gD ρ))=some false:=by
 have X:=H.cW j;have n1:(ρ.C j).toNat≠32:= λz=>X.1 (UInt8.toNat_inj.mp z);have n2:(ρ.C j).toNat≠9:= λz=>X.2 (UInt8.toNat_inj.mp z);generalize(ρ.C j).toNat=v at n1 n2;induction ys with
 |nil=>rfl
 |cons y ys B=>
  obtain⟨O,h5⟩:=Bool.and_eq_true_iff.mp (show(iH y&&ys.all iH)=true from h);obtain⟨i,rfl,u⟩: ∃i,y= .int i/\(i=32\/i=9):=by
   unfold iH at O;rcases u:vInt y with _|i
   .rw[u] at O;cases O
   .rw[u] at O;exact⟨i,aD u,by simpa using O⟩
  show Option.bind (some (i==(v:Int))) _=_;have hf:(i==(v:Int))=false:=by
   have:i≠(v:Int):= λz=>u.elim (λk=>n1 (Int.ofNat_inj.mp (z.symm.trans k))) (λk=>n2 (Int.ofNat_inj.mp (z.symm.trans k)));simpa using this
  rw[hf];exact aQ (B h5) rfl
omit H in
theorem jS{x y:D}{b:Bool}{f:Int->Int->Bool}(h:qH f x y=some b):qH f (gD ρ x) (gD ρ y)=some b:=by
 obtain⟨p,u,z⟩:=ae h;obtain⟨q,X,O⟩:=ar z;exact bind_some (fN u) (aQ (fN X) O)
theorem Hx{x y:D}{b:Bool}(h:inD x y=some b):inD (gD ρ x) (gD ρ y)=some b:=by
 unfold inD at h⊢;rcases ht:kg y with _|xs
 .rw[ht] at h;obtain⟨r,u,z⟩:=ae h;obtain rfl:=aU u;show mf (gD ρ x) r=some b;change mf x r=some b at z;unfold mf at z⊢;rcases hi:vInt x with _|i
  .rw[hi] at z;obtain⟨a,X,O⟩:=ar z;obtain rfl:=aU X;exact congrArg some O
  .rw[hi] at z;obtain rfl:=aD hi;exact z
 .rw[ht] at h;obtain rfl:=eZ ht;rw[gB];exact rO h
theorem zq{x y:D}{b:Bool}(h:kh x y=some b):kh (gD ρ x) (gD ρ y)=some b:=by
 unfold kh at h⊢;rcases ht:kg y with _|xs
 .rw[ht] at h;obtain⟨r,u,z⟩:=ae h;obtain rfl:=aU u;obtain⟨i,X,O⟩:=ae z;obtain rfl:=aD X;exact O
 .rw[ht] at h;obtain rfl:=eZ ht;rw[gB];obtain⟨c,u,z⟩:=ar h;exact aQ (rO u) z
theorem zr{op:CmpOp}{x y:D}{b:Bool}(h:ki op x y=some b):ki op (gD ρ x) (gD ρ y)=some b:=by
 rcases op with _|_|_|_|_|_|_|_|_|_
 .exact DD H 10 _ _ _ h
 .obtain⟨c,u,z⟩:=ar h;exact aQ (DD H 10 _ _ _ u) z
 .exact jS h
 .exact jS h
 .exact jS h
 .exact jS h
 .obtain⟨c,u,z⟩:=ae h;exact bind_some (lV u) (jR H z)
 .obtain⟨c,u,z⟩:=ae h;obtain⟨d,X,O⟩:=ar z;exact bind_some (lV u) (aQ (jR H X) O)
 .exact Hx H h
 .exact zq H h
omit H in
theorem lW{x y:D}{b:Bool}{f:SI->SI->Option Bool}{g:Int->Int->Bool}(hf: ∀a b r,f a b=some r->g (gS ρ a).c (gS ρ b).c=r)(h:((bQ x).bind λa=>(bQ y).bind λb=>f a b)=some b):aC x=false/\aC y=false/\qH g (gD ρ x) (gD ρ y)=some b:=by
 refine hide λP9 B=> ?_;obtain⟨p,u,z⟩:=ae h;obtain⟨q,X,O⟩:=ae z;refine B ?_;refine⟨bO u,bO X,?_⟩;rw[cg u,cg X];exact congrArg some (hf _ _ _ O)
theorem zt{xs:List D}(u:(!xs.all aC)=true)(hz:gL ρ xs=[]):False:=by
 have: ∃y∈xs,aC y=false:=by
  refine Classical.byContradiction λno=> ?_;have:xs.all aC=true:=List.all_eq_true.mpr λy m=>by
   rcases q:aC y with _|_
   .exact absurd ⟨y,m,q⟩ no
   .rfl
  rw[this] at u;cases u
 obtain⟨y,m,q⟩:=this;have B:gD ρ y∈gL ρ xs:=List.mem_flatMap.mpr ⟨y,m,by rw[iq q];exact .head _⟩;rw[hz] at B;cases B
theorem Hy{x y:D}{c:Bool}(h:Kc x y=some c):aC x=false/\aC y=false/\fQ 10 (gD ρ x) (gD ρ y)=some c:=by
 refine hide λP9 b9=> ?_;obtain⟨xs,u,h2⟩:=ae h;obtain⟨ys,X,O⟩:=ae h2;obtain⟨B,rfl⟩:=aJ O;refine b9 ?_;rw[Bool.and_eq_true,List.isEmpty_iff] at B;obtain⟨rfl,B⟩:=B;refine⟨fg u,fg X,?_⟩;rw[ff u,ff X];show(if aG (gL ρ xs)||false then none else if(gL ρ xs).length=0 then allEq (fQ 9) (gL ρ xs) [] else some false)=some false;rw[cA H];exact if_neg λz=>zt H B (List.eq_nil_of_length_eq_zero z)
theorem DF{x y:D}{c:Bool}(h:IS x y=some c):aC x=false/\aC y=false/\fQ 10 (gD ρ x) (gD ρ y)=some c:=by
 unfold IS at h;by_cases hs:jv 10 x y=true
 .rw[if_pos hs] at h;cases h;exact Cb H 10 hs
 rw[if_neg hs] at h;rcases hx:bQ x with _|a
 .rw[hx] at h;dsimp only at h;rcases hb:ey x with _|a
  .rw[hb] at h;exact Hy H h
  .rw[hb] at h;obtain⟨d,u,z⟩:=ae h;refine⟨dT hb,dT u,?_⟩;rw[eK hb,eK u];exact congrArg some (Hu z)
 .rw[hx] at h;obtain⟨d,u,z⟩:=ae h;refine⟨bO hx,bO u,?_⟩;rw[cg hx,cg u];exact congrArg some (Hw z)
omit H in
theorem DG{i j:Int}:decide (i<=j)= !decide (j<i):=by
 by_cases q:i<=j
 .rw[decide_eq_true q,decide_eq_false (Int.not_lt.mpr q)];rfl
 .rw[decide_eq_false q,decide_eq_true (Int.not_le.mp q)];rfl
omit H in
theorem ng{x:D}{c:Bool}(h:isNone x=some c):aC x=false:=by rcases x with _|_<;>first|rfl|exact af h
theorem wU{x y:D}{b:Bool}(h:uM x y=some b):aC x=false/\aC y=false/\inD (gD ρ x) (gD ρ y)=some b:=by
 rcases x with _|_|_|_|_|_|_|_|_|_|_|_|_|k<;>try(exact af h;done)
 change(if 100<=k then(kg y).bind λys=>if ys.all iH then some false else none else none)=some b at h;obtain⟨O,h⟩:=js h;obtain⟨ys,u,z⟩:=ae h;obtain⟨X,rfl⟩:=aJ z;obtain rfl:=eZ u;obtain⟨j,rfl⟩: ∃j,k=100+j:=⟨k-100,(Nat.add_sub_cancel' O).symm⟩
 refine⟨rfl,rfl,?_⟩;rw[gB,show gD ρ (.aq (100+j))= .int ((ρ.C j).toNat:Nat) from H.cO j];exact Cd H X
theorem ET{op:CmpOp}{x y:D}{b:Bool}(h:GZ op x y=some b):aC x=false/\aC y=false/\ki op (gD ρ x) (gD ρ y)=some b:=by
 rcases op with _|_|_|_|_|_|_|_|_|_
 .exact DF H h
 .obtain⟨c,u,z⟩:=ar h;exact(DF H u).imp_right λq=>q.imp_right λk=>aQ k z
 .exact lW (λa b r=>rP) h
 .exact lW (f:= λa b=>(Be b a).map (!·)) (λa b r h=>by obtain⟨c,B,rfl⟩:=ar h;exact DG.trans (congrArg (!·) (rP B))) h
 .exact lW (f:= λa b=>Be b a) (g:= λa b=>decide (b<a)) (λa b r=>rP) h
 .exact lW (f:= λa b=>(Be a b).map (!·)) (λa b r h=>by obtain⟨c,B,rfl⟩:=ar h;exact DG.trans (congrArg (!·) (rP B))) h
 .obtain⟨c,u,z⟩:=ae h;exact⟨ng z,oV u,bind_some (lV u) (jR H z)⟩
 .obtain⟨c,u,z⟩:=ae h;obtain⟨d,X,O⟩:=ar z;exact⟨ng X,oV u,bind_some (lV u) (aQ (jR H X) O)⟩
 .exact wU H h
 .exact af h
theorem vc{op:CmpOp}{x y:D}{b:Bool}(h:n9 op x y=some b):n9 op (gD ρ x) (gD ρ y)=some b:=by
 have B:aC x=false/\aC y=false/\ki op (gD ρ x) (gD ρ y)=some b:=by
  revert h;refine gp (λq h=>ET H h) (λq h=> ?_);have w:=jQ (a:=bM x) (b:=bM y) (by rw[(jQ q).1];decide);exact⟨cY w.1,cY w.2,zr H h⟩
 exact(ES H B.1 B.2.1).trans B.2.2
omit H in
theorem Hz(H:ρ.Ok){r:List BI}{d:D}(h:Kd r=some d): ∃c t,ρ.oct r=c::t/\gD ρ d= .int (c.toNat:Nat):=by
 rcases r with _|⟨x,r⟩
 .exact af h
 .cases x with
  |b c=>cases h;exact⟨_,_,rfl,rfl⟩
  |n c=>cases h;exact⟨_,_,rfl,H.cO c⟩
  |_=>exact af h
omit H in
theorem HA{r:List D}{c:D}(h:Jr r=some c): ∃t,gL ρ r=gD ρ c::t:=by
 rcases r with _|⟨x,r⟩
 .exact af h
 .unfold Jr at h;by_cases q:aC x=true
  .exact af ((if_pos q).symm.trans h)
  .obtain rfl:=Option.some.inj ((if_neg q).symm.trans h);exact⟨_,by rw[bt,iq (Bool.eq_false_iff.mpr q)];rfl⟩
omit H in
theorem oX{z:Type}{xs p t:List z}{c:z}{f:z->D}{i:Int}{n:Nat}(hx:xs=p++c::t)(O:p.length=n)(u:i=n)(B:xs.length<=lim):gq xs f (.int i)=some (f c):=by
 subst O u;refine bind_some (a:=(p.length:Int)) rfl ?_;rw[if_neg (Nat.not_lt.mpr B)];unfold index;have:p.length<xs.length:=by rw[hx,List.length_append,List.length_cons];simp+arith only
 rw[if_pos ⟨Int.natCast_nonneg _,Int.ofNat_lt.mpr this⟩];refine bind_some rfl ?_;rw[Int.toNat_natCast,hx,List.getElem?_append_right (Nat.le_refl _),Nat.sub_self];rfl
omit H in
theorem gE{α β:Type}{xs:List α}{f:α->D}{g:α->β}{f':β->D}(hf: ∀a,f' (g a)=gD ρ (f a)){i r:D}(h:gq xs f i=some r):gq (xs.map g) f' (gD ρ i)=some (gD ρ r):=by
 obtain⟨j,u,z⟩:=ae h;refine bind_some (fN u) ?_;rw[List.length_map];have X:=jx z;by_cases q:lim<xs.length
 .exact af ((if_pos q).symm.trans z)
 rw[if_neg q];obtain⟨m,O,B⟩:=ae X;obtain⟨a,h6,rfl⟩:=ar B;exact bind_some O (by rw[List.getElem?_map,h6];exact congrArg some (hf a))
theorem zu{x i r:D}(h:eu x i=some r):eu (gD ρ x) (gD ρ i)=some (gD ρ r):=by
 unfold eu at h⊢;by_cases q:(bM x||bM i)=true
 .rw[if_pos q] at h;obtain⟨j,h1,h2⟩:=ae h;have hc:0<=j.c:=by
   by_cases z:j.c<0
   .exact af ((if_pos z).symm.trans h2)
   .exact Int.not_lt.mp z
  replace h2:=jx h2;have hj:(gS ρ j).c=((j.c.toNat+ρ.sum j.ls:Nat):Int):=toNat_add hc;rcases hb:ey x with _|b
  .rw[hb] at h2;dsimp only at h2;obtain⟨xs,X,O⟩:=ae h2;by_cases ac:dP xs<=lim
   case neg=>exact af ((if_neg ac).symm.trans O)
   rw[if_pos ac] at O;obtain⟨t,h5,h6⟩:=ae O;rw[ly H (fg X) (bO h1),ff X,cg h1];obtain⟨p,h7,h8⟩:=B_ (ρ:=ρ) h5;obtain⟨u,h9⟩:=HA (ρ:=ρ) h6;exact oX (f:=id) (c:=gD ρ r) (h7.trans (congrArg (p++ ·) h9)) h8 hj (Nat.le_trans (mX H xs) ac)
  .rw[hb] at h2;dsimp only at h2;by_cases ac:g_ b<=lim
   case neg=>exact af ((if_neg ac).symm.trans h2)
   rw[if_pos ac] at h2;obtain⟨t,X,h5⟩:=ae h2;rw[ly H (dT hb) (bO h1),eK hb,cg h1];obtain⟨p,h6,h7⟩:=qd (ρ:=ρ) X;obtain⟨c,u,h8,h9⟩:=Hz (ρ:=ρ) H h5;rw[h9];exact oX (f:= λ(c:UInt8)=>D.int c.toNat) (by rw[h6,h8]) h7 hj (Nat.le_trans (mY H b) ac)
 .rw[if_neg q] at h;obtain⟨q1,q2⟩:=jQ q;rw[ly H (cY q1) (cY q2)];rcases x with _|_|_|b|b|xs|xs|es|_|_|_|_|_|_<;>try(exact af h;done)
  .have:=gE (ρ:=ρ) (g:=id) (f':= λ(c:Nat)=>D.str [c]) (λB=>rfl) h
   rwa [List.map_id] at this
  .have:=gE (ρ:=ρ) (g:=id) (f':= λ(c:UInt8)=>D.int c.toNat) (λB=>rfl) h
   rwa [List.map_id] at this
  .rw[gB];exact gE (ρ:=ρ) (f:=id) (g:=gD ρ) (f':=id) (λB=>rfl) h
  .rw[bc,cL q1];exact gE (ρ:=ρ) (f:=id) (g:=gD ρ) (f':=id) (λB=>rfl) h
  .obtain⟨k,h1,h2⟩:=ae h;obtain rfl:=cz h1;rcases es with _|⟨p,es⟩
   .exact af h2
   .dsimp only at h2;by_cases z:(es.isEmpty&&decide (k=p.1))=true
    case neg=>exact af ((if_neg z).symm.trans h2)
    obtain⟨t,X,rfl⟩:=ar ((if_pos z).symm.trans h2);exact(if_pos z).trans (aQ X rfl)
omit H in
theorem jT{n:Nat}{i:Int}(h:0<=i):clip n i=min i.toNat n:=if_neg (Int.not_lt.mpr h)
omit H in
theorem nh{z:Type}{xs p t:List z}(hx:xs=p++t){j:Nat}:cut xs (min p.length xs.length) (min (p.length+j) xs.length)=t.take j:=by
 subst hx;unfold cut;rw[List.length_append,Nat.min_eq_left (Nat.le_add_right p.length t.length),List.drop_left];by_cases q:j<=t.length
 .rw[Nat.min_eq_left (by exact aj q),Nat.add_sub_cancel_left]
 .rw[Nat.min_eq_right (by exact aj (Nat.lt_of_not_le q)),List.take_of_length_le (Nat.le_of_eq (Nat.add_sub_cancel_left ..).symm),List.take_of_length_le (by exact aj (Nat.lt_of_not_le q))]
omit H in
theorem Ce{z:Type}{xs p t:List z}(hx:xs=p++t):cut xs (min p.length xs.length) xs.length=t:=by
 have:=nh hx (j:=t.length);rw[List.take_length] at this;rw[<-this];congr 1;rw[hx,List.length_append,Nat.min_self]
omit H in
theorem vd{i:Option SI}(h:s7 i=false):(i.map (gS ρ)).map (·.c)=i.map (·.c):=by
 rcases i with _|i
 .rfl
 .rcases e:i.ls with _|⟨_,_⟩
  .show some (i.c+(ρ.sum i.ls:Nat))=some i.c;rw[e];exact congrArg some (Int.add_zero _)
  .have h:(!i.ls.isEmpty)=false:=h;rw[e] at h;cases h
omit H in
theorem zv{i:Option SI}:s7 (i.map (gS ρ))=false:=by rcases i with _|_<;>rfl
theorem zw{x r:D}{lo hi:Option SI}(h:sliced x lo hi=some r):sliced (gD ρ x) (lo.map (gS ρ)) (hi.map (gS ρ))=some (gD ρ r):=by
 unfold sliced at h⊢;rw[zv,zv];by_cases q:(bM x||(s7 lo||s7 hi))=true
 .rw[if_pos q] at h;obtain⟨b,h1,h2⟩:=ae h;by_cases ac:g_ b<=lim
  case neg=>exact af ((if_neg ac).symm.trans h2)
  replace h2:=(if_pos ac).symm.trans h2;rw[i4 H (dT h1),eK h1];show(if lim<(ρ.oct b).length then none else some (D.bytes (cut (ρ.oct b) ((((lo.map (gS ρ)).map (·.c)).map (clip (ρ.oct b).length)).getD 0) ((((hi.map (gS ρ)).map (·.c)).map (clip (ρ.oct b).length)).getD (ρ.oct b).length))))=_;rw[if_neg (Nat.not_lt.mpr (Nat.le_trans (mY H b) ac))];have ap:(((lo.map (gS ρ)).map (·.c)).map (clip (ρ.oct b).length)).getD 0=clip (ρ.oct b).length (gS ρ (lo.getD ⟨0,[]⟩)).c:=by
   rcases lo with _|l
   .show 0=clip _ (0+((0:Nat):Int));rw[jT (by decide)];exact(Nat.zero_min _).symm
   .rfl
  rw[ap];generalize lo.getD ⟨0,[]⟩=l at h2;have B:0<=l.c:=by
   by_cases z:l.c<0
   .exact af ((if_pos z).symm.trans h2)
   .exact Int.not_lt.mp z
  replace h2:=jx h2;obtain⟨t,X,O⟩:=ae h2;obtain⟨p,h5,h6⟩:=qd (ρ:=ρ) X;have hl:(gS ρ l).c=(p.length:Nat):=by rw[h6];exact toNat_add B
  rw[hl,jT (Int.natCast_nonneg _),Int.toNat_natCast];rcases hi with _|u
  .cases O;show some (D.bytes (cut _ _ (ρ.oct b).length))=_;rw[Ce h5,zm]
  .obtain⟨e,h7,h8⟩:=ae O;by_cases z:(e.isEmpty&&decide (l.c<=u.c))=true
   case neg=>exact af ((if_neg z).symm.trans h8)
   obtain⟨w,h9,rfl⟩:=ar ((if_pos z).symm.trans h8);rw[Bool.and_eq_true,List.isEmpty_iff,decide_eq_true_eq] at z;obtain⟨rfl,z⟩:=z;have an:=gC (ρ:=ρ) h7;have z0:ρ.sum []=0:=rfl;show some (D.bytes (cut _ _ (clip _ (gS ρ u).c)))=_;have hu:(gS ρ u).c=((p.length+(u.c-l.c).toNat:Nat):Int):=xR (e:=0) B z h6 an;rw[hu,jT (Int.natCast_nonneg _),Int.toNat_natCast,nh h5,B' h9,zm]
 .rw[if_neg q] at h;obtain⟨q1,q2⟩:=jQ q;obtain⟨q2,q3⟩:=jQ (by rw[q2];decide);rw[i4 H (cY q1)];show jt _ _ _=_;rw[vd q2,vd q3];rcases x with _|_|_|_|b|_|xs|_|_|_|_|_|_|_<;>try(exact af h;done)
  .have h':=h;unfold jt at h⊢;dsimp only at h;obtain rfl:=mq h;exact h'
  .rw[bc,cL q1];unfold jt at h⊢;dsimp only at h⊢;rw[List.length_map];by_cases z:lim<xs.length
   .exact af ((if_pos z).symm.trans h)
   rw[if_neg z] at h⊢;cases h;rw[bc];generalize((lo.map (·.c)).map (clip xs.length)).getD 0=a;generalize((hi.map (·.c)).map (clip xs.length)).getD xs.length=c;have hs:aG (cut xs a c)=false:=by
    rw[bk];intro y m;exact bk.mp q1 y (List.mem_of_mem_drop (List.mem_of_mem_take m))
   rw[cL hs];unfold cut;rw[List.map_take,List.map_drop]
end
end
section
variable{ρ:Val}
theorem lX{x:D}{xs:List D}(h:dg x=some xs):dg (gD ρ x)=some (gL ρ xs):=by rw[ff h];rfl
theorem ni{α β:Type}{f:α->Option β}{f':α->Option β}{g:α->α}(hf: ∀a b,f a=some b->f' (g a)=some b){xs:List α}{r:List β}(h:cE f xs=some r):cE f' (xs.map g)=some r:=by
 induction xs generalizing r with
 |nil=>exact h
 |cons x xs B=>
  obtain⟨b,u,z⟩:=ae h;obtain⟨c,X,O⟩:=ar z;exact bind_some (hf _ _ u) (aQ (B X) O)
theorem zx{xs:List D}(h: ¬xs.any bM=true): ∀x∈xs,bM x=false:= λx m=>by
 rcases q:bM x with _|_
 .rfl
 .exact absurd (List.any_eq_true.mpr ⟨x,m,q⟩) h
theorem zy(fs:List (Str×D))(a:Str):fR (gF ρ fs) a=(fR fs a).map (gD ρ):=by
 induction fs with
 |nil=>rfl
 |cons p r B=>
  obtain⟨b,d⟩:=p;show List.lookup a ((b,gD ρ d)::gF ρ r)=(List.lookup a ((b,d)::r)).map (gD ρ);simp only[List.lookup_cons];split
  .rfl
  .exact B
theorem EU(fs:List (Str×D))(a:Str)(d:D):nX (gF ρ fs) a (gD ρ d)=gF ρ (nX fs a d):=by
 induction fs with
 |nil=>rfl
 |cons p r B=>
  obtain⟨b,e⟩:=p;show(if a=b then(b,gD ρ d)::gF ρ r else(b,gD ρ e)::nX (gF ρ r) a (gD ρ d))=gF ρ (if a=b then(b,d)::r else(b,e)::nX r a d);split
  .rfl
  .rw[B];rfl
section
variable(H:ρ.Ok)
include H
theorem oY{x:D}{xs:List D}(h:itemsOf x=some xs):itemsOf (gD ρ x)=some (xs.map (gD ρ)):=by
 rcases x with _|_|_|b|b|ys|ys|es|_|_|_|_|_|_<;>try(exact af h;done)
 .cases h;show some _=_;rw[List.map_map];rfl
 .cases h;show some _=_;rw[List.map_map];rfl
 .cases h;rw[gB];rfl
 .have h:(if aG ys then none else some ys)=some xs:=h;rw[bc];show(if aG (gL ρ ys) then none else some (gL ρ ys))=_;rw[cA H];by_cases q:aG ys=true
  .exact af ((if_pos q).symm.trans h)
  .rw[if_neg q] at h;cases h;exact congrArg some (cL (Bool.eq_false_iff.mpr q))
 .cases es with
  |nil=>cases h;rfl
  |cons _ _=>exact af h
theorem zz{x:D}{n:Nat}(hx:bM x=false)(h:x.size?=some n):(gD ρ x).size?=some n:=by
 rcases x with _|_|_|_|_|xs|xs|_|_|_|_|_|_|_<;>try(first|exact af h|exact h;done)
 .rw[gB];show(if(xs.map (gD ρ)).length<=lim then some (xs.map (gD ρ)).length else Option.none)=_;rw[List.length_map];exact h
 .rw[bc,cL hx];show(if(xs.map (gD ρ)).length<=lim then some (xs.map (gD ρ)).length else Option.none)=_;rw[List.length_map];exact h
theorem ve{x:D}{r:D}(h:uN x=some r):aC x=false/\(gD ρ x).size?.map (λ(n:Nat)=>D.int n)=some (gD ρ r):=by
 unfold uN at h;rcases hb:ey x with _|b
 .rw[hb] at h;obtain⟨xs,u,z⟩:=ae h;obtain⟨X,rfl⟩:=aJ z;refine⟨fg u,?_⟩;rw[ff u,rN,EP];exact aQ (if_pos (Nat.le_trans (mX H xs) X)) rfl
 .rw[hb] at h;obtain⟨u,rfl⟩:=aJ h;refine⟨dT hb,?_⟩;rw[eK hb,rN,EO b u.2];exact aQ (if_pos (Nat.le_trans (mY H b) u.1)) rfl
theorem Cf{x r:D}(h:fU x=some r):fU (gD ρ x)=some (gD ρ r):=by
 unfold fU at h⊢;by_cases q:bM x=true
 .rw[if_pos q] at h;obtain⟨u,z⟩:=ve H h;rw[i4 H u];exact z
 .rw[if_neg q] at h;have q:=Bool.eq_false_iff.mpr q;rw[i4 H (cY q)];obtain⟨n,u,rfl⟩:=ar h;exact aQ (zz H q u) rfl
theorem nj{xs:List D}(h: ∀x∈xs,aC x=false):(xs.map (gD ρ)).any bM=false:=by
 rw[List.any_eq_false];intro y m;obtain⟨x,O,rfl⟩:=List.mem_map.mp m;rw[i4 H (h x O)];decide
theorem eM{xs:List D}{a:D}(h:one? xs=some a):xs=[a]:=by
 rcases xs with _|⟨x,r⟩
 .exact af h
 .cases r with
  |nil=>cases h;rfl
  |cons _ _=>exact af h
theorem zA{x:D}{b:UInt8}(h:mh x=some b):mh (gD ρ x)=some b:=by
 rcases x with _|_|i|_|_|_|_|_|_|_|_|_|_|_<;>try(exact af h;done)
 .exact h
theorem wV{x:D}{b:List UInt8}(h:ju x=some b):ju (gD ρ x)=some b:=by
 rcases x with _|_|_|_|i|_|_|_|_|_|_|_|_|_<;>try(exact af h;done)
 .exact h
theorem Cg{x:D}{b:List Nat}(h:uH x=some b):uH (gD ρ x)=some b:=by
 rcases x with _|_|_|i|_|_|_|_|_|_|_|_|_|_<;>try(exact af h;done)
 .exact h
theorem wW(l:List (List UInt8)):gL ρ (l.map .bytes)=l.map .bytes:=by
 induction l with
 |nil=>rfl
 |cons x r B=>exact congrArg (D.bytes x:: ·) B
theorem Ci{b:Bi}{u:List D}{r:MV}(h:hU b u=some r):hU b (u.map (gD ρ))=some (gM ρ r):=by
 unfold hU at h⊢;by_cases q:u.any bM=true
 .rw[if_pos q] at h;by_cases em:b= .min
  .subst em;obtain⟨p,h1,z⟩:=ae ((if_pos rfl).symm.trans h);obtain⟨i,X,h4⟩:=ae z;obtain⟨j,h5,h6⟩:=ae h4;obtain⟨t,h7,rfl⟩:=ar h6;have O:u=[p.1,p.2]:=by
    rcases u with _|⟨x,r⟩
    .exact af h1
    .obtain⟨y,e1,rfl⟩:=ar h1;rw[eM H e1]
   subst O;rw[nj H (λy m=>by
    simp only[List.mem_cons,List.not_mem_nil,or_false] at m;rcases m with rfl|rfl
    .exact bO X
    .exact bO h5)]
   have e1:=cg (ρ:=ρ) X;have e2:=cg (ρ:=ρ) h5;have e3:=rP (ρ:=ρ) h7;show(vInt (gD ρ p.1)).bind (λa=>(vInt (gD ρ p.2)).map λb=>MV.d (.int (if b<a then b else a)))=_;refine bind_some (a:=(gS ρ i).c) (by rw[e1];rfl) (aQ (a:=(gS ρ j).c) (by rw[e2];rfl) ?_);show MV.d (.int (if(gS ρ j).c<(gS ρ i).c then(gS ρ j).c else(gS ρ i).c))= .d (gD ρ (if t then p.2 else p.1));rcases t with _|_
   .rw[if_neg (of_decide_eq_false e3),if_neg (by decide),e1]
   .rw[if_pos (of_decide_eq_true e3),if_pos rfl,e2]
  replace h:=(if_neg em).symm.trans h;obtain⟨x,h1,z⟩:=ae h;obtain rfl:=eM H h1;by_cases e:b= .len
  .subst e;obtain⟨n,X,rfl⟩:=ar ((if_pos rfl).symm.trans z);obtain⟨h4,h5⟩:=ve H X;rw[nj H λy m=>by rw[List.mem_singleton.mp m];exact h4];obtain⟨m,h6,h7⟩:=ar h5;show((gD ρ x).size?.map λ(n:Nat)=>MV.d (.int n))=_;exact aQ h6 (congrArg MV.d h7)
  .rw[if_neg e] at z;by_cases e:b= .list
   .subst e;obtain⟨n,X,h4⟩:=ae ((if_pos rfl).symm.trans z);obtain⟨h5,rfl⟩:=aJ h4;rw[nj H λy m=>by rw[List.mem_singleton.mp m];exact fg X];show((dg (gD ρ x)).bind λxs=>if dP xs<=lim then some (MV.own (.lst xs)) else none)=_;rw[ff X];exact if_pos (Nat.le_trans (oU H n) h5)
   .exact af ((if_neg e).symm.trans z)
 .rw[if_neg q] at h;have no:=zx q;rw[nj H λy m=>cY (no y m)];rcases b with _|_|_|_|_|_|_|_|_
  .obtain⟨x,h1,z⟩:=ae h;obtain⟨n,X,rfl⟩:=ar z;obtain rfl:=eM H h1;exact bind_some rfl (aQ (zz H (no x (.head _)) X) rfl)
  .obtain⟨p,h1,z⟩:=ae h;obtain⟨i,X,h4⟩:=ae z;obtain⟨j,h5,rfl⟩:=ar h4;exact bind_some (DE h1) (bind_some (fN X) (aQ (fN h5) rfl))
  .obtain⟨x,h1,z⟩:=ae h;obtain⟨i,X,h4⟩:=ae z;obtain⟨h5,rfl⟩:=aJ h4;exact bind_some (i5 h1) (bind_some (fN X) (if_pos h5))
  .obtain⟨x,h1,z⟩:=ae h;obtain⟨i,X,h4⟩:=ae z;obtain⟨c,h5,rfl⟩:=ar h4;exact bind_some (i5 h1) (bind_some (ER X) (aQ h5 rfl))
  .obtain⟨x,h1,z⟩:=ae h;obtain⟨i,X,h4⟩:=ae z;obtain⟨c,h5,h6⟩:=ae h4;obtain⟨h7,rfl⟩:=aJ h6;obtain rfl:=eM H h1;obtain rfl:=bI X;refine Eq.trans (b:=(dg (gD ρ (.lst i))).bind λxs=>(cE mh xs).bind λb=>if b.length<=lim then some (.d (.bytes b)) else none) rfl (bind_some (lX X) (bind_some (a:=c) ?_ (if_pos h7)));rw[cL (no _ (.head _))];exact ni (λB B=>zA H) h5
  .exact af h
  .exact af h
  .obtain⟨x,h1,z⟩:=ae h;obtain⟨i,X,h4⟩:=ae z;obtain⟨c,h5,rfl⟩:=ar h4;have hx:x= .dN i:=by rcases x with _|_<;>first|exact af X|(cases X;rfl)
   subst hx;refine bind_some (i5 h1) (bind_some rfl (aQ h5 ?_));rcases i with _|⟨p,r⟩
   .cases h5;rfl
   .cases r with
    |nil=>cases h5;rfl
    |cons _ _=>exact af h5
  .obtain⟨x,h1,z⟩:=ae h;obtain⟨i,X,h4⟩:=ae z;obtain⟨h5,rfl⟩:=aJ h4;exact bind_some (i5 h1) (bind_some (lX X) (if_pos (Nat.le_trans (oU H i) h5)))
theorem HC{x:D}{m:Str}{i:String}(h:mid x m=some i):mid (gD ρ x) m=some i:=by
 rcases x with _|_|_|b|b|_|_|_|_|_|_|b|_|_<;>try(exact af h;done)
 .exact h
 .exact h
 .have h:(if m="find" then some "bytes.find" else if m="split" then some "bytes.split" else none)=some i:=h;show(if m="find" then some "bytes.find" else if m="join" then some "bytes.join" else if m="strip" then some "bytes.strip" else if m="split" then some "bytes.split" else none)=some i;by_cases e:m="find"
  .rw[if_pos e] at h⊢;exact h
  .rw[if_neg e] at h⊢;by_cases u:m="split"
   .subst u;exact h
   .exact af ((if_neg u).symm.trans h)
theorem zB{i:SI}(h:i.GD<lim)(h0:0<=i.c):(gS ρ i).c<(lim:Nat):=by
 have X: ∀j,ρ.n j<=big:= λj=>by
  unfold Val.n;split
  .exact H.bB _
  .exact H.bL _
 have hs: ∀ls:List Nat,ρ.sum ls<=big*ls.length:=by
  intro ls;induction ls with
  |nil=>exact Nat.zero_le _
  |cons j r B=>
   show ρ.n j+ρ.sum r<=big*(r.length+1);have:=X j;rw[Nat.mul_add];exact bp B this
 have:=hs i.ls;unfold SI.GD at h;show i.c+(ρ.sum i.ls:Nat)<_;show _+_<_;rw[toNat_add h0];exact Int.ofNat_lt.mpr (Nat.lt_of_le_of_lt (Nat.add_le_add_left this _) h)
theorem EV{c:UInt8}{n:Nat}{r:List BI}{o:Option Nat}(h:uL c n r=some o):
  (∀k,o=some k->k<n/\ ∀m,n<=m->((ρ.oct r).take m).findIdx? (· ==c)=some k)/\(o=none->((ρ.oct r).take n).findIdx? (· ==c)=none):=by
 induction n generalizing r o with
 |zero=>
  have:o=none:=by rcases r with _|_<;>(cases h;rfl)
  subst this;exact⟨(λk e=>nomatch e),λB=>rfl⟩
 |succ n ih=>
  rcases r with _|⟨x,r⟩
  .cases h;exact⟨(λk e=>nomatch e),λB=>rfl⟩
  .rcases x with x|k|⟨k,m⟩|k
   .have h:(if x==c then some (some 0) else(uL c n r).map λo=>o.map (· +1))=some o:=h;by_cases q:(x==c)=true
    .rw[if_pos q] at h;cases h;refine⟨λk e=> ?_,(λe=>nomatch e)⟩;cases e;refine⟨by simp+arith only,λm hm=> ?_⟩;obtain⟨m,rfl⟩: ∃j,m=j+1:=⟨m-1,by exact dM (aj hm)⟩
     show List.findIdx? _ (x::(ρ.oct r).take m)=_;rw[List.findIdx?_cons,q];rfl
    .rw[if_neg q] at h;obtain⟨o',u,rfl⟩:=ar h;obtain⟨z,O⟩:=ih u;refine⟨λk e=> ?_,λe=> ?_⟩
     .obtain⟨k',rfl,rfl⟩:=ar e;obtain⟨X,j2⟩:=z k' rfl;refine⟨by exact aj X,λm hm=> ?_⟩;obtain⟨m,rfl⟩: ∃j,m=j+1:=⟨m-1,by exact dM (aj hm)⟩
      show List.findIdx? _ (x::(ρ.oct r).take m)=_;rw[List.findIdx?_cons,Bool.eq_false_iff.mpr q,j2 m (by exact aj hm)];rfl
     .rcases o' with _|_
      .show List.findIdx? _ (x::(ρ.oct r).take n)=_;rw[List.findIdx?_cons,Bool.eq_false_iff.mpr q,O rfl];rfl
      .cases e
   .cases h
   .cases h
   .cases h
theorem Cj{b:List BI}{u:List D}{r:MV}(h:findY b u=some r):(∀x∈u,aC x=false)/\findD (ρ.oct b) (u.map (gD ρ))=some (gM ρ r):=by
 rcases u with _|⟨c,as⟩
 .exact af h
 .refine hide λP9 b9=> ?_;obtain⟨O,h1,h2⟩:=ae h;obtain⟨c',h3,h4⟩:=ae h2;obtain⟨p,h5,h6⟩:=ae h4;obtain⟨i,h7,h8⟩:=ae h6;obtain⟨j,h9,ha⟩:=ae h8;refine b9 ?_;obtain rfl:=aU h1;have has:as=[p.1,p.2]:=by
   rcases as with _|⟨x,r⟩
   .exact af h5
   .refine hide λP9 b9=> ?_;obtain⟨y,e1,rfl⟩:=ar h5;refine b9 ?_;rw[eM H e1]
  subst has;refine⟨λx m=> ?_,?_⟩
  .simp only[List.mem_cons,List.not_mem_nil,or_false] at m;rcases m with rfl|rfl|rfl
   .rfl
   .exact bO h7
   .exact bO h9
  by_cases hc:0<=i.c/\i.c<=j.c/\i.GD<lim/\j.GD<lim
  case neg=>exact af ((if_neg hc).symm.trans ha)
  rw[if_pos hc] at ha;refine hide λP9 b9=> ?_;obtain⟨c1,c2,c3,c4⟩:=hc;obtain⟨e,X,hd⟩:=ae ha;obtain⟨t,he,hf⟩:=ae hd;obtain⟨o,hg,hh⟩:=ae hf;obtain⟨pre,k1,k2⟩:=qd (ρ:=ρ) he;refine b9 ?_;have k3:=gC (ρ:=ρ) X;obtain⟨s1,s2⟩:=EV (ρ:=ρ) H hg;refine bind_some h3 (bind_some rfl (bind_some (a:=(gS ρ i).c) (by rw[cg h7];rfl) (bind_some (a:=(gS ρ j).c) (by rw[cg h9];rfl) ?_)));have gi:(gS ρ i).c=(pre.length:Nat):=by rw[k2];exact toNat_add c1
  have gj:(gS ρ j).c=((pre.length+((j.c-i.c).toNat+ρ.sum e):Nat):Int):=xR c1 c2 k2 k3;have b1:=zB H c3 c1;have b2:=zB H c4 (Int.le_trans c1 c2);rw[if_pos ⟨by rw[gi];exact Int.natCast_nonneg _,by rw[gj];exact Int.natCast_nonneg _,b1,b2⟩];have am:cut (ρ.oct b) (min (gS ρ i).c.toNat (ρ.oct b).length) (min (gS ρ j).c.toNat (ρ.oct b).length)=(ρ.oct t).take ((j.c-i.c).toNat+ρ.sum e):=by
   rw[gi,gj,Int.toNat_natCast,Int.toNat_natCast];exact nh k1
  have B:min (gS ρ i).c.toNat (ρ.oct b).length=pre.length:=by
   rw[gi,Int.toNat_natCast,k1,List.length_append];exact Nat.min_eq_left (Nat.le_add_right _ _)
  unfold findB;rw[am,B];rcases o with _|k
  .obtain⟨al,rfl⟩:=aJ hh;rw[List.isEmpty_iff] at al;subst al;have z:ρ.sum []=0:=rfl;rw[z,Nat.add_zero,s2 rfl];rfl
  .cases hh;rw[(s1 k rfl).2 _ (by simp+arith only)];show some (MV.d (.int _))=some (MV.d (gD ρ (Dp _ _)));rw[rN];congr 3;show(pre.length:Int)+(k:Nat)=_;have:i.c+(ρ.sum i.ls:Nat)=(pre.length:Nat):=gi;exact(congrArg (· +(k:Int)) this.symm).trans (Int.add_right_comm _ _ _)
theorem Ck(m:Str): ∀{x:D} {u:List D} {r:MV},bM x=false->(∀y∈u,bM y=false)->kj x m u=some r->kj (gD ρ x) m (u.map (gD ρ))=some (gM ρ r):= λ{x u r} hx ha h=>by
 unfold kj at h⊢;rcases hb:bH x with _|b
 .rw[hb] at h;dsimp only at h;obtain⟨s,h1,z⟩:=ae h;obtain rfl:=cz h1;show(if m="join" then pA s (u.map (gD ρ)) else none)=_;by_cases e:m="join"
  .rw[if_pos e] at z⊢;obtain⟨x,h1,z⟩:=ae z;obtain⟨i,X,h4⟩:=ae z;obtain⟨c,h5,h6⟩:=ae h4;obtain⟨h7,rfl⟩:=aJ h6;obtain rfl:=eM H h1;obtain rfl:=bI X;refine bind_some (i5 h1) (bind_some (lX X) (bind_some (a:=c) ?_ (if_pos h7)));rw[cL (ha _ (.head _))];exact ni (λB B=>Cg H) h5
  .exact af ((if_neg e).symm.trans z)
 .rw[hb] at h;rw[jP hb];dsimp only at h⊢;by_cases e:m="find"
  .rw[if_pos e] at h⊢;rcases u with _|⟨c,as⟩
   .exact af h
   .obtain⟨O,h1,z⟩:=ae h;obtain⟨c',X,h4⟩:=ae z;obtain⟨p,h5,h6⟩:=ae h4;obtain⟨i,h7,h8⟩:=ae h6;obtain⟨j,h9,aI⟩:=ae h8;obtain⟨a0,rfl⟩:=aJ aI;exact bind_some (jP h1) (bind_some X (bind_some (DE h5) (bind_some (fN h7) (bind_some (fN h9) (if_pos a0)))))
  rw[if_neg e] at h⊢;by_cases e:m="join"
  .rw[if_pos e] at h⊢;obtain⟨x,h1,z⟩:=ae h;obtain⟨i,X,h4⟩:=ae z;obtain⟨c,h5,h6⟩:=ae h4;obtain⟨h7,rfl⟩:=aJ h6;obtain rfl:=eM H h1;obtain rfl:=bI X;refine bind_some (i5 h1) (bind_some (lX X) (bind_some (a:=c) ?_ (if_pos h7)));rw[cL (ha _ (.head _))];exact ni (λB B=>wV H) h5
  rw[if_neg e] at h⊢;by_cases e:m="strip"
  .rw[if_pos e] at h⊢;obtain⟨x,h1,z⟩:=ae h;obtain⟨i,X,h4⟩:=ae z;obtain⟨h5,rfl⟩:=aJ h4;exact bind_some (i5 h1) (bind_some (jP X) (if_pos h5))
  rw[if_neg e] at h⊢;by_cases e:m="split"
  .rw[if_pos e] at h⊢;obtain⟨x,h1,z⟩:=ae h;obtain⟨i,X,h4⟩:=ae z;obtain⟨c,h5,h6⟩:=ae h4;obtain⟨h7,rfl⟩:=aJ h6;refine bind_some (i5 h1) (bind_some (jP X) (bind_some h5 ((if_pos h7).trans ?_)));show some (MV.own (.lst _))=some (.own (.lst (gL ρ _)));rw[wW H]
  .exact af ((if_neg e).symm.trans h)
omit H in
theorem wX{b:List BI}{k:Nat}(h:Dq b=some k):b=[.s k]:=by
 rcases b with _|⟨a,_|_⟩
 .exact af h
 .rcases a with _|_<;>first|exact af h|exact congrArg (λz=>[BI.s z]) (Option.some.inj h)
 .exact af h
omit H in
theorem zC{b:List D}{k:Nat}(h:Ed b=some k):b=[.seg k]:=by
 rcases b with _|⟨a,_|_⟩
 .exact af h
 .replace h:d4 a=some k:=h;rcases a with _|_<;>first|exact af h|exact congrArg (λz=>[D.seg z]) (Option.some.inj h)
 .exact af h
theorem Cm{x:D}{m:Str}{u:List D}{r:MV}(h:fV x m u=some r):fV (gD ρ x) m (u.map (gD ρ))=some (gM ρ r):=by
 unfold fV at h⊢;by_cases q:(bM x||u.any bM)=true
 case neg=>
  rw[if_neg q] at h;obtain⟨q1,q2⟩:=jQ q;have no:=zx (by rw[q2];decide);rw[i4 H (cY q1),nj H λy m=>cY (no y m)];exact Ck H m q1 no h
 rw[if_pos q] at h;have fin: ∀{b:List BI},gD ρ x= .bytes (ρ.oct b)->m="find"->findY b u=some r->(if(bM (gD ρ x)||(u.map (gD ρ)).any bM)=true then sZ (gD ρ x) m (u.map (gD ρ)) else kj (gD ρ x) m (u.map (gD ρ)))=some (gM ρ r):= λ{b} e hm h=>by
  obtain⟨h1,h2⟩:=Cj H h;rw[e,nj H h1,hm];exact h2
 unfold sZ at h;rcases hb:bH x with _|b
 .rw[hb] at h;dsimp only at h;obtain⟨b,h1,h2⟩:=ae h;by_cases e:m="find"
  .rw[if_pos e] at h2;exact fin (eK h1) e h2
  .rw[if_neg e] at h2;by_cases e:m="split"
   case neg=>exact af ((if_neg e).symm.trans h2)
   subst e;replace h2:=(if_pos rfl).symm.trans h2;obtain⟨y,X,h4⟩:=ae h2;obtain⟨O,h5,h6⟩:=ae h4;obtain rfl:=eM H X;obtain rfl:=aU h5;by_cases z:O=[10]
   case neg=>exact af ((if_neg z).symm.trans h6)
   subst z;obtain⟨k,h7,h8⟩:=ae ((if_pos rfl).symm.trans h6);obtain⟨h9,rfl⟩:=aJ h8;have a2:=wX h7;subst a2;rw[eK h1];refine Eq.trans (b:=if(ρ.b k++[]).length<lim then some (MV.own (.lst ((aX 10 (ρ.b k++[])).map .bytes))) else none) rfl ((if_pos (by rw[List.append_nil];exact Nat.lt_of_le_of_lt (H.bB k) (by decide))).trans ?_);show some (MV.own (.lst ((aX 10 (ρ.b k++[])).map .bytes)))=some (.own (.lst (ρ.l (split0+k)++[])));rw[List.append_nil,List.append_nil];have e1:ρ.b k=ρ.B k:=if_pos h9;have e2:ρ.l (split0+k)=(aX 10 (ρ.B (split0+k-split0))).map .bytes:=if_neg (by exact Nat.not_lt_of_le (by simp+arith only));rw[e1,e2,Nat.add_sub_cancel_left]
 .rw[hb] at h;dsimp only at h;obtain rfl:=aU hb;by_cases e:m="join"
  .rw[if_pos e] at h;obtain⟨y,h1,h2⟩:=ae h;obtain⟨xs,X,h4⟩:=ae h2;obtain⟨h5,h6⟩:b=[44]/\((Ed xs).bind λk=>if k=7 then some (MV.d (.sb [.s (split0+7)])) else none)=some r:=by
    by_cases z:b=[44]
    .exact⟨z,(if_pos z).symm.trans h4⟩
    .exact af ((if_neg z).symm.trans h4)
   obtain⟨k,h7,h8⟩:=ae h6;obtain⟨h9,rfl⟩:=aJ h8;subst h9 h5;have a4:=zC h7;subst a4;obtain rfl:=eM H h1;obtain rfl:=bI X;subst e;rw[nj H λy m=>by rw[List.mem_singleton.mp m];rfl];show uJ [44] [gD ρ (.lst [.seg 7])]=some (.d (.bytes (ρ.b (split0+7)++[])));rw[bc,List.append_nil];have hl:gL ρ [.seg 7]=ρ.L 7:=by show ρ.L 7++[]=_;exact List.append_nil _
   rw[hl];have hj:ρ.b (split0+7)=dj [44] ((ρ.L 7).filterMap bH):=rfl;have hm: ∀ds:List D,(∀d∈ds,∃b,d= .bytes b)->cE ju ds=some (ds.filterMap bH):=by
    intro ds;induction ds with
    |nil=>intro _;rfl
    |cons d r ih=>
     intro hd;obtain⟨b,rfl⟩:=hd d (.head _);show Option.bind (some b) _=_;exact aQ (ih λd m=>hd d (.tail _ m)) rfl
   refine bind_some rfl (bind_some rfl (bind_some (hm _ H.l7) ?_));rw[<-hj];refine if_pos (Nat.le_trans (H.bB _) (by decide))
  .rw[if_neg e] at h;by_cases e:m="find"
   .rw[if_pos e] at h;exact fin (by rw[rM];rfl) e h
   .exact af ((if_neg e).symm.trans h)
end
end
section
noncomputable def Sm{α β:Type}(f:α->β)(r:Res α)(z:Res β):Prop:=(∀a,r= .ok a->z= .ok (f a))/\(r= .exc->z= .exc)
section
variable{α β γ δ:Type}{f:α->β}{g:γ->δ}
theorem Sm.stuck{r:Res β}:Sm f .stuck r:=⟨(λB h=>nomatch h),λh=>nomatch h⟩
theorem Sm.ok{a:α}:Sm f (.ok a) (.ok (f a)):=⟨λB h=>by cases h;rfl,λh=>nomatch h⟩
theorem Sm.lI{a:α}{b:β}(e:f a=b):Sm f (.ok a) (.ok b):=e▸Sm.ok
theorem Sm.exc:Sm f .exc .exc:=⟨(λB h=>nomatch h),λB=>rfl⟩
theorem Sm.bind{r:Res α}{z:Res β}{h:α->Res γ}{h':β->Res δ}(x:Sm f r z)(k: ∀a,Sm g (h a) (h' (f a))):Sm g (r.bind h) (z.bind h'):=by
 rcases r with _|_|a
 .exact Sm.stuck
 .rw[x.2 rfl];exact Sm.exc
 .rw[x.1 a rfl];exact k a
theorem Sm.of{o:Option α}{u:Option β}(h: ∀a,o=some a->u=some (f a)):Sm f (Res.of o) (Res.of u):=by
 rcases o with _|a
 .exact Sm.stuck
 .rw[h a rfl];exact Sm.ok
theorem Sm.ite{c:Prop}[Decidable c]{r s:Res α}{B s':Res β}(u:c->Sm f r B)(z: ¬c->Sm f s s'):Sm f (if c then r else s) (if c then B else s'):=by
 by_cases q:c
 .rw[if_pos q,if_pos q];exact u q
 .rw[if_neg q,if_neg q];exact z q
theorem Sm.gd{c c':Prop}[Decidable c][Decidable c']{r:Res α}{z:Res β}(B:c->c')(u:c->Sm f r z):Sm f (if c then r else .stuck) (if c' then z else .stuck):=by
 by_cases q:c
 .rw[if_pos q,if_pos (B q)];exact u q
 .rw[if_neg q];exact Sm.stuck
theorem Sm.d5{r:Res α}{z:Res β}(x:Sm f r z):Sm f (d5 r) (d5 z):=by
 rcases r with _|_|a
 .exact Sm.stuck
 .exact Sm.stuck
 .rw[x.1 a rfl];exact Sm.ok
end
section
variable{ρ:Val}
noncomputable def gQ(ρ:Val){α β:Type}(g:α->β)(p:α×Loc):β×Loc:=(g p.1,ax ρ p.2)
noncomputable abbrev HE(ρ:Val)(ev ev':Expr->Loc->Res (MV×Loc)):Prop:= ∀e l,Sm (gQ ρ (gM ρ)) (ev e l) (ev' e (ax ρ l))
noncomputable abbrev HF(ρ:Val)(tv tv':Expr->Loc->Res (Bool×Loc)):Prop:= ∀e l,Sm (gQ ρ id) (tv e l) (tv' e (ax ρ l))
noncomputable def gR(ρ:Val)(p:MV×MV):MV×MV:=(gM ρ p.1,gM ρ p.2)
noncomputable abbrev DH(ρ:Val)(c c':Nat->List MV->Res (MV×MV)):Prop:= ∀i args,Sm (gR ρ) (c i args) (c' i (args.map (gM ρ)))
theorem eG(l:Loc)(x:Str):(ax ρ l).get? x=(l.get? x).map (gM ρ):=by
 induction l with
 |nil=>rfl
 |cons p r B=>
  obtain⟨y,u⟩:=p;show List.lookup x ((y,gM ρ u)::ax ρ r)=(List.lookup x ((y,u)::r)).map (gM ρ);simp only[List.lookup_cons];split
  .rfl
  .exact B
theorem ir(l:Loc)(x:Str)(v:MV):(ax ρ l).set x (gM ρ v)=ax ρ (l.set x v):=by
 induction l with
 |nil=>rfl
 |cons p r B=>
  obtain⟨y,u⟩:=p;show(if x=y then(y,gM ρ v)::ax ρ r else(y,gM ρ u)::Loc.set (ax ρ r) x (gM ρ v))=ax ρ (if x=y then(y,v)::r else(y,u)::Loc.set r x v);split
  .rfl
  .rw[B];rfl
theorem rQ(ds:List D):(ds.map MV.d).map (gM ρ)=(ds.map (gD ρ)).map MV.d:=by rw[List.map_map,List.map_map];rfl
theorem HG{o:Option MV}{i:Nat}(h:GF o=some i):GF (o.map (gM ρ))=some i:=by
 rcases o with _|v
 .exact af h
 .cases v with
  |own _=>exact af h
  |d x=>rcases x with _|_<;>first|exact af h|exact h
theorem HH{n:Nat}: ∀{d:D},GB n d=true->gD ρ d=d/\aC d=false:=by
 induction n with
 |zero=>intro d h;cases h
 |succ n B=>
  intro d h;rcases d with _|_|_|_|_|xs|xs|_|⟨_,_⟩|_|⟨_,_⟩|_|_|_<;>try(exact⟨rfl,rfl⟩;done)
  .refine⟨?_,rfl⟩;have h:xs.all (GB n)=true:=h;rw[gB];congr 1;exact(List.map_congr_left (g:=id) λx m=>(B (List.all_eq_true.mp h x m)).1).trans (List.map_id _)
  .refine⟨?_,rfl⟩;have h:xs.all (GB n)=true:=h;rw[bc,cL (bk.mpr λx m=>(B (List.all_eq_true.mp h x m)).2)];congr 1;exact(List.map_congr_left (g:=id) λx m=>(B (List.all_eq_true.mp h x m)).1).trans (List.map_id _)
  .cases h
  .cases h
  .cases h
  .cases h
  .cases h
theorem rR{c:Const}{d:D}(h:pB c=some d):gD ρ d=d:=by
 rcases c with _|_<;>first|exact af h|(cases h;rfl)
theorem Cn{O:List (Option Expr)}{vs:List Expr}{d:D}(h:Dr O vs=some d):gD ρ d=d:=by
 rcases O with _|⟨k,_|⟨_,_⟩⟩
 .rcases vs with _|⟨_,_⟩
  .cases h;rfl
  .exact af h
 .rcases k with _|k
  .exact af h
  .rcases vs with _|⟨v,_|⟨_,_⟩⟩
   .exact af h
   .obtain⟨s,_,z⟩:=ae h;obtain⟨t,_,rfl⟩:=ar z;rfl
   .exact af h
 .rcases k with _|_<;>exact af h
theorem zD{v:MV}(h:ml v=true):ml (gM ρ v)=true:=by
 rcases v with x|_
 .rcases x with _|_<;>first|rfl|cases h
 .cases h
theorem zE{v:MV}(h:mn v=true):mn (gM ρ v)=true:=by
 rcases v with x|_
 .rcases x with _|_<;>first|rfl|cases h
 .cases h
end
section
variable{ρ:Val}(H:ρ.Ok)(X:Cx)(c':Nat->List MV->Res (MV×MV))(C:DH ρ X.call c')
variable{ev ev':Expr->Loc->Res (MV×Loc)}{tv tv':Expr->Loc->Res (Bool×Loc)}(I:HE ρ ev ev')(J:HF ρ tv tv')
noncomputable abbrev Cx.wc(X:Cx)(c':Nat->List MV->Res (MV×MV)):Cx:={X with call:=c'}
include I in
theorem bG(e:Expr)(l:Loc):Sm (gQ ρ (gD ρ)) (aF ev e l) (aF ev' e (ax ρ l)):=
 Sm.bind (I e l) λp=>Sm.lI (Prod.ext (rL _).symm rfl)
include I in
theorem dG: ∀(es:List Expr) (l:Loc),Sm (gQ ρ (List.map (gD ρ))) (bu ev es l) (bu ev' es (ax ρ l)):=by
 intro z;induction z with
 |nil=>
  intro l;exact Sm.ok
 |cons e es u=>
  intro l;exact Sm.bind (I e l) λp=>Sm.bind (u p.2) λq=>Sm.lI (Prod.ext (congrArg (· ::_) (rL _).symm) rfl)
include I in
theorem wY: ∀(es:List Expr) (l:Loc),Sm (gQ ρ (List.map (gM ρ))) (gu ev es l) (gu ev' es (ax ρ l)):=by
 intro z;induction z with
 |nil=>
  intro l;exact Sm.ok
 |cons e es u=>
  intro l;exact Sm.bind (I e l) λp=>Sm.bind (u p.2) λq=>Sm.ok
theorem t9(x:Str)(l:Loc):Sm (gQ ρ (gM ρ)) (readName X x l) (readName (X.wc c') x (ax ρ l)):=by
 unfold readName;refine Sm.ite (λB=> ?_) λB=> ?_
 .rw[eG];rcases l.get? x with _|v
  .exact Sm.stuck
  .cases v with
   |d v=>exact Sm.ok
   |own o=>
    refine Sm.lI (Prod.ext ?_ ?_)
    .exact congrArg MV.d (EM o).symm
    .show ax ρ (l.set x (.d o.D))=(ax ρ l).set x (.d (gO ρ o).D);rw[EM];exact(ir l x (.d o.D)).symm
 .refine Sm.ite (λB=> ?_) λB=>Sm.stuck;show Sm _ _ (match X.glob x with|some (.data v)=>_|some (.fn i)=>_|_=>_);rcases X.glob x with _|g
  .exact Sm.stuck
  .cases g with
   |data v=>exact Sm.gd id λh=>Sm.lI (Prod.ext (congrArg MV.d (HH h).1) rfl)
   |fn i=>exact Sm.ok
   |_=>exact Sm.stuck
include H I in
theorem jU: ∀(ops:List CmpOp) (es:List Expr) (a:D) (l:Loc),Sm (gQ ρ id) (ck ev a ops es l) (ck ev' (gD ρ a) ops es (ax ρ l))
 |[],_,a,l=>Sm.stuck
 |[_],[],a,l=>Sm.stuck
 |_::_::_,[],a,l=>Sm.stuck
 |[_],_::_::_,a,l=>Sm.stuck
 |_::_::_,[_],a,l=>Sm.stuck
 |[op],[e],a,l=>Sm.bind (bG I e l) λp=>Sm.bind (f:=id) (Sm.of λb h=>vc H h) λr=>Sm.ok
 |op::z::ops,e::u::es,a,l=>Sm.bind (bG I e l) λp=>Sm.bind (f:=id) (Sm.of λb h=>vc H h) λr=>
   Sm.ite (λB=>jU (z::ops) (u::es) p.1 p.2) λB=>Sm.ok
include H I in
theorem oZ(z:Bool): ∀(es:List Expr) (l:Loc),Sm (gQ ρ (gM ρ)) (fu ev z es l) (fu ev' z es (ax ρ l))
 |[],_=>Sm.stuck
 |[e],l=>I e l
 |e::u::es,l=>Sm.bind (I e l) λp=>Sm.bind (f:=id) (Sm.of λb h=>by show D.truthy (gM ρ p.1).D=_;rw[rL];exact m_ H h) λt=>
   Sm.ite (λB=>oZ z (u::es) p.2) λB=>Sm.ok
include I in
theorem rS(e:Option Expr)(l:Loc):Sm (gQ ρ (Option.map (gS ρ))) (i_ ev e l) (i_ ev' e (ax ρ l)):=by
 rcases e with _|e
 .exact Sm.ok
 .exact Sm.bind (bG I e l) λp=>Sm.bind (f:=gS ρ) (Sm.of λi h=>by show bQ (gD ρ p.1)=_;rw[cg h];rfl) λi=>Sm.ok
theorem rT(v:D)(a:Str):Sm (gD ρ) (eX X v a) (eX (X.wc c') (gD ρ v) a):=by
 cases v with
 |obj C fs=>
  rw[fM];exact Sm.ite (c:=X.attr C a=true) (λB=>Sm.of λd h=>by rw[zy,h];rfl) λB=>Sm.stuck
 |_=>exact Sm.stuck
include C I in
theorem nk(i:Nat)(x:Str)(rest:List Expr)(l:Loc):Sm (gQ ρ (gM ρ)) (cy X ev i x rest l) (cy (X.wc c') ev' i x rest (ax ρ l)):=by
 unfold cy;rw[eG];rcases l.get? x with _|v
 .exact Sm.stuck
 .refine Sm.bind (dG I rest l) λp=> ?_;show Sm _ (match p.2.get? x with|some v=>_|none=>_) (match(ax ρ p.2).get? x with|some v=>_|none=>_);rw[eG];rcases p.2.get? x with _|v
  .exact Sm.stuck
  .have h:=C i (v::p.1.map .d);rw[List.map_cons,rQ] at h;exact Sm.bind h λr=>Sm.lI (Prod.ext rfl (ir _ _ _).symm)
include C I in
theorem iu(i:Nat)(u:List Expr)(l:Loc):Sm (gQ ρ (gM ρ)) (dQ X ev i u l) (dQ (X.wc c') ev' i u (ax ρ l)):=by
 refine Sm.bind (dG I u l) λp=> ?_;have h:=C i (p.1.map .d);rw[rQ] at h;exact Sm.bind h λr=>Sm.ok
include C I in
theorem rU(i:Nat)(u:List Expr)(l:Loc):Sm (gQ ρ (gM ρ)) (ja X ev i u l) (ja (X.wc c') ev' i u (ax ρ l)):=by
 unfold ja;refine Sm.ite (c:=(!X.isFn i)=true) (λB=>Sm.stuck) λB=> ?_;rcases u with _|⟨a,rest⟩
 .exact iu X c' C I i [] l
 .dsimp only;rcases nameOf a with _|x
  .exact iu X c' C I i _ l
  .exact Sm.ite (c:=isLocal X x=true) (λB=>nk X c' C I i x rest l) λB=>iu X c' C I i _ l
include C I in
theorem wZ(k z:Nat)(u:List Expr)(l:Loc):Sm (gQ ρ (gM ρ)) (lN X ev k z u l) (lN (X.wc c') ev' k z u (ax ρ l)):=by
 refine Sm.bind (dG I u l) λp=> ?_;have h:=C z (.own (.obj k [])::p.1.map .d);rw[List.map_cons,rQ] at h;exact Sm.bind h λr=>Sm.gd zD λB=>Sm.ok
include H I in
theorem t_(x m:Str)(u:List Expr)(l:Loc):Sm (gQ ρ (gM ρ)) (fW ev x m u l) (fW ev' x m u (ax ρ l)):=by
 unfold fW;refine Sm.ite (λB=>Sm.stuck) λB=> ?_
 match u with
 |[]=>exact Sm.stuck
 |_::_::_=>exact Sm.stuck
 |[a]=>
  refine Sm.bind (bG I a l) λp=> ?_;obtain⟨d,l⟩:=p;dsimp only[gQ];rw[eG];cases l.get? x with
  |none=>exact Sm.stuck
  |some v=>cases v with
   |d _=>exact Sm.stuck
   |own o=>cases o with
    |obj _ _=>exact Sm.stuck
    |lst xs=>
     refine Sm.ite (c:=m="append") (λB=> ?_) λB=> ?_
     .refine Sm.gd (λh=>⟨Nat.lt_of_le_of_lt (oU H xs) h.1,u9 H h.2⟩) λh=>Sm.lI (Prod.ext rfl ?_);show ax ρ (l.set x (.own (.lst (xs++[d]))))=(ax ρ l).set x (.own (.lst (gL ρ xs++[gD ρ d])));rw[<-ir];show(ax ρ l).set x (.own (.lst (gL ρ (xs++[d]))))=_;rw[dS,bt,iq h.2];rfl
     .cases d with
      |lst ys=>
       rw[bc];dsimp only[gM,gO];refine Sm.gd (λh=>Nat.lt_of_le_of_lt (Nat.add_le_add (oU H xs) (oU H ys)) h) λh=>Sm.lI (Prod.ext rfl ?_);show ax ρ (l.set x (.own (.lst (xs++ys))))=(ax ρ l).set x (.own (.lst (gL ρ xs++gL ρ ys)));rw[<-ir,<-dS];rfl
      |_=>exact Sm.stuck
theorem rV{fs:List (Str×D)}{m:Str}:(fR (gF ρ fs) m).isSome=(fR fs m).isSome:=by rw[zy,Option.isSome_map]
include H C I in
theorem zF(z:Expr)(m:Str)(u:List Expr)(l:Loc):Sm (gQ ρ (gM ρ)) (hX X ev z m u l) (hX (X.wc c') ev' z m u (ax ρ l)):=by
 refine Sm.bind (bG I z l) λp=> ?_;obtain⟨d,l⟩:=p;have bi:Sm (gQ ρ (gM ρ)) ((Res.of (mid d m)).bind λB=>bu ev u l |>.bind λ(ds,l)=>(Res.of (fV d m ds)).bind λr=>.ok (r,l)) ((Res.of (mid (gD ρ d) m)).bind λB=>bu ev' u (ax ρ l) |>.bind λ(ds,l)=>(Res.of (fV (gD ρ d) m ds)).bind λr=>.ok (r,l)):=
  Sm.bind (f:=id) (Sm.of λi h=>HC H h) λB=>Sm.bind (dG I u l) λq=>Sm.bind (f:=gM ρ) (Sm.of λr h=>Cm H h) λr=>Sm.ok
 dsimp only[gQ];rcases d with _|_|_|_|_|_|_|_|⟨k,fs⟩|_|_|_|_|_<;>try(exact Sm.stuck;done)
 .exact bi
 .exact bi
 .rw[fM];dsimp only;rw[rV];refine Sm.ite (λB=>Sm.stuck) λB=> ?_;show Sm _ _ (match X.cC k m with|some i=>_|none=>_);rcases X.cC k m with _|i
  .exact Sm.stuck
  .refine Sm.bind (dG I u l) λp=> ?_;have h:=C i (.d (.obj k fs)::p.1.map .d);rw[List.map_cons,rQ] at h;have e:gM ρ (.d (.obj k fs))= .d (.obj k (gF ρ fs)):=congrArg MV.d (fM k fs);rw[e] at h;exact Sm.bind h λr=>Sm.ok
 .exact bi
include H C I in
theorem ua(z:Expr)(m:Str)(u:List Expr)(l:Loc):Sm (gQ ρ (gM ρ)) (eY X ev z m u l) (eY (X.wc c') ev' z m u (ax ρ l)):=by
 unfold eY;have base:=zF H X c' C I z m u l;cases nameOf z with
 |none=>exact base
 |some x=>
  refine Sm.ite (c:=isLocal X x=true) (λB=> ?_) λB=>base;rw[eG];have obj: ∀(k:Nat) (fs:List (Str×D)),Sm (gQ ρ (gM ρ)) (if(fR fs m).isSome then .stuck else(match X.cC k m with|some i=>cy X ev i x u l|none=>.stuck))
    (if(fR (gF ρ fs) m).isSome then .stuck else(match X.cC k m with|some i=>cy (X.wc c') ev' i x u (ax ρ l)|none=>.stuck)):= λk fs=>by
   rw[rV];refine Sm.ite (λB=>Sm.stuck) λB=> ?_;cases X.cC k m with
   |none=>exact Sm.stuck
   |some i=>exact nk X c' C I i x u l
  cases l.get? x with
  |none=>exact Sm.stuck
  |some v=>cases v with
   |own o=>cases o with
    |lst xs=>exact t_ H I x m u l
    |obj k fs=>exact obj k fs
   |d d=>
    cases d with
    |obj k fs=>
     show Sm _ _ (if IQ (gD ρ (.obj k fs)) then .stuck else(match gD ρ (.obj k fs) with
      | .obj k fs=>if(fR fs m).isSome then .stuck else(match X.cC k m with|some i=>cy (X.wc c') ev' i x u (ax ρ l)|none=>.stuck)
      |_=>hX (X.wc c') ev' z m u (ax ρ l)))
     rw[fM];exact obj k fs
    |aq k=>exact Sm.stuck
    |seg k=>exact Sm.stuck
    |lst xs=>exact base
    |tup xs=>exact base
    |_=>exact base
end
end
section
section
variable{ρ:Val}
theorem nq: ∀(z:List Expr) (ds:List D) (l:Loc),Sm (ax ρ) (ay.go l z ds) (ay.go (ax ρ l) z (ds.map (gD ρ)))
 |[],[],l=>Sm.ok
 |[],_::_,l=>Sm.stuck
 |t::z,[],l=>by rcases t with _|_<;>exact Sm.stuck
 |t::z,d::ds,l=>by
  rcases t with _|_|_|_|_|_|_|_|_|_|_|_|_|_|_|_|_|_|_|_|_|_|_|⟨x,p⟩|_|_|_<;>try(exact Sm.stuck;done)
  .have h:=nq z ds (l.set x (.d d));rw[<-ir] at h;exact h
theorem eN(H:ρ.Ok)(t:Expr)(d:D)(l:Loc):Sm (ax ρ) (ay l t d) (ay (ax ρ l) t (gD ρ d)):=by
 rcases t with _|_|_|_|_|_|_|_|_|_|_|_|_|_|_|_|_|_|_|_|_|_|_|⟨x,p⟩|_|⟨z,k,p⟩|_<;>try(exact Sm.stuck;done)
 .exact Sm.lI (ir l x (.d d)).symm
 .rcases d with _|_|_|_|_|ds|ds|_|_|_|_|_|_|_<;>try(exact Sm.stuck;done)
  .rw[gB];exact nq z ds l
  .rw[bc];show Sm _ (if aG ds then .stuck else ay.go l z ds) (if aG (gL ρ ds) then .stuck else ay.go (ax ρ l) z (gL ρ ds));rw[cA H];by_cases q:aG ds=true
   .rw[if_pos q];exact Sm.stuck
   .rw[if_neg q,cL (Bool.eq_false_iff.mpr q)];exact nq z ds l
noncomputable def vf(l:Loc)(p:Str×NameKind):Option (Str×MV):=(l.get? p.1).bind λv=>match v with
  | .d x=>some (p.1,.d x)
  | .own _=>none
theorem EW{l:Loc}{p:Str×NameKind}{r:Str×MV}(h:vf l p=some r):vf (ax ρ l) p=some (r.1,gM ρ r.2):=by
 obtain⟨v,u,z⟩:=ae h;refine bind_some (a:=gM ρ v) (by rw[eG,u];rfl) ?_;rcases v with x|_
 .cases z;rfl
 .exact af z
theorem Co{scope:Scope}{l cl:Loc}(h:bX scope l=some cl):bX scope (ax ρ l)=some (ax ρ cl):=by
 have: ∀(ns:List (Str×NameKind)) (cl:Loc),cE (vf l) ns=some cl->cE (vf (ax ρ l)) ns=some (ax ρ cl):=by
  intro ns;induction ns with
  |nil=>intro cl h;cases h;rfl
  |cons n r B=>
   intro cl h;obtain⟨b,u,z⟩:=ae h;obtain⟨c,O,rfl⟩:=ar z;exact bind_some (EW u) (aQ (B c O) rfl)
 exact this _ _ h
theorem EX(scope:Scope)(l:Loc):bR scope (ax ρ l)=bR scope l:=by
 unfold bR;congr 1;funext p;rw[eG,Option.isSome_map]
end
section
variable{ρ:Val}(H:ρ.Ok)(X:Cx)(c':Nat->List MV->Res (MV×MV))(C:DH ρ X.call c')
variable{ev ev':Expr->Loc->Res (MV×Loc)}{tv tv':Expr->Loc->Res (Bool×Loc)}(I:HE ρ ev ev')(J:HF ρ tv tv')
include J in
theorem ub: ∀(O:List Expr) (l:Loc),Sm (gQ ρ id) (bS tv O l) (bS tv' O (ax ρ l)):=by
 intro z;induction z with
 |nil=>
  intro l;exact Sm.ok
 |cons c O u=>
  intro l;exact Sm.bind (Sm.d5 (J c l)) λp=>Sm.ite (λB=>u p.2) λB=>Sm.ok
include H I J in
theorem o3(cl:Loc)(x:Str)(ifs:List Expr)(elt:Expr): ∀(ds:List D),Sm (List.map (gD ρ)) (aR ev tv cl x ifs elt ds) (aR ev' tv' (ax ρ cl) x ifs elt (ds.map (gD ρ))):=by
 intro z;induction z with
 |nil=>
  exact Sm.ok
 |cons d ds u=>
  have h:=ub J ifs (cl.set x (.d d));rw[<-ir] at h;refine Sm.bind h λp=>Sm.ite (λB=> ?_) λB=>u;refine Sm.bind (Sm.d5 (bG I elt p.2)) λq=>Sm.bind (u) λvs=> ?_;exact Sm.gd (λh=>⟨by rw[List.length_map];exact h.1,u9 H h.2⟩) λB=>Sm.ok
include H I in
theorem lz(a:Expr)(ops:List CmpOp)(es:List Expr)(l:Loc):Sm (gQ ρ id) (dy ev a ops es l) (dy ev' a ops es (ax ρ l)):=
 Sm.ite (λB=>Sm.stuck) λB=>Sm.bind (bG I a l) λp=>jU H I ops es p.1 p.2
include J in
theorem w0(z:Bool): ∀(es:List Expr) (l:Loc),Sm (gQ ρ id) (iI tv z es l) (iI tv' z es (ax ρ l)):=by
 intro O;induction O with
 |nil=>
  intro l;exact Sm.ok
 |cons e es u=>
  intro l;exact Sm.bind (J e l) λp=>Sm.ite (c:=(p.1==z)=true) (λB=>u p.2) λB=>Sm.ok
include I in
theorem EY(es:List Expr)(l:Loc):Sm (gQ ρ (gM ρ)) (Ef ev es l) (Ef ev' es (ax ρ l)):=
 Sm.bind (dG I es l) λp=>Sm.gd (λh=>by show(p.1.map (gD ρ)).length<=lim;rw[List.length_map];exact h) λB=>Sm.lI (Prod.ext (congrArg MV.d (gB _)) rfl)
include H I in
theorem Cp(es:List Expr)(l:Loc):Sm (gQ ρ (gM ρ)) (listE ev es l) (listE ev' es (ax ρ l)):=by
 refine Sm.bind (dG I es l) λp=> ?_;refine Sm.gd (λh=> ?_) λh=>Sm.lI (Prod.ext (by show MV.own (.lst (gL ρ p.1))=_;rw[cL h.2]) rfl);rw[List.length_map,<-cL h.2];exact⟨h.1,cA H _⟩
include H I in
theorem EZ(a:Expr)(op:Operator)(b:Expr)(l:Loc):Sm (gQ ρ (gM ρ)) (Eg ev a op b l) (Eg ev' a op b (ax ρ l)):=
 Sm.bind (bG I a l) λp=>Sm.bind (bG I b p.2) λq=>Sm.bind (f:=gM ρ) (Sm.of λr h=>Cc H h) λr=>Sm.ok
include H I in
theorem HI(op:UnaryOp)(a:Expr)(l:Loc):Sm (gQ ρ (gM ρ)) (G1 ev op a l) (G1 ev' op a (ax ρ l)):=by
 rcases op with _|_|_|_
 .exact Sm.stuck
 .exact Sm.bind (I a l) λp=>Sm.bind (f:=id) (Sm.of λb h=>by show D.truthy (gM ρ p.1).D=_;rw[rL];exact m_ H h) λt=>Sm.ok
 .exact Sm.stuck
 .show Sm _ (match hN a with|none=>_|some c=>_) (match hN a with|none=>_|some c=>_);rcases hN a with _|c
  .exact Sm.stuck
  .rcases c with _|_<;>first|exact Sm.ok|exact Sm.stuck
include I in
theorem Cq(v:Expr)(a:Str)(l:Loc):Sm (gQ ρ (gM ρ)) (n_ X ev v a l) (n_ (X.wc c') ev' v a (ax ρ l)):=by
 unfold n_;refine Sm.ite (λB=>Sm.stuck) λB=> ?_;rcases nameOf v with _|x
 .exact Sm.bind (bG I v l) λp=>Sm.bind (rT X c' p.1 a) λd=>Sm.ok
 .refine Sm.ite (c:=isLocal X x=true) (λB=> ?_) λB=>Sm.stuck;rw[eG];rcases l.get? x with _|v
  .exact Sm.stuck
  .show Sm _ ((eX X v.D a).bind _) ((eX (X.wc c') (gM ρ v).D a).bind _);rw[rL];exact Sm.bind (rT X c' v.D a) λd=>Sm.ok
include H I in
theorem E0(v i:Expr)(l:Loc):Sm (gQ ρ (gM ρ)) (qK ev v i l) (qK ev' v i (ax ρ l)):=by
 unfold qK;rcases i8 i with _|p
 .exact Sm.bind (bG I v l) λq=>Sm.bind (bG I i q.2) λr=>Sm.bind (f:=gD ρ) (Sm.of λd h=>zu H h) λd=>Sm.ok
 .exact Sm.bind (bG I v l) λq=>Sm.bind (rS I p.1 q.2) λr=>Sm.bind (rS I p.2 r.2) λs=>Sm.bind (f:=gD ρ) (Sm.of λd h=>zw H h) λd=>Sm.ok
include H I in
theorem nu(b:Bi)(u:List Expr)(l:Loc):Sm (gQ ρ (gM ρ)) (km ev b u l) (km ev' b u (ax ρ l)):=
 Sm.bind (dG I u l) λp=>Sm.bind (f:=gM ρ) (Sm.of λr h=>Ci H h) λr=>Sm.ok
theorem zG(k:Nat)(d:D)(l:Loc):Sm (gQ ρ (gM ρ)) (pG X k d l) (pG (X.wc c') k (gD ρ d) (ax ρ l)):=by
 cases d with
 |obj C fs=>rw[fM];exact Sm.ite (c:=X.hK C k=true) (λB=>Sm.ok) λB=>Sm.stuck
 |_=>exact Sm.stuck
include I in
theorem E1(u:List Expr)(l:Loc):Sm (gQ ρ (gM ρ)) (xY X ev u l) (xY (X.wc c') ev' u (ax ρ l)):=by
 unfold xY
 match u with
 |[]=>exact Sm.stuck
 |[_]=>exact Sm.stuck
 |_::_::_::_=>exact Sm.stuck
 |[a,c]=>
  dsimp only;rcases nameOf c with _|c
  .exact Sm.stuck
  .refine Sm.ite (c:=(X.kind c !=some .globalImplicit)=true) (λB=>Sm.stuck) λB=> ?_;show Sm _ _ (match qL (X.glob c) with|none=>_|some k=>_);rcases qL (X.glob c) with _|k
   .exact Sm.stuck
   .exact Sm.bind (bG I a l) λp=>zG X c' k p.1 p.2
include H I in
theorem E2(u:List Expr)(l:Loc):Sm (gQ ρ (gM ρ)) (s8 X ev u l) (s8 (X.wc c') ev' u (ax ρ l)):=by
 unfold s8;rcases u.head?.bind nameOf with _|x
 .exact nu H I .len u l
 .refine Sm.ite (c:=(isLocal X x&&u.length==1)=true) (λB=> ?_) λB=>nu H I .len u l;rw[eG];rcases l.get? x with _|v
  .exact Sm.stuck
  .show Sm _ ((Res.of (fU v.D)).bind _) ((Res.of (fU (gM ρ v).D)).bind _);rw[rL];exact Sm.bind (f:=gD ρ) (Sm.of λd h=>Cf H h) λd=>Sm.ok
include H C I in
theorem Cr(g:Option GV)(u:List Expr)(l:Loc):Sm (gQ ρ (gM ρ)) (xZ X ev g u l) (xZ (X.wc c') ev' g u (ax ρ l)):=by
 rcases g with _|g
 .exact Sm.stuck
 .cases g with
  |fn i=>exact rU X c' C I i u l
  |cls k z=>exact wZ X c' C I k z u l
  |bi b=>exact Sm.ite (λB=>E1 X c' I u l) λB=>Sm.ite (λB=>E2 H X c' I u l) λB=>nu H I b u l
  |data _=>exact Sm.stuck
  |exc _=>exact Sm.stuck
include H C I in
theorem Cs(f:Expr)(u:List Expr)(ac:List Keyword)(pos:Pos)(l:Loc):Sm (gQ ρ (gM ρ)) (oa X ev f u ac pos l) (oa (X.wc c') ev' f u ac pos (ax ρ l)):=by
 unfold oa;rcases ac with _|⟨_,_⟩
 .dsimp only;rcases nameOf f with _|f
  .unfold Ds;rcases f with _|_|_|_|_|_|_|_|_|_|_|_|_|_|_|_|_|_|_|_|⟨z,m,O⟩|_|_|_|_|_|_<;>try(exact Sm.stuck;done)
   .exact Sm.ite (λB=>ua H X c' C I z m u l) λB=>Sm.stuck
  .unfold iJ;refine Sm.ite (λB=>Sm.stuck) λB=> ?_;refine Sm.ite (c:=isLocal X f=true) (λB=> ?_) λB=>Sm.ite (c:=(X.kind f==some .globalImplicit)=true) (λB=>Cr H X c' C I (X.glob f) u l) λB=>Sm.stuck;rw[eG];rcases e:GF (l.get? f) with _|i
   .exact Sm.stuck
   .rw[HG e];exact rU X c' C I i u l
 .exact Sm.stuck
include H I in
theorem Ct{u ac:Expr->Loc->Res (MV×Loc)}{O al:Expr->Loc->Res (Bool×Loc)}(Ic:HE ρ u ac)(Jc:HF ρ O al)(elt:Expr)(gs:List Comprehension)(scope:Scope)(l:Loc):
  Sm (gQ ρ (gM ρ)) (gY X ev u O elt gs scope l) (gY (X.wc c') ev' ac al elt gs scope (ax ρ l)):=by
 unfold gY;rcases pH gs with _|p
 .exact Sm.stuck
 .obtain⟨x,g⟩:=p;show Sm _ (if !(cF X scope x&&bR scope l) then _ else _) (if !(cF X scope x&&bR scope (ax ρ l)) then _ else _);rw[EX];refine Sm.ite (λB=>Sm.stuck) λB=>Sm.bind (bG I g.iter l) λq=>Sm.bind (f:=List.map (gD ρ)) (Sm.of λd h=>oY H h) λitems=>Sm.bind (f:=ax ρ) (Sm.of λd h=>Co h) λcl=> ?_;have gl: ∀ds:List D,aR u O cl x g.ifs elt items= .ok ds->aG ds=false:= λds=>by
   induction items generalizing ds with
   |nil=>intro h;cases h;rfl
   |cons d items ih=>
    intro h;unfold aR at h;rcases e1:bS O g.ifs (cl.set x (.d d)) with _|_|p
    .rw[e1] at h;cases h
    .rw[e1] at h;cases h
    .rw[e1] at h;obtain⟨t,l⟩:=p;rcases t with _|_
     .exact ih ds h
     .replace h:((d5 (aF u elt l)).bind λ(v,_)=>(aR u O cl x g.ifs elt items).bind λvs=>if vs.length<lim/\aC v=false then .ok (v::vs) else .stuck)= .ok ds:=h;rcases e2:d5 (aF u elt l) with _|_|p
      .rw[e2] at h;cases h
      .rw[e2] at h;cases h
      .rw[e2] at h;rcases e3:aR u O cl x g.ifs elt items with _|_|vs
       .rw[e3] at h;cases h
       .rw[e3] at h;cases h
       .rw[e3] at h;replace h:(if vs.length<lim/\aC p.1=false then Res.ok (p.1::vs) else .stuck)= .ok ds:=h;revert h;refine gp (λq h=> ?_) (λz h=> ?_)
        .cases h;exact d7.mpr ⟨q.2,ih vs e3⟩
        .cases h
  have h:=o3 H Ic Jc cl x g.ifs elt items;rcases e:aR u O cl x g.ifs elt items with _|_|ds
  .exact Sm.stuck
  .rw[h.2 e];exact Sm.exc
  .rw[h.1 ds e];exact Sm.lI (Prod.ext (by show MV.own (.lst (gL ρ ds))=_;rw[cL (gl ds e)]) rfl)
include H I in
theorem iw(e:Expr)(l:Loc):Sm (gQ ρ id) (plainT ev e l) (plainT ev' e (ax ρ l)):=
 Sm.bind (I e l) λp=>Sm.bind (f:=id) (Sm.of λb h=>by show D.truthy (gM ρ p.1).D=_;rw[rL];exact m_ H h) λt=>Sm.ok
end
theorem qe{ρ:Val}(H:ρ.Ok): ∀(k k':Nat),k<=k'-> ∀(X:Cx) (c':Nat->List MV->Res (MV×MV)),DH ρ X.call c'->HE ρ (ak k X) (ak k' (X.wc c'))/\HF ρ (bT k X) (bT k' (X.wc c')):=by
 intro k;induction k with
 |zero=>intro k' _ X c' _;exact⟨λB B=>Sm.stuck,λB B=>Sm.stuck⟩
 |succ k ih=>
  intro k' O X c' C;obtain⟨k',rfl⟩: ∃m,k'=m+1:=⟨k'-1,by exact dM (aj O)⟩
  obtain⟨I,J⟩:=ih k' (by exact aj O) X c' C;have D:= λscope=>ih k' (by exact aj O) (X.comp scope) c' C;refine⟨λe l=> ?_,λe l=> ?_⟩
  .rcases e with⟨op,es,p⟩|_|⟨a,op,b,p⟩|⟨op,a,p⟩|_|⟨t,a,b,p⟩|⟨ks,vs,p⟩|_|⟨elt,gs,scope,p⟩|_|_|_|_|_|_|⟨a,ops,es,p⟩|⟨f,u,z,pos⟩|_|_|⟨c,j,p⟩|⟨v,a,p⟩|⟨v,i,p⟩|_|⟨x,p⟩|⟨es,p⟩|⟨es,j,p⟩|_<;>try(exact Sm.stuck;done)
   .exact oZ H I (op==.And) es l
   .exact EZ H I a op b l
   .exact HI H I op a l
   .exact Sm.bind (J t l) λp=>Sm.ite (λB=>I a p.2) λB=>I b p.2
   .exact Sm.bind (f:=gD ρ) (Sm.of λd h=>by rw[Cn h];exact h) λd=>Sm.ok
   .exact Ct H X c' I (D scope).1 (D scope).2 elt gs scope l
   .exact Sm.bind (lz H I a ops es l) λp=>Sm.ok
   .exact Cs H X c' C I f u z pos l
   .exact Sm.bind (f:=gD ρ) (Sm.of λd h=>by rw[rR h];exact h) λd=>Sm.ok
   .exact Cq X c' I v a l
   .exact E0 H I v i l
   .exact t9 X c' x l
   .exact Cp H I es l
   .exact EY I es l
  .rcases e with⟨op,es,p⟩|_|_|⟨op,x,p⟩|_|⟨t,a,b,p⟩|_|_|_|_|_|_|_|_|_|⟨a,ops,es,p⟩|⟨f,u,z,pos⟩|_|_|⟨c,j,p⟩|⟨v,a,p⟩|⟨v,i,p⟩|_|⟨x,p⟩|_|_|_<;>try(exact Sm.stuck;done)
   .exact w0 J (op==.And) es l
   .exact Sm.ite (c:=op= .Not) (λB=>Sm.bind (J x l) λp=>Sm.ok) λB=>Sm.stuck
   .exact Sm.bind (J t l) λp=>Sm.ite (λB=>J a p.2) λB=>J b p.2
   .exact lz H I a ops es l
   .exact iw H I _ l
   .exact iw H I _ l
   .exact iw H I _ l
   .exact iw H I _ l
   .exact iw H I _ l
end
section
section
variable{ρ:Val}
noncomputable def xJ(ρ:Val):Fl->Fl
 | .ret v=>.ret (gM ρ v)
 | .next=>.next
 | .brk=>.brk
 | .cont=>.cont
noncomputable abbrev Kj(ρ:Val)(xb xb':List Stmt->Loc->Res (Fl×Loc)):Prop:= ∀b l,Sm (gQ ρ (xJ ρ)) (xb b l) (xb' b (ax ρ l))
theorem zH{o:Option MV}{k:Nat}{fs:List (Str×D)}(h:hY o=some (k,fs)):hY (o.map (gM ρ))=some (k,gF ρ fs):=by
 rcases o with _|v
 .exact af h
 .cases v with
  |d _=>exact af h
  |own o=>cases o with
   |lst _=>exact af h
   |obj k fs=>cases h;rfl
theorem zI{o:Option MV}{xs:List D}(h:h_ o=some xs):h_ (o.map (gM ρ))=some (gL ρ xs):=by
 rcases o with _|v
 .exact af h
 .cases v with
  |d _=>exact af h
  |own o=>cases o with
   |obj _ _=>exact af h
   |lst _=>cases h;rfl
theorem rW: ∀(ns:List Str) (vs:List MV) (l:Loc),Sm (ax ρ) (gv l ns vs) (gv (ax ρ l) ns (vs.map (gM ρ)))
 |[],[],l=>Sm.ok
 |[],_::_,l=>Sm.stuck
 |_::_,[],l=>Sm.stuck
 |x::ns,v::vs,l=>by
  have h:=rW ns vs (l.set x v);rw[<-ir] at h;exact h
end
section
variable{ρ:Val}(H:ρ.Ok)(X:Cx)(c':Nat->List MV->Res (MV×MV))(C:DH ρ X.call c')
variable{ev ev':Expr->Loc->Res (MV×Loc)}{tv tv':Expr->Loc->Res (Bool×Loc)}{xb xb':List Stmt->Loc->Res (Fl×Loc)}(I:HE ρ ev ev')(J:HF ρ tv tv')(K:Kj ρ xb xb')
include H I in
theorem zJ(t:Expr)(z:List Expr)(e:Expr)(l:Loc):Sm (ax ρ) (ko X ev t z e l) (ko (X.wc c') ev' t z e (ax ρ l)):=by
 unfold ko;refine Sm.ite (c:=(!bq X t)=true) (λB=>Sm.stuck) λB=> ?_;rcases xV e with _|es
 .dsimp only;rcases nameOf e with _|x
  .exact Sm.bind (bG I e l) λp=>eN H t p.1 p.2
  .refine Sm.ite (c:=isLocal X x=true) (λB=> ?_) λB=>Sm.stuck;rw[eG];rcases l.get? x with _|v
   .exact Sm.stuck
   .show Sm _ _ (ay (ax ρ l) t (gM ρ v).D);rw[rL];exact eN H t v.D l
 .refine Sm.ite (c:=jb X z es=true) (λB=>Sm.bind (wY I es l) λp=> ?_) λB=>Sm.stuck;refine Sm.gd (λh=>by show(p.1.map (gM ρ)).length<=lim;rw[List.length_map];exact h) λB=> ?_;rw[<-List.map_reverse];exact rW _ _ _
include H I in
theorem w3(o:Expr)(a:Str)(e:Expr)(l:Loc):Sm (ax ρ) (iK X ev o a e l) (iK (X.wc c') ev' o a e (ax ρ l)):=by
 unfold iK;rcases nameOf o with _|x
 .exact Sm.stuck
 .refine Sm.bind (bG I e l) λp=> ?_;dsimp only[gQ];rw[eG];rcases q:hY (p.2.get? x) with _|r
  .exact Sm.stuck
  .rw[zH q];refine Sm.gd (λh=>by show(isLocal X x&&X.attr r.1 a&&decide ((gF ρ r.2).length<900))=true;unfold gF;rw[List.length_map];exact h) λB=>Sm.lI ?_;rw[EU];exact(ir _ _ _).symm
include H I in
theorem zK(o i e:Expr)(l:Loc):Sm (ax ρ) (kq X ev o i e l) (kq (X.wc c') ev' o i e (ax ρ l)):=by
 unfold kq;rcases nameOf o with _|x
 .exact Sm.stuck
 .refine Sm.bind (bG I e l) λp=> ?_;dsimp only[gQ];rw[eG,Option.isNone_map];refine Sm.ite (λB=>Sm.stuck) λB=>Sm.bind (bG I i p.2) λq=> ?_;dsimp only[gQ];rw[eG];rcases r:h_ (q.2.get? x) with _|xs
  .exact Sm.stuck
  .rw[zI r];dsimp only;rcases hx:aG xs||aC p.1 with _|_
   .obtain⟨u,z⟩:=jQ (by rw[hx];decide);refine Sm.gd (λh=> ?_) λB=> ?_
    .show(isLocal X x&&(decide ((gL ρ xs).length<=lim)&& !(aG (gL ρ xs)||aC (gD ρ p.1))))=true;rw[cA H,u9 H z,cL u,List.length_map];exact h
    .rw[cL u,List.length_map];refine Sm.bind (f:=id) (Sm.of λj h=> ?_) λj=>Sm.lI ?_
     .obtain⟨n,h3,O⟩:=ae h;exact bind_some (fN h3) O
     .rw[<-ir];show(ax ρ q.2).set x (.own (.lst (gL ρ (xs.set j p.1))))=(ax ρ q.2).set x (.own (.lst ((xs.map (gD ρ)).set j (gD ρ p.1))));rw[cL,List.map_set];rw[bk] at u⊢;intro y m;rcases List.mem_or_eq_of_mem_set m with m|rfl
      .exact u y m
      .exact z
   .rw[if_neg]
    .exact Sm.stuck
    .rw[Bool.not_true,Bool.and_false,Bool.and_false];decide
include H I in
theorem uc(t e:Expr)(l:Loc):Sm (ax ρ) (fX X ev t e l) (fX (X.wc c') ev' t e (ax ρ l)):=by
 unfold fX;refine Sm.ite (c:=pinned X t=true) (λB=>Sm.stuck) λB=> ?_;rcases t with _|_|_|_|_|_|_|_|_|_|_|_|_|_|_|_|_|_|_|_|⟨o,a,p⟩|⟨o,i,p⟩|_|⟨x,p⟩|_|⟨z,k,p⟩|_<;>try(exact Sm.stuck;done)
 .exact w3 H X c' I o a e l
 .exact zK H X c' I o i e l
 .exact Sm.ite (c:=isLocal X x=true) (λB=>Sm.bind (I e l) λp=>Sm.lI (ir _ _ _).symm) λB=>Sm.stuck
 .exact zJ H X c' I _ z e l
noncomputable abbrev JD(ρ:Val)(t t':Loc->Res (Bool×Loc)):Prop:= ∀l,Sm (gQ ρ id) (t l) (t' (ax ρ l))
noncomputable abbrev GK(ρ:Val)(b b':Loc->Res (Fl×Loc)):Prop:= ∀l,Sm (gQ ρ (xJ ρ)) (b l) (b' (ax ρ l))
theorem iy{t z:Loc->Res (Bool×Loc)}{b b':Loc->Res (Fl×Loc)}(ht:JD ρ t z)(hb:GK ρ b b'): ∀(n u:Nat) (l:Loc),n<=u->Sm (gQ ρ (xJ ρ)) (bg t b n l) (bg z b' u (ax ρ l))
 |0,_,_,_=>Sm.stuck
 |n+1,0,_,h=>absurd h (by exact Nat.not_le_of_lt (by simp+arith only))
 |n+1,u+1,l,h=>Sm.bind (ht l) λp=>Sm.ite (λB=>Sm.bind (hb p.2) λq=>by
   obtain⟨O,l⟩:=q;cases O with
   |next=>exact iy ht hb n u l (by exact aj h)
   |cont=>exact iy ht hb n u l (by exact aj h)
   |brk=>exact Sm.ok
   |ret v=>exact Sm.ok) λB=>Sm.ok
include H in
theorem zL(t:Expr){b b':Loc->Res (Fl×Loc)}(z:GK ρ b b'): ∀(ds:List D) (l:Loc),Sm (gQ ρ (xJ ρ)) (forL t b ds l) (forL t b' (ds.map (gD ρ)) (ax ρ l)):=by
 intro B;induction B with
 |nil=>
  intro l;exact Sm.ok
 |cons d ds u=>
  intro l;exact Sm.bind (eN H t d l) λl=>Sm.bind (z l) λq=>by
    obtain⟨O,l⟩:=q;rcases O with _|v|_|_
    .exact u l
    .exact Sm.ok
    .exact Sm.ok
    .exact u l
include H I in
theorem E3{b b':Loc->Res (Fl×Loc)}(u:GK ρ b b')(t z:Expr)(l:Loc):Sm (gQ ρ (xJ ρ)) (lC X ev b t z l) (lC (X.wc c') ev' b' t z (ax ρ l)):=by
 unfold lC;refine Sm.ite (c:=(pinned X t|| !bq X t)=true) (λB=>Sm.stuck) λB=> ?_;show Sm _ _ (match cJ X z with|some a=>_|none=>_);rcases cJ X z with _|a
 .exact Sm.bind (bG I z l) λp=>Sm.bind (f:=List.map (gD ρ)) (Sm.of λd h=>oY H h) λitems=>zL H t u items p.2
 .refine Sm.bind (bG I a l) λp=>Sm.bind (f:=id) (Sm.of λi h=>fN h) λn=>Sm.gd id λB=> ?_;have h:=zL H t u (bP n.toNat) p.2;unfold bP at h⊢;rw[List.map_map] at h;exact h
include I in
theorem E4(e:Option Expr)(l:Loc):Sm (gQ ρ (xJ ρ)) (retS X ev e l) (retS (X.wc c') ev' e (ax ρ l)):=by
 unfold retS;rcases e with _|e
 .exact Sm.ok
 .dsimp only;rcases nameOf e with _|x
  .exact Sm.bind (I e l) λp=>Sm.ok
  .refine Sm.ite (c:=isLocal X x=true) (λB=> ?_) λB=>Sm.bind (I e l) λp=>Sm.ok;refine Sm.ite (c:=(X.pin==some x)=true) (λB=>Sm.stuck) λB=> ?_;rw[eG];rcases l.get? x with _|v
   .exact Sm.stuck
   .exact Sm.ok
include I in
theorem zM(e c:Option Expr)(l:Loc):Sm (gQ ρ (xJ ρ)) (kv X ev e c l) (kv (X.wc c') ev' e c (ax ρ l)):=by
 unfold kv;rcases e with _|e
 .exact Sm.stuck
 .cases c with
  |some _=>exact Sm.stuck
  |none=>
   dsimp only;rcases og e with _|p
   .exact Sm.stuck
   .exact Sm.ite (λB=>Sm.bind (dG I p.2 l) λB=>Sm.exc) λB=>Sm.stuck
theorem E5(l:Loc):(ax ρ l).all (λp=>match p.2 with| .d _=>true| .own _=>false)=l.all (λp=>match p.2 with| .d _=>true| .own _=>false):=by
 unfold ax;rw[List.all_map];congr 1;funext p;obtain⟨x,v⟩:=p;rcases v with _|_<;>rfl
include I in
theorem E6(b:List Stmt)(hs:List ExceptHandler)(u fin:List Stmt)(l:Loc):Sm (gQ ρ (xJ ρ)) (vJ X ev b hs u fin l) (vJ (X.wc c') ev' b hs u fin (ax ρ l)):=by
 unfold vJ;refine Sm.ite (λB=>Sm.stuck) λB=> ?_;rcases vI b with _|e
 .exact Sm.stuck
 .dsimp only;have h:=I e l;rcases q:ev e l with _|_|p
  .exact Sm.stuck
  .rw[h.2 q];dsimp only;rcases oh hs with _|c
   .exact Sm.stuck
   .refine Sm.gd (λh=> ?_) λB=>Sm.ok;rw[Bool.and_eq_true] at h⊢;exact⟨h.1,(E5 l).trans h.2⟩
  .rw[h.1 p q];exact Sm.ok
include H I J K in
theorem Cu(s:Stmt)(l:Loc):Sm (gQ ρ (xJ ρ)) (fY X ev tv xb s l) (fY (X.wc c') ev' tv' xb' s (ax ρ l)):=by
 rcases s with _|_|_|⟨e,p⟩|_|⟨z,e,p⟩|_|_|_|⟨t,O,b,u,p⟩|_|⟨t,b,u,p⟩|⟨t,a,b,p⟩|_|_|_|⟨e,c,p⟩|⟨b,hs,u,fin,p⟩|_|_|_|_|_|_|⟨e,p⟩|p|p|p<;>try(exact Sm.stuck;done)
 .exact E4 X c' I e l
 .show Sm _ (Br X ev z e l) (Br (X.wc c') ev' z e (ax ρ l));unfold Br
  match z with
  |[]=>exact Sm.stuck
  |[t]=>exact Sm.bind (uc H X c' I t e l) λB=>Sm.ok
  |_::_::_=>exact Sm.stuck
 .exact Sm.ite (λB=>E3 H X c' I (λl=>K b l) t O l) λB=>Sm.stuck
 .exact Sm.ite (λB=>iy (λl=>J t l) (λl=>K b l) X.w X.w l (Nat.le_refl _)) λB=>Sm.stuck
 .exact Sm.bind (J t l) λp=>Sm.ite (λB=>K a p.2) λB=>K b p.2
 .exact zM X c' I e c l
 .exact E6 X c' I b hs u fin l
 .exact Sm.ite (λB=>Sm.stuck) λB=>Sm.bind (I e l) λp=>Sm.gd zE λB=>Sm.ok
 .exact Sm.ok
 .exact Sm.ok
 .exact Sm.ok
end
theorem ud{ρ:Val}(H:ρ.Ok)(X:Cx)(c':Nat->List MV->Res (MV×MV))(C:DH ρ X.call c'): ∀(k k':Nat),k<=k'->Kj ρ (aw k X) (aw k' (X.wc c')):=by
 intro k;induction k with
 |zero=>intro k' _ b l;exact Sm.stuck
 |succ k B=>
  intro k' O b l;obtain⟨k',rfl⟩: ∃m,k'=m+1:=⟨k'-1,by exact dM (aj O)⟩
  have O:k<=k':=by exact aj O
  obtain⟨I,J⟩:=qe H k k' O X c' C;rcases b with _|⟨s,ss⟩
  .exact Sm.ok
  .refine Sm.bind (Cu H X c' I J (B k' O) s l) λq=> ?_;obtain⟨u,l⟩:=q;rcases u with _|v|_|_
   .exact B k' O ss l
   .exact Sm.ok
   .exact Sm.ok
   .exact Sm.ok
noncomputable def xF(c:Nat->List MV->Res (MV×MV))(f:Fd):Cx:={kind:= λx=>f.scope.names.lookup x,glob:=je,cC:=jc,attr:=jd,isFn:= λi=>(ia i).isSome,hK:=oi,call:=c,w:=3000,pin:=f.params.head?}
noncomputable def jV(f:Fd)(p:Fl×Loc):Res (MV×MV):=match p.1 with
 | .next=>.ok (.d .none,((f.params.head?).bind p.2.get?).getD (.d .none))
 | .ret v=>.ok (v,((f.params.head?).bind p.2.get?).getD (.d .none))
 |_=>.stuck
noncomputable def fy(c:Nat->List MV->Res (MV×MV))(i:Nat)(u:List MV):Res (MV×MV):=match ia i with
 |none=>.stuck
 |some f=>match cf f.params f.defaults u with
  |none=>.stuck
  |some l=>(aw 60 (xF c f) f.body l).bind (jV f)
noncomputable def az(n i:Nat)(u:List MV):Res (MV×MV):=jw ia je jc jd oi 3000 n i u
theorem bY(n i:Nat)(u:List MV):az (n+1) i u=fy (az n) i u:=by
 unfold fy;show(match ia i with
  |none=>Res.stuck
  |some f=>match cf f.params f.defaults u with
   |none=>Res.stuck
   |some l=>(aw 60 (xF (az n) f) f.body l).bind λ(O,l)=>match O with
     | .next=>Res.ok (MV.d .none,((f.params.head?).bind l.get?).getD (MV.d .none))
     | .ret v=>Res.ok (v,((f.params.head?).bind l.get?).getD (MV.d .none))
     |_=>Res.stuck)=_
 rcases ia i with _|f
 .rfl
 .rcases cf f.params f.defaults u with _|l
  .rfl
  .rfl
set_option tactic.hygienic true in
theorem w4{ρ:Val}{e:Expr}{d:D}(h:constOf e=some d):gD ρ d=d:=by
 rcases e with _|_<;>first|exact af h|exact rR h|skip
 rename_i op x p;rcases op with _|_<;>first|exact af h|skip
 rcases x with _|_<;>first|exact af h|skip
 rename_i c k p;rcases c with _|_<;>first|exact af h|(cases h;rfl)
theorem rX{ρ:Val}: ∀{es:List Expr} {ds:List D},cE constOf es=some ds-> ∀d∈ds,gD ρ d=d
 |[],_,h=>by cases h;exactλB m=>nomatch m
 |e::es,_,h=>by
  obtain⟨b,z,u⟩:=ae h;obtain⟨c,O,rfl⟩:=ar u;intro d m;rcases List.mem_cons.mp m with rfl|m
  .exact w4 z
  .exact rX O d m
theorem zN{ρ:Val}{f:Fd}{s:Stmt}(h:fdOf s=some f): ∀d∈f.defaults,gD ρ d=d:=by
 rcases s with _|_<;>first|exact af h|skip
 obtain⟨ds,u,rfl⟩:=ar h;exact rX u
theorem ue{ρ:Val}{i:Nat}{f:Fd}(h:ia i=some f): ∀d∈f.defaults,gD ρ d=d:=by
 obtain⟨s,_,z⟩:=ae h;by_cases q:i%100=0
 .rw[if_pos q] at z;exact zN z
 .rw[if_neg q] at z;obtain⟨t,_,O⟩:=ae z;exact zN O
theorem DI{ρ:Val}: ∀(ps:List Str) (as:List MV),ps.zip (as.map (gM ρ))=(ps.zip as).map λp=>(p.1,gM ρ p.2)
 |[],_=>rfl
 |_::_,[]=>rfl
 |p::ps,a::as=>congrArg ((p,gM ρ a):: ·) (DI ps as)
theorem uf{ρ:Val}{ps:List Str}{ds:List D}(hd: ∀d∈ds,gD ρ d=d){u:List MV}{l:Loc}(h:cf ps ds u=some l):cf ps ds (u.map (gM ρ))=some (ax ρ l):=by
 unfold cf at h⊢;rw[List.length_map];obtain⟨z,rfl⟩:=aJ h;rw[if_pos z];congr 1;have e: ∀(es:List D),(∀d∈es,gD ρ d=d)->(es.map MV.d).map (gM ρ)=es.map MV.d:= λes h=>by
  rw[rQ];congr 1;exact(List.map_congr_left (g:=id) λd m=>h d m).trans (List.map_id _)
 rw[show u.map (gM ρ)++(ds.drop (ds.length-(ps.length-u.length))).map MV.d=(u++(ds.drop (ds.length-(ps.length-u.length))).map MV.d).map (gM ρ) from by rw[List.map_append,e _ λd m=>hd d (List.mem_of_mem_drop m)]];exact DI _ _
theorem E7{ρ:Val}(f:Fd)(p:Fl×Loc):Sm (gR ρ) (jV f p) (jV f (gQ ρ (xJ ρ) p)):=by
 obtain⟨O,l⟩:=p;have back:gM ρ (((f.params.head?).bind l.get?).getD (.d .none))=((f.params.head?).bind (ax ρ l).get?).getD (.d .none):=by
  rcases f.params.head? with _|x
  .rfl
  .show gM ρ ((l.get? x).getD _)=((ax ρ l).get? x).getD _;rw[eG];cases l.get? x<;>rfl
 rcases O with _|v|_|_
 .exact Sm.lI (Prod.ext rfl back)
 .exact Sm.lI (Prod.ext rfl back)
 .exact Sm.stuck
 .exact Sm.stuck
theorem Cv{ρ:Val}(H:ρ.Ok){c c':Nat->List MV->Res (MV×MV)}(C:DH ρ c c'):DH ρ (fy c) (fy c'):= λi u=>by
 unfold fy;rcases e:ia i with _|f
 .exact Sm.stuck
 .dsimp only;rcases e2:cf f.params f.defaults u with _|l
  .exact Sm.stuck
  .rw[uf (ue e) e2];exact Sm.bind (ud H (xF c f) c' C 60 60 (Nat.le_refl _) f.body l) λp=>E7 f p
noncomputable abbrev Tab:=Nat->List MV->Option (Res (MV×MV))
noncomputable def aE(O:Tab)(n:Nat):Nat->List MV->Res (MV×MV):=
 Nat.rec (λi u=>(O i u).getD .stuck) (λB c i u=>match O i u with
  |some r=>r
  |none=>fy c i u) n
noncomputable def gc(ρ:Val)(O:Tab)(d:Nat):Prop:= ∀i u r,O i u=some r-> ∀m,d<=m->Sm (gR ρ) r (az m i (u.map (gM ρ)))
noncomputable def vg:Tab:= λB B=>none
theorem rY{ρ:Val}{d:Nat}:gc ρ vg d:= λB B B h=>af h
theorem iO{ρ:Val}(H:ρ.Ok){O:Tab}{d:Nat}(V:gc ρ O d): ∀(n m:Nat),n+d<=m->DH ρ (aE O n) (az m):=by
 intro n;induction n with
 |zero=>
  intro m z i u;show Sm _ ((O i u).getD .stuck) _;rcases e:O i u with _|r
  .exact Sm.stuck
  .exact V i u r e m (by exact aj z)
 |succ n B=>
  intro m z i u;show Sm _ (match O i u with|some r=>r|none=>fy (aE O n) i u) _;rcases e:O i u with _|r
  .obtain⟨m,rfl⟩: ∃j,m=j+1:=⟨m-1,by exact dM (aj z)⟩
   rw[bY];exact Cv H (B m (by exact aj z)) i u
  .exact V i u r e m (by exact aj z)
end
section
noncomputable def JE:Fd:={qual:="",params:=[],defaults:=[],scope:=default,body:=[]}
noncomputable def gf(i:Nat):Fd:=(ia i).getD JE
noncomputable def aV(i j:Nat):Stmt:=((gf i).body[j]?).getD (.Pass default)
noncomputable def behind(i j:Nat):List Stmt:=(gf i).body.drop (j+1)
noncomputable def ahead(i j:Nat):List Stmt:=(gf i).body.take j
noncomputable def n6(s:Stmt):Expr:=uG s (.Constant .none 0 default) (wh:= λt B B=>t) (fr:= λt B B B=>t)
noncomputable def qf(s:Stmt):Expr:=uG s (.Constant .none 0 default) (fr:= λB t B B=>t)
noncomputable def KW(s:Stmt):List Stmt:=uG s [] (wh:= λB b B=>b) (fr:= λB B b B=>b)
noncomputable abbrev xO(c:Nat->List MV->Res (MV×MV))(i:Nat):Cx:=xF c (gf i)
theorem dq{c:Nat->List MV->Res (MV×MV)}{i:Nat}{u:List MV}{l:Loc}(h:(ia i).isSome=true)(z:cf (gf i).params (gf i).defaults u=some l):fy c i u=(aw 60 (xO c i) (gf i).body l).bind (jV (gf i)):=by
 show fy c i u=(aw 60 (xF c (gf i)) (gf i).body l).bind (jV (gf i));unfold fy;rcases e:ia i with _|f
 .rw[e] at h;cases h
 .have B:gf i=f:=by unfold gf;rw[e];rfl
  rw[B] at z⊢;dsimp only;rw[z]
theorem dH{X:Cx}: ∀(pre:List Stmt) {rest:List Stmt} {k:Nat} {l l':Loc},aw (pre.length+k+1) X pre l= .ok (.next,l')->aw (pre.length+k+1) X (pre++rest) l=aw (k+1) X rest l':=by
 intro B;induction B with
 |nil=>
  intro rest k l l' h;cases h;rw[List.length_nil,Nat.zero_add];rfl
 |cons s pre u=>
  intro rest k l l' h;rw[List.length_cons,Nat.add_right_comm pre.length 1 k] at h⊢;generalize z:pre.length+k+1=n at h⊢;have h:(fY X (ak n X) (bT n X) (aw n X) s l).bind (λ(f,l)=>match f with
   | .next=>aw n X pre l
   |f=>.ok (f,l))= .ok (.next,l'):=h
  show(fY X (ak n X) (bT n X) (aw n X) s l).bind (λ(f,l)=>match f with
   | .next=>aw n X (pre++rest) l
   |f=>.ok (f,l))=_
  rcases e:fY X (ak n X) (bT n X) (aw n X) s l with _|_|p
  .rw[e] at h;cases h
  .rw[e] at h;cases h
  .rw[e] at h;obtain⟨f,O⟩:=p;rcases f with _|v|_|_
   .rw[<-z] at h⊢;exact u h
   .cases h
   .cases h
   .cases h
noncomputable def steps(t:Loc->Res (Bool×Loc))(b:Loc->Res (Fl×Loc)):Nat->Loc->Res Loc
 |0,l=>.ok l
 |j+1,l=>(t l).bind λ(c,l)=>if c then(b l).bind λ(f,l)=>match f with
   | .next=>steps t b j l
   | .cont=>steps t b j l
   | .brk=>.stuck
   | .ret _=>.stuck else .stuck
theorem Cw{ρ:Val}{t z:Loc->Res (Bool×Loc)}{b b':Loc->Res (Fl×Loc)}(ht:JD ρ t z)(X:GK ρ b b'): ∀(j:Nat) (l:Loc),Sm (ax ρ) (steps t b j l) (steps z b' j (ax ρ l)):=by
 intro l9;induction l9 with
 |zero=>
  intro l;exact Sm.ok
 |succ j u=>
  intro l;exact Sm.bind (ht l) λp=>Sm.gd id λB=>Sm.bind (X p.2) λq=>by
    obtain⟨O,l⟩:=q;rcases O with _|v|_|_
    .exact u l
    .exact Sm.stuck
    .exact Sm.stuck
    .exact u l
theorem dA{t:Loc->Res (Bool×Loc)}{b:Loc->Res (Fl×Loc)}: ∀(j:Nat) {n:Nat} {l l':Loc},steps t b j l= .ok l'->bg t b (n+j) l=bg t b n l':=by
 intro X;induction X with
 |zero=>
  intro n l l' h;cases h;rfl
 |succ j u=>
  intro n l l' h;have h:(t l).bind (λ(c,l)=>if c then(b l).bind λ(f,l)=>match f with
   | .next=>steps t b j l
   | .cont=>steps t b j l
   | .brk=>.stuck
   | .ret _=>.stuck else .stuck)= .ok l':=h
  show(t l).bind (λ(c,l)=>if c then(b l).bind λ(f,l)=>match f with
   | .next=>bg t b (n+j) l
   | .cont=>bg t b (n+j) l
   | .brk=>.ok (.next,l)
   | .ret v=>.ok (.ret v,l) else .ok (.next,l))=_
  rcases e:t l with _|_|p
  .rw[e] at h;cases h
  .rw[e] at h;cases h
  .rw[e] at h;obtain⟨c,O⟩:=p;rcases c with _|_
   .cases h
   .have h:(b O).bind (λ(f,l)=>match f with
     | .next=>steps t b j l
     | .cont=>steps t b j l
     | .brk=>.stuck
     | .ret _=>.stuck)= .ok l':=h
    show(b O).bind (λ(f,l)=>match f with
     | .next=>bg t b (n+j) l
     | .cont=>bg t b (n+j) l
     | .brk=>.ok (.next,l)
     | .ret v=>.ok (.ret v,l))=_
    rcases e:b O with _|_|q
    .rw[e] at h;cases h
    .rw[e] at h;cases h
    .rw[e] at h;obtain⟨f,z⟩:=q;rcases f with _|v|_|_
     .exact u h
     .cases h
     .cases h
     .exact u h
theorem o4{t:Loc->Res (Bool×Loc)}{b:Loc->Res (Fl×Loc)}: ∀(j:Nat) {n:Nat} {l:Loc},steps t b j l= .exc->bg t b (n+j) l= .exc:=by
 intro X;induction X with
 |zero=>
  intro n l h;cases h
 |succ j u=>
  intro n l h;have h:(t l).bind (λ(c,l)=>if c then(b l).bind λ(f,l)=>match f with
   | .next=>steps t b j l
   | .cont=>steps t b j l
   | .brk=>.stuck
   | .ret _=>.stuck else .stuck)= .exc:=h
  show(t l).bind (λ(c,l)=>if c then(b l).bind λ(f,l)=>match f with
   | .next=>bg t b (n+j) l
   | .cont=>bg t b (n+j) l
   | .brk=>.ok (.next,l)
   | .ret v=>.ok (.ret v,l) else .ok (.next,l))=_
  rcases e:t l with _|_|p
  .rw[e] at h;cases h
  .rfl
  .rw[e] at h;obtain⟨c,O⟩:=p;rcases c with _|_
   .cases h
   .have h:(b O).bind (λ(f,l)=>match f with
     | .next=>steps t b j l
     | .cont=>steps t b j l
     | .brk=>.stuck
     | .ret _=>.stuck)= .exc:=h
    show(b O).bind (λ(f,l)=>match f with
     | .next=>bg t b (n+j) l
     | .cont=>bg t b (n+j) l
     | .brk=>.ok (.next,l)
     | .ret v=>.ok (.ret v,l))=_
    rcases e:b O with _|_|q
    .rw[e] at h;cases h
    .rfl
    .rw[e] at h;obtain⟨f,z⟩:=q;rcases f with _|v|_|_
     .exact u h
     .cases h
     .cases h
     .exact u h
noncomputable def wT(c:Nat->List MV->Res (MV×MV))(i j k:Nat):Loc->Res (Bool×Loc):=bT k (xO c i) (n6 (aV i j))
noncomputable def wB(c:Nat->List MV->Res (MV×MV))(i j k:Nat):Loc->Res (Fl×Loc):=aw k (xO c i) (KW (aV i j))
section
variable{ρ:Val}(H:ρ.Ok){tb:Tab}{d:Nat}(V:gc ρ tb d)
include H V
theorem zO{n m i j k k':Nat}(h:n+d<=m)(O:k<=k'):JD ρ (wT (aE tb n) i j k) (wT (az m) i j k'):= λl=>(qe H k k' O (xO (aE tb n) i) (az m) (iO H V n m h)).2 _ l
theorem rZ{n m i j k k':Nat}(h:n+d<=m)(O:k<=k'):GK ρ (wB (aE tb n) i j k) (wB (az m) i j k'):= λl=>ud H (xO (aE tb n) i) (az m) (iO H V n m h) k k' O _ l
theorem cj{n m i k k':Nat}(h:n+d<=m)(O:k<=k'){ss:List Stmt}{l:Loc}{r:Res (Fl×Loc)}(e:aw k (xO (aE tb n) i) ss l=r):Sm (gQ ρ (xJ ρ)) r (aw k' (xO (az m) i) ss (ax ρ l)):=by
 subst e;exact ud H (xO (aE tb n) i) (az m) (iO H V n m h) k k' O ss l
theorem bK{n m i:Nat}(h:n+d<=m){u:List MV}{r:Res (MV×MV)}(e:aE tb n i u=r):Sm (gR ρ) r (az m i (u.map (gM ρ))):=by
 subst e;exact iO H V n m h i u
theorem eV{n m i j k k' q:Nat}(h:n+d<=m)(O:k<=k'){l:Loc}{r:Res Loc}(e:steps (wT (aE tb n) i j k) (wB (aE tb n) i j k) q l=r):Sm (ax ρ) r (steps (wT (az m) i j k') (wB (az m) i j k') q (ax ρ l)):=by
 subst e;exact Cw (zO H V h O) (rZ H V h O) q l
end
noncomputable def lA:List BI->List BI->Bool
 |[],y=>y.isEmpty
 | .b a::x,y=>(match y with
  | .b c::y=>a==c&&lA x y
  |_=>false)
 | .s a::x,y=>(match y with
  | .s c::y=>a==c&&lA x y
  |_=>false)
 | .t _ _::_,_=>false
 | .n a::x,y=>(match y with
  | .n c::y=>a==c&&lA x y
  |_=>false)
noncomputable def KX:D->Option (List BI)
 | .sb b=>some b
 |_=>none
noncomputable def Kk:D->Option (Int×List Nat)
 | .si b l=>some (b,l)
 |_=>none
noncomputable def HJ:D->Option Nat
 | .aq b=>some b
 |_=>none
noncomputable def JF:D->Option (Nat×List (Str×D))
 | .obj C fs=>some (C,fs)
 |_=>none
noncomputable def HK:D->Option Nat
 | .fn i=>some i
 |_=>none
noncomputable def qg(f:D->D->Bool):List D->List D->Bool
 |[],y=>y.isEmpty
 |a::x,y=>(match y with
  |b::y=>f a b&&qg f x y
  |[]=>false)
noncomputable def w5(f:D->D->Bool):List (Str×D)->List (Str×D)->Bool
 |[],y=>y.isEmpty
 |a::x,y=>(match y with
  |b::y=>(a.1==b.1&&f a.2 b.2)&&w5 f x y
  |[]=>false)
noncomputable def zP{z:Type}(o:Option z)(f:z->Bool):Bool:=match o with
 |some a=>f a
 |none=>false
theorem jW{z:Type}{o:Option z}{f:z->Bool}(h:zP o f=true): ∃a,o=some a/\f a=true:=by
 rcases o with _|a
 .cases h
 .exact⟨a,rfl,h⟩
noncomputable def kJ:Nat->D->D->Bool
 |0,_,_=>false
 |n+1,x,y=>match x with
  | .none=>gX y==some ()
  | .bool a=>vBool y==some a
  | .int a=>vInt y==some a
  | .str a=>vStr y==some a
  | .bytes a=>bH y==some a
  | .tup a=>zP (kg y) λb=>qg (kJ n) a b
  | .lst a=>zP (dg y) λb=>qg (kJ n) a b
  | .dN _=>false
  | .obj C fs=>zP (JF y) λb=>C==b.1&&w5 (kJ n) fs b.2
  | .fn a=>HK y==some a
  | .si c l=>Kk y==some (c,l)
  | .sb a=>zP (KX y) λb=>lA a b
  | .seg k=>d4 y==some k
  | .aq k=>HJ y==some k
theorem zQ{a b:List BI}(h:lA a b=true):a=b:=by
 induction a generalizing b with
 |nil=>exact(List.isEmpty_iff.mp h).symm
 |cons x a B=>
  rcases x with c|c|⟨_,_⟩|c
  .rcases b with _|⟨y,b⟩
   .cases h
   .cases y with
    |b d=>
     obtain⟨u,z⟩:=Bool.and_eq_true_iff.mp (show(c==d&&lA a b)=true from h);rw[eq_of_beq u,B z]
    |_=>cases h
  .rcases b with _|⟨y,b⟩
   .cases h
   .cases y with
    |s d=>
     obtain⟨u,z⟩:=Bool.and_eq_true_iff.mp (show(c==d&&lA a b)=true from h);rw[eq_of_beq u,B z]
    |_=>cases h
  .cases h
  .rcases b with _|⟨y,b⟩
   .cases h
   .cases y with
    |n d=>
     obtain⟨u,z⟩:=Bool.and_eq_true_iff.mp (show(c==d&&lA a b)=true from h);rw[eq_of_beq u,B z]
    |_=>cases h
theorem lY{f:D->D->Bool}(O: ∀x y,f x y=true->x=y){a b:List D}(h:qg f a b=true):a=b:=by
 induction a generalizing b with
 |nil=>exact(List.isEmpty_iff.mp h).symm
 |cons x a B=>
  rcases b with _|⟨y,b⟩
  .cases h
  .obtain⟨u,z⟩:=Bool.and_eq_true_iff.mp (show(f x y&&qg f a b)=true from h);rw[O _ _ u,B z]
theorem vh{f:D->D->Bool}(hf: ∀x y,f x y=true->x=y){a b:List (Str×D)}(h:w5 f a b=true):a=b:=by
 induction a generalizing b with
 |nil=>exact(List.isEmpty_iff.mp h).symm
 |cons x a B=>
  rcases b with _|⟨y,b⟩
  .cases h
  .obtain⟨u,z⟩:=Bool.and_eq_true_iff.mp (show((x.1==y.1&&f x.2 y.2)&&w5 f a b)=true from h);obtain⟨X,O⟩:=Bool.and_eq_true_iff.mp u;rw[B z,show x=y from Prod.ext (eq_of_beq X) (hf _ _ O)]
theorem jX: ∀(n:Nat) (x y:D),kJ n x y=true->x=y:=by
 intro l9;induction l9 with
 |zero=>
  intro B B h;cases h
 |succ n am=>
  intro x y h;have ih:=am;rcases x with _|a|a|a|a|a|a|a|⟨C,fs⟩|a|⟨c,l⟩|a|k|k
  .exact(dz (eq_of_beq h)).symm
  .exact(fZ (eq_of_beq h)).symm
  .exact(aD (eq_of_beq h)).symm
  .exact(cz (eq_of_beq h)).symm
  .exact(aU (eq_of_beq h)).symm
  .obtain⟨b,u,z⟩:=jW h;rw[eZ u,lY ih z]
  .obtain⟨b,u,z⟩:=jW h;rw[bI u,lY ih z]
  .cases h
  .obtain⟨b,u,z⟩:=jW h;obtain⟨X,O⟩:=Bool.and_eq_true_iff.mp z;have hy:y= .obj b.1 b.2:=by rcases y with _|_<;>first|exact af u|(cases u;rfl)
   rw[hy,eq_of_beq X,vh ih O]
  .have u:=eq_of_beq (show(HK y==some a)=true from h);rcases y with _|_<;>first|exact af u|(cases u;rfl)
  .have u:=eq_of_beq (show(Kk y==some (c,l))=true from h);rcases y with _|_<;>first|exact af u|(cases u;rfl)
  .obtain⟨b,u,z⟩:=jW h;have hy:y= .sb b:=by rcases y with _|_<;>first|exact af u|(cases u;rfl)
   rw[hy,zQ z]
  .have u:=eq_of_beq (show(d4 y==some k)=true from h);rcases y with _|_<;>first|exact af u|(cases u;rfl)
  .have u:=eq_of_beq (show(HJ y==some k)=true from h);rcases y with _|_<;>first|exact af u|(cases u;rfl)
noncomputable def n7(x y:MV):Bool:=match x with
 | .d a=>(match y with
  | .d b=>kJ 12 a b
  | .own _=>false)
 | .own o=>(match y with
  | .d _=>false
  | .own p=>(match o with
   | .lst a=>(match p with
    | .lst b=>qg (kJ 12) a b
    | .obj _ _=>false)
   | .obj C a=>(match p with
    | .lst _=>false
    | .obj E b=>C==E&&w5 (kJ 12) a b)))
noncomputable def o7:List MV->List MV->Bool
 |[],y=>y.isEmpty
 |a::x,y=>(match y with
  |b::y=>n7 a b&&o7 x y
  |[]=>false)
theorem iP{x y:MV}(h:n7 x y=true):x=y:=by
 rcases x with a|o
 .cases y with
  |d b=>rw[jX 12 a b h]
  |own _=>cases h
 .cases y with
  |d _=>rcases o with _|_<;>cases h
  |own p=>cases o with
   |lst a=>cases p with
    |lst b=>rw[lY (jX 12) (show qg (kJ 12) a b=true from h)]
    |obj _ _=>cases h
   |obj C a=>cases p with
    |lst _=>cases h
    |obj E b=>
     obtain⟨u,z⟩:=Bool.and_eq_true_iff.mp (show(C==E&&w5 (kJ 12) a b)=true from h);rw[eq_of_beq u,vh (jX 12) z]
theorem zR{a b:List MV}(h:o7 a b=true):a=b:=by
 induction a generalizing b with
 |nil=>exact(List.isEmpty_iff.mp h).symm
 |cons x a B=>
  rcases b with _|⟨y,b⟩
  .cases h
  .obtain⟨u,z⟩:=Bool.and_eq_true_iff.mp (show(n7 x y&&o7 a b)=true from h);rw[iP u,B z]
noncomputable abbrev Rows:=List (Nat×List MV×Res (MV×MV))
noncomputable def tabOf:Rows->Tab
 |[],_,_=>none
 |e::r,i,u=>bif Nat.beq e.1 i&&o7 e.2.1 u then some e.2.2 else tabOf r i u
noncomputable def cM(ρ:Val)(d:Nat)(e:Nat×List MV×Res (MV×MV)):Prop:= ∀m,d<=m->Sm (gR ρ) e.2.2 (az m e.1 (e.2.1.map (gM ρ)))
theorem aB{ρ:Val}{d:Nat}:gc ρ (tabOf []) d:= λB B B h=>af h
theorem av{ρ:Val}{d:Nat}{e:Nat×List MV×Res (MV×MV)}{r:Rows}(h:cM ρ d e)(t:gc ρ (tabOf r) d):gc ρ (tabOf (e::r)) d:= λi u x hx m B=>by
 have hx:(bif Nat.beq e.1 i&&o7 e.2.1 u then some e.2.2 else tabOf r i u)=some x:=hx;rcases q:Nat.beq e.1 i&&o7 e.2.1 u with _|_
 .rw[q] at hx;exact t i u x hx m B
 .rw[q] at hx;obtain⟨X,z⟩:=Bool.and_eq_true_iff.mp q;rw[<-Nat.eq_of_beq_eq_true X,<-zR z];obtain rfl:=Option.some.inj hx;exact h m B
end
section
noncomputable def Rl(d:D):Prop:= ∀n,cV n d=false
theorem Rl.tup{xs:List D}:Rl (.tup xs):= λn=>by rcases n with _|_<;>rfl
theorem Rl.bytes{b:List UInt8}:Rl (.bytes b):= λn=>by rcases n with _|_<;>rfl
theorem Rl.str{b:List Nat}:Rl (.str b):= λn=>by rcases n with _|_<;>rfl
theorem Rl.int{b:Int}:Rl (.int b):= λn=>by rcases n with _|_<;>rfl
theorem Rl.bool{b:Bool}:Rl (.bool b):= λn=>by rcases n with _|_<;>rfl
theorem Rl.none:Rl .none:= λn=>by rcases n with _|_<;>rfl
theorem Rl.fn{b:Nat}:Rl (.fn b):= λn=>by rcases n with _|_<;>rfl
theorem Rl.obj{C:Nat}{fs:List (Str×D)}:Rl (.obj C fs):= λn=>by rcases n with _|_<;>rfl
theorem Rl.dN{fs:List (List Nat×D)}:Rl (.dN fs):= λn=>by rcases n with _|_<;>rfl
theorem Rl.seg{d:D}(h:Rl d):aC d=false:=cY (zl (h 1))
theorem Rl.lst{xs:List D}(h: ∀d∈xs,Rl d):Rl (.lst xs):= λn=>by
 rcases n with _|n
 .rfl
 .show(aG xs||xs.any (cV n))=false;rw[bk.mpr λx m=>(h x m).seg,Bool.false_or,List.any_eq_false];intro x m;rw[h x m n];decide
noncomputable def kK(d:D):Prop:= ∀n,4<=n->fQ n d d=some true
noncomputable def DJ(c:UInt8)(bs:List (List UInt8))(ls:List (List D))(l7:List (List UInt8))(u:List (List D))(os:List D):Val where
 B k:=bs.getD k []
 L k:=if k=7 then l7.map .bytes else if k<500 then ls.getD k [] else u.getD (k-500) []
 O k:=if k<100 then os.getD k .none else .int (c.toNat:Nat)
 C _:=c
noncomputable abbrev cb:=DJ 65
theorem ag{z:Type}{P:z->Prop}: ∀x∈([]:List z),P x:= λB m=>nomatch m
theorem iz{z:Type}{P:z->Prop}{xs:List z}{d:z}(h: ∀x∈xs,P x)(hd:P d)(k:Nat):P (xs.getD k d):=by
 rw[List.getD_eq_getElem?_getD];rcases e:xs[k]? with _|x
 .exact hd
 .exact h x (List.mem_of_getElem? e)
set_option tactic.hygienic true in
theorem ug(c:UInt8)(b:List UInt8):(aX c b).length<=b.length+1:=by
 induction b with
 |nil=>exact Nat.le_refl _
 |cons x r B=>
  unfold aX;split
  .show(aX c r).length+1<=r.length+1+1;exact aj B
  .split
   .show 1<=r.length+1+1;simp+arith only
   .rename_i e;rw[e] at B;simp only[List.length_cons] at B⊢;exact aj B
theorem zS{c:UInt8}(hw:c≠32/\c≠9){bs:List (List UInt8)}{ls:List (List D)}{l7:List (List UInt8)}{O:List (List D)}{os:List D}(X: ∀b∈bs,b.length<big)(H: ∀l∈ls,l.length<big/\ ∀d∈l,Rl d)
  (h7:l7.length<big/\(dj [44] l7).length<big) (hc: ∀l∈O,l.length<big/\ ∀d∈l,Rl d/\kK d) (ho: ∀d∈os,Rl d):(DJ c bs ls l7 O os).Ok:=by
 have kb: ∀k,(bs.getD k []).length<big:=iz (P:= λ(b:List UInt8)=>b.length<big) X (by decide);have j7:(l7.map D.bytes).filterMap bH=l7:=by
  clear h7;induction l7 with
  |nil=>rfl
  |cons x r ih=>exact congrArg (x:: ·) ih
 have kL: ∀k,((DJ c bs ls l7 O os).L k).length<big/\ ∀d∈(DJ c bs ls l7 O os).L k,Rl d:= λk=>by
  show(if k=7 then l7.map D.bytes else if k<500 then ls.getD k [] else O.getD (k-500) []).length<big/\ ∀d∈(if k=7 then l7.map D.bytes else if k<500 then ls.getD k [] else O.getD (k-500) []),Rl d;split
  .refine⟨by rw[List.length_map];exact h7.1,λd m=> ?_⟩;obtain⟨x,_,rfl⟩:=List.mem_map.mp m;exact Rl.bytes
  .split
   .exact iz (P:= λ(l:List D)=>l.length<big/\ ∀d∈l,Rl d) H ⟨by decide,ag⟩ k
   .exact iz (P:= λ(l:List D)=>l.length<big/\ ∀d∈l,Rl d) (λl m=>⟨(hc l m).1,λd u=>((hc l m).2 d u).1⟩) ⟨by decide,ag⟩ (k-500)
 have kl: ∀k,((DJ c bs ls l7 O os).l k).length<=big/\ ∀d∈(DJ c bs ls l7 O os).l k,Rl d:= λk=>by
  unfold Val.l;split
  .exact⟨Nat.le_of_lt (kL k).1,(kL k).2⟩
  .refine⟨?_,λd m=> ?_⟩
   .rw[List.length_map];exact Nat.le_trans (ug _ _) (kb _)
   .obtain⟨x,_,rfl⟩:=List.mem_map.mp m;exact Rl.bytes
 refine⟨λk=> ?_,λk=>(kl k).1,λk d m=>(kl k).2 d m,λk=> ?_,λk h5 h1 d m=> ?_,λd m=> ?_,λk=>if_neg (by exact Nat.not_lt_of_le (by simp+arith only)),λB=>hw⟩
 .unfold Val.b;split
  .exact Nat.le_of_lt (kb k)
  .show(dj [44] ((l7.map D.bytes).filterMap bH)).length<=big;rw[j7];exact Nat.le_of_lt h7.2
 .show Rl (if k<100 then os.getD k .none else .int (c.toNat:Nat));split
  .exact iz (P:=Rl) ho Rl.none k
  .exact Rl.int
 .have e:(DJ c bs ls l7 O os).L k=O.getD (k-500) []:=(if_neg (λz=>absurd (z▸h5) (by decide))).trans (if_neg (by exact Nat.not_lt_of_le (aj h5)));rw[e] at m;exact(iz (P:= λ(l:List D)=> ∀d∈l,kK d) (λl m d u=>((hc l m).2 d u).2) ag (k-500)) d m
 .obtain⟨x,_,rfl⟩:=List.mem_map.mp m;exact⟨x,rfl⟩
theorem a_{bs:List (List UInt8)}{ls:List (List D)}{l7:List (List UInt8)}{O:List (List D)}{os:List D}(X: ∀b∈bs,b.length<big)(H: ∀l∈ls,l.length<big/\ ∀d∈l,Rl d)
  (u:l7.length<big/\(dj [44] l7).length<big) (B: ∀l∈O,l.length<big/\ ∀d∈l,Rl d/\kK d) (z: ∀d∈os,Rl d):(cb bs ls l7 O os).Ok:=zS (by decide) X H u B z
theorem ah{z:Type}{P:z->Prop}{a:z}(h:P a): ∀x∈[a],P x:= λx m=>by rw[List.mem_singleton.mp m];exact h
theorem aa{z:Type}{P:z->Prop}{a:z}{r:List z}(h:P a)(t: ∀x∈r,P x): ∀x∈a::r,P x:= λx m=>(List.mem_cons.mp m).elim (λe=>e▸h) (t x)
noncomputable def fz(s:Stmt):Bool:=uG s false (wh:= λB B e=>e.isEmpty)
noncomputable def r7(s:Stmt):Bool:=uG s false (fr:= λB B B e=>e.isEmpty)
theorem qh{i j:Nat}{f:Stmt->Bool}(H:f (.Pass default)=false)(h:f (aV i j)=true):(gf i).body=ahead i j++aV i j::behind i j/\(ahead i j).length=j:=by
 delta aV at h⊢
 delta ahead behind
 rcases e:(gf i).body[j]? with _|s
 .rw[e] at h;rw[show((none:Option Stmt).getD (.Pass default))= .Pass default from rfl,H] at h;cases h
 .have X:=(List.getElem?_eq_some_iff.mp e).1;have hs:=(List.getElem?_eq_some_iff.mp e).2;refine⟨?_,by rw[List.length_take];omega⟩;show _=_++s::_;rw[<-hs,<-List.drop_eq_getElem_cons X,List.take_append_drop]
theorem zT{i j:Nat}(h:fz (aV i j)=true){c:Nat->List MV->Res (MV×MV)}{k:Nat}{ss:List Stmt}{l:Loc}:
  aw (k+1) (xO c i) (aV i j::ss) l=(bg (wT c i j k) (wB c i j k) 3000 l).bind λ(f,l)=>match f with
   | .next=>aw k (xO c i) ss l
   |f=>.ok (f,l):=by
 show(fY (xO c i) (ak k (xO c i)) (bT k (xO c i)) (aw k (xO c i)) (aV i j) l).bind _=_
 delta wT wB
 rcases e:aV i j with _|_|_|_|_|_|_|_|_|_|_|⟨t,b,u,p⟩|_|_|_|_|_|_|_|_|_|_|_|_|_|_|_|_<;>try(rw[e] at h;cases h;done)
 .rw[e] at h;have:fY (xO c i) (ak k (xO c i)) (bT k (xO c i)) (aw k (xO c i)) (.While t b u p) l=bg (bT k (xO c i) t) (aw k (xO c i) b) 3000 l:=if_pos h;rw[this];rfl
theorem nx{i j k:Nat}(h:fz (aV i j)=true)(hk:j+k+1=60){c:Nat->List MV->Res (MV×MV)}{l l1:Loc}(e:aw 60 (xO c i) (ahead i j) l= .ok (.next,l1)):
  aw 60 (xO c i) (gf i).body l=(bg (wT c i j k) (wB c i j k) 3000 l1).bind λ(f,l)=>match f with
   | .next=>aw k (xO c i) (behind i j) l
   |f=>.ok (f,l):=by
 obtain⟨h1,h2⟩:=qh (f:=fz) rfl h;rw[h1,<-zT h];have u:aw ((ahead i j).length+k+1) (xO c i) (ahead i j) l= .ok (.next,l1):=by rw[h2,hk];exact e
 have:=dH (ahead i j) (rest:=aV i j::behind i j) u;rw[h2,hk] at this;exact this
section
variable{i j k:Nat}(h:fz (aV i j)=true)(hk:j+k+1=60){c:Nat->List MV->Res (MV×MV)}{l l1 l2:Loc}(e:aw 60 (xO c i) (ahead i j) l= .ok (.next,l1))
include h hk e
theorem i6{r:Res (Fl×Loc)}(h2:bg (wT c i j k) (wB c i j k) 3000 l1= .ok (.next,l2))(X:aw k (xO c i) (behind i j) l2=r):aw 60 (xO c i) (gf i).body l=r:=by
 rw[nx h hk e,h2];exact X
theorem jY{v:MV}(h2:bg (wT c i j k) (wB c i j k) 3000 l1= .ok (.ret v,l2)):aw 60 (xO c i) (gf i).body l= .ok (.ret v,l2):=by
 rw[nx h hk e,h2];rfl
theorem qi(h2:bg (wT c i j k) (wB c i j k) 3000 l1= .exc):aw 60 (xO c i) (gf i).body l= .exc:=by
 rw[nx h hk e,h2];rfl
end
theorem DK{b:Bool}(h:(!b)=true):b=false:=by
 cases b
 .rfl
 .cases h
noncomputable def r8(X:Cx)(s:Stmt):Bool:=r7 s&&(!(pinned X (n6 s)|| !bq X (n6 s))&&(cJ X (qf s)).isNone)
theorem E8{c:Nat->List MV->Res (MV×MV)}{i j k:Nat}(h:r8 (xO c i) (aV i j)=true){ss:List Stmt}{l l1:Loc}{d:D}{items:List D}(h1:aF (ak k (xO c i)) (qf (aV i j)) l= .ok (d,l1))(h2:itemsOf d=some items):
  aw (k+1) (xO c i) (aV i j::ss) l=(forL (n6 (aV i j)) (wB c i j k) items l1).bind λ(f,l)=>match f with
   | .next=>aw k (xO c i) ss l
   |f=>.ok (f,l):=by
 show(fY (xO c i) (ak k (xO c i)) (bT k (xO c i)) (aw k (xO c i)) (aV i j) l).bind _=_;unfold wB;obtain⟨X,O⟩:=Bool.and_eq_true_iff.mp h;obtain⟨O,B⟩:=Bool.and_eq_true_iff.mp O;rcases e:aV i j with _|_|_|_|_|_|_|_|_|⟨t,z,b,ac,p⟩|_|_|_|_|_|_|_|_|_|_|_|_|_|_|_|_|_|_<;>try(rw[e] at X;cases X;done)
 .rw[e] at h1 X O B;have u:fY (xO c i) (ak k (xO c i)) (bT k (xO c i)) (aw k (xO c i)) (.For t z b ac p) l=lC (xO c i) (ak k (xO c i)) (aw k (xO c i) b) t z l:=if_pos X;have H:lC (xO c i) (ak k (xO c i)) (aw k (xO c i) b) t z l=forL t (aw k (xO c i) b) items l1:=by
   unfold lC;have O:(pinned (xO c i) t|| !bq (xO c i) t)=false:=DK O;have B:(cJ (xO c i) z).isNone=true:=B;rw[O,Option.isNone_iff_eq_none.mp B];show(aF (ak k (xO c i)) z l).bind _=_;rw[show aF (ak k (xO c i)) z l= .ok (d,l1) from h1];show(Res.of (itemsOf d)).bind _=_;rw[h2];rfl
  rw[u,H];rfl
section
variable{i j k:Nat}{c:Nat->List MV->Res (MV×MV)}(h:r8 (xO c i) (aV i j)=true)(hk:j+k+1=60){l l0 l1 l2:Loc}{d:D}{items:List D}(e:aw 60 (xO c i) (ahead i j) l= .ok (.next,l0))
 (h1:aF (ak k (xO c i)) (qf (aV i j)) l0= .ok (d,l1)) (h2:itemsOf d=some items)
include h hk e h1 h2
theorem zU{r:Res (Fl×Loc)}(X:((forL (n6 (aV i j)) (wB c i j k) items l1).bind λ(f,l)=>match f with
   | .next=>aw k (xO c i) (behind i j) l
   |f=>.ok (f,l))=r):aw 60 (xO c i) (gf i).body l=r:=by
 have H:r7 (aV i j)=true:=(Bool.and_eq_true_iff.mp h).1;obtain⟨z,B⟩:=qh (f:=r7) rfl H;rw[z,<-X,<-E8 h h1 h2];have u:aw ((ahead i j).length+k+1) (xO c i) (ahead i j) l= .ok (.next,l0):=by rw[B,hk];exact e
 have:=dH (ahead i j) (rest:=aV i j::behind i j) u;rw[B,hk] at this;exact this
theorem iA{r:Res (Fl×Loc)}(X:forL (n6 (aV i j)) (wB c i j k) items l1= .ok (.next,l2))(O:aw k (xO c i) (behind i j) l2=r):aw 60 (xO c i) (gf i).body l=r:=
 zU h hk e h1 h2 (by rw[X];exact O)
theorem ny{v:MV}(X:forL (n6 (aV i j)) (wB c i j k) items l1= .ok (.ret v,l2)):aw 60 (xO c i) (gf i).body l= .ok (.ret v,l2):=
 zU h hk e h1 h2 (by rw[X];rfl)
end
theorem nz{t:Expr}{b:Loc->Res (Fl×Loc)}{d:D}{ds:List D}{l l1 l2:Loc}(h:ay l t d= .ok l1)(X:b l1= .ok (.next,l2)):forL t b (d::ds) l=forL t b ds l2:=by
 show(ay l t d).bind _=_;rw[h];show(b l1).bind _=_;rw[X];rfl
theorem vi{t:Expr}{b:Loc->Res (Fl×Loc)}{d:D}{ds:List D}{l l1 l2:Loc}{v:MV}(h:ay l t d= .ok l1)(X:b l1= .ok (.ret v,l2)):forL t b (d::ds) l= .ok (.ret v,l2):=by
 show(ay l t d).bind _=_;rw[h];show(b l1).bind _=_;rw[X];rfl
noncomputable def nB(t:Expr)(b:Loc->Res (Fl×Loc)):List D->Loc->Res Loc
 |[],l=>.ok l
 |d::ds,l=>(ay l t d).bind λl=>(b l).bind λ(f,l)=>match f with
   | .next=>nB t b ds l
   | .cont=>nB t b ds l
   | .brk=>.stuck
   | .ret _=>.stuck
theorem E9{ρ:Val}(H:ρ.Ok)(t:Expr){b b':Loc->Res (Fl×Loc)}(X:GK ρ b b'): ∀(ds:List D) (l:Loc),Sm (ax ρ) (nB t b ds l) (nB t b' (ds.map (gD ρ)) (ax ρ l)):=by
 intro z;induction z with
 |nil=>
  intro l;exact Sm.ok
 |cons d ds u=>
  intro l;exact Sm.bind (eN H t d l) λl=>Sm.bind (X l) λq=>by
    obtain⟨O,l⟩:=q;rcases O with _|v|_|_
    .exact u l
    .exact Sm.stuck
    .exact Sm.stuck
    .exact u l
theorem kM{t:Expr}{b:Loc->Res (Fl×Loc)}: ∀{xs ys:List D} {l l1:Loc},nB t b xs l= .ok l1->forL t b (xs++ys) l=forL t b ys l1
 |[],ys,l,l1,h=>by cases h;rfl
 |x::xs,ys,l,l1,h=>by
  have h:(ay l t x).bind (λl=>(b l).bind λ(f,l)=>match f with
   | .next=>nB t b xs l
   | .cont=>nB t b xs l
   | .brk=>.stuck
   | .ret _=>.stuck)= .ok l1:=h
  show(ay l t x).bind (λl=>(b l).bind λ(f,l)=>match f with
   | .next=>forL t b (xs++ys) l
   | .cont=>forL t b (xs++ys) l
   | .brk=>.ok (.next,l)
   | .ret v=>.ok (.ret v,l))=_
  rcases e:ay l t x with _|_|l2
  .rw[e] at h;cases h
  .rw[e] at h;cases h
  .rw[e] at h;replace h:(b l2).bind (λ(f,l)=>match f with
    | .next=>nB t b xs l
    | .cont=>nB t b xs l
    | .brk=>.stuck
    | .ret _=>.stuck)= .ok l1:=h
   show(b l2).bind (λ(f,l)=>match f with
    | .next=>forL t b (xs++ys) l
    | .cont=>forL t b (xs++ys) l
    | .brk=>.ok (.next,l)
    | .ret v=>.ok (.ret v,l))=_
   rcases e2:b l2 with _|_|p
   .rw[e2] at h;cases h
   .rw[e2] at h;cases h
   .rw[e2] at h;obtain⟨f,u⟩:=p;rcases f with _|v|_|_
    .exact kM h
    .cases h
    .cases h
    .exact kM h
inductive Rw where
 |a|b|c|d|e|f|g
 deriving DecidableEq
noncomputable abbrev n8:=List Nat×List UInt8×Int
noncomputable def dn:List Nat:=[97,116,111,109]
noncomputable def cN:List Nat:=[115,105,103,110]
noncomputable def DL:List Nat:=[113,117,111,116,101,100]
noncomputable def HL:List Nat:=[108,105,116,101,114,97,108]
noncomputable def r9:List Nat:=[99,111,109,109,101,110,116]
noncomputable def Rw.body:Rw->List UInt8
 |a=>[106,64,120,46,111,114,103]
 |b=>[74,111,32,66,32,60,107,64,121,62,32,44]
 |c=>[34,65,44,32,92,34,66,34,32,40,99,32,40,100,41,41,32,60,64,114,44,64,115,58,108,64,91,49,46,50,93,62,44,32,109,32,64,32,122]
 |d=>[117,115,58,32,110,64,111,44,32,112,64,113,59]
 |e=>[110,111,110,101,58,59]
 |f=>[110,111,32,111,110,101]
 |g=>[]
noncomputable def Rw.toks:Rw->List n8
 |a=>[(dn,[106],0),(cN,[64],1),(dn,[120],2),(cN,[46],3),(dn,[111,114,103],4)]
 |b=>[(dn,[74,111],0),(dn,[66],3),(cN,[60],5),(dn,[107],6),(cN,[64],7),(dn,[121],8),(cN,[62],9),(cN,[44],11)]
 |c=>[(DL,[65,44,32,34,66],0),(r9,[99,32,40,100,41],9),(cN,[60],17),(cN,[64],18),(dn,[114],19),(cN,[44],20),(cN,[64],21),(dn,[115],22),(cN,[58],23),(dn,[108],24),(cN,[64],25),(HL,[49,46,50],26),(cN,[62],31),(cN,[44],32),(dn,[109],34),(cN,[64],36),(dn,[122],38)]
 |d=>[(dn,[117,115],0),(cN,[58],2),(dn,[110],4),(cN,[64],5),(dn,[111],6),(cN,[44],7),(dn,[112],9),(cN,[64],10),(dn,[113],11),(cN,[59],12)]
 |e=>[(dn,[110,111,110,101],0),(cN,[58],4),(cN,[59],5)]
 |f=>[(dn,[110,111],0),(dn,[111,110,101],3)]
 |g=>[]
noncomputable def bA(p:Nat)(t:n8):D:=.tup [.str t.1,.bytes t.2.1,.int (t.2.2+(p:Nat))]
noncomputable def iB(s:Nat)(t:n8):D:=.tup [.str t.1,.bytes t.2.1,.si t.2.2 [s]]
noncomputable def Rw.comma(r:Rw):n8:=(cN,[44],(r.body.length:Nat))
end
section
noncomputable def St(q:List UInt8):Prop:=q=[]\/ ∃c t,q=c::t/\c∈([106,74,34,117,110,44]:List UInt8)
theorem d8(p:Nat):(0:Int)+(p:Nat)=(p:Nat):=Int.zero_add _
noncomputable def oA(c:UInt8):D:=.sb [.s 0,.b c,.s 1]
noncomputable def oE:D:=.sb [.s 0]
noncomputable def iZ:D:=.si 0 [0]
theorem JG:aE vg 4 3700 [.d oE,.d iZ]= .ok (.d iZ,.d oE):=by kernel_rfl
theorem JH(c:UInt8)(h:c∈([106,74,34,117,110,44]:List UInt8)):aE vg 4 3700 [.d (oA c),.d iZ]= .ok (.d iZ,.d (oA c)):=by
 have all: ∀c∈([106,74,34,117,110,44]:List UInt8),aE vg 4 3700 [.d (oA c),.d iZ]= .ok (.d iZ,.d (oA c)):=
  aa (by kernel_rfl) (aa (by kernel_rfl) (aa (by kernel_rfl) (aa (by kernel_rfl) (aa (by kernel_rfl) (aa (by kernel_rfl) ag)))))
 exact all c h
noncomputable abbrev vB(p q:List UInt8):Val:=cb [p,q] [] [] [] []
theorem zV{p q:List UInt8}(hp:p.length<big)(hq:q.length<big):(vB p q).Ok:=
 a_ (aa hp (ah hq)) ag (by decide) ag ag
theorem fh{p q:List UInt8}(hp:p.length<big)(hq:q.length<big)(h:St q){m:Nat}(hm:4<=m):az m 3700 [.d (.bytes (p++q)),.d (.int (p.length:Nat))]= .ok (.d (.int (p.length:Nat)),.d (.bytes (p++q))):=by
 rcases h with rfl|⟨c,t,rfl,B⟩
 .have h:=(bK (zV hp hq) (rY (d:=0)) hm JG).1 _ rfl;have e:gD (vB p []) oE= .bytes (p++[]):=rfl;have H:gD (vB p []) iZ= .int (p.length:Nat):=congrArg D.int (d8 _);simp only[List.map_cons,List.map_nil,gR,gM,e,H] at h;exact h
 .have u:t.length<big:=Nat.lt_of_succ_lt hq;have h:=(bK (zV hp u) (rY (d:=0)) hm (JH c B)).1 _ rfl;have e:gD (vB p t) (oA c)= .bytes (p++c::t):=by
   show D.bytes (p++c::(t++[]))=_;rw[List.append_nil]
  have H:gD (vB p t) iZ= .int (p.length:Nat):=congrArg D.int (d8 _);simp only[List.map_cons,List.map_nil,gR,gM,e,H] at h;exact h
noncomputable def eP(o:D)(F:List D)(a:D)(tl:Loc):Loc:=("octets",.d o)::("found",.own (.lst F))::("at",.d a)::tl
noncomputable def DM:Bool->Loc
 |false=>[]
 |true=>[("token",.d (.aq 0))]
noncomputable def oN(r:Rw):D:=.sb (.s 0::(r.body.map .b++[.b 44,.s 1]))
noncomputable def oL(r:Rw):D:=.sb (.s 0::r.body.map .b)
noncomputable def Kl(r:Rw):Rows:=[(3700,[.d (oN r),.d (.si ((r.body.length:Nat)+1) [0])],.ok (.d (.si ((r.body.length:Nat)+1) [0]),.d (oN r)))]
noncomputable def Km(r:Rw):Loc:=match r.toks.getLast? with
 |some t=>[("token",.d (iB 0 t))]
 |none=>[]
theorem HM(r:Rw)(t:Bool):steps (wT (aE (tabOf (Kl r)) 5) 3800 2 50) (wB (aE (tabOf (Kl r)) 5) 3800 2 50) (r.toks.length+1) (eP (oN r) [.seg 2] iZ (DM t))=
  .ok (eP (oN r) (.seg 2::(r.toks.map (iB 0)++[iB 0 r.comma])) (.si ((r.body.length:Nat)+1) [0]) [("token",.d (iB 0 r.comma))]):=by
 rcases r with _|_<;>rcases t with _|_<;>kernel_rfl
theorem HN(r:Rw)(t:Bool):steps (wT (aE (tabOf []) 5) 3800 2 50) (wB (aE (tabOf []) 5) 3800 2 50) r.toks.length (eP (oL r) [.seg 2] iZ (DM t))=
  .ok (eP (oL r) (.seg 2::r.toks.map (iB 0)) (.si (r.body.length:Nat) [0]) (match r.toks.getLast? with
   |some t=>[("token",.d (iB 0 t))]
   |none=>DM t)):=by
 rcases r with _|_<;>rcases t with _|_<;>kernel_rfl
theorem HO(t:Bool):wT (aE (tabOf []) 5) 3800 2 50 (eP oE [.seg 2] iZ (DM t))= .ok (false,eP oE [.seg 2] iZ (DM t)):=by
 rcases t with _|_<;>kernel_rfl
noncomputable def gg:List Rw->Nat->List D
 |[],_=>[]
 |r::O,p=>match O with
  |[]=>r.toks.map (bA p)
  |_::_=>(r.toks.map (bA p)++[bA p r.comma])++gg O (p+(r.body.length+1))
noncomputable abbrev vT(p q:List UInt8)(F:List D)(x:D):Val:=cb [p,q] [[],[],F] [] [] [x]
theorem zW{p q:List UInt8}{F:List D}{x:D}(hp:p.length<big)(hq:q.length<big)(hF:F.length<big/\ ∀d∈F,Rl d)(hx:Rl x):(vT p q F x).Ok:=
 a_ (aa hp (ah hq)) (aa ⟨by decide,ag⟩ (aa ⟨by decide,ag⟩ (ah hF))) (by decide) ag (ah hx)
theorem zX{p q:List UInt8}{F:List D}{x:D}(z:List n8):gL (vT p q F x) (z.map (iB 0))=z.map (bA p.length):=by
 induction z with
 |nil=>rfl
 |cons t r B=>exact congrArg (bA p.length t:: ·) B
theorem jZ{ρ:Val}(b:List UInt8)(r:List BI):ρ.oct (b.map .b++r)=b++ρ.oct r:=by rw[mZ,rM]
noncomputable def zY(tl:Loc):Prop:=tl=[]\/ ∃x,Rl x/\tl=[(("token":Str),MV.d x)]
theorem qj{tl:Loc}(h:zY tl): ∃t x,Rl x/\ ∀p q F,ax (vT p q F x) (DM t)=tl:=by
 rcases h with rfl|⟨x,hx,rfl⟩
 .exact⟨false,.none,Rl.none,λB B B=>rfl⟩
 .exact⟨true,x,hx,λB B B=>rfl⟩
theorem iC{p:Nat}{t:n8}:Rl (bA p t):=Rl.tup
theorem iD: ∀(O:List Rw) (p:Nat),∀d∈gg O p,Rl d
 |[],p,d,m=>nomatch m
 |[r],p,d,m=>by
  obtain⟨t,_,rfl⟩:=List.mem_map.mp m;exact iC
 |r::z::O,p,d,m=>by
  rcases List.mem_append.mp (show d∈(r.toks.map (bA p)++[bA p r.comma])++gg (z::O) (p+(r.body.length+1)) from m) with m|m
  .rcases List.mem_append.mp m with m|m
   .obtain⟨t,_,rfl⟩:=List.mem_map.mp m;exact iC
   .rw[List.mem_singleton.mp m];exact iC
  .exact iD (z::O) _ d m
noncomputable abbrev ba(rs:List Rw):List UInt8:=dj [44] (rs.map Rw.body)
theorem fA(r z:Rw)(O:List Rw):ba (r::z::O)=r.body++44::ba (z::O):=by
 show r.body++[44]++ba (z::O)=_;rw[List.append_assoc];rfl
theorem o8: ∀(O:List Rw),St (ba O)
 |[]=>.inl rfl
 |[r]=>by
  cases r with
  |g=>exact .inl rfl
  |_=>exact .inr ⟨_,_,rfl,by decide⟩
 |r::z::O=>by
  rw[fA];rcases r with _|_<;>exact .inr ⟨_,_,rfl,by decide⟩
theorem gG(r:Rw):r.body.length<=39/\r.toks.length<=17:=by rcases r with _|_<;>decide
theorem jo(ρ:Val)(o:D)(F:List D)(a:D)(tl:Loc):ax ρ (eP o F a tl)=eP (gD ρ o) (gL ρ F) (gD ρ a) (ax ρ tl):=rfl
section
variable{m k:Nat}(hm:9<=m)(hk:50<=k){p q:List UInt8}{F:List D}{tl:Loc}(hp:p.length<big)(hq:q.length<big)(hF:F.length<big/\ ∀d∈F,Rl d)(htl:zY tl)
include hm hk hp hF htl
theorem uh(r:Rw): ∃B,zY B/\steps (wT (az m) 3800 2 k) (wB (az m) 3800 2 k) r.toks.length (eP (.bytes (p++r.body)) F (.int (p.length:Nat)) tl)= .ok (eP (.bytes (p++r.body)) (F++r.toks.map (bA p.length)) (.int ((p++r.body).length:Nat)) B):=by
 refine hide λP9 O=> ?_;obtain⟨t,x,hx,e⟩:=qj htl;refine O ?_;have H:=zW (q:=[]) hp (by decide) hF hx;have u:=(eV H (aB (d:=4)) (n:=5) (m:=m) (by exact aj hm) hk (HN r t)).1 _ rfl;rw[jo,jo,e] at u;have z:gD (vT p [] F x) (oL r)= .bytes (p++r.body):=by
  show D.bytes (p++(vT p [] F x).oct (r.body.map .b))=_;rw[rM]
 have ea:gD (vT p [] F x) iZ= .int (p.length:Nat):=congrArg D.int (d8 _);have al:gD (vT p [] F x) (.si (r.body.length:Nat) [0])= .int ((p++r.body).length:Nat):=by
  show D.int ((r.body.length:Nat)+(p.length:Nat))=_;rw[List.length_append];congr 1;(simp+arith only[Int.natCast_add];done)
 have X:gL (vT p [] F x) [.seg 2]=F:=List.append_nil F;have ac:gL (vT p [] F x) (.seg 2::r.toks.map (iB 0))=F++r.toks.map (bA p.length):=by
  rw[bt,zX];rfl
 rw[z,ea,al,X,ac] at u;refine⟨_,?_,u⟩;rcases r.toks.getLast? with _|t
 .dsimp only;rw[e];exact htl
 .exact .inr ⟨bA p.length t,iC,rfl⟩
include hq in
theorem ui(r:Rw)(hs:St q)(X:(p++(r.body++44::q)).length<big): ∃B,zY B/\steps (wT (az m) 3800 2 k) (wB (az m) 3800 2 k) (r.toks.length+1) (eP (.bytes (p++(r.body++44::q))) F (.int (p.length:Nat)) tl)=
  .ok (eP (.bytes (p++(r.body++44::q))) (F++(r.toks.map (bA p.length)++[bA p.length r.comma])) (.int ((p++(r.body++[44])).length:Nat)) B):=by
 refine hide λP9 O=> ?_;obtain⟨t,x,hx,e⟩:=qj htl;refine O ?_;have H:=zW (q:=q) hp hq hF hx;have z:gD (vT p q F x) (oN r)= .bytes (p++(r.body++44::q)):=by
  show D.bytes (p++(vT p q F x).oct (r.body.map .b++[.b 44,.s 1]))=_;rw[jZ];show D.bytes (p++(r.body++44::(q++[])))=_;rw[List.append_nil]
 have ea:gD (vT p q F x) iZ= .int (p.length:Nat):=congrArg D.int (d8 _);have ac:gD (vT p q F x) (.si ((r.body.length:Nat)+1) [0])= .int ((p++(r.body++[44])).length:Nat):=by
  show D.int ((r.body.length:Nat)+1+(p.length:Nat))=_;rw[List.length_append,List.length_append];congr 1;simp only[List.length_singleton];exact Int.add_comm _ _
 have am:cM (vT p q F x) 4 (3700,[.d (oN r),.d (.si ((r.body.length:Nat)+1) [0])],.ok (.d (.si ((r.body.length:Nat)+1) [0]),.d (oN r))):= λm hm=>by
  have h:=fh (p:=p++(r.body++[44])) (q:=q) (by simp only[List.length_append,List.length_cons,List.length_nil] at X⊢;exact aj X) hq hs hm;rw[show p++(r.body++[44])++q=p++(r.body++44::q) by simp] at h;simp only[List.map_cons,List.map_nil,gM,z,ac];rw[h];exact Sm.lI (by simp only[gR,gM,z,ac])
 have u:=(eV H (av am aB) (n:=5) (m:=m) (by exact aj hm) hk (HM r t)).1 _ rfl;rw[jo,jo,e] at u;have eF:gL (vT p q F x) [.seg 2]=F:=List.append_nil F;have al:gL (vT p q F x) (.seg 2::(r.toks.map (iB 0)++[iB 0 r.comma]))=F++(r.toks.map (bA p.length)++[bA p.length r.comma]):=by
  rw[bt,dS,zX];rfl
 rw[z,ea,ac,eF,al] at u;exact⟨_,.inr ⟨bA p.length r.comma,iC,rfl⟩,u⟩
theorem zZ:wT (az m) 3800 2 k (eP (.bytes p) F (.int (p.length:Nat)) tl)= .ok (false,eP (.bytes p) F (.int (p.length:Nat)) tl):=by
 obtain⟨t,x,hx,e⟩:=qj htl;have H:=zW (q:=[]) hp (by decide) hF hx;have u:=(zO H (aB (d:=4)) (n:=5) (m:=m) (i:=3800) (j:=2) (by exact aj hm) hk (eP oE [.seg 2] iZ (DM t))).1 _ (HO t);have z:gD (vT p [] F x) oE= .bytes p:=congrArg D.bytes (List.append_nil p);have B:gD (vT p [] F x) iZ= .int (p.length:Nat):=congrArg D.int (d8 _);have X:gL (vT p [] F x) [.seg 2]=F:=List.append_nil F;rw[jo,e,z,B,X] at u;refine u.trans ?_;show Res.ok (false,ax _ (eP oE [.seg 2] iZ (DM t)))=_;rw[jo,e,z,B,X]
end
theorem o9{t:Loc->Res (Bool×Loc)}{b:Loc->Res (Fl×Loc)}{n:Nat}{l:Loc}(h:t l= .ok (false,l)):bg t b (n+1) l= .ok (.next,l):=by
 show(t l).bind _=_;rw[h];rfl
theorem w6{m k:Nat}(hm:9<=m)(hk:50<=k): ∀(O:List Rw) (r:Rw) (p:List UInt8) (F:List D) (tl:Loc) (n:Nat),(p++ba (r::O)).length<big->F.length+20*O.length+20<big->(∀d∈F,Rl d)->zY tl->20*O.length+20<=n->
  ∃B,bg (wT (az m) 3800 2 k) (wB (az m) 3800 2 k) n (eP (.bytes (p++ba (r::O))) F (.int (p.length:Nat)) tl)=
   .ok (.next,eP (.bytes (p++ba (r::O))) (F++gg (r::O) p.length) (.int ((p++ba (r::O)).length:Nat)) B):=by
 intro l9;induction l9 with
 |nil=>
  intro r p F tl n X hF hR htl hn;have H:=gG r;have hp:p.length<big:=by rw[List.length_append] at X;exact aj X
  obtain⟨B,am,u⟩:=uh hm hk hp ⟨by exact aj hF,hR⟩ htl r;have z:=zZ hm hk (p:=p++r.body) (F:=F++r.toks.map (bA p.length)) X ⟨by rw[List.length_append,List.length_map];simp only[List.length_nil] at hF;exact bp hF H.2,λd md=>(List.mem_append.mp md).elim (hR d) λmd=>iD [r] p.length d md⟩ am;obtain⟨n,rfl⟩: ∃j,n=(j+1)+r.toks.length:=⟨n-(r.toks.length+1),by rw[Nat.add_assoc,Nat.add_comm 1];exact dM (by exact bp H.2 hn)⟩
  exact⟨B,(dA _ u).trans (o9 z)⟩
 |cons r' O a0=>
  intro r p F tl n X hF hR htl hn;have H:=gG r;rw[fA] at X⊢;have al:=X;simp only[List.length_append,List.length_cons] at al hF hn;obtain⟨B,am,u⟩:=ui hm hk (q:=ba (r'::O)) (by exact aj al) (by exact aj al) ⟨by exact aj hF,hR⟩ htl r (o8 _) X;obtain⟨n,rfl⟩: ∃j,n=j+(r.toks.length+1):=⟨n-(r.toks.length+1),by exact dM (bp hn H.2)⟩
  have e1:p++(r.body++[44])++ba (r'::O)=p++(r.body++44::ba (r'::O)):=by simp
  obtain⟨a1,z⟩:=a0 r' (p++(r.body++[44])) (F++(r.toks.map (bA p.length)++[bA p.length r.comma])) B n (by rw[e1];exact X) (by simp only[List.length_append,List.length_map,List.length_singleton];exact bp hF H.2)
   (λd md=>(List.mem_append.mp md).elim (hR d) λmd=>by
    rcases List.mem_append.mp md with md|md
    .exact iD [r] p.length d md
    .rw[List.mem_singleton.mp md];exact iC) am (by exact bp H.2 hn)
  rw[e1] at z;refine⟨a1,(dA _ u).trans (z.trans ?_)⟩;have e2:(p++(r.body++[44])).length=p.length+(r.body.length+1):=by simp
  rw[e2,List.append_assoc];rfl
theorem Cy:aw 60 (xO (aE (tabOf [(3700,[.d oE,.d (.int 0)],.ok (.d (.int 0),.d oE))]) 3) 3800) (ahead 3800 2) [("octets",.d oE)]= .ok (.next,eP oE [] (.int 0) []):=by kernel_rfl
theorem z5{c:Nat->List MV->Res (MV×MV)}{o:D}{F:List D}{a:D}{tl:Loc}:aw 57 (xO c 3800) (behind 3800 2) (eP o F a tl)= .ok (.ret (.own (.lst F)),eP o F a tl):=by kernel_rfl
theorem z6{c:Nat->List MV->Res (MV×MV)}{o:D}:fy c 3800 [.d o]=(aw 60 (xO c 3800) (gf 3800).body [("octets",.d o)]).bind (jV (gf 3800)):=dq (by kernel_rfl) (by kernel_rfl)
theorem Cz{o:D}{F:List D}{a:D}{tl:Loc}{v:MV}:jV (gf 3800) (.ret v,eP o F a tl)= .ok (v,.d o):=by kernel_rfl
theorem w7:fz (aV 3800 2)=true:=by kernel_rfl
theorem iQ{m:Nat}(hm:10<=m)(O:List Rw)(r:Rw)(hn:O.length<=8):az m 3800 [.d (.bytes (ba (r::O)))]= .ok (.own (.lst (gg (r::O) 0)),.d (.bytes (ba (r::O)))):=by
 obtain⟨m,rfl⟩: ∃j,m=j+1:=⟨m-1,by exact dM (aj hm)⟩
 have X: ∀(O:List Rw) (r:Rw),(ba (r::O)).length<=40*(O.length+1):=by
  intro O;induction O with
  |nil=>intro r;have:=gG r;show r.body.length<=40;exact aj this.1
  |cons r' O B=>
   intro r;have u:=gG r;have z:=B r';rw[fA,List.length_append,List.length_cons];simp only[List.length_cons] at z⊢;exact bp u.1 z
 have hB:(ba (r::O)).length<big:=Nat.lt_of_le_of_lt (X O r) (Nat.lt_of_le_of_lt (Nat.mul_le_mul_left 40 (Nat.succ_le_succ hn)) (by decide));rw[bY,z6];have H:=zV (p:=ba (r::O)) (q:=[]) hB (by decide);have eo:gD (vB (ba (r::O)) []) oE= .bytes (ba (r::O)):=congrArg D.bytes (List.append_nil _);have an:cM (vB (ba (r::O)) []) 4 (3700,[.d oE,.d (.int 0)],.ok (.d (.int 0),.d oE)):= λm hm=>by
  have h:=fh (p:=[]) (q:=ba (r::O)) (by decide) hB (o8 _) hm;simp only[List.map_cons,List.map_nil,gM,eo];refine Sm.lI ?_ |>(h.symm▸ ·)
  simp only[gR,gM,eo];rfl
 have u:=(cj H (av an aB) (n:=3) (m:=m) (by exact aj hm) (Nat.le_refl 60) Cy).1 _ rfl;have u:aw 60 (xO (az m) 3800) (ahead 3800 2) [("octets",.d (.bytes (ba (r::O))))]= .ok (.next,eP (.bytes (ba (r::O))) [] (.int 0) []):=by
  have e2:ax (vB (ba (r::O)) []) [(("octets":Str),MV.d oE)]=[(("octets":Str),MV.d (.bytes (ba (r::O))))]:=by rw[<-eo];rfl
  rw[e2] at u;refine u.trans ?_;show Res.ok (Fl.next,ax (vB (ba (r::O)) []) (eP oE [] (.int 0) []))=_;rw[jo,eo];rfl
 obtain⟨a0,z⟩:=w6 (m:=m) (k:=57) (by exact aj hm) (by simp+arith only) O r [] [] [] 3000 hB (Nat.lt_of_le_of_lt (Nat.add_le_add_right (Nat.le_trans (Nat.le_of_eq (Nat.zero_add _)) (Nat.mul_le_mul_left 20 hn)) 20) (by decide)) ag (.inl rfl) (by exact aj (Nat.mul_le_mul_left 20 hn));rw[i6 w7 (k:=57) rfl u z z5];exact Cz
end
section
noncomputable def j0(e:Expr):Expr:=la e e (lc:= λe B B=>e)
noncomputable def r_(e:Expr):Scope:=la e default (lc:= λB B s=>s)
noncomputable def IW(e:Expr):Option (Str×Comprehension):=la e none (lc:= λB g B=>pH g)
noncomputable def CA(e:Expr):Bool:=la e false (lc:= λB B B=>true)
noncomputable def iV(c:Nat->List MV->Res (MV×MV))(i k:Nat)(e:Expr)(cl:Loc)(items:List D):Res (List D):=match IW e with
 |some (x,g)=>aR (ak k ((xO c i).comp (r_ e))) (bT k ((xO c i).comp (r_ e))) cl x g.ifs (j0 e) items
 |none=>.stuck
theorem kN{c:Nat->List MV->Res (MV×MV)}{i k:Nat}{e:Expr}(h:CA e=true){l l':Loc}{d:D}{items:List D}{cl:Loc}{O:List D}
  (h1:(match IW e with
   |some (x,g)=>if !(cF (xO c i) (r_ e) x&&bR (r_ e) l) then Res.stuck else aF (ak k (xO c i)) g.iter l
   |none=>Res.stuck)= .ok (d,l')) (h2:itemsOf d=some items) (X:bX (r_ e) l'=some cl) (u:iV c i k e cl items= .ok O):ak (k+1) (xO c i) e l= .ok (.own (.lst O),l'):=by
 rcases e with _|_|_|_|_|_|_|_|⟨elt,B,z,p⟩|_|_|_|_|_|_|_|_|_|_|_|_|_|_|_|_|_|_<;>try(cases h;done)
 .show gY (xO c i) (ak k (xO c i)) (ak k ((xO c i).comp z)) (bT k ((xO c i).comp z)) elt B z l=_;unfold gY;change(match pH B with
   |some (x,g)=>if !(cF (xO c i) z x&&bR z l) then Res.stuck else aF (ak k (xO c i)) g.iter l
   |none=>Res.stuck)= .ok (d,l') at h1
  change(match pH B with
   |some (x,g)=>aR (ak k ((xO c i).comp z)) (bT k ((xO c i).comp z)) cl x g.ifs elt items
   |none=>Res.stuck)= .ok O at u
  rcases e:pH B with _|p
  .rw[e] at h1;cases h1
  .obtain⟨x,g⟩:=p;rw[e] at h1 u;dsimp only at h1 u⊢;by_cases q:(!(cF (xO c i) z x&&bR z l))=true
   .rw[if_pos q] at h1;cases h1
   rw[if_neg q] at h1⊢;rw[h1];show((Res.of (itemsOf d)).bind λitems=>(Res.of (bX z l')).bind λcl=>(aR _ _ cl x g.ifs elt items).bind λds=>Res.ok (MV.own (.lst ds),l'))=_;rw[h2];show((Res.of (bX z l')).bind λcl=>(aR _ _ cl x g.ifs elt items).bind λds=>Res.ok (MV.own (.lst ds),l'))=_;rw[show bX z l'=some cl from X];show((aR _ _ cl x g.ifs elt items).bind λds=>Res.ok (MV.own (.lst ds),l'))=_;rw[u];rfl
theorem nD{ρ:Val}(H:ρ.Ok){O:Tab}{d:Nat}(V:gc ρ O d){n m i k k':Nat}(h:n+d<=m)(hk:k<=k'){e:Expr}{cl:Loc}{items:List D}{r:Res (List D)}(z:iV (aE O n) i k e cl items=r):
  Sm (List.map (gD ρ)) r (iV (az m) i k' e (ax ρ cl) (items.map (gD ρ))):=by
 subst z;unfold iV;rcases IW e with _|p
 .exact Sm.stuck
 .obtain⟨I,J⟩:=qe H k k' hk ((xO (aE O n) i).comp (r_ e)) (az m) (iO H V n m h);exact o3 H I J cl p.1 p.2.ifs (j0 e) items
theorem kO{c:Nat->List MV->Res (MV×MV)}{i k:Nat}{e:Expr}{cl:Loc}{d:D}{ds u O:List D}(h1:iV c i k e cl [d]= .ok u)(h2:iV c i k e cl ds= .ok O)(H:O.length<lim):iV c i k e cl (d::ds)= .ok (u++O):=by
 unfold iV at h1 h2⊢;rcases e1:IW e with _|p
 .rw[e1] at h1;cases h1
 .obtain⟨x,g⟩:=p;rw[e1] at h1 h2;dsimp only at h1 h2⊢;generalize ak k ((xO c i).comp (r_ e))=ev at h1 h2⊢;generalize bT k ((xO c i).comp (r_ e))=tv at h1 h2⊢;replace h1:(bS tv g.ifs (cl.set x (.d d))).bind (λ(t,l)=>if t then(d5 (aF ev (j0 e) l)).bind λ(v,_)=>(Res.ok []).bind λvs=>if vs.length<lim/\aC v=false then .ok (v::vs) else .stuck else .ok [])= .ok u:=h1;show(bS tv g.ifs (cl.set x (.d d))).bind (λ(t,l)=>if t then(d5 (aF ev (j0 e) l)).bind λ(v,_)=>(aR ev tv cl x g.ifs (j0 e) ds).bind λvs=>if vs.length<lim/\aC v=false then .ok (v::vs) else .stuck else aR ev tv cl x g.ifs (j0 e) ds)=_;rw[h2];rcases e2:bS tv g.ifs (cl.set x (.d d)) with _|_|q
  .rw[e2] at h1;cases h1
  .rw[e2] at h1;cases h1
  .rw[e2] at h1;obtain⟨t,l⟩:=q;rcases t with _|_
   .cases h1;rfl
   .replace h1:(d5 (aF ev (j0 e) l)).bind (λ(v,_)=>if([]:List D).length<lim/\aC v=false then Res.ok [v] else .stuck)= .ok u:=h1;show(d5 (aF ev (j0 e) l)).bind (λ(v,_)=>if O.length<lim/\aC v=false then Res.ok (v::O) else .stuck)=_;rcases e3:d5 (aF ev (j0 e) l) with _|_|q
    .rw[e3] at h1;cases h1
    .rw[e3] at h1;cases h1
    .rw[e3] at h1;replace h1:(if([]:List D).length<lim/\aC q.1=false then Res.ok [q.1] else .stuck)= .ok u:=h1;show(if O.length<lim/\aC q.1=false then Res.ok (q.1::O) else .stuck)=_;revert h1;refine gp (λz h1=> ?_) (λB h1=> ?_)
     .cases h1;rw[if_pos ⟨H,z.2⟩];rfl
     .cases h1
noncomputable def qk(s:Stmt):Expr:=uG s (.Constant .none 0 default) (rt:= λe=>e.getD (.Constant .none 0 default))
noncomputable def kP(d:D):Bool:=match d with
 | .tup xs=>(match xs with
  |[]=>true
  |k::_=>(match vStr k with
   |some k=>k !=r9
   |none=>true))
 |_=>true
noncomputable def kinds:List (List Nat):=[dn,cN,DL,HL,r9]
theorem CB(k:List Nat)(h:k∈kinds)(cl:Loc):iV (aE (tabOf []) 1) 3900 40 (qk (aV 3900 0)) [] [.tup [.str k,.aq 0,.aq 1]]= .ok (if k !=r9 then[.tup [.str k,.aq 0,.aq 1]] else[]):=by
 have all: ∀k∈kinds,iV (aE (tabOf []) 1) 3900 40 (qk (aV 3900 0)) [] [.tup [.str k,.aq 0,.aq 1]]= .ok (if k !=r9 then[.tup [.str k,.aq 0,.aq 1]] else[]):=
  aa (by kernel_rfl) (aa (by kernel_rfl) (aa (by kernel_rfl) (aa (by kernel_rfl) (aa (by kernel_rfl) ag))))
 exact all k h
noncomputable def vj(d:D):Prop:= ∃k w i,k∈kinds/\d= .tup [.str k,.bytes w,.int i]
theorem z7{m k:Nat}(hm:1<=m)(hk:40<=k): ∀(ds:List D),(∀d∈ds,vj d)->ds.length<lim->iV (az m) 3900 k (qk (aV 3900 0)) [] ds= .ok (ds.filter kP):=by
 intro X;induction X with
 |nil=>
  intro B B;kernel_rfl
 |cons d ds u=>
  intro hd O;obtain⟨z,w,i,ac,rfl⟩:=hd d (.head _);have O:ds.length+1<lim:=O;have ih:=u (λd m=>hd d (.tail _ m)) (by exact aj O);have H:(cb [] [] [] [] [.bytes w,.int i]).Ok:=a_ ag ag (by decide) ag (aa Rl.bytes (ah Rl.int));have h1:=(nD H (aB (d:=0)) (n:=1) (m:=m) (by exact aj hm) hk (CB z ac [])).1 _ rfl;have e:gD (cb [] [] [] [] [.bytes w,.int i]) (.tup [.str z,.aq 0,.aq 1])= .tup [.str z,.bytes w,.int i]:=rfl;rw[List.map_cons,List.map_nil,e] at h1;rw[kO (cl:=[]) h1 ih (Nat.lt_of_le_of_lt (List.length_filter_le _ _) (by exact aj O))];have e2:kP (.tup [.str z,.bytes w,.int i])=(z !=r9):=rfl;rw[List.filter_cons,e2];cases z !=r9<;>rfl
theorem di{m:Nat}(hm:2<=m){ds:List D}(hd: ∀d∈ds,vj d)(H:ds.length<lim):az m 3900 [.d (.lst ds)]= .ok (.own (.lst (ds.filter kP)),.d (.lst ds)):=by
 obtain⟨m,rfl⟩: ∃j,m=j+1:=⟨m-1,by exact dM (aj hm)⟩
 have hs:aG ds=false:=bk.mpr λd m=>by
  obtain⟨k,w,i,_,rfl⟩:=hd d m;rfl
 have h:=kN (c:=az m) (i:=3900) (k:=58) (e:=qk (aV 3900 0)) (l:=[("tokens",.d (.lst ds))]) (l':=[("tokens",.d (.lst ds))]) (d:=.lst ds) (items:=ds) (cl:=[]) (by kernel_rfl) (by kernel_rfl) (by show(if aG ds then none else some ds)=_;rw[hs];rfl) (by kernel_rfl) (z7 (by exact aj hm) (by simp+arith only) ds hd H);rw[bY,dq (i:=3900) (l:=[("tokens",.d (.lst ds))]) (by kernel_rfl) (by kernel_rfl)];have e:aw 60 (xO (az m) 3900) (gf 3900).body [("tokens",.d (.lst ds))]=(((ak 59 (xO (az m) 3900) (qk (aV 3900 0)) [("tokens",.d (.lst ds))]).bind λ(v,l)=>.ok (Fl.ret v,l)).bind λ(f,l)=>match f with
  | .next=>aw 59 (xO (az m) 3900) [] l
  |f=>.ok (f,l)):=by kernel_rfl
 rw[e,h];kernel_rfl
noncomputable def Rw.cD(r:Rw):List n8:=r.toks.filter λt=>t.1 !=r9
noncomputable def o_(n l d:List Nat):D:=.obj 42 [("name",.str n),("local",.str l),("domain",.str d)]
noncomputable def z8(n:List Nat)(H:List D):D:=.obj 43 [("name",.str n),("members",.lst H)]
noncomputable def Rw.places:Rw->List D
 |a=>[o_ [] [106] [120,46,111,114,103]]
 |b=>[o_ [74,111,32,66] [107] [121]]
 |c=>[o_ [65,44,32,34,66] [108] [91,49,46,50,93],o_ [] [109] [122]]
 |d=>[z8 [117,115] [o_ [] [110] [111],o_ [] [112] [113]]]
 |e=>[z8 [110,111,110,101] []]
 |f=>[]
 |g=>[]
noncomputable def Rw.turns:Rw->Nat
 |a=>1
 |b=>2
 |c=>3
 |d=>1
 |e=>1
 |f=>1
 |g=>0
noncomputable def Rw.w8:Rw->Bool
 |f=>true
 |_=>false
noncomputable def ql(T:List D)(a n:D):MV:=.own (.obj 46 [("tokens",.lst T),("at",a),("length",n)])
noncomputable def ew(T:List D)(a n:D)(F:List D):Loc:=[("reader",ql T a n),("is_inner",.d (.bool false)),("found",.own (.lst F))]
noncomputable def tN(r:Rw):List D:=.seg 2::(r.cD.map (iB 2)++[iB 2 r.comma,.seg 3])
noncomputable def tL(r:Rw):List D:=.seg 2::(r.cD.map (iB 2))
noncomputable abbrev cP:=aE (tabOf []) 12
theorem E_(r:Rw):steps (wT cP 5200 1 50) (wB cP 5200 1 50) (r.turns+1) (ew (tN r) (.si 0 [5]) (.aq 0) [.seg 4])=
  (if r.w8 then .exc else .ok (ew (tN r) (.si (r.cD.length+1:Nat) [5]) (.aq 0) (.seg 4::r.places))):=by rcases r with _|_<;>kernel_rfl
theorem Fb(r:Rw):steps (wT cP 5200 1 50) (wB cP 5200 1 50) r.turns (ew (tL r) (.si 0 [5]) (.aq 0) [.seg 4])=
  (if r.w8 then .exc else .ok (ew (tL r) (.si (r.cD.length:Nat) [5]) (.aq 0) (.seg 4::r.places))):=by rcases r with _|_<;>kernel_rfl
theorem Fc:wT cP 5200 1 50 (ew [.seg 2] (.si 0 [5]) (.aq 0) [.seg 4])= .ok (false,ew [.seg 2] (.si 0 [5]) (.aq 0) [.seg 4]):=by kernel_rfl
noncomputable abbrev vP(pre post:List D)(p:Nat)(F:List D)(x:D):Val:=cb [[],List.replicate p 0] [[],[],pre,post,F] [] [] [x]
theorem z_{pre post:List D}{p:Nat}{F:List D}{x:D}(h1:pre.length<big/\ ∀d∈pre,Rl d)(h2:post.length<big/\ ∀d∈post,Rl d)(hp:p<big)(hF:F.length<big/\ ∀d∈F,Rl d)(hx:Rl x):(vP pre post p F x).Ok:=
 a_ (aa (by decide) (ah (by rw[List.length_replicate];exact hp))) (aa ⟨by decide,ag⟩ (aa ⟨by decide,ag⟩ (aa h1 (aa h2 (ah hF))))) (by decide) ag (ah hx)
section
variable{pre post:List D}{p:Nat}{F:List D}{x:D}
theorem z'(t:n8):gD (vP pre post p F x) (iB 2 t)=bA p t:=by
 show D.tup [.str t.1,.bytes t.2.1,.int (t.2.2+(((List.replicate p (0:UInt8)).length:Nat):Int))]=_;rw[List.length_replicate];rfl
theorem vk(z:List n8):gL (vP pre post p F x) (z.map (iB 2))=z.map (bA p):=by
 induction z with
 |nil=>rfl
 |cons t r B=>
  rw[List.map_cons,bt,B,iq rfl,z'];rfl
theorem kQ(ρ:Val)(T:List D)(a n:D)(F:List D):ax ρ (ew T a n F)=ew (gL ρ T) (gD ρ a) (gD ρ n) (gL ρ F):=by
 show[(("reader":Str),MV.own (.obj 46 [("tokens",gD ρ (.lst T)),("at",gD ρ a),("length",gD ρ n)])),("is_inner",.d (.bool false)),("found",.own (.lst (gL ρ F)))]=_;rw[bc];rfl
end
theorem kR(r:Rw):r.places.length<=2/\ ∀d∈r.places,Rl d:=by
 cases r with
 |a=>exact⟨by decide,ah Rl.obj⟩
 |b=>exact⟨by decide,ah Rl.obj⟩
 |c=>exact⟨by decide,aa Rl.obj (ah Rl.obj)⟩
 |d=>exact⟨by decide,ah Rl.obj⟩
 |e=>exact⟨by decide,ah Rl.obj⟩
 |f=>exact⟨by decide,ag⟩
 |g=>exact⟨by decide,ag⟩
theorem sa(r:Rw):r.turns<=3/\r.cD.length<=17:=by rcases r with _|_<;>decide
theorem Aa(p:Nat)(z:List n8): ∀d∈z.map (bA p),Rl d:= λd m=>by
 obtain⟨t,_,rfl⟩:=List.mem_map.mp m;exact iC
section
variable{m k:Nat}(hm:12<=m)(hk:50<=k){pre post:List D}{p:Nat}{F:List D}{x:D}(h1:pre.length<big/\ ∀d∈pre,Rl d)(h2:post.length<big/\ ∀d∈post,Rl d)(hp:p<big)(hF:F.length<big/\ ∀d∈F,Rl d)(hx:Rl x)
include hm hk h1 h2 hp hF hx
theorem uj(r:Rw):steps (wT (az m) 5200 1 k) (wB (az m) 5200 1 k) (r.turns+1) (ew (pre++(r.cD.map (bA p)++bA p r.comma::post)) (.int (pre.length:Nat)) x F)=
  (if r.w8 then .exc else .ok (ew (pre++(r.cD.map (bA p)++bA p r.comma::post)) (.int ((pre++(r.cD.map (bA p)++[bA p r.comma])).length:Nat)) x (F++r.places))):=by
 have H:=z_ h1 h2 hp hF hx;have h:=eV H (aB (d:=0)) (n:=12) (m:=m) (by exact aj hm) hk (E_ r);have O:gL (vP pre post p F x) (tN r)=pre++(r.cD.map (bA p)++bA p r.comma::post):=by
  unfold tN;rw[bt,dS,vk,bt (iB 2 r.comma),iq (x:=iB 2 r.comma) rfl,z'];show pre++(_++(bA p r.comma::(post++[])))=_;rw[List.append_nil]
 have B:gD (vP pre post p F x) (.si 0 [5])= .int (pre.length:Nat):=congrArg D.int (d8 _);have z:gD (vP pre post p F x) (.si (r.cD.length+1:Nat) [5])= .int ((pre++(r.cD.map (bA p)++[bA p r.comma])).length:Nat):=by
  show D.int ((r.cD.length+1:Nat)+(pre.length:Nat))=_;rw[List.length_append,List.length_append,List.length_map];congr 1;simp only[List.length_singleton];(simp+arith only[Int.natCast_add];done)
 have X:gL (vP pre post p F x) [.seg 4]=F:=List.append_nil F;have u:gL (vP pre post p F x) (.seg 4::r.places)=F++r.places:=by
  rw[bt];show F++_=_;congr 1;rcases r with _|_<;>rfl
 rw[kQ,O,B,X] at h;rcases q:r.w8 with _|_
 .rw[q] at h;refine(h.1 _ rfl).trans ?_;rw[kQ,O,z,u];rfl
 .rw[q] at h;exact h.2 rfl
omit h2 in
theorem uk(r:Rw):steps (wT (az m) 5200 1 k) (wB (az m) 5200 1 k) r.turns (ew (pre++r.cD.map (bA p)) (.int (pre.length:Nat)) x F)=
  (if r.w8 then .exc else .ok (ew (pre++r.cD.map (bA p)) (.int ((pre++r.cD.map (bA p)).length:Nat)) x (F++r.places))):=by
 have H:=z_ (post:=[]) h1 ⟨by decide,ag⟩ hp hF hx;have h:=eV H (aB (d:=0)) (n:=12) (m:=m) (by exact aj hm) hk (Fb r);have O:gL (vP pre [] p F x) (tL r)=pre++r.cD.map (bA p):=by
  unfold tL;rw[bt,vk];rfl
 have B:gD (vP pre [] p F x) (.si 0 [5])= .int (pre.length:Nat):=congrArg D.int (d8 _);have z:gD (vP pre [] p F x) (.si (r.cD.length:Nat) [5])= .int ((pre++r.cD.map (bA p)).length:Nat):=by
  show D.int ((r.cD.length:Nat)+(pre.length:Nat))=_;rw[List.length_append,List.length_map];congr 1;(simp+arith only[Int.natCast_add];done)
 have X:gL (vP pre [] p F x) [.seg 4]=F:=List.append_nil F;have u:gL (vP pre [] p F x) (.seg 4::r.places)=F++r.places:=by
  rw[bt];show F++_=_;congr 1;rcases r with _|_<;>rfl
 rw[kQ,O,B,X] at h;rcases q:r.w8 with _|_
 .rw[q] at h;refine(h.1 _ rfl).trans ?_;rw[kQ,O,z,u];rfl
 .rw[q] at h;exact h.2 rfl
omit h2 in
theorem w9:wT (az m) 5200 1 k (ew pre (.int (pre.length:Nat)) x F)= .ok (false,ew pre (.int (pre.length:Nat)) x F):=by
 have H:=z_ (post:=[]) h1 ⟨by decide,ag⟩ hp hF hx;have h:=(zO H (aB (d:=0)) (n:=12) (m:=m) (i:=5200) (j:=1) (by exact aj hm) hk (ew [.seg 2] (.si 0 [5]) (.aq 0) [.seg 4])).1 _ Fc;have O:gL (vP pre [] p F x) [.seg 2]=pre:=List.append_nil pre;have B:gD (vP pre [] p F x) (.si 0 [5])= .int (pre.length:Nat):=congrArg D.int (d8 _);have X:gL (vP pre [] p F x) [.seg 4]=F:=List.append_nil F;rw[kQ,O,B,X] at h;refine h.trans ?_;show Res.ok (false,ax _ (ew [.seg 2] (.si 0 [5]) (.aq 0) [.seg 4]))=_;rw[kQ,O,B,X];rfl
end
noncomputable def fO:List Rw->Bool
 |[]=>false
 |r::O=>r.w8||fO O
noncomputable abbrev c_(rs:List Rw)(p:Nat):List D:=(gg rs p).filter kP
theorem sd(r:Rw)(p:Nat):(r.toks.map (bA p)).filter kP=r.cD.map (bA p):=by rcases r with _|_<;>rfl
theorem um(r z:Rw)(O:List Rw)(p:Nat):c_ (r::z::O) p=r.cD.map (bA p)++bA p r.comma::c_ (z::O) (p+(r.body.length+1)):=by
 show((r.toks.map (bA p)++[bA p r.comma])++gg (z::O) (p+(r.body.length+1))).filter kP=_;rw[List.filter_append,List.filter_append,sd,List.append_assoc];rfl
theorem pb: ∀(O:List Rw) (r:Rw) (p:Nat),(gg (r::O) p).length<=20*(O.length+1):=by
 intro X;induction X with
 |nil=>
  intro r p;have:=gG r;show(r.toks.map (bA p)).length<=_;rw[List.length_map];simp only[List.length_nil];exact aj this.2
 |cons z O u=>
  intro r p;have h1:=gG r;have h2:=u z (p+(r.body.length+1));show((r.toks.map (bA p)++[bA p r.comma])++gg (z::O) (p+(r.body.length+1))).length<=_;simp only[List.length_append,List.length_map,List.length_cons,List.length_nil] at h2⊢;exact bp h1.2 h2
theorem se(O:List Rw)(p:Nat): ∀d∈c_ O p,Rl d:= λd m=>iD O p d (List.mem_filter.mp m).1
theorem uo{m k:Nat}(hm:12<=m)(hk:50<=k){x:D}(hx:Rl x): ∀(O:List Rw) (r:Rw) (pre:List D) (p:Nat) (F:List D) (n:Nat),pre.length+20*(O.length+1)<big->p+40*O.length<big->F.length+2*(O.length+1)<big->(∀d∈pre,Rl d)->(∀d∈F,Rl d)->5*O.length+5<=n->
  bg (wT (az m) 5200 1 k) (wB (az m) 5200 1 k) n (ew (pre++c_ (r::O) p) (.int (pre.length:Nat)) x F)=
   (if fO (r::O) then .exc else .ok (.next,ew (pre++c_ (r::O) p) (.int ((pre++c_ (r::O) p).length:Nat)) x (F++(r::O).flatMap Rw.places))):=by
 intro l9;induction l9 with
 |nil=>
  intro r pre p F n H hp hF hR ac z;simp only[List.length_nil] at H hp hF z;have B:=sa r;have e:c_ [r] p=r.cD.map (bA p):=sd r p;rw[e];have h1:=uk hm hk (p:=p) (F:=F) (x:=x) ⟨by exact aj H,hR⟩ (by exact aj hp) ⟨by exact aj hF,ac⟩ hx r;obtain⟨n,rfl⟩: ∃j,n=(j+1)+r.turns:=⟨n-(r.turns+1),by rw[Nat.add_assoc,Nat.add_comm 1];exact dM (by exact bp B.1 z)⟩
  show _=(if r.w8||false then _ else _)
  rw[Bool.or_false];rcases q:r.w8 with _|_
  .rw[q] at h1;have hq:=kR r;have h2:=w9 hm hk (pre:=pre++r.cD.map (bA p)) (p:=p) (F:=F++r.places) (x:=x) ⟨by rw[List.length_append,List.length_map];exact bp H B.2,λd md=>(List.mem_append.mp md).elim (hR d) (Aa p _ d)⟩ (by exact aj hp)
    ⟨by rw[List.length_append];exact bp hF hq.1,λd md=>(List.mem_append.mp md).elim (ac d) (hq.2 d)⟩ hx
   rw[dA _ h1,o9 h2];show _=Res.ok (Fl.next,ew _ _ x (F++(r.places++[])));rw[List.append_nil]
  .rw[q] at h1;exact o4 _ h1
 |cons r' O u=>
  intro r pre p F n H hp hF hR ac z;simp only[List.length_cons] at H hp hF z;have B:=sa r;have X:=gG r;have hq:=kR r;rw[um];have h1:=uj hm hk (post:=c_ (r'::O) (p+(r.body.length+1))) (p:=p) (F:=F) (x:=x) ⟨by exact aj H,hR⟩ ⟨by have:=pb O r' (p+(r.body.length+1));have:(c_ (r'::O) (p+(r.body.length+1))).length<=_:=List.length_filter_le _ _;omega,se _ _⟩ (by exact aj hp) ⟨by exact aj hF,ac⟩ hx r;obtain⟨n,rfl⟩: ∃j,n=j+(r.turns+1):=⟨n-(r.turns+1),by exact dM (bp z B.1)⟩
  show _=(if r.w8||fO (r'::O) then _ else _)
  rcases q:r.w8 with _|_
  .rw[q] at h1;have e1:pre++(r.cD.map (bA p)++[bA p r.comma])++c_ (r'::O) (p+(r.body.length+1))=pre++(r.cD.map (bA p)++bA p r.comma::c_ (r'::O) (p+(r.body.length+1))):=by simp
   have h2:=u r' (pre++(r.cD.map (bA p)++[bA p r.comma])) (p+(r.body.length+1)) (F++r.places) n (by simp only[List.length_append,List.length_map,List.length_singleton];exact bp H B.2) (by exact bp hp X.1) (by rw[List.length_append];exact bp hF hq.1)
    (λd md=>(List.mem_append.mp md).elim (hR d) λmd=>(List.mem_append.mp md).elim (Aa p _ d) λmd=>by rw[List.mem_singleton.mp md];exact iC) (λd md=>(List.mem_append.mp md).elim (ac d) (hq.2 d)) (by exact bp B.1 z)
   rw[e1] at h2;rw[dA _ h1,h2,List.append_assoc];rfl
  .rw[q] at h1;exact o4 _ h1
end
theorem Ab{c:Nat->List MV->Res (MV×MV)}{T:List D}{a n:D}:aw 60 (xO c 5200) (ahead 5200 1) [("reader",ql T a n),("is_inner",.d (.bool false))]= .ok (.next,ew T a n []):=by kernel_rfl
theorem CC{c:Nat->List MV->Res (MV×MV)}{T:List D}{a n:D}{F:List D}:aw 58 (xO c 5200) (behind 5200 1) (ew T a n F)= .ok (.ret (.own (.lst F)),ew T a n F):=by kernel_rfl
theorem CE{c:Nat->List MV->Res (MV×MV)}{T:List D}{a n:D}:fy c 5200 [ql T a n,.d (.bool false)]=(aw 60 (xO c 5200) (gf 5200).body [("reader",ql T a n),("is_inner",.d (.bool false))]).bind (jV (gf 5200)):=dq (by kernel_rfl) (by kernel_rfl)
theorem Fe{T:List D}{a n:D}{F:List D}{v:MV}:jV (gf 5200) (.ret v,ew T a n F)= .ok (v,ql T a n):=by kernel_rfl
theorem sf:fz (aV 5200 1)=true:=by kernel_rfl
theorem iR{m:Nat}(B:13<=m)(O:List Rw)(r:Rw)(u:O.length<=8){x:D}(hx:Rl x):az m 5200 [ql (c_ (r::O) 0) (.int 0) x,.d (.bool false)]=
  (if fO (r::O) then .exc else .ok (.own (.lst ((r::O).flatMap Rw.places)),ql (c_ (r::O) 0) (.int ((c_ (r::O) 0).length:Nat)) x)):=by
 obtain⟨m,rfl⟩: ∃j,m=j+1:=⟨m-1,by exact dM (aj B)⟩
 have b:(400:Nat)<big:=by decide
 rw[bY,CE];have z:bg (wT (az m) 5200 1 58) (wB (az m) 5200 1 58) 3000 (ew (c_ (r::O) 0) (.int 0) x [])=(if fO (r::O) then .exc else .ok (.next,ew (c_ (r::O) 0) (.int ((c_ (r::O) 0).length:Nat)) x ((r::O).flatMap Rw.places))):=
  uo (m:=m) (k:=58) (by exact aj B) (by simp+arith only) hx O r [] 0 [] 3000 (by simp only[List.length_nil];exact bp (Nat.mul_le_mul_left 20 u) b) (by exact bp (Nat.mul_le_mul_left 40 u) b) (by simp only[List.length_nil];exact bp (Nat.mul_le_mul_left 8 u) b) ag ag (by exact aj (Nat.mul_le_mul_left 5 u))
 rcases q:fO (r::O) with _|_
 .rw[q] at z;rw[i6 sf (k:=58) rfl Ab z CC];exact Fe
 .rw[q] at z;rw[qi sf (k:=58) rfl Ab z];rfl
theorem w_: ∀(O:List Rw) (p:Nat),∀d∈gg O p,vj d:=by
 have u: ∀(r:Rw),∀t∈r.toks,t.1∈kinds:= λr=>by rcases r with _|_<;>decide
 have H: ∀(p:Nat) (r:Rw),∀d∈r.toks.map (bA p),vj d:= λp r d m=>by
  obtain⟨t,mt,rfl⟩:=List.mem_map.mp m;exact⟨_,_,_,u r t mt,rfl⟩
 intro O;induction O with
 |nil=>exactλB=>ag
 |cons r O X=>
  intro p d m;rcases O with _|⟨z,O⟩
  .exact H p r d m
  .rcases List.mem_append.mp (show d∈(r.toks.map (bA p)++[bA p r.comma])++gg (z::O) (p+(r.body.length+1)) from m) with m|m
   .rcases List.mem_append.mp m with m|m
    .exact H p r d m
    .rw[List.mem_singleton.mp m];exact⟨cN,_,_,by decide,rfl⟩
   .exact X _ d m
noncomputable def JI:Rows:=[(3800,[.d oE],.ok (.own (.lst [.seg 2]),.d oE)),(3900,[.d (.lst [.seg 2])],.ok (.own (.lst [.seg 3]),.d (.lst [.seg 2])))]
noncomputable def DN:Nat×List MV×Res (MV×MV):=(5200,[ql [.seg 3] (.int 0) iZ,.d (.bool false)],.ok (.own (.lst [.seg 4]),ql [.seg 3] (.si 0 [7]) iZ))
noncomputable def DO:Nat×List MV×Res (MV×MV):=(5200,[ql [.seg 3] (.int 0) iZ,.d (.bool false)],.exc)
theorem HP:aE (tabOf (DN::JI)) 4 5300 [.d oE]= .ok (.own (.lst [.seg 4]),.d oE):=by kernel_rfl
theorem HQ:aE (tabOf (DO::JI)) 4 5300 [.d oE]= .exc:=by kernel_rfl
theorem pd: ∀(O:List Rw) (r:Rw),(ba (r::O)).length<=40*(O.length+1):=by
 intro X;induction X with
 |nil=>
  intro r;have:=gG r;show r.body.length<=40;exact aj this.1
 |cons H O B=>
  intro r;have u:=gG r;have z:=B H;rw[fA,List.length_append,List.length_cons];simp only[List.length_cons] at z⊢;exact bp u.1 z
theorem iS: ∀(O:List Rw),(O.flatMap Rw.places).length<=2*O.length/\ ∀d∈O.flatMap Rw.places,Rl d:=by
 intro X;induction X with
 |nil=>
  exact⟨Nat.le_refl _,ag⟩
 |cons r O B=>
  have u:=kR r;have z:=B;rw[List.flatMap_cons];exact⟨by rw[List.length_append,List.length_cons];exact bp u.1 z.1,λd m=>(List.mem_append.mp m).elim (u.2 d) (z.2 d)⟩
theorem g9{m:Nat}(B:17<=m)(O:List Rw)(r:Rw)(z:O.length<=8):az m 5300 [.d (.bytes (ba (r::O)))]=
  (if fO (r::O) then .exc else .ok (.own (.lst ((r::O).flatMap Rw.places)),.d (.bytes (ba (r::O))))):=by
 have b:(400:Nat)<big:=by decide
 have hB:=pd O r;have hT:=pb O r 0;have hP:(c_ (r::O) 0).length<=_:=List.length_filter_le _ _;have ac:=iS (r::O);simp only[List.length_cons] at ac;have an:big<lim:=by decide
 let ρ:Val:=cb [ba (r::O)] [[],[],gg (r::O) 0,c_ (r::O) 0,(r::O).flatMap Rw.places] [] [] [];have H:ρ.Ok:=a_ (ah (by exact nW (Nat.mul_le_mul_left 40 z) b hB)) (aa ⟨by decide,ag⟩ (aa ⟨by decide,ag⟩ (aa ⟨by exact nW (Nat.mul_le_mul_left 20 z) b hT,iD _ _⟩ (aa ⟨by exact sV (Nat.mul_le_mul_left 20 z) b hT hP,se _ _⟩ (ah ⟨by exact nW (Nat.mul_le_mul_left 8 z) b ac.1,ac.2⟩))))) (by decide) ag ag;have eo:gD ρ oE= .bytes (ba (r::O)):=congrArg D.bytes (List.append_nil _);have e2:gL ρ [.seg 2]=gg (r::O) 0:=List.append_nil _;have X:gL ρ [.seg 3]=c_ (r::O) 0:=List.append_nil _;have e4:gL ρ [.seg 4]=(r::O).flatMap Rw.places:=List.append_nil _;have ez:gD ρ iZ= .int ((ba (r::O)).length:Nat):=congrArg D.int (d8 _);have am: ∀a,gM ρ (ql [.seg 3] a iZ)=ql (c_ (r::O) 0) (gD ρ a) (.int ((ba (r::O)).length:Nat)):= λa=>by
  show MV.own (.obj 46 [("tokens",gD ρ (.lst [.seg 3])),("at",gD ρ a),("length",gD ρ iZ)])=_;rw[bc,X,ez];rfl
 have base:gc ρ (tabOf JI) 13:=by
  refine av (λm B=> ?_) (av (λm B=> ?_) aB)
  .show Sm _ _ (az m 3800 [.d (gD ρ oE)]);rw[eo,iQ (by exact aj B) O r z];exact Sm.lI (Prod.ext (by show MV.own (.lst (gL ρ [.seg 2]))=_;rw[e2]) (by show MV.d (gD ρ oE)=_;rw[eo]))
  .show Sm _ _ (az m 3900 [.d (gD ρ (.lst [.seg 2]))]);rw[bc,e2,di (by exact aj B) (w_ _ _) (by exact sV (Nat.mul_le_mul_left 20 z) b hT an)];exact Sm.lI (Prod.ext (by show MV.own (.lst (gL ρ [.seg 3]))=_;rw[X]) (by show MV.d (gD ρ (.lst [.seg 2]))=_;rw[bc,e2]))
 have call: ∀m,13<=m->az m 5200 ([ql [.seg 3] (.int 0) iZ,.d (.bool false)].map (gM ρ))=(if fO (r::O) then .exc else .ok (.own (.lst ((r::O).flatMap Rw.places)),ql (c_ (r::O) 0) (.int ((c_ (r::O) 0).length:Nat)) (.int ((ba (r::O)).length:Nat)))):= λm B=>by
  show az m 5200 [gM ρ (ql [.seg 3] (.int 0) iZ),.d (.bool false)]=_;rw[am];exact iR B O r z Rl.int
 rcases q:fO (r::O) with _|_
 .rw[q] at call;have u:cM ρ 13 DN:= λm B=>by
   show Sm _ _ (az m 5200 ([ql [.seg 3] (.int 0) iZ,.d (.bool false)].map (gM ρ)));rw[call m B];refine Sm.lI (Prod.ext (by show MV.own (.lst (gL ρ [.seg 4]))=_;rw[e4]) ?_);show gM ρ (ql [.seg 3] (.si 0 [7]) iZ)=_;rw[am];exact congrArg (λa=>ql _ (.int a) _) (d8 _)
  have h:=(bK H (av u base) (n:=4) (m:=m) (by exact aj B) HP).1 _ rfl;rw[List.map_cons,List.map_nil,show gM ρ (.d oE)= .d (gD ρ oE) from rfl,eo] at h;refine h.trans ?_;show Res.ok (MV.own (.lst (gL ρ [.seg 4])),MV.d (gD ρ oE))=_;rw[e4,eo];rfl
 .rw[q] at call;have u:cM ρ 13 DO:= λm B=>by
   show Sm _ _ (az m 5200 ([ql [.seg 3] (.int 0) iZ,.d (.bool false)].map (gM ρ)));rw[call m B];exact Sm.exc
  have h:=(bK H (av u base) (n:=4) (m:=m) (by exact aj B) HQ).2 rfl;rw[List.map_cons,List.map_nil,show gM ρ (.d oE)= .d (gD ρ oE) from rfl,eo] at h;exact h
noncomputable def addr(O:List Rw):List D:=if fO O then[] else O.flatMap Rw.places
theorem dc{m:Nat}(B:17<=m)(O:List Rw)(z:O.length<=8):az m 5300 [.d (.bytes (ba O))]=
  (if fO O then .exc else .ok (.own (.lst (O.flatMap Rw.places)),.d (.bytes (ba O)))):=by
 rcases O with _|⟨r,O⟩
 .exact g9 B [] .g (by decide)
 .exact g9 B O r (by simp only[List.length_cons] at z;exact aj z)
noncomputable def Ff:Nat×List MV×Res (MV×MV):=(2300,[.d (.aq 0),.d (.aq 1)],.ok (.own (.lst [.seg 7]),.d (.aq 0)))
noncomputable def oJ:D:=.sb [.s 1007]
theorem HS:aE (tabOf [(5300,[.d oJ],.ok (.own (.lst [.seg 4]),.d oJ)),Ff]) 2 5400 [.d (.aq 0),.d (.aq 1)]= .ok (.own (.lst [.seg 4]),.d (.aq 0)):=by kernel_rfl
theorem HT:aE (tabOf [(5300,[.d oJ],.exc),Ff]) 2 5400 [.d (.aq 0),.d (.aq 1)]= .ok (.own (.lst []),.d (.aq 0)):=by kernel_rfl
theorem eQ{m d:Nat}(hd:17<=d)(hm:d+2<=m){f w:D}(hf:Rl f)(X:Rl w){O:List Rw}(z:O.length<=8)(hA: ∀m,d<=m->az m 2300 [.d f,.d w]= .ok (.own (.lst ((O.map Rw.body).map .bytes)),.d f)):
  az m 5400 [.d f,.d w]= .ok (.own (.lst (addr O)),.d f):=by
 have b:(400:Nat)<big:=by decide
 have al:=iS O;have hB:(ba O).length<big:=by
  rcases O with _|⟨r,O⟩
  .decide
  .exact Nat.lt_of_le_of_lt (pd O r) (Nat.lt_of_le_of_lt (Nat.mul_le_mul_left 40 z) (by decide))
 let ρ:Val:=cb [] [[],[],[],[],O.flatMap Rw.places] (O.map Rw.body) [] [f,w];have H:ρ.Ok:=a_ ag (aa ⟨by decide,ag⟩ (aa ⟨by decide,ag⟩ (aa ⟨by decide,ag⟩ (aa ⟨by decide,ag⟩ (ah ⟨by exact nW (Nat.mul_le_mul_left 8 z) b al.1,al.2⟩))))) ⟨by rw[List.length_map];exact bp z b,hB⟩ ag (aa hf (ah X));have eJ:gD ρ oJ= .bytes (ba O):=by
  show D.bytes (ρ.b 1007++[])=_;rw[List.append_nil];congr 1;show dj [44] (((O.map Rw.body).map D.bytes).filterMap bH)=_;congr 1;generalize O.map Rw.body=l;induction l with
  |nil=>rfl
  |cons x r B=>exact congrArg (x:: ·) B
 have e7:gL ρ [.seg 7]=(O.map Rw.body).map .bytes:=List.append_nil _;have e4:gL ρ [.seg 4]=O.flatMap Rw.places:=List.append_nil _;have rB:cM ρ d Ff:= λm hm=>by
  show Sm _ _ (az m 2300 [.d f,.d w]);rw[hA m hm];exact Sm.lI (Prod.ext (by show MV.own (.lst (gL ρ [.seg 7]))=_;rw[e7]) rfl)
 unfold addr;rcases q:fO O with _|_
 .have u:cM ρ d (5300,[.d oJ],.ok (.own (.lst [.seg 4]),.d oJ)):= λm hm=>by
   show Sm _ _ (az m 5300 [.d (gD ρ oJ)]);rw[eJ,dc (by exact bp hd hm) O z,q];exact Sm.lI (Prod.ext (by show MV.own (.lst (gL ρ [.seg 4]))=_;rw[e4]) (by show MV.d (gD ρ oJ)=_;rw[eJ]))
  refine((bK H (av u (av rB aB)) (n:=2) (m:=m) (by exact aj hm) HS).1 _ rfl).trans ?_;show Res.ok (MV.own (.lst (gL ρ [.seg 4])),MV.d f)=_;rw[e4];rfl
 .have u:cM ρ d (5300,[.d oJ],.exc):= λm hm=>by
   show Sm _ _ (az m 5300 [.d (gD ρ oJ)]);rw[eJ,dc (by exact bp hd hm) O z,q];exact Sm.exc
  exact(bK H (av u (av rB aB)) (n:=2) (m:=m) (by exact aj hm) HT).1 _ rfl
section
inductive Wd where
 |f|s|r|t
 deriving DecidableEq
inductive Ot where
 |a|b|c|d|e
 deriving DecidableEq
inductive Ch where
 |a (w:Wd) (r:Rw)|o (k:Ot)
noncomputable def Wd.word:Wd->List UInt8
 |f=>[70,114,111,109]
 |s=>[115,101,110,100,101,114]
 |r=>[82,101,112,108,121,45,84,111]
 |t=>[84,111]
noncomputable def Ot.word:Ot->List UInt8
 |a=>[83,117,98,106,101,99,116]
 |b=>[67,111,110,116,101,110,116,45,73,68]
 |c=>[99,111,110,116,101,110,116,45,100,101,115,99,114,105,112,116,105,111,110]
 |d=>[67,111,110,116,101,110,116,45,76,97,110,103,117,97,103,101]
 |e=>[67,111,110,116,101,110,116,45,76,111,99,97,116,105,111,110]
noncomputable def Ot.raw:Ot->List UInt8
 |a=>[32,115]
 |b=>[32,32,60,105,64,120,62,32]
 |c=>[32,100,13,10,32,101]
 |d=>[32,101,110]
 |e=>[32,108]
noncomputable def Ot.body:Ot->List UInt8
 |a=>[115]
 |b=>[60,105,64,120,62]
 |c=>[100,32,101]
 |d=>[101,110]
 |e=>[108]
noncomputable def Rw.raw:Rw->List UInt8
 |c=>[32,34,65,44,32,92,34,66,34,32,40,99,32,40,100,41,41,32,60,64,114,44,64,115,58,108,64,91,49,46,50,93,62,44,13,10,32,109,32,64,32,122]
 |r=>32::r.body
noncomputable def Ch.word:Ch->List UInt8
 |a w _=>w.word
 |o k=>k.word
noncomputable def Ch.raw:Ch->List UInt8
 |a _ r=>r.raw
 |o k=>k.raw
noncomputable def Ch.line(c:Ch):List UInt8:=c.word++58::(c.raw++[13,10])
noncomputable def Ch.field(c:Ch):D:=.obj 15 [("name",.bytes c.word),("raw",.bytes c.raw)]
noncomputable def kS(o a e:D)(F:List D)(h:D)(tl:Loc):Loc:=("data",.d o)::("at",.d a)::("end",.d e)::("stop",.d e)::("rows",.own (.lst F))::("here",.d h)::tl
noncomputable def Fg:Bool->Loc
 |false=>[]
 |true=>[("last",.d (.aq 1)),("later",.d (.aq 2)),("colon",.d (.aq 3))]
noncomputable def oC(c:Ch):D:=.sb (.s 0::(c.line.map .b++[.n 0,.s 1]))
noncomputable def Ch.last(c:Ch):Int:=(c.line.length:Nat)-2
noncomputable def Kn(c:Ch):Loc:=[("last",.d (.si c.last [0])),("later",.d (.si (c.line.length:Nat) [0])),("colon",.d (.si (c.word.length:Nat) [0]))]
noncomputable abbrev cS:=aE (tabOf []) 6
theorem HU(c:Ch)(t:Bool):steps (wT cS 1900 3 45) (wB cS 1900 3 45) 1 (kS (oC c) (.aq 0) (.si ((c.line.length:Nat)+1) [0,2]) [.seg 2] iZ (Fg t))=
  .ok (kS (oC c) (.aq 0) (.si ((c.line.length:Nat)+1) [0,2]) [.seg 2,.tup [c.field,iZ,.si (c.line.length:Nat) [0]]] (.si (c.line.length:Nat) [0]) (Kn c)):=by
 cases c with
 |a w r=>rcases w with _|_<;>rcases r with _|_<;>rcases t with _|_<;>kernel_rfl
 |o k=>rcases k with _|_<;>rcases t with _|_<;>kernel_rfl
noncomputable def oF:D:=.sb [.s 0,.b 13,.b 10,.b 120]
noncomputable def Ac(o a e:D)(F:List D)(h:D)(tl:Loc):Loc:=("data",.d o)::("at",.d a)::("end",.d e)::("stop",.d e)::("rows",.d (.lst F))::("here",.d h)::tl
theorem Fh(t:Bool):bg (wT cS 1900 3 45) (wB cS 1900 3 45) 2 (kS oF (.aq 0) (.si 3 [0]) [.seg 2] iZ (Fg t))=
  .ok (.ret (.d (.tup [.lst [.seg 2],.si 2 [0]])),Ac oF (.aq 0) (.si 3 [0]) [.seg 2] iZ (("last",.d iZ)::("later",.d (.si 2 [0]))::(Fg t).drop 2)):=by
 rcases t with _|_<;>kernel_rfl
noncomputable abbrev vS(c:UInt8)(p q:List UInt8)(F:List D)(x y z w:D):Val:=DJ c [p,q] [[],[],F] [] [] [x,y,z,w]
theorem DP{c:UInt8}(B:c≠32/\c≠9){p q:List UInt8}{F:List D}{x y z w:D}(hp:p.length<big)(hq:q.length<big)(hF:F.length<big/\ ∀d∈F,Rl d)(hx:Rl x)(O:Rl y)(hz:Rl z)(X:Rl w):(vS c p q F x y z w).Ok:=
 zS B (aa hp (ah hq)) (aa ⟨by decide,ag⟩ (aa ⟨by decide,ag⟩ (ah hF))) (by decide) ag (aa hx (aa O (aa hz (ah X))))
noncomputable def IX(tl:Loc):Prop:=tl=[]\/ ∃x y z,Rl x/\Rl y/\Rl z/\tl=[(("last":Str),MV.d x),("later",.d y),("colon",.d z)]
theorem sg{tl:Loc}(h:IX tl): ∃t x y z,Rl x/\Rl y/\Rl z/\ ∀c p q F a,ax (vS c p q F a x y z) (Fg t)=tl:=by
 rcases h with rfl|⟨x,y,z,hx,O,hz,rfl⟩
 .exact⟨false,.none,.none,.none,Rl.none,Rl.none,Rl.none,λB B B B B=>rfl⟩
 .exact⟨true,x,y,z,hx,O,hz,λB B B B B=>rfl⟩
theorem qm(ρ:Val)(o a e:D)(F:List D)(h:D)(tl:Loc):ax ρ (kS o a e F h tl)=kS (gD ρ o) (gD ρ a) (gD ρ e) (gL ρ F) (gD ρ h) (ax ρ tl):=rfl
noncomputable def lines:List Ch->List UInt8
 |[]=>[]
 |c::O=>c.line++lines O
noncomputable def ai(O:List Ch):List UInt8:=lines O++[13,10,120]
theorem CF(c:Ch):c.line.length<=60/\2<=c.line.length:=by
 cases c with
 |a w r=>rcases w with _|_<;>rcases r with _|_<;>decide
 |o k=>rcases k with _|_<;>decide
theorem xa(c:Ch): ∃x t,c.line=x::t/\x≠32/\x≠9:=by
 cases c with
 |a w r=>rcases w with _|_<;>exact⟨_,_,rfl,by decide,by decide⟩
 |o k=>rcases k with _|_<;>exact⟨_,_,rfl,by decide,by decide⟩
theorem xc(O:List Ch): ∃x t,ai O=x::t/\x≠32/\x≠9:=by
 rcases O with _|⟨c,O⟩
 .exact⟨_,_,rfl,by decide,by decide⟩
 .obtain⟨x,t,e,h⟩:=xa c;exact⟨x,t++ai O,by show(c.line++lines O)++_=_;rw[e,List.append_assoc];rfl,h⟩
theorem tail_cons(c:Ch)(O:List Ch):ai (c::O)=c.line++ai O:=List.append_assoc _ _ _
theorem nE(O:List Ch):(ai O).length<=60*O.length+3:=by
 induction O with
 |nil=>decide
 |cons c O B=>
  have:=CF c;rw[tail_cons,List.length_append,List.length_cons];exact bp B this.1
noncomputable def CG(c:Ch)(p:Nat):D:=.tup [c.field,.int (p:Nat),.int ((p+c.line.length:Nat):Int)]
noncomputable def dI:List Ch->Nat->List D
 |[],_=>[]
 |c::O,p=>CG c p::dI O (p+c.line.length)
section
variable{m k:Nat}(hm:6<=m)(hk:45<=k){p:List UInt8}{F:List D}{a:D}{tl:Loc}(hp:p.length<big)(hF:F.length<big/\ ∀d∈F,Rl d)(ha:Rl a)(htl:IX tl)
include hm hk hp hF ha htl
theorem xd(c:Ch){x:UInt8}{q:List UInt8}(hx:x≠32/\x≠9)(hq:q.length<big): ∃ac,IX ac/\steps (wT (az m) 1900 3 k) (wB (az m) 1900 3 k) 1 (kS (.bytes (p++(c.line++x::q))) a (.int ((p++(c.line++x::q)).length:Nat)) F (.int (p.length:Nat)) tl)=
  .ok (kS (.bytes (p++(c.line++x::q))) a (.int ((p++(c.line++x::q)).length:Nat)) (F++[CG c p.length]) (.int ((p++c.line).length:Nat)) ac):=by
 refine hide λP9 O=> ?_;obtain⟨t,u,v,w,B,z,X,e⟩:=sg htl;refine O ?_;have H:=DP hx hp hq hF ha B z X;have h:=(eV H (aB (d:=0)) (n:=6) (m:=m) (by exact aj hm) hk (HU c t)).1 _ rfl;rw[qm,qm,e] at h;have eo:gD (vS x p q F a u v w) (oC c)= .bytes (p++(c.line++x::q)):=by
  show D.bytes (p++(vS x p q F a u v w).oct (c.line.map .b++[.n 0,.s 1]))=_;rw[jZ];show D.bytes (p++(c.line++x::(q++[])))=_;rw[List.append_nil]
 have ee:gD (vS x p q F a u v w) (.si ((c.line.length:Nat)+1) [0,2])= .int ((p++(c.line++x::q)).length:Nat):=by
  show D.int ((c.line.length:Nat)+1+((p.length+(q.length+0):Nat):Int))=_;simp only[List.length_append,List.length_cons];congr 1;omega
 have ez:gD (vS x p q F a u v w) iZ= .int (p.length:Nat):=congrArg D.int (d8 _);have el:gD (vS x p q F a u v w) (.si (c.line.length:Nat) [0])= .int ((p.length+c.line.length:Nat):Int):=by
  show D.int ((c.line.length:Nat)+(p.length:Nat))=_;congr 1;(simp+arith only[Int.natCast_add];done)
 have eF:gL (vS x p q F a u v w) [.seg 2]=F:=List.append_nil F;have al:gL (vS x p q F a u v w) [.seg 2,.tup [c.field,iZ,.si (c.line.length:Nat) [0]]]=F++[CG c p.length]:=by
  show F++[D.tup [gD (vS x p q F a u v w) c.field,gD (vS x p q F a u v w) iZ,gD (vS x p q F a u v w) (.si (c.line.length:Nat) [0])]]=_;rw[ez,el];rfl
 rw[eo,ee,ez,el,eF,al,show gD (vS x p q F a u v w) (.aq 0)=a from rfl] at h;refine⟨ax (vS x p q F a u v w) (Kn c),.inr ⟨_,_,_,Rl.int,Rl.int,Rl.int,rfl⟩,?_⟩;rw[List.length_append (as:=p) (bs:=c.line)];exact h
theorem xe{n:Nat}(hn:2<=n): ∃l,bg (wT (az m) 1900 3 k) (wB (az m) 1900 3 k) n (kS (.bytes (p++[13,10,120])) a (.int ((p++[13,10,120]).length:Nat)) F (.int (p.length:Nat)) tl)=
  .ok (.ret (.d (.tup [.lst F,.int ((p.length+2:Nat):Int)])),("data",.d (.bytes (p++[13,10,120])))::l):=by
 refine hide λP9 O=> ?_;obtain⟨t,u,v,w,B,z,X,e⟩:=sg htl;refine O ?_;have H:=DP (c:=65) (q:=[]) (by decide) hp (by decide) hF ha B z X;have h:=(iy (zO H (aB (d:=0)) (n:=6) (m:=m) (i:=1900) (j:=3) (by exact aj hm) hk) (rZ H (aB (d:=0)) (n:=6) (m:=m) (i:=1900) (j:=3) (by exact aj hm) hk) 2 n (kS oF (.aq 0) (.si 3 [0]) [.seg 2] iZ (Fg t)) hn).1 _ (Fh t);have eo:gD (vS 65 p [] F a u v w) oF= .bytes (p++[13,10,120]):=rfl;have ee:gD (vS 65 p [] F a u v w) (.si 3 [0])= .int ((p++[13,10,120]).length:Nat):=by
  show D.int (3+(p.length:Nat))=_;rw[List.length_append];exact congrArg D.int (Int.add_comm _ _)
 have ez:gD (vS 65 p [] F a u v w) iZ= .int (p.length:Nat):=congrArg D.int (d8 _);have e2:gD (vS 65 p [] F a u v w) (.si 2 [0])= .int ((p.length+2:Nat):Int):=by
  show D.int (2+(p.length:Nat))=_;congr 1;exact Int.add_comm _ _
 have eF:gL (vS 65 p [] F a u v w) [.seg 2]=F:=List.append_nil F;rw[qm,e,eo,ee,ez,eF,show gD (vS 65 p [] F a u v w) (.aq 0)=a from rfl] at h;refine⟨ax (vS 65 p [] F a u v w) ((Ac oF (.aq 0) (.si 3 [0]) [.seg 2] iZ (("last",.d iZ)::("later",.d (.si 2 [0]))::(Fg t).drop 2)).drop 1),h.trans ?_⟩;show Res.ok (Fl.ret (.d (.tup [gD (vS 65 p [] F a u v w) (.lst [.seg 2]),gD (vS 65 p [] F a u v w) (.si 2 [0])])),(("data":Str),MV.d (gD (vS 65 p [] F a u v w) oF))::ax (vS 65 p [] F a u v w) ((Ac oF (.aq 0) (.si 3 [0]) [.seg 2] iZ (("last",.d iZ)::("later",.d (.si 2 [0]))::(Fg t).drop 2)).drop 1))=_;rw[bc,eF,e2,eo]
end
theorem Ad: ∀(O:List Ch) (p:Nat),(dI O p).length=O.length/\ ∀d∈dI O p,Rl d:=by
 intro X;induction X with
 |nil=>
  intro B;exact⟨rfl,ag⟩
 |cons c O u=>
  intro p;exact⟨congrArg (· +1) (u _).1,aa Rl.tup (u _).2⟩
theorem uq{m k:Nat}(hm:6<=m)(hk:45<=k){a:D}(ha:Rl a): ∀(O:List Ch) (p:List UInt8) (F:List D) (tl:Loc) (n:Nat),(p++ai O).length<big->F.length+O.length<big->(∀d∈F,Rl d)->IX tl->O.length+2<=n->
  ∃l,bg (wT (az m) 1900 3 k) (wB (az m) 1900 3 k) n (kS (.bytes (p++ai O)) a (.int ((p++ai O).length:Nat)) F (.int (p.length:Nat)) tl)=
   .ok (.ret (.d (.tup [.lst (F++dI O p.length),.int ((p.length+(lines O).length+2:Nat):Int)])),("data",.d (.bytes (p++ai O)))::l):=by
 intro l9;induction l9 with
 |nil=>
  intro p F tl n X hF hR htl hn;obtain⟨l,h⟩:=xe hm hk (p:=p) (by rw[List.length_append] at X;exact aj X) ⟨by simp only[List.length_nil] at hF;exact aj hF,hR⟩ ha htl (n:=n) (by simp only[List.length_nil] at hn;exact aj hn);exact⟨l,by show _=Res.ok (Fl.ret (.d (.tup [.lst (F++[]),_])),_);rw[List.append_nil];exact h⟩
 |cons c O ap=>
  intro p F tl n X hF hR htl hn;simp only[List.length_cons] at hF hn;obtain⟨x,q,e,hx⟩:=xc O;have e1:p++ai (c::O)=p++(c.line++x::q):=by rw[tail_cons,e]
  have H:p++c.line++ai O=p++(c.line++x::q):=by rw[e,List.append_assoc]
  have ac:=X;rw[e1] at ac⊢;simp only[List.length_append,List.length_cons] at ac;obtain⟨B,an,u⟩:=xd hm hk (p:=p) (by exact aj ac) ⟨by exact aj hF,hR⟩ ha htl c hx (q:=q) (by exact aj ac);obtain⟨n,rfl⟩: ∃j,n=j+1:=⟨n-1,by exact dM (aj hn)⟩
  obtain⟨l,z⟩:=ap (p++c.line) (F++[CG c p.length]) B n (by rw[H,<-e1];exact X) (by rw[List.length_append,List.length_singleton];exact aj hF) (λd md=>(List.mem_append.mp md).elim (hR d) λmd=>by rw[List.mem_singleton.mp md];exact Rl.tup) an (by exact aj hn);rw[H] at z;refine⟨l,(dA 1 u).trans (z.trans ?_)⟩;rw[List.append_assoc,List.length_append];rw[show p.length+(lines (c::O)).length+2=p.length+c.line.length+(lines O).length+2 by show p.length+(c.line++lines O).length+2=_;rw[List.length_append];simp+arith only];rfl
noncomputable abbrev kT(o:D)(a e:D):Loc:=[("data",.d o),("at",.d a),("end",.d e)]
noncomputable def oW:D:=.sb [.s 0]
theorem Fi:aw 60 (xO (aE (tabOf []) 1) 1900) (ahead 1900 3) (kT oW (.si 0 [2]) iZ)= .ok (.next,kS oW (.si 0 [2]) iZ [] (.si 0 [2]) []):=by kernel_rfl
theorem CH{c:Nat->List MV->Res (MV×MV)}{o a e:D}:fy c 1900 [.d o,.d a,.d e]=(aw 60 (xO c 1900) (gf 1900).body (kT o a e)).bind (jV (gf 1900)):=dq (by kernel_rfl) (by kernel_rfl)
theorem Fj{o:D}{v:MV}{l:Loc}:jV (gf 1900) (.ret v,("data",.d o)::l)= .ok (v,.d o):=by kernel_rfl
theorem Ae:fz (aV 1900 3)=true:=by kernel_rfl
theorem gH{m:Nat}(hm:7<=m)(p:List UInt8)(O:List Ch)(hp:p.length<=1000)(hn:O.length<=8):az m 1900 [.d (.bytes (p++ai O)),.d (.int (p.length:Nat)),.d (.int ((p++ai O).length:Nat))]=
  .ok (.d (.tup [.lst (dI O p.length),.int ((p.length+(lines O).length+2:Nat):Int)]),.d (.bytes (p++ai O))):=by
 obtain⟨m,rfl⟩: ∃j,m=j+1:=⟨m-1,by exact dM (aj hm)⟩
 have b:(2000:Nat)<big:=by decide
 have B:=nE O;have X:(p++ai O).length<big:=by rw[List.length_append];exact Nat.lt_of_le_of_lt (Nat.add_le_add hp (Nat.le_trans B (Nat.add_le_add_right (Nat.mul_le_mul_left 60 hn) 3))) (by decide)
 rw[bY,CH];have H:(cb [p++ai O,p] [] [] [] []).Ok:=a_ (aa X (ah (by exact bp hp b))) ag (by decide) ag ag;have eo:gD (cb [p++ai O,p] [] [] [] []) oW= .bytes (p++ai O):=congrArg D.bytes (List.append_nil _);have ea:gD (cb [p++ai O,p] [] [] [] []) (.si 0 [2])= .int (p.length:Nat):=congrArg D.int (d8 _);have ee:gD (cb [p++ai O,p] [] [] [] []) iZ= .int ((p++ai O).length:Nat):=congrArg D.int (d8 _);have u:=(cj H (aB (d:=0)) (n:=1) (m:=m) (by exact aj hm) (Nat.le_refl 60) Fi).1 _ rfl;have u:aw 60 (xO (az m) 1900) (ahead 1900 3) (kT (.bytes (p++ai O)) (.int (p.length:Nat)) (.int ((p++ai O).length:Nat)))= .ok (.next,kS (.bytes (p++ai O)) (.int (p.length:Nat)) (.int ((p++ai O).length:Nat)) [] (.int (p.length:Nat)) []):=by
  have e2:ax (cb [p++ai O,p] [] [] [] []) (kT oW (.si 0 [2]) iZ)=kT (.bytes (p++ai O)) (.int (p.length:Nat)) (.int ((p++ai O).length:Nat)):=by
   rw[<-eo,<-ea,<-ee];rfl
  rw[e2] at u;refine u.trans ?_;show Res.ok (Fl.next,ax (cb [p++ai O,p] [] [] [] []) (kS oW (.si 0 [2]) iZ [] (.si 0 [2]) []))=_;rw[qm,eo,ea,ee];rfl
 obtain⟨l,z⟩:=uq (m:=m) (k:=56) (by exact aj hm) (by simp+arith only) (a:=.int (p.length:Nat)) Rl.int O p [] [] 3000 X (by simp only[List.length_nil];exact bp hn b) ag (.inl rfl) (by exact aj hn);rw[jY Ae (k:=56) rfl u z];exact Fj
noncomputable def HW(e:Expr):Expr:=la e e (tp:= λes=>es.headD (.Constant .none 0 default))
noncomputable def HX(e:Expr):List Expr:=la e [] (tp:=List.drop 1)
noncomputable abbrev IY:Expr:=HW (qk (aV 2000 1))
theorem CI:iV (aE (tabOf []) 1) 2000 40 IY [] [.tup [.aq 0,.aq 1,.aq 2]]= .ok [.aq 0]:=by kernel_rfl
theorem Af{m k:Nat}(hm:1<=m)(hk:40<=k): ∀(O:List Ch) (p:Nat),O.length<lim->iV (az m) 2000 k IY [] (dI O p)= .ok (O.map Ch.field):=by
 intro X;induction X with
 |nil=>
  intro B B;kernel_rfl
 |cons c O ac=>
  intro p z;have z:O.length+1<lim:=z;have ih:=ac (p+c.line.length) (by exact aj z);have H:(cb [] [] [] [] [c.field,.int (p:Nat),.int ((p+c.line.length:Nat):Int)]).Ok:=a_ ag ag (by decide) ag (aa Rl.obj (aa Rl.int (ah Rl.int)));have u:=(nD H (aB (d:=0)) (n:=1) (m:=m) (by exact aj hm) hk CI).1 _ rfl;exact kO (cl:=[]) u ih (by rw[List.length_map];exact aj z)
noncomputable def DQ:Nat×List MV×Res (MV×MV):=(1900,[.d (.aq 0),.d (.aq 1),.d (.aq 2)],.ok (.d (.tup [.lst [.seg 2],.aq 3]),.d (.aq 0)))
noncomputable def xf(o a e:D)(F:List D)(b:D):Loc:=[("data",.d o),("at",.d a),("end",.d e),("rows",.d (.lst F)),("body",.d b)]
theorem Fo:aw 60 (xO (aE (tabOf [DQ]) 1) 2000) (ahead 2000 1) (kT (.aq 0) (.aq 1) (.aq 2))= .ok (.next,xf (.aq 0) (.aq 1) (.aq 2) [.seg 2] (.aq 3)):=by kernel_rfl
theorem fB{m d:Nat}(hd:1<=d)(hm:d+2<=m){o a e b:D}(ho:Rl o)(ha:Rl a)(he:Rl e)(X:Rl b){O:List Ch}{p:Nat}(z:O.length<=8)(hS: ∀m,d<=m->az m 1900 [.d o,.d a,.d e]= .ok (.d (.tup [.lst (dI O p),b]),.d o)):
  az m 2000 [.d o,.d a,.d e]= .ok (.d (.tup [.lst (O.map Ch.field),b]),.d o):=by
 obtain⟨m,rfl⟩: ∃j,m=j+1:=⟨m-1,by exact dM (aj hm)⟩
 have bb:(2000:Nat)<big:=by decide
 have B:big<lim:=by decide
 have hr:=Ad O p;let ρ:Val:=cb [] [[],[],dI O p] [] [] [o,a,e,b];have H:ρ.Ok:=a_ ag (aa ⟨by decide,ag⟩ (aa ⟨by decide,ag⟩ (ah ⟨by exact nW z bb (Nat.le_of_eq hr.1),hr.2⟩))) (by decide) ag (aa ho (aa ha (aa he (ah X))));have e2:gD ρ (.lst [.seg 2])= .lst (dI O p):=by rw[bc];exact congrArg D.lst (List.append_nil _)
 have al:cM ρ d DQ:= λm hm=>by
  show Sm _ _ (az m 1900 [.d o,.d a,.d e]);rw[hS m hm];exact Sm.lI (Prod.ext (by show MV.d (.tup [gD ρ (.lst [.seg 2]),b])=_;rw[e2]) rfl)
 have u:=(cj H (av al aB) (n:=1) (m:=m) (by exact aj hm) (Nat.le_refl 60) Fo).1 _ rfl;have u:aw 60 (xO (az m) 2000) (ahead 2000 1) (kT o a e)= .ok (.next,xf o a e (dI O p) b):=by
  refine u.trans ?_;show Res.ok (Fl.next,[(("data":Str),MV.d o),("at",.d a),("end",.d e),("rows",.d (gD ρ (.lst [.seg 2]))),("body",.d b)])=_;rw[e2];rfl
 have hs:aG (dI O p)=false:=bk.mpr λd m=>(hr.2 d m).seg;have h:=kN (c:=az m) (i:=2000) (k:=56) (e:=IY) (l:=xf o a e (dI O p) b) (l':=xf o a e (dI O p) b) (d:=.lst (dI O p)) (items:=dI O p) (cl:=[]) (by kernel_rfl) (by kernel_rfl) (by show(if aG (dI O p) then none else some (dI O p))=_;rw[hs];rfl) (by kernel_rfl) (Af (by exact aj hm) (by simp+arith only) O p (by exact nW z bb B));rw[bY,dq (i:=2000) (l:=kT o a e) (by kernel_rfl) (by kernel_rfl)];have X:(gf 2000).body=ahead 2000 1++[aV 2000 1]:=by kernel_rfl
 rw[X,show(60:Nat)=(ahead 2000 1).length+58+1 by kernel_rfl,dH _ (by rw[show(ahead 2000 1).length+58+1=60 by kernel_rfl];exact u)];have e:aw 59 (xO (az m) 2000) [aV 2000 1] (xf o a e (dI O p) b)=((((ak 57 (xO (az m) 2000) IY (xf o a e (dI O p) b)).bind λ(v,l)=>(bu (ak 57 (xO (az m) 2000)) (HX (qk (aV 2000 1))) l).bind λ(vs,l)=>Res.ok (v.D::vs,l)).bind λ(ds,l)=>if ds.length<=lim then .ok (MV.d (.tup ds),l) else .stuck).bind λ(v,l)=>.ok (Fl.ret v,l)).bind λ(f,l)=>match f with
  | .next=>aw 58 (xO (az m) 2000) [] l
  |f=>.ok (f,l):=by kernel_rfl
 rw[e,h];kernel_rfl
end
section
noncomputable def nF:Loc->Loc->Bool
 |[],y=>y.isEmpty
 |a::x,y=>(match y with
  |b::y=>(a.1==b.1&&n7 a.2 b.2)&&nF x y
  |[]=>false)
theorem xg{a b:Loc}(h:nF a b=true):a=b:=by
 induction a generalizing b with
 |nil=>exact(List.isEmpty_iff.mp h).symm
 |cons x a B=>
  rcases b with _|⟨y,b⟩
  .cases h
  .obtain⟨u,z⟩:=Bool.and_eq_true_iff.mp (show((x.1==y.1&&n7 x.2 y.2)&&nF a b)=true from h);obtain⟨X,O⟩:=Bool.and_eq_true_iff.mp u;rw[B z,show x=y from Prod.ext (eq_of_beq X) (iP O)]
noncomputable def vl:Fl->Fl->Bool
 | .next,y=>(match y with
  | .next=>true
  |_=>false)
 | .ret v,y=>(match y with
  | .ret w=>n7 v w
  |_=>false)
 |_,_=>false
noncomputable def j3(r:Res (Fl×Loc))(f:Fl)(l:Loc):Bool:=match r with
 | .ok p=>vl p.1 f&&nF p.2 l
 |_=>false
theorem d9{r:Res (Fl×Loc)}{f:Fl}{l:Loc}(h:j3 r f l=true):r= .ok (f,l):=by
 rcases r with _|_|p
 .cases h
 .cases h
 .obtain⟨u,z⟩:=Bool.and_eq_true_iff.mp (show(vl p.1 f&&nF p.2 l)=true from h);obtain⟨g,l'⟩:=p;have:g=f:=by
   rcases g with _|_<;>rcases f with _|_<;>first|(cases u;done)|rfl|exact congrArg Fl.ret (iP u)
  rw[this,show l'=l from xg z]
noncomputable def sj(r:Res (MV×MV))(a b:MV):Bool:=match r with
 | .ok p=>n7 p.1 a&&n7 p.2 b
 |_=>false
theorem sk{r:Res (MV×MV)}{a b:MV}(h:sj r a b=true):r= .ok (a,b):=by
 rcases r with _|_|p
 .cases h
 .cases h
 .obtain⟨u,z⟩:=Bool.and_eq_true_iff.mp (show(n7 p.1 a&&n7 p.2 b)=true from h);rw[<-iP u,<-iP z]
noncomputable def isList(r:Res (List D))(l:List D):Bool:=match r with
 | .ok p=>qg (kJ 12) p l
 |_=>false
theorem xh{r:Res (List D)}{l:List D}(h:isList r l=true):r= .ok l:=by
 rcases r with _|_|p
 .cases h
 .cases h
 .rw[lY (jX 12) (show qg (kJ 12) p l=true from h)]
inductive Nm where
 |w (w:Wd)|o (k:Ot)
noncomputable def Ch.nm:Ch->Nm
 |a w _=>.w w
 |o k=>.o k
noncomputable def Nm.word:Nm->List UInt8
 |w x=>x.word
 |o k=>k.word
noncomputable def Nm.low(n:Nm):List Nat:=n.word.map λc=>let k:=c.toNat;if 65<=k/\k<=90 then k+32 else k
noncomputable def Nm.all(f:Nm->Bool):Bool:=[Wd.f,.s,.r,.t].all (λx=>f (.w x))&&[Ot.a,.b,.c,.d,.e].all λx=>f (.o x)
theorem Nm.iT{f:Nm->Bool}(h:Nm.all f=true)(n:Nm):f n=true:=by
 obtain⟨u,z⟩:=Bool.and_eq_true_iff.mp h;cases n with
 |w x=>exact List.all_eq_true.mp u x (by rcases x with _|_<;>decide)
 |o x=>exact List.all_eq_true.mp z x (by rcases x with _|_<;>decide)
noncomputable def lJ(a b:D):D:=.obj 15 [("name",a),("raw",b)]
theorem Ag:Nm.all (λn=>sj (aE (tabOf []) 3 1502 [.d (lJ (.bytes n.word) (.aq 1))]) (.d (.str n.low)) (.d (lJ (.bytes n.word) (.aq 1))))=true:=by kernel_rfl
theorem sm{m:Nat}(hm:3<=m)(c:Ch):az m 1502 [.d c.field]= .ok (.d (.str c.nm.low),.d c.field):=by
 have H:(cb [] [] [] [] [.none,.bytes c.raw]).Ok:=a_ ag ag (by decide) ag (aa Rl.none (ah Rl.bytes));have h:=(bK H (aB (d:=0)) (m:=m) (by exact aj hm) (sk (Nm.iT Ag c.nm))).1 _ rfl;have e:gD (cb [] [] [] [] [.none,.bytes c.raw]) (lJ (.bytes c.nm.word) (.aq 1))=c.field:=by rcases c with _|_<;>rfl
 rw[List.map_cons,List.map_nil,show gM (cb [] [] [] [] [.none,.bytes c.raw]) (.d (lJ (.bytes c.nm.word) (.aq 1)))= .d (gD (cb [] [] [] [] [.none,.bytes c.raw]) (lJ (.bytes c.nm.word) (.aq 1))) from rfl,e] at h;refine h.trans ?_;show Res.ok (MV.d (.str c.nm.low),MV.d (gD (cb [] [] [] [] [.none,.bytes c.raw]) (lJ (.bytes c.nm.word) (.aq 1))))=_;rw[e]
noncomputable def Ch.body:Ch->List UInt8
 |a _ r=>r.body
 |o k=>k.body
theorem CJ:([Rw.a,.b,.c,.d,.e,.f,.g].all (λr=>sj (aE (tabOf []) 4 2200 [.d (.bytes r.raw)]) (.d (.bytes r.body)) (.d (.bytes r.raw)))&&[Ot.a,.b,.c,.d,.e].all (λr=>sj (aE (tabOf []) 4 2200 [.d (.bytes r.raw)]) (.d (.bytes r.body)) (.d (.bytes r.raw))))=true:=by kernel_rfl
theorem iE{m:Nat}(hm:4<=m)(c:Ch):az m 2200 [.d (.bytes c.raw)]= .ok (.d (.bytes c.body),.d (.bytes c.raw)):=by
 have H:(cb [] [] [] [] []).Ok:=a_ ag ag (by decide) ag ag;obtain⟨u,z⟩:=Bool.and_eq_true_iff.mp CJ;have e:sj (aE (tabOf []) 4 2200 [.d (.bytes c.raw)]) (.d (.bytes c.body)) (.d (.bytes c.raw))=true:=by
  cases c with
  |a w r=>exact List.all_eq_true.mp u r (by rcases r with _|_<;>decide)
  |o k=>exact List.all_eq_true.mp z k (by rcases k with _|_<;>decide)
 exact(bK H (aB (d:=0)) (m:=m) (by exact aj hm) (sk e)).1 _ rfl
inductive Fw where
 |date|b8|j4|so|sq|Ah|vm|fE|su|df|jq
 deriving DecidableEq
noncomputable def Fw.list:List Fw:=[.date,.b8,.j4,.so,.sq,.Ah,.vm,.fE,.su,.df,.jq]
noncomputable def Fw.str:Fw->List Nat
 |date=>[100,97,116,101]
 |b8=>[115,117,98,106,101,99,116]
 |j4=>[105,110,45,114,101,112,108,121,45,116,111]
 |so=>[109,101,115,115,97,103,101,45,105,100]
 |sq=>[99,111,110,116,101,110,116,45,116,121,112,101]
 |Ah=>[99,111,110,116,101,110,116,45,116,114,97,110,115,102,101,114,45,101,110,99,111,100,105,110,103]
 |vm=>[99,111,110,116,101,110,116,45,105,100]
 |fE=>[99,111,110,116,101,110,116,45,100,101,115,99,114,105,112,116,105,111,110]
 |su=>[99,111,110,116,101,110,116,45,100,105,115,112,111,115,105,116,105,111,110]
 |df=>[99,111,110,116,101,110,116,45,108,97,110,103,117,97,103,101]
 |jq=>[99,111,110,116,101,110,116,45,108,111,99,97,116,105,111,110]
noncomputable def Fw.hit:Fw->Nm->Bool
 |b8,.o .a=>true
 |vm,.o .b=>true
 |fE,.o .c=>true
 |df,.o .d=>true
 |jq,.o .e=>true
 |_,_=>false
noncomputable def bC(w:Fw):List Ch->Option (List UInt8)
 |[]=>none
 |c::O=>bif w.hit c.nm then some c.body else bC w O
noncomputable def Fp:Option (List UInt8)->D
 |none=>.none
 |some b=>.bytes b
noncomputable def outF:Option (List UInt8)->Fl
 |none=>.next
 |some b=>.ret (.d (.bytes b))
noncomputable abbrev aH(w:Fw)(cs:List Ch):D:=Fp (bC w cs)
theorem Fw.mem(w:Fw):w∈Fw.list:=by rcases w with _|_<;>decide
noncomputable def gI(f w x:D)(u:Loc):Loc:=("fields",.d f)::("word",.d w)::("wanted",.d x)::u
noncomputable def CK(n:Nm):Nat×List MV×Res (MV×MV):=(1502,[.d (lJ (.aq 1) (.aq 2))],.ok (.d (.str n.low),.d (lJ (.aq 1) (.aq 2))))
noncomputable def CL:Nat×List MV×Res (MV×MV):=(2200,[.d (.aq 2)],.ok (.d (.aq 3),.d (.aq 2)))
theorem Fq:Fw.list.all (λw=>Nm.all λn=>j3 (wB (aE (tabOf [CK n,CL]) 1) 2400 1 40 (gI (.aq 0) (.str w.str) (.str w.str) [("field",.d (lJ (.aq 1) (.aq 2)))]))
  (if w.hit n then .ret (.d (.aq 3)) else .next) (gI (.aq 0) (.str w.str) (.str w.str) [("field",.d (lJ (.aq 1) (.aq 2)))]))=true:=by kernel_rfl
theorem Ft:Fw.list.all (λw=>j3 (aw 60 (xO (aE (tabOf []) 3) 2400) (ahead 2400 1) [("fields",.d (.aq 0)),("word",.d (.str w.str))]) .next (gI (.aq 0) (.str w.str) (.str w.str) []))=true:=by kernel_rfl
theorem Ai{c:Nat->List MV->Res (MV×MV)}:r8 (xO c 2400) (aV 2400 1)=true:=by kernel_rfl
theorem dU(O:List Ch): ∀d∈O.map Ch.field,Rl d:= λd m=>by
 obtain⟨c,_,rfl⟩:=List.mem_map.mp m;exact Rl.obj
theorem gJ(O:List Ch):itemsOf (.lst (O.map Ch.field))=some (O.map Ch.field):=by
 show(if aG (O.map Ch.field) then none else some (O.map Ch.field))=_;rw[bk.mpr λd m=>(dU O d m).seg];rfl
section
variable{m k:Nat}(hm:5<=m)(hk:40<=k){f:D}(hf:Rl f)(w:Fw)
include hm hk hf
theorem CM(c:Ch):wB (az m) 2400 1 k (gI f (.str w.str) (.str w.str) [("field",.d c.field)])= .ok (if w.hit c.nm then .ret (.d (.bytes c.body)) else .next,gI f (.str w.str) (.str w.str) [("field",.d c.field)]):=by
 have H:(cb [] [] [] [] [f,.bytes c.word,.bytes c.raw,.bytes c.body]).Ok:=a_ ag ag (by decide) ag (aa hf (aa Rl.bytes (aa Rl.bytes (ah Rl.bytes))));have e:gD (cb [] [] [] [] [f,.bytes c.word,.bytes c.raw,.bytes c.body]) (lJ (.aq 1) (.aq 2))=c.field:=rfl;have u:cM (cb [] [] [] [] [f,.bytes c.word,.bytes c.raw,.bytes c.body]) 4 (CK c.nm):= λm hm=>by
  show Sm _ _ (az m 1502 [.d c.field]);rw[sm (by exact aj hm) c];exact Sm.ok
 have O:cM (cb [] [] [] [] [f,.bytes c.word,.bytes c.raw,.bytes c.body]) 4 CL:= λm hm=>by
  show Sm _ _ (az m 2200 [.d (.bytes c.raw)]);rw[iE hm c];exact Sm.ok
 have h:=d9 (Nm.iT (List.all_eq_true.mp Fq w w.mem) c.nm);have h:=(rZ H (av u (av O aB)) (n:=1) (m:=m) (i:=2400) (j:=1) (by exact aj hm) hk _).1 _ h;refine Eq.trans ?_ (h.trans ?_)
 .rfl
 .cases w.hit c.nm<;>rfl
theorem CN: ∀(O:List Ch) (tl:Loc),(tl=[]\/ ∃c:Ch,tl=[(("field":Str),MV.d c.field)])->∃H,forL (n6 (aV 2400 1)) (wB (az m) 2400 1 k) (O.map Ch.field) (gI f (.str w.str) (.str w.str) tl)= .ok (outF (bC w O),gI f (.str w.str) (.str w.str) H):=by
 intro l9;induction l9 with
 |nil=>
  intro tl B;exact⟨tl,rfl⟩
 |cons c O u=>
  intro tl al;have X:ay (gI f (.str w.str) (.str w.str) tl) (n6 (aV 2400 1)) c.field= .ok (gI f (.str w.str) (.str w.str) [("field",.d c.field)]):=by
   rcases al with rfl|⟨c',rfl⟩<;>kernel_rfl
  have h:=CM hm hk hf w c;show∃H,forL _ _ (c.field::O.map Ch.field) _=Res.ok (outF (bif w.hit c.nm then some c.body else bC w O),_);rcases q:w.hit c.nm with _|_
  .rw[q] at h;obtain⟨H,z⟩:=u [("field",.d c.field)] (.inr ⟨c,rfl⟩);exact⟨H,(nz X h).trans z⟩
  .rw[q] at h;exact⟨_,vi X h⟩
end
theorem cI{m:Nat}(hm:6<=m)(w:Fw)(O:List Ch):az m 2400 [.d (.lst (O.map Ch.field)),.d (.str w.str)]= .ok (.d (aH w O),.d (.lst (O.map Ch.field))):=by
 obtain⟨m,rfl⟩: ∃j,m=j+1:=⟨m-1,by exact dM (aj hm)⟩
 have hf:Rl (.lst (O.map Ch.field)):=Rl.lst (dU O);have H:(cb [] [] [] [] [.lst (O.map Ch.field)]).Ok:=a_ ag ag (by decide) ag (ah hf);have h0:=(cj H (aB (d:=0)) (n:=3) (m:=m) (by exact aj hm) (Nat.le_refl 60) (d9 (List.all_eq_true.mp Ft w w.mem))).1 _ rfl;have h0:aw 60 (xO (az m) 2400) (ahead 2400 1) [("fields",.d (.lst (O.map Ch.field))),("word",.d (.str w.str))]= .ok (.next,gI (.lst (O.map Ch.field)) (.str w.str) (.str w.str) []):=h0;rw[bY,dq (i:=2400) (l:=[("fields",.d (.lst (O.map Ch.field))),("word",.d (.str w.str))]) (by kernel_rfl) (by kernel_rfl)];obtain⟨B,X⟩:=CN (m:=m) (k:=58) (by exact aj hm) (by simp+arith only) hf w O [] (.inl rfl);have u:aF (ak 58 (xO (az m) 2400)) (qf (aV 2400 1)) (gI (.lst (O.map Ch.field)) (.str w.str) (.str w.str) [])= .ok (.lst (O.map Ch.field),gI (.lst (O.map Ch.field)) (.str w.str) (.str w.str) []):=by kernel_rfl
 unfold aH;rcases e:bC w O with _|b
 .rw[e] at X;rw[iA Ai (k:=58) rfl h0 u (gJ O) X (r:=.ok (.ret (.d .none),gI (.lst (O.map Ch.field)) (.str w.str) (.str w.str) B)) (by kernel_rfl)];kernel_rfl
 .rw[e] at X;rw[ny Ai (k:=58) rfl h0 u (gJ O) X];kernel_rfl
inductive Aw where
 |w (w:Wd)|cc|GN
noncomputable def Aw.str:Aw->List Nat
 |w .f=>[102,114,111,109]
 |w .s=>[115,101,110,100,101,114]
 |w .r=>[114,101,112,108,121,45,116,111]
 |w .t=>[116,111]
 |cc=>[99,99]
 |GN=>[98,99,99]
noncomputable def Aw.all(f:Aw->Bool):Bool:=((f (.w .f)&&f (.w .s))&&(f (.w .r)&&f (.w .t)))&&(f .cc&&f .GN)
theorem Aw.iT{f:Aw->Bool}(h:Aw.all f=true)(a:Aw):f a=true:=by
 obtain⟨u,z⟩:=Bool.and_eq_true_iff.mp h;obtain⟨X,O⟩:=Bool.and_eq_true_iff.mp u;obtain⟨B,H⟩:=Bool.and_eq_true_iff.mp z;obtain⟨h7,h8⟩:=Bool.and_eq_true_iff.mp X;obtain⟨h9,ac⟩:=Bool.and_eq_true_iff.mp O;cases a with
 |w x=>rcases x with _|_<;>assumption
 |cc=>exact B
 |GN=>exact H
noncomputable def Aw.hit:Aw->Nm->Bool
 |w x,.w y=>decide (x=y)
 |_,_=>false
noncomputable def rowsOf(a:Aw):List Ch->List Rw
 |[]=>[]
 |c::O=>match c with
  | .a w r=>bif a.hit (.w w) then r::rowsOf a O else rowsOf a O
  | .o _=>rowsOf a O
noncomputable abbrev HY:Expr:=qk (aV 2300 1)
theorem Fu:Aw.all (λa=>Nm.all λn=>isList (iV (aE (tabOf [CK n,CL]) 1) 2300 40 HY [("wanted",.d (.str a.str))] [lJ (.aq 1) (.aq 2)]) (if a.hit n then[.aq 3] else[]))=true:=by kernel_rfl
theorem Fv:Aw.all (λa=>j3 (aw 60 (xO (aE (tabOf []) 3) 2300) (ahead 2300 1) [("fields",.d (.aq 0)),("word",.d (.str a.str))]) .next (gI (.aq 0) (.str a.str) (.str a.str) []))=true:=by kernel_rfl
theorem dW(a:Aw)(O:List Ch):(rowsOf a O).length<=O.length:=by
 induction O with
 |nil=>exact Nat.le_refl _
 |cons c O B=>
  cases c with
  |o k=>exact Nat.le_succ_of_le B
  |a w r=>
   show(bif a.hit (.w w) then r::rowsOf a O else rowsOf a O).length<=O.length+1;cases a.hit (.w w)
   .exact Nat.le_succ_of_le B
   .exact Nat.succ_le_succ B
theorem CP{m k:Nat}(hm:5<=m)(hk:40<=k)(a:Aw): ∀(O:List Ch),O.length<lim->iV (az m) 2300 k HY [("wanted",.d (.str a.str))] (O.map Ch.field)= .ok (((rowsOf a O).map Rw.body).map .bytes):=by
 intro X;induction X with
 |nil=>
  intro B;kernel_rfl
 |cons c O al=>
  intro hl;have hl:O.length+1<lim:=hl;have ih:=al (by exact aj hl);have H:(cb [] [] [] [] [.none,.bytes c.word,.bytes c.raw,.bytes c.body]).Ok:=a_ ag ag (by decide) ag (aa Rl.none (aa Rl.bytes (aa Rl.bytes (ah Rl.bytes))));have r1:cM (cb [] [] [] [] [.none,.bytes c.word,.bytes c.raw,.bytes c.body]) 4 (CK c.nm):= λm hm=>by
   show Sm _ _ (az m 1502 [.d c.field]);rw[sm (by exact aj hm) c];exact Sm.ok
  have r2:cM (cb [] [] [] [] [.none,.bytes c.word,.bytes c.raw,.bytes c.body]) 4 CL:= λm hm=>by
   show Sm _ _ (az m 2200 [.d (.bytes c.raw)]);rw[iE hm c];exact Sm.ok
  have u:=(nD H (av r1 (av r2 aB)) (n:=1) (m:=m) (by exact aj hm) hk (xh (Nm.iT (Aw.iT Fu a) c.nm))).1 _ rfl;have u:iV (az m) 2300 k HY [("wanted",.d (.str a.str))] [c.field]= .ok (if a.hit c.nm then[.bytes c.body] else[]):=by
   refine u.trans ?_;cases a.hit c.nm<;>rfl
  have z:=kO (cl:=[("wanted",.d (.str a.str))]) u ih (by rw[List.length_map,List.length_map];have:=dW a O;exact bp hl this);refine z.trans ?_;cases c with
  |o k=>rcases a with _|_<;>rfl
  |a w r=>
   show _=Res.ok (((bif a.hit (.w w) then r::rowsOf a O else rowsOf a O).map Rw.body).map D.bytes);show Res.ok ((if a.hit (.w w) then[D.bytes r.body] else[])++_)=_;cases a.hit (.w w)<;>rfl
theorem gN{m:Nat}(hm:6<=m)(a:Aw)(O:List Ch)(z:O.length<=8):az m 2300 [.d (.lst (O.map Ch.field)),.d (.str a.str)]= .ok (.own (.lst (((rowsOf a O).map Rw.body).map .bytes)),.d (.lst (O.map Ch.field))):=by
 obtain⟨m,rfl⟩: ∃j,m=j+1:=⟨m-1,by exact dM (aj hm)⟩
 have B:8<lim:=by decide
 have hf:Rl (.lst (O.map Ch.field)):=Rl.lst (dU O);have H:(cb [] [] [] [] [.lst (O.map Ch.field)]).Ok:=a_ ag ag (by decide) ag (ah hf);have h0:=(cj H (aB (d:=0)) (n:=3) (m:=m) (by exact aj hm) (Nat.le_refl 60) (d9 (Aw.iT Fv a))).1 _ rfl;have h0:aw 60 (xO (az m) 2300) (ahead 2300 1) [("fields",.d (.lst (O.map Ch.field))),("word",.d (.str a.str))]= .ok (.next,gI (.lst (O.map Ch.field)) (.str a.str) (.str a.str) []):=h0;have h:=kN (c:=az m) (i:=2300) (k:=57) (e:=HY) (l:=gI (.lst (O.map Ch.field)) (.str a.str) (.str a.str) []) (l':=gI (.lst (O.map Ch.field)) (.str a.str) (.str a.str) []) (d:=.lst (O.map Ch.field)) (items:=O.map Ch.field) (cl:=[("wanted",.d (.str a.str))]) (by kernel_rfl) (by kernel_rfl) (gJ O) (by kernel_rfl) (CP (by exact aj hm) (by simp+arith only) a O (by exact bp z B));rw[bY,dq (i:=2300) (l:=[("fields",.d (.lst (O.map Ch.field))),("word",.d (.str a.str))]) (by kernel_rfl) (by kernel_rfl)];have X:(gf 2300).body=ahead 2300 1++[aV 2300 1]:=by kernel_rfl
 rw[X,show(60:Nat)=(ahead 2300 1).length+58+1 by kernel_rfl,dH _ (by rw[show(ahead 2300 1).length+58+1=60 by kernel_rfl];exact h0)];have e:aw 59 (xO (az m) 2300) [aV 2300 1] (gI (.lst (O.map Ch.field)) (.str a.str) (.str a.str) [])=(((ak 58 (xO (az m) 2300) HY (gI (.lst (O.map Ch.field)) (.str a.str) (.str a.str) [])).bind λ(v,l)=>.ok (Fl.ret v,l)).bind λ(f,l)=>match f with
  | .next=>aw 58 (xO (az m) 2300) [] l
  |f=>.ok (f,l)):=by kernel_rfl
 rw[e,h];kernel_rfl
end
noncomputable def kU(n l d:D):D:=.lst [n,.none,l,d]
noncomputable def Rw.vals:Rw->List D
 |a=>[kU .none (.bytes [106]) (.bytes [120,46,111,114,103])]
 |b=>[kU (.bytes [74,111,32,66]) (.bytes [107]) (.bytes [121])]
 |c=>[kU (.bytes [65,44,32,34,66]) (.bytes [108]) (.bytes [91,49,46,50,93]),kU .none (.bytes [109]) (.bytes [122])]
 |d=>[kU .none (.bytes [117,115]) .none,kU .none (.bytes [110]) (.bytes [111]),kU .none (.bytes [112]) (.bytes [113]),kU .none .none .none]
 |e=>[kU .none (.bytes [110,111,110,101]) .none,kU .none .none .none]
 |f=>[]
 |g=>[]
noncomputable def iW(p:D)(F:List D)(u:Loc):Loc:=("places",.d p)::("found",.own (.lst F))::u
noncomputable def sT:Bool->Loc
 |false=>[]
 |true=>[("place",.d (.aq 1))]
noncomputable def Rw.sT(r:Rw)(t:Bool):Loc:=match r.places.getLast? with
 |some x=>[("place",.d x)]
 |none=>Mine.sT t
theorem JJ(r:Rw)(t:Bool):nB (n6 (aV 12200 1)) (wB (aE (tabOf []) 6) 12200 1 50) r.places (iW (.aq 0) [.seg 2] (sT t))= .ok (iW (.aq 0) (.seg 2::r.vals) (r.sT t)):=by
 rcases r with _|_<;>rcases t with _|_<;>kernel_rfl
theorem lZ(r:Rw):r.vals.length<=4/\ ∀d∈r.vals,Rl d:=by
 have a: ∀{x y z:D},Rl x->Rl y->Rl z->Rl (kU x y z):= λhx O hz=>Rl.lst (aa hx (aa Rl.none (aa O (ah hz))));cases r with
 |a=>exact⟨by decide,ah (a Rl.none Rl.bytes Rl.bytes)⟩
 |b=>exact⟨by decide,ah (a Rl.bytes Rl.bytes Rl.bytes)⟩
 |c=>exact⟨by decide,aa (a Rl.bytes Rl.bytes Rl.bytes) (ah (a Rl.none Rl.bytes Rl.bytes))⟩
 |d=>exact⟨by decide,aa (a Rl.none Rl.bytes Rl.none) (aa (a Rl.none Rl.bytes Rl.bytes) (aa (a Rl.none Rl.bytes Rl.bytes) (ah (a Rl.none Rl.none Rl.none))))⟩
 |e=>exact⟨by decide,aa (a Rl.none Rl.bytes Rl.none) (ah (a Rl.none Rl.none Rl.none))⟩
 |f=>exact⟨by decide,ag⟩
 |g=>exact⟨by decide,ag⟩
theorem qn: ∀(O:List Rw),(O.flatMap Rw.vals).length<=4*O.length/\ ∀d∈O.flatMap Rw.vals,Rl d:=by
 intro X;induction X with
 |nil=>
  exact⟨Nat.le_refl _,ag⟩
 |cons r O B=>
  have u:=lZ r;have z:=B;rw[List.flatMap_cons];exact⟨by rw[List.length_append,List.length_cons];exact bp u.1 z.1,λd m=>(List.mem_append.mp m).elim (u.2 d) (z.2 d)⟩
noncomputable def Fx(u:Loc):Prop:=u=[]\/ ∃x,Rl x/\u=[(("place":Str),MV.d x)]
theorem qo(ρ:Val)(p:D)(F:List D)(u:Loc):ax ρ (iW p F u)=iW (gD ρ p) (gL ρ F) (ax ρ u):=rfl
theorem xi{m k:Nat}(B:6<=m)(O:50<=k){p:D}(hp:Rl p){F:List D}(hF:F.length<big/\ ∀d∈F,Rl d){u:Loc}(z:Fx u)(r:Rw):
  ∃ac,Fx ac/\nB (n6 (aV 12200 1)) (wB (az m) 12200 1 k) r.places (iW p F u)= .ok (iW p (F++r.vals) ac):=by
 obtain⟨t,x,hx,e⟩: ∃t x,Rl x/\ax (cb [] [[],[],F] [] [] [p,x]) (sT t)=u:=by
  rcases z with rfl|⟨x,hx,rfl⟩
  .exact⟨false,.none,Rl.none,rfl⟩
  .exact⟨true,x,hx,rfl⟩
 have H:(cb [] [[],[],F] [] [] [p,x]).Ok:=a_ ag (aa ⟨by decide,ag⟩ (aa ⟨by decide,ag⟩ (ah hF))) (by decide) ag (aa hp (ah hx));have h:=(E9 H (n6 (aV 12200 1)) (rZ H (aB (d:=0)) (n:=6) (m:=m) (i:=12200) (j:=1) (by exact aj B) O) r.places (iW (.aq 0) [.seg 2] (sT t))).1 _ (JJ r t);have ep:r.places.map (gD (cb [] [[],[],F] [] [] [p,x]))=r.places:=by rcases r with _|_<;>rfl
 have X:gL (cb [] [[],[],F] [] [] [p,x]) [.seg 2]=F:=List.append_nil F;have al:gL (cb [] [[],[],F] [] [] [p,x]) (.seg 2::r.vals)=F++r.vals:=by
  rw[bt];congr 1;rcases r with _|_<;>rfl
 rw[qo,qo,ep,X,al,e,show gD (cb [] [[],[],F] [] [] [p,x]) (.aq 0)=p from rfl] at h;refine⟨_,?_,h⟩;cases r with
 |f=>show Fx (ax _ (sT t));rw[e];exact z
 |g=>show Fx (ax _ (sT t));rw[e];exact z
 |_=>exact .inr ⟨_,Rl.obj,rfl⟩
theorem xj{m k:Nat}(hm:6<=m)(hk:50<=k){p:D}(H:Rl p): ∀(O:List Rw) (F:List D) (tl:Loc),F.length+4*O.length<big->(∀d∈F,Rl d)->Fx tl->∃al,Fx al/\forL (n6 (aV 12200 1)) (wB (az m) 12200 1 k) (O.flatMap Rw.places) (iW p F tl)= .ok (.next,iW p (F++O.flatMap Rw.vals) al):=by
 intro X;induction X with
 |nil=>
  intro F tl B B ht;exact⟨tl,ht,by show _=Res.ok (Fl.next,iW p (F++[]) tl);rw[List.append_nil];rfl⟩
 |cons r O a0=>
  intro F tl hF hR aI;simp only[List.length_cons] at hF;have hv:=lZ r;refine hide λP9 b9=> ?_;obtain⟨a1,an,u⟩:=xi hm hk H ⟨by exact aj hF,hR⟩ aI r;obtain⟨a2,ap,z⟩:=a0 (F++r.vals) a1 (by rw[List.length_append];exact bp hF hv.1) (λd md=>(List.mem_append.mp md).elim (hR d) (hv.2 d)) an;refine b9 ?_;refine⟨a2,ap,?_⟩;rw[List.flatMap_cons,kM u,z,List.flatMap_cons,List.append_assoc]
noncomputable def xK:List D->D
 |[]=>.none
 |x::r=>.lst (x::r)
noncomputable def Aj(p:D)(F:List D)(u:Loc):Loc:=("places",.d p)::("found",.d (.lst F))::u
theorem JK(t:Bool):aw 50 (xO (aE (tabOf []) 1) 12200) (behind 12200 1) (iW (.aq 0) [] (sT t))= .ok (.ret (.d .none),Aj (.aq 0) [] (sT t)):=by rcases t with _|_<;>kernel_rfl
theorem JL(t:Bool):aw 50 (xO (aE (tabOf []) 1) 12200) (behind 12200 1) (iW (.aq 0) [.aq 2,.seg 2] (sT t))= .ok (.ret (.d (.lst [.aq 2,.seg 2])),Aj (.aq 0) [.aq 2,.seg 2] (sT t)):=by rcases t with _|_<;>kernel_rfl
theorem Fy{c:Nat->List MV->Res (MV×MV)}{p:D}:aw 60 (xO c 12200) (ahead 12200 1) [("places",.d p)]= .ok (.next,iW p [] []):=by kernel_rfl
theorem Fz{c:Nat->List MV->Res (MV×MV)}:r8 (xO c 12200) (aV 12200 1)=true:=by kernel_rfl
theorem FA{m k:Nat}(B:1<=m)(O:50<=k){p:D}(hp:Rl p){F:List D}(hF:F.length<big/\ ∀d∈F,Rl d){u:Loc}(z:Fx u):aw k (xO (az m) 12200) (behind 12200 1) (iW p F u)= .ok (.ret (.d (xK F)),Aj p F u):=by
 rcases F with _|⟨y,F⟩
 .obtain⟨t,x,hx,e⟩: ∃t x,Rl x/\ax (cb [] [] [] [] [p,x]) (sT t)=u:=by
   rcases z with rfl|⟨x,hx,rfl⟩
   .exact⟨false,.none,Rl.none,rfl⟩
   .exact⟨true,x,hx,rfl⟩
  have H:(cb [] [] [] [] [p,x]).Ok:=a_ ag ag (by decide) ag (aa hp (ah hx));have h:=(cj H (aB (d:=0)) (n:=1) (m:=m) (by exact aj B) O (JK t)).1 _ rfl;rw[qo,e] at h;refine h.trans ?_;show Res.ok (Fl.ret _,(("places":Str),MV.d p)::(("found":Str),MV.d (.lst []))::ax (cb [] [] [] [] [p,x]) (sT t))=_;rw[e];rfl
 .obtain⟨t,x,hx,e⟩: ∃t x,Rl x/\ax (cb [] [[],[],F] [] [] [p,x,y]) (sT t)=u:=by
   rcases z with rfl|⟨x,hx,rfl⟩
   .exact⟨false,.none,Rl.none,rfl⟩
   .exact⟨true,x,hx,rfl⟩
  have H:(cb [] [[],[],F] [] [] [p,x,y]).Ok:=a_ ag (aa ⟨by decide,ag⟩ (aa ⟨by decide,ag⟩ (ah ⟨Nat.lt_of_succ_lt hF.1,λd m=>hF.2 d (.tail _ m)⟩))) (by decide) ag (aa hp (aa hx (ah (hF.2 y (.head _)))));have h:=(cj H (aB (d:=0)) (n:=1) (m:=m) (by exact aj B) O (JL t)).1 _ rfl;have X:gL (cb [] [[],[],F] [] [] [p,x,y]) [.aq 2,.seg 2]=y::F:=congrArg (y:: ·) (List.append_nil F);rw[qo,e,X] at h;refine h.trans ?_;show Res.ok (Fl.ret (.d (gD (cb [] [[],[],F] [] [] [p,x,y]) (.lst [.aq 2,.seg 2]))),(("places":Str),MV.d p)::(("found":Str),MV.d (gD (cb [] [[],[],F] [] [] [p,x,y]) (.lst [.aq 2,.seg 2])))::ax (cb [] [[],[],F] [] [] [p,x,y]) (sT t))=_;rw[e,bc,X];rfl
theorem dX{m:Nat}(B:7<=m)(O:List Rw)(hn:O.length<=8):az m 12200 [.d (.lst (O.flatMap Rw.places))]= .ok (.d (xK (O.flatMap Rw.vals)),.d (.lst (O.flatMap Rw.places))):=by
 obtain⟨m,rfl⟩: ∃j,m=j+1:=⟨m-1,by exact dM (aj B)⟩
 have b:(400:Nat)<big:=by decide
 have ac:=iS O;have hv:=qn O;have H:Rl (.lst (O.flatMap Rw.places)):=Rl.lst ac.2;rw[bY,dq (i:=12200) (l:=[("places",.d (.lst (O.flatMap Rw.places)))]) (by kernel_rfl) (by kernel_rfl)];obtain⟨ap,al,X⟩:=xj (m:=m) (k:=58) (by exact aj B) (by simp+arith only) H O [] [] (by simp only[List.length_nil];exact bp (Nat.mul_le_mul_left 4 hn) b) ag (.inl rfl);have u:aF (ak 58 (xO (az m) 12200)) (qf (aV 12200 1)) (iW (.lst (O.flatMap Rw.places)) [] [])= .ok (.lst (O.flatMap Rw.places),iW (.lst (O.flatMap Rw.places)) [] []):=by kernel_rfl
 have z:itemsOf (.lst (O.flatMap Rw.places))=some (O.flatMap Rw.places):=by
  show(if aG (O.flatMap Rw.places) then none else some (O.flatMap Rw.places))=_;rw[bk.mpr λd m=>(ac.2 d m).seg];rfl
 rw[iA Fz (k:=58) rfl Fy u z X (FA (by exact aj B) (by simp+arith only) H ⟨by show(O.flatMap Rw.vals).length<big;exact nW (Nat.mul_le_mul_left 4 hn) b hv.1,hv.2⟩ al)];rfl
noncomputable def aW(O:List Rw):List D:=if fO O then[] else O.flatMap Rw.vals
theorem lK{m:Nat}(B:7<=m)(O:List Rw)(z:O.length<=8):az m 12200 [.d (.lst (addr O))]= .ok (.d (xK (aW O)),.d (.lst (addr O))):=by
 delta addr aW
 rcases fO O with _|_
 .exact dX B O z
 .exact dX B [] (by decide)
theorem fi(O:List Rw):(aW O).length<=4*O.length/\ ∀d∈aW O,Rl d:=by
 unfold aW;rcases fO O with _|_
 .exact qn O
 .exact⟨Nat.zero_le _,ag⟩
theorem CQ(O:List Rw):(addr O).length<=2*O.length/\ ∀d∈addr O,Rl d:=by
 unfold addr;rcases fO O with _|_
 .exact iS O
 .exact⟨Nat.zero_le _,ag⟩
theorem jr{xs:List D}(h: ∀d∈xs,Rl d):Rl (xK xs):=by
 rcases xs with _|⟨x,r⟩
 .exact Rl.none
 .exact Rl.lst h
noncomputable def GO(a:List D)(b:D):D:=match a with
 |[]=>b
 |x::r=>.lst (x::r)
noncomputable abbrev qC(w:Wd)(cs:List Ch):D:=xK (aW (rowsOf (.w w) cs))
noncomputable def dw(O:List Ch):List D:=[.none,aH .b8 O,qC .f O,GO (aW (rowsOf (.w .s) O)) (qC .f O),GO (aW (rowsOf (.w .r) O)) (qC .f O),qC .t O,.none,.none,.none,.none]
noncomputable def IZ(b:Bool)(k:Nat):D:=if b then .none else .lst [.seg k]
noncomputable def GP(b:Bool)(k:Nat):D:=if b then .aq 1 else .lst [.seg k]
noncomputable def Ko(s r:Bool):Rows:=[(5400,[.d (.aq 0),.d (.str (Aw.w .f).str)],.ok (.own (.lst [.seg 0]),.d (.aq 0))),(5400,[.d (.aq 0),.d (.str (Aw.w .s).str)],.ok (.own (.lst [.seg 1]),.d (.aq 0))),(5400,[.d (.aq 0),.d (.str (Aw.w .r).str)],.ok (.own (.lst [.seg 2]),.d (.aq 0))),(5400,[.d (.aq 0),.d (.str (Aw.w .t).str)],.ok (.own (.lst [.seg 3]),.d (.aq 0))),(5400,[.d (.aq 0),.d (.str Aw.cc.str)],.ok (.own (.lst []),.d (.aq 0))),(5400,[.d (.aq 0),.d (.str Aw.GN.str)],.ok (.own (.lst []),.d (.aq 0))),(12200,[.d (.lst [.seg 0])],.ok (.d (.aq 1),.d (.lst [.seg 0]))),(12200,[.d (.lst [.seg 1])],.ok (.d (IZ s 4),.d (.lst [.seg 1]))),(12200,[.d (.lst [.seg 2])],.ok (.d (IZ r 5),.d (.lst [.seg 2]))),(12200,[.d (.lst [.seg 3])],.ok (.d (.aq 2),.d (.lst [.seg 3]))),(12200,[.d (.lst [])],.ok (.d .none,.d (.lst []))),(2400,[.d (.aq 0),.d (.str Fw.date.str)],.ok (.d .none,.d (.aq 0))),(2400,[.d (.aq 0),.d (.str Fw.b8.str)],.ok (.d (.aq 3),.d (.aq 0))),(2400,[.d (.aq 0),.d (.str Fw.j4.str)],.ok (.d .none,.d (.aq 0))),(2400,[.d (.aq 0),.d (.str Fw.so.str)],.ok (.d .none,.d (.aq 0)))]
theorem FC(s r:Bool):aE (tabOf (Ko s r)) 2 12300 [.d (.aq 0),.d (.fn 5400)]= .ok (.own (.lst [.none,.aq 3,.aq 1,GP s 4,GP r 5,.aq 2,.none,.none,.none,.none]),.d (.aq 0)):=by
 rcases s with _|_<;>rcases r with _|_<;>kernel_rfl
theorem xk{w:Fw}(h: ∀n,w.hit n=false)(O:List Ch):bC w O=none:=by
 induction O with
 |nil=>rfl
 |cons c O B=>
  show(bif w.hit c.nm then some c.body else bC w O)=none;rw[h];exact B
theorem FD(w:Fw)(h:w= .date\/w= .j4\/w= .so\/w= .sq\/w= .Ah\/w= .su)(n:Nm):w.hit n=false:=by
 rcases h with rfl|rfl|rfl|rfl|rfl|rfl<;>rfl
theorem dY{m:Nat}(B:6<=m){w:Fw}(h:w= .date\/w= .j4\/w= .so\/w= .sq\/w= .Ah\/w= .su)(O:List Ch):az m 2400 [.d (.lst (O.map Ch.field)),.d (.str w.str)]= .ok (.d .none,.d (.lst (O.map Ch.field))):=by
 have:=cI B w O;unfold aH at this;rw[xk (FD w h) O] at this;exact this
theorem Ak{m:Nat}(B:19<=m)(a:Aw)(O:List Ch)(z:O.length<=8):az m 5400 [.d (.lst (O.map Ch.field)),.d (.str a.str)]= .ok (.own (.lst (addr (rowsOf a O))),.d (.lst (O.map Ch.field))):=
 eQ (d:=17) (Nat.le_refl _) B (Rl.lst (dU O)) Rl.str (Nat.le_trans (dW a O) z) λm B=>gN (by exact aj B) a O z
theorem vn(O:List Ch):rowsOf .cc O=[]/\rowsOf .GN O=[]:=by
 induction O with
 |nil=>exact⟨rfl,rfl⟩
 |cons c O B=>rcases c with _|_<;>exact B
theorem aA{ρ:Val}{d i:Nat}{u:List MV}{a b a' b':MV}{args':List MV}(H:u.map (gM ρ)=args')(z:gM ρ a=a')(X:gM ρ b=b')(h: ∀m,d<=m->az m i args'= .ok (a',b')):cM ρ d (i,u,.ok (a,b)):= λm B=>by
 rw[H,h m B];exact Sm.lI (Prod.ext z X)
theorem fF{m:Nat}(B:21<=m)(O:List Ch)(hn:O.length<=8):az m 12300 [.d (.lst (O.map Ch.field)),.d (.fn 5400)]= .ok (.own (.lst (dw O)),.d (.lst (O.map Ch.field))):=by
 have b:(400:Nat)<big:=by decide
 have hf:Rl (.lst (O.map Ch.field)):=Rl.lst (dU O);have hA: ∀w,(addr (rowsOf (.w w) O)).length<big/\ ∀d∈addr (rowsOf (.w w) O),Rl d:= λw=>by
  have u:=CQ (rowsOf (.w w) O);have h2:=dW (.w w) O;exact⟨by exact sV (Nat.mul_le_mul_left 8 hn) b u.1 (Nat.mul_le_mul_left 8 h2),u.2⟩
 have hV: ∀w,(aW (rowsOf (.w w) O)).length<big/\ ∀d∈aW (rowsOf (.w w) O),Rl d:= λw=>by
  have u:=fi (rowsOf (.w w) O);have h2:=dW (.w w) O;exact⟨by exact sV (Nat.mul_le_mul_left 4 hn) b u.1 (Nat.mul_le_mul_left 4 h2),u.2⟩
 have ap:Rl (aH .b8 O):=by
  unfold aH;rcases bC .b8 O with _|_
  .exact Rl.none
  .exact Rl.bytes
 let ρ:Val:=cb [] [addr (rowsOf (.w .f) O),addr (rowsOf (.w .s) O),addr (rowsOf (.w .r) O),addr (rowsOf (.w .t) O),aW (rowsOf (.w .s) O),aW (rowsOf (.w .r) O)] [] [] [.lst (O.map Ch.field),qC .f O,qC .t O,aH .b8 O];have H:ρ.Ok:=a_ ag (aa (hA _) (aa (hA _) (aa (hA _) (aa (hA _) (aa (hV _) (ah (hV _))))))) (by decide) ag (aa hf (aa (jr (hV _).2) (aa (jr (hV _).2) (ah ap))));have seg: ∀k,k<500->k≠7->gD ρ (.lst [.seg k])= .lst (ρ.L k):= λk u h2=>by
  rw[bc];show D.lst (ρ.l k++[])=_;rw[List.append_nil,show ρ.l k=ρ.L k from if_pos (by show k<1000;exact aj u)]
 have am: ∀a,(rowsOf a O).length<=8:= λa=>Nat.le_trans (dW a O) hn;have sv: ∀(w:Wd) (k:Nat),k<500->k≠7->ρ.L k=aW (rowsOf (.w w) O)->gD ρ (IZ (aW (rowsOf (.w w) O)).isEmpty k)=qC w O/\gD ρ (GP (aW (rowsOf (.w w) O)).isEmpty k)=GO (aW (rowsOf (.w w) O)) (qC .f O):= λw k u h2 X=>by
  have h4:=seg k u h2;rw[X] at h4;show gD ρ (IZ (aW (rowsOf (.w w) O)).isEmpty k)=xK (aW (rowsOf (.w w) O))/\_;rcases e:aW (rowsOf (.w w) O) with _|⟨x,r⟩
  .exact⟨rfl,rfl⟩
  .rw[e] at h4;exact⟨h4,h4⟩
 have hs:=sv .s 4 (by decide) (by decide) rfl;have hr:=sv .r 5 (by decide) (by decide) rfl;have T:gc ρ (tabOf (Ko (aW (rowsOf (.w .s) O)).isEmpty (aW (rowsOf (.w .r) O)).isEmpty)) 19:=by
  have fa: ∀(a:Aw) (k:Nat),k<500->k≠7->ρ.L k=addr (rowsOf a O)->cM ρ 19 (5400,[.d (.aq 0),.d (.str a.str)],.ok (.own (.lst [.seg k]),.d (.aq 0))):= λa k u h2 X=>by
   have h4:=seg k u h2;rw[bc,X] at h4;exact aA rfl (congrArg (λz=>match z with| .lst l=>MV.own (.lst l)|d=>.d d) h4) rfl λm B=>Ak B a O hn
  have fn: ∀(a:Aw),rowsOf a O=[]->cM ρ 19 (5400,[.d (.aq 0),.d (.str a.str)],.ok (.own (.lst []),.d (.aq 0))):= λa h=>aA (args':=[.d (.lst (O.map Ch.field)),.d (.str a.str)]) (a':=.own (.lst (addr (rowsOf a O)))) (b':=.d (.lst (O.map Ch.field))) rfl (by rw[h];rfl) rfl λm B=>Ak B a O hn;have lv: ∀(w:Wd) (k:Nat) (v:D),k<500->k≠7->ρ.L k=addr (rowsOf (.w w) O)->gD ρ v=qC w O->cM ρ 19 (12200,[.d (.lst [.seg k])],.ok (.d v,.d (.lst [.seg k]))):= λw k v u h2 X h5=>by
   have h4:=seg k u h2;rw[X] at h4;exact aA (congrArg (λz=>[MV.d z]) h4) (congrArg MV.d h5) (congrArg MV.d h4) λm B=>lK (by exact aj B) _ (am _)
  refine av (fa (.w .f) 0 (by decide) (by decide) rfl) (av (fa (.w .s) 1 (by decide) (by decide) rfl) (av (fa (.w .r) 2 (by decide) (by decide) rfl) (av (fa (.w .t) 3 (by decide) (by decide) rfl) (av (fn .cc (vn O).1) (av (fn .GN (vn O).2)
   (av (lv .f 0 _ (by decide) (by decide) rfl rfl) (av (lv .s 1 _ (by decide) (by decide) rfl hs.1) (av (lv .r 2 _ (by decide) (by decide) rfl hr.1) (av (lv .t 3 _ (by decide) (by decide) rfl rfl) (av ?_ (av ?_ (av ?_ (av ?_ (av ?_ aB))))))))))))))
  .exact aA rfl rfl rfl λm B=>dX (by exact aj B) [] (by decide)
  .exact aA rfl rfl rfl λm B=>dY (by exact aj B) (.inl rfl) O
  .exact aA rfl rfl rfl λm B=>cI (by exact aj B) .b8 O
  .exact aA rfl rfl rfl λm B=>dY (by exact aj B) (.inr (.inl rfl)) O
  .exact aA rfl rfl rfl λm B=>dY (by exact aj B) (.inr (.inr (.inl rfl))) O
 have h:=(bK H T (n:=2) (m:=m) (by exact aj B) (FC _ _)).1 _ rfl;refine h.trans ?_;show Res.ok (MV.own (.lst (gL ρ [.none,.aq 3,.aq 1,GP (aW (rowsOf (.w .s) O)).isEmpty 4,GP (aW (rowsOf (.w .r) O)).isEmpty 5,.aq 2,.none,.none,.none,.none])),MV.d (.lst (O.map Ch.field)))=_;have aI: ∀b k,aC (GP b k)=false:= λb k=>by rcases b with _|_<;>rfl
 rw[cL (bk.mpr (aa rfl (aa rfl (aa rfl (aa (aI _ _) (aa (aI _ _) (aa rfl (aa rfl (aa rfl (aa rfl (aa rfl ag)))))))))))];simp only[List.map_cons,List.map_nil,hs.2,hr.2];rfl
noncomputable def HZ:List Nat:=[116,101,120,116]
noncomputable def FE:List Nat:=[112,108,97,105,110]
noncomputable def H0:List Nat:=[99,104,97,114,115,101,116]
noncomputable def FF:List Nat:=[117,115,45,97,115,99,105,105]
noncomputable def H3:List Nat:=[55,98,105,116]
noncomputable def H4:List Nat:=[109,101,115,115,97,103,101]
noncomputable def JM:List Nat:=[114,102,99,56,50,50]
noncomputable def fj:D:=.obj 83 [("top",.str HZ),("sub",.str FE),("params",.dN [(H0,.str FF)])]
noncomputable def Al:D:=.obj 83 [("top",.str H4),("sub",.str JM),("params",.dN [])]
noncomputable def fk(b y e f k i:D):List (Str×D):=[("begin",b),("body",y),("end",e),("fields",f),("kind",k),("encoding",.str H3),("kids",.lst []),("inner",i)]
noncomputable def KY:Rows:=[(2000,[.d (.aq 0),.d (.aq 1),.d (.aq 2)],.ok (.d (.tup [.aq 3,.aq 4]),.d (.aq 0))),(2400,[.d (.aq 3),.d (.str Fw.sq.str)],.ok (.d .none,.d (.aq 3))),(2400,[.d (.aq 3),.d (.str Fw.Ah.str)],.ok (.d .none,.d (.aq 3)))]
theorem FG(b:Bool):aE (tabOf KY) 6 11400 [.d (.aq 0),.d (.aq 1),.d (.aq 2),.d (.int (if b then 1 else 0)),.d (.bool false)]= .ok (.own (.obj 108 (fk (.aq 1) (.aq 4) (.aq 2) (.aq 3) fj .none)),.d (.aq 0)):=by
 rcases b with _|_<;>kernel_rfl
theorem iU{m d:Nat}(hd:6<=d)(B:d+6<=m){o a e y:D}(ho:Rl o)(X:Rl a)(z:Rl e)(hy:Rl y)(O:List Ch)(b:Bool)(u: ∀m,d<=m->az m 2000 [.d o,.d a,.d e]= .ok (.d (.tup [.lst (O.map Ch.field),y]),.d o)):
  az m 11400 [.d o,.d a,.d e,.d (.int (if b then 1 else 0)),.d (.bool false)]= .ok (.own (.obj 108 (fk a y e (.lst (O.map Ch.field)) fj .none)),.d o):=by
 have H:(cb [] [] [] [] [o,a,e,.lst (O.map Ch.field),y]).Ok:=a_ ag ag (by decide) ag (aa ho (aa X (aa z (aa (Rl.lst (dU O)) (ah hy)))));refine((bK H (av ?_ (av ?_ (av ?_ aB))) (d:=d) (n:=6) (m:=m) (by exact aj B) (FG b)).1 _ rfl).trans rfl
 .exact aA rfl rfl rfl λm B=>u m B
 .exact aA rfl rfl rfl λm B=>dY (by exact bp hd B) (.inr (.inr (.inr (.inl rfl)))) O
 .exact aA rfl rfl rfl λm B=>dY (by exact bp hd B) (.inr (.inr (.inr (.inr (.inl rfl))))) O
noncomputable def cq(p:Nat)(O:List Ch):List (Str×D):=fk (.int (p:Nat)) (.int ((p+(lines O).length+2:Nat):Int)) (.int ((p+(ai O).length:Nat):Int)) (.lst (O.map Ch.field)) fj .none
theorem j5{m:Nat}(B:15<=m)(p:List UInt8)(O:List Ch)(H:p.length<=1000)(z:O.length<=8)(b:Bool):az m 11400 [.d (.bytes (p++ai O)),.d (.int (p.length:Nat)),.d (.int ((p++ai O).length:Nat)),.d (.int (if b then 1 else 0)),.d (.bool false)]=
  .ok (.own (.obj 108 (cq p.length O)),.d (.bytes (p++ai O))):=by
 have h:=iU (d:=9) (by decide) (m:=m) (by exact aj B) (o:=.bytes (p++ai O)) (a:=.int (p.length:Nat)) (e:=.int ((p++ai O).length:Nat)) (y:=.int ((p.length+(lines O).length+2:Nat):Int)) Rl.bytes Rl.int Rl.int Rl.int O b
  λm B=>fB (d:=7) (by decide) (by exact aj B) Rl.bytes Rl.int Rl.int Rl.int z λm B=>gH (by exact aj B) p O H z
 unfold cq;rw[List.length_append] at h⊢;exact h
theorem JN(o:List UInt8)(ls:List (List D))(l7:List (List UInt8))(O:List (List D))(os:List D):gD (cb [o] ls l7 O os) oE= .bytes o/\gD (cb [o] ls l7 O os) iZ= .int (o.length:Nat):=⟨congrArg D.bytes (List.append_nil o),congrArg D.int (d8 _)⟩
noncomputable def j6:List (Str×D):=fk (.aq 0) (.aq 1) (.aq 2) (.aq 3) (.aq 4) (.aq 5)
theorem FH:aE (tabOf [(11400,[.d oE,.d (.int 0),.d iZ,.d (.int 0),.d (.bool false)],.ok (.own (.obj 108 j6),.d oE))]) 2 11500 [.d oE]= .ok (.own (.obj 108 j6),.d oE):=by kernel_rfl
theorem dJ{m d:Nat}(B:d+2<=m){o:List UInt8}(ho:o.length<big){a y e f k i:D}(O:Rl a)(hy:Rl y)(he:Rl e)(hf:Rl f)(hk:Rl k)(u:Rl i)
  (h: ∀m,d<=m->az m 11400 [.d (.bytes o),.d (.int 0),.d (.int (o.length:Nat)),.d (.int 0),.d (.bool false)]= .ok (.own (.obj 108 (fk a y e f k i)),.d (.bytes o))):az m 11500 [.d (.bytes o)]= .ok (.own (.obj 108 (fk a y e f k i)),.d (.bytes o)):=by
 have H:(cb [o] [] [] [] [a,y,e,f,k,i]).Ok:=a_ (ah ho) ag (by decide) ag (aa O (aa hy (aa he (aa hf (aa hk (ah u))))));obtain⟨eo,ez⟩:=JN o [] [] [] [a,y,e,f,k,i];have X:=(bK H (av (aA (a:=.own (.obj 108 j6)) (b:=.d oE) (args':=[.d (.bytes o),.d (.int 0),.d (.int (o.length:Nat)),.d (.int 0),.d (.bool false)]) (a':=.own (.obj 108 (fk a y e f k i))) (b':=.d (.bytes o)) (by rw[<-eo,<-ez];rfl) rfl (congrArg MV.d eo) h) aB) (n:=2) (m:=m) (by exact aj B) FH).1 _ rfl;rw[show[MV.d oE].map (gM (cb [o] [] [] [] [a,y,e,f,k,i]))=[.d (.bytes o)] from congrArg (λz=>[MV.d z]) eo] at X;exact X.trans (congrArg Res.ok (Prod.ext rfl (congrArg MV.d eo)))
theorem bZ(O:List Ch):Rl (.lst (O.map Ch.field))/\Rl fj:=⟨Rl.lst (dU O),Rl.obj⟩
theorem dK(p:List UInt8)(O:List Ch)(H:p.length<=1000)(z:O.length<=8):(p++ai O).length<big:=by
 have b:(2000:Nat)<big:=by decide
 have B:=nE O;rw[List.length_append];exact Nat.lt_of_le_of_lt (Nat.add_le_add H (Nat.le_trans B (Nat.add_le_add_right (Nat.mul_le_mul_left 60 z) 3))) (by decide)
theorem i7{m:Nat}(B:17<=m)(O:List Ch)(z:O.length<=8):az m 11500 [.d (.bytes (ai O))]= .ok (.own (.obj 108 (cq 0 O)),.d (.bytes (ai O))):=
 dJ (d:=15) (by exact aj B) (dK [] O (by decide) z) Rl.int Rl.int Rl.int (bZ O).1 (bZ O).2 Rl.none λm B=>by
  exact j5 B [] O (by decide) z false
noncomputable def dC:List UInt8:=[99,111,110,116,101,110,116,45,116,121,112,101,58,32,77,101,115,115,97,103,101,47,82,70,67,56,50,50,13,10,13,10]
noncomputable def oO:D:=.sb (dC.map .b++[.s 0])
noncomputable def ur:D:=.obj 15 [("name",.bytes [99,111,110,116,101,110,116,45,116,121,112,101]),("raw",.bytes [32,77,101,115,115,97,103,101,47,82,70,67,56,50,50])]
noncomputable def H5:Nat×List MV×Res (MV×MV):=(11400,[.d oO,.d (.int 32),.d (.si 32 [0]),.d (.int 1),.d (.bool false)],.ok (.own (.obj 108 j6),.d oO))
noncomputable def uu:List (Str×D):=fk (.int 0) (.int 32) (.si 32 [0]) (.lst [ur]) Al (.obj 108 j6)
theorem FI:aE (tabOf [H5]) 12 11400 [.d oO,.d (.int 0),.d (.si 32 [0]),.d (.int 0),.d (.bool false)]= .ok (.own (.obj 108 uu),.d oO):=by kernel_rfl
noncomputable def j8(O:List Ch):List (Str×D):=fk (.int 0) (.int 32) (.int ((dC++ai O).length:Nat)) (.lst [ur]) Al (.obj 108 (cq 32 O))
theorem FJ(o:List UInt8)(ls:List (List D))(l7:List (List UInt8))(O:List (List D))(os:List D):gD (cb [o] ls l7 O os) oO= .bytes (dC++o)/\gD (cb [o] ls l7 O os) (.si 32 [0])= .int ((dC++o).length:Nat):=by
 refine⟨?_,?_⟩
 .show D.bytes ((cb [o] ls l7 O os).oct (dC.map .b++[.s 0]))=_;rw[jZ];exact congrArg (λz=>D.bytes (dC++z)) (List.append_nil o)
 .show D.int (32+(o.length:Nat))=_;rw[List.length_append];rfl
theorem sx{m:Nat}(B:27<=m)(O:List Ch)(z:O.length<=8):az m 11400 [.d (.bytes (dC++ai O)),.d (.int 0),.d (.int ((dC++ai O).length:Nat)),.d (.int 0),.d (.bool false)]= .ok (.own (.obj 108 (j8 O)),.d (.bytes (dC++ai O))):=by
 have ht:=dK [] O (by decide) z;let ρ:Val:=cb [ai O] [] [] [] [.int 32,.int ((32+(lines O).length+2:Nat):Int),.int ((32+(ai O).length:Nat):Int),.lst (O.map Ch.field),fj,.none];have H:ρ.Ok:=a_ (ah ht) ag (by decide) ag (aa Rl.int (aa Rl.int (aa Rl.int (aa (bZ O).1 (aa (bZ O).2 (ah Rl.none))))));obtain⟨eo,ez⟩:=FJ (ai O) [] [] [] [.int 32,.int ((32+(lines O).length+2:Nat):Int),.int ((32+(ai O).length:Nat):Int),.lst (O.map Ch.field),fj,.none];have am:cM ρ 15 H5:=aA (a:=.own (.obj 108 j6)) (b:=.d oO) (args':=[.d (.bytes (dC++ai O)),.d (.int 32),.d (.int ((dC++ai O).length:Nat)),.d (.int 1),.d (.bool false)]) (a':=.own (.obj 108 (cq 32 O))) (b':=.d (.bytes (dC++ai O)))
  (by rw[<-eo,<-ez];rfl) rfl (congrArg MV.d eo) λm B=>j5 B dC O (by decide) z true
 have X:=(bK H (av am aB) (n:=12) (m:=m) (by exact aj B) FI).1 _ rfl;have u:[MV.d oO,.d (.int 0),.d (.si 32 [0]),.d (.int 0),.d (.bool false)].map (gM ρ)=[.d (.bytes (dC++ai O)),.d (.int 0),.d (.int ((dC++ai O).length:Nat)),.d (.int 0),.d (.bool false)]:=by rw[<-eo,<-ez];rfl
 rw[u] at X;refine X.trans (congrArg Res.ok (Prod.ext ?_ (congrArg MV.d eo)));unfold j8;rw[<-ez];rfl
theorem nG{m:Nat}(B:29<=m)(O:List Ch)(z:O.length<=8):az m 11500 [.d (.bytes (dC++ai O))]= .ok (.own (.obj 108 (j8 O)),.d (.bytes (dC++ai O))):=
 dJ (d:=27) (by exact aj B) (dK dC O (by decide) z) Rl.int Rl.int Rl.int (Rl.lst (ah Rl.obj)) Rl.obj Rl.obj λm B=>sx B O z
theorem CR:aE (tabOf [(12300,[.d (.aq 3),.d (.fn 5400)],.ok (.own (.lst [.seg 0]),.d (.aq 3)))]) 2 12400 [.d (.aq 6),.d (.obj 108 j6)]= .ok (.own (.lst [.seg 0]),.d (.aq 6)):=by kernel_rfl
theorem j9(O:List Ch):(dw O).length=10/\ ∀d∈dw O,Rl d:=by
 have H: ∀w,Rl (qC w O):= λw=>jr (fi _).2;have u: ∀w,Rl (GO (aW (rowsOf (.w w) O)) (qC .f O)):= λw=>by
  have h:=fi (rowsOf (.w w) O);rcases e:aW (rowsOf (.w w) O) with _|⟨x,r⟩
  .exact H .f
  .rw[e] at h;exact Rl.lst h.2
 have hs:Rl (aH .b8 O):=by
  unfold aH;rcases bC .b8 O with _|_
  .exact Rl.none
  .exact Rl.bytes
 exact⟨rfl,aa Rl.none (aa hs (aa (H _) (aa (u _) (aa (u _) (aa (H _) (aa Rl.none (aa Rl.none (aa Rl.none (ah Rl.none)))))))))⟩
theorem iF{m:Nat}(B:23<=m)(O:List Ch)(hn:O.length<=8)(p:Nat){o:D}(ho:Rl o):az m 12400 [.d o,.d (.obj 108 (cq p O))]= .ok (.own (.lst (dw O)),.d o):=by
 have hd:=j9 O;have b:10<big:=by decide
 have H:(cb [] [dw O] [] [] [.int (p:Nat),.int ((p+(lines O).length+2:Nat):Int),.int ((p+(ai O).length:Nat):Int),.lst (O.map Ch.field),fj,.none,o]).Ok:=
  a_ ag (ah ⟨by exact bp (Nat.le_of_eq hd.1) b,hd.2⟩) (by decide) ag (aa Rl.int (aa Rl.int (aa Rl.int (aa (bZ O).1 (aa (bZ O).2 (aa Rl.none (ah ho)))))))
 have u:gL (cb [] [dw O] [] [] [.int (p:Nat),.int ((p+(lines O).length+2:Nat):Int),.int ((p+(ai O).length:Nat):Int),.lst (O.map Ch.field),fj,.none,o]) [.seg 0]=dw O:=List.append_nil _;have X:=(bK H (av (aA (a:=.own (.lst [.seg 0])) (b:=.d (.aq 3)) (a':=.own (.lst (dw O))) rfl (congrArg (λz=>MV.own (.lst z)) u) rfl λm B=>fF B O hn) aB) (n:=2) (m:=m) (by exact aj B) CR).1 _ rfl;exact X.trans (congrArg Res.ok (Prod.ext (congrArg (λz=>MV.own (.lst z)) u) rfl))
theorem FK:aE (tabOf []) 4 11600 [.d (.sb [.s 0,.b 120]),.d (.si 0 [0]),.d (.si 1 [0])]= .ok (.d (.int 1),.d (.sb [.s 0,.b 120])):=by kernel_rfl
theorem sy{m:Nat}(B:4<=m){p:List UInt8}(O:p.length<big):az m 11600 [.d (.bytes (p++[120])),.d (.int (p.length:Nat)),.d (.int ((p++[120]).length:Nat))]= .ok (.d (.int 1),.d (.bytes (p++[120]))):=by
 have H:(cb [p] [] [] [] []).Ok:=a_ (ah O) ag (by decide) ag ag;have X:=(bK H (aB (d:=0)) (n:=4) (m:=m) (by exact aj B) FK).1 _ rfl;have z:gD (cb [p] [] [] [] []) (.si 0 [0])= .int (p.length:Nat):=congrArg D.int (d8 _);have u:gD (cb [p] [] [] [] []) (.si 1 [0])= .int ((p++[120]).length:Nat):=by
  show D.int (1+(p.length:Nat))=_;rw[List.length_append];exact congrArg D.int (Int.add_comm _ _)
 rw[<-z,<-u];exact X
noncomputable def Kq(e l:D):List (Str×D):=fk (.aq 1) (.si 0 [0]) (.si 1 [0]) (.aq 3) fj .none
noncomputable def I0(b:Bool):D:=if b then .bytes [101,110] else .none
noncomputable def Kr(b:Bool):Rows:=[(11600,[.d (.aq 0),.d (.si 0 [0]),.d (.si 1 [0])],.ok (.d (.int 1),.d (.aq 0))),(2400,[.d (.aq 3),.d (.str Fw.vm.str)],.ok (.d (.aq 4),.d (.aq 3))),(2400,[.d (.aq 3),.d (.str Fw.fE.str)],.ok (.d (.aq 5),.d (.aq 3))),(2400,[.d (.aq 3),.d (.str Fw.su.str)],.ok (.d .none,.d (.aq 3))),(2400,[.d (.aq 3),.d (.str Fw.df.str)],.ok (.d (I0 b),.d (.aq 3))),(2400,[.d (.aq 3),.d (.str Fw.jq.str)],.ok (.d (.aq 6),.d (.aq 3)))]
noncomputable def H6:List UInt8:=[116,101,120,116]
noncomputable def FO:List UInt8:=[112,108,97,105,110]
noncomputable def DR:List UInt8:=[99,104,97,114,115,101,116]
noncomputable def Am:List UInt8:=[117,115,45,97,115,99,105,105]
noncomputable def vo:List UInt8:=[55,98,105,116]
noncomputable def nH(i d:D):List D:=[.bytes H6,.bytes FO,.lst [.bytes DR,.bytes Am],i,d,.bytes vo,.int 1,.int 1]
noncomputable def pe(c l:D):List D:=[.none,.none,c,l]
theorem FP(b u:Bool):aE (tabOf (Kr b)) 8 13400 [.d (.aq 0),.d (.obj 108 (fk (.aq 1) (.si 0 [0]) (.si 1 [0]) (.aq 3) fj .none)),.d (.bool u)]=
  .ok (.own (.lst (if u then nH (.aq 4) (.aq 5)++pe (I0 b) (.aq 6) else nH (.aq 4) (.aq 5))),.d (.aq 0)):=by
 rcases b with _|_<;>rcases u with _|_<;>kernel_rfl
noncomputable abbrev dp(cs:List Ch):List D:=nH (aH .vm cs) (aH .fE cs)
noncomputable abbrev tailD(cs:List Ch):List D:=pe (aH .df cs) (aH .jq cs)
theorem bh(w:Fw)(O:List Ch):Rl (aH w O):=by
 unfold aH;rcases bC w O with _|_
 .exact Rl.none
 .exact Rl.bytes
theorem uv(O:List Ch):bC .df O=none\/bC .df O=some [101,110]:=by
 induction O with
 |nil=>exact .inl rfl
 |cons c O B=>
  cases c with
  |a w r=>exact B
  |o k=>rcases k with _|_<;>first|exact B|exact .inr rfl
theorem An(O:List Ch):I0 (bC .df O).isSome=aH .df O:=by
 unfold aH;rcases uv O with h|h<;>(rw[h];rfl)
theorem CS(O:List Ch):ai O=(lines O++[13,10])++[120]:=by
 rw[List.append_assoc];rfl
theorem cB{m:Nat}(B:14<=m)(p:List UInt8)(O:List Ch)(hp:p.length<=1000)(z:O.length<=8)(ac:Bool):az m 13400 [.d (.bytes (p++ai O)),.d (.obj 108 (cq p.length O)),.d (.bool ac)]=
  .ok (.own (.lst (if ac then dp O++tailD O else dp O)),.d (.bytes (p++ai O))):=by
 have u:p++ai O=(p++(lines O++[13,10]))++[120]:=by rw[CS];simp
 have X:=dK p O hp z;have hq:(p++(lines O++[13,10])).length<big:=by rw[u,List.length_append] at X;exact aj X
 let ρ:Val:=cb [p++(lines O++[13,10])] [] [] [] [.bytes (p++ai O),.int (p.length:Nat),.none,.lst (O.map Ch.field),aH .vm O,aH .fE O,aH .jq O];have H:ρ.Ok:=a_ (ah hq) ag (by decide) ag (aa Rl.bytes (aa Rl.int (aa Rl.none (aa (bZ O).1 (aa (bh _ _) (aa (bh _ _) (ah (bh _ _))))))));have el:(p++(lines O++[13,10])).length=p.length+(lines O).length+2:=by simp only[List.length_append,List.length_cons,List.length_nil];simp+arith only
 have et:p.length+(ai O).length=(p++(lines O++[13,10])).length+1:=by rw[el];show p.length+(lines O++[13,10,120]).length=_;simp only[List.length_append,List.length_cons,List.length_nil];simp+arith only
 have eb:gD ρ (.si 0 [0])= .int ((p.length+(lines O).length+2:Nat):Int):=(congrArg D.int (d8 _)).trans (by rw[<-el];rfl);have ee:gD ρ (.si 1 [0])= .int ((p.length+(ai O).length:Nat):Int):=by
  show D.int (1+((p++(lines O++[13,10])).length:Nat))=_;rw[et];congr 1;exact Int.add_comm _ _
 have ep:gD ρ (.obj 108 (fk (.aq 1) (.si 0 [0]) (.si 1 [0]) (.aq 3) fj .none))= .obj 108 (cq p.length O):=by
  unfold cq;rw[<-eb,<-ee];rfl
 have T:gc ρ (tabOf (Kr (bC .df O).isSome)) 6:=by
  refine av ?_ (av ?_ (av ?_ (av ?_ (av ?_ (av ?_ aB)))))
  .refine aA (args':=[.d (.bytes (p++ai O)),.d (.int ((p.length+(lines O).length+2:Nat):Int)),.d (.int ((p.length+(ai O).length:Nat):Int))]) (by rw[<-eb,<-ee];rfl) rfl rfl λm B=> ?_;have h:=sy (m:=m) (by exact aj B) hq;rw[<-u,el] at h;rw[List.length_append] at h;exact h
  .exact aA rfl rfl rfl λm B=>cI (by exact aj B) .vm O
  .exact aA rfl rfl rfl λm B=>cI (by exact aj B) .fE O
  .exact aA rfl rfl rfl λm B=>dY (by exact aj B) (.inr (.inr (.inr (.inr (.inr rfl))))) O
  .exact aA (a':=.d (aH .df O)) rfl (by rw[<-An O];cases (bC .df O).isSome<;>rfl) rfl λm B=>cI (by exact aj B) .df O
  .exact aA rfl rfl rfl λm B=>cI (by exact aj B) .jq O
 have h:=(bK H T (n:=8) (m:=m) (by exact aj B) (FP _ ac)).1 _ rfl;rw[List.map_cons,List.map_cons,show gM ρ (.d (.obj 108 (fk (.aq 1) (.si 0 [0]) (.si 1 [0]) (.aq 3) fj .none)))= .d (.obj 108 (cq p.length O)) from congrArg MV.d ep] at h;refine h.trans (congrArg Res.ok (Prod.ext ?_ rfl));show gM ρ (MV.own (.lst (if ac then nH (.aq 4) (.aq 5)++pe (I0 (bC .df O).isSome) (.aq 6) else nH (.aq 4) (.aq 5))))=MV.own (.lst (if ac then dp O++pe (aH .df O) (aH .jq O) else dp O));rw[<-An O];rcases ac with _|_<;>cases (bC .df O).isSome<;>rfl
noncomputable def lL(o a e b:D)(F:List D)(x:D)(u:Loc):Loc:=("data",.d o)::("at",.d a)::("end",.d e)::("behind",.d b)::("found",.own (.lst F))::("begin",.d x)::u
noncomputable def FQ:Bool->Loc
 |false=>[]
 |true=>[("feed",.d (.aq 2)),("last",.d (.aq 3))]
noncomputable def Ch.nl:Ch->Nat
 |a _ .c=>2
 |o .c=>2
 |_=>1
noncomputable def qp(i j k:Nat):D:=.tup [.si (i:Nat) [0],.si (j:Nat) [0],.si (k:Nat) [0]]
noncomputable def Ch.sA(c:Ch):List D:=
 let n:=c.line.length;let i:=(c.line.findIdx (· ==10))
 if i+1=n then[qp 0 (n-2) n] else[qp 0 (i-1) (i+1),qp (i+1) (n-2) n]
noncomputable def oQ(c:Ch):D:=.sb (.s 0::(c.line.map .b++[.s 1]))
noncomputable def Ch.FQ(c:Ch):Loc:=[("feed",.d (.si ((c.line.length-1:Nat):Int) [0])),("last",.d (.si ((c.line.length-2:Nat):Int) [0]))]
theorem FR(c:Ch)(t:Bool):steps (wT (aE (tabOf []) 1) 1200 3 45) (wB (aE (tabOf []) 1) 1200 3 45) c.nl (lL (oQ c) (.aq 0) (.aq 1) (.si (c.line.length:Nat) [0,2]) [.seg 2] iZ (Mine.FQ t))=
  .ok (lL (oQ c) (.aq 0) (.aq 1) (.si (c.line.length:Nat) [0,2]) (.seg 2::c.sA) (.si (c.line.length:Nat) [0]) c.FQ):=by
 cases c with
 |a w r=>rcases w with _|_<;>rcases r with _|_<;>rcases t with _|_<;>kernel_rfl
 |o k=>rcases k with _|_<;>rcases t with _|_<;>kernel_rfl
theorem FT(t:Bool):bg (wT (aE (tabOf []) 1) 1200 3 45) (wB (aE (tabOf []) 1) 1200 3 45) 3 (lL oF (.aq 0) (.aq 1) (.si 3 [0]) [.seg 2] iZ (FQ t))=
  .ok (.ret (.own (.lst [.seg 2,qp 0 0 2,qp 2 3 3])),lL oF (.aq 0) (.aq 1) (.si 3 [0]) [.seg 2,qp 0 0 2,qp 2 3 3] (.si 2 [0]) [("feed",.d (.int (-1))),("last",.d iZ)]):=by
 rcases t with _|_<;>kernel_rfl
theorem j_(c:Ch):c.sA.length=c.nl/\c.line.count 10=c.nl/\c.nl<=2:=by
 cases c with
 |a w r=>rcases w with _|_<;>rcases r with _|_<;>exact⟨by decide,by decide,by decide⟩
 |o k=>rcases k with _|_<;>exact⟨by decide,by decide,by decide⟩
theorem Ao(c:Ch):aG c.sA=false:=by
 unfold Ch.sA;dsimp only;split<;>rfl
noncomputable def Ks(u:Loc):Prop:=u=[]\/ ∃x y,Rl x/\Rl y/\u=[(("feed":Str),MV.d x),("last",.d y)]
noncomputable abbrev vL(p q:List UInt8)(F:List D)(a e x y:D):Val:=cb [p,q] [[],[],F] [] [] [a,e,x,y]
theorem sC{u:Loc}(h:Ks u): ∃t x y,Rl x/\Rl y/\ ∀p q F a e,ax (vL p q F a e x y) (FQ t)=u:=by
 rcases h with rfl|⟨x,y,hx,O,rfl⟩
 .exact⟨false,.none,.none,Rl.none,Rl.none,λB B B B B=>rfl⟩
 .exact⟨true,x,y,hx,O,λB B B B B=>rfl⟩
theorem qq(ρ:Val)(o a e b:D)(F:List D)(x:D)(u:Loc):ax ρ (lL o a e b F x u)=lL (gD ρ o) (gD ρ a) (gD ρ e) (gD ρ b) (gL ρ F) (gD ρ x) (ax ρ u):=rfl
theorem DS{p q:List UInt8}{F:List D}{a e x y:D}(H:p.length<big)(hq:q.length<big)(u:F.length<big/\ ∀d∈F,Rl d)(O:Rl a)(z:Rl e)(hx:Rl x)(B:Rl y):(vL p q F a e x y).Ok:=
 a_ (aa H (ah hq)) (aa ⟨by decide,ag⟩ (aa ⟨by decide,ag⟩ (ah u))) (by decide) ag (aa O (aa z (aa hx (ah B))))
noncomputable def Ap(p i j k:Nat):D:=.tup [.int ((i:Nat)+(p:Nat)),.int ((j:Nat)+(p:Nat)),.int ((k:Nat)+(p:Nat))]
noncomputable def Ch.gh(c:Ch)(p:Nat):List D:=
 let n:=c.line.length;let i:=(c.line.findIdx (· ==10))
 if i+1=n then[Ap p 0 (n-2) n] else[Ap p 0 (i-1) (i+1),Ap p (i+1) (n-2) n]
theorem Aq(c:Ch){p q:List UInt8}{F:List D}{a e x y:D}:c.sA.map (gD (vL p q F a e x y))=c.gh p.length:=by
 unfold Ch.sA Ch.gh;dsimp only;split<;>rfl
noncomputable def fP:List Ch->Nat->List D
 |[],p=>[Ap p 0 0 2,Ap p 2 3 3]
 |c::O,p=>c.gh p++fP O (p+c.line.length)
noncomputable def DT:List Ch->Nat
 |[]=>0
 |c::O=>c.nl+DT O
theorem kW: ∀(O:List Ch) (p:Nat),(fP O p).length=DT O+2/\ ∀d∈fP O p,Rl d:=by
 intro X;induction X with
 |nil=>
  intro p;exact⟨rfl,aa Rl.tup (ah Rl.tup)⟩
 |cons c O H=>
  intro p;have B:=H (p+c.line.length);have u:(c.gh p).length=c.nl:=by
   rw[<-(j_ c).1];unfold Ch.sA Ch.gh;dsimp only;split<;>rfl
  have z: ∀d∈c.gh p,Rl d:=by
   unfold Ch.gh;dsimp only;split
   .exact ah Rl.tup
   .exact aa Rl.tup (ah Rl.tup)
  refine⟨?_,λd m=>(List.mem_append.mp m).elim (z d) (B.2 d)⟩;show(c.gh p++fP O _).length=c.nl+DT O+2;rw[List.length_append,u,B.1];simp+arith only
theorem uw{m k:Nat}(B:1<=m)(hk:45<=k){a e:D}(ha:Rl a)(he:Rl e): ∀(O:List Ch) (p:List UInt8) (F:List D) (tl:Loc) (n:Nat),(p++ai O).length<big->F.length+2*O.length+2<big->(∀d∈F,Rl d)->Ks tl->2*O.length+3<=n->
  ∃(l:Loc),bg (wT (az m) 1200 3 k) (wB (az m) 1200 3 k) n (lL (.bytes (p++ai O)) a e (.int ((p++ai O).length:Nat)) F (.int (p.length:Nat)) tl)=
   .ok (.ret (.own (.lst (F++fP O p.length))),("data",.d (.bytes (p++ai O)))::l):=by
 intro l9;induction l9 with
 |nil=>
  intro p F tl n X hF hR al hn;refine hide λP9 b9=> ?_;obtain⟨t,x,y,hx,hy,et⟩:=sC al;refine b9 ?_;simp only[List.length_nil] at hF hn;have hp:p.length<big:=by rw[List.length_append] at X;exact aj X
  have H:=DS (q:=[]) hp (by decide) ⟨by exact aj hF,hR⟩ ha he hx hy;have h:=(iy (zO H (aB (d:=0)) (n:=1) (m:=m) (i:=1200) (j:=3) (by exact aj B) hk) (rZ H (aB (d:=0)) (n:=1) (m:=m) (i:=1200) (j:=3) (by exact aj B) hk) 3 n (lL oF (.aq 0) (.aq 1) (.si 3 [0]) [.seg 2] iZ (FQ t)) (by exact aj hn)).1 _ (FT t);have ee:gD (vL p [] F a e x y) (.si 3 [0])= .int ((p++ai []).length:Nat):=by
   show D.int (3+(p.length:Nat))=_;rw[List.length_append];exact congrArg D.int (Int.add_comm _ _)
  have ez:gD (vL p [] F a e x y) iZ= .int (p.length:Nat):=congrArg D.int (d8 _);have eF:gL (vL p [] F a e x y) [.seg 2]=F:=List.append_nil F;rw[qq,et,ee,ez,eF] at h;exact⟨ax (vL p [] F a e x y) ((lL oF (.aq 0) (.aq 1) (.si 3 [0]) [.seg 2,qp 0 0 2,qp 2 3 3] (.si 2 [0]) [("feed",.d (.int (-1))),("last",.d iZ)]).drop 1),h⟩
 |cons c O bd=>
  intro p F tl n X hF hR al hn;refine hide λP9 b9=> ?_;obtain⟨t,x,y,hx,hy,et⟩:=sC al;refine b9 ?_;simp only[List.length_cons] at hF hn;have hc:=j_ c;have e2:p++c.line++ai O=p++ai (c::O):=by rw[tail_cons,List.append_assoc]
  have ac:=X;rw[<-e2] at ac;simp only[List.length_append] at ac;have H:=DS (p:=p) (q:=ai O) (by exact aj ac) (by exact aj ac) ⟨by exact aj hF,hR⟩ ha he hx hy;have u:=(eV H (aB (d:=0)) (n:=1) (m:=m) (by exact aj B) hk (FR c t)).1 _ rfl;have eo:gD (vL p (ai O) F a e x y) (oQ c)= .bytes (p++ai (c::O)):=by
   show D.bytes (p++(vL p (ai O) F a e x y).oct (c.line.map .b++[.s 1]))=_;rw[jZ];show D.bytes (p++(c.line++(ai O++[])))=_;rw[List.append_nil,tail_cons]
  have ee:gD (vL p (ai O) F a e x y) (.si (c.line.length:Nat) [0,2])= .int ((p++ai (c::O)).length:Nat):=by
   show D.int ((c.line.length:Nat)+((p.length+((ai O).length+0):Nat):Int))=_;rw[tail_cons];simp only[List.length_append];congr 1;(simp+arith only[Int.natCast_add];done)
  have ez:gD (vL p (ai O) F a e x y) iZ= .int (p.length:Nat):=congrArg D.int (d8 _);have el:gD (vL p (ai O) F a e x y) (.si (c.line.length:Nat) [0])= .int ((p++c.line).length:Nat):=by
   show D.int ((c.line.length:Nat)+(p.length:Nat))=_;rewrite[List.length_append];congr 1;omega
  have eF:gL (vL p (ai O) F a e x y) [.seg 2]=F:=List.append_nil F;have a3:gL (vL p (ai O) F a e x y) (.seg 2::c.sA)=F++c.gh p.length:=by
   rw[bt,cL (Ao c),Aq];rfl
  rw[qq,qq,et,eo,ee,ez,el,eF,a3] at u;have hT: ∀d∈c.gh p.length,Rl d:= λd m=>(kW [c] p.length).2 d (List.mem_append_left _ m);have a7:(c.gh p.length).length=c.nl:=by
   have u:=(kW [c] p.length).1;have u:(c.gh p.length++fP [] (p.length+c.line.length)).length=c.nl+0+2:=u;rw[List.length_append] at u;have z:(fP [] (p.length+c.line.length)).length=2:=rfl;exact Nat.le_antisymm (bp (Nat.le_of_eq u) (Nat.le_of_eq (Eq.symm z))) (bp (Nat.le_of_eq (Eq.symm u)) (Nat.le_of_eq z))
  obtain⟨n,rfl⟩: ∃j,n=j+c.nl:=⟨n-c.nl,by exact dM (bp hn hc.2.2)⟩
  obtain⟨l,h4⟩:=bd (p++c.line) (F++c.gh p.length) (ax (vL p (ai O) F a e x y) c.FQ) n (by rw[e2];exact X) (by rw[List.length_append];exact nW hF hc.2.2 (Nat.le_of_eq a7))
   (λd md=>(List.mem_append.mp md).elim (hR d) (hT d)) (.inr ⟨_,_,Rl.int,Rl.int,rfl⟩) (by exact bp hc.2.2 hn)
  rw[e2] at h4;refine⟨l,(dA _ u).trans (h4.trans ?_)⟩;rw[List.append_assoc,List.length_append];rfl
set_option tactic.hygienic true in
theorem sD(b:List UInt8):(aX 10 b).length=b.count 10+1:=by
 induction b with
 |nil=>rfl
 |cons x r B=>
  unfold aX;rw[List.count_cons];split
  .rw[List.length_cons,B]
  .split
   .rename_i e;rw[e] at B;cases B
   .rename_i e;rw[e] at B;exact B
theorem ux(O:List Ch):(aX 10 (ai O)).length=DT O+2:=by
 rw[sD];show(lines O++[13,10,120]).count 10+1=_;rw[List.count_append];have:(lines O).count 10=DT O:=by
  induction O with
  |nil=>rfl
  |cons c O B=>show(c.line++lines O).count 10=c.nl+DT O;rw[List.count_append,B,(j_ c).2.1]
 rw[this];rfl
theorem FU:aw 60 (xO (aE (tabOf []) 1) 1200) (ahead 1200 3) (kT (.sb [.s 1,.s 0]) (.si 0 [2]) (.si 0 [0,2]))= .ok (.next,lL (.sb [.s 1,.s 0]) (.si 0 [2]) (.si 0 [0,2]) (.si 0 [0,2]) [] (.si 0 [2]) []):=by kernel_rfl
theorem CT{c:Nat->List MV->Res (MV×MV)}{o a e:D}:fy c 1200 [.d o,.d a,.d e]=(aw 60 (xO c 1200) (gf 1200).body (kT o a e)).bind (jV (gf 1200)):=dq (by kernel_rfl) (by kernel_rfl)
theorem FW{o:D}{v:MV}{l:Loc}:jV (gf 1200) (.ret v,("data",.d o)::l)= .ok (v,.d o):=by kernel_rfl
theorem Ar:fz (aV 1200 3)=true:=by kernel_rfl
theorem CU:aE (tabOf [(1200,[.d (.aq 0),.d (.aq 1),.d (.aq 2)],.ok (.own (.lst [.seg 2]),.d (.aq 0)))]) 2 11600 [.d (.aq 0),.d (.aq 1),.d (.aq 2)]= .ok (.d (.si 0 [5]),.d (.aq 0)):=by kernel_rfl
theorem gP{m:Nat}(B:2<=m)(p:List UInt8)(O:List Ch)(hp:p.length<=1000)(hn:O.length<=8):az m 1200 [.d (.bytes (p++ai O)),.d (.int (p.length:Nat)),.d (.int ((p++ai O).length:Nat))]= .ok (.own (.lst (fP O p.length)),.d (.bytes (p++ai O))):=by
 obtain⟨m,rfl⟩: ∃j,m=j+1:=⟨m-1,by exact dM (aj B)⟩
 have b:(2000:Nat)<big:=by decide
 have X:=dK p O hp hn;have hq:(ai O).length<big:=by rw[List.length_append] at X;exact aj X
 have H:(cb [ai O,p] [] [] [] []).Ok:=a_ (aa hq (ah (by exact bp hp b))) ag (by decide) ag ag;have eo:gD (cb [ai O,p] [] [] [] []) (.sb [.s 1,.s 0])= .bytes (p++ai O):=congrArg (λz=>D.bytes (p++z)) (List.append_nil _);have ea:gD (cb [ai O,p] [] [] [] []) (.si 0 [2])= .int (p.length:Nat):=congrArg D.int (d8 _);have ee:gD (cb [ai O,p] [] [] [] []) (.si 0 [0,2])= .int ((p++ai O).length:Nat):=by
  show D.int (0+(((ai O).length+(p.length+0):Nat):Int))=_;rewrite[List.length_append];congr 1;(simp+arith only[Int.natCast_add];done)
 rw[bY,CT];have u:=(cj H (aB (d:=0)) (n:=1) (m:=m) (by exact aj B) (Nat.le_refl 60) FU).1 _ rfl;have u:aw 60 (xO (az m) 1200) (ahead 1200 3) (kT (.bytes (p++ai O)) (.int (p.length:Nat)) (.int ((p++ai O).length:Nat)))= .ok (.next,lL (.bytes (p++ai O)) (.int (p.length:Nat)) (.int ((p++ai O).length:Nat)) (.int ((p++ai O).length:Nat)) [] (.int (p.length:Nat)) []):=by
  have e2:ax (cb [ai O,p] [] [] [] []) (kT (.sb [.s 1,.s 0]) (.si 0 [2]) (.si 0 [0,2]))=kT (.bytes (p++ai O)) (.int (p.length:Nat)) (.int ((p++ai O).length:Nat)):=by
   rw[<-eo,<-ea,<-ee];rfl
  rw[e2] at u;refine u.trans ?_;show Res.ok (Fl.next,ax (cb [ai O,p] [] [] [] []) (lL (.sb [.s 1,.s 0]) (.si 0 [2]) (.si 0 [0,2]) (.si 0 [0,2]) [] (.si 0 [2]) []))=_;rw[qq,eo,ea,ee];rfl
 obtain⟨l,h4⟩:=uw (m:=m) (k:=56) (by exact aj B) (by simp+arith only) (a:=.int (p.length:Nat)) (e:=.int ((p++ai O).length:Nat)) Rl.int Rl.int O p [] [] 3000 X (by simp only[List.length_nil];exact bp (Nat.mul_le_mul_left 8 hn) b) ag (.inl rfl) (by exact aj (Nat.mul_le_mul_left 8 hn));rw[jY Ar (k:=56) rfl u h4];exact FW
theorem FX(O:List Ch):DT O<=2*O.length:=by
 induction O with
 |nil=>exact Nat.le_refl _
 |cons c O B=>have:=(j_ c).2.2;show c.nl+DT O<=_;rw[List.length_cons];exact bp B this
theorem gT{m:Nat}(B:4<=m)(p:List UInt8)(O:List Ch)(hp:p.length<=1000)(hn:O.length<=8):az m 11600 [.d (.bytes (p++ai O)),.d (.int (p.length:Nat)),.d (.int ((p++ai O).length:Nat))]= .ok (.d (.int ((aX 10 (ai O)).length:Nat)),.d (.bytes (p++ai O))):=by
 have b:(2000:Nat)<big:=by decide
 have hl:=FX O;obtain⟨u,h2⟩:=kW O p.length;have same: ∀m,2<=m->az m 1200 [.d (.bytes (p++ai O)),.d (.int (p.length:Nat)),.d (.int ((p++ai O).length:Nat))]= .ok (.own (.lst (fP O p.length)),.d (.bytes (p++ai O))):= λm B=>gP B p O hp hn;generalize fP O p.length=L at u h2 same;have H:(cb [] [[],[],L] [] [] [.bytes (p++ai O),.int (p.length:Nat),.int ((p++ai O).length:Nat)]).Ok:=a_ ag (aa ⟨by decide,ag⟩ (aa ⟨by decide,ag⟩ (ah ⟨by exact sV (Nat.mul_le_mul_left 8 hn) b hl (Nat.le_of_eq u),h2⟩))) (by decide) ag (aa Rl.bytes (aa Rl.int (ah Rl.int)));have eL:gL (cb [] [[],[],L] [] [] [.bytes (p++ai O),.int (p.length:Nat),.int ((p++ai O).length:Nat)]) [.seg 2]=L:=List.append_nil L;have X:=(bK H (av (aA (a:=.own (.lst [.seg 2])) (b:=.d (.aq 0)) (a':=.own (.lst L)) rfl (congrArg (λz=>MV.own (.lst z)) eL) rfl same) aB) (n:=2) (m:=m) (by exact aj B) CU).1 _ rfl;refine X.trans (congrArg Res.ok (Prod.ext ?_ rfl));rw[ux,<-u];exact congrArg (λz=>MV.d (.int z)) (d8 _)
noncomputable def As:List UInt8:=[109,101,115,115,97,103,101]
noncomputable def FY:List UInt8:=[114,102,99,56,50,50]
noncomputable def pg(n:D)(z u:List D)(k:D):List D:=[.bytes As,.bytes FY,.none,.none,.none,.bytes vo,n,.lst z,.lst u,k]
noncomputable def H7:Nat×List MV×Res (MV×MV):=(12400,[.d oO,.d (.obj 108 j6)],.ok (.own (.lst [.seg 500]),.d oO))
noncomputable def DU:Nat×List MV×Res (MV×MV):=(13400,[.d oO,.d (.obj 108 j6),.d (.bool false)],.ok (.own (.lst [.seg 501]),.d oO))
noncomputable def DV:Nat×List MV×Res (MV×MV):=(11600,[.d oO,.d (.int 32),.d (.si 32 [0])],.ok (.d (.si 0 [2001]),.d oO))
theorem FZ:aE (tabOf [H7,DU,DV]) 8 13400 [.d oO,.d (.obj 108 uu),.d (.bool false)]= .ok (.own (.lst (pg (.si 0 [0]) [.seg 500] [.seg 501] (.si 0 [2001]))),.d oO):=by kernel_rfl
theorem sE{d:D}(h:xI d d=some true): ∀n,1<=n->fQ n d d=some true:= λn z=>by
 obtain⟨n,rfl⟩: ∃j,n=j+1:=⟨n-1,by exact dM (aj z)⟩
 exact u_ h
theorem gk(b:List UInt8): ∀n,1<=n->fQ n (.bytes b) (.bytes b)=some true:=sE (congrArg some (beq_self_eq_true _))
theorem CV(b:Int): ∀n,1<=n->fQ n (.int b) (.int b)=some true:=sE (congrArg some (beq_self_eq_true _))
theorem cmp_none: ∀n,1<=n->fQ n .none .none=some true:= λn z=>by
 obtain⟨n,rfl⟩: ∃j,n=j+1:=⟨n-1,by exact dM (aj z)⟩
 rfl
theorem qr{k:Nat}{xs:List D}(hs: ∀d∈xs,Rl d)(h: ∀d∈xs,∀n,k<=n->fQ n d d=some true): ∀n,k+1<=n->fQ n (.lst xs) (.lst xs)=some true:= λn z=>by
 obtain⟨n,rfl⟩: ∃j,n=j+1:=⟨n-1,by exact dM (aj z)⟩
 show(if aG xs||aG xs then none else if xs.length=xs.length then allEq (fQ n) xs xs else some false)=some true;rw[bk.mpr λd m=>(hs d m).seg];show(if xs.length=xs.length then allEq (fQ n) xs xs else some false)=some true;rw[if_pos rfl];exact nc λd m=>h d m n (by exact aj z)
theorem kK.of{d:D}{k:Nat}(h: ∀n,k<=n->fQ n d d=some true)(O:k<=4):kK d:= λn z=>h n (by exact bp O z)
theorem fo(w:Fw)(O:List Ch):kK (aH w O):=by
 unfold aH;rcases bC w O with _|b
 .exact kK.of cmp_none (by decide)
 .exact kK.of (gk b) (by decide)
theorem d3{x y z:D}(hx: ∀n,1<=n->fQ n x x=some true)(O: ∀n,1<=n->fQ n y y=some true)(hz: ∀n,1<=n->fQ n z z=some true)(u:Rl x)(B:Rl y)(H:Rl z): ∀n,2<=n->fQ n (kU x y z) (kU x y z)=some true:=
 qr (aa u (aa Rl.none (aa B (ah H)))) (aa hx (aa cmp_none (aa O (ah hz))))
theorem Au(r:Rw): ∀d∈r.vals,∀n,2<=n->fQ n d d=some true:=by
 have b:=gk;cases r with
 |a=>exact ah (d3 cmp_none (b _) (b _) Rl.none Rl.bytes Rl.bytes)
 |b=>exact ah (d3 (b _) (b _) (b _) Rl.bytes Rl.bytes Rl.bytes)
 |c=>exact aa (d3 (b _) (b _) (b _) Rl.bytes Rl.bytes Rl.bytes) (ah (d3 cmp_none (b _) (b _) Rl.none Rl.bytes Rl.bytes))
 |d=>exact aa (d3 cmp_none (b _) cmp_none Rl.none Rl.bytes Rl.none) (aa (d3 cmp_none (b _) (b _) Rl.none Rl.bytes Rl.bytes) (aa (d3 cmp_none (b _) (b _) Rl.none Rl.bytes Rl.bytes) (ah (d3 cmp_none cmp_none cmp_none Rl.none Rl.none Rl.none))))
 |e=>exact aa (d3 cmp_none (b _) cmp_none Rl.none Rl.bytes Rl.none) (ah (d3 cmp_none cmp_none cmp_none Rl.none Rl.none Rl.none))
 |f=>exact ag
 |g=>exact ag
theorem xl(O:List Rw): ∀d∈aW O,∀n,2<=n->fQ n d d=some true:= λd m=>by
 unfold aW at m;split at m
 .cases m
 .obtain⟨r,_,h⟩:=List.mem_flatMap.mp m;exact Au r d h
theorem nJ(O:List Rw):kK (xK (aW O)):=by
 have u:=xl O;have z:=(fi O).2;rcases e:aW O with _|⟨x,r⟩
 .exact kK.of cmp_none (by decide)
 .rw[e] at u z;exact kK.of (qr z u) (by decide)
theorem Av(O:List Rw){y:D}(u:kK y):kK (GO (aW O) y):=by
 have h:=nJ O;rcases e:aW O with _|⟨x,r⟩
 .exact u
 .rw[e] at h;exact h
theorem nK(O:List Ch): ∀d∈dw O,Rl d/\kK d:=by
 have n:kK .none:=kK.of cmp_none (by decide);have c: ∀d∈dw O,kK d:=aa n (aa (fo _ _) (aa (nJ _) (aa (Av _ (nJ _)) (aa (Av _ (nJ _)) (aa (nJ _) (aa n (aa n (aa n (ah n)))))))))
 exactλd m=>⟨(j9 O).2 d m,c d m⟩
theorem kX(O:List Ch):(dp O).length=8/\ ∀d∈dp O,Rl d/\kK d:=by
 have b: ∀x,kK (.bytes x):= λx=>kK.of (gk x) (by decide);have i: ∀x,kK (.int x):= λx=>kK.of (CV x) (by decide);have l:kK (.lst [.bytes DR,.bytes Am]):=kK.of (qr (aa Rl.bytes (ah Rl.bytes)) (aa (gk _) (ah (gk _)))) (by decide);exact⟨rfl,aa ⟨Rl.bytes,b _⟩ (aa ⟨Rl.bytes,b _⟩ (aa ⟨Rl.lst (aa Rl.bytes (ah Rl.bytes)),l⟩ (aa ⟨bh _ _,fo _ _⟩ (aa ⟨bh _ _,fo _ _⟩ (aa ⟨Rl.bytes,b _⟩ (aa ⟨Rl.int,i _⟩ (ah ⟨Rl.int,i _⟩)))))))⟩
theorem xm(O:List Ch):(tailD O).length=4/\ ∀d∈tailD O,Rl d/\kK d:=by
 have n:kK .none:=kK.of cmp_none (by decide);exact⟨rfl,aa ⟨Rl.none,n⟩ (aa ⟨Rl.none,n⟩ (aa ⟨bh _ _,fo _ _⟩ (ah ⟨bh _ _,fo _ _⟩)))⟩
noncomputable abbrev I1(cs:List Ch):D:=.int ((aX 10 (ai cs)).length:Nat)
theorem kY{m:Nat}(B:31<=m)(O:List Ch)(hn:O.length<=8):az m 13400 [.d (.bytes (dC++ai O)),.d (.obj 108 (j8 O)),.d (.bool false)]=
  .ok (.own (.lst (pg (.int ((ai O).length:Nat)) (dw O) (dp O) (I1 O))),.d (.bytes (dC++ai O))):=by
 have ht:=dK [] O (by decide) hn;have b:100<big:=by decide
 let os:List D:=[.int 32,.int ((32+(lines O).length+2:Nat):Int),.int ((32+(ai O).length:Nat):Int),.lst (O.map Ch.field),fj,.none]
 let ρ:Val:=cb [ai O] [] [] [dw O,dp O] os;have H:ρ.Ok:=a_ (ah ht) ag (by decide) (aa ⟨by have:=(j9 O).1;exact bp b (Nat.le_of_eq this),nK O⟩ (ah ⟨by have:=(kX O).1;exact bp b (Nat.le_of_eq this),(kX O).2⟩)) (aa Rl.int (aa Rl.int (aa Rl.int (aa (bZ O).1 (aa (bZ O).2 (ah Rl.none))))));obtain⟨eo,ez⟩:=FJ (ai O) [] [] [dw O,dp O] os;have e5:gD ρ (.lst [.seg 500])= .lst (dw O):=by rw[bc];exact congrArg D.lst (List.append_nil _)
 have e6:gD ρ (.lst [.seg 501])= .lst (dp O):=by rw[bc];exact congrArg D.lst (List.append_nil _)
 have o5:gM ρ (.own (.lst [.seg 500]))= .own (.lst (dw O)):=congrArg (λz=>MV.own (.lst z)) (List.append_nil (dw O));have o6:gM ρ (.own (.lst [.seg 501]))= .own (.lst (dp O)):=congrArg (λz=>MV.own (.lst z)) (List.append_nil (dp O));have e0:gD ρ (.si 0 [0])= .int ((ai O).length:Nat):=congrArg D.int (d8 _);have en:gD ρ (.si 0 [2001])=I1 O:=by
  show D.int (0+((((aX 10 (ai O)).map D.bytes).length:Nat):Int))=_;rw[d8,List.length_map]
 have r1:cM ρ 23 H7:=aA (a:=.own (.lst [.seg 500])) (b:=.d oO) (args':=[.d (.bytes (dC++ai O)),.d (.obj 108 (cq 32 O))]) (by rw[<-eo];rfl) o5 (congrArg MV.d eo) λm B=>iF B O hn 32 Rl.bytes;have r2:cM ρ 23 DU:=aA (a:=.own (.lst [.seg 501])) (b:=.d oO) (args':=[.d (.bytes (dC++ai O)),.d (.obj 108 (cq 32 O)),.d (.bool false)]) (by rw[<-eo];rfl) o6 (congrArg MV.d eo) λm B=>cB (by exact aj B) dC O (by decide) hn false;have r3:cM ρ 23 DV:=aA (a:=.d (.si 0 [2001])) (b:=.d oO) (args':=[.d (.bytes (dC++ai O)),.d (.int 32),.d (.int ((dC++ai O).length:Nat))]) (by rw[<-eo,<-ez];rfl) (congrArg MV.d en) (congrArg MV.d eo) λm B=>gT (by exact aj B) dC O (by decide) hn;have X:=(bK H (av r1 (av r2 (av r3 aB))) (n:=8) (m:=m) (by exact aj B) FZ).1 _ rfl;have u:[MV.d oO,.d (.obj 108 uu),.d (.bool false)].map (gM ρ)=[.d (.bytes (dC++ai O)),.d (.obj 108 (j8 O)),.d (.bool false)]:=by
  unfold j8;rw[<-eo,<-ez];rfl
 rw[u] at X;refine X.trans (congrArg Res.ok (Prod.ext ?_ (congrArg MV.d eo)));show MV.own (.lst [.bytes As,.bytes FY,.none,.none,.none,.bytes vo,gD ρ (.si 0 [0]),gD ρ (.lst [.seg 500]),gD ρ (.lst [.seg 501]),gD ρ (.si 0 [2001])])=_;rw[e0,e5,e6,en];rfl
noncomputable def Rw.value:Rw->D
 |f=>.none
 |r=>.lst r.vals
noncomputable def Wd.l4:List Wd:=[.f,.s,.r,.t]
noncomputable def Rw.l7:List Rw:=[.a,.b,.c,.d,.e,.f,.g]
theorem Wd.mem(w:Wd):w∈Wd.l4:=by rcases w with _|_<;>decide
theorem Rw.mem(r:Rw):r∈Rw.l7:=by rcases r with _|_<;>decide
noncomputable def ph(w:Wd)(r:Rw):D:=.tup [.bytes w.word,r.value]
noncomputable def aM:List Ch->List D
 |[]=>[]
 |c::O=>match c with
  | .a w r=>ph w r::aM O
  | .o _=>aM O
noncomputable def fq(p w:D)(F:List D)(u:Loc):Loc:=("rows",.d p)::("word",.d w)::("found",.own (.lst F))::u
noncomputable abbrev uy(a b:D):Loc:=[("other",.d a),("values",.d b)]
theorem F0:Wd.l4.all (λu=>Wd.l4.all λw=>Rw.l7.all λr=>j3 (wB (aE (tabOf []) 1) 14100 1 45 (fq (.aq 0) (.bytes u.word) [.seg 2] (uy (.bytes w.word) r.value)))
  (if u=w/\r= .f then .ret (.d .none) else .next) (fq (.aq 0) (.bytes u.word) (if u=w then .seg 2::r.vals else[.seg 2]) (uy (.bytes w.word) r.value)))=true:=by kernel_rfl
theorem F2(u w:Wd)(r:Rw):wB (aE (tabOf []) 1) 14100 1 45 (fq (.aq 0) (.bytes u.word) [.seg 2] (uy (.bytes w.word) r.value))=
  .ok (if u=w/\r= .f then .ret (.d .none) else .next,fq (.aq 0) (.bytes u.word) (if u=w then .seg 2::r.vals else[.seg 2]) (uy (.bytes w.word) r.value)):=
 d9 (List.all_eq_true.mp (List.all_eq_true.mp (List.all_eq_true.mp F0 u u.mem) w w.mem) r r.mem)
theorem qs(ρ:Val)(p w:D)(F:List D)(u:Loc):ax ρ (fq p w F u)=fq (gD ρ p) (gD ρ w) (gL ρ F) (ax ρ u):=rfl
theorem qt(ρ:Val)(r:Rw):gD ρ r.value=r.value:=by rcases r with _|_<;>rfl
theorem sF(r:Rw):Rl r.value:=by
 cases r with
 |f=>exact Rl.none
 |_=>exact Rl.lst (lZ _).2
theorem CW{m k:Nat}(B:1<=m)(O:45<=k){p:D}(hp:Rl p){F:List D}(hF:F.length<big/\ ∀d∈F,Rl d)(u w:Wd)(r:Rw):
  wB (az m) 14100 1 k (fq p (.bytes u.word) F (uy (.bytes w.word) r.value))= .ok (if u=w/\r= .f then .ret (.d .none) else .next,fq p (.bytes u.word) (F++if u=w then r.vals else[]) (uy (.bytes w.word) r.value)):=by
 have H:(cb [] [[],[],F] [] [] [p]).Ok:=a_ ag (aa ⟨by decide,ag⟩ (aa ⟨by decide,ag⟩ (ah hF))) (by decide) ag (ah hp);have h:=(rZ H (aB (d:=0)) (n:=1) (m:=m) (i:=14100) (j:=1) (by exact aj B) O (fq (.aq 0) (.bytes u.word) [.seg 2] (uy (.bytes w.word) r.value))).1 _ (F2 u w r);have z:ax (cb [] [[],[],F] [] [] [p]) (uy (.bytes w.word) r.value)=uy (.bytes w.word) r.value:=by
  show[(("other":Str),MV.d (.bytes w.word)),(("values":Str),MV.d (gD (cb [] [[],[],F] [] [] [p]) r.value))]=_;rw[qt]
 have X:gL (cb [] [[],[],F] [] [] [p]) [.seg 2]=F:=List.append_nil F;rw[qs,z,X] at h;refine h.trans (congrArg Res.ok (Prod.ext ?_ ?_))
 .show xJ _ (if u=w/\r= .f then .ret (.d .none) else .next)=_;split<;>rfl
 .show ax _ (fq (.aq 0) (.bytes u.word) (if u=w then .seg 2::r.vals else[.seg 2]) (uy (.bytes w.word) r.value))=_;rw[qs,z];have e2:gL (cb [] [[],[],F] [] [] [p]) (if u=w then .seg 2::r.vals else[.seg 2])=F++if u=w then r.vals else[]:=by
   split
   .rw[bt];show F++_=_;congr 1;rcases r with _|_<;>rfl
   .exact X.trans (List.append_nil F).symm
  rw[e2];rfl
noncomputable def H8(u:Loc):Prop:=u=[]\/ ∃a b,Rl a/\Rl b/\u=uy a b
theorem CX{m k:Nat}(hm:1<=m)(hk:45<=k){p:D}(H:Rl p)(u:Wd): ∀(O:List Ch) (F:List D) (tl:Loc),F.length+4*O.length<big->(∀d∈F,Rl d)->H8 tl->
  ∃ac,H8 ac/\ ∃F',forL (n6 (aV 14100 1)) (wB (az m) 14100 1 k) (aM O) (fq p (.bytes u.word) F tl)=
   .ok (if fO (rowsOf (.w u) O) then .ret (.d .none) else .next,fq p (.bytes u.word) F' ac)/\(fO (rowsOf (.w u) O)=false->F'=F++(rowsOf (.w u) O).flatMap Rw.vals):=by
 intro l9;induction l9 with
 |nil=>
  intro F tl B B h;exact⟨tl,h,F,rfl,λB=>(List.append_nil F).symm⟩
 |cons c O aI=>
  intro F tl hF hR ap;simp only[List.length_cons] at hF;cases c with
  |o k'=>exact aI F tl (by exact aj hF) hR ap
  |a w r=>
   have hv:=lZ r;have h:=CW hm hk H ⟨by exact aj hF,hR⟩ u w r;have X:ay (fq p (.bytes u.word) F tl) (n6 (aV 14100 1)) (ph w r)= .ok (fq p (.bytes u.word) F (uy (.bytes w.word) r.value)):=by
    rcases ap with rfl|⟨a,b,_,_,rfl⟩<;>kernel_rfl
   have ht:H8 (uy (.bytes w.word) r.value):=.inr ⟨_,_,Rl.bytes,sF r,rfl⟩;have er:rowsOf (.w u) (Ch.a w r::O)=bif decide (u=w) then r::rowsOf (.w u) O else rowsOf (.w u) O:=rfl;by_cases q:u=w/\r= .f
   .rw[if_pos q] at h;refine⟨_,ht,F++(if u=w then r.vals else[]),(vi X h).trans ?_,λz=> ?_⟩
    .rw[er,q.1,q.2,decide_eq_true rfl];rfl
    .rw[er,q.1,q.2,decide_eq_true rfl] at z;cases z
   .rw[if_neg q] at h;obtain⟨ac,h1,F',h2,h3⟩:=aI (F++if u=w then r.vals else[]) (uy (.bytes w.word) r.value) (by
     rw[List.length_append];by_cases e:u=w
     .rw[if_pos e];exact bp hF hv.1
     .rw[if_neg e];simp only[List.length_nil];exact aj hF) (λd md=>(List.mem_append.mp md).elim (hR d) λmd=>by
     by_cases e:u=w
     .rw[if_pos e] at md;exact hv.2 d md
     .rw[if_neg e] at md;cases md) ht
    have ef:fO (rowsOf (.w u) (Ch.a w r::O))=fO (rowsOf (.w u) O):=by
     rw[er];by_cases e:u=w
     .rw[decide_eq_true e];show(r.w8||_)=_;have:r.w8=false:=by rcases r with _|_<;>first|rfl|exact absurd ⟨e,rfl⟩ q
      rw[this];rfl
     .rw[decide_eq_false e];rfl
    refine⟨ac,h1,F',?_,λz=> ?_⟩
    .rw[ef];exact(nz X h).trans h2
    .rw[ef] at z;rw[h3 z,er,List.append_assoc];by_cases e:u=w
     .rw[if_pos e,decide_eq_true e];rfl
     .rw[if_neg e,decide_eq_false e];rfl
theorem JO{c:Nat->List MV->Res (MV×MV)}{p w:D}:aw 60 (xO c 14100) (ahead 14100 1) [("rows",.d p),("word",.d w)]= .ok (.next,fq p w [] []):=by kernel_rfl
theorem Ax{c:Nat->List MV->Res (MV×MV)}:r8 (xO c 14100) (aV 14100 1)=true:=by kernel_rfl
noncomputable def xn:Bool->Loc
 |false=>[]
 |true=>uy (.aq 3) (.aq 4)
theorem Kt:aw 50 (xO (aE (tabOf []) 1) 14100) (behind 14100 1) (fq (.aq 0) (.aq 1) [] (xn false))= .ok (.ret (.d .none),("rows",.d (.aq 0))::("word",.d (.aq 1))::("found",.d (.lst []))::xn false)/\aw 50 (xO (aE (tabOf []) 1) 14100) (behind 14100 1) (fq (.aq 0) (.aq 1) [] (xn true))= .ok (.ret (.d .none),("rows",.d (.aq 0))::("word",.d (.aq 1))::("found",.d (.lst []))::xn true):=by constructor<;>kernel_rfl
theorem Ku:aw 50 (xO (aE (tabOf []) 1) 14100) (behind 14100 1) (fq (.aq 0) (.aq 1) [.aq 2,.seg 2] (xn false))= .ok (.ret (.d (.lst [.aq 2,.seg 2])),("rows",.d (.aq 0))::("word",.d (.aq 1))::("found",.d (.lst [.aq 2,.seg 2]))::xn false)/\aw 50 (xO (aE (tabOf []) 1) 14100) (behind 14100 1) (fq (.aq 0) (.aq 1) [.aq 2,.seg 2] (xn true))= .ok (.ret (.d (.lst [.aq 2,.seg 2])),("rows",.d (.aq 0))::("word",.d (.aq 1))::("found",.d (.lst [.aq 2,.seg 2]))::xn true):=by constructor<;>kernel_rfl
theorem Ay{u:Loc}(h:H8 u): ∃t a b,Rl a/\Rl b/\ ∀ls p w y,ax (cb [] ls [] [] [p,w,y,a,b]) (xn t)=u:=by
 rcases h with rfl|⟨a,b,O,X,rfl⟩
 .exact⟨false,.none,.none,Rl.none,Rl.none,λB B B B=>rfl⟩
 .exact⟨true,a,b,O,X,λB B B B=>rfl⟩
theorem F3{m k:Nat}(B:1<=m)(hk:50<=k){p w:D}(hp:Rl p)(hw:Rl w){F:List D}(hF:F.length<big/\ ∀d∈F,Rl d){u:Loc}(z:H8 u): ∃l,aw k (xO (az m) 14100) (behind 14100 1) (fq p w F u)= .ok (.ret (.d (xK F)),("rows",.d p)::l):=by
 obtain⟨t,a,b,O,X,e⟩:=Ay z;rcases F with _|⟨y,F⟩
 .have H:(cb [] [] [] [] [p,w,.none,a,b]).Ok:=a_ ag ag (by decide) ag (aa hp (aa hw (aa Rl.none (aa O (ah X)))));have h:=(cj H (aB (d:=0)) (n:=1) (m:=m) (by exact aj B) hk (ss:=behind 14100 1) (i:=14100) (l:=fq (.aq 0) (.aq 1) [] (xn t)) (r:=.ok (.ret (.d .none),("rows",.d (.aq 0))::("word",.d (.aq 1))::("found",.d (.lst []))::xn t)) (by cases t;exact Kt.1;exact Kt.2)).1 _ rfl;rw[qs,e] at h;exact⟨_,h⟩
 .have H:(cb [] [[],[],F] [] [] [p,w,y,a,b]).Ok:=a_ ag (aa ⟨by decide,ag⟩ (aa ⟨by decide,ag⟩ (ah ⟨Nat.lt_of_succ_lt hF.1,λd m=>hF.2 d (.tail _ m)⟩))) (by decide) ag (aa hp (aa hw (aa (hF.2 y (.head _)) (aa O (ah X)))));have h:=(cj H (aB (d:=0)) (n:=1) (m:=m) (by exact aj B) hk (ss:=behind 14100 1) (i:=14100) (l:=fq (.aq 0) (.aq 1) [.aq 2,.seg 2] (xn t)) (r:=.ok (.ret (.d (.lst [.aq 2,.seg 2])),("rows",.d (.aq 0))::("word",.d (.aq 1))::("found",.d (.lst [.aq 2,.seg 2]))::xn t)) (by cases t;exact Ku.1;exact Ku.2)).1 _ rfl;have eF:gL (cb [] [[],[],F] [] [] [p,w,y,a,b]) [.aq 2,.seg 2]=y::F:=congrArg (y:: ·) (List.append_nil F);rw[qs,e,eF] at h;refine⟨_,h.trans (congrArg Res.ok (Prod.ext ?_ rfl))⟩;show Fl.ret (.d (gD (cb [] [[],[],F] [] [] [p,w,y,a,b]) (.lst [.aq 2,.seg 2])))=_;rw[bc,eF];rfl
theorem gm(O:List Ch):(aM O).length<=O.length/\ ∀d∈aM O,Rl d:=by
 induction O with
 |nil=>exact⟨Nat.le_refl _,ag⟩
 |cons c O B=>
  cases c with
  |o k=>exact⟨Nat.le_succ_of_le B.1,B.2⟩
  |a w r=>exact⟨Nat.succ_le_succ B.1,aa Rl.tup B.2⟩
theorem vp{c:Nat->List MV->Res (MV×MV)}{v:MV}{w:D}:aw 60 (xO c 14100) (ahead 14100 1) [("rows",v),("word",.d w)]= .ok (.next,[("rows",v),("word",.d w),("found",.own (.lst []))]):=by kernel_rfl
theorem xo{m:Nat}(B:2<=m)(O:List Ch)(hn:O.length<=8)(u:Wd)(own:Bool):az m 14100 [(if own then .own (.lst (aM O)) else .d (.lst (aM O))),.d (.bytes u.word)]= .ok (.d (qC u O),.d (.lst (aM O))):=by
 obtain⟨m,rfl⟩: ∃j,m=j+1:=⟨m-1,by exact dM (aj B)⟩
 have b:(400:Nat)<big:=by decide
 have hr:=gm O;have H:Rl (.lst (aM O)):=Rl.lst hr.2;obtain⟨a2,ht,F',h1,z⟩:=CX (m:=m) (k:=58) (by exact aj B) (by simp+arith only) H u O [] [] (by simp only[List.length_nil];exact bp (Nat.mul_le_mul_left 4 hn) b) ag (.inl rfl);have hi:itemsOf (.lst (aM O))=some (aM O):=by
  show(if aG (aM O) then none else some (aM O))=_;rw[bk.mpr λd m=>(hr.2 d m).seg];rfl
 have he:aF (ak 58 (xO (az m) 14100)) (qf (aV 14100 1)) [("rows",(if own then .own (.lst (aM O)) else .d (.lst (aM O)))),("word",.d (.bytes u.word)),("found",.own (.lst []))]= .ok (.lst (aM O),fq (.lst (aM O)) (.bytes u.word) [] []):=by rcases own with _|_<;>kernel_rfl
 have fin: ∀{v:MV} {l:Loc},jV (gf 14100) (.ret v,("rows",.d (.lst (aM O)))::l)= .ok (v,.d (.lst (aM O))):= λ{v l}=>by kernel_rfl
 rw[bY,dq (i:=14100) (l:=[("rows",(if own then .own (.lst (aM O)) else .d (.lst (aM O)))),("word",.d (.bytes u.word))]) (by kernel_rfl) (by kernel_rfl)];show _=Res.ok (MV.d (xK (aW (rowsOf (.w u) O))),_);unfold aW;rcases q:fO (rowsOf (.w u) O) with _|_
 .rw[q] at h1;have z:=z q;rw[List.nil_append] at z;subst z;have hv:=qn (rowsOf (.w u) O);have hl:=dW (.w u) O;obtain⟨l,X⟩:=F3 (m:=m) (k:=58) (by exact aj B) (by simp+arith only) H Rl.bytes ⟨by exact sV (Nat.mul_le_mul_left 4 hn) b hv.1 (Nat.mul_le_mul_left 4 hl),hv.2⟩ ht;rw[iA Ax (k:=58) rfl vp he hi h1 X];exact fin
 .rw[q] at h1;rw[ny Ax (k:=58) rfl vp he hi h1];exact fin
noncomputable def bl(e:Expr):Expr:=la e e (bn:= λa B B=>a)
noncomputable def br(e:Expr):Expr:=la e e (bn:= λB B b=>b)
noncomputable def JP(e:Expr):Option Operator:=la e none (bn:= λB o B=>some o)
noncomputable def KZ(e:Expr):Expr:=la e e (sb:= λv B=>v)
noncomputable def I2(e:Expr):Expr:=la e e (sb:= λB i=>i)
noncomputable def H9(e:Expr):Bool:=la e false (sb:= λB i=>(i8 i).isNone)
theorem gU{k:Nat}{X:Cx}{e:Expr}{l:Loc}{x y:D}{z:MV}{op:Operator}(h:JP e=some op)(O:ak k X (bl e) l= .ok (.d x,l))(u:ak k X (br e) l= .ok (.d y,l))(hz:binop op x y=some z):ak (k+1) X e l= .ok (z,l):=by
 rcases e with _|_|⟨a,B,b,p⟩|_|_|_|_|_|_|_|_|_|_|_|_|_|_|_|_|_|_|_|_|_|_|_|_<;>try(cases h;done)
 .rcases h with⟨⟩
  show(aF (ak k X) a l).bind _=_;unfold aF;rw[show ak k X a l= .ok (.d x,l) from O];show((ak k X b l).bind λ(v,l)=>Res.ok (v.D,l)).bind _=_;rw[show ak k X b l= .ok (.d y,l) from u];show(Res.of (binop op x y)).bind _=_;rw[hz];rfl
theorem F4{k:Nat}{X:Cx}{e:Expr}{l:Loc}{x y z:D}(h:H9 e=true)(O:ak k X (KZ e) l= .ok (.d x,l))(u:ak k X (I2 e) l= .ok (.d y,l))(hz:eu x y=some z):ak (k+1) X e l= .ok (.d z,l):=by
 rcases e with _|_|_|_|_|_|_|_|_|_|_|_|_|_|_|_|_|_|_|_|_|⟨v,i,p⟩|_|_|_|_|_<;>try(cases h;done)
 .show qK (ak k X) v i l=_;unfold qK;have h:(i8 i).isNone=true:=h;rw[Option.isNone_iff_eq_none.mp h];dsimp only;unfold aF;rw[show ak k X v l= .ok (.d x,l) from O];show((ak k X i l).bind λ(v,l)=>Res.ok (v.D,l)).bind _=_;rw[show ak k X i l= .ok (.d y,l) from u];show(Res.of (eu x y)).bind _=_;rw[hz];rfl
theorem fG(s:List Int): ∀d∈s.map D.int,Rl d:= λd m=>by
 obtain⟨c,_,rfl⟩:=List.mem_map.mp m;exact Rl.int
theorem j'(s:List Int):aG (s.map D.int)=false:=bk.mpr λd m=>(fG s d m).seg
theorem pj{s:List Int}(h:s.length<=100):fU (.lst (s.map .int))=some (.int (s.length:Nat)):=by
 have b:100<=lim:=by decide
 unfold fU;show(if aG (s.map D.int)=true then _ else(if(s.map D.int).length<=lim then some (s.map D.int).length else none).map λ(n:Nat)=>D.int n)=_;rw[j'];show(if(s.map D.int).length<=lim then some (s.map D.int).length else none).map (λ(n:Nat)=>D.int n)=_;rw[List.length_map,if_pos (by exact bp h b)];rfl
theorem DW{a n:Int}(h:0<n):binop .Mod (.int a) (.int n)=some (.d (.int (a.fmod n))):=by
 exact if_pos h
theorem DX{a n:Int}(h:0<n)(z:n.natAbs<1073741824):binop .FloorDiv (.int a) (.int n)=some (.d (.int (a.fdiv n))):=by
 show(if 0<n/\n.natAbs<1073741824 then some (MV.d (.int (a.fdiv n))) else none)=_;exact if_pos ⟨h,z⟩
theorem DY{a n:Int}(h:a.natAbs<1000000)(z:n.natAbs<1000000):binop .Mult (.int a) (.int n)=some (.d (.int (a*n))):=by
 have b:1000000<=2^60:=by decide
 show(if a.natAbs<2^60/\n.natAbs<2^60 then some (MV.d (.int (a*n))) else none)=_;exact if_pos ⟨Nat.lt_trans h (by decide),Nat.lt_trans z (by decide)⟩
theorem Az{a n:Int}:binop .Add (.int a) (.int n)=some (.d (.int (a+n))):=rfl
theorem AA{s:List Int}(h:s.length<=100){i:Int}(h0:0<=i)(u:i<(s.length:Nat)):eu (.lst (s.map .int)) (.int i)=some (.int (s.getD i.toNat 0)):=by
 have b:100<=lim:=by decide
 have z:i.toNat<s.length:=(Int.toNat_lt h0).mpr u;unfold eu;show(if(aG (s.map D.int)||false)=true then _ else gq (s.map D.int) id (.int i))=_;rw[j'];show(if lim<(s.map D.int).length then none else(index (s.map D.int).length i).bind λj=>((s.map D.int)[j]?).map id)=_;rw[List.length_map,if_neg (by exact Nat.not_lt_of_le (bp h b))];unfold index;rw[if_pos ⟨h0,u⟩];show((s.map D.int)[i.toNat]?).map id=_;rw[List.getElem?_map,List.getElem?_eq_getElem z,List.getD_eq_getElem?_getD,List.getElem?_eq_getElem z];rfl
theorem AB{a n:Nat}:0<=((a:Nat):Int).fdiv (n:Nat)/\((a:Nat):Int).fdiv (n:Nat)<=(a:Nat):=by
 rw[Int.fdiv_eq_ediv_of_nonneg _ (Int.natCast_nonneg n)];exact⟨Int.ediv_nonneg (Int.natCast_nonneg a) (Int.natCast_nonneg n),Int.ediv_le_self _ (Int.natCast_nonneg a)⟩
noncomputable def xq(t m c a:D)(F:List D):Loc:=[("tape",.own (.lst F)),("many",.d m),("cells",.d c),("at",.d a)]
theorem F5:aw 60 (xO (aE (tabOf []) 1) 14000) (ahead 14000 2) [("tape",.own (.lst [.aq 0,.si 0 [0]])),("many",.d (.aq 1))]= .ok (.next,xq .none (.aq 1) (.aq 0) (.si 0 [0]) [.aq 0,.si 1 [0]]):=by kernel_rfl
noncomputable abbrev vq:Expr:=qk (aV 14000 2)
noncomputable def d_(s:List Int)(a:Nat)(M:Int):Int:=(s.getD (((a:Nat):Int).fmod (s.length:Nat)).toNat 0+((a:Nat):Int).fdiv (s.length:Nat)*(7*(a:Nat)+3+((a:Nat):Int).fdiv (2:Nat))).fmod M
theorem l6(s:List Int)(a:Nat){M:Int}(z:0<M):0<=d_ s a M/\d_ s a M<M:=⟨Int.fmod_nonneg_of_pos _ z,Int.fmod_lt_of_pos _ z⟩
theorem AD{c:Nat->List MV->Res (MV×MV)}{s:List Int}(hs:0<s.length)(H:s.length<=100){a:Nat}(O:a<=1000){M:Int}(hM:0<M)(F:List D):
  ak 57 (xO c 14000) vq (xq .none (.int M) (.lst (s.map .int)) (.int (a:Nat)) F)= .ok (.d (.int (d_ s a M)),xq .none (.int M) (.lst (s.map .int)) (.int (a:Nat)) F):=by
 unfold d_;generalize B:xq .none (.int M) (.lst (s.map .int)) (.int (a:Nat)) F=l;have s8:ak 53 (xO c 14000) (br (I2 (bl (bl vq)))) l=(Res.of (fU (.lst (s.map .int)))).bind λn=>.ok (.d n,l):=by subst B;kernel_rfl
 have len:ak 53 (xO c 14000) (br (I2 (bl (bl vq)))) l= .ok (.d (.int (s.length:Nat)),l):=s8.trans (by rw[pj H];rfl);have i1:ak 54 (xO c 14000) (I2 (bl (bl vq))) l= .ok (.d (.int (((a:Nat):Int).fmod (s.length:Nat))),l):=gU (op:=.Mod) (x:=.int (a:Nat)) (by kernel_rfl) (by subst B;kernel_rfl) len (DW (Int.ofNat_lt.mpr hs));have al:0<=((a:Nat):Int).fmod (s.length:Nat):=Int.fmod_nonneg_of_pos _ (Int.ofNat_lt.mpr hs);have am:((a:Nat):Int).fmod (s.length:Nat)<(s.length:Nat):=Int.fmod_lt_of_pos _ (Int.ofNat_lt.mpr hs);have z:=AA H al am;generalize s.getD (((a:Nat):Int).fmod (s.length:Nat)).toNat 0=v at z⊢;have i2:ak 55 (xO c 14000) (bl (bl vq)) l= .ok (.d (.int v),l):=F4 (x:=.lst (s.map .int)) (by kernel_rfl) (by subst B;kernel_rfl) i1 z;have ac:ak 53 (xO c 14000) (br (bl (br (bl vq)))) l=(Res.of (fU (.lst (s.map .int)))).bind λn=>.ok (.d n,l):=by subst B;kernel_rfl
 have X:ak 54 (xO c 14000) (bl (br (bl vq))) l= .ok (.d (.int (((a:Nat):Int).fdiv (s.length:Nat))),l):=
  gU (op:=.FloorDiv) (by kernel_rfl) (x:=.int (a:Nat)) (y:=.int (s.length:Nat)) (by subst B;kernel_rfl) (ac.trans (by rw[pj H];rfl)) (DX (Int.ofNat_lt.mpr hs) (Nat.lt_of_le_of_lt H (by decide)))
 have d1:=AB (a:=a) (n:=s.length);have d2:=AB (a:=a) (n:=2);have u:ak 52 (xO c 14000) (bl (bl (br (br (bl vq))))) l= .ok (.d (.int (7*(a:Nat))),l):=gU (op:=.Mult) (by kernel_rfl) (x:=.int 7) (y:=.int (a:Nat)) (by subst B;kernel_rfl) (by subst B;kernel_rfl) (DY (by decide) (Nat.lt_of_le_of_lt O (by decide)));have r2:ak 53 (xO c 14000) (bl (br (br (bl vq)))) l= .ok (.d (.int (7*(a:Nat)+3)),l):=gU (op:=.Add) (by kernel_rfl) (y:=.int 3) u (by subst B;kernel_rfl) Az;have r3:ak 53 (xO c 14000) (br (br (br (bl vq)))) l= .ok (.d (.int (((a:Nat):Int).fdiv (2:Nat))),l):=gU (op:=.FloorDiv) (by kernel_rfl) (x:=.int (a:Nat)) (y:=.int (2:Nat)) (by subst B;kernel_rfl) (by subst B;kernel_rfl) (DX (by decide) (by decide));have r4:ak 54 (xO c 14000) (br (br (bl vq))) l= .ok (.d (.int (7*(a:Nat)+3+((a:Nat):Int).fdiv (2:Nat))),l):=gU (op:=.Add) (by kernel_rfl) r2 r3 Az;have q2:ak 55 (xO c 14000) (br (bl vq)) l= .ok (.d (.int (((a:Nat):Int).fdiv (s.length:Nat)*(7*(a:Nat)+3+((a:Nat):Int).fdiv (2:Nat)))),l):=gU (op:=.Mult) (by kernel_rfl) X r4 (DY (by omega) (by omega));have q3:ak 56 (xO c 14000) (bl vq) l= .ok (.d (.int (v+((a:Nat):Int).fdiv (s.length:Nat)*(7*(a:Nat)+3+((a:Nat):Int).fdiv (2:Nat)))),l):=gU (op:=.Add) (by kernel_rfl) i2 q2 Az;exact gU (op:=.Mod) (by kernel_rfl) q3 (y:=.int M) (by subst B;kernel_rfl) (DW hM)
theorem nM{m:Nat}(B:2<=m){s:List Int}(hs:0<s.length)(hl:s.length<=100){a:Nat}(O:a<=1000){M:Int}(z:0<M):
  az m 14000 [.own (.lst [.lst (s.map .int),.int (a:Nat)]),.d (.int M)]= .ok (.d (.int (d_ s a M)),.own (.lst [.lst (s.map .int),.int ((a+1:Nat):Int)])):=by
 obtain⟨m,rfl⟩: ∃j,m=j+1:=⟨m-1,by exact dM (aj B)⟩
 have b:1000<big:=by decide
 have H:(cb [List.replicate a 0] [] [] [] [.lst (s.map .int),.int M]).Ok:=a_ (ah (by rw[List.length_replicate];exact bp O b)) ag (by decide) ag (aa (Rl.lst (fG s)) (ah Rl.int));have ea:gD (cb [List.replicate a 0] [] [] [] [.lst (s.map .int),.int M]) (.si 0 [0])= .int (a:Nat):=by
  show D.int (0+(((List.replicate a (0:UInt8)).length:Nat):Int))=_;rw[d8,List.length_replicate]
 have eb:gD (cb [List.replicate a 0] [] [] [] [.lst (s.map .int),.int M]) (.si 1 [0])= .int ((a+1:Nat):Int):=by
  show D.int (1+(((List.replicate a (0:UInt8)).length:Nat):Int))=_;rw[List.length_replicate];congr 1;exact Int.add_comm _ _
 have u:=(cj H (aB (d:=0)) (n:=1) (m:=m) (by exact aj B) (Nat.le_refl 60) F5).1 _ rfl;have h4:=AD (c:=az m) hs hl O z [.lst (s.map .int),.int ((a+1:Nat):Int)];have u:aw 60 (xO (az m) 14000) (ahead 14000 2) [("tape",.own (.lst [.lst (s.map .int),.int (a:Nat)])),("many",.d (.int M))]= .ok (.next,xq .none (.int M) (.lst (s.map .int)) (.int (a:Nat)) [.lst (s.map .int),.int ((a+1:Nat):Int)]):=by
  rw[<-ea,<-eb];exact u
 rw[bY,dq (i:=14000) (l:=[("tape",.own (.lst [.lst (s.map .int),.int (a:Nat)])),("many",.d (.int M))]) (by kernel_rfl) (by kernel_rfl)];have X:(gf 14000).body=ahead 14000 2++[aV 14000 2]:=by kernel_rfl
 rw[X,show(60:Nat)=(ahead 14000 2).length+57+1 by kernel_rfl,dH _ (by rw[show(ahead 14000 2).length+57+1=60 by kernel_rfl];exact u)];generalize hL:xq .none (.int M) (.lst (s.map .int)) (.int (a:Nat)) [.lst (s.map .int),.int ((a+1:Nat):Int)]=l at h4;have e:aw 58 (xO (az m) 14000) [aV 14000 2] l=(((ak 57 (xO (az m) 14000) vq l).bind λ(v,l)=>.ok (Fl.ret v,l)).bind λ(f,l)=>match f with
  | .next=>aw 57 (xO (az m) 14000) [] l
  |f=>.ok (f,l)):=by kernel_rfl
 rw[e,h4,<-hL];kernel_rfl
noncomputable def Wd.ix:Wd->Int
 |f=>0|s=>1|r=>2|t=>3
noncomputable def Rw.ix:Rw->Int
 |a=>0|b=>1|c=>2|d=>3|e=>4|f=>5|g=>6
noncomputable def Ot.ix:Ot->Int
 |a=>0|b=>1|c=>2|d=>3|e=>4
noncomputable def Ot.no:Ot->Nat
 |a=>0|b=>1|c=>2|d=>3|e=>4
theorem H_{v:Int}(h:0<=v)(z:v<4): ∃w:Wd,v=w.ix:=by
 obtain⟨n,rfl⟩:=Int.eq_ofNat_of_zero_le h;replace z:n<4:=Int.ofNat_lt.mp z;rcases n with _|_|_|_|n
 .exact⟨.f,rfl⟩
 .exact⟨.s,rfl⟩
 .exact⟨.r,rfl⟩
 .exact⟨.t,rfl⟩
 .exact absurd z (Nat.not_lt_of_le (Nat.le_add_left 4 n))
theorem Ib{v:Int}(h:0<=v)(z:v<7): ∃w:Rw,v=w.ix:=by
 obtain⟨n,rfl⟩:=Int.eq_ofNat_of_zero_le h;replace z:n<7:=Int.ofNat_lt.mp z;rcases n with _|_|_|_|_|_|_|n
 .exact⟨.a,rfl⟩
 .exact⟨.b,rfl⟩
 .exact⟨.c,rfl⟩
 .exact⟨.d,rfl⟩
 .exact⟨.e,rfl⟩
 .exact⟨.f,rfl⟩
 .exact⟨.g,rfl⟩
 .exact absurd z (Nat.not_lt_of_le (Nat.le_add_left 7 n))
theorem Ie{v:Int}(h:0<=v)(z:v<5): ∃w:Ot,v=w.ix:=by
 obtain⟨n,rfl⟩:=Int.eq_ofNat_of_zero_le h;replace z:n<5:=Int.ofNat_lt.mp z;rcases n with _|_|_|_|_|n
 .exact⟨.a,rfl⟩
 .exact⟨.b,rfl⟩
 .exact⟨.c,rfl⟩
 .exact⟨.d,rfl⟩
 .exact⟨.e,rfl⟩
 .exact absurd z (Nat.not_lt_of_le (Nat.le_add_left 5 n))
inductive Sh where
 |s0|s1|s2|s3|s4
noncomputable def Sh.l5:List Sh:=[.s0,.s1,.s2,.s3,.s4]
theorem Sh.mem(s:Sh):s∈Sh.l5:=by rcases s with _|_<;>simp[Sh.l5]
noncomputable def xM(s:Sh)(t p o v k:D):Loc:=match s with
 | .s0=>[("turn",.d t)]
 | .s1=>[("turn",.d t),("spot",.d p),("octets",.d o),("values",.d v)]
 | .s2=>[("turn",.d t),("spot",.d p),("octets",.d o),("place",.d k)]
 | .s3=>[("turn",.d t),("spot",.d p),("octets",.d o),("values",.d v),("place",.d k)]
 | .s4=>[("turn",.d t),("spot",.d p),("octets",.d o),("place",.d k),("values",.d v)]
noncomputable def Sh.nA:Sh->Sh
 |s0=>s1|s1=>s1|s2=>s4|s3=>s3|s4=>s4
noncomputable def Sh.nO:Sh->Sh
 |s0=>s2|s1=>s3|s2=>s2|s3=>s3|s4=>s4
noncomputable def eS(z:D)(T to rw:List D)(hd:D)(u:Loc):Loc:=("script",.d z)::("tape",.own (.lst T))::("told_others",.own (.lst to))::("rows",.own (.lst rw))::("head",.d hd)::u
noncomputable def Rw.oct(r:Rw):List UInt8:=r.raw.drop 1
noncomputable def Ot.oct(k:Ot):List UInt8:=k.word++58::k.raw
noncomputable def JQ(v:Int):Nat×List MV×Res (MV×MV):=(14000,[.own (.lst [.aq 0,.aq 1]),.d (.int 6)],.ok (.d (.int v),.own (.lst [.aq 0,.aq 2])))
noncomputable def JR(M v:Int):Nat×List MV×Res (MV×MV):=(14000,[.own (.lst [.aq 0,.aq 2]),.d (.int M)],.ok (.d (.int v),.own (.lst [.aq 0,.aq 3])))
noncomputable def DZ:List D:=[.aq 4,.aq 5,.aq 6,.aq 7,.aq 8]
noncomputable def qu(s:Sh):Loc:=eS (.aq 9) [.aq 0,.aq 1] DZ [.seg 2] oE (xM s (.aq 10) (.aq 11) (.aq 12) (.aq 13) (.aq 14))
noncomputable def F6(s:Sh)(w:Wd)(r:Rw):Loc:=eS (.aq 9) [.aq 0,.aq 3] DZ [.seg 2,ph w r] (.sb (.s 0::(Ch.a w r).line.map .b)) (xM s.nA (.aq 10) (.int w.ix) (.bytes r.oct) r.value (.aq 14))
noncomputable def F7(s:Sh)(k:Ot)(v:Int):Loc:=eS (.aq 9) [.aq 0,.aq 3] (DZ.set k.no (.bytes k.body)) [.seg 2] (.sb (.s 0::(Ch.o k).line.map .b)) (xM s.nO (.aq 10) (.int v) (.bytes k.oct) (.aq 13) (.int k.ix))
theorem K3:Sh.l5.all (λs=>Wd.l4.all λw=>Rw.l7.all λr=>j3 (wB (aE (tabOf [JQ w.ix,JR 7 r.ix]) 1) 14200 2 45 (qu s)) .next (F6 s w r))=true:=by kernel_rfl
theorem K4:Sh.l5.all (λs=>[Ot.a,.b,.c,.d,.e].all λk=>[(4:Int),5].all λv=>j3 (wB (aE (tabOf [JQ v,JR 5 k.ix]) 1) 14200 2 45 (qu s)) .next (F7 s k v))=true:=by kernel_rfl
theorem qv(ρ:Val)(z:D)(T to rw:List D)(hd:D)(u:Loc):ax ρ (eS z T to rw hd u)=eS (gD ρ z) (gL ρ T) (gL ρ to) (gL ρ rw) (gD ρ hd) (ax ρ u):=rfl
theorem vr(ρ:Val)(s:Sh)(t p o v k:D):ax ρ (xM s t p o v k)=xM s (gD ρ t) (gD ρ p) (gD ρ o) (gD ρ v) (gD ρ k):=by rcases s with _|_<;>rfl
noncomputable abbrev vA(h:List UInt8)(R:List D)(c sc:D)(a:Nat)(t0 t1 t2 t3 t4 x0 x1 x2 x3 x4:D):Val:=cb [h] [[],[],R] [] [] [c,.int (a:Nat),.int ((a+1:Nat):Int),.int ((a+2:Nat):Int),t0,t1,t2,t3,t4,sc,x0,x1,x2,x3,x4]
noncomputable def qw(T:List D):Ch->List D
 | .a _ _=>T
 | .o k=>T.set k.no (.bytes k.body)
theorem xr{m k:Nat}(B:3<=m)(hk:45<=k){s:List Int}(hs:0<s.length)(hl:s.length<=100){a:Nat}(O:a<=900){sc:D}(be:Rl sc){h:List UInt8}(hh:h.length<big){R:List D}(hR:R.length<big/\ ∀d∈R,Rl d){t0 t1 t2 t3 t4 x0 x1 x2 x3 x4:D}
  (r0:Rl t0) (r1:Rl t1) (r2:Rl t2) (r3:Rl t3) (r4:Rl t4) (y0:Rl x0) (y1:Rl x1) (y2:Rl x2) (y3:Rl x3) (y4:Rl x4) (sh:Sh):
  ∃c:Ch,∃bv z1 z2 z3 z4,Rl z1/\Rl z2/\Rl z3/\Rl z4/\wB (az m) 14200 2 k (eS sc [.lst (s.map .int),.int (a:Nat)] [t0,t1,t2,t3,t4] R (.bytes h) (xM sh x0 x1 x2 x3 x4))=
   .ok (.next,eS sc [.lst (s.map .int),.int ((a+2:Nat):Int)] (qw [t0,t1,t2,t3,t4] c) (R++aM [c]) (.bytes (h++c.line)) (xM bv x0 z1 z2 z3 z4)):=by
 have H:(vA h R (.lst (s.map .int)) sc a t0 t1 t2 t3 t4 x0 x1 x2 x3 x4).Ok:=a_ (ah hh) (aa ⟨by decide,ag⟩ (aa ⟨by decide,ag⟩ (ah hR))) (by decide) ag
  (aa (Rl.lst (fG s)) (aa Rl.int (aa Rl.int (aa Rl.int (aa r0 (aa r1 (aa r2 (aa r3 (aa r4 (aa be (aa y0 (aa y1 (aa y2 (aa y3 (ah y4)))))))))))))))
 generalize X:vA h R (.lst (s.map .int)) sc a t0 t1 t2 t3 t4 x0 x1 x2 x3 x4=ρ at H;have eR:gL ρ [.seg 2]=R:=by subst X;exact List.append_nil R
 have eh:gD ρ oE= .bytes h:=by subst X;exact congrArg D.bytes (List.append_nil h)
 have e0:ax ρ (qu sh)=eS sc [.lst (s.map .int),.int (a:Nat)] [t0,t1,t2,t3,t4] R (.bytes h) (xM sh x0 x1 x2 x3 x4):=by
  unfold qu;rw[qv,eR,eh,vr];subst X;rfl
 have el: ∀b:List UInt8,gD ρ (.sb (.s 0::b.map .b))= .bytes (h++b):= λb=>by
  subst X;show D.bytes (h++(vA h R (.lst (s.map .int)) sc a t0 t1 t2 t3 t4 x0 x1 x2 x3 x4).oct (b.map .b))=_;rw[rM]
 have d1:=l6 s a (M:=6) (by decide);have al:cM ρ 2 (JQ (d_ s a 6)):=by
  subst X;exact aA rfl rfl rfl λm B=>nM B hs hl (by exact aj O) (by decide)
 have ac: ∀M,0<M->cM ρ 2 (JR M (d_ s (a+1) M)):= λM hM=>by
  subst X;exact aA rfl rfl rfl λm B=>nM B hs hl (by exact aj O) hM
 by_cases q:d_ s a 6<4
 .obtain⟨w,hw⟩:=H_ d1.1 q;have d2:=l6 s (a+1) (M:=7) (by decide);obtain⟨r,hr⟩:=Ib d2.1 d2.2;have ac:=ac 7 (by decide);rw[hw] at al;rw[hr] at ac;have hx:=d9 (List.all_eq_true.mp (List.all_eq_true.mp (List.all_eq_true.mp K3 sh sh.mem) w w.mem) r r.mem);have u:=(rZ H (av al (av ac aB)) (n:=1) (m:=m) (i:=14200) (j:=2) (by exact aj B) hk _).1 _ hx;rw[e0] at u;refine⟨.a w r,sh.nA,.int w.ix,.bytes r.oct,r.value,x4,Rl.int,Rl.bytes,sF r,y4,u.trans (congrArg (λz=>Res.ok (Fl.next,z)) ?_)⟩;show ax ρ (F6 sh w r)=_;unfold F6;have bb:gL ρ [.seg 2,ph w r]=R++[ph w r]:=by
   rw[bt,show rowOf ρ (.seg 2) (gD ρ (.seg 2))=gL ρ [.seg 2] from(List.append_nil _).symm,eR];show R++[D.tup [.bytes w.word,gD ρ r.value]]=_;rw[qt];rfl
  rw[qv,bb,el,vr,qt];subst X;rfl
 .have hv:d_ s a 6∈[(4:Int),5]:=by
   have:d_ s a 6=4\/d_ s a 6=5:=(Int.lt_or_eq_of_le (Int.le_sub_one_of_lt d1.2)).elim (λz=>.inl (Int.le_antisymm (Int.le_sub_one_of_lt z) (Int.not_lt.mp q))) .inr;rcases this with h|h<;>rw[h]<;>decide
  have d2:=l6 s (a+1) (M:=5) (by decide);obtain⟨r,hr⟩:=Ie d2.1 d2.2;have ac:=ac 5 (by decide);rw[hr] at ac;have hx:=d9 (List.all_eq_true.mp (List.all_eq_true.mp (List.all_eq_true.mp K4 sh sh.mem) r (by rcases r with _|_<;>decide)) _ hv);have u:=(rZ H (av al (av ac aB)) (n:=1) (m:=m) (i:=14200) (j:=2) (by exact aj B) hk _).1 _ hx;rw[e0] at u;refine⟨.o r,sh.nO,.int (d_ s a 6),.bytes r.oct,x3,.int r.ix,Rl.int,Rl.bytes,y3,Rl.int,u.trans (congrArg (λz=>Res.ok (Fl.next,z)) ?_)⟩;show ax ρ (F7 sh r _)=_;unfold F7;rw[qv,eR,el,vr];show _=eS _ _ _ (R++[]) _ _;rw[List.append_nil];subst X;rcases r with _|_<;>rfl
noncomputable def Ot.fw:Ot->Fw
 |a=>.b8|b=>.vm|c=>.fE|d=>.df|e=>.jq
theorem AE(k:Ot)(n:Nm):k.fw.hit n=match n with
  | .o j=>decide (k=j)
  | .w _=>false:=by
 cases n with
 |w _=>rcases k with _|_<;>rfl
 |o j=>rcases k with _|_<;>rcases j with _|_<;>rfl
theorem kZ(k:Ot)(O:List Ch):bC k.fw O=none\/bC k.fw O=some k.body:=by
 induction O with
 |nil=>exact .inl rfl
 |cons c O B=>
  show(bif k.fw.hit c.nm then some c.body else bC k.fw O)=none\/(bif k.fw.hit c.nm then some c.body else bC k.fw O)=some k.body;rw[AE];cases c with
  |a _ _=>exact B
  |o j=>
   show(bif decide (k=j) then some j.body else bC k.fw O)=_\/(bif decide (k=j) then some j.body else bC k.fw O)=_;by_cases q:k=j
   .subst q;rw[decide_eq_true rfl];exact .inr rfl
   .rw[decide_eq_false q];exact B
theorem uz(w:Fw)(O:List Ch)(c:Ch):bC w (O++[c])=match bC w O with
  |some b=>some b
  |none=>bif w.hit c.nm then some c.body else none:=by
 induction O with
 |nil=>rfl
 |cons d O B=>
  show(bif w.hit d.nm then some d.body else bC w (O++[c]))=match(bif w.hit d.nm then some d.body else bC w O) with
   |some b=>some b
   |none=>bif w.hit c.nm then some c.body else none
  rcases w.hit d.nm with _|_
  .exact B
  .rfl
theorem sG(k:Ot)(O:List Ch)(c:Ch):aH k.fw (O++[c])=bif k.fw.hit c.nm then .bytes k.body else aH k.fw O:=by
 unfold aH;rw[uz,AE];cases c with
 |a _ _=>rcases kZ k O with h|h<;>(rw[h];rfl)
 |o j=>
  show _=bif decide (k=j) then _ else _;by_cases q:k=j
  .subst q;rw[decide_eq_true rfl];rcases kZ k O with h|h<;>(rw[h];try rfl)
   show Fp (bif decide (k=k) then _ else _)=_;rw[decide_eq_true rfl];rfl
  .rw[decide_eq_false q];rcases kZ k O with h|h<;>(rw[h];try rfl)
   show Fp (bif decide (k=j) then _ else _)=_;rw[decide_eq_false q];rfl
noncomputable def told(O:List Ch):List D:=[aH .b8 O,aH .vm O,aH .fE O,aH .df O,aH .jq O]
theorem xt(O:List Ch)(c:Ch):told (O++[c])=qw (told O) c:=by
 unfold told;have h:=sG;rw[show aH .b8 (O++[c])=_ from h .a O c,show aH .vm (O++[c])=_ from h .b O c,show aH .fE (O++[c])=_ from h .c O c,show aH .df (O++[c])=_ from h .d O c,show aH .jq (O++[c])=_ from h .e O c];cases c with
 |a _ _=>rfl
 |o k=>rcases k with _|_<;>rfl
theorem sH(O:List Ch)(c:Ch):aM (O++[c])=aM O++aM [c]:=by
 induction O with
 |nil=>rfl
 |cons d O B=>
  cases d with
  |o _=>exact B
  |a w r=>exact congrArg (ph w r:: ·) B
theorem uA(O:List Ch)(c:Ch):lines (O++[c])=lines O++c.line:=by
 induction O with
 |nil=>exact List.append_nil _
 |cons d O B=>show d.line++lines (O++[c])=(d.line++lines O)++c.line;rewrite[B,List.append_assoc];rfl
noncomputable def I3(u:Loc):Prop:=u=[]\/ ∃s t p o v k,Rl t/\Rl p/\Rl o/\Rl v/\Rl k/\u=xM s t p o v k
theorem xu{m k:Nat}(hm:3<=m)(hk:45<=k){s:List Int}(hs:0<s.length)(hl:s.length<=100){sc:D}(a9:Rl sc): ∀(is:List D) (O:List Ch) (a:Nat) (tl:Loc),(∀d∈is,Rl d)->is.length+O.length<=8->a+2*is.length<=800->I3 tl->
  ∃ac a' al,ac.length<=8/\I3 al/\forL (n6 (aV 14200 2)) (wB (az m) 14200 2 k) is (eS sc [.lst (s.map .int),.int (a:Nat)] (told O) (aM O) (.bytes (lines O)) tl)=
   .ok (.next,eS sc [.lst (s.map .int),.int (a':Nat)] (told ac) (aM ac) (.bytes (lines ac)) al):=by
 intro l9;induction l9 with
 |nil=>
  intro O a tl B hn B ap;exact⟨O,a,tl,by simp only[List.length_nil] at hn;exact aj hn,ap,rfl⟩
 |cons i is be=>
  intro O a tl hi hn ha ap;simp only[List.length_cons] at hn ha;have bb:(2000:Nat)<big:=by decide
  have ht:=nE O;have a7:(lines O).length<big:=by
   have:(ai O).length=(lines O).length+3:=by show(lines O++[13,10,120]).length=_;rw[List.length_append];rfl
   exact Nat.lt_of_le_of_lt (Nat.le_trans (Nat.le_trans (Nat.le_add_right _ 3) (Nat.le_of_eq this.symm)) (Nat.le_trans ht (Nat.add_le_add_right (Nat.mul_le_mul_left 60 (Nat.le_trans (Nat.le_add_left _ _) hn)) 3))) (by decide)
  have hr:=gm O;obtain⟨sh,p,o,v,kk,H,ho,hv,am,X⟩: ∃sh p o v kk,Rl p/\Rl o/\Rl v/\Rl kk/\ay (eS sc [.lst (s.map .int),.int (a:Nat)] (told O) (aM O) (.bytes (lines O)) tl) (n6 (aV 14200 2)) i= .ok (eS sc [.lst (s.map .int),.int (a:Nat)] (told O) (aM O) (.bytes (lines O)) (xM sh i p o v kk)):=by
   rcases ap with rfl|⟨sh,t,p,o,v,kk,_,H,ho,hv,am,rfl⟩
   .exact⟨.s0,.none,.none,.none,.none,Rl.none,Rl.none,Rl.none,Rl.none,by kernel_rfl⟩
   .exact⟨sh,p,o,v,kk,H,ho,hv,am,by rcases sh with _|_<;>kernel_rfl⟩
  refine hide λP9 b9=> ?_;obtain⟨c,bv,z1,z2,z3,z4,g1,g2,g3,g4,u⟩:=xr hm hk hs hl (a:=a) (by exact aj ha) a9 a7 ⟨by exact nW hn bb hr.1,hr.2⟩ (bh .b8 O) (bh .vm O) (bh .fE O) (bh .df O) (bh .jq O) (hi i (.head _)) H ho hv am sh;refine b9 ?_;have e:qw [aH .b8 O,aH .vm O,aH .fE O,aH .df O,aH .jq O] c=told (O++[c]):=(xt O c).symm;rw[e,<-sH,<-uA] at u;refine hide λP9 b9=> ?_;obtain⟨ac,a',al,z,h3,h4⟩:=be (O++[c]) (a+2) _ (λd md=>hi d (.tail _ md)) (by rw[List.length_append];simp only[List.length_singleton];exact aj hn) (by exact aj ha) (.inr ⟨bv,i,z1,z2,z3,z4,hi i (.head _),g1,g2,g3,g4,rfl⟩);refine b9 ?_;exact⟨ac,a',al,z,h3,(nz X u).trans h4⟩
noncomputable def Bh:Option Sh->Loc
 |none=>[]
 |some s=>xM s (.aq 10) (.aq 11) (.aq 12) (.aq 13) (.aq 14)
noncomputable def Ig:List (Option Sh):=[none,some .s0,some .s1,some .s2,some .s3,some .s4]
theorem qx(s:Option Sh):s∈Ig:=by
 rcases s with _|s
 .exact .head _
 .rcases s with _|_<;>simp[Ig]
noncomputable def span(i j:Nat):List Stmt:=((gf 14200).body.drop i).take (j-i)
noncomputable def iX(z:D)(T:List D)(to rw hd:D)(u mid:Loc):Loc:=("script",.d z)::("tape",.own (.lst T))::("told_others",.d to)::("rows",.d rw)::("head",.d hd)::(u++mid)
noncomputable def JS(b:Bool)(x k:Nat):D:=if b then .none else .lst [.aq x,.seg k]
noncomputable def I4(b:Bool)(x k:Nat):D:=if b then .aq 1 else .lst [.aq x,.seg k]
noncomputable def AF:D:=.sb [.s 0,.b 13,.b 10,.b 120]
noncomputable def Kv(s r:Bool):Rows:=[(14100,[.own (.lst [.seg 2]),.d (.bytes Wd.f.word)],.ok (.d (.aq 1),.d (.lst [.seg 2]))),(14100,[.d (.lst [.seg 2]),.d (.bytes Wd.s.word)],.ok (.d (JS s 15 3),.d (.lst [.seg 2]))),(14100,[.d (.lst [.seg 2]),.d (.bytes Wd.r.word)],.ok (.d (JS r 16 4),.d (.lst [.seg 2]))),(14100,[.d (.lst [.seg 2]),.d (.bytes Wd.t.word)],.ok (.d (.aq 2),.d (.lst [.seg 2])))]
noncomputable def CY(s r:Bool):List D:=[.none,.aq 4,.aq 1,I4 s 15 3,I4 r 16 4,.aq 2,.none,.none,.none,.none]
noncomputable def Kw(s r:Bool)(t:Option Sh):Loc:=iX (.aq 9) [.aq 0,.aq 3] (.lst DZ) (.lst [.seg 2]) oE (Bh t) [("data",.d AF),("first",.d (.aq 1)),("due",.own (.lst (CY s r)))]
theorem F8:Ig.all (λt=>[true,false].all λs=>[true,false].all λr=>j3 (aw 45 (xO (aE (tabOf (Kv s r)) 1) 14200) (span 3 6) (eS (.aq 9) [.aq 0,.aq 3] DZ [.seg 2] oE (Bh t))) .next (Kw s r t))=true:=by kernel_rfl
noncomputable def ft:List (Str×D):=fk (.aq 20) (.aq 21) (.aq 22) (.aq 23) (.aq 24) (.aq 25)
noncomputable def nN:List (Str×D):=fk (.aq 30) (.aq 31) (.aq 32) (.aq 33) (.aq 34) (.aq 35)
noncomputable def F9:Nat×List MV×Res (MV×MV):=(11500,[.d oE],.ok (.own (.obj 108 ft),.d oE))
noncomputable def Ih:Nat×List MV×Res (MV×MV):=(12400,[.d oE,.d (.obj 108 ft)],.ok (.own (.lst [.seg 500]),.d oE))
noncomputable def JT(t:Option Sh):Loc:=iX (.aq 9) [.aq 0,.aq 15] (.lst DZ) (.aq 2) (.aq 3) (Bh t) [("data",.d oE),("first",.d (.aq 1)),("due",.own (.lst [.seg 500]))]
noncomputable def JU(t:Option Sh):Loc:=iX (.aq 9) [.aq 0,.aq 15] (.lst DZ) (.aq 2) (.aq 3) (Bh t) [("data",.d oE),("first",.d (.aq 1)),("due",.d (.lst [.seg 500])),("leaf",.own (.lst (nH (.aq 5) (.aq 6)))),("tail",.own (.lst (pe (.aq 7) (.aq 8))))]
theorem F_:Ig.all (λt=>j3 (aw 45 (xO (aE (tabOf [F9,Ih]) 1) 14200) (span 6 9) (JT t)) .next (JU t))=true:=by kernel_rfl
noncomputable def I5(t:Option Sh):Loc:=iX (.aq 9) [.aq 0,.aq 15] (.aq 4) (.aq 2) (.aq 3) (Bh t) [("data",.d oE),("first",.d (.aq 1)),("due",.d (.lst [.seg 500])),("leaf",.own (.lst [.seg 501])),("tail",.own (.lst [.seg 502]))]
noncomputable def JV:Rows:=[F9,(13400,[.d oE,.d (.obj 108 ft),.d (.bool false)],.ok (.own (.lst [.seg 501]),.d oE)),(13400,[.d oE,.d (.obj 108 ft),.d (.bool true)],.ok (.own (.lst [.seg 501,.seg 502]),.d oE)),(11500,[.d oO],.ok (.own (.obj 108 nN),.d oO)),(13400,[.d oO,.d (.obj 108 nN),.d (.bool false)],.ok (.own (.lst (pg (.si 0 [0]) [.seg 500] [.seg 501] (.si 0 [2001]))),.d oO))]
noncomputable def isTrue(r:Res (Fl×Loc)):Bool:=match r with
 | .ok p=>vl p.1 (.ret (.d (.bool true)))
 |_=>false
theorem Ga:Ig.all (λt=>isTrue (aw 40 (xO (aE (tabOf JV) 1) 14200) (span 9 13) (I5 t)))=true:=by kernel_rfl
noncomputable def CZ(s:Stmt):Expr:=uG s (.Constant .none 0 default) (as:=id)
noncomputable def Gb(e:Expr):List Expr:=la e [] (ls:=id)
noncomputable def JW(e:Expr):List Expr:=la e [] (bo:= λop es=>if op==.And then[] else es)
noncomputable def AG(e:Expr):Expr:=la e e (ca:= λB as B=>as.headD (.Constant .none 0 default))
theorem AH{k:Nat}{X:Cx}{e a b:Expr}{l:Loc}{va vb:MV}(h:Gb e=[a,b])(O:ak k X a l= .ok (va,l))(u:ak k X b l= .ok (vb,l))(hs:aC va.D=false/\aC vb.D=false):ak (k+1) X e l= .ok (.own (.lst [va.D,vb.D]),l):=by
 rcases e with _|_|_|_|_|_|_|_|_|_|_|_|_|_|_|_|_|_|_|_|_|_|_|_|⟨es,p⟩|_|_<;>try(cases h;done)
 .have h:es=[a,b]:=h;subst h;show((ak k X a l).bind λ(v,l)=>((ak k X b l).bind λ(w,l)=>(Res.ok ([],l)).bind λ(vs,l)=>Res.ok (w.D::vs,l)).bind λ(vs,l)=>Res.ok (v.D::vs,l)).bind _=_;rw[O];show(((ak k X b l).bind λ(w,l)=>(Res.ok ([],l)).bind λ(vs,l)=>Res.ok (w.D::vs,l)).bind λ(vs,l)=>Res.ok (va.D::vs,l)).bind _=_;rw[u];show(if[va.D,vb.D].length<=lim/\aG [va.D,vb.D]=false then Res.ok (MV.own (.lst [va.D,vb.D]),l) else .stuck)=_;exact if_pos ⟨by show 2<=lim;decide,bk.mpr (aa hs.1 (ah hs.2))⟩
theorem Ii{k:Nat}{X:Cx}{e a b:Expr}{r:List Expr}{l:Loc}{va:MV}(h:JW e=a::b::r)(O:ak k X a l= .ok (va,l))(B:va.D.truthy=some true):ak (k+1) X e l= .ok (va,l):=by
 rcases e with⟨op,es,p⟩|_|_|_|_|_|_|_|_|_|_|_|_|_|_|_|_|_|_|_|_|_|_|_|_|_|_<;>try(cases h;done)
 .have h:(if op==.And then[] else es)=a::b::r:=h;cases op with
  |And=>cases h
  |Or=>
   have h:es=a::b::r:=h;subst h;show(ak k X a l).bind (λ(v,l)=>(Res.of v.D.truthy).bind λt=>if t==false then fu (ak k X) false (b::r) l else Res.ok (v,l))=_;rw[O];show(Res.of va.D.truthy).bind _=_;rw[B];rfl
theorem sI(t:List Int):dP (t.map D.int)=t.length:=by
 induction t with
 |nil=>rfl
 |cons x r B=>show 1+dP (r.map D.int)=r.length+1;rw[B,Nat.add_comm]
theorem sJ{x:Int}{t:List Int}(h:t.length<=100):D.truthy (.lst ((x::t).map .int))=some true:=by
 have b:101<=lim:=by decide
 rw[i9,if_pos (by rw[sI];simp only[List.length_cons];exact bp h b)];rfl
theorem slice_ints{s:List Int}(h:s.length<=100):sliced (.lst (s.map .int)) none (some ⟨30,[]⟩)=some (.lst ((s.take 30).map .int)):=by
 have b:100<=lim:=by decide
 unfold sliced;show(if(aG (s.map D.int)||false)=true then _ else(if lim<(s.map D.int).length then none else some (D.lst (cut (s.map D.int) 0 (clip (s.map D.int).length 30)))))=_;rw[j'];show(if lim<(s.map D.int).length then none else some (D.lst (cut (s.map D.int) 0 (clip (s.map D.int).length 30))))=_;rw[List.length_map,if_neg (by exact Nat.not_lt_of_le (bp h b)),jT (by decide)];show some (D.lst (((s.map D.int).drop 0).take (min 30 s.length-0)))=_;rw[List.drop_zero,Nat.sub_zero,List.map_take];by_cases q:s.length<=30
 .rw[Nat.min_eq_right q,List.take_of_length_le (by rw[List.length_map];simp+arith only),List.take_of_length_le (by rw[List.length_map];exact aj q)]
 .rw[Nat.min_eq_left (by exact aj (Nat.lt_of_not_le q))]
theorem xw{c:Nat->List MV->Res (MV×MV)}{l:Loc}:aw 60 (xO c 14200) [aV 14200 0] l=(((ak 59 (xO c 14200) (CZ (aV 14200 0)) l).bind λ(v,l)=>Res.ok (Loc.set l "tape" v)).bind λl=>Res.ok (Fl.next,l)).bind λ(f,l)=>match f with
  | .next=>aw 59 (xO c 14200) [] l
  |f=>.ok (f,l):=by kernel_rfl
noncomputable abbrev I6:Expr:=(Gb (CZ (aV 14200 0))).headD (.Constant .none 0 default)
noncomputable abbrev Gd:Expr:=(JW I6).headD (.Constant .none 0 default)
theorem AI{c:Nat->List MV->Res (MV×MV)}(s:List Int)(H:s.length<=63): ∃t:List Int,0<t.length/\t.length<=100/\aw 60 (xO c 14200) (ahead 14200 2) [("script",.d (.lst (s.map .int)))]= .ok (.next,eS (.lst (s.map .int)) [.lst (t.map .int),.int ((0:Nat):Int)] (told []) (aM []) (.bytes (lines [])) []):=by
 have O:ahead 14200 2=[aV 14200 0]++[aV 14200 1]:=by kernel_rfl
 rcases s with _|⟨x,r⟩
 .exact⟨[3],by decide,by decide,by kernel_rfl⟩
 .simp only[List.length_cons] at H;refine⟨x::r.take 29,by simp,by rw[List.length_cons,List.length_take];(first|exact Nat.le_trans (Nat.succ_le_succ (Nat.min_le_left _ _)) (by decide)|exact Nat.le_trans (Nat.min_le_left _ _) (by decide)),?_⟩;have hx:(x::r).take 30=x::r.take 29:=rfl;generalize B:[(("script":Str),MV.d (.lst ((x::r).map .int)))]=l;have z:ak 56 (xO c 14200) (AG Gd) l=(Res.of (sliced (.lst ((x::r).map .int)) none (some ⟨30,[]⟩))).bind λr=>.ok (.d r,l):=by subst B;kernel_rfl
  rw[slice_ints (by simp only[List.length_cons];exact aj H),hx] at z;have z:ak 56 (xO c 14200) (AG Gd) l= .ok (.d (.lst ((x::r.take 29).map .int)),l):=z;have eB:ak 57 (xO c 14200) Gd l=km (ak 56 (xO c 14200)) .list [AG Gd] l:=by subst B;kernel_rfl
  have eB:ak 57 (xO c 14200) Gd l= .ok (.own (.lst ((x::r.take 29).map .int)),l):=by
   rw[eB];show(((ak 56 (xO c 14200) (AG Gd) l).bind λ(v,l)=>(Res.ok ([],l)).bind λ(vs,l)=>Res.ok (v.D::vs,l)).bind λ(ds,l)=>(Res.of (hU .list ds)).bind λr=>Res.ok (r,l))=_;rw[z];show(Res.of (if[D.lst ((x::r.take 29).map .int)].any bM then xW .list [D.lst ((x::r.take 29).map .int)] else if dP ((x::r.take 29).map .int)<=lim then some (MV.own (.lst ((x::r.take 29).map .int))) else none)).bind _=_;rw[show[D.lst ((x::r.take 29).map D.int)].any bM=false from(Bool.or_false _).trans (j' _),if_pos (show dP ((x::r.take 29).map .int)<=lim by rw[sI,List.length_cons,List.length_take];unfold lim;(first|exact Nat.le_trans (Nat.succ_le_succ (Nat.min_le_left _ _)) (by decide)|exact Nat.le_trans (Nat.min_le_left _ _) (by decide)))];rfl
  have X:ak 58 (xO c 14200) I6 l= .ok (.own (.lst ((x::r.take 29).map .int)),l):=Ii (r:=[]) (a:=Gd) (b:=((JW I6).drop 1).headD (.Constant .none 0 default)) (by kernel_rfl) eB (sJ (by rw[List.length_take];(first|exact Nat.le_trans (Nat.succ_le_succ (Nat.min_le_left _ _)) (by decide)|exact Nat.le_trans (Nat.min_le_left _ _) (by decide))));have eD:ak 59 (xO c 14200) (CZ (aV 14200 0)) l= .ok (.own (.lst [.lst ((x::r.take 29).map .int),.int 0]),l):=
   AH (a:=I6) (b:=((Gb (CZ (aV 14200 0))).drop 1).headD (.Constant .none 0 default)) (vb:=.d (.int 0)) (by kernel_rfl) X (by subst B;kernel_rfl) ⟨rfl,rfl⟩
  have u:aw ([aV 14200 0].length+58+1) (xO c 14200) [aV 14200 0] l= .ok (.next,Loc.set l "tape" (.own (.lst [.lst ((x::r.take 29).map .int),.int 0]))):=by
   show aw 60 _ _ _=_;rw[xw,eD];rfl
  rw[O];refine(dH (k:=58) [aV 14200 0] u).trans ?_;subst B;kernel_rfl
noncomputable def vt(X:Cx)(s:Stmt):Bool:=r7 s&& !(pinned X (n6 s)|| !bq X (n6 s))
theorem AJ{c:Nat->List MV->Res (MV×MV)}{i j k:Nat}(h:vt (xO c i) (aV i j)=true){a:Expr}(B:cJ (xO c i) (qf (aV i j))=some a){ss:List Stmt}{l l1:Loc}{v:Int}(u:ak k (xO c i) a l= .ok (.d (.int v),l1))(z:0<=v/\v<lim):
  aw (k+1) (xO c i) (aV i j::ss) l=(forL (n6 (aV i j)) (wB c i j k) (bP v.toNat) l1).bind λ(f,l)=>match f with
   | .next=>aw k (xO c i) ss l
   |f=>.ok (f,l):=by
 show(fY (xO c i) (ak k (xO c i)) (bT k (xO c i)) (aw k (xO c i)) (aV i j) l).bind _=_;unfold wB;obtain⟨X,O⟩:=Bool.and_eq_true_iff.mp h;rcases e:aV i j with _|_|_|_|_|_|_|_|_|⟨t,it,b,al,p⟩|_|_|_|_|_|_|_|_|_|_|_|_|_|_|_|_|_|_<;>try(rw[e] at X;cases X;done)
 .rw[e] at X O B;have e1:fY (xO c i) (ak k (xO c i)) (bT k (xO c i)) (aw k (xO c i)) (.For t it b al p) l=lC (xO c i) (ak k (xO c i)) (aw k (xO c i) b) t it l:=if_pos X;have H:lC (xO c i) (ak k (xO c i)) (aw k (xO c i) b) t it l=forL t (aw k (xO c i) b) (bP v.toNat) l1:=by
   unfold lC;have O:(pinned (xO c i) t|| !bq (xO c i) t)=false:=DK O;have B:cJ (xO c i) it=some a:=B;rw[O,B];show(aF (ak k (xO c i)) a l).bind _=_;unfold aF;rw[u];show(if 0<=v/\v<lim then _ else _)=_;exact if_pos z
  rw[e1,H];rfl
noncomputable abbrev I7:Expr:=AG (qf (aV 14200 2))
theorem D0{c:Nat->List MV->Res (MV×MV)}:vt (xO c 14200) (aV 14200 2)=true/\cJ (xO c 14200) (qf (aV 14200 2))=some I7:=⟨by kernel_rfl,by kernel_rfl⟩
noncomputable def Kx:List D:=[.none,.none,.none,.none,.none]
theorem Ge:ak 45 (xO (aE (tabOf [(14000,[.own (.lst [.aq 0,.aq 1]),.d (.int 9)],.ok (.d (.aq 3),.own (.lst [.aq 0,.aq 2])))]) 1) 14200) I7 (eS (.aq 4) [.aq 0,.aq 1] Kx [] (.bytes []) [])= .ok (.d (.aq 3),eS (.aq 4) [.aq 0,.aq 2] Kx [] (.bytes []) []):=by kernel_rfl
theorem uB{m k:Nat}(B:3<=m)(O:45<=k){t:List Int}(hs:0<t.length)(hl:t.length<=100){z:D}(X:Rl z):ak k (xO (az m) 14200) I7 (eS z [.lst (t.map .int),.int ((0:Nat):Int)] (told []) (aM []) (.bytes (lines [])) [])=
  .ok (.d (.int (d_ t 0 9)),eS z [.lst (t.map .int),.int ((1:Nat):Int)] (told []) (aM []) (.bytes (lines [])) []):=by
 have H:(cb [] [] [] [] [.lst (t.map .int),.int ((0:Nat):Int),.int ((1:Nat):Int),.int (d_ t 0 9),z]).Ok:=a_ ag ag (by decide) ag (aa (Rl.lst (fG t)) (aa Rl.int (aa Rl.int (aa Rl.int (ah X)))));have u:cM (cb [] [] [] [] [.lst (t.map .int),.int ((0:Nat):Int),.int ((1:Nat):Int),.int (d_ t 0 9),z]) 2 (14000,[.own (.lst [.aq 0,.aq 1]),.d (.int 9)],.ok (.d (.aq 3),.own (.lst [.aq 0,.aq 2]))):=
  aA rfl rfl rfl λm B=>nM B hs hl (by decide) (by decide)
 exact((qe H 45 k O (xO (aE (tabOf [(14000,[.own (.lst [.aq 0,.aq 1]),.d (.int 9)],.ok (.d (.aq 3),.own (.lst [.aq 0,.aq 2])))]) 1) 14200) (az m) (iO H (av u aB) 1 m (by exact aj B))).1 I7 _).1 _ Ge
theorem C0:behind 14200 2=span 3 6++(span 6 9++span 9 13)/\(span 3 6).length=3/\(span 6 9).length=3:=⟨by kernel_rfl,by kernel_rfl,by kernel_rfl⟩
theorem nP{tl:Loc}(h:I3 tl): ∃(t:Option Sh) (x0 x1 x2 x3 x4:D),Rl x0/\Rl x1/\Rl x2/\Rl x3/\Rl x4/\ ∀ρ:Val,ρ.O 10=x0->ρ.O 11=x1->ρ.O 12=x2->ρ.O 13=x3->ρ.O 14=x4->ax ρ (Bh t)=tl:=by
 rcases h with rfl|⟨s,x0,x1,x2,x3,x4,h0,u,z,X,h4,rfl⟩
 .exact⟨none,.none,.none,.none,.none,.none,Rl.none,Rl.none,Rl.none,Rl.none,Rl.none,λB B B B B B=>rfl⟩
 .refine⟨some s,x0,x1,x2,x3,x4,h0,u,z,X,h4,λρ e0 e1 H e3 e4=> ?_⟩;show ax ρ (xM s (.aq 10) (.aq 11) (.aq 12) (.aq 13) (.aq 14))=_;rw[vr,show gD ρ (.aq 10)=ρ.O 10 from rfl,show gD ρ (.aq 11)=ρ.O 11 from rfl,show gD ρ (.aq 12)=ρ.O 12 from rfl,show gD ρ (.aq 13)=ρ.O 13 from rfl,show gD ρ (.aq 14)=ρ.O 14 from rfl,e0,e1,H,e3,e4]
theorem qy(ρ:Val)(z:D)(T:List D)(to rw hd:D)(u mid:Loc):ax ρ (iX z T to rw hd u mid)=iX (gD ρ z) (gL ρ T) (gD ρ to) (gD ρ rw) (gD ρ hd) (ax ρ u) (ax ρ mid):=by
 show _::_::_::_::_::ax ρ (u++mid)=_;rw[show ax ρ (u++mid)=ax ρ u++ax ρ mid from List.map_append];rfl
noncomputable def I8(xs:List D):D:=xs.headD .none
theorem Ij{ρ:Val}{xs:List D}{x k:Nat}(hx:gD ρ (.aq x)=I8 xs)(O:gL ρ [.seg k]=xs.drop 1)(u:gD ρ (.aq 1)=xK ys):gD ρ (JS xs.isEmpty x k)=xK xs/\gD ρ (I4 xs.isEmpty x k)=GO xs (xK ys):=by
 rcases xs with _|⟨y,r⟩
 .exact⟨rfl,u⟩
 .have:gD ρ (.lst [.aq x,.seg k])= .lst (y::r):=by
   rw[bc,bt,O];rw[hx];rfl
  exact⟨this,this⟩
theorem D3{xs:List D}(h: ∀d∈xs,Rl d):Rl (I8 xs):=by
 rcases xs with _|⟨x,r⟩
 .exact Rl.none
 .exact h x (.head _)
section
theorem C2(cs:List Ch): ∀d∈told cs,Rl d:=aa (bh _ _) (aa (bh _ _) (aa (bh _ _) (aa (bh _ _) (ah (bh _ _)))))
theorem AK(cs:List Ch)(hn:cs.length<=8):(lines cs).length<big:=by
 have h:=dK [] cs (by decide) hn;have:(ai cs).length=(lines cs).length+3:=by show(lines cs++[13,10,120]).length=_;rw[List.length_append];rfl
 exact Nat.lt_of_le_of_lt (Nat.le_trans (Nat.le_add_right _ 3) (Nat.le_of_eq this.symm)) h
section
variable{m k:Nat}(hk:45<=k){cs:List Ch}(hn:cs.length<=8){tl:Loc}(htl:I3 tl){sc:D}(hsc:Rl sc){t:List Int}(a:Nat)
include hk hn htl hsc
theorem Gf(B:3<=m):aw k (xO (az m) 14200) (span 3 6) (eS sc [.lst (t.map .int),.int (a:Nat)] (told cs) (aM cs) (.bytes (lines cs)) tl)=
  .ok (.next,iX sc [.lst (t.map .int),.int (a:Nat)] (.lst (told cs)) (.lst (aM cs)) (.bytes (lines cs)) tl [("data",.d (.bytes (ai cs))),("first",.d (qC .f cs)),("due",.own (.lst (dw cs)))]):=by
 refine hide λP9 O=> ?_;obtain⟨sh,x0,x1,x2,x3,x4,y0,y1,y2,y3,y4,e⟩:=nP htl;refine O ?_;have b:(400:Nat)<big:=by decide
 have hr:=gm cs;have hV: ∀w,(aW (rowsOf (.w w) cs)).length<big/\ ∀d∈aW (rowsOf (.w w) cs),Rl d:= λw=>by
  have u:=fi (rowsOf (.w w) cs);have h2:=dW (.w w) cs;exact⟨by exact sV (Nat.mul_le_mul_left 4 hn) b u.1 (Nat.mul_le_mul_left 4 h2),u.2⟩
 have ap: ∀w,((aW (rowsOf (.w w) cs)).drop 1).length<big/\ ∀d∈(aW (rowsOf (.w w) cs)).drop 1,Rl d:= λw=>⟨by rw[List.length_drop];exact Nat.lt_of_le_of_lt (Nat.sub_le _ _) (hV w).1,λd m=>(hV w).2 d (List.mem_of_mem_drop m)⟩
 have f:=bh;generalize X:(cb [lines cs] [[],[],aM cs,(aW (rowsOf (.w .s) cs)).drop 1,(aW (rowsOf (.w .r) cs)).drop 1] [] [] [.lst (t.map .int),qC .f cs,qC .t cs,.int (a:Nat),aH .b8 cs,aH .vm cs,aH .fE cs,aH .df cs,aH .jq cs,sc,x0,x1,x2,x3,x4,I8 (aW (rowsOf (.w .s) cs)),I8 (aW (rowsOf (.w .r) cs))])=ρ;have H:ρ.Ok:=by
  subst X;exact a_ (ah (AK cs hn)) (aa ⟨by decide,ag⟩ (aa ⟨by decide,ag⟩ (aa ⟨by exact nW hn b hr.1,hr.2⟩ (aa (ap _) (ah (ap _)))))) (by decide) ag
   (aa (Rl.lst (fG t)) (aa (jr (hV _).2) (aa (jr (hV _).2) (aa Rl.int (aa (f _ _) (aa (f _ _) (aa (f _ _) (aa (f _ _) (aa (f _ _) (aa hsc (aa y0 (aa y1 (aa y2 (aa y3 (aa y4 (aa (D3 (hV _).2) (ah (D3 (hV _).2))))))))))))))))))
 have et:ax ρ (Bh sh)=tl:=e ρ (by subst X;rfl) (by subst X;rfl) (by subst X;rfl) (by subst X;rfl) (by subst X;rfl);have e2:gL ρ [.seg 2]=aM cs:=by subst X;exact List.append_nil _
 have e3:gL ρ [.seg 3]=(aW (rowsOf (.w .s) cs)).drop 1:=by subst X;exact List.append_nil _
 have e4:gL ρ [.seg 4]=(aW (rowsOf (.w .r) cs)).drop 1:=by subst X;exact List.append_nil _
 have eh:gD ρ oE= .bytes (lines cs):=by subst X;exact congrArg D.bytes (List.append_nil _)
 have hs:=Ij (ρ:=ρ) (xs:=aW (rowsOf (.w .s) cs)) (x:=15) (k:=3) (ys:=aW (rowsOf (.w .f) cs)) (by subst X;rfl) e3 (by subst X;rfl);have aI:=Ij (ρ:=ρ) (xs:=aW (rowsOf (.w .r) cs)) (x:=16) (k:=4) (ys:=aW (rowsOf (.w .f) cs)) (by subst X;rfl) e4 (by subst X;rfl);have eo:gM ρ (.own (.lst [.seg 2]))= .own (.lst (aM cs)):=congrArg (λz=>MV.own (.lst z)) e2;have ed:gD ρ (.lst [.seg 2])= .lst (aM cs):=by rw[bc,e2]
 have ac: ∀(w:Wd) (own:Bool) (v:D),gD ρ v=qC w cs->cM ρ 2 (14100,[(if own then .own (.lst [.seg 2]) else .d (.lst [.seg 2])),.d (.bytes w.word)],.ok (.d v,.d (.lst [.seg 2]))):= λw own v hv=>
  aA (args':=[(if own then .own (.lst (aM cs)) else .d (.lst (aM cs))),.d (.bytes w.word)]) (by
   cases own
   .exact congrArg (λz=>[MV.d z,.d (.bytes w.word)]) ed
   .exact congrArg (λz=>[z,.d (.bytes w.word)]) eo) (congrArg MV.d hv) (congrArg MV.d ed) λm B=>xo B cs hn w own
 have T:gc ρ (tabOf (Kv (aW (rowsOf (.w .s) cs)).isEmpty (aW (rowsOf (.w .r) cs)).isEmpty)) 2:=
  av (ac .f true _ (by subst X;rfl)) (av (ac .s false _ hs.1) (av (ac .r false _ aI.1) (av (ac .t false _ (by subst X;rfl)) aB)))
 have bm: ∀b:Bool,b∈[true,false]:= λb=>by rcases b with _|_<;>decide
 have hx:=d9 (List.all_eq_true.mp (List.all_eq_true.mp (List.all_eq_true.mp F8 sh (qx sh)) _ (bm (aW (rowsOf (.w .s) cs)).isEmpty)) _ (bm (aW (rowsOf (.w .r) cs)).isEmpty));have h:=(cj H T (n:=1) (m:=m) (by exact aj B) hk hx).1 _ rfl;have e0:ax ρ (eS (.aq 9) [.aq 0,.aq 3] DZ [.seg 2] oE (Bh sh))=eS sc [.lst (t.map .int),.int (a:Nat)] (told cs) (aM cs) (.bytes (lines cs)) tl:=by
  rw[qv,et,e2,eh];subst X;rfl
 rw[e0] at h;refine h.trans (congrArg (λz=>Res.ok (Fl.next,z)) ?_);unfold Kw;have a0: ∀b x k,aC (I4 b x k)=false:= λb x k=>by rcases b with _|_<;>rfl
 have an:gL ρ (CY (aW (rowsOf (.w .s) cs)).isEmpty (aW (rowsOf (.w .r) cs)).isEmpty)=dw cs:=by
  unfold CY;rw[cL (bk.mpr (aa rfl (aa rfl (aa rfl (aa (a0 _ _ _) (aa (a0 _ _ _) (aa rfl (aa rfl (aa rfl (aa rfl (aa rfl ag)))))))))))];simp only[List.map_cons,List.map_nil,hs.2,aI.2];subst X;rfl
 have al:gD ρ AF= .bytes (ai cs):=by subst X;rfl
 rw[qy,et,ed,eh];show iX _ _ _ _ _ _ [(("data":Str),MV.d (gD ρ AF)),("first",.d (gD ρ (.aq 1))),("due",.own (.lst (gL ρ (CY _ _))))]=_;rw[an,al];subst X;rfl
theorem Gg(B:24<=m){f:D}(hf:Rl f):aw k (xO (az m) 14200) (span 6 9) (iX sc [.lst (t.map .int),.int (a:Nat)] (.lst (told cs)) (.lst (aM cs)) (.bytes (lines cs)) tl [("data",.d (.bytes (ai cs))),("first",.d f),("due",.own (.lst (dw cs)))])=
  .ok (.next,iX sc [.lst (t.map .int),.int (a:Nat)] (.lst (told cs)) (.lst (aM cs)) (.bytes (lines cs)) tl [("data",.d (.bytes (ai cs))),("first",.d f),("due",.d (.lst (dw cs))),("leaf",.own (.lst (dp cs))),("tail",.own (.lst (tailD cs)))]):=by
 refine hide λu O=> ?_;obtain⟨sh,x0,x1,x2,x3,x4,y0,y1,y2,y3,y4,e⟩:=nP htl;refine O ?_;have b:(400:Nat)<big:=by decide
 have ht:=dK [] cs (by decide) hn;have hd:=j9 cs;have g:=bh;generalize X:(cb [ai cs] [] [] [dw cs] [.lst (t.map .int),f,.lst (aM cs),.bytes (lines cs),aH .b8 cs,aH .vm cs,aH .fE cs,aH .df cs,aH .jq cs,sc,x0,x1,x2,x3,x4,.int (a:Nat),.none,.none,.none,.none,.int ((0:Nat):Int),.int ((0+(lines cs).length+2:Nat):Int),.int ((0+(ai cs).length:Nat):Int),.lst (cs.map Ch.field),fj,.none])=ρ;have H:ρ.Ok:=by
  subst X;exact a_ (ah ht) ag (by decide) (ah ⟨by exact bp b (Nat.le_of_eq hd.1),nK cs⟩)
   (aa (Rl.lst (fG t)) (aa hf (aa (Rl.lst (gm cs).2) (aa Rl.bytes (aa (g _ _) (aa (g _ _) (aa (g _ _) (aa (g _ _) (aa (g _ _) (aa hsc (aa y0 (aa y1 (aa y2 (aa y3 (aa y4 (aa Rl.int (aa Rl.none (aa Rl.none (aa Rl.none (aa Rl.none
    (aa Rl.int (aa Rl.int (aa Rl.int (aa (bZ cs).1 (aa (bZ cs).2 (ah Rl.none))))))))))))))))))))))))))
 have et:ax ρ (Bh sh)=tl:=e ρ (by subst X;rfl) (by subst X;rfl) (by subst X;rfl) (by subst X;rfl) (by subst X;rfl);have eE:gD ρ oE= .bytes (ai cs):=by subst X;exact congrArg D.bytes (List.append_nil _)
 have e5:gL ρ [.seg 500]=dw cs:=by subst X;exact List.append_nil _
 have ep:gF ρ ft=cq 0 cs:=by subst X;rfl
 have eo:gM ρ (.own (.obj 108 ft))= .own (.obj 108 (cq 0 cs)):=congrArg (λz=>MV.own (.obj 108 z)) ep;have ap:gD ρ (.obj 108 ft)= .obj 108 (cq 0 cs):=by rw[fM,ep]
 have T:gc ρ (tabOf [F9,Ih]) 23:=by
  refine av ?_ (av ?_ aB)
  .exact aA (a:=.own (.obj 108 ft)) (b:=.d oE) (args':=[.d (.bytes (ai cs))]) (congrArg (λz=>[MV.d z]) eE) eo (congrArg MV.d eE) λm B=>i7 (by exact aj B) cs hn
  .exact aA (a:=.own (.lst [.seg 500])) (b:=.d oE) (args':=[.d (.bytes (ai cs)),.d (.obj 108 (cq 0 cs))]) (by rw[<-eE,<-ap];rfl) (congrArg (λz=>MV.own (.lst z)) e5) (congrArg MV.d eE) λm B=>iF B cs hn 0 Rl.bytes
 have hx:=d9 (List.all_eq_true.mp F_ sh (qx sh));have h:=(cj H T (n:=1) (m:=m) (by exact aj B) hk hx).1 _ rfl;have an:gD ρ (.lst [.seg 500])= .lst (dw cs):=by rw[bc,e5]
 have e0:ax ρ (JT sh)=iX sc [.lst (t.map .int),.int (a:Nat)] (.lst (told cs)) (.lst (aM cs)) (.bytes (lines cs)) tl [("data",.d (.bytes (ai cs))),("first",.d f),("due",.own (.lst (dw cs)))]:=by
  unfold JT;rw[qy,et];show iX _ _ _ _ _ _ [(("data":Str),MV.d (gD ρ oE)),("first",.d (gD ρ (.aq 1))),("due",.own (.lst (gL ρ [.seg 500])))]=_;rw[e5,eE];subst X;rfl
 rw[e0] at h;refine h.trans (congrArg (λz=>Res.ok (Fl.next,z)) ?_);show ax ρ (JU sh)=_;unfold JU;rw[qy,et];show iX _ _ _ _ _ _ [(("data":Str),MV.d (gD ρ oE)),("first",.d (gD ρ (.aq 1))),("due",.d (gD ρ (.lst [.seg 500]))),("leaf",.own (.lst (gL ρ (nH (.aq 5) (.aq 6))))),("tail",.own (.lst (gL ρ (pe (.aq 7) (.aq 8)))))]=_;rw[an,eE];subst X;rfl
theorem Gh(B:32<=m){f h0 to rw:D}(hf:Rl f)(hh:Rl h0)(a9:Rl to)(a8:Rl rw): ∃l,aw k (xO (az m) 14200) (span 9 13) (iX sc [.lst (t.map .int),.int (a:Nat)] to rw h0 tl [("data",.d (.bytes (ai cs))),("first",.d f),("due",.d (.lst (dw cs))),("leaf",.own (.lst (dp cs))),("tail",.own (.lst (tailD cs)))])=
  .ok (.ret (.d (.bool true)),l):=by
 refine hide λu O=> ?_;obtain⟨sh,x0,x1,x2,x3,x4,y0,y1,y2,y3,y4,e⟩:=nP htl;refine O ?_;have b:(400:Nat)<big:=by decide
 have ht:=dK [] cs (by decide) hn;have hd:=(j9 cs).1;have a0:=kX cs;have ac:=xm cs;let os:List D:=[.lst (t.map .int),f,rw,h0,to,.none,.none,.none,.none,sc,x0,x1,x2,x3,x4,.int (a:Nat),.none,.none,.none,.none,.int ((0:Nat):Int),.int ((0+(lines cs).length+2:Nat):Int),.int ((0+(ai cs).length:Nat):Int),.lst (cs.map Ch.field),fj,.none,.none,.none,.none,.none,.int 0,.int 32,.int ((dC++ai cs).length:Nat),.lst [ur],Al,.obj 108 (cq 32 cs)]
 obtain⟨eO,_⟩:=FJ (ai cs) [] [] [dw cs,dp cs,tailD cs] os;generalize X:(cb [ai cs] [] [] [dw cs,dp cs,tailD cs] os)=ρ at eO;have H:ρ.Ok:=by
  subst X;exact a_ (ah ht) ag (by decide) (aa ⟨by exact bp b (Nat.le_of_eq hd),nK cs⟩ (aa ⟨by exact bp b (Nat.le_of_eq a0.1),a0.2⟩ (ah ⟨by exact bp b (Nat.le_of_eq ac.1),ac.2⟩)))
   (aa (Rl.lst (fG t)) (aa hf (aa a8 (aa hh (aa a9 (aa Rl.none (aa Rl.none (aa Rl.none (aa Rl.none (aa hsc (aa y0 (aa y1 (aa y2 (aa y3 (aa y4 (aa Rl.int (aa Rl.none (aa Rl.none (aa Rl.none (aa Rl.none
    (aa Rl.int (aa Rl.int (aa Rl.int (aa (bZ cs).1 (aa (bZ cs).2 (aa Rl.none (aa Rl.none (aa Rl.none (aa Rl.none (aa Rl.none
    (aa Rl.int (aa Rl.int (aa Rl.int (aa (Rl.lst (ah Rl.obj)) (aa Rl.obj (ah Rl.obj))))))))))))))))))))))))))))))))))))
 have et:ax ρ (Bh sh)=tl:=e ρ (by subst X;rfl) (by subst X;rfl) (by subst X;rfl) (by subst X;rfl) (by subst X;rfl);have eE:gD ρ oE= .bytes (ai cs):=by subst X;exact congrArg D.bytes (List.append_nil _)
 have e5:gL ρ [.seg 500]=dw cs:=by subst X;exact List.append_nil _
 have e6:gL ρ [.seg 501]=dp cs:=by subst X;exact List.append_nil _
 have e7:gL ρ [.seg 502]=tailD cs:=by subst X;exact List.append_nil _
 have ep:gF ρ ft=cq 0 cs:=by subst X;rfl
 have ez:gF ρ nN=j8 cs:=by subst X;rfl
 have aI:gD ρ (.obj 108 ft)= .obj 108 (cq 0 cs):=by rw[fM,ep]
 have a5:gD ρ (.obj 108 nN)= .obj 108 (j8 cs):=by rw[fM,ez]
 have an:gD ρ (.lst [.seg 500])= .lst (dw cs):=by rw[bc,e5]
 have a4:gD ρ (.lst [.seg 501])= .lst (dp cs):=by rw[bc,e6]
 have a3:gL ρ [.seg 501,.seg 502]=dp cs++tailD cs:=by rw[show[D.seg 501,.seg 502]=[D.seg 501]++[.seg 502] from rfl,dS,e6,e7]
 have el:gD ρ (.si 0 [0])= .int ((ai cs).length:Nat):=by subst X;exact congrArg D.int (d8 _)
 have en:gD ρ (.si 0 [2001])=I1 cs:=by
  subst X;show D.int (0+((((aX 10 (ai cs)).map D.bytes).length:Nat):Int))=_;rw[d8,List.length_map]
 have ap:gL ρ (pg (.si 0 [0]) [.seg 500] [.seg 501] (.si 0 [2001]))=pg (.int ((ai cs).length:Nat)) (dw cs) (dp cs) (I1 cs):=by
  rw[cL rfl];show[D.bytes As,.bytes FY,.none,.none,.none,.bytes vo,gD ρ (.si 0 [0]),gD ρ (.lst [.seg 500]),gD ρ (.lst [.seg 501]),gD ρ (.si 0 [2001])]=_;rw[el,an,a4,en];rfl
 have T:gc ρ (tabOf JV) 31:=by
  refine av ?_ (av ?_ (av ?_ (av ?_ (av ?_ aB))))
  .exact aA (a:=.own (.obj 108 ft)) (b:=.d oE) (args':=[.d (.bytes (ai cs))]) (congrArg (λz=>[MV.d z]) eE) (congrArg (λz=>MV.own (.obj 108 z)) ep) (congrArg MV.d eE) λm B=>i7 (by exact aj B) cs hn
  .exact aA (a:=.own (.lst [.seg 501])) (b:=.d oE) (args':=[.d (.bytes (ai cs)),.d (.obj 108 (cq 0 cs)),.d (.bool false)]) (by rw[<-eE,<-aI];rfl) (congrArg (λz=>MV.own (.lst z)) e6) (congrArg MV.d eE) λm B=>cB (by exact aj B) [] cs (by decide) hn false
  .exact aA (a:=.own (.lst [.seg 501,.seg 502])) (b:=.d oE) (args':=[.d (.bytes (ai cs)),.d (.obj 108 (cq 0 cs)),.d (.bool true)]) (by rw[<-eE,<-aI];rfl) (congrArg (λz=>MV.own (.lst z)) a3) (congrArg MV.d eE) λm B=>cB (by exact aj B) [] cs (by decide) hn true
  .exact aA (a:=.own (.obj 108 nN)) (b:=.d oO) (args':=[.d (.bytes (dC++ai cs))]) (congrArg (λz=>[MV.d z]) eO) (congrArg (λz=>MV.own (.obj 108 z)) ez) (congrArg MV.d eO) λm B=>nG (by exact aj B) cs hn
  .exact aA (a:=.own (.lst (pg (.si 0 [0]) [.seg 500] [.seg 501] (.si 0 [2001])))) (b:=.d oO) (args':=[.d (.bytes (dC++ai cs)),.d (.obj 108 (j8 cs)),.d (.bool false)]) (by rw[<-eO,<-a5];rfl) (congrArg (λz=>MV.own (.lst z)) ap) (congrArg MV.d eO) λm B=>kY B cs hn
 have hx:=List.all_eq_true.mp Ga sh (qx sh);generalize hr:aw 40 (xO (aE (tabOf JV) 1) 14200) (span 9 13) (I5 sh)=r at hx;rcases r with _|_|p
 .cases hx
 .cases hx
 .obtain⟨fl,l⟩:=p;have a7:fl= .ret (.d (.bool true)):=by
   have hx:vl fl (.ret (.d (.bool true)))=true:=hx;rcases fl with _|_<;>first|(cases hx;done)|exact congrArg Fl.ret (iP hx)
  subst a7;have h:=(cj H T (n:=1) (m:=m) (k':=k) (by exact aj B) (by exact aj hk) hr).1 _ rfl;have e0:ax ρ (I5 sh)=iX sc [.lst (t.map .int),.int (a:Nat)] to rw h0 tl [("data",.d (.bytes (ai cs))),("first",.d f),("due",.d (.lst (dw cs))),("leaf",.own (.lst (dp cs))),("tail",.own (.lst (tailD cs)))]:=by
   unfold I5;rw[qy,et];show iX _ _ _ _ _ _ [(("data":Str),MV.d (gD ρ oE)),("first",.d (gD ρ (.aq 1))),("due",.d (gD ρ (.lst [.seg 500]))),("leaf",.own (.lst (gL ρ [.seg 501]))),("tail",.own (.lst (gL ρ [.seg 502])))]=_;rw[an,eE,e6,e7];subst X;rfl
  rw[e0] at h;exact⟨_,h⟩
end
theorem AL{m:Nat}(B:33<=m)(s:List Int)(H:s.length<=63): ∃b,az m 14200 [.d (.lst (s.map .int))]= .ok (.d (.bool true),b):=by
 obtain⟨m,rfl⟩: ∃j,m=j+1:=⟨m-1,by exact dM (aj B)⟩
 have hsc:Rl (.lst (s.map .int)):=Rl.lst (fG s);obtain⟨t,u,z,X⟩:=AI (c:=az m) s H;have hd:=uB (m:=m) (k:=57) (by exact aj B) (by simp+arith only) u z hsc;have hv:=l6 t 0 (M:=9) (by decide);have ap:(9:Int)<=lim:=by decide
 obtain⟨cs,a,tl,hn,ht,O⟩:=xu (m:=m) (k:=57) (by exact aj B) (by simp+arith only) u z hsc (bP (d_ t 0 9).toNat) [] 1 []
  (λd md=>by
   obtain⟨i,_,rfl⟩:=List.mem_map.mp md;exact Rl.int) (by unfold bP;rw[List.length_map,List.length_range];simp only[List.length_nil];omega) (by unfold bP;rw[List.length_map,List.length_range];omega) (.inl rfl)
 have p1:=Gf (m:=m) (k:=57) (by simp+arith only) hn ht hsc (t:=t) a (by exact aj B);have p2:=Gg (m:=m) (k:=54) (by simp+arith only) hn ht hsc (t:=t) a (by exact aj B) (f:=qC .f cs) (jr (fi _).2);obtain⟨l,p3⟩:=Gh (m:=m) (k:=51) (by simp+arith only) hn ht hsc (t:=t) a (by exact aj B) (f:=qC .f cs) (h0:=.bytes (lines cs)) (to:=.lst (told cs)) (rw:=.lst (aM cs)) (jr (fi _).2) Rl.bytes (Rl.lst (C2 cs)) (Rl.lst (gm cs).2);obtain⟨g1,g2,g3⟩:=C0;obtain⟨b1,b2⟩:=qh (i:=14200) (j:=2) (f:=r7) rfl (by kernel_rfl);have post:aw 57 (xO (az m) 14200) (behind 14200 2) (eS (.lst (s.map .int)) [.lst (t.map .int),.int (a:Nat)] (told cs) (aM cs) (.bytes (lines cs)) tl)= .ok (.ret (.d (.bool true)),l):=by
  rw[g1,show(57:Nat)=(span 3 6).length+53+1 by rw[g2],dH _ (by rw[g2];exact p1),show(53+1:Nat)=(span 6 9).length+50+1 by rw[g3],dH _ (by rw[g3];exact p2)];exact p3
 have body:aw 60 (xO (az m) 14200) (gf 14200).body [("script",.d (.lst (s.map .int)))]= .ok (.ret (.d (.bool true)),l):=by
  rw[b1,show(60:Nat)=(ahead 14200 2).length+57+1 by rw[b2],dH _ (by rw[b2];exact X),AJ D0.1 D0.2 hd ⟨hv.1,by omega⟩];rw[show forL (n6 (aV 14200 2)) (wB (az m) 14200 2 57) (bP (d_ t 0 9).toNat) (eS (.lst (s.map .int)) [.lst (t.map .int),.int ((1:Nat):Int)] (told []) (aM []) (.bytes (lines [])) [])=_ from O];exact post
 rw[bY,dq (i:=14200) (l:=[("script",.d (.lst (s.map .int)))]) (by kernel_rfl) (by kernel_rfl),body];exact⟨_,rfl⟩
end
noncomputable def Gj:List Stmt->Nat->Stmt
 |[],_=>.Pass default
 |s::_,0=>s
 |_::r,n+1=>Gj r n
noncomputable def top(j:Nat):Stmt:=Gj pw_nz0339_01.main.body j
noncomputable def met(j k:Nat):Stmt:=uG (top j) (.Pass default) (cl:= λb B=>Gj b k)
noncomputable abbrev S(x:String)(t:Nat):Value:=.str (Str.ofString x) t
noncomputable abbrev I(i:Int)(t:Nat):Value:=.int i t
noncomputable abbrev R(a:Nat):Value:=.ref a
noncomputable abbrev E(P:Params)(x:String)(t:Nat)(v:Value):DictEntry:={hash:=PyData.keyHash P (Str.ofString x),key:=.str (Str.ofString x) t,val:=v}
noncomputable abbrev T(l:List Value):Obj:={cls:=.type "tuple",data:=.seq l.toArray}
noncomputable abbrev FL(l:List Value):Obj:={cls:=.none,data:=.fields l.toArray}
noncomputable abbrev CO(l:List Value):Obj:={cls:=.type "code",data:=.fields l.toArray}
noncomputable def FN(c:Value)(q:String)(s:Stmt)(g:Nat)(dv B z:Value)(bi:Nat):Obj:=uG s default (fn:= λname u body scope=>{cls:=c,data:=.func {name:=name,qualname:=Str.ofString q,params:=u,body:=.stmts body,scope:=scope,globals:=g,closure:=[],defaults:=dv,kwdefaults:=.none,pyModule:=B,code:=z,builtins:=bi}})
noncomputable def vu:List Obj->List Obj×List Obj
 |[]=>([],[])
 |a::r=>match vu r with
  |(x,y)=>(a::y,x)
noncomputable def AM:Nat->List Obj->BT
 |0,_=>.nil
 |_+1,[]=>.nil
 |n+1,o::r=>match vu r with
  |(x,y)=>.node o (AM n x) (AM n y)
noncomputable def Ik:List (Nat×Obj)->Nat->List Obj->List Obj
 |_,_,[]=>[]
 |[],_,l=>l
 |(a,o)::B,i,x::l=>match Nat.beq a i with
  |true=>o::Ik B (i+1) l
  |false=>x::Ik ((a,o)::B) (i+1) l
noncomputable def k8:Obj->Nat->Nat->Obj
 |⟨c,d,.dict es _,s⟩,k,n=>⟨c,d,.dict (es.toList.take k).toArray n,s⟩
 |o,_,_=>o
noncomputable def lM:Obj->Nat->Obj
 |⟨c,d,.fields vs,s⟩,k=>⟨c,d,.fields (vs.toList.take k).toArray,s⟩
 |o,_=>o
noncomputable def qB(x:String)(t:Nat):Value:=.bytes x.toByteArray.data t
noncomputable def sU(l:List Value):Obj:={cls:=.type "list",data:=.seq l.toArray}
noncomputable def JX(l:List DictEntry)(n:Nat):Obj:={cls:=.type "dict",data:=.dict l.toArray n}
noncomputable def AN(P:Params)(l:List (String×Nat×Nat)):List DictEntry:=l.map λe=>E P e.1 e.2.1 (R e.2.2)
noncomputable def K5(l:List (Int×Nat)):List Value:=l.flatMap λe=>[I e.1 0,I 0 0,R e.2]
noncomputable def D6(l:List (Int×Nat)):List Value:=l.flatMap λe=>[I e.1 0,I 4 0,R e.2]
noncomputable def Ky:List String->Nat->List Value
 |[],_=>[]
 |x::r,t=>S x t::Ky r (t+1)
noncomputable def Bj:Obj:={cls:=.type "builtin_function_or_method",data:=.fields #[.builtin "type.__prepare__",.type "type"]}
noncomputable def Bk(a:Nat):Obj:={cls:=.type "builtin_function_or_method",data:=.fields #[.builtin "object.__init_subclass__",R a]}
noncomputable def Bl(a:Nat):Obj:={cls:=.type "super",data:=.fields #[R a,R a,R a]}
noncomputable def Kz(x:String)(t a:Nat)(u v:Value):Obj:={cls:=.type "getset_descriptor",data:=.fields #[S x t,R a,u,v]}
noncomputable def D7(t a:Nat):Obj:=Kz "__weakref__" t a (.builtin "ExceptionGroup.__weakref__") .none
noncomputable def Gk(t a:Nat):Obj:=Kz "__dict__" t a (.builtin "function.__dict__") (.builtin "function.__dict__#set")
noncomputable def AO(a b:Nat)(m:Value):Obj:={cls:=.type "frame",slots:= #[some (R a),some (R 3),some (R b),none,some m,none,some (R 0)]}
noncomputable def AP(a t:Nat)(u:Int)(n:String):Obj:=CO ([S n t,S n (t+1),S "/claim/cut.py" (t+2),I u 0,I 0 0,I 0 0,I 0 0,I 0 0,R a,.bool false,I 181 0,R (a+1),.none,.none,.none,.none,I (t+3:Nat) 0,I u 0,S "/claim/cut.py" (t+4)])
noncomputable def KA(a t:Nat)(u z:Int)(n q:String)(k:Nat)(l:List Value):Obj:=CO ([S n t,S q (t+1),S "/claim/cut.py" (t+2),I u 0,I z 0,I 0 0,I 0 0,I 3 0,R a,.bool true,I 181 0,R (a+1),.none]++(l++[I (t+3+k:Nat) 0,I u 0,S "/claim/cut.py" (t+4+k)]))
noncomputable def KC(n q:String)(s:Stmt)(dv m:Value)(c:Obj)(a:Nat):List Obj:=[FN .none q s 0 .none .none .none 0,c,FN (.type "function") q s 3 dv m (R a) 0]
noncomputable def qF(a t:Nat)(u z:Int)(n q:String)(s:Stmt)(dv m:Value)(l:List String):List Obj:=T []::FL []::T (Ky l (t+3))::T []::KC n q s dv m (KA a t u z n q l.length [R (a+2),R (a+3),R (a+4)]) (a+5)
noncomputable def qG(a t:Nat)(u z:Int)(n q:String)(s:Stmt)(dv m:Value):List Obj:=T []::FL []::KC n q s dv m (KA a t u z n q 0 [.none,.none,R (a+2)]) (a+3)
noncomputable def cU(a t:Nat)(u z:Int)(n:String)(j:Nat)(dv m:Value)(l:List String):List Obj:=qF a t u z n n (top j) dv m l
noncomputable def qD(a t:Nat)(u z:Int)(n:String)(j:Nat)(dv m:Value):List Obj:=qG a t u z n n (top j) dv m
noncomputable def Bm(P:Params)(m:Value)(t:Nat)(q:String)(u:Int)(l:List (String×Nat×Nat))(n:Nat):Obj:=JX (E P "__module__" t m::E P "__qualname__" (t+2) (S q (t+1))::E P "__firstlineno__" (t+4) (I u (t+3))::AN P l) n
noncomputable def Bn(P:Params)(m:Value)(t:Nat)(u:Int)(l:List (String×Nat×Nat))(d n:Nat):Obj:=JX (E P "__module__" t m::E P "__firstlineno__" (t+4) (I u (t+3))::(AN P l++[E P "__doc__" d .none])) n
noncomputable def Bo(n:String)(bs H:List Value)(ns:Nat)(sb:List Value)(b:Option Value)(t u:Nat)(nw:String):Obj:={cls:=.type "type",data:=.cls {name:=Str.ofString n,bases:=bs,mro:=H,ns:=ns,qualname:=Str.ofString n,subclasses:=sb},slots:= #[b,none,some (S n t),some (S n u),some (.builtin nw),some (.bool true)]}
noncomputable def m0:Value:=S "__main__" 164
noncomputable def m1:Value:=S "postkeep.errors" 194
noncomputable def m2:Value:=S "postkeep.octets" 268
noncomputable def m3:Value:=S "postkeep.headers" 420
noncomputable def m4:Value:=S "postkeep.tokens" 558
noncomputable def m5:Value:=S "postkeep.addresses" 679
noncomputable def m6:Value:=S "postkeep.charsets" 943
noncomputable def m7:Value:=S "postkeep.params" 1074
noncomputable def m8:Value:=S "postkeep.parts" 1309
noncomputable def m9:Value:=S "postkeep.structure" 1438
noncomputable def I9:Value:=S "law_nz0339_01" 1565
noncomputable def k9(P:Params):Obj:=JX ([E P "__name__" 165 I9,E P "__doc__" 166 .none,E P "__package__" 167 .none,E P "__loader__" 168 (.builtin "__main__.__loader__#opaque"),E P "__spec__" 169 .none]++(AN P [("__annotations__",170,6),("__builtins__",171,4)]++([E P "__file__" 173 (S "/claim/cut.py" 172),E P "__cached__" 174 .none]++(AN P [("_wall",193,21),("PostError",235,46),("WordFault",251,59),("MimeFault",267,71)]++([E P "RETURN" 271 (I 13 270),E P "MOST_FIGURES" 273 (I 20 272)]++(AN P [("Cursor",383,155),("lower_code",390,166),("lower",396,171),("lower_text",402,176),("line_spans",419,184),("WHITE_headers",424,185),("Field",468,214),("line_at",478,225),("is_name",486,232),("colon_in",496,239),("read_spans",514,247),("read_fields",523,253),("rows_of",534,260),("unfolded",541,267),("all_bodies",547,272),("first_body",557,279)]++([E P "MOST_DEPTH_tokens" 561 (I 20 560),E P "SIGNS" 563 (qB "<>@,;:.\\" 562),E P "ATOM_SIGNS" 565 (qB "!#$%&'*+-/=?^_`{|}~" 564)]++(AN P [("NEVER_ESCAPED",569,280),("is_atom_code",576,287),("line_end",584,294),("inside_at",594,301),("closed_at",607,308),("comment_at",620,315),("atom_at",629,322),("token_at",640,329),("past_white",649,336),("tokens_of",659,343),("without_comments",665,348),("phrase_of",678,355),("Mailbox",720,379),("Group",758,407),("sign_text",764,416),("sign_octets",770,421),("PlaceReader",864,494),("local_of",878,505),("domain_of",886,512),("pass_route",893,519),("read_mailbox",905,526),("read_place",916,533),("read_list",925,540),("read_addresses",934,547),("addresses_in",942,554)]++([E P "ASCII" 946 (S "us-ascii" 945),E P "LATIN" 948 (S "iso-8859-1" 947),E P "UTF8" 950 (S "utf-8" 949)]++(AN P [("CHARSETS",951,555)]++([E P "UNKNOWN_SIGN" 954 (S "�" 953)]++(AN P [("charset_names",962,562),("charset_name",969,569),("need_charset",976,576),("utf8_length",982,581),("utf8_octets",993,588),("follower_span",1000,595),("utf8_sign",1014,602),("sign_at",1023,609),("text_in",1035,616),("strict_text",1047,623),("guessed_text",1054,630),("has_sign",1062,637),("octets_in",1073,644),("WHITE_params",1080,645)]++([E P "SEMICOLON" 1082 (I 59 1081),E P "EQUALS" 1084 (I 61 1083),E P "QUOTE" 1086 (I 34 1085),E P "BRACKET" 1088 (I 40 1087),E P "PER_CENT" 1090 (I 37 1089),E P "BARRED" 1092 (qB "()<>@,;:\\\"/[]?=" 1091),E P "HEX_FIGURES" 1094 (qB "0123456789ABCDEF" 1093)]++(AN P [("Kind",1155,690),("plain_kind",1161,701),("is_token_code",1168,708),("skip_between",1175,715),("take_token",1183,722),("is_worth_code",1190,729),("take_worth",1199,736),("small_word",1205,741),("take_pairs",1214,748),("part_number",1223,755),("part_of",1233,762),("hex_worth",1239,767),("percent_decoded",1249,774),("charset_cut",1255,779),("joined_worth",1267,786),("params_of",1282,793),("read_value",1291,800),("strict_kind",1301,807),("read_kind",1308,814)]++([E P "MOST_DEPTH_parts" 1312 (I 20 1311),E P "PLAIN_ENCODING" 1314 (S "7bit" 1313)]++(AN P [("OPEN_ENCODINGS",1318,815)]++([E P "WORD_ENDS" 1320 (qB " 	(;" 1319),E P "BLANKS" 1322 (qB " 	" 1321)]++(AN P [("Part",1369,839),("encoding_of",1375,848),("boundary_way",1385,855),("part_spans",1402,862),("kid_spans",1408,867),("has_inner",1415,874),("read_part",1421,879),("read_message",1428,886),("line_count",1437,893),("OPAQUE",1442,894),("text_value",1449,901),("address_value",1456,908),("place_values",1462,913),("list_value",1471,920),("envelope_by",1477,925),("envelope",1485,932),("params_value",1494,939),("disposition_value",1504,946),("language_value",1510,951),("tail_values",1517,958),("is_opaque",1524,965),("kind_values",1531,972),("size_of",1538,979),("leaf_values",1548,986),("many_structure",1554,991),("body_structure",1564,998),("_law_rows",1590,1022),("_law_words",1595,1023),("_law_others",1606,1029),("_law_plain",1612,1030),("_law_draw",1622,1037),("_law_list",1633,1044),("law",1656,1051)])))))))))))))))))) 142
noncomputable def gn:Obj:=FL (K5 [(1,20),(5,27),(14,55),(16,67),(21,79),(68,165),(70,170),(72,175),(74,183),(89,191),(100,224),(107,231),(112,238),(115,246),(131,252),(134,259),(143,266),(145,271),(148,278),(159,286),(161,293),(165,300),(178,307),(187,314),(202,321),(207,328),(224,335),(231,342),(239,347),(241,354),(254,361),(263,389),(271,415),(273,420),(278,427),(317,504),(328,511),(338,518),(345,525),(358,532),(369,539),(378,546),(384,553),(395,561),(404,568),(406,575),(409,580),(413,587),(423,594),(431,601),(445,608),(451,615),(460,622),(471,629),(476,636),(480,643),(501,651),(519,700),(521,707),(523,714),(531,721),(538,728),(540,735),(550,740),(552,747),(568,754),(577,761),(586,766),(591,773),(599,778),(604,785),(615,792),(633,799),(638,806),(648,813),(661,821),(675,847),(684,854),(692,861),(708,866),(715,873),(717,878),(728,885),(730,892),(734,900),(736,907),(738,912),(743,919),(748,924),(758,931),(760,938),(766,945),(775,950),(783,957),(785,964),(787,971),(791,978),(793,985),(798,990),(805,997),(823,1036),(827,1043),(834,1050)])
noncomputable def JY(P:Params):List (List Obj):=[[PySem.W.boot_o_0 P,PySem.W.boot_o_1 P,{cls:=Value.none,data:=Data.dict #[E P "type.__subclasses__.Exception.0" 232 (I 46 0),E P "type.__subclasses__.Exception.n" 233 (I 1 0)] 2},k9 P,PySem.W.boot_o_4 P,PySem.W.boot_o_5 P,PySem.W.boot_o_6 P,PySem.W.boot_o_7 P,PySem.W.boot_o_8 P,PySem.W.boot_o_9 P,PySem.W.boot_o_10 P,T [],gn,AP 11 182 1 "<module>",AO 13 3 m0],cU 15 187 1 1 "_wall" 0 .none m0 ["k"],[T [.type "Exception"],Bj,Bm P m1 203 "PostError" 5 [("__init__",218,36),("told",225,43),("__static_attributes__",228,44)] 6,T [],FL (D6 [(7,35),(12,42)]),AP 25 198 5 "PostError",AO 27 24 m1,T [I (-1) 209]],qF 30 210 7 3 "__init__" "PostError.__init__" (met 2 0) (R 29) m1 ["self","what","at"],qF 37 219 12 1 "told" "PostError.told" (met 2 1) .none m1 ["self"],[T [S "at" 226,S "what" 227],Bn P m1 203 5 [("__init__",218,36),("told",225,43),("__static_attributes__",228,44),("__weakref__",230,47)] 231 3,Bo "PostError" [.type "Exception"] [R 46,.type "Exception",.type "BaseException",.type "object"] 45 [R 59,R 71] (some (R 22)) 196 204 "Exception.__new__",D7 229 46,Bl 46,Bk 46,T [R 46],Bj,Bm P m1 243 "WordFault" 14 [("__static_attributes__",248,57)] 4,T [],FL [],AP 53 238 14 "WordFault",AO 55 52 m1,T [],Bn P m1 243 14 [("__static_attributes__",248,57)] 249 2,Bo "WordFault" [R 46] [R 59,R 46,.type "Exception",.type "BaseException",.type "object"] 58 [] (some (R 50)) 236 244 "Exception.__new__",Bl 59,Bk 59,T [R 46],Bj,Bm P m1 259 "MimeFault" 16 [("__static_attributes__",264,69)] 4,T [],FL [],AP 65 254 16 "MimeFault",AO 67 64 m1,T [],Bn P m1 259 16 [("__static_attributes__",264,69)] 265 2,Bo "MimeFault" [R 46] [R 71,R 46,.type "Exception",.type "BaseException",.type "object"] 70 [] (some (R 62)) 252 260 "Exception.__new__",Bl 71,Bk 71,T [],Bj,Bm P m2 281 "Cursor" 21 [("__init__",298,88),("is_done",305,95),("peek",315,103),("take",323,110),("starts",331,117),("skip",339,124),("take_while",347,131),("take_until",355,138),("number",364,145),("find",372,152),("__static_attributes__",376,153)] 14,T [],FL (D6 [(23,87),(28,94),(31,102),(35,109),(41,116),(44,123),(50,130),(53,137),(56,144),(66,151)]),AP 77 276 21 "Cursor",AO 79 76 m2,T [I 0 286,I (-1) 288]],qF 82 289 23 4 "__init__" "Cursor.__init__" (met 8 0) (R 81) m2 ["self","data","at","end"],qF 89 299 28 1 "is_done" "Cursor.is_done" (met 8 1) .none m2 ["self"],[T [I 0 306]],qF 97 307 31 2 "peek" "Cursor.peek" (met 8 2) (R 96) m2 ["self","ahead","place"],qF 104 316 35 1 "take" "Cursor.take" (met 8 3) .none m2 ["self","code"],qF 111 324 41 2 "starts" "Cursor.starts" (met 8 4) .none m2 ["self","word"],qF 118 332 44 2 "skip" "Cursor.skip" (met 8 5) .none m2 ["self","word"],qF 125 340 50 2 "take_while" "Cursor.take_while" (met 8 6) .none m2 ["self","codes"],qF 132 348 53 2 "take_until" "Cursor.take_until" (met 8 7) .none m2 ["self","codes"],qF 139 356 56 1 "number" "Cursor.number" (met 8 8) .none m2 ["self","first","number"],qF 146 365 66 2 "find" "Cursor.find" (met 8 9) .none m2 ["self","word"],[T [S "at" 373,S "data" 374,S "end" 375],Bn P m2 281 21 [("__init__",298,88),("is_done",305,95),("peek",315,103),("take",323,110),("starts",331,117),("skip",339,124),("take_while",347,131),("take_until",355,138),("number",364,145),("find",372,152),("__static_attributes__",376,153),("__dict__",378,156),("__weakref__",380,157)] 381 4,Bo "Cursor" [.type "object"] [R 155,.type "object"] 154 [] none 274 282 "object.__new__",Gk 377 155,D7 379 155,Bl 155,Bk 155],cU 160 384 68 1 "lower_code" 9 .none m2 ["code"],qD 167 391 70 1 "lower" 10 .none m2]
noncomputable def JZ(P:Params):List (List Obj):=[qD 172 397 72 1 "lower_text" 11 .none m2,[T [I 0 403,I (-1) 405]],cU 178 406 74 3 "line_spans" 12 (R 177) m2 ["data","at","end","behind","found","begin","feed","last"],[T [I 32 422,I 9 423],T [],Bj,Bm P m3 432 "Field" 89 [("__init__",445,199),("word",451,204),("told",458,211),("__static_attributes__",461,212)] 7,T [],FL (D6 [(91,198),(95,203),(98,210)]),AP 189 427 89 "Field",AO 191 188 m3],qF 193 437 91 3 "__init__" "Field.__init__" (met 15 0) .none m3 ["self","name","raw"],qG 200 446 95 1 "word" "Field.word" (met 15 1) .none m3,qF 205 452 98 1 "told" "Field.told" (met 15 2) .none m3 ["self"],[T [S "name" 459,S "raw" 460],Bn P m3 432 89 [("__init__",445,199),("word",451,204),("told",458,211),("__static_attributes__",461,212),("__dict__",463,215),("__weakref__",465,216)] 466 4,Bo "Field" [.type "object"] [R 214,.type "object"] 213 [] none 425 433 "object.__new__",Gk 462 214,D7 464 214,Bl 214,Bk 214],cU 219 469 100 3 "line_at" 16 .none m3 ["data","at","end","spot"],cU 226 479 107 1 "is_name" 17 .none m3 ["octets","code"],cU 233 487 112 3 "colon_in" 18 .none m3 ["data","at","end","spot"],[T [I 0 497,I (-1) 499]],cU 241 500 115 3 "read_spans" 19 (R 240) m3 ["data","at","end","stop","rows","here","last","later","colon"],[T [I 0 515,I (-1) 517]],qD 249 518 131 3 "read_fields" 20 (R 248) m3,cU 254 524 134 1 "rows_of" 21 .none m3 ["raw","rows","at","last","later"],cU 261 535 143 1 "unfolded" 22 .none m3 ["raw"],qD 268 542 145 2 "all_bodies" 23 .none m3,cU 273 548 148 2 "first_body" 24 .none m3 ["fields","word","wanted","field"],[T [I 0 566,I 10 567,I 13 568]]]
noncomputable def J0(P:Params):List (List Obj):=[cU 281 570 159 1 "is_atom_code" 30 .none m4 ["code"],cU 288 577 161 2 "line_end" 31 .none m4 ["data","at"],cU 295 585 165 3 "inside_at" 32 .none m4 ["data","at","begun","behind"],cU 302 595 178 4 "closed_at" 33 .none m4 ["data","begun","closing","barred","parts","at","octets"],cU 309 608 187 2 "comment_at" 34 .none m4 ["data","begun","parts","depth","at","sign","octets"],cU 316 621 202 2 "atom_at" 35 .none m4 ["data","at","end"],cU 323 630 207 2 "token_at" 36 .none m4 ["data","at","sign","worth","behind"],cU 330 641 224 2 "past_white" 37 .none m4 ["data","at","behind"],cU 337 650 231 1 "tokens_of" 38 .none m4 ["octets","found","at","token"],qD 344 660 239 1 "without_comments" 39 .none m4,cU 349 666 241 1 "phrase_of" 40 .none m4 ["tokens","parts","glued","kind","worth","at","is_point"],[T [],Bj,Bm P m5 688 "Mailbox" 254 [("__init__",702,369),("told",709,376),("__static_attributes__",713,377)] 6,T [],FL (D6 [(256,368),(261,375)]),AP 359 683 254 "Mailbox",AO 361 358 m5],qF 363 693 256 4 "__init__" "Mailbox.__init__" (met 42 0) .none m5 ["self","name","local","domain"],qF 370 703 261 1 "told" "Mailbox.told" (met 42 1) .none m5 ["self"],[T [S "domain" 710,S "local" 711,S "name" 712],Bn P m5 688 254 [("__init__",702,369),("told",709,376),("__static_attributes__",713,377),("__dict__",715,380),("__weakref__",717,381)] 718 4,Bo "Mailbox" [.type "object"] [R 379,.type "object"] 378 [] none 681 689 "object.__new__",Gk 714 379,D7 716 379,Bl 379,Bk 379,T [],Bj,Bm P m5 728 "Group" 263 [("__init__",741,397),("told",748,404),("__static_attributes__",751,405)] 6,T [],FL (D6 [(265,396),(269,403)]),AP 387 723 263 "Group",AO 389 386 m5],qF 391 733 265 3 "__init__" "Group.__init__" (met 43 0) .none m5 ["self","name","some"],qF 398 742 269 1 "told" "Group.told" (met 43 1) .none m5 ["self"],[T [S "members" 749,S "name" 750],Bn P m5 728 263 [("__init__",741,397),("told",748,404),("__static_attributes__",751,405),("__dict__",753,408),("__weakref__",755,409)] 756 4,Bo "Group" [.type "object"] [R 407,.type "object"] 406 [] none 721 729 "object.__new__",Gk 752 407,D7 754 407,Bl 407,Bk 407],qD 412 759 271 1 "sign_text" 44 .none m5,qD 417 765 273 1 "sign_octets" 45 .none m5]
noncomputable def J1(P:Params):List (List Obj):=[[T [],Bj,Bm P m5 778 "PlaceReader" 278 [("__init__",791,435),("is_done",798,442),("kind",805,449),("stands",813,456),("take",821,463),("skip",829,470),("fault",837,477),("need",845,484),("words",853,491),("__static_attributes__",857,492)] 13,T [],FL (D6 [(280,434),(285,441),(288,448),(291,455),(294,462),(299,469),(305,476),(308,483),(312,490)]),AP 425 773 278 "PlaceReader",AO 427 424 m5],qF 429 783 280 3 "__init__" "PlaceReader.__init__" (met 46 0) .none m5 ["self","tokens","length"],qF 436 792 285 1 "is_done" "PlaceReader.is_done" (met 46 1) .none m5 ["self"],qF 443 799 288 1 "kind" "PlaceReader.kind" (met 46 2) .none m5 ["self"],qF 450 806 291 2 "stands" "PlaceReader.stands" (met 46 3) .none m5 ["self","sign"],qF 457 814 294 1 "take" "PlaceReader.take" (met 46 4) .none m5 ["self","token"],qF 464 822 299 2 "skip" "PlaceReader.skip" (met 46 5) .none m5 ["self","sign"],qF 471 830 305 2 "fault" "PlaceReader.fault" (met 46 6) .none m5 ["self","what"],qF 478 838 308 2 "need" "PlaceReader.need" (met 46 7) .none m5 ["self","sign"],qF 485 846 312 1 "words" "PlaceReader.words" (met 46 8) .none m5 ["self","found"],[T [S "at" 854,S "length" 855,S "tokens" 856],Bn P m5 778 278 [("__init__",791,435),("is_done",798,442),("kind",805,449),("stands",813,456),("take",821,463),("skip",829,470),("fault",837,477),("need",845,484),("words",853,491),("__static_attributes__",857,492),("__dict__",859,495),("__weakref__",861,496)] 862 4,Bo "PlaceReader" [.type "object"] [R 494,.type "object"] 493 [] none 771 779 "object.__new__",Gk 858 494,D7 860 494,Bl 494,Bk 494],cU 499 865 317 2 "local_of" 47 .none m5 ["reader","words","parts","spot","kind","worth","at","is_point"],cU 506 879 328 1 "domain_of" 48 .none m5 ["reader","parts"],cU 513 887 338 1 "pass_route" 49 .none m5 ["reader"],cU 520 894 345 2 "read_mailbox" 50 .none m5 ["reader","words","name","is_angle","local","domain"],cU 527 906 358 2 "read_place" 51 .none m5 ["reader","is_inner","words","name","found"],cU 534 917 369 2 "read_list" 52 .none m5 ["reader","is_inner","found"],cU 541 926 378 1 "read_addresses" 53 .none m5 ["octets","reader","found"],cU 548 935 384 2 "addresses_in" 54 .none m5 ["fields","word"],[T [S "us-ascii" 945,S "iso-8859-1" 947,S "utf-8" 949]]]
noncomputable def J2(P:Params):List (List Obj):=[cU 556 955 395 0 "charset_names" 61 .none m6 ["found","alias"],cU 563 963 404 1 "charset_name" 62 .none m6 ["text"],cU 570 970 406 1 "need_charset" 63 .none m6 ["charset"],qD 577 977 409 1 "utf8_length" 64 .none m6,cU 582 983 413 1 "utf8_octets" 65 .none m6 ["code","length","found","left","place"],cU 589 994 423 1 "follower_span" 66 .none m6 ["lead"],cU 596 1001 431 2 "utf8_sign" 67 .none m6 ["octets","at","lead","least","most","count","code","place"],cU 603 1015 445 3 "sign_at" 68 .none m6 ["charset","octets","at"],cU 610 1024 451 2 "text_in" 69 .none m6 ["charset","octets","signs","at","code","length"],cU 617 1036 460 2 "strict_text" 70 .none m6 ["charset","octets","signs","at","code","length"],cU 624 1048 471 1 "guessed_text" 71 .none m6 ["octets"],cU 631 1055 476 2 "has_sign" 72 .none m6 ["charset","code"],cU 638 1063 480 2 "octets_in" 73 .none m6 ["charset","text","row","at","code"],[T [I 9 1076,I 10 1077,I 13 1078,I 32 1079],T [],Bj,Bm P m7 1102 "Kind" 501 [("__init__",1116,659),("told",1123,666),("is_multi",1130,673),("is_letter",1137,680),("is_text",1144,687),("__static_attributes__",1148,688)] 9,T [],FL (D6 [(503,658),(508,665),(511,672),(514,679),(517,686)]),AP 649 1097 501 "Kind",AO 651 648 m7],qF 653 1107 503 4 "__init__" "Kind.__init__" (met 83 0) .none m7 ["self","top","sub","params"],qF 660 1117 508 1 "told" "Kind.told" (met 83 1) .none m7 ["self"],qF 667 1124 511 1 "is_multi" "Kind.is_multi" (met 83 2) .none m7 ["self"],qF 674 1131 514 1 "is_letter" "Kind.is_letter" (met 83 3) .none m7 ["self"],qF 681 1138 517 1 "is_text" "Kind.is_text" (met 83 4) .none m7 ["self"],[T [S "params" 1145,S "sub" 1146,S "top" 1147],Bn P m7 1102 501 [("__init__",1116,659),("told",1123,666),("is_multi",1130,673),("is_letter",1137,680),("is_text",1144,687),("__static_attributes__",1148,688),("__dict__",1150,691),("__weakref__",1152,692)] 1153 4,Bo "Kind" [.type "object"] [R 690,.type "object"] 689 [] none 1095 1103 "object.__new__",Gk 1149 690,D7 1151 690,Bl 690,Bk 690]]
noncomputable def J3(P:Params):List (List Obj):=[cU 695 1156 519 0 "plain_kind" 84 .none m7 [],cU 702 1162 521 1 "is_token_code" 85 .none m7 ["code"],cU 709 1169 523 1 "skip_between" 86 .none m7 ["cursor"],cU 716 1176 531 1 "take_token" 87 .none m7 ["cursor","first"],cU 723 1184 538 1 "is_worth_code" 88 .none m7 ["code"],cU 730 1191 540 1 "take_worth" 89 .none m7 ["cursor","worth","first"],qD 737 1200 550 1 "small_word" 90 .none m7,cU 742 1206 552 1 "take_pairs" 91 .none m7 ["cursor","pairs","name"],cU 749 1215 568 1 "part_number" 92 .none m7 ["figures","number","sign"],cU 756 1224 577 1 "part_of" 93 .none m7 ["name","spot","is_encoded","number"],qD 763 1234 586 1 "hex_worth" 94 .none m7,cU 768 1240 591 1 "percent_decoded" 95 .none m7 ["octets","found","at","worth"],qD 775 1250 599 1 "charset_cut" 96 .none m7,cU 780 1256 604 1 "joined_worth" 97 .none m7 ["parts","charset","octets","number","is_encoded","worth"],cU 787 1268 615 1 "params_of" 98 .none m7 ["pairs","plain","parted","name","worth","part","base","number","is_encoded"],cU 794 1283 633 1 "read_value" 99 .none m7 ["octets","cursor","word"],cU 801 1292 638 1 "strict_kind" 100 .none m7 ["octets","cursor","top","sub"],cU 808 1302 648 1 "read_kind" 101 .none m7 ["octets"],[T [S "7bit" 1315,S "8bit" 1316,S "binary" 1317],T [],Bj,Bm P m8 1330 "Part" 661 [("__init__",1346,829),("told",1353,836),("__static_attributes__",1362,837)] 6,T [],FL (D6 [(663,828),(673,835)]),AP 819 1325 661 "Part",AO 821 818 m8],qF 823 1335 663 6 "__init__" "Part.__init__" (met 108 0) .none m8 ["self","begin","body","end","fields","kind"]]
noncomputable def J4(P:Params):List (List Obj):=[qF 830 1347 673 1 "told" "Part.told" (met 108 1) .none m8 ["self"],[T [S "begin" 1354,S "body" 1355,S "encoding" 1356,S "end" 1357,S "fields" 1358,S "inner" 1359,S "kids" 1360,S "kind" 1361],Bn P m8 1330 661 [("__init__",1346,829),("told",1353,836),("__static_attributes__",1362,837),("__dict__",1364,840),("__weakref__",1366,841)] 1367 4,Bo "Part" [.type "object"] [R 839,.type "object"] 838 [] none 1323 1331 "object.__new__",Gk 1363 839,D7 1365 839,Bl 839,Bk 839],qD 844 1370 675 1 "encoding_of" 109 .none m8,cU 849 1376 684 2 "boundary_way" 110 .none m8 ["line","boundary","mark","rest"],cU 856 1386 692 4 "part_spans" 111 .none m8 ["data","at","end","boundary","found","begun","before","first","last","behind","way"],qD 863 1403 708 2 "kid_spans" 112 .none m8,cU 868 1409 715 1 "has_inner" 113 .none m8 ["part"],qD 875 1416 717 5 "read_part" 114 .none m8,cU 880 1422 728 1 "read_message" 115 .none m8 ["data"],cU 887 1429 730 3 "line_count" 116 .none m8 ["data","begin","end"],[T [qB "application" 1440,qB "octet-stream" 1441]],cU 895 1443 734 1 "text_value" 119 .none m9 ["text"],cU 902 1450 736 1 "address_value" 120 .none m9 ["mailbox"],qD 909 1457 738 1 "place_values" 121 .none m9,cU 914 1463 743 1 "list_value" 122 .none m9 ["places","found","place"],qD 921 1472 748 2 "envelope_by" 123 .none m9,cU 926 1478 758 2 "envelope" 124 .none m9 ["data","part"],cU 933 1486 760 1 "params_value" 125 .none m9 ["params","found","name"],cU 940 1495 766 1 "disposition_value" 126 .none m9 ["fields","body","word","params"],qD 947 1505 775 1 "language_value" 127 .none m9]
noncomputable def J5(P:Params):List (List Obj):=[cU 952 1511 783 1 "tail_values" 128 .none m9 ["fields"],cU 959 1518 785 1 "is_opaque" 129 .none m9 ["part"],cU 966 1525 787 1 "kind_values" 130 .none m9 ["part"],cU 973 1532 791 1 "size_of" 131 .none m9 ["part"],cU 980 1539 793 1 "leaf_values" 132 .none m9 ["part","fields","told_id","told_words"],qD 987 1549 798 3 "many_structure" 133 .none m9,cU 992 1555 805 3 "body_structure" 134 .none m9 ["data","part","is_long","found"],[sU [.none,.none,qB "j" 1568,qB "x.org" 1569],sU [R 999],T [qB "j@x.org" 1567,R 1000],sU [qB "Jo B" 1571,.none,qB "k" 1572,qB "y" 1573],sU [R 1002],T [qB "Jo B <k@y> ," 1570,R 1003],sU [qB "A, \"B" 1575,.none,qB "l" 1576,qB "[1.2]" 1577],sU [.none,.none,qB "m" 1578,qB "z" 1579],sU [R 1005,R 1006],T [qB "\"A, \\\"B\" (c (d)) <@r,@s:l@\x5b1.2]>,\r\n m @ z" 1574,R 1007],sU [.none,.none,qB "us" 1581,.none],sU [.none,.none,qB "n" 1582,qB "o" 1583],sU [.none,.none,qB "p" 1584,qB "q" 1585],sU [.none,.none,.none,.none],sU [R 1009,R 1010,R 1011,R 1012],T [qB "us: n@o, p@q;" 1580,R 1013],sU [.none,.none,qB "none" 1587,.none],sU [.none,.none,.none,.none],sU [R 1015,R 1016],T [qB "none:;" 1586,R 1017],T [qB "no one" 1588,.none],sU [],T [qB "" 1589,R 1020],T [R 1001,R 1004,R 1008,R 1014,R 1018,R 1019,R 1021],T [qB "From" 1591,qB "sender" 1592,qB "Reply-To" 1593,qB "To" 1594],T [qB "Subject: s" 1596,I 0 1597],T [qB "Content-ID:  <i@x> " 1598,I 1 1599],T [qB "content-description: d\r\n e" 1600,I 2 1601],T [qB "Content-Language: en" 1602,I 3 1603],T [qB "Content-Location: l" 1604,I 4 1605],T [R 1024,R 1025,R 1026,R 1027,R 1028],T [qB "s" 1607,qB "<i@x>" 1608,qB "d e" 1609,qB "en" 1610,qB "l" 1611]],cU 1031 1613 823 2 "_law_draw" 140 .none I9 ["tape","many","cells","at"],cU 1038 1623 827 2 "_law_list" 141 .none I9 ["rows","word","found","other","values"],cU 1045 1634 834 1 "law" 142 .none I9 ["script","tape","head","rows","told_others","turn","spot","octets","values","place","data","first","due","leaf","tail","outer","found"]]
noncomputable def objs(P:Params):List Obj:=(JY P++(JZ P++(J0 P++(J1 P++(J2 P++(J3 P++(J4 P++(J5 P)))))))).flatten
noncomputable def cu:Env:={scope:=pw_nz0339_01.main.scope,locals:=mainNs,globals:=mainNs,cells:=[],code:=.ref 13,frame:=some 14}
noncomputable def eH:List Stmt:=behindTheImports pw_nz0339_01
noncomputable def aN:Code:=.body eH cu
noncomputable def hz:Pos:=⟨0,0,0,0⟩
noncomputable def xx(n toks:Nat)(B:List (Nat×Obj))(P:Params)(os:OsState):SharedT:=⟨AM 12 (Ik B 0 ((objs P).take n)),n,{},#[],{},toks,os⟩
noncomputable def J6:List DictEntry->Nat->List (Nat×DictEntry)->List DictEntry
 |[],_,_=>[]
 |l,_,[]=>l
 |x::l,i,(a,e)::B=>match Nat.beq a i with
  |true=>e::J6 l (i+1) B
  |false=>x::J6 l (i+1) ((a,e)::B)
noncomputable def xN:Obj->List (Nat×DictEntry)->Obj
 |⟨c,d,.dict es n,s⟩,B=>⟨c,d,.dict (J6 es.toList 0 B).toArray n,s⟩
 |o,_=>o
noncomputable def GQ(P:Params)(os:OsState):SharedT:=xx 15 187 ([(2,k8 ({cls:=Value.none,data:=Data.dict #[E P "type.__subclasses__.Exception.0" 232 (I 46 0),E P "type.__subclasses__.Exception.n" 233 (I 1 0)] 2}) 0 0),(3,xN (k8 (k9 P) 9 9) [(0,E P "__name__" 165 (S "__main__" 164))]),(12,lM gn 0)]) P os
noncomputable def Il(P:Params)(os:OsState):SharedT:=xx 62 252 ([(3,xN (k8 (k9 P) 12 12) [(0,E P "__name__" 165 (S "postkeep.errors" 194))]),(12,lM gn 9),(46,{cls:=Value.type "type",data:=Data.cls {name:=Str.ofString "PostError",bases:=[Value.type "Exception"],mro:=[R 46,Value.type "Exception",Value.type "BaseException",Value.type "object"],ns:=45,qualname:=Str.ofString "PostError",subclasses:=[R 59]},slots:= #[some (R 22),none,some (S "PostError" 196),some (S "PostError" 204),some (Value.builtin "Exception.__new__"),some (Value.bool true)]})]) P os
noncomputable def Im(P:Params)(os:OsState):SharedT:=xx 160 384 ([(3,xN (k8 (k9 P) 16 16) [(0,E P "__name__" 165 (S "postkeep.octets" 268))]),(12,lM gn 15)]) P os
noncomputable def Ip(P:Params)(os:OsState):SharedT:=xx 226 479 ([(3,xN (k8 (k9 P) 23 23) [(0,E P "__name__" 165 (S "postkeep.headers" 420))]),(12,lM gn 33)]) P os
noncomputable def Iq(P:Params)(os:OsState):SharedT:=xx 316 621 ([(3,xN (k8 (k9 P) 40 40) [(0,E P "__name__" 165 (S "postkeep.tokens" 558))]),(12,lM gn 72)]) P os
noncomputable def Ir(P:Params)(os:OsState):SharedT:=xx 384 721 ([(3,xN (k8 (k9 P) 47 47) [(0,E P "__name__" 165 (S "postkeep.addresses" 679))]),(12,lM gn 93)]) P os
noncomputable def Iu(P:Params)(os:OsState):SharedT:=xx 499 865 ([(3,xN (k8 (k9 P) 51 51) [(0,E P "__name__" 165 (S "postkeep.addresses" 679))]),(12,lM gn 105)]) P os
noncomputable def Iv(P:Params)(os:OsState):SharedT:=xx 589 994 ([(3,xN (k8 (k9 P) 69 69) [(0,E P "__name__" 165 (S "postkeep.charsets" 943))]),(12,lM gn 144)]) P os
noncomputable def Iw(P:Params)(os:OsState):SharedT:=xx 695 1156 ([(3,xN (k8 (k9 P) 86 86) [(0,E P "__name__" 165 (S "postkeep.params" 1074))]),(12,lM gn 171)]) P os
noncomputable def Iy(P:Params)(os:OsState):SharedT:=xx 794 1283 ([(3,xN (k8 (k9 P) 101 101) [(0,E P "__name__" 165 (S "postkeep.params" 1074))]),(12,lM gn 216)]) P os
noncomputable def AQ(P:Params)(os:OsState):SharedT:=xx 856 1386 ([(3,xN (k8 (k9 P) 112 112) [(0,E P "__name__" 165 (S "postkeep.parts" 1309))]),(12,lM gn 234)]) P os
noncomputable def AR(P:Params)(os:OsState):SharedT:=xx 952 1511 ([(3,xN (k8 (k9 P) 128 128) [(0,E P "__name__" 165 (S "postkeep.structure" 1438))]),(12,lM gn 279)]) P os
noncomputable def C3(P:Params)(os:OsState):SharedT:=xx 1052 1657 ([]) P os
noncomputable def I_:List Stmt:=(eH.drop 0).take 4
theorem K6(w:World):(λos:OsState=>PySem.W.Fast.tw10110043849684766642 PySem.W.Fast.tw14364793385576792824 pw_nz0339_01 w 11 (some (.ref 6)) 1 520 (GQ w.params os) ⟨(PySem.W.Fast.tw12563942051412417395 I_ cu).wrap doneF deadEnd id id,aN,hz,[topFrame hz]⟩)= λos=>some (.next,Il w.params os,aN,⟨14,0,15,8⟩):=by kernel_rfl
noncomputable def Ja:List Stmt:=(eH.drop 4).take 5
theorem K7(w:World):(λos:OsState=>PySem.W.Fast.tw10110043849684766642 PySem.W.Fast.tw14364793385576792824 pw_nz0339_01 w 11 (some (.ref 6)) 1 766 (Il w.params os) ⟨(PySem.W.Fast.tw12563942051412417395 Ja cu).wrap doneF deadEnd id id,aN,⟨14,0,15,8⟩,[topFrame hz]⟩)= λos=>some (.next,Im w.params os,aN,⟨21,0,67,54⟩):=by kernel_rfl
noncomputable def Jb:List Stmt:=(eH.drop 9).take 8
theorem K8(w:World):(λos:OsState=>PySem.W.Fast.tw10110043849684766642 PySem.W.Fast.tw14364793385576792824 pw_nz0339_01 w 11 (some (.ref 6)) 1 462 (Im w.params os) ⟨(PySem.W.Fast.tw12563942051412417395 Jb cu).wrap doneF deadEnd id id,aN,⟨21,0,67,54⟩,[topFrame hz]⟩)= λos=>some (.next,Ip w.params os,aN,⟨100,0,106,27⟩):=by kernel_rfl
noncomputable def Jd:List Stmt:=(eH.drop 17).take 18
theorem K9(w:World):(λos:OsState=>PySem.W.Fast.tw10110043849684766642 PySem.W.Fast.tw14364793385576792824 pw_nz0339_01 w 11 (some (.ref 6)) 1 472 (Ip w.params os) ⟨(PySem.W.Fast.tw12563942051412417395 Jd cu).wrap doneF deadEnd id id,aN,⟨100,0,106,27⟩,[topFrame hz]⟩)= λos=>some (.next,Iq w.params os,aN,⟨187,0,201,37⟩):=by kernel_rfl
noncomputable def Je:List Stmt:=(eH.drop 35).take 8
theorem K_(w:World):(λos:OsState=>PySem.W.Fast.tw10110043849684766642 PySem.W.Fast.tw14364793385576792824 pw_nz0339_01 w 11 (some (.ref 6)) 1 455 (Iq w.params os) ⟨(PySem.W.Fast.tw12563942051412417395 Je cu).wrap doneF deadEnd id id,aN,⟨187,0,201,37⟩,[topFrame hz]⟩)= λos=>some (.next,Ir w.params os,aN,⟨254,0,262,16⟩):=by kernel_rfl
noncomputable def Jf:List Stmt:=(eH.drop 43).take 4
theorem K'(w:World):(λos:OsState=>PySem.W.Fast.tw10110043849684766642 PySem.W.Fast.tw14364793385576792824 pw_nz0339_01 w 11 (some (.ref 6)) 1 787 (Ir w.params os) ⟨(PySem.W.Fast.tw12563942051412417395 Jf cu).wrap doneF deadEnd id id,aN,⟨254,0,262,16⟩,[topFrame hz]⟩)= λos=>some (.next,Iu w.params os,aN,⟨278,0,316,20⟩):=by kernel_rfl
noncomputable def Jg:List Stmt:=(eH.drop 47).take 19
theorem La(w:World):(λos:OsState=>PySem.W.Fast.tw10110043849684766642 PySem.W.Fast.tw14364793385576792824 pw_nz0339_01 w 11 (some (.ref 6)) 1 472 (Iu w.params os) ⟨(PySem.W.Fast.tw12563942051412417395 Jg cu).wrap doneF deadEnd id id,aN,⟨278,0,316,20⟩,[topFrame hz]⟩)= λos=>some (.next,Iv w.params os,aN,⟨413,0,422,49⟩):=by kernel_rfl
noncomputable def Jh:List Stmt:=(eH.drop 66).take 18
theorem Lb(w:World):(λos:OsState=>PySem.W.Fast.tw10110043849684766642 PySem.W.Fast.tw14364793385576792824 pw_nz0339_01 w 11 (some (.ref 6)) 1 693 (Iv w.params os) ⟨(PySem.W.Fast.tw12563942051412417395 Jh cu).wrap doneF deadEnd id id,aN,⟨413,0,422,49⟩,[topFrame hz]⟩)= λos=>some (.next,Iw w.params os,aN,⟨501,0,518,33⟩):=by kernel_rfl
noncomputable def Ji:List Stmt:=(eH.drop 84).take 15
theorem Lc(w:World):(λos:OsState=>PySem.W.Fast.tw10110043849684766642 PySem.W.Fast.tw14364793385576792824 pw_nz0339_01 w 11 (some (.ref 6)) 1 452 (Iw w.params os) ⟨(PySem.W.Fast.tw12563942051412417395 Ji cu).wrap doneF deadEnd id id,aN,⟨501,0,518,33⟩,[topFrame hz]⟩)= λos=>some (.next,Iy w.params os,aN,⟨615,0,632,16⟩):=by kernel_rfl
noncomputable def Jj:List Stmt:=(eH.drop 99).take 12
theorem Ld(w:World):(λos:OsState=>PySem.W.Fast.tw10110043849684766642 PySem.W.Fast.tw14364793385576792824 pw_nz0339_01 w 11 (some (.ref 6)) 1 473 (Iy w.params os) ⟨(PySem.W.Fast.tw12563942051412417395 Jj cu).wrap doneF deadEnd id id,aN,⟨615,0,632,16⟩,[topFrame hz]⟩)= λos=>some (.next,AQ w.params os,aN,⟨684,0,691,42⟩):=by kernel_rfl
noncomputable def C4:List Stmt:=(eH.drop 111).take 17
theorem J7(w:World):(λos:OsState=>PySem.W.Fast.tw10110043849684766642 PySem.W.Fast.tw14364793385576792824 pw_nz0339_01 w 11 (some (.ref 6)) 1 462 (AQ w.params os) ⟨(PySem.W.Fast.tw12563942051412417395 C4 cu).wrap doneF deadEnd id id,aN,⟨684,0,691,42⟩,[topFrame hz]⟩)= λos=>some (.next,AR w.params os,aN,⟨775,0,782,16⟩):=by kernel_rfl
noncomputable def C5:List Stmt:=(eH.drop 128).take 15
theorem J8(w:World):(λos:OsState=>PySem.W.Fast.tw10110043849684766642 PySem.W.Fast.tw14364793385576792824 pw_nz0339_01 w 11 (some (.ref 6)) 1 464 (AR w.params os) ⟨(PySem.W.Fast.tw12563942051412417395 C5 cu).wrap doneF deadEnd id id,aN,⟨775,0,782,16⟩,[topFrame hz]⟩)= λos=>some (.next,C3 w.params os,aN,⟨834,0,858,116⟩):=by kernel_rfl
theorem Le(w:World)(os:OsState):segRun treeTable pw_nz0339_01 w 11 (some (.ref 6)) 1 520 (GQ w.params os).abs (piecesOf I_ cu aN hz [topFrame hz])=some (.next,(Il w.params os).abs,aN,⟨14,0,15,8⟩):=segRun_of (by
 show segRunT treeTable pw_nz0339_01 w 11 (some (.ref 6)) 1 520 (GQ w.params os) ⟨(execs I_ cu).wrap doneF deadEnd id id,aN,hz,[topFrame hz]⟩=_;rw[PySem.W.Fast.te10110043849684766642,PySem.W.Fast.te14364793385576792824,PySem.W.Fast.te12563942051412417395];exact congrFun (K6 w) os)
theorem Lf(w:World)(os:OsState):segRun treeTable pw_nz0339_01 w 11 (some (.ref 6)) 1 766 (Il w.params os).abs (piecesOf Ja cu aN ⟨14,0,15,8⟩ [topFrame hz])=some (.next,(Im w.params os).abs,aN,⟨21,0,67,54⟩):=segRun_of (by
 show segRunT treeTable pw_nz0339_01 w 11 (some (.ref 6)) 1 766 (Il w.params os) ⟨(execs Ja cu).wrap doneF deadEnd id id,aN,⟨14,0,15,8⟩,[topFrame hz]⟩=_;rw[PySem.W.Fast.te10110043849684766642,PySem.W.Fast.te14364793385576792824,PySem.W.Fast.te12563942051412417395];exact congrFun (K7 w) os)
theorem Lg(w:World)(os:OsState):segRun treeTable pw_nz0339_01 w 11 (some (.ref 6)) 1 462 (Im w.params os).abs (piecesOf Jb cu aN ⟨21,0,67,54⟩ [topFrame hz])=some (.next,(Ip w.params os).abs,aN,⟨100,0,106,27⟩):=segRun_of (by
 show segRunT treeTable pw_nz0339_01 w 11 (some (.ref 6)) 1 462 (Im w.params os) ⟨(execs Jb cu).wrap doneF deadEnd id id,aN,⟨21,0,67,54⟩,[topFrame hz]⟩=_;rw[PySem.W.Fast.te10110043849684766642,PySem.W.Fast.te14364793385576792824,PySem.W.Fast.te12563942051412417395];exact congrFun (K8 w) os)
theorem Lh(w:World)(os:OsState):segRun treeTable pw_nz0339_01 w 11 (some (.ref 6)) 1 472 (Ip w.params os).abs (piecesOf Jd cu aN ⟨100,0,106,27⟩ [topFrame hz])=some (.next,(Iq w.params os).abs,aN,⟨187,0,201,37⟩):=segRun_of (by
 show segRunT treeTable pw_nz0339_01 w 11 (some (.ref 6)) 1 472 (Ip w.params os) ⟨(execs Jd cu).wrap doneF deadEnd id id,aN,⟨100,0,106,27⟩,[topFrame hz]⟩=_;rw[PySem.W.Fast.te10110043849684766642,PySem.W.Fast.te14364793385576792824,PySem.W.Fast.te12563942051412417395];exact congrFun (K9 w) os)
theorem Li(w:World)(os:OsState):segRun treeTable pw_nz0339_01 w 11 (some (.ref 6)) 1 455 (Iq w.params os).abs (piecesOf Je cu aN ⟨187,0,201,37⟩ [topFrame hz])=some (.next,(Ir w.params os).abs,aN,⟨254,0,262,16⟩):=segRun_of (by
 show segRunT treeTable pw_nz0339_01 w 11 (some (.ref 6)) 1 455 (Iq w.params os) ⟨(execs Je cu).wrap doneF deadEnd id id,aN,⟨187,0,201,37⟩,[topFrame hz]⟩=_;rw[PySem.W.Fast.te10110043849684766642,PySem.W.Fast.te14364793385576792824,PySem.W.Fast.te12563942051412417395];exact congrFun (K_ w) os)
theorem Lj(w:World)(os:OsState):segRun treeTable pw_nz0339_01 w 11 (some (.ref 6)) 1 787 (Ir w.params os).abs (piecesOf Jf cu aN ⟨254,0,262,16⟩ [topFrame hz])=some (.next,(Iu w.params os).abs,aN,⟨278,0,316,20⟩):=segRun_of (by
 show segRunT treeTable pw_nz0339_01 w 11 (some (.ref 6)) 1 787 (Ir w.params os) ⟨(execs Jf cu).wrap doneF deadEnd id id,aN,⟨254,0,262,16⟩,[topFrame hz]⟩=_;rw[PySem.W.Fast.te10110043849684766642,PySem.W.Fast.te14364793385576792824,PySem.W.Fast.te12563942051412417395];exact congrFun (K' w) os)
theorem Lk(w:World)(os:OsState):segRun treeTable pw_nz0339_01 w 11 (some (.ref 6)) 1 472 (Iu w.params os).abs (piecesOf Jg cu aN ⟨278,0,316,20⟩ [topFrame hz])=some (.next,(Iv w.params os).abs,aN,⟨413,0,422,49⟩):=segRun_of (by
 show segRunT treeTable pw_nz0339_01 w 11 (some (.ref 6)) 1 472 (Iu w.params os) ⟨(execs Jg cu).wrap doneF deadEnd id id,aN,⟨278,0,316,20⟩,[topFrame hz]⟩=_;rw[PySem.W.Fast.te10110043849684766642,PySem.W.Fast.te14364793385576792824,PySem.W.Fast.te12563942051412417395];exact congrFun (La w) os)
theorem Ll(w:World)(os:OsState):segRun treeTable pw_nz0339_01 w 11 (some (.ref 6)) 1 693 (Iv w.params os).abs (piecesOf Jh cu aN ⟨413,0,422,49⟩ [topFrame hz])=some (.next,(Iw w.params os).abs,aN,⟨501,0,518,33⟩):=segRun_of (by
 show segRunT treeTable pw_nz0339_01 w 11 (some (.ref 6)) 1 693 (Iv w.params os) ⟨(execs Jh cu).wrap doneF deadEnd id id,aN,⟨413,0,422,49⟩,[topFrame hz]⟩=_;rw[PySem.W.Fast.te10110043849684766642,PySem.W.Fast.te14364793385576792824,PySem.W.Fast.te12563942051412417395];exact congrFun (Lb w) os)
theorem Lm(w:World)(os:OsState):segRun treeTable pw_nz0339_01 w 11 (some (.ref 6)) 1 452 (Iw w.params os).abs (piecesOf Ji cu aN ⟨501,0,518,33⟩ [topFrame hz])=some (.next,(Iy w.params os).abs,aN,⟨615,0,632,16⟩):=segRun_of (by
 show segRunT treeTable pw_nz0339_01 w 11 (some (.ref 6)) 1 452 (Iw w.params os) ⟨(execs Ji cu).wrap doneF deadEnd id id,aN,⟨501,0,518,33⟩,[topFrame hz]⟩=_;rw[PySem.W.Fast.te10110043849684766642,PySem.W.Fast.te14364793385576792824,PySem.W.Fast.te12563942051412417395];exact congrFun (Lc w) os)
theorem Ln(w:World)(os:OsState):segRun treeTable pw_nz0339_01 w 11 (some (.ref 6)) 1 473 (Iy w.params os).abs (piecesOf Jj cu aN ⟨615,0,632,16⟩ [topFrame hz])=some (.next,(AQ w.params os).abs,aN,⟨684,0,691,42⟩):=segRun_of (by
 show segRunT treeTable pw_nz0339_01 w 11 (some (.ref 6)) 1 473 (Iy w.params os) ⟨(execs Jj cu).wrap doneF deadEnd id id,aN,⟨615,0,632,16⟩,[topFrame hz]⟩=_;rw[PySem.W.Fast.te10110043849684766642,PySem.W.Fast.te14364793385576792824,PySem.W.Fast.te12563942051412417395];exact congrFun (Ld w) os)
theorem J9(w:World)(os:OsState):segRun treeTable pw_nz0339_01 w 11 (some (.ref 6)) 1 462 (AQ w.params os).abs (piecesOf C4 cu aN ⟨684,0,691,42⟩ [topFrame hz])=some (.next,(AR w.params os).abs,aN,⟨775,0,782,16⟩):=segRun_of (by
 show segRunT treeTable pw_nz0339_01 w 11 (some (.ref 6)) 1 462 (AQ w.params os) ⟨(execs C4 cu).wrap doneF deadEnd id id,aN,⟨684,0,691,42⟩,[topFrame hz]⟩=_;rw[PySem.W.Fast.te10110043849684766642,PySem.W.Fast.te14364793385576792824,PySem.W.Fast.te12563942051412417395];exact congrFun (J7 w) os)
theorem J_(w:World)(os:OsState):segRun treeTable pw_nz0339_01 w 11 (some (.ref 6)) 1 464 (AR w.params os).abs (piecesOf C5 cu aN ⟨775,0,782,16⟩ [topFrame hz])=some (.next,(C3 w.params os).abs,aN,⟨834,0,858,116⟩):=segRun_of (by
 show segRunT treeTable pw_nz0339_01 w 11 (some (.ref 6)) 1 464 (AR w.params os) ⟨(execs C5 cu).wrap doneF deadEnd id id,aN,⟨775,0,782,16⟩,[topFrame hz]⟩=_;rw[PySem.W.Fast.te10110043849684766642,PySem.W.Fast.te14364793385576792824,PySem.W.Fast.te12563942051412417395];exact congrFun (J8 w) os)
noncomputable def cx(P:Params):Heap:=⟨(objs P).toArray,{}⟩
theorem AS(P:Params):absHeap (AM 12 ((objs P).take 1052)) 1052 {}=cx P:=by kernel_rfl
theorem Iz(P:Params)(os:OsState):(C3 P os).abs=⟨cx P,#[],{},1657,os⟩:=by
 have:(C3 P os).abs=⟨absHeap (AM 12 (Ik [] 0 ((objs P).take 1052))) 1052 {},#[],{},1657,os⟩:=rfl;rw[this,show Ik [] 0 ((objs P).take 1052)=(objs P).take 1052 from by kernel_rfl,AS]
theorem IA(w:World)(os:OsState):topRun treeTable pw_nz0339_01 w 11 (some (.ref 6)) 2 (⟨cx w.params,#[],{},1657,os⟩:Shared) ⟨doneF .next,aN,⟨834,0,858,116⟩,[topFrame hz]⟩=some ⟨cx w.params,#[],{},1657,os⟩:=by kernel_rfl
theorem IB(w:World)(os:OsState):topGo treeTable pw_nz0339_01 w 11 (some (.ref 6)) 12 (⟨boot_heap w.params,#[],boot_drawn,boot_toks,os⟩:Shared) (topStub pw_nz0339_01)=some ((GQ w.params os).abs,⟨denote treeTable (.body eH cu),aN,hz,[topFrame hz]⟩):=by
 rw[PySem.W.Fast.te15667345088766844465,PySem.W.Fast.te14364793385576792824,PySem.W.Fast.te11892475500146522536];kernel_rfl
theorem C6(w:World)(os:OsState):segRun treeTable pw_nz0339_01 w 11 (some (.ref 6)) 1 1 (GQ w.params os).abs (blockOf eH cu aN hz [topFrame hz])=some (.next,(GQ w.params os).abs,aN,hz):=by kernel_rfl
theorem AU:eH=I_++(Ja++(Jb++(Jd++(Je++(Jf++(Jg++(Jh++(Ji++(Jj++(C4++(C5++[]))))))))))):=by kernel_rfl
theorem C7(w:World)(os:OsState):topRun treeTable pw_nz0339_01 w 11 (some (.ref 6)) (12+(1+(520+(766+(462+(472+(455+(787+(472+(693+(452+(473+(462+(464+2)))))))))))))) (⟨boot_heap w.params,#[],boot_drawn,boot_toks,os⟩:Shared) (topStub pw_nz0339_01)=some ⟨cx w.params,#[],{},1657,os⟩:=by
 refine go_top (IB w os) (piece_block (C6 w os) ?_);rw[AU];exact(piece_app (Le w os) (piece_app (Lf w os) (piece_app (Lg w os) (piece_app (Lh w os) (piece_app (Li w os) (piece_app (Lj w os) (piece_app (Lk w os) (piece_app (Ll w os) (piece_app (Lm w os) (piece_app (Ln w os) (piece_app (J9 w os) (piece_app (J_ w os) (piece_nil (by rw[Iz];exact IA w os))))))))))))))
noncomputable def hq:Program:={pw_nz0339_01 with main:={pw_nz0339_01.main with body:=[top 142]}}
noncomputable def C8:List String:=["_wall","PostError","WordFault","MimeFault","RETURN","MOST_FIGURES","Cursor","lower_code","lower","lower_text","line_spans","WHITE_headers","Field","line_at","is_name","colon_in","read_spans","read_fields","rows_of","unfolded","all_bodies","first_body","MOST_DEPTH_tokens","SIGNS","ATOM_SIGNS","NEVER_ESCAPED","is_atom_code","line_end","inside_at","closed_at","comment_at","atom_at","token_at","past_white","tokens_of","without_comments","phrase_of","Mailbox","Group","sign_text","sign_octets","PlaceReader","local_of","domain_of","pass_route","read_mailbox","read_place","read_list","read_addresses","addresses_in","ASCII","LATIN","UTF8","CHARSETS","UNKNOWN_SIGN","charset_names","charset_name","need_charset","utf8_length","utf8_octets","follower_span","utf8_sign","sign_at","text_in","strict_text","guessed_text","has_sign","octets_in","WHITE_params","SEMICOLON","EQUALS","QUOTE","BRACKET","PER_CENT","BARRED","HEX_FIGURES","Kind","plain_kind","is_token_code","skip_between","take_token","is_worth_code","take_worth","small_word","take_pairs","part_number","part_of","hex_worth","percent_decoded","charset_cut","joined_worth","params_of","read_value","strict_kind","read_kind","MOST_DEPTH_parts","PLAIN_ENCODING","OPEN_ENCODINGS","WORD_ENDS","BLANKS","Part","encoding_of","boundary_way","part_spans","kid_spans","has_inner","read_part","read_message","line_count","OPAQUE","text_value","address_value","place_values","list_value","envelope_by","envelope","params_value","disposition_value","language_value","tail_values","is_opaque","kind_values","size_of","leaf_values","many_structure","body_structure","_law_rows","_law_words","_law_others","_law_plain","_law_draw","_law_list"]
noncomputable def nQ:List Str:=C8.map Str.ofString
noncomputable def dZ(w:World)(os:OsState):Shared:=⟨cx w.params,#[],{},1657,os⟩
theorem Gl:opening pw_nz0339_01=plainProg pw_nz0339_01.main.scope.names:=by kernel_rfl
theorem C9(s:Shared):fenceModules? pw_nz0339_01 s=some s:=by kernel_rfl
theorem Gm(w:World):((boot_heap w.params).isNs mainGlobals&&(#[]:Array GenState).size==0,(boot_heap w.params).objs.size,(boot_heap w.params).nsMap mainGlobals "__annotations__")=(true,11,some (.ref 6)):=by kernel_rfl
theorem xy(w:World):(λos=>(staticsOk (importedModules pw_nz0339_01.main.body) (boot_heap w.params) (cx w.params)&&namesBound pw_nz0339_01 (cx w.params)&&gensDone (dZ w os)&&laidKept (boot_heap w.params) (cx w.params)))= λB=>true:=by kernel_rfl
theorem Gn(w:World):(λos=>openSeen hq nQ (importedModules pw_nz0339_01.main.body) (λB=>true) true (dZ w os))= λB=>openGood hq nQ:=by
 rw[PySem.W.Fast.te4187177175401517315];kernel_rfl
theorem left:LeftO pw_nz0339_01 hq nQ (λB=>true) (λs=>s.heap) (λw=>cx w.params) 8000:=
 LeftO.of_pieces (boot_open Gl (by decide) C9) Gm C7 (by decide) λw=>by
  have u:=xy w;have H:=Gn w;funext os;refine Prod.ext (congrFun u os) (Prod.ext (congrFun H os) rfl)
noncomputable def AV:DefRec:=match top 142 with
 | .FunctionDef name args body _ _ _ scope _ _ pos=>⟨name,args,body,scope,pos⟩
 |_=>⟨Str.empty,{posonlyargs:=[],args:=[],vararg:=none,kwonlyargs:=[],kw_defaults:=[],kwarg:=none,defaults:=[]},[],pw_nz0339_01.main.scope,hz⟩
theorem AW:rw_nz0339_01.row.prog.bare:=by
 refine⟨rfl,rfl,rfl,rfl,rfl,(?_ :TablesWhole.wProgram TablesWhole.holds pw_nz0339_01=true)⟩;unfold TablesWhole.wProgram;rw[PySem.W.Fast.te6116379765354995101,show TablesWhole.holds=⟨λz n B=>PySem.W.Fast.tw15985051520779696433 z n,λB B B ok=>ok,λB=>true,true,false,λa b=>a&&b⟩ from by rw[<-PySem.W.Fast.te15985051520779696433];rfl];kernel_rfl
theorem xA(call:WalkO hq nQ (λB B=>True) (λw h=> ∀b o,(cx w.params).get? b=some o->h.get? b=some o) rw_nz0339_01.row.toRowW AV [] λf vs=>PySem.call f vs):rw_nz0339_01.Holds:=by
 refine holds_law xP λu=> ?_;refine holds_open (q:=hq) (loose:=nQ) (Xt:= λB=>true) (XP:= λB B=>True) (Yf:= λs=>s.heap) (Ya:= λw=>cx w.params) (YP:= λw h=> ∀b o,(cx w.params).get? b=some o->h.get? b=some o) (N:=8000) left (λw s e=>by rw[<-e];exactλB B x=>x) (λw h h' k1 k2 b o e=>k2 b o (k1 b o e)) (λB B=>trivial) (λB B B B B=>trivial) ?hdef ?hp ?hk (λs e=>recFacts_nil rfl) (by rfl) u (by decide+kernel) AW ?hw call
 case hdef=>kernel_rfl
 case hp=>kernel_rfl
 case hk=>kernel_rfl
 case hw=>w_witness2
noncomputable def Lo:List (Nat×Nat):=[(0,21),(201,36),(202,43),(801,88),(802,95),(803,103),(804,110),(805,117),(806,124),(807,131),(808,138),(809,145),(810,152),(900,166),(1000,171),(1100,176),(1200,184),(1501,199),(1502,204),(1503,211),(1600,225),(1700,232),(1800,239),(1900,247),(2000,253),(2100,260),(2200,267),(2300,272),(2400,279),(3000,287),(3100,294),(3200,301),(3300,308),(3400,315),(3500,322),(3600,329),(3700,336),(3800,343),(3900,348),(4000,355),(4201,369),(4202,376),(4301,397),(4302,404),(4400,416),(4500,421),(4601,435),(4602,442),(4603,449),(4604,456),(4605,463),(4606,470),(4607,477),(4608,484),(4609,491),(4700,505),(4800,512),(4900,519),(5000,526),(5100,533),(5200,540),(5300,547),(5400,554),(6100,562),(6200,569),(6300,576),(6400,581),(6500,588),(6600,595),(6700,602),(6800,609),(6900,616),(7000,623),(7100,630),(7200,637),(7300,644),(8301,659),(8302,666),(8303,673),(8304,680),(8305,687),(8400,701),(8500,708),(8600,715),(8700,722),(8800,729),(8900,736),(9000,741),(9100,748),(9200,755),(9300,762),(9400,767),(9500,774),(9600,779),(9700,786),(9800,793),(9900,800),(10000,807),(10100,814),(10801,829),(10802,836),(10900,848),(11000,855),(11100,862),(11200,867),(11300,874),(11400,879),(11500,886),(11600,893),(11900,901),(12000,908),(12100,913),(12200,920),(12300,925),(12400,932),(12500,939),(12600,946),(12700,951),(12800,958),(12900,965),(13000,972),(13100,979),(13200,986),(13300,991),(13400,998),(14000,1037),(14100,1044),(14200,1051)]
noncomputable def Lp:List (Nat×Nat):=[(2,46),(3,59),(4,71),(8,155),(15,214),(42,379),(43,407),(46,494),(83,690),(108,839)]
noncomputable def fa(i:Nat):Addr:=(Lo.lookup i).getD 0
noncomputable def ca(C:Nat):Addr:=(Lp.lookup C).getD 0
noncomputable def Gp:Nat->List Obj->Frag
 |_,[]=>[]
 |a,o::r=>(a,o)::Gp (a+1) r
noncomputable def IC(p:Addr×Obj):Bool:=(Nat.ble p.1 14||Nat.ble 998 p.1)||match p.2.cls with
 | .none=>false
 |_=>match p.2.data with
  | .seq vs _=> !vs.toList.isEmpty
  |_=>true
noncomputable def KK(P:Params):Frag:=(Gp 0 (objs P)).filter IC
theorem sL: ∀{l:List Obj} {B a:Nat} {o:Obj},(a,o)∈Gp B l->B<=a/\l[a-B]? =some o
 |[],_,_,_,h=>by cases h
 |x::r,B,a,o,h=>by
  rcases List.mem_cons.mp h with h|h
  .injection h with u z;rw[u,z];exact⟨Nat.le_refl _,by simp⟩
  .have⟨u,z⟩:=sL h;refine⟨by exact aj u,?_⟩;rw[show a-B=(a-(B+1))+1 from ma u];exact z
theorem lB{a:Addr}{o:Obj}: ∀{l:List (Addr×Obj)},l.lookup a=some o->(a,o)∈l
 |[],h=>by cases h
 |(b,x)::r,h=>by
  rw[List.lookup_cons] at h;rcases q:a==b with _|_
  .rw[q] at h;exact .tail _ (lB h)
  .rw[q] at h;rw[eq_of_beq q,Option.some.inj h];exact .head _
noncomputable def D8:Obj->Bool
 |⟨_,_,.freed,_⟩=>false
 |_=>true
theorem xB(P:Params):(objs P).all D8=true:=by kernel_rfl
theorem AX{h:Heap}{a:Addr}{o:Obj}(e:h.objs[a]? =some o)(l:D8 o=true):h.get? a=some o:=by
 unfold Heap.get?;rw[e];obtain⟨c,d,x,s⟩:=o;rcases x with _|_<;>first|rfl|cases l
theorem AY{P:Params}{a:Nat}{o:Obj}(e:(objs P)[a]? =some o):(cx P).get? a=some o:=
 AX (by show(objs P).toArray[a]? =_;rw[List.getElem?_toArray];exact e) (List.all_eq_true.mp (xB P) o (List.mem_of_getElem? e))
theorem fH(P:Params):(KK P).In (cx P):= λa o e=>by
 have:=(sL (List.mem_filter.mp (lB e)).1).2;exact AY this
noncomputable def LY(w:World):Lay:=⟨KK w.params,fa,ca,59,cx w.params,hashStr w⟩
noncomputable def nR:Nat->List Stmt->List (Nat×Fd)
 |_,[]=>[]
 |i,s::r=>((fdOf s).toList.map λf=>(i,f))++nR (i+1) r
noncomputable def sM:Nat->List Stmt->List (Nat×Fd)
 |_,[]=>[]
 |j,s::r=>((fdOf s).toList.map λf=>(100*j,f))++(nR (100*j+1) (bodyOf s)++sM (j+1) r)
noncomputable def fns:List (Nat×Fd):=sM 0 s9
theorem sN{f:Fd}: ∀{l:List Stmt} {k i:Nat},(l[k]?).bind fdOf=some f->(i+k,f)∈nR i l
 |[],_,_,h=>by cases h
 |s::r,0,i,h=>by
  have h:fdOf s=some f:=h;unfold nR;rw[h];exact List.mem_append_left _ (.head _)
 |s::r,k+1,i,h=>by
  unfold nR;have:=sN (l:=r) (k:=k) (i:=i+1) h;rw[show i+1+k=i+(k+1) by simp+arith only] at this;exact List.mem_append_right _ this
theorem pk{f:Fd}{s:Stmt}{m:Nat}(h:(if m=0 then fdOf s else((bodyOf s)[m-1]?).bind fdOf)=some f): ∀{l:List Stmt} {k j:Nat},l[k]? =some s->(100*(j+k)+m,f)∈sM j l
 |[],_,_,e=>by cases e
 |x::r,0,j,e=>by
  cases e;unfold sM;by_cases q:m=0
  .rw[if_pos q] at h;rw[h,q];exact List.mem_append_left _ (.head _)
  .rw[if_neg q] at h;refine List.mem_append_right _ (List.mem_append_left _ ?_);have:=sN (i:=100*j+1) h;rw[Nat.add_assoc,Nat.add_comm 1,<-dM (Nat.pos_of_ne_zero q)] at this;exact this
 |x::r,k+1,j,e=>by
  unfold sM;have:=pk h (l:=r) (k:=k) (j:=j+1) e;rw[show j+1+k=j+(k+1) by simp+arith only] at this;exact List.mem_append_right _ (List.mem_append_right _ this)
theorem vv{i:Nat}{f:Fd}(h:ia i=some f):(i,f)∈fns:=by
 obtain⟨s,hs,h⟩:=Option.bind_eq_some_iff.mp h;have:=pk h (j:=0) hs;rw[Nat.zero_add,Nat.div_add_mod] at this;exact this
noncomputable def Lq(P:Params)(a:Addr):Obj:=((KK P).lookup a).getD default
noncomputable def D9:Data->Option FuncData
 | .func d=>some d
 |_=>none
theorem xC{x:Data}{d:FuncData}(h:D9 x=some d):x= .func d:=by
 rcases x with _|_<;>first|exact af h|(cases h;rfl)
noncomputable def Jk(P:Params)(a:Addr):Option FuncData:=((KK P).lookup a).bind λo=>D9 o.data
structure FV where
 body:FuncBody
 scope:Scope
 gl:Addr
 bi:Addr
 cl:List (Str×Addr)
 po:List Arg
 Hi:List Arg
 va:Option Arg
 Hj:Option Arg
 ns:List Str
noncomputable def vH(P:Params)(p:Nat×Fd):Option FV:=(Jk P (fa p.1)).map λd=>⟨d.body,d.scope,d.globals,d.builtins,d.closure,d.params.posonlyargs,d.params.kwonlyargs,d.params.vararg,d.params.kwarg,d.params.args.map (·.arg)⟩
noncomputable def vF(p:Nat×Fd):Option FV:=some ⟨.stmts p.2.body,p.2.scope,mainGlobals,builtinsNs,[],[],[],none,none,p.2.params⟩
theorem AZ(P:Params):fns.map (vH P)=fns.map vF:=by kernel_rfl
noncomputable def A0(t:String):Value->Bool
 | .type n=>n==t
 |_=>false
theorem xD{t:String}{v:Value}(h:A0 t v=true):v= .type t:=by
 rcases v with _|_<;>first|(cases h;done)|exact congrArg Value.type (eq_of_beq h)
noncomputable def IE:Data->Option (List Value)
 | .seq vs _=>some vs.toList
 |_=>none
set_option tactic.hygienic true in
theorem A2{d:Data}{l:List Value}(h:IE d=some l): ∃n,d= .seq l.toArray n:=by
 rcases d with _|_<;>first|exact af h|skip
 rename_i vs n;obtain rfl:=Option.some.inj h;exact⟨n,rfl⟩
noncomputable def Gq(t:String)(o:Obj):Option (List Value):=bif A0 t o.cls&&(o.dict.isNone&&o.slots.isEmpty) then IE o.data else none
theorem C_{t:String}{o:Obj}{l:List Value}(h:Gq t o=some l): ∃n,o={cls:=.type t,data:=.seq l.toArray n}:=by
 obtain⟨c,dd,u,sl⟩:=o;unfold Gq at h;dsimp only at h;rcases q:A0 t c&&(dd.isNone&&sl.isEmpty) with _|_
 .rw[q] at h;exact af h
 .rw[q] at h;simp only[Bool.and_eq_true] at q;obtain⟨n,rfl⟩:=A2 h;obtain rfl:=xD q.1;obtain rfl:=Option.isNone_iff_eq_none.mp q.2.1;obtain rfl:=Array.isEmpty_iff.mp q.2.2;exact⟨n,rfl⟩
noncomputable def IF:Value->Option Addr
 | .ref a=>some a
 |_=>none
theorem A3{v:Value}{a:Addr}(h:IF v=some a):v= .ref a:=by
 rcases v with _|_<;>first|exact af h|(cases h;rfl)
noncomputable def qz(K:Frag)(t:String)(v:Value):Option (List Value):=(IF v).bind λa=>(K.lookup a).bind (Gq t)
theorem qA{K:Frag}{t:String}{v:Value}{l:List Value}(h:qz K t v=some l): ∃a n,v= .ref a/\K.lookup a=some {cls:=.type t,data:=.seq l.toArray n}:=by
 refine hide λH B=> ?_;obtain⟨a,O,h⟩:=ae h;obtain⟨o,u,z⟩:=ae h;obtain⟨n,rfl⟩:=C_ z;refine B ?_;exact⟨a,n,A3 O,u⟩
noncomputable def allB{z O:Type}(f:z->O->Bool)(l:List z)(t:List O):Bool:=Nat.beq l.length t.length&&(l.zip t).all λp=>f p.1 p.2
theorem nS{z O:Type}{f:z->O->Bool}{l:List z}{t:List O}(h:allB f l t=true):l.length=t.length/\ ∀(i:Nat) (a:z) (b:O),l[i]? =some a->t[i]? =some b->f a b=true:=by
 unfold allB at h;rw[Bool.and_eq_true] at h;exact⟨Nat.eq_of_beq_eq_true h.1,λi a b u H=>List.all_eq_true.mp h.2 (a,b) (List.mem_of_getElem? (List.getElem?_zip_eq_some.mpr ⟨u,H⟩))⟩
noncomputable def Gr:Value->Option Int
 | .int j _=>some j
 |_=>none
theorem A4{v:Value}{j:Int}(h:Gr v=some j): ∃t,v= .int j t:=by
 rcases v with _|_<;>first|exact af h|(cases h;exact⟨_,rfl⟩)
noncomputable def Gs(v:Value)(x:D):Bool:=((Gr v).bind λj=>(vInt x).map λi=>decide (j=i)).getD false
theorem Dc{Y:Lay}{Z:ZP}{v:Value}{x:D}(h:Gs v x=true):au Y Z v x:=by
 unfold Gs at h;rcases e1:Gr v with _|j
 .rw[e1] at h;cases h
 .rcases e2:vInt x with _|i
  .rw[e1,e2] at h;cases h
  .rw[e1,e2] at h;obtain rfl:=of_decide_eq_true h;obtain⟨t,rfl⟩:=A4 e1;rw[aD e2];exact .int _ _
noncomputable def nT:List Str->Bool
 |[]=>true
 |x::r=> !(r.any λy=>decide (y=x))&&nT r
theorem k_: ∀{l:List Str},nT l=true->l.Nodup
 |[],_=>List.nodup_nil
 |x::r,h=>by
  unfold nT at h;simp only[Bool.and_eq_true,Bool.not_eq_true',List.any_eq_false,decide_eq_true_eq] at h;exact List.nodup_cons.mpr ⟨λm=>h.1 x m rfl,k_ h.2⟩
noncomputable def vw:Value->Bool
 | .none=>true
 |_=>false
theorem sO{v:Value}(h:vw v=true):v= .none:=by
 rcases v with _|_<;>first|rfl|(cases h;done)
noncomputable def KD(K:Frag)(v:Value)(ds:List D):Bool:=match qz K "tuple" v with
 |some vs=>allB Gs vs ds
 |none=>ds.isEmpty&&vw v
noncomputable def KG(P:Params)(p:Nat×Fd):Bool:=match Jk P (fa p.1) with
 |some d=>codeIn (KK P) d.code d.qualname&&(!p.2.scope.isCoroutine&&(!p.2.scope.isGenerator&&(p.2.scope.kind==.function&&(nT p.2.params&&(nT (p.2.scope.names.map (·.1))&&(!(p.2.scope.names.any λy=>decide (y.1="__debug__"))&&
   ((p.2.params.all λx=>p.2.scope.names.lookup x==some .local||p.2.scope.names.lookup x==some .cell)&&(decide (p.2.defaults.length<=p.2.params.length)&&KD (KK P) d.defaults p.2.defaults))))))))
 |none=>false
theorem xE(P:Params):fns.all (KG P)=true:=by kernel_rfl
theorem pn{x:Str}: ∀{l:List (Str×NameKind)},(l.any λy=>decide (y.1=x))=false->l.lookup x=none
 |[],_=>rfl
 |(y,k)::r,h=>by
  simp only[List.any_cons,Bool.or_eq_false_iff,decide_eq_false_iff_not] at h;rw[List.lookup_cons,show(x==y)=false from beq_eq_false_iff_ne.mpr λq=>h.1 q.symm];exact pn h.2
theorem Gu{P:Params}{a:Addr}{d:FuncData}(h:Jk P a=some d): ∃o,(KK P).lookup a=some o/\o.data= .func d:=by
 obtain⟨o,u,z⟩:=ae h;exact⟨o,u,xC z⟩
theorem D_(w:World){i:Nat}{f:Fd}(h:ia i=some f): ∃o d,FnAt (LY w) i f o d:=by
 have m:=vv h;have v:=List.map_inj_left.mp (AZ w.params) _ m;have c:=List.all_eq_true.mp (xE w.params) _ m;unfold KG at c;unfold vH vF at v;rcases e:Jk w.params (fa i) with _|d
 .simp only[e] at c;cases c
 .simp only[e,Option.map_some,Option.some.injEq,FV.mk.injEq] at c v;refine hide λP9 O=> ?_;obtain⟨v1,v2,v3,v4,v5,v6,v7,v8,v9,al⟩:=v;refine O ?_;simp only[Bool.and_eq_true,Bool.not_eq_true',decide_eq_true_eq,List.all_eq_true,Bool.or_eq_true,beq_iff_eq] at c;refine hide λP9 O=> ?_;obtain⟨c1,c2,c3,c4,c5,c6,c7,c8,c9,ac⟩:=c;obtain⟨o,u,z⟩:=Gu e;refine O ?_;refine⟨o,d,fH _ _ _ u,z,v1,v2,v3,v4,v5,codeRec_of (fH _) c1,c2,c3,c4,v6,v7,v8,v9,al,k_ c5,k_ c6,pn c7,c8,c9,?_⟩;unfold KD at ac;rcases e2:qz (KK w.params) "tuple" d.defaults with _|vs
  .rw[e2,Bool.and_eq_true] at ac;refine⟨none,[],λs B M A E Q hq=> ?_,rfl,by rw[List.isEmpty_iff.mp ac.1];exact aO.nil⟩;rw[sO ac.2];exact wpAny_bind (wpAny_pure (wpAny_pure hq))
  .rw[e2] at ac;refine hide λP9 O=> ?_;obtain⟨a,k,X,e4⟩:=qA e2;obtain⟨g1,H⟩:=nS ac;refine O ?_;refine⟨some vs.toArray,vs,λs st M A E Q hq=> ?_,rfl,g1,λi v x z1 z2=>Dc (H i v x z1 z2)⟩;rw[X];exact wpAny_seqItems (st _ _ (fH _ _ _ e4)) rfl hq
noncomputable def GT.rows:GT->List (List Nat×GV)
 | .e=>[]
 | .n _ B g l r=>(B,g)::(GT.rows l++GT.rows r)
theorem vx: ∀{a b:List Nat},x8 a b=true->a=b
 |[],[],_=>rfl
 |[],_::_,h=>by cases h
 |_::_,[],h=>by cases h
 |a::x,b::y,h=>by
  unfold x8 at h;rw[Bool.and_eq_true] at h;rw[Nat.eq_of_beq_eq_true h.1,vx h.2]
theorem GT.ke{c:Nat}{O:List Nat}{g:GV}: ∀{t:GT},t.find c O=some g->(O,g)∈t.rows
 | .e,h=>by cases h
 | .n k B u l r,h=>by
  unfold GT.find at h;unfold GT.rows;rcases e1:Nat.beq c k with _|_
  .rw[e1] at h;rcases e2:Nat.blt c k with _|_
   .rw[e2] at h;exact .tail _ (List.mem_append_right _ (GT.ke h))
   .rw[e2] at h;exact .tail _ (List.mem_append_left _ (GT.ke h))
  .rw[e1] at h;rcases e2:x8 O B with _|_
   .rw[e2] at h;cases h
   .rw[e2] at h;cases h;rw[vx e2];exact .head _
noncomputable def IG:Env:={cu with globals:=mainGlobals,builtins:=builtinsNs}
theorem nU{env:Env}{x:Str}(u:env.globals=mainGlobals)(z:env.builtins=builtinsNs):loadGlobal env x=loadGlobal IG x:=by
 unfold loadGlobal;rw[u,z];rfl
noncomputable def II(a:Addr):Value->Bool
 | .ref b=>Nat.beq b a
 |_=>false
theorem uC{a:Addr}{v:Value}(h:II a v=true):v= .ref a:=by
 unfold II at h;split at h
 .rw[Nat.eq_of_beq_eq_true h]
 .cases h
noncomputable def Ea(s:String):Value->Bool
 | .builtin t=>t==s
 |_=>false
theorem Gv{s:String}{v:Value}(h:Ea s v=true):v= .builtin s:=by
 unfold Ea at h;split at h
 .rw[eq_of_beq h]
 .cases h
noncomputable def IJ(s:String):Value->Bool
 | .type t=>t==s
 |_=>false
theorem Gw{s:String}{v:Value}(h:IJ s v=true):v= .type s:=by
 unfold IJ at h;split at h
 .rw[eq_of_beq h]
 .cases h
noncomputable def vy:Value->Option D
 | .none=>some .none
 | .bool b=>some (.bool b)
 | .int i _=>some (.int i)
 | .str s _=>some (.str s.cps.toList)
 | .bytes b _=>some (.bytes b.toList)
 |_=>none
theorem A5{Y:Lay}{Z:ZP}{v:Value}{x:D}(h:vy v=some x):au Y Z v x:=by
 rcases v with _|_<;>first
  |exact af h
  |(obtain rfl:=Option.some.inj h;first|exact .none|exact .bool _|exact .int _ _|exact .str (Str.cps _).toList _|exact .bytes (Array.toList _) _)
noncomputable def hasB(K:Frag):Nat->Value->D->Bool
 |0,_,_=>false
 |n+1,v,x=>match vy v with
  |some y=>kJ 9 y x
  |none=>match kg x with
   |some xs=>(match qz K "tuple" v with|some vs=>allB (hasB K n) vs xs|none=>false)
   |none=>match dg x with
    |some xs=>(match qz K "list" v with|some vs=>allB (hasB K n) vs xs|none=>false)
    |none=>false
theorem Dd{Y:Lay}{Z:ZP}{K:Frag}(hz: ∀a o,K.lookup a=some o->Z a o)(n:Nat): ∀{v:Value} {x:D},hasB K n v x=true->au Y Z v x:=by
 induction n with
 |zero=>intro v x h;cases h
 |succ n B=>
  intro v x h;change(match vy v with
   |some y=>kJ 9 y x
   |none=>match kg x with
    |some xs=>(match qz K "tuple" v with|some vs=>allB (hasB K n) vs xs|none=>false)
    |none=>match dg x with
     |some xs=>(match qz K "list" v with|some vs=>allB (hasB K n) vs xs|none=>false)
     |none=>false)=true at h
  rcases e:vy v with _|y
  .rw[e] at h;rcases e1:kg x with _|xs
   .rw[e1] at h;rcases e1:dg x with _|xs
    .rw[e1] at h;cases h
    .rw[e1] at h;rcases H:qz K "list" v with _|vs
     .rw[H] at h;cases h
     .rw[H] at h;obtain⟨a,k,rfl,X⟩:=qA H;obtain⟨u,z⟩:=nS h;rw[bI e1];exact .lst (hz _ _ X) u λi v x H X=>B (z i v x H X)
   .rw[e1] at h;rcases H:qz K "tuple" v with _|vs
    .rw[H] at h;cases h
    .rw[H] at h;obtain⟨a,k,rfl,X⟩:=qA H;obtain⟨u,z⟩:=nS h;rw[eZ e1];exact .tup (hz _ _ X) u λi v x H X=>B (z i v x H X)
  .rw[e] at h;rw[<-jX _ _ _ h];exact A5 e
noncomputable def KH(K:Frag)(v:Value):GV->Bool
 | .fn i=>II (fa i) v
 | .cls C _=>II (ca C) v
 | .exc C=>II (ca C) v
 | .data x=>hasB K 5 v x
 | .bi b=>match b with
  | .len=>Ea "len" v| .min=>Ea "min" v| .chr=>Ea "chr" v| .ord=>Ea "ord" v| .bytes=>IJ "bytes" v
  | .range=>IJ "range" v| .isinstance=>Ea "isinstance" v| .sorted=>Ea "sorted" v| .list=>IJ "list" v
theorem Gx{w:World}{v:Value}{g:GV}(h:KH (KK w.params) v g=true):yg (LY w) g v:=by
 rcases g with i|⟨C,i⟩|x|b|C
 .exact uC h
 .exact uC h
 .exact Dd (λa o z=>fH _ a o z) _ h
 .rcases b with _|_<;>first|exact Gv h|exact Gw h
 .exact uC h
noncomputable def vz(P:Params)(x:Str):Option Value:=peek (KK P) ⟨pw,P⟩ (loadGlobal IG x)
noncomputable def Eb(P:Params)(p:List Nat×GV):Bool:=match vz P ⟨p.1.toArray⟩ with
 |some v=>KH (KK P) v p.2
 |none=>false
theorem sP(P:Params):globT.rows.all (Eb P)=true:=by kernel_rfl
theorem vC(w:World){x:Str}{v:Value}(e:vz w.params x=some v)(env:Env)(E:Value->Shared->Prop)(s:Shared)(Q:Value->Shared->Prop)(u:env.globals=mainGlobals)(z:env.builtins=builtinsNs)(X:env.scope.kind= .function)(O:env.kindOf x=some .globalImplicit)
  (st:(cx w.params).StaysIn s.heap) (hq:Q v s) (A:Around):wpAny (model pw w) A (loadName env x) Q E s:=by
 rw[loadName_read X O,nU u z];exact Looks.of_peek (M:=model pw w) (fH w.params) e A Q E s st hq
set_option tactic.hygienic true in
theorem De(w:World){x:Str}{g:GV}(h:je x=some g): ∃v,yg (LY w) g v/\vz w.params x=some v:=by
 have c:=List.all_eq_true.mp (sP w.params) _ (GT.ke h);unfold Eb at c;split at c
 .rename_i v e;exact⟨v,Gx c,e⟩
 .cases c
noncomputable def nV:List Stmt->Nat->List (Str×Nat)
 |[],_=>[]
 |s::r,k=>((fnName s).toList.map λn=>(n,k))++nV r (k+1)
theorem uD{m:Str}{i:Nat}(l:List Stmt): ∀{k:Nat},pJ m l k=some i->(m,i)∈nV l k:=by
 induction l with
 |nil=>intro k h;cases h
 |cons s r B=>
  intro k h;have h:(if fnName s=some m then some k else pJ m r (k+1))=some i:=h;show(m,i)∈((fnName s).toList.map λn=>(n,k))++nV r (k+1);by_cases q:fnName s=some m
  .rw[if_pos q] at h;cases h;rw[q];exact List.mem_append_left _ (.head _)
  .rw[if_neg q] at h;exact List.mem_append_right _ (B h)
noncomputable def sQ(K:Frag)(C:Nat)(a:Str):Bool:=
 plainGet K (ca C) a&&(hasDictIn K (ca C)&&(findIn K (.ref (ca C)) a==some none&&(findIn K (.ref (ca C)) "__setattr__"==some (some (.builtin "object.__setattr__"))&&plainOver K (ca C))))
noncomputable def vD(K:Frag)(C:Nat)(m:Str)(i:Nat):Bool:=
 plainGet K (ca C) m&&(findIn K (.ref (ca C)) m==some (some (.ref (fa i)))&&(isFn K (.ref (fa i))&&keepIn K (.ref (fa i))))
noncomputable def IK(K:Frag):GV->Bool
 | .cls C i=>makesIn K (ca C)&&(findIn K (.ref (ca C)) "__init__"==some (some (.ref (fa i)))&&(isFn K (.ref (fa i))&&keepIn K (.ref (ca C))))
 |_=>true
noncomputable def IL(K:Frag)(p:Stmt×Nat):Bool:=Nat.beq p.2 2||((Eh p.1).all (sQ K p.2)&&(nV (bodyOf p.1) 0).all λq=>vD K p.2 q.1 (100*p.2+q.2+1))
theorem uE(P:Params):s9.zipIdx.all (IL (KK P))=true:=by kernel_rfl
theorem uF(P:Params):globT.rows.all (λp=>IK (KK P) p.2)=true:=by kernel_rfl
theorem sR(P:Params):fns.all (λp=>keepIn (KK P) (.ref (fa p.1)))=true:=by kernel_rfl
noncomputable def IM(K:Frag)(C H:Nat):Bool:=
 kin_not K (ca C) (ca H)&&(plainGet K (ca C) "__class__"&&(hasDictIn K (ca C)&&(findIn K (.ref (ca C)) "__class__"==some (some (.builtin "object.__class__"))&&
  (specialIn K (.builtin "object.__class__") "__get__"==some (some (.builtin "getset_descriptor.__get__"))&&(takesIn K (.builtin "object.__class__")==some true&&mroIn K (ca C) (.type "object")==some true)))))
theorem xG(P:Params):IM (KK P) 42 43=true:=by kernel_rfl
theorem A6(w:World){C:Nat}{s:Stmt}(z:Nat.beq C 2=false)(h:s9[C]? =some s):(∀a,(Eh s).contains a=true->sQ (KK w.params) C a=true)/\ ∀m k,(m,k)∈nV (bodyOf s) 0->vD (KK w.params) C m (100*C+k+1)=true:=by
 have:=List.all_eq_true.mp (uE w.params) (s,C) (List.mem_zipIdx_iff_getElem?.mpr h);unfold IL at this;rw[z,Bool.false_or,Bool.and_eq_true,List.all_eq_true,List.all_eq_true] at this;exact⟨λa O=>this.1 a (List.contains_iff_mem.mp O),λm k B=>this.2 (m,k) B⟩
theorem vE(w:World){C:Nat}{a:Str}(h:jd C a=true):sQ (KK w.params) C a=true:=by
 unfold jd at h;rcases h2:Nat.beq C 2 with _|_
 .rw[h2] at h;rcases e:s9[C]? with _|s
  .rw[e] at h;cases h
  .rw[e] at h;exact(A6 w h2 e).1 a h
 .rw[h2] at h;cases h
theorem Df(w:World){C i:Nat}{m:Str}(h:jc C m=some i):vD (KK w.params) C m i=true:=by
 unfold jc at h;rcases h2:Nat.beq C 2 with _|_
 .rw[h2] at h;obtain⟨s,hs,h⟩:=Option.bind_eq_some_iff.mp h;obtain⟨k,O,rfl⟩:=Option.map_eq_some_iff.mp h;exact(A6 w h2 hs).2 m k (uD _ O)
 .rw[h2] at h;cases h
theorem A7(P:Params):(cx P).noLimitOk=true:=by kernel_rfl
theorem Dg(P:Params):(match(cx P).get? sysModules with|some ⟨_,_,.dict es _,_⟩=>Nat.ble 2 es.size|_=>false)=true:=by kernel_rfl
noncomputable def KI:lG:=⟨"WordFault","WordFault",58,[.ref 46],cX 46,true,[],[],false,none,none,some (.ref 50),none,some (.str "WordFault" 236),some (.str "WordFault" 244),some (.bool true),"Exception.__new__"⟩
theorem A8(P:Params):(KK P).lookup 59=some (dF KI 59 46):=by kernel_rfl
theorem Dh(P:Params):((KK P).lookup 1051).isSome=true:=by kernel_rfl
theorem Gy(P:Params):(objs P).length=1052:=by kernel_rfl
noncomputable def A9:Fd:=(ia 201).getD ⟨Str.empty,[],[],hq.main.scope,[]⟩
theorem Gz:ia 201=some A9:=by kernel_rfl
theorem A_:A9.body=mW ⟨8,8,8,17⟩ ⟨8,8,8,26⟩ ⟨8,27,8,31⟩ ⟨8,33,8,37⟩ ⟨8,8,8,38⟩ ⟨8,8,8,38⟩ ⟨9,8,9,12⟩ ⟨9,8,9,17⟩ ⟨9,20,9,24⟩ ⟨9,8,9,24⟩ ⟨10,8,10,12⟩ ⟨10,8,10,15⟩ ⟨10,18,10,20⟩ ⟨10,8,10,20⟩:=by kernel_rfl
theorem A':(A9.params,A9.defaults.length,(["self","what","at","Exception"].map λx=>A9.scope.names.lookup (Str.ofString x)))=(["self","what","at"].map Str.ofString,1,[some .local,some .local,some .local,some .globalImplicit]):=by kernel_rfl
theorem Ba(P:Params):vz P "Exception"=some (.type "Exception"):=by kernel_rfl
theorem Bb(P:Params):[findIn (KK P) (.ref 59) "__init__",findIn (KK P) (.ref 59) "__setattr__",findIn (KK P) (.ref 59) "what",findIn (KK P) (.ref 59) "at"]=[some (some (.ref (fa 201))),some (some (.builtin "object.__setattr__")),some none,some none]:=by kernel_rfl
theorem Di(P:Params):typeIn (KK P) (.ref (fa 201))=some (.type "function"):=by kernel_rfl
theorem Dj:je "WordFault"=some (.exc 3):=by kernel_rfl
theorem IP:ca 3=59:=by kernel_rfl
theorem Dk(P:Params):keepIn (KK P) (.ref 59)=true:=by kernel_rfl
theorem Bc(w:World): ∃a o,(LY w).base.get? a=some o/\(LY w).base.objs.size=a+1:=by
 obtain⟨o,e⟩:=Option.isSome_iff_exists.mp (Dh w.params);refine⟨1051,o,fH _ _ _ e,?_⟩;show(objs w.params).toArray.size=_;rw[List.size_toArray,Gy]
set_option tactic.hygienic true in
theorem pf(w:World):PF (LY w) pw w ia je jc jd oi where
 fn i f h:=D_ w h
 lim:=Heap.NoLimit.of_ok (A7 _)
 glob x g h:=let⟨v,a,e⟩:=De w h;⟨v,a,vC w e⟩
 bi:=wx pw w
 bj:=wJ pw w
 lQ:=fH w.params
 hash:=rfl
 top:=Bc w
 attr C a h:=by
  have:=vE w h;unfold sQ at this;simp only[Bool.and_eq_true,beq_iff_eq] at this;exact⟨this.1,this.2.1,this.2.2.1⟩
 sys:=by
  have:=Dg w.params;revert this;rcases e:(cx w.params).get? sysModules with _|⟨c,dd,da,sl⟩
  .exactλh=>nomatch h
  rcases da with _|_<;>intro this<;>try(exact absurd this Bool.false_ne_true;done)
  .rename_i es n;refine⟨_,e,λam n' q=> ?_⟩;cases q;exact Nat.le_of_ble_eq_true this
 hK C C' h:=by
  unfold oi at h;simp only[Bool.and_eq_true,Bool.or_eq_true,beq_iff_eq] at h;obtain⟨rfl|rfl,rfl⟩:=h
  .exact .inl rfl
  .right
   have:=xG w.params;unfold IM at this;simp only[Bool.and_eq_true,beq_iff_eq] at this;exact this
 sets C a h:=by
  have:=vE w h;unfold sQ at this;simp only[Bool.and_eq_true,beq_iff_eq] at this;exact this.2.2.2
 mH i f h:=List.all_eq_true.mp (sR w.params) _ (vv h)
 cC C m i h:=by
  have:=Df w h;unfold vD at this;simp only[Bool.and_eq_true,beq_iff_eq] at this;exact this
 cls x C i h:=by
  have:=List.all_eq_true.mp (uF w.params) _ (GT.ke h);unfold IK at this;simp only[Bool.and_eq_true,beq_iff_eq] at this;exact this
 Kg C h:=by
  rw[Dj] at h;cases h;exact IP
 Kh:=⟨KI,fH _ _ _ (A8 w.params),rfl⟩
 Ki:=Dk _
 make:= λhA B st z k=>by
  refine hide λu O=> ?_;obtain⟨o,d,Fn⟩:=D_ w Gz;refine O ?_;have X:=A';have H:=Bb w.params;simp only[Prod.mk.injEq,List.map_cons,List.map_nil,List.cons.injEq,and_true] at X H;refine hide λu O=> ?_;obtain⟨r1,r2,r3,r4,r5,r6⟩:=X;obtain⟨f1,f2,f3,f4⟩:=H;refine O ?_;exact B9 rfl Fn A_ r1 r2 r3 r4 r5 r6 (Heap.NoLimit.of_ok (A7 _)) (Bc w) (fH _ _ _ (A8 w.params)) (looks_findIn (fH _) f1) (λac=>bind_fn (fH _) ac (Di _)) (looks_findIn (fH _) f2) (looks_findIn (fH _) f3) (looks_findIn (fH _) f4) (vC w (Ba _)) hA st z k
theorem has_int{x:WData}(h:WShape.has [] x .int=true): ∃i,x= .int i:=by
 rcases x with _|_<;>first|exact⟨_,rfl⟩|(cases h;done)
theorem items_int: ∀{xs:List WData},WShape.hasItems [] xs .int=true-> ∃s:List Int,xs=s.map .int
 |[],_=>⟨[],rfl⟩
 |x::xs,h=>by
  replace h:(WShape.has [] x .int&&WShape.hasItems [] xs .int)=true:=h;rw[Bool.and_eq_true] at h;obtain⟨i,rfl⟩:=has_int h.1;obtain⟨s,rfl⟩:=items_int h.2;exact⟨i::s,rfl⟩
theorem Bd{args:List WData}(h:rw_nz0339_01.row.toRowW.claim.pre args=true): ∃s:List Int,args=[.list (s.map .int)]/\s.length<=63:=by
 have h:(WShape.hasAll [] args [.list .int]&&WTm.holds [] (.and (.not (.lt (.lit (.int 63)) (.len (.arg 0)))) (.lit (.bool true))) {args:=args})=true:=h;rw[Bool.and_eq_true] at h;obtain⟨u,z⟩:=h
 match args,u,z with
 |[x],u,z=>
  replace u:(WShape.has [] x (.list .int)&&WShape.hasAll [] [] [])=true:=u;rw[Bool.and_eq_true] at u;obtain⟨xs,rfl,hx⟩: ∃xs,x= .list xs/\WShape.hasItems [] xs .int=true:=by
   rcases x with _|_<;>first|exact⟨_,rfl,(Bool.or_false _).symm.trans (show(WShape.hasItems [] _ .int||false)=true from u.1)⟩|(cases u.1;done)
  obtain⟨s,rfl⟩:=items_int hx;refine⟨s,rfl,?_⟩;refine Nat.le_of_not_lt λq=> ?_;have e:less? (WData.int 63) (WData.int (s.length:Nat))=some true:=by
   show some (decide ((63:Int)<(s.length:Nat)))=_;rw[decide_eq_true (Int.ofNat_lt.mpr q)]
  simp[WTm.holds,WTm.value,e] at z
 |[],u,_=>cases u
 |_::_::_,u,_=>
  have q:=(Bool.and_eq_true_iff.mp u).2;cases q
theorem sS{Y:Lay}{Z:ZP}{P:Params}{h:Heap}: ∀{vs:List Value} {s:List Int},WellAll P h vs (s.map .int)->aO Y Z vs (s.map .int)
 |[],[],_=>aO.nil
 |v::vs,i::s,x=>by
  cases x with
  |cons a b=>
   cases a;exact aO.cons (.int i _) (sS b)
theorem Dl(P:Params):((cx P).isNs mainGlobals,(cx P).nsMap mainGlobals "law",fa 14200)=(true,some (.ref 1051),1051):=by kernel_rfl
theorem Dm{h:Heap}{a:Addr}{m H:Str->Option Value}(x:h.Ns a m)(y:h.Ns a H)(n:Str):m n=H n:=by
 refine hide λP9 O=> ?_;obtain⟨o,es,ep,u,z,_,X⟩:=x;obtain⟨o',an,am,ac,al,_,B⟩:=y;refine O ?_;rw[u] at ac;cases ac;rw[z] at al;cases al;rw[<-X,B]
theorem xH(a d:List WData):rw_nz0339_01.row.toRowW.claim.post a (.bool true) d=true:=by kernel_rfl
theorem GA:AV.name="law":=by kernel_rfl
set_option tactic.hygienic true in
theorem GR:rw_nz0339_01.Holds:=by
 refine xA ?_;intro w bb an mg mb G YP a o pm cd bd dV kV O hd b3 b4 aI ac u vals as am a7 ap al a8;obtain⟨s,rfl,hs⟩:=Bd am;have lg:=Dl w.params;simp only[Prod.mk.injEq] at lg;obtain⟨a3,a4,a5⟩:=lg;have ea:a=fa 14200:=by
  have:=Dm G.T.g ((Heap.Ns.of_isNs a3).keeps YP) "law";rw[a4,<-GA,aI] at this;rw[a5];cases this;rfl
 subst ea;cases al with
 |cons h1 h2=>
 cases h2;cases h1 with
 |list H a2=>
 rename_i l vs;obtain⟨b,X⟩:=AL (m:=40) (by simp+arith only) s hs;have C:=tM (pf w) 40 14200 [.d (.lst (s.map .int))];rw[show jw ia je jc jd oi 3000 40 14200 [.d (.lst (s.map .int))]= .ok (.d (.bool true),b) from X] at C;refine wpAny_call (C callerA [] [] [⟨.ref l,.d (.lst (s.map .int)),[]⟩] (λa o=>(cx w.params).get? a=some o\/(a=l/\o={cls:=.type "list",data:=.seq vs.toArray})) an _ ⟨rfl,by decide,by decide⟩ ⟨rfl,rfl,λB h=>nomatch h⟩ rfl ?_ ?_ ?_)
 .intro sl a0;rw[List.mem_singleton.mp a0];have hh:=sS (Y:=LY w) (Z:= λa o=>(cx w.params).get? a=some o\/(a=l/\o={cls:=.type "list",data:=.seq vs.toArray})) a2;exact⟨.lst (.inr ⟨rfl,rfl⟩) hh.1 hh.2,rfl⟩
 .refine⟨(λB h=>nomatch h),List.nodup_nil,(λB h=>nomatch h),λa o z=> ?_,(λB B B h=>nomatch h),λB B z=>.inl z,(λB h=>nomatch h)⟩;rcases z with z|⟨rfl,rfl⟩
  .exact YP _ _ z
  .exact H
 .intro slR slB Z' s' em _ _ hR _ H' g;obtain⟨v,mv,os⟩:=slR;cases em;obtain⟨hv,_⟩:=hR;replace hv:=hv.g5;subst hv;refine⟨.inl ⟨_,_,_,rfl,λB=>rfl,.bool true,xH _ _,λB=>⟨List.nodup_nil,λB h=>nomatch h⟩⟩,.of_keep λb o e=>g.keep b o e (λh=>nomatch h) (λh=>nomatch h),g.os,.of_eq (g.gens.trans ac)⟩
end Mine
theorem PySem.Challenge.cw_nz0339_01_holds : PySem.Challenge.rw_nz0339_01.Holds :=
 Mine.GR
