import PyProof.Rows.All
import Wide.All
import OpenK.AllK
import Wide.FinOn
import PySem.Challenge.RW_pc0235_01
set_option Elab.async false
set_option maxRecDepth 100000
set_option maxHeartbeats 40000000
set_option linter.all false
set_option genInjectivity false
set_option genSizeOf false
set_option bootstrap.genMatcherCode false
set_option backward.match.sparseCases false
set_option genCtorIdx false
set_option tactic.hygienic false
namespace Mine
open PySem
variable {a d n:Nat}{b:Bool}{p:Prop}
theorem la{b c k:Nat}(h:a+b<=k+c)(q:Nat.ble (d+c) b=true):d<=k:=Nat.le_of_add_le_add_right (Nat.le_trans (Nat.le_of_ble_eq_true q) (Nat.le_trans (Nat.le_add_left _ _) h))
theorem la1{b k:Nat}(h:a+b<=k)(q:Nat.ble d b=true):d<=k:=Nat.le_trans (Nat.le_of_ble_eq_true q) (Nat.le_trans (Nat.le_add_left _ _) h)
theorem la2{k:Nat}(h:a<=k)(q:Nat.ble d a=true):d<=k:=Nat.le_trans (Nat.le_of_ble_eq_true q) h
theorem la3{c k:Nat}(h:a<=k+c)(q:Nat.ble (d+c) a=true):d<=k:=Nat.le_of_add_le_add_right (Nat.le_trans (Nat.le_of_ble_eq_true q) h)
theorem la4{b c k:Nat}(h:a+b<=k+c)(q:Nat.ble (d+c) b=true):a+d<=k:=Nat.le_of_add_le_add_right (Nat.le_trans (Nat.add_assoc a d c▸Nat.add_le_add_left (Nat.le_of_ble_eq_true q) a) h)
theorem QT{i:Nat}(h:i<a):a-i=a-(i+1)+1:=(Nat.succ_pred_eq_of_pos (Nat.sub_pos_of_lt h)).symm
def stp(l:List Lean.Syntax)(t:String):List Lean.Syntax:=match t.splitOn ":" with
 |[k,n]=>.node .none (if k.startsWith "." then "Lean.Parser.Tactic"++k else k).toName (l.take n.toNat!).reverse.toArray::l.drop n.toNat!
 |[k,aR,dm]=>.ident .none k.toRawSubstring k.toName []::l
 |_=>.atom .none (if t="@" then ":" else t)::l
def dec(p:String):Lean.Syntax:=((p.splitOn " ").foldl stp []).headD .missing
def wS(s:String):String:=s++" null:1 .tacticSeq1Indented:1 .tacticSeq:1"
def bu:Lean.Syntax:=dec (wS "lia null:0 .optConfig:1 .lia:2")
def vU:Lean.Syntax:=dec (wS "decide + kernel:: .posConfigItem:2 .configItem:1 null:1 .optConfig:1 .decide:2")
def Zt:Lean.Syntax:=dec (wS "exact ln:: rfl:: null:1 Lean.Parser.Term.app:2 .exact:2")
def rS(s:String):String:=" | "++wS (wS ("with_reducible "++s)++" .withReducible:2")++" group:2"
def aS(s:String):String:=rS ("exact "++s++":: ( :: hygieneInfo:1 Lean.Parser.Term.hygienicLParen:2 by assumption .assumption:1 null:1 .tacticSeq1Indented:1 .tacticSeq:1 Lean.Parser.Term.byTactic:2 ) Lean.Parser.Term.paren:3 rfl:: null:2 Lean.Parser.Term.app:2 .exact:2")
def UD:Lean.Syntax:=dec (wS ("first | "++wS (wS "( refine And.intro:: ? _ Lean.Parser.Term.syntheticHole:2 ? _ Lean.Parser.Term.syntheticHole:2 null:2 Lean.Parser.Term.app:2 .refine:2 <;> lia null:0 .optConfig:1 .lia:2 .«tactic_<;>_»:3"++" ) .paren:3")++" group:2"++rS "assumption .assumption:1"++rS "exact Nat.le_refl:: _ Lean.Parser.Term.hole:1 null:1 Lean.Parser.Term.app:2 .exact:2"++
 " | "++wS "( refine ( :: hygieneInfo:1 Lean.Parser.Term.hygienicLParen:2 ? _ Lean.Parser.Term.syntheticHole:2 @ ( :: hygieneInfo:1 Lean.Parser.Term.hygienicLParen:2 _ Lean.Parser.Term.hole:1 @ Nat:: null:1 ) Lean.Parser.Term.typeAscription:5 ≤ _ Lean.Parser.Term.hole:1 «term_≤_»:3 null:1 ) Lean.Parser.Term.typeAscription:5 .refine:2 ; simp + arith:: .posConfigItem:2 .configItem:1 null:1 .optConfig:1 null:0 only null:1 null:0 null:0 .simp:6 ; done .done:1 null:5 .tacticSeq1Indented:1 .tacticSeq:1 ) .paren:3"++" group:2"++aS "la"++aS "la1"++aS "la2"++aS "la3"++aS "la4"++
 " | "++wS "( simp + arith:: .posConfigItem:2 .configItem:1 null:1 .optConfig:1 null:0 only null:1 null:0 null:0 .simp:6 ; done .done:1 null:3 .tacticSeq1Indented:1 .tacticSeq:1 ) .paren:3"++" group:2"++
 " | "++wS "( simp + arith:: .posConfigItem:2 .configItem:1 null:1 .optConfig:1 null:0 only null:1 [ * .simpStar:1 null:1 ] null:3 null:0 .simp:6 ; done .done:1 null:3 .tacticSeq1Indented:1 .tacticSeq:1 ) .paren:3"++" group:2 null:11 .first:2"))
theorem an{a:Bool}(h:(a&&b)=true):a=true/\b=true:=Bool.and_eq_true_iff.mp h
theorem aV{a:Bool}(h:(a&&b)=true):a=true:=(an h).1
theorem cJ{a:Bool}(h:(a&&b)=true):b=true:=(an h).2
theorem dt[Decidable p](h:decide p=true):p:=of_decide_eq_true h
theorem di{α:Type _}{a b:α}(h:some a=some b):a=b:=Option.some.inj h
theorem cps(h:∀G:Prop,(p->G)->G):p:=h p id
set_option genCtorIdx true in
set_option genInjectivity true in
inductive V where
 |ah
 |none
 |bool (b:Bool)
 |int (i:Int)
 |str (s:String)
 |af (xs:List V)
 |aC (xs:List V)
 |cM (kvs:List (V×V))
 |obj (c:String) (kvs:List (String×V))
 |k8 (a b c:Int)
 |ref (n:Nat)
 |fn (n:Nat)
 deriving Inhabited
variable {xs:List V}{kvs:List (String×V)}
set_option genInjectivity true in
inductive MO where
 |dead
 |list (xs:List V)
 |dict (kvs:List (V×V))
 |inst (c:String) (kvs:List (String×V))
 deriving Inhabited
noncomputable abbrev H:=List MO
variable {Z:H}
set_option genCtorIdx true in
inductive Ax where
 |add|sub|mul|div|mod
 deriving DecidableEq
set_option genCtorIdx true in
inductive Mw where
 |eq|ne|lt|le|gt|ge|isin|xq|is|ni
 deriving DecidableEq
inductive X where
 |aa (i:Nat)
 |aI (v:V)
 |aA (k:Nat)
 |af (xs:List X)
 |bJ (xs:List X)
 |oj (xs:List X)
 |nQ (ks:List V) (vs:List X)
 |iZ (ks:List V) (vs:List X)
 |bin (o:Ax) (a b:X)
 |not (a:X)
 |kI (bT:Bool) (xs:List X)
 |cmp (o:Mw) (a b:X)
 |chain (a:X) (o:Mw) (b:X) (o':Mw) (c:X)
 |ite (c a b:X)
 |sub (a i:X)
 |slice (a:X) (lo hi:Option X)
 |attr (a:X) (n:String)
 |call (f:X) (args:List X)
 |len (a:X)
 |range (args:List X)
 |PD (isStr:Bool) (a:X)
 |toList (a:X)
 |Az (a:X)
 |min (a:X)
 |get (d k e:X)
 |append (l e:X)
 |pop (l:X)
 |update (d e:X)
 |comp (elt:X) (single:Bool) (ts:List Nat) (iter:X) (c:Option X)
 |new (pure:Bool) (c:String) (k:Nat) (args:List X)
 |r9 (a:X)
inductive S where
 |pass
 |cont
 |fail
 |expr (e:X)
 |ret (e:Option X)
 |cO (i:Nat) (e:X)
 |fM (is:List Nat) (e:X)
 |eW (a:X) (n:String) (e:X)
 |om (a i e:X)
 |aug (i:Nat) (o:Ax) (e:X)
 |sW (a:X) (n:String) (o:Ax) (e:X)
 |ite (c:X) (t e:List S)
 |while (c:X) (b:List S)
 |for (single:Bool) (ts:List Nat) (iter:X) (b:List S)
structure Fn where
 sX:Nat
 C2:Nat
 body:List S
set_option genCtorIdx true in
inductive Fl where
 |next
 |cont
 |ret (v:V)
noncomputable def QU:V->Option Unit
 |.none=>some ()
 |_=>Option.none
noncomputable def WW:V->Option Bool
 |.bool b=>some b
 |_=>Option.none
noncomputable def qb:V->Option Int
 |.int b=>some b
 |_=>Option.none
noncomputable def PF:V->Option String
 |.str b=>some b
 |_=>Option.none
noncomputable def MD:V->Option (List V)
 |.af b=>some b
 |_=>Option.none
noncomputable def Uq:V->Option (List V)
 |.aC b=>some b
 |_=>Option.none
noncomputable def allEq(f:V->V->Option Bool):List V->List V->Option Bool
 |[],aR=>some true
 |x::xs,l=>match l with
  |[]=>some true
  |y::ys=>(f x y).bind λa=>(allEq f xs ys).map (a&&·)
noncomputable def f6:Nat->V->V->Option Bool
 |0,aR,dm=>Option.none
 |n+1,x,y=>match x with
  |.none=>(QU y).map λY=>true
  |.bool a=>(WW y).map λb=>a==b
  |.int a=>(qb y).map λb=>decide (a=b)
  |.str a=>(PF y).map λb=>decide (a=b)
  |.af a=>(MD y).bind λb=>if a.length=b.length then allEq (f6 n) a b else Option.none
  |.aC a=>(Uq y).bind λb=>if a.length=b.length then allEq (f6 n) a b else some false
  |_=>Option.none
noncomputable abbrev eqv:=f6 6
noncomputable def isKey:V->Bool
 |.int aR=>true
 |.str aR=>true
 |_=>false
noncomputable def yD(n:Nat):Option MO->V
 |some (.list xs)=>.aC xs
 |some (.dict kvs)=>.cM kvs
 |_=>.ref n
noncomputable def cH(Z:H):V->V
 |.ref n=>yD n Z[n]?
 |v=>v
theorem jn(h:Z[n]?=some (.list xs)):cH Z (.ref n)=.aC xs:=congrArg (yD n) h
theorem gX{xs:List (V×V)}(h:Z[n]?=some (.dict xs)):cH Z (.ref n)=.cM xs:=congrArg (yD n) h
noncomputable def fY:List (V×V)->V->Option (Option V)
 |[],aR=>some Option.none
 |(k,v)::r,x=>(eqv k x).bind λb=>cond b (some (some v)) (fY r x)
noncomputable def putK:List (V×V)->V->V->Option (List (V×V))
 |[],x,y=>some [(x,y)]
 |(k,v)::r,x,y=>(eqv k x).bind λb=>cond b (some ((k,y)::r)) ((putK r x y).map ((k,v)::·))
noncomputable def xr:List (V×V)->List (V×V)->Option (List (V×V))
 |l,[]=>some l
 |l,(k,v)::r=>(putK l k v).bind λl'=>xr l' r
noncomputable def sY:List (String×V)->String->Option V
 |[],aR=>Option.none
 |(k,v)::r,x=>if k=x then some v else sY r x
noncomputable def dS:List (String×V)->String->V->List (String×V)
 |[],x,y=>[(x,y)]
 |(k,v)::r,x,y=>if k=x then(k,y)::r else(k,v)::dS r x y
noncomputable def IV:List V->V->Option Bool
 |[],aR=>some false
 |y::r,x=>(eqv y x).bind λa=>(IV r x).map (a||·)
noncomputable def lim:Nat:=16000000
noncomputable def AA(i:Int)(n:Nat):Nat:=if i<0 then(i+n).toNat else Nat.min i.toNat n
noncomputable def Zu(o:Option Int)(n:Nat):Nat:=match o with|some i=>AA i n|Option.none=>0
noncomputable def PG(o:Option Int)(n:Nat):Nat:=match o with|some i=>AA i n|Option.none=>n
noncomputable def dj{α:Type}(xs:List α)(lo hi:Option Int):List α:=(xs.take (PG hi xs.length)).drop (Zu lo xs.length)
noncomputable def idx{α:Type}(xs:List α)(i:Int):Option α:=
 if 0<=i then(if i<16000000 then xs[i.toNat]? else Option.none) else if -16000000<i/\0<=i+xs.length then xs[(i+xs.length).toNat]? else Option.none
noncomputable def IW(x y:V):Option V:=match x with
 |.int a=>(qb y).map λb=>.int (a+b)
 |.str a=>(PF y).bind λb=>if a.length+b.length<=1000 then some (.str (a++b)) else Option.none
 |.aC a=>(Uq y).bind λb=>if a.length+b.length<=1000 then some (.aC (a++b)) else Option.none
 |.af a=>(MD y).bind λb=>if a.length+b.length<=1000 then some (.af (a++b)) else Option.none
 |_=>Option.none
noncomputable def IX(o:Ax)(a b:Int):Option V:=match o with
 |.add=>some (.int (a+b))
 |.sub=>some (.int (a-b))
 |.mul=>if 0<=a/\a<1000 then some (.int (a*b)) else Option.none
 |.div=>if 0<b/\b<1000000 then some (.int (a / b)) else Option.none
 |.mod=>if 0<b then some (.int (a % b)) else Option.none
noncomputable def binop(o:Ax)(x y:V):Option V:=match o with
 |.add=>IW x y
 |o=>(qb x).bind λa=>(qb y).bind λb=>IX o a b
noncomputable def WX(o:Ax)(a:Int)(y:V):Option V:=(qb y).bind λb=>match o with
 |.add=>some (.int (a+b))
 |.sub=>some (.int (a-b))
 |_=>Option.none
noncomputable def sZ(x:V):V->Option Bool
 |.af ys=>if isKey x then IV ys x else Option.none
 |.aC ys=>if isKey x then IV ys x else Option.none
 |.cM kvs=>if isKey x then(fY kvs x).map Option.isSome else Option.none
 |.str t=>(PF x).map λs=> !(Builtin.Str.occurrences (Str.ofString t) (Str.ofString s) 0 (Str.ofString t).length 1).isEmpty
 |_=>Option.none
noncomputable def IY:V->Option Unit
 |.str aR=>Option.none
 |_=>some ()
noncomputable def oq:V->Option Bool
 |.ah=>Option.none
 |.none=>some true
 |_=>some false
noncomputable def AB(f:Int->Int->Bool)(a b:V):Option Bool:=(qb a).bind λi=>(qb b).map λj=>f i j
noncomputable def iO(o:Mw)(a b:V):Option Bool:=match o with
 |.eq=>eqv a b
 |.ne=>(eqv a b).map (! ·)
 |.lt=>AB (λa b=>decide (a<b)) a b
 |.le=>AB (λa b=>decide (a<=b)) a b
 |.gt=>AB (λa b=>decide (b<a)) a b
 |.ge=>AB (λa b=>decide (b<=a)) a b
 |.isin=>sZ a b
 |.xq=>(IY b).bind λY=>(sZ a b).map (! ·)
 |.is=>(QU b).bind λY=>oq a
 |.ni=>(QU b).bind λY=>(oq a).map (! ·)
noncomputable def cQ(x y:V):Option V:=match x with
 |.af xs=>(qb y).bind (idx xs)
 |.aC xs=>(qb y).bind (idx xs)
 |.str s=>(qb y).bind λi=>(idx s.toList i).map λc=>.str (String.ofList [c])
 |.cM kvs=>if isKey y then(fY kvs y).join else Option.none
 |_=>Option.none
noncomputable def QV(xs:List V):Option Int->Option Int->Option V
 |some a,o=>match o with
  |Option.none=>if 1<=a/\a<=xs.length/\xs.length<lim then some (.af (xs.drop a.toNat)) else Option.none
  |some aR=>Option.none
 |Option.none,o=>match o with
  |some a=>if a=1/\1<=xs.length/\xs.length<lim then some (.af (xs.take 1)) else Option.none
  |Option.none=>Option.none
noncomputable def gr(x:V)(a b:Option Int):Option V:=match x with
 |.af xs=>QV xs a b
 |.aC xs=>if xs.length<lim then some (.aC (dj xs a b)) else Option.none
 |.str s=>if s.length<lim then some (.str (String.ofList (dj s.toList a b))) else Option.none
 |_=>Option.none
noncomputable def ou:V->Option V
 |.af xs=>if xs.length<lim then some (.int xs.length) else Option.none
 |.aC xs=>if xs.length<lim then some (.int xs.length) else Option.none
 |.str s=>if s.length<lim then some (.int s.length) else Option.none
 |_=>Option.none
noncomputable def C3:V->Option Nat
 |.ref n=>some n
 |_=>Option.none
noncomputable def jq:Option MO->Option (List V)
 |some (.list xs)=>some xs
 |_=>Option.none
noncomputable def AD:Option MO->Option (List (V×V))
 |some (.dict xs)=>some xs
 |_=>Option.none
noncomputable def yE:Option MO->Option (String×List (String×V))
 |some (.inst c xs)=>some (c,xs)
 |_=>Option.none
noncomputable def dQ(Z:H)(x:V)(n:String):Option V:=match x with
 |.obj aR kvs=>sY kvs n
 |.ref i=>(yE Z[i]?).bind λp=>sY p.2 n
 |_=>Option.none
noncomputable def kJ(a:Int):Nat->List V
 |0=>[]
 |n+1=>.int a::kJ (a+1) n
noncomputable def jI(a:Int):Nat->List V
 |0=>[]
 |n+1=>.int a::jI (a-1) n
noncomputable def itemsOf:V->Option (List V)
 |.af xs=>some xs
 |.aC xs=>some xs
 |.k8 a b c=>if -16000000<=a/\a<=16000000/\-16000000<=b/\b<=16000000 then(if c=1 then some (kJ a (b-a).toNat) else if c= -1 then some (jI a (a-b).toNat) else Option.none) else Option.none
 |_=>Option.none
noncomputable def EA:List V->Option V
 |[]=>Option.none
 |a::r=>(qb a).bind λa=>match r with
  |[]=>some (.k8 0 a 1)
  |b::r=>(qb b).bind λb=>match r with
   |[]=>Option.none
   |c::r=>(qb c).bind λc=>match r with
    |[]=>if c= -1/\-16000000<=a/\a<=16000000/\-16000000<=b/\b<=16000000 then some (.k8 a b c) else Option.none
    |aR::dm=>Option.none
noncomputable def AE:List V->Option Int
 |[]=>Option.none
 |a::r=>(qb a).bind λa=>match r with
  |[]=>some a
  |aR::dm=>(AE r).map (Min.min a)
noncomputable def qc(ρ:List V):List Nat->List V->Option (List V)
 |[],l=>match l with
  |[]=>some ρ
  |aR::dm=>Option.none
 |i::is,l=>match l with
  |[]=>Option.none
  |v::vs=>qc (ρ.set i v) is vs
noncomputable def s8(single:Bool)(ts:List Nat)(ρ:List V)(v:V):Option (List V):=
 if single then qc ρ ts [v] else(MD v).bind λvs=>qc ρ ts vs
noncomputable def QW:List Nat->List V->List V
 |[],ρ=>ρ
 |i::is,ρ=>QW is (ρ.set i .ah)
noncomputable def aT{α:Type}(o:Option α)(Q:α->Prop):Prop:=match o with
 |some a=>Q a
 |Option.none=>False
noncomputable def isInt(v:V)(Q:Int->Prop):Prop:=match v with
 |.int i=>Q i
 |_=>False
noncomputable def isBool(v:V)(Q:Bool->Prop):Prop:=match v with
 |.bool i=>Q i
 |_=>False
noncomputable def isFn(v:V)(Q:Nat->Prop):Prop:=match v with
 |.fn i=>Q i
 |_=>False
noncomputable def isTup(v:V)(Q:List V->Prop):Prop:=match v with
 |.af i=>Q i
 |_=>False
noncomputable def EB(v:V)(Q:List V->Prop):Prop:=match v with
 |.aC i=>Q i
 |_=>False
noncomputable def EC(v:V)(Q:Prop):Prop:=match v with
 |.none=>Q
 |_=>False
noncomputable def WY:V->Option (List (V×V))
 |.cM b=>some b
 |_=>Option.none
noncomputable def nk(Z:H)(x:V):Bool:=(WY (cH Z x)).isSome
theorem mq{x:V}{kvs:List (V×V)}(h:cH Z x=.cM kvs):nk Z x=true:=by unfold nk;rw[h];rfl
noncomputable def kK(Z:H)(x:V):Bool:=((C3 x).bind λn=>jq Z[n]?).any λxs=>decide (xs.length<lim)
noncomputable def ED(isStr:Bool):V->Option Bool
 |.str aR=>some isStr
 |.af aR=>some !isStr
 |.none=>if isStr then Option.none else some false
 |.bool aR=>if isStr then Option.none else some false
 |.int aR=>if isStr then Option.none else some false
 |_=>Option.none
noncomputable def nq(x y:V):Option (Option V):=match x with
 |.cM kvs=>if isKey y then fY kvs y else Option.none
 |_=>Option.none
noncomputable abbrev CF:=Nat->List V->(V->H->Prop)->H->Prop
noncomputable def i0:List (V×V)->Bool
 |[]=>true
 |(.str aR,dm)::r=>i0 r
 |_=>false
noncomputable def s9(Z:H)(x:V):Option (V×H):=(C3 x).bind λn=>match jq Z[n]? with
 |some xs=>some (.aC xs,Z.set n .dead)
 |Option.none=>(AD Z[n]?).bind λkvs=>if i0 kvs=true then some (.cM kvs,Z.set n .dead) else Option.none
noncomputable def tu(Z:H)(v x:V):Option H:=(C3 x).bind λn=>(jq Z[n]?).bind λxs=>if xs.length<lim then some (Z.set n (.list (xs++[v]))) else Option.none
noncomputable def xu(Z:H)(x:V):Option (V×H):=(C3 x).bind λn=>(jq Z[n]?).bind λxs=>xs.getLast?.map λv=>(v,Z.set n (.list xs.dropLast))
noncomputable def AF(Z:H)(d x:V):Option H:=(C3 x).bind λn=>(C3 d).bind λm=>if m=n then Option.none else(AD Z[n]?).bind λkvs=>(AD Z[m]?).bind λr=>
 if kvs.length+r.length<=1000/\i0 kvs=true/\i0 r=true then(xr kvs r).map λk=>Z.set n (.dict k) else Option.none
noncomputable def ie(Z:H)(a:V)(n:String)(v:V):Option H:=(C3 a).bind λi=>(yE Z[i]?).bind λp=>if p.2.length<900 then some (Z.set i (.inst p.1 (dS p.2 n v))) else Option.none
noncomputable def tw(Z:H)(a i v:V):Option H:=(C3 a).bind λn=>match jq Z[n]? with
 |some xs=>(qb i).bind λk=>if 0<=k/\k<xs.length/\xs.length<lim then some (Z.set n (.list (xs.set k.toNat v))) else Option.none
 |Option.none=>(AD Z[n]?).bind λkvs=>if kvs.length<lim/\isKey i=true then(putK kvs i v).map λl=>Z.set n (.dict l) else Option.none
noncomputable def IZ(pure:Bool)(id:Nat)(Z:H):Option (V×H):=match pure with
 |false=>some (.ref id,Z)
 |true=>(yE Z[id]?).map λp=>(.obj p.1 p.2,Z.set id .dead)
section
variable {Z:H}{n:Nat}
theorem eK{c:String}{x:String}(h:Z[n]?=some (.inst c kvs)):dQ Z (.ref n) x=sY kvs x:=congrArg (λo=>(yE o).bind λp=>sY p.2 x) h
theorem Gw(h:Z[n]?=some (.list xs)):kK Z (.ref n)=decide (xs.length<lim):=by show Option.any _ (jq Z[n]?)=_;rw[h];rfl
theorem qd(h:Z[n]?=some (.list xs)):s9 Z (.ref n)=some (.aC xs,Z.set n .dead):=by show(match jq Z[n]? with|some xs=>_|Option.none=>_)=_;rw[h];rfl
theorem Gx{xs:List (V×V)}(h:Z[n]?=some (.dict xs))(hs:i0 xs=true):s9 Z (.ref n)=some (.cM xs,Z.set n .dead):=by show(match jq Z[n]? with|some xs=>_|Option.none=>_)=_;rw[h];exact if_pos hs
theorem Gy{v:V}(h:Z[n]?=some (.list xs))(hl:xs.length<lim):tu Z v (.ref n)=some (Z.set n (.list (xs++[v]))):=by show(jq Z[n]?).bind _=_;rw[h];exact if_pos hl
theorem xw{v:V}(h:Z[n]?=some (.list xs))(hl:xs.getLast?=some v):xu Z (.ref n)=some (v,Z.set n (.list xs.dropLast)):=by show(jq Z[n]?).bind _=_;rw[h];exact congrArg (Option.map λv=>(v,Z.set n (.list xs.dropLast))) hl
theorem Gz{c x:String}{v:V}(h:Z[n]?=some (.inst c kvs))(hl:kvs.length<900):ie Z (.ref n) x v=some (Z.set n (.inst c (dS kvs x v))):=by show(yE Z[n]?).bind _=_;rw[h];exact if_pos hl
theorem GA{k:Int}{v:V}(h:Z[n]?=some (.list xs))(hl:0<=k/\k<xs.length/\xs.length<lim):tw Z (.ref n) (.int k) v=some (Z.set n (.list (xs.set k.toNat v))):=by show(match jq Z[n]? with|some xs=>_|Option.none=>_)=_;rw[h];exact if_pos hl
theorem GC{xs l:List (V×V)}{k v:V}(h:Z[n]?=some (.dict xs))(hl:xs.length<lim/\isKey k=true)(e:putK xs k v=some l):tw Z (.ref n) k v=some (Z.set n (.dict l)):=by show(match jq Z[n]? with|some xs=>_|Option.none=>_)=_;rw[h];exact(if_pos hl).trans (congrArg (Option.map _) e)
theorem xx{c:String}(h:Z[n]?=some (.inst c kvs)):IZ true n Z=some (.obj c kvs,Z.set n .dead):=by show(yE Z[n]?).map _=_;rw[h];rfl
theorem xy{m:Nat}{kvs r k:List (V×V)}(ne:m≠n)(h:Z[n]?=some (.dict kvs))(h':Z[m]?=some (.dict r))(hl:kvs.length+r.length<=1000/\i0 kvs=true/\i0 r=true)(e:xr kvs r=some k):AF Z (.ref m) (.ref n)=some (Z.set n (.dict k)):=by
 show(if m=n then Option.none else(AD Z[n]?).bind _)=_;rw[if_neg ne,h,h'];exact(if_pos hl).trans (congrArg (Option.map _) e)
end
noncomputable def iP(UE C4:List V->(V->H->Prop)->H->Prop)(ME single:Bool)(ts:List Nat)(ρ:List V):List V->(List V->H->Prop)->H->Prop
 |[],Q,Z=>Q [] Z
 |v::vs,Q,Z=>aT (s8 single ts ρ v) λρ'=>
  if ME then C4 ρ' (λb Z=>isBool b λb=>
    if b then UE ρ' (λy Z=>iP UE C4 ME single ts ρ' vs (λys Z=>Q (y::ys) Z) Z) Z
    else iP UE C4 ME single ts ρ' vs Q Z) Z
  else UE ρ' (λy Z=>iP UE C4 ME single ts ρ' vs (λys Z=>Q (y::ys) Z) Z) Z
mutual
noncomputable def b8(cf:CF)(gt:List V):X->List V->(V->H->Prop)->H->Prop
 |.aa i,ρ,Q,Z=>aT ρ[i]? λv=>match v with
  |.ah=>False
  |v=>Q v Z
 |.aI v,aR,Q,Z=>Q v Z
 |.aA k,aR,Q,Z=>aT gt[k]? λv=>Q v Z
 |.af xs,ρ,Q,Z=>fN cf gt xs ρ (λvs Z=>Q (.af vs) Z) Z
 |.bJ xs,ρ,Q,Z=>fN cf gt xs ρ (λvs Z=>Q (.aC vs) Z) Z
 |.oj xs,ρ,Q,Z=>fN cf gt xs ρ (λvs Z=>Q (.ref Z.length) (Z++[.list vs])) Z
 |.nQ ks xs,ρ,Q,Z=>fN cf gt xs ρ (λvs Z=>Q (.cM (ks.zip vs)) Z) Z
 |.iZ ks xs,ρ,Q,Z=>fN cf gt xs ρ (λvs Z=>Q (.ref Z.length) (Z++[.dict (ks.zip vs)])) Z
 |.bin o a b,ρ,Q,Z=>b8 cf gt a ρ (λx Z=>b8 cf gt b ρ (λy Z=>aT (binop o x y) λz=>Q z Z) Z) Z
 |.not a,ρ,Q,Z=>b8 cf gt a ρ (λx Z=>isBool x λb=>Q (.bool !b) Z) Z
 |.kI bT xs,ρ,Q,Z=>QX cf gt bT xs ρ Q Z
 |.cmp o a b,ρ,Q,Z=>b8 cf gt a ρ (λx Z=>b8 cf gt b ρ (λy Z=>aT (iO o (cH Z x) (cH Z y)) λz=>Q (.bool z) Z) Z) Z
 |.chain a o b o' c,ρ,Q,Z=>b8 cf gt a ρ (λx Z=>b8 cf gt b ρ (λy Z=>aT (iO o x y) λz=>
   if z then b8 cf gt c ρ (λu Z=>aT (iO o' y u) λz=>Q (.bool z) Z) Z else Q (.bool false) Z) Z) Z
 |.ite c a b,ρ,Q,Z=>b8 cf gt c ρ (λx Z=>isBool x λt=>if t then b8 cf gt a ρ Q Z else b8 cf gt b ρ Q Z) Z
 |.sub a i,ρ,Q,Z=>b8 cf gt a ρ (λx Z=>b8 cf gt i ρ (λy Z=>aT (cQ (cH Z x) y) λz=>Q z Z) Z) Z
 |.slice a lo hi,ρ,Q,Z=>b8 cf gt a ρ (λx Z=>Xx cf gt lo ρ (λl Z=>Xx cf gt hi ρ (λh Z=>aT (gr x l h) λz=>Q z Z) Z) Z) Z
 |.attr a n,ρ,Q,Z=>b8 cf gt a ρ (λx Z=>aT (dQ Z x n) λz=>Q z Z) Z
 |.call f xs,ρ,Q,Z=>b8 cf gt f ρ (λg Z=>isFn g λk=>fN cf gt xs ρ (λvs Z=>cf k vs Q Z) Z) Z
 |.len a,ρ,Q,Z=>b8 cf gt a ρ (λx Z=>aT (ou (cH Z x)) λz=>Q z Z) Z
 |.range xs,ρ,Q,Z=>fN cf gt xs ρ (λvs Z=>aT (EA vs) λz=>Q z Z) Z
 |.PD isStr a,ρ,Q,Z=>b8 cf gt a ρ (λx Z=>aT (ED isStr x) λb=>Q (.bool b) Z) Z
 |.toList a,ρ,Q,Z=>b8 cf gt a ρ (λx Z=>isTup x λxs=>if xs.length<lim then Q (.aC xs) Z else False) Z
 |.Az a,ρ,Q,Z=>b8 cf gt a ρ (λx Z=>EB (cH Z x) λxs=>if xs.length<lim then Q (.af xs) Z else False) Z
 |.min a,ρ,Q,Z=>b8 cf gt a ρ (λx Z=>isTup x λxs=>aT (AE xs) λz=>Q (.int z) Z) Z
 |.get d k e,ρ,Q,Z=>b8 cf gt d ρ (λx Z=>if nk Z x then b8 cf gt k ρ (λy Z=>b8 cf gt e ρ (λz Z=>aT (nq (cH Z x) y) λr=>Q (r.getD z) Z) Z) Z else False) Z
 |.append l e,ρ,Q,Z=>b8 cf gt l ρ (λx Z=>if kK Z x then b8 cf gt e ρ (λv Z=>aT (tu Z v x) λZ=>Q .none Z) Z else False) Z
 |.pop l,ρ,Q,Z=>b8 cf gt l ρ (λx Z=>if kK Z x then aT (xu Z x) λr=>Q r.1 r.2 else False) Z
 |.update d e,ρ,Q,Z=>b8 cf gt d ρ (λx Z=>if nk Z x then b8 cf gt e ρ (λv Z=>aT (AF Z v x) λZ=>Q .none Z) Z else False) Z
 |.comp elt single ts iter c,ρ,Q,Z=>b8 cf gt iter ρ (λit Z=>aT (itemsOf it) λvs=>if vs.length<lim then
   iP (λρ Q Z=>b8 cf gt elt ρ Q Z) (λρ Q Z=>Mx cf gt c ρ Q Z) c.isSome single ts (QW ts ρ) vs (λys Z=>Q (.aC ys) Z) Z else False) Z
 |.new p c k xs,ρ,Q,Z=>fN cf gt xs ρ (λvs Z=>cf k (.ref Z.length::vs) (λr Z'=>EC r (aT (IZ p Z.length Z') λr=>Q r.1 r.2)) (Z++[.inst c []])) Z
 |.r9 a,ρ,Q,Z=>b8 cf gt a ρ (λx Z=>aT (s9 Z x) λr=>Q r.1 r.2) Z
noncomputable def fN(cf:CF)(gt:List V):List X->List V->(List V->H->Prop)->H->Prop
 |[],aR,Q,Z=>Q [] Z
 |x::xs,ρ,Q,Z=>b8 cf gt x ρ (λv Z=>fN cf gt xs ρ (λvs Z=>Q (v::vs) Z) Z) Z
noncomputable def QX(cf:CF)(gt:List V)(bT:Bool):List X->List V->(V->H->Prop)->H->Prop
 |[],aR,Q,Z=>Q (.bool bT) Z
 |x::xs,ρ,Q,Z=>b8 cf gt x ρ (λv Z=>isBool v λb=>if b=bT then QX cf gt bT xs ρ Q Z else Q (.bool b) Z) Z
noncomputable def Xx(cf:CF)(gt:List V):Option X->List V->(Option Int->H->Prop)->H->Prop
 |none,aR,Q,Z=>Q Option.none Z
 |some x,ρ,Q,Z=>b8 cf gt x ρ (λv Z=>isInt v λi=>Q (some i) Z) Z
noncomputable def Mx(cf:CF)(gt:List V):Option X->List V->(V->H->Prop)->H->Prop
 |none,aR,Q,Z=>Q (.bool true) Z
 |some x,ρ,Q,Z=>b8 cf gt x ρ Q Z
end
noncomputable def forL(Body:List V->(Fl->List V->H->Prop)->H->Prop)(single:Bool)(ts:List Nat):List V->List V->(Fl->List V->H->Prop)->H->Prop
 |[],ρ,Q,Z=>Q .next ρ Z
 |v::vs,ρ,Q,Z=>aT (s8 single ts ρ v) λρ=>Body ρ (λfl ρ Z=>match fl with
  |.ret r=>Q (.ret r) ρ Z
  |_=>forL Body single ts vs ρ Q Z) Z
noncomputable def jJ(C4:List V->(V->H->Prop)->H->Prop)(Body:List V->(Fl->List V->H->Prop)->H->Prop):Nat->List V->(Fl->List V->H->Prop)->H->Prop
 |0,aR,dm,p8=>False
 |k+1,ρ,Q,Z=>C4 ρ (λb Z=>isBool b λb=>if b then Body ρ (λfl ρ Z=>match fl with
  |.ret r=>Q (.ret r) ρ Z
  |_=>jJ C4 Body k ρ Q Z) Z else Q .next ρ Z) Z
noncomputable def kE(Q:Fl->List V->H->Prop)(ρ:List V):V->H->Prop:=λY Z=>Q .next ρ Z
noncomputable def kR(Q:Fl->List V->H->Prop)(ρ:List V):V->H->Prop:=λv Z=>Q (.ret v) ρ Z
noncomputable def kA(Q:Fl->List V->H->Prop)(ρ:List V)(i:Nat):V->H->Prop:=λv Z=>Q .next (ρ.set i v) Z
noncomputable def kS(B:List V->(Fl->List V->H->Prop)->H->Prop)(Q:Fl->List V->H->Prop):Fl->List V->H->Prop:=λfl ρ Z=>match fl with
 |.next=>B ρ Q Z
 |fl=>Q fl ρ Z
noncomputable def kF(Q:V->H->Prop):Fl->List V->H->Prop:=λfl Y Z=>match fl with
 |.next=>Q .none Z
 |.ret v=>Q v Z
 |.cont=>False
mutual
noncomputable def wpS(cf:CF)(gt:List V):S->List V->(Fl->List V->H->Prop)->H->Prop
 |.pass,ρ,Q,Z=>Q .next ρ Z
 |.cont,ρ,Q,Z=>Q .cont ρ Z
 |.fail,aR,dm,p8=>False
 |.expr e,ρ,Q,Z=>b8 cf gt e ρ (kE Q ρ) Z
 |.ret e,ρ,Q,Z=>match e with
  |none=>Q (.ret .none) ρ Z
  |some e=>b8 cf gt e ρ (kR Q ρ) Z
 |.cO i e,ρ,Q,Z=>b8 cf gt e ρ (kA Q ρ i) Z
 |.fM is e,ρ,Q,Z=>b8 cf gt e ρ (λv Z=>aT (s8 false is ρ v) λρ=>Q .next ρ Z) Z
 |.eW a n e,ρ,Q,Z=>b8 cf gt e ρ (λv Z=>b8 cf gt a ρ (λx Z=>aT (ie Z x n v) λZ=>Q .next ρ Z) Z) Z
 |.om a i e,ρ,Q,Z=>b8 cf gt e ρ (λv Z=>b8 cf gt a ρ (λx Z=>b8 cf gt i ρ (λk Z=>aT (tw Z x k v) λZ=>Q .next ρ Z) Z) Z) Z
 |.aug i o e,ρ,Q,Z=>aT ρ[i]? λold=>isInt old λold=>b8 cf gt e ρ (λv Z=>aT (WX o old v) λz=>Q .next (ρ.set i z) Z) Z
 |.sW a n o e,ρ,Q,Z=>b8 cf gt a ρ (λx Z=>aT (dQ Z x n) λold=>isInt old λold=>b8 cf gt e ρ (λv Z=>aT (WX o old v) λz=>aT (ie Z x n z) λZ=>Q .next ρ Z) Z) Z
 |.ite c t e,ρ,Q,Z=>b8 cf gt c ρ (λb Z=>isBool b λb=>if b then dU cf gt t ρ Q Z else dU cf gt e ρ Q Z) Z
 |.while c b,ρ,Q,Z=>∃k,jJ (λρ Q Z=>b8 cf gt c ρ Q Z) (λρ Q Z=>dU cf gt b ρ Q Z) k ρ Q Z
 |.for single ts it b,ρ,Q,Z=>b8 cf gt it ρ (λv Z=>aT (itemsOf v) λvs=>forL (λρ Q Z=>dU cf gt b ρ Q Z) single ts vs ρ Q Z) Z
noncomputable def dU(cf:CF)(gt:List V):List S->List V->(Fl->List V->H->Prop)->H->Prop
 |[],ρ,Q,Z=>Q .next ρ Z
 |s::r,ρ,Q,Z=>wpS cf gt s ρ (kS (dU cf gt r) Q) Z
end
noncomputable def MF(cf:CF)(gt:List V)(f:Fn)(args:List V)(Q:V->H->Prop)(Z:H):Prop:=
 if args.length=f.sX then dU cf gt f.body (args++List.replicate f.C2 .ah) (kF Q) Z else False
noncomputable def aq(ft:List Fn)(gt:List V):Nat->CF
 |0=>λY Y Y Y=>False
 |n+1=>λk args Q Z=>aT ft[k]? λf=>MF (aq ft gt n) gt f args Q Z
noncomputable abbrev X.i(k:Int):X:=.aI (.int k)
noncomputable abbrev X.s(t:String):X:=.aI (.str t)
noncomputable abbrev X.k(f:Nat)(as:List X):X:=.call (.aA f) as
noncomputable def jr:Fn:=⟨1,1,[.ite (.cmp .ne (.slice (.aa 0) none (some (.i 6))) (.s "main::")) [.ret (some (.aI (.bool false)))] [],.cO 1 (.slice (.aa 0) (some (.i 6)) none),.ite (.cmp .isin (.aa 1) (.aA 132)) [.ret (some (.aI (.bool true)))] [],.ret (some (.kI true [.cmp .ne (.aa 1) (.s ""),.cmp .isin (.sub (.aa 1) (.i 0)) (.s "123456789")]))]⟩
noncomputable def AG:Fn:=⟨1,1,[.ite (.cmp .xq (.sub (.aa 0) (.i 0)) (.aA 134)) [.fail] [],.cO 1 (.sub (.aA 134) (.sub (.aa 0) (.i 0))),.ite (.cmp .ne (.len (.aa 0)) (.bin .add (.i 1) (.len (.sub (.aa 1) (.i 2))))) [.fail] [],.ret (some (.aa 1))]⟩
noncomputable def yF:Fn:=⟨1,4,[.fM [1,2,3] (.k 1 [.aa 0]),.for true [4] (.range [.len (.aa 3)]) [.ite (.cmp .eq (.sub (.aa 3) (.aa 4)) (.s "n")) [.aug 1 .add (.sub (.aa 0) (.bin .add (.aa 4) (.i 1)))] [.ite (.kI true [.cmp .eq (.sub (.aa 3) (.aa 4)) (.s "w"),.cmp .eq (.sub (.aa 0) (.bin .add (.aa 4) (.i 1))) (.aA 133)]) [.cO 2 (.i 0)] [.ite (.kI true [.cmp .eq (.sub (.aa 3) (.aa 4)) (.s "s"),.cmp .ne (.sub (.aa 0) (.bin .add (.aa 4) (.i 1))) (.aA 133)]) [.aug 1 .add (.i 1)] []]]],.ret (some (.af [.aa 1,.aa 2]))]⟩
noncomputable def AH:Fn:=⟨1,2,[.cO 1 (.sub (.k 1 [.aa 0]) (.i 2)),.ret (some (.comp (.sub (.aa 0) (.bin .add (.aa 2) (.i 1))) true [2] (.range [.len (.aa 1)]) (some (.cmp .eq (.sub (.aa 1) (.aa 2)) (.s "j")))))]⟩
noncomputable def nt:Fn:=⟨2,4,[.cO 2 (.sub (.k 1 [.aa 0]) (.i 2)),.cO 3 (.oj [.sub (.aa 0) (.i 0)]),.cO 4 (.i 0),.for true [5] (.range [.len (.aa 2)]) [.ite (.cmp .eq (.sub (.aa 2) (.aa 5)) (.s "j")) [.expr (.append (.aa 3) (.sub (.aa 1) (.aa 4))),.aug 4 .add (.i 1)] [.expr (.append (.aa 3) (.sub (.aa 0) (.bin .add (.aa 5) (.i 1))))]],.ret (some (.Az (.aa 3)))]⟩
noncomputable def C5:Fn:=⟨1,0,[.ret (some (.cmp .xq (.sub (.aa 0) (.i 0)) (.aA 135)))]⟩
noncomputable def i6:Fn:=⟨1,5,[.fM [1,2] (.k 2 [.aa 0]),.cO 3 (.bin .sub (.aa 2) (.aa 1)),.cO 4 (.oj []),.ite (.k 5 [.aa 0]) [.expr (.append (.aa 4) (.af [.i (-1),.aa 3]))] [],.for true [5] (.k 3 [.aa 0]) [.expr (.append (.aa 4) (.af [.aa 5,.bin .add (.aa 3) (.get (.aA 136) (.sub (.aa 0) (.i 0)) (.i 0))]))],.ret (some (.r9 (.aa 4)))]⟩
noncomputable def QY:Fn:=⟨2,2,[.fM [2,3] (.k 2 [.aa 1]),.expr (.append (.attr (.aa 0) "rows") (.aa 1)),.sW (.aa 0) "height" .add (.bin .sub (.aa 3) (.aa 2))]⟩
noncomputable def AI:Fn:=⟨1,0,[.expr (.append (.attr (.aa 0) "marks") (.i (-1))),.ret (some (.bin .sub (.len (.attr (.aa 0) "marks")) (.i 1)))]⟩
noncomputable def AJ:Fn:=⟨3,0,[.om (.attr (.aa 0) "marks") (.aa 1) (.len (.attr (.aa 0) "rows")),.eW (.aa 0) "height" (.aa 2)]⟩
noncomputable def gK:Fn:=⟨1,4,[.cO 1 (.oj []),.for true [2] (.r9 (.attr (.aa 0) "rows")) [.cO 3 (.k 4 [.aa 2,.comp (.sub (.attr (.aa 0) "marks") (.aa 4)) true [4] (.k 11 [.aa 2]) none]),.expr (.append (.aa 1) (.aa 3))],.ret (some (.r9 (.aa 1)))]⟩
noncomputable def vV:Fn:=⟨1,0,[.ite (.cmp .eq (.sub (.aa 0) (.i 0)) (.s "loop")) [.ret (some (.toList (.slice (.aa 0) (some (.i 2)) none)))] [],.ite (.cmp .isin (.sub (.aa 0) (.i 0)) (.af [.s "jump",.s "iffalse",.s "iftrue",.s "ifdef",.s "orjump",.s "andjump",.s "dorjump",.s "bywant",.s "next"])) [.ret (some (.toList (.slice (.aa 0) (some (.i 1)) none)))] [],.ret (some (.bJ []))]⟩
noncomputable def nR:Fn:=⟨3,1,[.cO 3 (.sub (.attr (.aa 0) "tables") (.s "nodes")),.ite (.cmp .isin (.sub (.aa 1) (.i 0)) (.aa 3)) [.expr (.call (.sub (.aa 3) (.sub (.aa 1) (.i 0))) [.aa 0,.aa 1,.aa 2])] [.expr (.k 15 [.aa 0,.s "no such expression",.aa 2])]]⟩
noncomputable def nu:Fn:=⟨2,0,[.expr (.k 12 [.aa 0,.aa 1,.aA 138])]⟩
noncomputable def ow:Fn:=⟨2,0,[.expr (.k 12 [.aa 0,.aa 1,.aA 139])]⟩
noncomputable def tB:Fn:=⟨3,0,[.expr (.k 7 [.aa 0,.af [.s "refuse",.aa 1]]),.ite (.cmp .eq (.aa 2) (.aA 137)) [.expr (.k 7 [.aa 0,.af [.s "drop"]])] []]⟩
noncomputable def vW:Fn:=⟨2,0,[.ite (.cmp .eq (.aa 1) (.aA 138)) [.expr (.k 7 [.aa 0,.af [.s "const",.aI .none]])] [.ite (.cmp .eq (.aa 1) (.aA 139)) [.expr (.k 7 [.aa 0,.af [.s "empty"]])] []]]⟩
noncomputable def tC:Fn:=⟨2,0,[.ite (.cmp .eq (.aa 1) (.aA 139)) [.expr (.k 7 [.aa 0,.af [.s "wrap"]])] [.ite (.cmp .eq (.aa 1) (.aA 137)) [.expr (.k 7 [.aa 0,.af [.s "drop"]])] []]]⟩
noncomputable def rI:Fn:=⟨2,0,[.ite (.cmp .eq (.aa 1) (.aA 139)) [.expr (.k 7 [.aa 0,.af [.s "wrap"]]),.ret none] [],.expr (.k 7 [.aa 0,.af [.s "fetch"]]),.expr (.k 17 [.aa 0,.aa 1])]⟩
noncomputable def vX:Fn:=⟨2,0,[.ite (.cmp .eq (.aa 1) (.aA 139)) [.ret none] [],.expr (.k 7 [.aa 0,.af [.s "final"]]),.expr (.k 17 [.aa 0,.aa 1])]⟩
noncomputable def nS:Fn:=⟨2,1,[.cO 2 (.sub (.attr (.aa 0) "tables") (.s "lvs")),.ite (.cmp .isin (.sub (.aa 1) (.i 0)) (.aa 2)) [.expr (.call (.sub (.aa 2) (.sub (.aa 1) (.i 0))) [.aa 0,.aa 1])] [.expr (.k 7 [.aa 0,.af [.s "refuse",.s "Can't modify what stands here"]])]]⟩
noncomputable def tD:Fn:=⟨3,0,[.expr (.k 7 [.aa 0,.af [.s "const",.sub (.aa 1) (.i 1)]]),.expr (.k 17 [.aa 0,.aa 2])]⟩
noncomputable def yG:Fn:=⟨3,0,[.expr (.k 7 [.aa 0,.af [.s "const",.aI .none]]),.expr (.k 17 [.aa 0,.aa 2])]⟩
noncomputable def vY:Fn:=⟨3,0,[.expr (.k 20 [.aa 0,.aa 1]),.expr (.k 18 [.aa 0,.aa 2])]⟩
noncomputable def nT:Fn:=⟨3,0,[.ite (.k 0 [.sub (.aa 1) (.i 1)]) [.expr (.k 7 [.aa 0,.af [.s "matchvar",.sub (.aa 1) (.i 1)]]),.expr (.k 17 [.aa 0,.aa 2])] [.expr (.k 23 [.aa 0,.aa 1,.aa 2])]]⟩
noncomputable def qe:Fn:=⟨3,0,[.expr (.k 7 [.aa 0,.af [.s "wanted"]]),.expr (.k 17 [.aa 0,.aa 2])]⟩
noncomputable def vZ:Fn:=⟨3,1,[.expr (.k 7 [.aa 0,.af [.s "const",.s ""]]),.for true [3] (.sub (.aa 1) (.i 1)) [.ite (.cmp .isin (.sub (.aa 3) (.i 0)) (.aA 140)) [.expr (.k 14 [.aa 0,.aa 3]),.expr (.k 7 [.aa 0,.af [.s "joinlist"]])] [.expr (.k 13 [.aa 0,.aa 3])],.expr (.k 7 [.aa 0,.af [.s "bin",.s "."]])],.expr (.k 17 [.aa 0,.aa 2])]⟩
noncomputable def qf:Fn:=⟨3,0,[.expr (.k 13 [.aa 0,.sub (.aa 1) (.i 1)]),.expr (.k 7 [.aa 0,.af [.s "text"]]),.expr (.k 17 [.aa 0,.aa 2])]⟩
noncomputable def C6:Fn:=⟨3,0,[.expr (.k 13 [.aa 0,.sub (.aa 1) (.i 2)]),.expr (.k 13 [.aa 0,.sub (.aa 1) (.i 3)]),.expr (.k 7 [.aa 0,.af [.s "bin",.sub (.aa 1) (.i 1)]]),.expr (.k 17 [.aa 0,.aa 2])]⟩
noncomputable def GD:Fn:=⟨3,0,[.expr (.k 13 [.aa 0,.sub (.aa 1) (.i 2)]),.expr (.k 7 [.aa 0,.af [.s "un",.sub (.aa 1) (.i 1)]]),.expr (.k 17 [.aa 0,.aa 2])]⟩
noncomputable def C7:Fn:=⟨3,0,[.expr (.k 13 [.aa 0,.sub (.aa 1) (.i 1)]),.expr (.k 13 [.aa 0,.sub (.aa 1) (.i 2)]),.expr (.k 7 [.aa 0,.af [.s "xor"]]),.expr (.k 17 [.aa 0,.aa 2])]⟩
noncomputable def v7:Fn:=⟨3,2,[.expr (.k 13 [.aa 0,.sub (.aa 1) (.i 1)]),.cO 3 (.k 8 [.aa 0]),.ite (.cmp .eq (.aa 2) (.aA 137)) [.expr (.k 7 [.aa 0,.af [.sub (.nQ [.str "and",.str "or",.str "dor"] [.s "iffalse",.s "iftrue",.s "ifdef"]) (.sub (.aa 1) (.i 0)),.aa 3]]),.expr (.k 12 [.aa 0,.sub (.aa 1) (.i 2),.aA 137]),.expr (.k 9 [.aa 0,.aa 3,.attr (.aa 0) "height"]),.ret none] [],.cO 4 (.ite (.cmp .eq (.aa 2) (.aA 139)) (.k 8 [.aa 0]) (.aa 3)),.expr (.k 7 [.aa 0,.af [.sub (.nQ [.str "and",.str "or",.str "dor"] [.s "andjump",.s "orjump",.s "dorjump"]) (.sub (.aa 1) (.i 0)),.aa 4]]),.expr (.k 12 [.aa 0,.sub (.aa 1) (.i 2),.aa 2]),.ite (.cmp .eq (.aa 2) (.aA 139)) [.expr (.k 7 [.aa 0,.af [.s "jump",.aa 3]]),.expr (.k 9 [.aa 0,.aa 4,.attr (.aa 0) "height"]),.expr (.k 7 [.aa 0,.af [.s "wrap"]])] [],.expr (.k 9 [.aa 0,.aa 3,.attr (.aa 0) "height"])]⟩
noncomputable def AK:Fn:=⟨3,3,[.fM [3,4] (.af [.k 8 [.aa 0],.k 8 [.aa 0]]),.expr (.k 13 [.aa 0,.sub (.aa 1) (.i 1)]),.expr (.k 7 [.aa 0,.af [.s "iffalse",.aa 3]]),.cO 5 (.attr (.aa 0) "height"),.expr (.k 12 [.aa 0,.sub (.aa 1) (.i 2),.aa 2]),.expr (.k 7 [.aa 0,.af [.s "jump",.aa 4]]),.expr (.k 9 [.aa 0,.aa 3,.aa 5]),.expr (.k 12 [.aa 0,.sub (.aa 1) (.i 3),.aa 2]),.expr (.k 9 [.aa 0,.aa 4,.attr (.aa 0) "height"])]⟩
noncomputable def AL:Fn:=⟨3,1,[.ite (.cmp .eq (.aa 2) (.aA 139)) [.for true [3] (.sub (.aa 1) (.i 1)) [.expr (.k 14 [.aa 0,.aa 3])],.expr (.k 7 [.aa 0,.af [.s "append",.len (.sub (.aa 1) (.i 1))]]),.ret none] [],.ite (.cmp .eq (.sub (.aa 1) (.i 1)) (.bJ [])) [.expr (.k 16 [.aa 0,.aa 2]),.ret none] [],.for true [3] (.slice (.sub (.aa 1) (.i 1)) none (some (.i (-1)))) [.expr (.k 12 [.aa 0,.aa 3,.aA 137])],.expr (.k 12 [.aa 0,.sub (.sub (.aa 1) (.i 1)) (.i (-1)),.aa 2])]⟩
noncomputable def yH:Fn:=⟨3,0,[.expr (.k 13 [.aa 0,.sub (.aa 1) (.i 1)]),.expr (.k 13 [.aa 0,.sub (.aa 1) (.i 2)]),.ite (.cmp .eq (.aa 2) (.aA 138)) [.expr (.k 7 [.aa 0,.af [.s "drop"]]),.expr (.k 7 [.aa 0,.af [.s "drop"]]),.expr (.k 7 [.aa 0,.af [.s "refuse",.s "a flip-flop is left out"]]),.ret none] [],.expr (.k 7 [.aa 0,.af [.s "range"]]),.expr (.k 19 [.aa 0,.aa 2])]⟩
noncomputable def v8:Fn:=⟨3,0,[.ite (.cmp .eq (.aa 2) (.aA 139)) [.expr (.k 14 [.aa 0,.sub (.aa 1) (.i 1)]),.expr (.k 7 [.aa 0,.af [.s "copy"]]),.expr (.k 13 [.aa 0,.sub (.aa 1) (.i 2)]),.expr (.k 7 [.aa 0,.af [.s "repeat"]]),.ret none] [],.expr (.k 13 [.aa 0,.sub (.aa 1) (.i 1)]),.expr (.k 13 [.aa 0,.sub (.aa 1) (.i 2)]),.expr (.k 7 [.aa 0,.af [.s "bin",.s "x"]]),.expr (.k 17 [.aa 0,.aa 2])]⟩
noncomputable def v9:Fn:=⟨3,0,[.expr (.k 14 [.aa 0,.sub (.aa 1) (.i 1)]),.expr (.k 14 [.aa 0,.sub (.aa 1) (.i 2)]),.expr (.k 7 [.aa 0,.af [.s "lslice"]]),.expr (.k 19 [.aa 0,.aa 2])]⟩
noncomputable def yI:Fn:=⟨0,0,[.ret (some (.iZ [.str "undef",.str "num",.str "str",.str "interp",.str "stringify",.str "pads",.str "mys",.str "globs",.str "wantarray",.str "bin",.str "un",.str "and",.str "or",.str "dor",.str "xor",.str "cond",.str "list",.str "range",.str "repeat",.str "lslice"] [.aA 22,.aA 21,.aA 21,.aA 26,.aA 27,.aA 23,.aA 23,.aA 24,.aA 25,.aA 28,.aA 29,.aA 31,.aA 31,.aA 31,.aA 30,.aA 32,.aA 33,.aA 34,.aA 35,.aA 36]))]⟩
noncomputable def rJ:Fn:=⟨1,0,[.expr (.k 7 [.aa 0,.af [.s "enter"]]),.sW (.aa 0) "scopes" .add (.i 1)]⟩
noncomputable def wc:Fn:=⟨1,0,[.expr (.k 7 [.aa 0,.af [.s "leave"]]),.sW (.aa 0) "scopes" .sub (.i 1)]⟩
noncomputable def rK:Fn:=⟨1,0,[.expr (.k 7 [.aa 0,.af [.s "begin"]]),.sW (.aa 0) "starts" .add (.i 1)]⟩
noncomputable def wh:Fn:=⟨2,0,[.expr (.k 7 [.aa 0,.af [.aa 1]]),.sW (.aa 0) "starts" .sub (.i 1)]⟩
noncomputable def iQ:Fn:=⟨3,1,[.cO 3 (.sub (.attr (.aa 0) "tables") (.s "statements")),.ite (.cmp .eq (.aa 2) (.aA 137)) [.expr (.k 40 [.aa 0])] [],.ite (.cmp .isin (.sub (.aa 1) (.i 0)) (.aa 3)) [.expr (.call (.sub (.aa 3) (.sub (.aa 1) (.i 0))) [.aa 0,.aa 1,.aa 2])] [.expr (.k 15 [.aa 0,.s "no such statement",.aa 2])],.ite (.cmp .eq (.aa 2) (.aA 137)) [.expr (.k 41 [.aa 0,.s "settle"])] []]⟩
noncomputable def dR:Fn:=⟨3,1,[.ite (.cmp .eq (.sub (.aa 1) (.i 1)) (.bJ [])) [.expr (.k 16 [.aa 0,.aa 2])] [],.for true [3] (.range [.len (.sub (.aa 1) (.i 1))]) [.expr (.k 42 [.aa 0,.sub (.sub (.aa 1) (.i 1)) (.aa 3),.ite (.cmp .eq (.aa 3) (.bin .sub (.len (.sub (.aa 1) (.i 1))) (.i 1))) (.aa 2) (.aA 137)])]]⟩
noncomputable def nv:Fn:=⟨3,0,[.expr (.k 38 [.aa 0]),.expr (.k 43 [.aa 0,.aa 1,.aa 2]),.expr (.k 39 [.aa 0])]⟩
noncomputable def yJ:Fn:=⟨3,0,[.expr (.k 7 [.aa 0,.af [.s "line",.sub (.aa 1) (.i 1)]]),.expr (.k 12 [.aa 0,.sub (.aa 1) (.i 2),.aa 2])]⟩
noncomputable def C8:Fn:=⟨3,7,[.expr (.k 38 [.aa 0]),.cO 3 (.attr (.aa 0) "height"),.cO 4 (.k 8 [.aa 0]),.for true [5] (.range [.len (.sub (.aa 1) (.i 1))]) [.fM [6,7] (.sub (.sub (.aa 1) (.i 1)) (.aa 5)),.cO 8 (.k 8 [.aa 0]),.cO 9 (.kI true [.cmp .ne (.aa 2) (.aA 137),.cmp .is (.sub (.aa 1) (.i 2)) (.aI .none),.cmp .eq (.aa 5) (.bin .sub (.len (.sub (.aa 1) (.i 1))) (.i 1))]),.expr (.k 13 [.aa 0,.aa 6]),.ite (.aa 9) [.expr (.k 7 [.aa 0,.af [.s "dup"]])] [],.expr (.k 7 [.aa 0,.af [.s "iffalse",.aa 8]]),.ite (.aa 9) [.expr (.k 7 [.aa 0,.af [.s "drop"]])] [],.expr (.k 44 [.aa 0,.aa 7,.aa 2]),.expr (.k 7 [.aa 0,.af [.s "jump",.aa 4]]),.expr (.k 9 [.aa 0,.aa 8,.ite (.aa 9) (.bin .add (.aa 3) (.i 1)) (.aa 3)]),.ite (.kI true [.aa 9,.cmp .eq (.aa 2) (.aA 139)]) [.expr (.k 7 [.aa 0,.af [.s "wrap"]])] []],.ite (.cmp .ni (.sub (.aa 1) (.i 2)) (.aI .none)) [.expr (.k 44 [.aa 0,.sub (.aa 1) (.i 2),.aa 2])] [],.expr (.k 9 [.aa 0,.aa 4,.ite (.cmp .eq (.aa 2) (.aA 137)) (.aa 3) (.bin .add (.aa 3) (.i 1))]),.expr (.k 39 [.aa 0])]⟩
noncomputable def rL:Fn:=⟨3,0,[.expr (.k 7 [.aa 0,.af [.s "package",.sub (.aa 1) (.i 1)]]),.expr (.k 16 [.aa 0,.aa 2])]⟩
noncomputable def rM:Fn:=⟨3,0,[.expr (.k 16 [.aa 0,.aa 2])]⟩
noncomputable def AM:Fn:=⟨3,0,[.ite (.attr (.aa 0) "lays_subs") [.expr (.append (.attr (.aa 0) "subs") (.k 53 [.attr (.aa 0) "tables",.sub (.aa 1) (.i 1)])),.expr (.k 7 [.aa 0,.af [.s "definesub",.bin .sub (.len (.attr (.aa 0) "subs")) (.i 1)]])] [],.expr (.k 16 [.aa 0,.aa 2])]⟩
noncomputable def tE:Fn:=⟨3,0,[.expr (.k 44 [.aa 0,.sub (.aa 1) (.i 1),.aa 2])]⟩
noncomputable def wk:Fn:=⟨0,0,[.ret (some (.iZ [.str "expr",.str "if",.str "package",.str "nop",.str "sub"] [.aA 45,.aA 46,.aA 47,.aA 48,.aA 49]))]⟩
noncomputable def wm:Fn:=⟨0,0,[.ret (some (.iZ [.str "doblock"] [.aA 50]))]⟩
noncomputable def AN:Fn:=⟨2,6,[.cO 2 (.new false "Gen" 133 [.aa 0,.aI (.bool true),.aI (.bool true)]),.cO 3 (.sub (.aa 1) (.i 2)),.for true [4] (.slice (.sub (.aa 3) (.i 1)) none (some (.i (-1)))) [.expr (.k 42 [.aa 2,.aa 4,.aA 137])],.cO 5 (.comp (.k 8 [.aa 2]) true [7] (.range [.i 3]) none),.expr (.k 7 [.aa 2,.af [.s "bywant",.sub (.aa 5) (.aA 137),.sub (.aa 5) (.aA 138),.sub (.aa 5) (.aA 139)]]),.for true [6] (.af [.aA 137,.aA 138,.aA 139]) [.expr (.k 9 [.aa 2,.sub (.aa 5) (.aa 6),.i 0]),.expr (.k 43 [.aa 2,.af [.s "block",.slice (.sub (.aa 3) (.i 1)) (some (.i (-1))) none],.aa 6]),.expr (.k 7 [.aa 2,.af [.bin .add (.s "return") (.sub (.s "012") (.aa 6))]])],.ret (some (.new true "OpsCode" 132 [.k 10 [.aa 2],.sub (.aa 1) (.i 1),.sub (.aa 1) (.i 3),.sub (.aa 1) (.i 4),.r9 (.attr (.aa 2) "subs")]))]⟩
noncomputable def jK:Fn:=⟨1,2,[.ite (.cmp .eq (.sub (.aa 0) (.i 0)) (.s "if")) [.ret (some (.bin .add (.comp (.sub (.aa 1) (.i 1)) true [1] (.sub (.aa 0) (.i 1)) none) (.ite (.cmp .is (.sub (.aa 0) (.i 2)) (.aI .none)) (.bJ []) (.bJ [.sub (.aa 0) (.i 2)]))))] [],.ret (some (.comp (.aa 2) true [2] (.slice (.aa 0) (some (.i 1)) none) (some (.kI true [.PD false (.aa 2),.cmp .eq (.slice (.aa 2) none (some (.i 1))) (.af [.s "block"])]))))]⟩
noncomputable def iR:Fn:=⟨2,2,[.for true [2] (.sub (.aa 1) (.i 1)) [.ite (.cmp .eq (.sub (.aa 2) (.i 0)) (.s "sub")) [.expr (.append (.attr (.aa 0) "subs") (.k 53 [.attr (.aa 0) "tables",.sub (.aa 2) (.i 1)])),.expr (.k 7 [.aa 0,.af [.s "definesub",.bin .sub (.len (.attr (.aa 0) "subs")) (.i 1)]])] [],.for true [3] (.k 54 [.aa 2]) [.expr (.k 55 [.aa 0,.aa 3])]]]⟩
noncomputable def rN:Fn:=⟨2,1,[.cO 2 (.new false "Gen" 133 [.aa 0,.aI (.bool false),.aI (.bool false)]),.expr (.k 55 [.aa 2,.sub (.aa 1) (.i 1)]),.expr (.k 43 [.aa 2,.sub (.aa 1) (.i 1),.aA 137]),.expr (.k 7 [.aa 2,.af [.s "return0"]]),.ret (some (.new true "OpsCode" 132 [.k 10 [.aa 2],.s "",.sub (.aa 1) (.i 2),.bJ [],.r9 (.attr (.aa 2) "subs")]))]⟩
noncomputable def yK:Fn:=⟨2,0,[.expr (.k 7 [.aa 0,.af [.s "pad",.sub (.aA 142) (.sub (.aa 1) (.i 0)),.sub (.aa 1) (.i 1)]])]⟩
noncomputable def AO:Fn:=⟨2,0,[.expr (.k 7 [.aa 0,.af [.s "my",.sub (.aA 142) (.sub (.aa 1) (.i 0)),.sub (.aa 1) (.i 1)]])]⟩
noncomputable def wo:Fn:=⟨2,0,[.expr (.k 7 [.aa 0,.af [.s "glob",.sub (.aA 142) (.sub (.aa 1) (.i 0)),.sub (.aa 1) (.i 1)]])]⟩
noncomputable def ig:Fn:=⟨2,0,[.ite (.cmp .eq (.sub (.aa 1) (.i 0)) (.s "func")) [.ret (some (.cmp .isin (.sub (.aa 1) (.i 1)) (.aA 141)))] [],.ret (some (.cmp .isin (.sub (.aa 1) (.i 0)) (.sub (.attr (.aa 0) "tables") (.s "lvs"))))]⟩
noncomputable def yL:Fn:=⟨2,1,[.cO 2 (.sub (.nQ [.str "rv2s",.str "rv2a",.str "rv2h"] [.s "S",.s "A",.s "H"]) (.sub (.aa 1) (.i 0))),.ite (.k 60 [.aa 0,.sub (.aa 1) (.i 1)]) [.expr (.k 20 [.aa 0,.sub (.aa 1) (.i 1)]),.expr (.k 7 [.aa 0,.af [.s "vivify",.aa 2]]),.ret none] [],.expr (.k 13 [.aa 0,.sub (.aa 1) (.i 1)]),.ite (.cmp .eq (.aa 2) (.s "S")) [.expr (.k 7 [.aa 0,.af [.s "newscalar"]]),.expr (.k 7 [.aa 0,.af [.s "vivify",.s "S"]])] [.expr (.k 7 [.aa 0,.af [.s "deref",.aa 2]])]]⟩
noncomputable def qg:Fn:=⟨2,0,[.expr (.k 20 [.aa 0,.sub (.aa 1) (.i 1)]),.expr (.k 13 [.aa 0,.sub (.aa 1) (.i 2)]),.expr (.k 7 [.aa 0,.af [.bin .add (.sub (.aa 1) (.i 0)) (.s "lv")]])]⟩
noncomputable def wu:Fn:=⟨2,3,[.fM [2,3] (.af [.k 8 [.aa 0],.k 8 [.aa 0]]),.expr (.k 13 [.aa 0,.sub (.aa 1) (.i 1)]),.expr (.k 7 [.aa 0,.af [.s "iffalse",.aa 2]]),.cO 4 (.attr (.aa 0) "height"),.expr (.k 20 [.aa 0,.sub (.aa 1) (.i 2)]),.expr (.k 7 [.aa 0,.af [.s "jump",.aa 3]]),.expr (.k 9 [.aa 0,.aa 2,.aa 4]),.expr (.k 20 [.aa 0,.sub (.aa 1) (.i 3)]),.expr (.k 9 [.aa 0,.aa 3,.attr (.aa 0) "height"])]⟩
noncomputable def rO:Fn:=⟨2,0,[.expr (.k 13 [.aa 0,.sub (.aa 1) (.i 2)]),.expr (.k 20 [.aa 0,.sub (.aa 1) (.i 1)]),.expr (.k 7 [.aa 0,.af [.s "ascalar"]]),.expr (.k 7 [.aa 0,.af [.s "assign"]])]⟩
noncomputable def oz:Fn:=⟨2,1,[.expr (.k 20 [.aa 0,.sub (.aa 1) (.i 2)]),.expr (.k 7 [.aa 0,.af [.s "ascalar"]]),.ite (.cmp .xq (.sub (.aa 1) (.i 1)) (.af [.s "&&",.s "||",.s "//"])) [.expr (.k 13 [.aa 0,.sub (.aa 1) (.i 3)]),.expr (.k 7 [.aa 0,.af [.s "opassign",.sub (.aa 1) (.i 1)]]),.ret none] [],.cO 2 (.k 8 [.aa 0]),.expr (.k 7 [.aa 0,.af [.s "dup"]]),.expr (.k 7 [.aa 0,.af [.s "fetch"]]),.expr (.k 7 [.aa 0,.af [.sub (.nQ [.str "&&",.str "||",.str "//"] [.s "iffalse",.s "iftrue",.s "ifdef"]) (.sub (.aa 1) (.i 1)),.aa 2]]),.expr (.k 13 [.aa 0,.sub (.aa 1) (.i 3)]),.expr (.k 7 [.aa 0,.af [.s "swap"]]),.expr (.k 7 [.aa 0,.af [.s "assign"]]),.expr (.k 9 [.aa 0,.aa 2,.attr (.aa 0) "height"])]⟩
noncomputable def wA:Fn:=⟨2,0,[.expr (.k 20 [.aa 0,.sub (.aa 1) (.i 1)]),.expr (.k 7 [.aa 0,.af [.s "ascalar"]]),.expr (.k 7 [.aa 0,.af [.sub (.aa 1) (.i 0)]])]⟩
noncomputable def tF:Fn:=⟨2,0,[.expr (.k 75 [.aa 0,.sub (.aa 1) (.i 1)])]⟩
noncomputable def wB:Fn:=⟨2,3,[.fM [2,3] (.af [.sub (.aa 1) (.i 1),.sub (.aa 1) (.i 2)]),.ite (.kI true [.cmp .isin (.aa 2) (.aA 141),.cmp .isin (.len (.aa 3)) (.sub (.nQ [.str "substr",.str "vec",.str "pos"] [.af [.i 2,.i 3],.af [.i 3],.af [.i 1]]) (.aa 2))]) [.expr (.k 20 [.aa 0,.sub (.aa 3) (.i 0)]),.for true [4] (.slice (.aa 3) (some (.i 1)) none) [.expr (.k 13 [.aa 0,.aa 4])],.expr (.k 7 [.aa 0,.ite (.cmp .eq (.aa 2) (.s "substr")) (.af [.s "substrlv",.len (.aa 3)]) (.af [.bin .add (.aa 2) (.s "lv")])])] [.expr (.k 7 [.aa 0,.af [.s "refuse",.s "Can't modify what stands here"]])]]⟩
noncomputable def tG:Fn:=⟨0,0,[.ret (some (.iZ [.str "pads",.str "pada",.str "padh",.str "mys",.str "mya",.str "myh",.str "globs",.str "globa",.str "globh",.str "rv2s",.str "rv2a",.str "rv2h",.str "elem",.str "helem",.str "cond",.str "assign",.str "func",.str "opassign",.str "preinc",.str "predec",.str "local"] [.aA 57,.aA 57,.aA 57,.aA 58,.aA 58,.aA 58,.aA 59,.aA 59,.aA 59,.aA 61,.aA 61,.aA 61,.aA 62,.aA 62,.aA 63,.aA 64,.aA 68,.aA 65,.aA 66,.aA 66,.aA 67]))]⟩
noncomputable def wC:Fn:=⟨3,0,[.expr (.k 64 [.aa 0,.aa 1]),.expr (.k 18 [.aa 0,.aa 2])]⟩
noncomputable def rP:Fn:=⟨3,0,[.expr (.k 65 [.aa 0,.aa 1]),.expr (.k 18 [.aa 0,.aa 2])]⟩
noncomputable def AP:Fn:=⟨3,0,[.expr (.k 66 [.aa 0,.aa 1]),.ite (.cmp .isin (.sub (.aa 1) (.i 0)) (.af [.s "preinc",.s "predec"])) [.expr (.k 18 [.aa 0,.aa 2])] [.expr (.k 17 [.aa 0,.aa 2])]]⟩
noncomputable def rQ:Fn:=⟨2,1,[.ite (.cmp .eq (.sub (.aa 1) (.i 0)) (.s "list")) [.for true [2] (.sub (.aa 1) (.i 1)) [.expr (.k 73 [.aa 0,.aa 2])],.expr (.k 7 [.aa 0,.af [.s "append",.len (.sub (.aa 1) (.i 1))]])] [.ite (.cmp .isin (.sub (.aa 1) (.i 0)) (.af [.s "aslice",.s "hslice"])) [.expr (.k 20 [.aa 0,.sub (.aa 1) (.i 1)]),.expr (.k 14 [.aa 0,.sub (.aa 1) (.i 2)]),.expr (.k 7 [.aa 0,.af [.bin .add (.sub (.aa 1) (.i 0)) (.s "lv")]])] [.ite (.kI true [.cmp .eq (.sub (.aa 1) (.i 0)) (.s "local"),.cmp .isin (.sub (.sub (.aa 1) (.i 1)) (.i 0)) (.af [.s "list",.s "aslice",.s "hslice"])]) [.expr (.k 76 [.aa 0,.sub (.aa 1) (.i 1)])] [.ite (.cmp .eq (.sub (.aa 1) (.i 0)) (.s "undef")) [.expr (.k 7 [.aa 0,.af [.s "const",.aI .none]]),.expr (.k 7 [.aa 0,.af [.s "wrap"]])] [.expr (.k 20 [.aa 0,.aa 1]),.expr (.k 7 [.aa 0,.af [.s "wrap"]])]]]]]⟩
noncomputable def tH:Fn:=⟨3,0,[.expr (.k 14 [.aa 0,.sub (.aa 1) (.i 2)]),.expr (.k 7 [.aa 0,.af [.s "copy"]]),.expr (.k 73 [.aa 0,.sub (.aa 1) (.i 1)]),.expr (.k 7 [.aa 0,.af [.s "aassign",.aa 2]])]⟩
noncomputable def oA:Fn:=⟨2,0,[.ite (.cmp .isin (.sub (.aa 1) (.i 0)) (.af [.s "globs",.s "globa",.s "globh"])) [.expr (.k 7 [.aa 0,.af [.s "localglob",.sub (.aA 142) (.sub (.aa 1) (.i 0)),.sub (.aa 1) (.i 1)]])] [.ite (.cmp .isin (.sub (.aa 1) (.i 0)) (.af [.s "elem",.s "helem"])) [.expr (.k 20 [.aa 0,.sub (.aa 1) (.i 1)]),.expr (.k 13 [.aa 0,.sub (.aa 1) (.i 2)]),.expr (.k 7 [.aa 0,.af [.bin .add (.s "local") (.sub (.aa 1) (.i 0))]])] [.expr (.k 7 [.aa 0,.af [.s "refuse",.s "Can't localize what stands here"]])]]]⟩
noncomputable def oB:Fn:=⟨2,1,[.ite (.cmp .eq (.sub (.aa 1) (.i 0)) (.s "list")) [.for true [2] (.sub (.aa 1) (.i 1)) [.expr (.k 75 [.aa 0,.aa 2]),.expr (.k 7 [.aa 0,.af [.s "wrap"]])],.expr (.k 7 [.aa 0,.af [.s "append",.len (.sub (.aa 1) (.i 1))]]),.ret none] [],.expr (.k 20 [.aa 0,.sub (.aa 1) (.i 1)]),.expr (.k 14 [.aa 0,.sub (.aa 1) (.i 2)]),.expr (.k 7 [.aa 0,.af [.bin .add (.s "local") (.sub (.aa 1) (.i 0))]])]⟩
noncomputable def yM:Fn:=⟨3,0,[.expr (.k 73 [.aa 0,.aa 1]),.ite (.cmp .eq (.aa 2) (.aA 139)) [.expr (.k 7 [.aa 0,.af [.s "members"]]),.ret none] [],.expr (.k 7 [.aa 0,.af [.s "lasttarget"]]),.expr (.k 17 [.aa 0,.aa 2])]⟩
noncomputable def lu:Fn:=⟨0,2,[.cO 0 (.iZ [.str "assign",.str "opassign",.str "aassign",.str "local"] [.aA 70,.aA 71,.aA 74,.aA 77]),.for true [1] (.af [.s "preinc",.s "predec",.s "postinc",.s "postdec"]) [.om (.aa 0) (.aa 1) (.aA 72)],.ret (some (.aa 0))]⟩
noncomputable def yN:Fn:=⟨2,0,[.ite (.cmp .eq (.sub (.aa 1) (.i 0)) (.s "globc")) [.expr (.k 7 [.aa 0,.af [.s "codefor",.sub (.aa 1) (.i 1)]])] [.expr (.k 13 [.aa 0,.sub (.aa 1) (.i 1)]),.expr (.k 7 [.aa 0,.af [.s "deref",.s "C"]])]]⟩
noncomputable def AQ:Fn:=⟨3,0,[.ite (.cmp .is (.sub (.aa 1) (.i 2)) (.aI .none)) [.expr (.k 79 [.aa 0,.sub (.aa 1) (.i 1)]),.expr (.k 7 [.aa 0,.af [.s "callsame",.aa 2]]),.ret none] [],.expr (.k 14 [.aa 0,.sub (.aa 1) (.i 2)]),.expr (.k 79 [.aa 0,.sub (.aa 1) (.i 1)]),.expr (.k 7 [.aa 0,.af [.s "call",.aa 2]])]⟩
noncomputable def wD:Fn:=⟨3,0,[.expr (.k 13 [.aa 0,.sub (.aa 1) (.i 1)]),.expr (.k 7 [.aa 0,.af [.s "wrap"]]),.ite (.cmp .ni (.sub (.aa 1) (.i 3)) (.aI .none)) [.expr (.k 14 [.aa 0,.sub (.aa 1) (.i 3)]),.expr (.k 7 [.aa 0,.af [.s "append",.i 2]])] [],.ite (.PD true (.sub (.aa 1) (.i 2))) [.expr (.k 7 [.aa 0,.af [.s "const",.sub (.aa 1) (.i 2)]])] [.expr (.k 13 [.aa 0,.sub (.aa 1) (.i 2)])],.expr (.k 7 [.aa 0,.af [.s "method",.sub (.aa 1) (.i 4),.aa 2]])]⟩
noncomputable def tK:Fn:=⟨3,0,[.expr (.append (.attr (.aa 0) "subs") (.k 53 [.attr (.aa 0) "tables",.sub (.aa 1) (.i 1)])),.expr (.k 7 [.aa 0,.af [.s "closure",.bin .sub (.len (.attr (.aa 0) "subs")) (.i 1)]]),.expr (.k 17 [.aa 0,.aa 2])]⟩
noncomputable def wF:Fn:=⟨3,4,[.cO 3 (.attr (.aa 0) "height"),.cO 4 (.comp (.k 8 [.aa 0]) true [6] (.range [.i 3]) none),.expr (.k 7 [.aa 0,.af [.s "bywant",.sub (.aa 4) (.aA 137),.sub (.aa 4) (.aA 138),.sub (.aa 4) (.aA 139)]]),.for true [5] (.af [.aA 137,.aA 138,.aA 139]) [.expr (.k 9 [.aa 0,.sub (.aa 4) (.aa 5),.aa 3]),.ite (.cmp .is (.sub (.aa 1) (.i 1)) (.aI .none)) [.expr (.k 16 [.aa 0,.aa 5])] [.expr (.k 12 [.aa 0,.sub (.aa 1) (.i 1),.aa 5])],.expr (.k 7 [.aa 0,.ite (.attr (.aa 0) "is_sub") (.af [.bin .add (.s "return") (.sub (.s "012") (.aa 5))]) (.af [.s "subreturn",.aa 5])])],.eW (.aa 0) "height" (.aa 3),.expr (.k 16 [.aa 0,.aa 2])]⟩
noncomputable def tL:Fn:=⟨3,0,[.expr (.k 7 [.aa 1,.af [.bin .add (.s "return") (.sub (.s "012") (.aa 2))]]),.expr (.append (.attr (.aa 0) "subs") (.new true "OpsCode" 132 [.k 10 [.aa 1],.s "",.i 0,.bJ [],.r9 (.attr (.aa 1) "subs")])),.ret (some (.bin .sub (.len (.attr (.aa 0) "subs")) (.i 1)))]⟩
noncomputable def qh:Fn:=⟨3,1,[.cO 3 (.new false "Gen" 133 [.attr (.aa 0) "tables",.aI (.bool true),.attr (.aa 0) "lays_subs"]),.expr (.k 43 [.aa 3,.sub (.aa 1) (.i 1),.aa 2]),.expr (.k 7 [.aa 0,.af [.s "evalblock",.k 84 [.aa 0,.aa 3,.aa 2],.aa 2]])]⟩
noncomputable def tM:Fn:=⟨3,0,[.expr (.k 13 [.aa 0,.sub (.aa 1) (.i 1)]),.expr (.k 7 [.aa 0,.af [.s "evalstr",.sub (.aa 1) (.i 2),.sub (.aa 1) (.i 3),.aa 2]])]⟩
noncomputable def yO:Fn:=⟨0,0,[.ret (some (.iZ [.str "call",.str "method",.str "anonsub",.str "return"] [.aA 80,.aA 81,.aA 82,.aA 83]))]⟩
noncomputable def yP:Fn:=⟨0,0,[.ret (some (.iZ [.str "evalblock",.str "evalstr"] [.aA 85,.aA 86]))]⟩
noncomputable def m8:Fn:=⟨2,0,[.ite (.cmp .eq (.aa 1) (.aA 139)) [.expr (.k 7 [.aa 0,.af [.s "items"]]),.ret none] [],.expr (.k 7 [.aa 0,.af [.s "size"]]),.expr (.k 17 [.aa 0,.aa 1])]⟩
noncomputable def nU:Fn:=⟨2,0,[.ite (.cmp .eq (.aa 1) (.aA 139)) [.expr (.k 7 [.aa 0,.af [.s "pairs"]]),.ret none] [],.expr (.k 7 [.aa 0,.af [.s "keycount"]]),.expr (.k 17 [.aa 0,.aa 1])]⟩
noncomputable def yQ:Fn:=⟨3,0,[.expr (.k 20 [.aa 0,.aa 1]),.expr (.k 89 [.aa 0,.aa 2])]⟩
noncomputable def AR:Fn:=⟨3,0,[.expr (.k 20 [.aa 0,.aa 1]),.expr (.k 90 [.aa 0,.aa 2])]⟩
noncomputable def qi:Fn:=⟨3,0,[.expr (.k 13 [.aa 0,.sub (.aa 1) (.i 1)]),.expr (.k 7 [.aa 0,.af [.s "deref",.s "A"]]),.expr (.k 89 [.aa 0,.aa 2])]⟩
noncomputable def rR:Fn:=⟨3,0,[.expr (.k 13 [.aa 0,.sub (.aa 1) (.i 1)]),.expr (.k 7 [.aa 0,.af [.s "deref",.s "H"]]),.expr (.k 90 [.aa 0,.aa 2])]⟩
noncomputable def oE:Fn:=⟨3,0,[.expr (.k 13 [.aa 0,.sub (.aa 1) (.i 1)]),.expr (.k 7 [.aa 0,.af [.s "deref",.s "S"]]),.expr (.k 18 [.aa 0,.aa 2])]⟩
noncomputable def tN:Fn:=⟨3,0,[.expr (.k 20 [.aa 0,.sub (.aa 1) (.i 1)]),.expr (.k 7 [.aa 0,.af [.s "lastidx"]]),.expr (.k 17 [.aa 0,.aa 2])]⟩
noncomputable def tP:Fn:=⟨3,0,[.expr (.k 20 [.aa 0,.sub (.aa 1) (.i 1)]),.expr (.k 13 [.aa 0,.sub (.aa 1) (.i 2)]),.ite (.cmp .eq (.aa 2) (.aA 139)) [.expr (.k 7 [.aa 0,.af [.bin .add (.sub (.aa 1) (.i 0)) (.s "at")]]),.expr (.k 7 [.aa 0,.af [.s "wrap"]]),.ret none] [],.expr (.k 7 [.aa 0,.af [.sub (.aa 1) (.i 0)]]),.expr (.k 17 [.aa 0,.aa 2])]⟩
noncomputable def yR:Fn:=⟨3,0,[.expr (.k 20 [.aa 0,.sub (.aa 1) (.i 1)]),.expr (.k 14 [.aa 0,.sub (.aa 1) (.i 2)]),.expr (.k 7 [.aa 0,.af [.sub (.aa 1) (.i 0)]]),.expr (.k 19 [.aa 0,.aa 2])]⟩
noncomputable def qO:Fn:=⟨2,0,[.ite (.cmp .eq (.sub (.aa 1) (.i 0)) (.s "globc")) [.expr (.k 7 [.aa 0,.af [.s "code",.sub (.aa 1) (.i 1)]]),.expr (.k 7 [.aa 0,.af [.s "ref"]])] [.ite (.cmp .eq (.sub (.aa 1) (.i 0)) (.s "rv2c")) [.expr (.k 13 [.aa 0,.sub (.aa 1) (.i 1)]),.expr (.k 7 [.aa 0,.af [.s "deref",.s "C"]]),.expr (.k 7 [.aa 0,.af [.s "ref"]])] [.ite (.kI true [.cmp .isin (.sub (.aa 1) (.i 0)) (.sub (.attr (.aa 0) "tables") (.s "lvs")),.cmp .ne (.sub (.aa 1) (.i 0)) (.s "func")]) [.expr (.k 20 [.aa 0,.aa 1]),.expr (.k 7 [.aa 0,.af [.s "ref"]])] [.expr (.k 13 [.aa 0,.aa 1]),.expr (.k 7 [.aa 0,.af [.s "refvalue"]])]]]]⟩
noncomputable def jL:Fn:=⟨2,1,[.ite (.kI true [.cmp .eq (.len (.aa 1)) (.i 1),.cmp .isin (.sub (.sub (.aa 1) (.i 0)) (.i 0)) (.aA 143)]) [.expr (.k 20 [.aa 0,.sub (.aa 1) (.i 0)]),.expr (.k 7 [.aa 0,.af [.s "elemrefs"]]),.ret none] [],.for true [2] (.aa 1) [.ite (.cmp .eq (.sub (.aa 2) (.i 0)) (.s "list")) [.expr (.k 100 [.aa 0,.sub (.aa 2) (.i 1)])] [.expr (.k 99 [.aa 0,.aa 2]),.expr (.k 7 [.aa 0,.af [.s "wrap"]])]],.expr (.k 7 [.aa 0,.af [.s "append",.len (.aa 1)]])]⟩
noncomputable def ny:Fn:=⟨3,0,[.ite (.cmp .eq (.sub (.sub (.aa 1) (.i 1)) (.i 0)) (.s "list")) [.expr (.k 100 [.aa 0,.sub (.sub (.aa 1) (.i 1)) (.i 1)]),.expr (.k 19 [.aa 0,.aa 2])] [.expr (.k 99 [.aa 0,.sub (.aa 1) (.i 1)]),.expr (.k 17 [.aa 0,.aa 2])]]⟩
noncomputable def AS:Fn:=⟨3,0,[.expr (.k 14 [.aa 0,.sub (.aa 1) (.i 1)]),.expr (.k 7 [.aa 0,.af [.sub (.aa 1) (.i 0)]]),.expr (.k 17 [.aa 0,.aa 2])]⟩
noncomputable def yS:Fn:=⟨0,0,[.ret (some (.iZ [.str "pada",.str "globa",.str "mya",.str "rv2a",.str "padh",.str "globh",.str "myh",.str "rv2h",.str "rv2s",.str "lastidx",.str "elem",.str "helem",.str "aslice",.str "hslice",.str "refgen",.str "anona",.str "anonh"] [.aA 91,.aA 91,.aA 91,.aA 93,.aA 92,.aA 92,.aA 92,.aA 94,.aA 95,.aA 96,.aA 97,.aA 97,.aA 98,.aA 98,.aA 101,.aA 102,.aA 102]))]⟩
noncomputable def rT:Fn:=⟨2,1,[.cO 2 (.new true "OpenLoop" 134 [.aa 0,.aa 1]),.expr (.k 7 [.aa 0,.af [.s "loop",.aa 1,.sub (.attr (.aa 2) "marks") (.s "next"),.sub (.attr (.aa 2) "marks") (.s "last"),.sub (.attr (.aa 2) "marks") (.s "redo")]]),.expr (.append (.attr (.aa 0) "loops") (.aa 2)),.expr (.k 9 [.aa 0,.sub (.attr (.aa 2) "marks") (.s "redo"),.attr (.aa 0) "height"]),.ret (some (.aa 2))]⟩
noncomputable def wG:Fn:=⟨2,0,[.expr (.k 9 [.aa 0,.sub (.attr (.aa 1) "marks") (.s "next"),.attr (.aa 1) "height"]),.expr (.k 7 [.aa 0,.af [.s "endloop"]]),.expr (.pop (.attr (.aa 0) "loops"))]⟩
noncomputable def wH:Fn:=⟨2,0,[.expr (.k 9 [.aa 0,.sub (.attr (.aa 1) "marks") (.s "last"),.attr (.aa 1) "height"]),.eW (.aa 0) "scopes" (.attr (.aa 1) "scopes"),.eW (.aa 0) "starts" (.attr (.aa 1) "starts"),.expr (.k 7 [.aa 0,.af [.s "endloop"]])]⟩
noncomputable def wI:Fn:=⟨3,9,[.fM [3,4,5,6,7,8] (.aa 1),.fM [9,10] (.af [.k 8 [.aa 0],.k 8 [.aa 0]]),.expr (.k 40 [.aa 0]),.expr (.k 9 [.aa 0,.aa 9,.attr (.aa 0) "height"]),.expr (.k 38 [.aa 0]),.ite (.cmp .ni (.aa 5) (.aI .none)) [.expr (.k 13 [.aa 0,.aa 5]),.expr (.k 7 [.aa 0,.af [.ite (.aa 8) (.s "iftrue") (.s "iffalse"),.aa 10]])] [],.cO 11 (.k 104 [.aa 0,.aa 4]),.expr (.k 44 [.aa 0,.aa 6,.aA 137]),.expr (.k 105 [.aa 0,.aa 11]),.ite (.cmp .ni (.aa 7) (.aI .none)) [.expr (.k 44 [.aa 0,.aa 7,.aA 137])] [],.expr (.k 7 [.aa 0,.af [.s "leave"]]),.expr (.k 7 [.aa 0,.af [.s "resettle"]]),.expr (.k 7 [.aa 0,.af [.s "jump",.aa 9]]),.expr (.k 106 [.aa 0,.aa 11]),.expr (.k 9 [.aa 0,.aa 10,.attr (.aa 0) "height"]),.expr (.k 39 [.aa 0]),.expr (.k 7 [.aa 0,.af [.s "resettle"]]),.expr (.k 41 [.aa 0,.s "forget"]),.expr (.k 16 [.aa 0,.aa 2])]⟩
noncomputable def rU:Fn:=⟨3,1,[.cO 3 (.k 8 [.aa 0]),.expr (.k 40 [.aa 0]),.expr (.k 9 [.aa 0,.aa 3,.attr (.aa 0) "height"]),.expr (.k 44 [.aa 0,.sub (.aa 1) (.i 1),.aA 137]),.expr (.k 13 [.aa 0,.sub (.aa 1) (.i 2)]),.expr (.k 7 [.aa 0,.af [.s "resettle"]]),.expr (.k 7 [.aa 0,.af [.ite (.sub (.aa 1) (.i 3)) (.s "iffalse") (.s "iftrue"),.aa 3]]),.expr (.k 41 [.aa 0,.s "forget"]),.expr (.k 16 [.aa 0,.aa 2])]⟩
noncomputable def yT:Fn:=⟨3,9,[.fM [3,4,5,6,7,8] (.aa 1),.fM [9,10] (.af [.k 8 [.aa 0],.k 8 [.aa 0]]),.expr (.k 40 [.aa 0]),.expr (.k 38 [.aa 0]),.ite (.cmp .ni (.aa 5) (.aI .none)) [.expr (.k 12 [.aa 0,.aa 5,.aA 137])] [],.expr (.k 9 [.aa 0,.aa 9,.attr (.aa 0) "height"]),.ite (.cmp .ni (.aa 6) (.aI .none)) [.expr (.k 13 [.aa 0,.aa 6]),.expr (.k 7 [.aa 0,.af [.s "iffalse",.aa 10]])] [],.cO 11 (.k 104 [.aa 0,.aa 4]),.expr (.k 44 [.aa 0,.aa 8,.aA 137]),.expr (.k 105 [.aa 0,.aa 11]),.ite (.cmp .ni (.aa 7) (.aI .none)) [.expr (.k 12 [.aa 0,.aa 7,.aA 137])] [],.expr (.k 7 [.aa 0,.af [.s "resettle"]]),.expr (.k 7 [.aa 0,.af [.s "jump",.aa 9]]),.expr (.k 106 [.aa 0,.aa 11]),.expr (.k 9 [.aa 0,.aa 10,.attr (.aa 0) "height"]),.expr (.k 39 [.aa 0]),.expr (.k 41 [.aa 0,.s "forget"]),.expr (.k 16 [.aa 0,.aa 2])]⟩
noncomputable def rV:Fn:=⟨3,9,[.fM [3,4,5,6,7] (.aa 1),.fM [8,9] (.af [.k 8 [.aa 0],.k 8 [.aa 0]]),.expr (.k 14 [.aa 0,.aa 6]),.expr (.k 7 [.aa 0,.af [.s "iter"]]),.expr (.k 40 [.aa 0]),.expr (.k 9 [.aa 0,.aa 8,.attr (.aa 0) "height"]),.expr (.k 7 [.aa 0,.af [.s "next",.aa 9]]),.cO 10 (.bin .sub (.attr (.aa 0) "height") (.i 1)),.expr (.k 38 [.aa 0]),.expr (.k 7 [.aa 0,.af [.ite (.cmp .eq (.sub (.aa 5) (.i 0)) (.s "globs")) (.s "bindglob") (.s "bindpad"),.sub (.aa 5) (.i 1)]]),.cO 11 (.k 104 [.aa 0,.aa 4]),.expr (.k 44 [.aa 0,.aa 7,.aA 137]),.expr (.k 105 [.aa 0,.aa 11]),.expr (.k 7 [.aa 0,.af [.s "leave"]]),.expr (.k 7 [.aa 0,.af [.s "resettle"]]),.expr (.k 7 [.aa 0,.af [.s "jump",.aa 8]]),.expr (.k 106 [.aa 0,.aa 11]),.expr (.k 39 [.aa 0]),.expr (.k 7 [.aa 0,.af [.s "resettle"]]),.expr (.k 9 [.aa 0,.aa 9,.aa 10]),.expr (.k 41 [.aa 0,.s "forget"]),.expr (.k 7 [.aa 0,.af [.s "drop"]]),.expr (.k 16 [.aa 0,.aa 2])]⟩
noncomputable def yU:Fn:=⟨3,2,[.cO 3 (.k 8 [.aa 0]),.cO 4 (.k 104 [.aa 0,.sub (.aa 1) (.i 1)]),.expr (.k 44 [.aa 0,.sub (.aa 1) (.i 2),.aa 2]),.expr (.k 7 [.aa 0,.af [.s "endloop"]]),.expr (.k 7 [.aa 0,.af [.s "jump",.aa 3]]),.expr (.k 105 [.aa 0,.aa 4]),.expr (.k 16 [.aa 0,.aa 2]),.expr (.k 7 [.aa 0,.af [.s "jump",.aa 3]]),.expr (.k 106 [.aa 0,.aa 4]),.expr (.k 16 [.aa 0,.aa 2]),.expr (.k 9 [.aa 0,.aa 3,.attr (.aa 0) "height"])]⟩
noncomputable def nA:Fn:=⟨2,1,[.for true [2] (.range [.bin .sub (.len (.attr (.aa 0) "loops")) (.i 1),.i (-1),.i (-1)]) [.ite (.kI false [.cmp .eq (.aa 1) (.s ""),.cmp .eq (.attr (.sub (.attr (.aa 0) "loops") (.aa 2)) "label") (.aa 1)]) [.ret (some (.bin .add (.aa 2) (.i 1)))] []],.ret (some (.i 0))]⟩
noncomputable def oF:Fn:=⟨3,3,[.cO 3 (.attr (.aa 0) "height"),.cO 4 (.k 112 [.aa 0,.sub (.aa 1) (.i 1)]),.ite (.cmp .eq (.aa 4) (.i 0)) [.expr (.k 7 [.aa 0,.af [.s "loopleave",.sub (.aa 1) (.i 0),.sub (.aa 1) (.i 1)]])] [.cO 5 (.sub (.attr (.aa 0) "loops") (.bin .sub (.aa 4) (.i 1))),.while (.cmp .gt (.attr (.aa 0) "height") (.attr (.aa 5) "height")) [.expr (.k 7 [.aa 0,.af [.s "drop"]])],.expr (.k 7 [.aa 0,.af [.s "unwind",.attr (.aa 5) "scopes",.attr (.aa 5) "starts",.aa 4]]),.expr (.k 7 [.aa 0,.af [.s "jump",.sub (.attr (.aa 5) "marks") (.sub (.aa 1) (.i 0))]])],.eW (.aa 0) "height" (.aa 3),.expr (.k 16 [.aa 0,.aa 2])]⟩
noncomputable def yV:Fn:=⟨0,0,[.ret (some (.iZ [.str "while",.str "dowhile",.str "cfor",.str "foreach",.str "bare"] [.aA 107,.aA 108,.aA 109,.aA 110,.aA 111]))]⟩
noncomputable def wJ:Fn:=⟨0,0,[.ret (some (.iZ [.str "next",.str "last",.str "redo"] [.aA 113,.aA 113,.aA 113]))]⟩
noncomputable def wK:Fn:=⟨0,0,[.ret (some (.nQ [.str "aassign",.str "call",.str "callsame",.str "method",.str "match",.str "split",.str "evalblock",.str "evalstr"] [.af [.i 2,.i 1],.af [.i 2,.i 1],.af [.i 1,.i 1],.af [.i 2,.i 2],.af [.i 2,.i 3],.af [.i 3,.i 2],.af [.i 0,.i 2],.af [.i 1,.i 3]]))]⟩
noncomputable def rW:Fn:=⟨0,0,[.ret (some (.nQ [.str "const",.str "pad",.str "my",.str "glob",.str "loop",.str "unwind",.str "func",.str "match",.str "call",.str "bywant",.str "sort",.str "method",.str "trans",.str "evalblock",.str "evalstr",.str "drop",.str "elem",.str "bin",.str "split"] [.i 2,.i 3,.i 3,.i 3,.i 5,.i 4,.i 4,.i 4,.i 2,.i 4,.i 3,.i 3,.i 4,.i 3,.i 4,.i 1,.i 1,.i 2,.i 3]))]⟩
noncomputable def oG:Fn:=⟨2,2,[.cO 2 (.sub (.aa 0) (.s "at")),.om (.aa 0) (.s "at") (.bin .add (.aa 2) (.i 1)),.cO 3 (.sub (.aa 0) (.s "script")),.ret (some (.bin .mod (.ite (.cmp .lt (.aa 2) (.len (.aa 3))) (.sub (.aa 3) (.aa 2)) (.bin .add (.bin .add (.bin .mul (.i 7) (.aa 2)) (.bin .div (.aa 2) (.i 3))) (.i 5))) (.aa 1)))]⟩
noncomputable def i7:Fn:=⟨2,1,[.cO 2 (.k 118 [.aa 0,.i 3]),.ret (some (.ite (.kI true [.cmp .eq (.aa 2) (.i 2),.cmp .gt (.aa 1) (.i 0)]) (.af [.s "rv2a",.k 125 [.aa 0,.bin .sub (.aa 1) (.i 1)]]) (.sub (.bJ [.af [.s "pada",.i 4],.af [.s "globa",.s "main::a"]]) (.bin .mod (.aa 2) (.i 2)))))]⟩
noncomputable def jM:Fn:=⟨2,1,[.cO 2 (.k 118 [.aa 0,.i 3]),.ret (some (.ite (.kI true [.cmp .eq (.aa 2) (.i 2),.cmp .gt (.aa 1) (.i 0)]) (.af [.s "rv2h",.k 125 [.aa 0,.bin .sub (.aa 1) (.i 1)]]) (.sub (.bJ [.af [.s "padh",.i 5],.af [.s "globh",.s "main::h"]]) (.bin .mod (.aa 2) (.i 2)))))]⟩
noncomputable def nV:Fn:=⟨2,1,[.cO 2 (.ite (.cmp .gt (.aa 1) (.i 0)) (.k 118 [.aa 0,.i 8]) (.k 118 [.aa 0,.i 3])),.ite (.cmp .lt (.aa 2) (.i 3)) [.ret (some (.sub (.bJ [.af [.s "pads",.i 0],.af [.s "mys",.i 1],.af [.s "globs",.s "main::x"]]) (.aa 2)))] [],.ite (.cmp .eq (.aa 2) (.i 3)) [.ret (some (.af [.s "elem",.k 119 [.aa 0,.bin .sub (.aa 1) (.i 1)],.k 125 [.aa 0,.bin .sub (.aa 1) (.i 1)]]))] [],.ite (.cmp .eq (.aa 2) (.i 4)) [.ret (some (.af [.s "helem",.k 120 [.aa 0,.bin .sub (.aa 1) (.i 1)],.k 125 [.aa 0,.bin .sub (.aa 1) (.i 1)]]))] [],.ite (.cmp .eq (.aa 2) (.i 5)) [.ret (some (.af [.s "func",.sub (.bJ [.s "substr",.s "vec",.s "pos",.s "lc"]) (.k 118 [.aa 0,.i 4]),.slice (.bJ [.k 121 [.aa 0,.i 0],.af [.s "num",.i 1],.af [.s "num",.i 8]]) none (some (.bin .add (.i 1) (.k 118 [.aa 0,.i 3])))]))] [],.ret (some (.ite (.cmp .eq (.aa 2) (.i 6)) (.af [.s "rv2s",.k 125 [.aa 0,.bin .sub (.aa 1) (.i 1)]]) (.af [.s "local",.af [.s "globs",.s "main::x"]])))]⟩
noncomputable def oH:Fn:=⟨2,1,[.ret (some (.af [.s "list",.ite (.cmp .gt (.aa 1) (.i 0)) (.comp (.k 125 [.aa 0,.bin .sub (.aa 1) (.i 1)]) true [2] (.range [.k 118 [.aa 0,.i 3]]) none) (.bJ [])]))]⟩
noncomputable def i8:Fn:=⟨2,1,[.ret (some (.af [.s "block",.comp (.k 126 [.aa 0,.aa 1]) true [2] (.range [.ite (.cmp .gt (.aa 1) (.i 0)) (.k 118 [.aa 0,.i 3]) (.i 1)]) none]))]⟩
noncomputable def oJ:Fn:=⟨2,1,[.cO 2 (.k 118 [.aa 0,.i 6]),.ite (.cmp .eq (.aa 2) (.i 0)) [.ret (some (.af [.s "call",.af [.s "globc",.s "main::f"],.sub (.bJ [.aI .none,.k 122 [.aa 0,.aa 1]]) (.k 118 [.aa 0,.i 2])]))] [],.ite (.cmp .eq (.aa 2) (.i 1)) [.ret (some (.af [.s "call",.af [.s "rv2c",.k 125 [.aa 0,.bin .sub (.aa 1) (.i 1)]],.k 122 [.aa 0,.aa 1]]))] [],.ite (.cmp .eq (.aa 2) (.i 2)) [.ret (some (.af [.s "method",.k 125 [.aa 0,.bin .sub (.aa 1) (.i 1)],.sub (.bJ [.s "m",.af [.s "pads",.i 0]]) (.k 118 [.aa 0,.i 2]),.sub (.bJ [.aI .none,.k 122 [.aa 0,.aa 1]]) (.k 118 [.aa 0,.i 2]),.aI .none]))] [],.ite (.cmp .eq (.aa 2) (.i 3)) [.ret (some (.af [.s "anonsub",.af [.s "subdef",.s "",.k 123 [.aa 0,.bin .sub (.aa 1) (.i 2)],.i 6,.bJ []]]))] [],.ite (.cmp .eq (.aa 2) (.i 4)) [.ret (some (.af [.s "return",.sub (.bJ [.aI .none,.k 125 [.aa 0,.bin .sub (.aa 1) (.i 1)]]) (.k 118 [.aa 0,.i 2])]))] [],.ret (some (.sub (.bJ [.af [.s "evalblock",.k 123 [.aa 0,.bin .sub (.aa 1) (.i 1)]],.af [.s "evalstr",.k 125 [.aa 0,.bin .sub (.aa 1) (.i 1)],.af [],.s "main"]]) (.k 118 [.aa 0,.i 2])))]⟩
noncomputable def jN:Fn:=⟨2,1,[.cO 2 (.ite (.cmp .gt (.aa 1) (.i 0)) (.k 118 [.aa 0,.i 20]) (.i 0)),.ite (.cmp .eq (.aa 2) (.i 0)) [.ret (some (.sub (.bJ [.af [.s "num",.i 1],.af [.s "str",.s "a"],.af [.s "undef"],.af [.s "globs",.s "main::1"],.af [.s "wantarray"],.af [.s "odd"]]) (.k 118 [.aa 0,.i 6])))] [],.ite (.cmp .isin (.aa 2) (.af [.i 1,.i 2])) [.ret (some (.k 121 [.aa 0,.aa 1]))] [],.ite (.cmp .eq (.aa 2) (.i 3)) [.ret (some (.sub (.bJ [.k 119 [.aa 0,.aa 1],.k 120 [.aa 0,.aa 1],.af [.s "lastidx",.k 119 [.aa 0,.bin .sub (.aa 1) (.i 1)]]]) (.k 118 [.aa 0,.i 3])))] [],.ite (.cmp .eq (.aa 2) (.i 4)) [.ret (some (.af [.sub (.bJ [.s "and",.s "or",.s "dor",.s "xor"]) (.k 118 [.aa 0,.i 4]),.k 125 [.aa 0,.bin .sub (.aa 1) (.i 1)],.k 125 [.aa 0,.bin .sub (.aa 1) (.i 1)]]))] [],.ite (.cmp .eq (.aa 2) (.i 5)) [.ret (some (.af [.s "cond",.k 125 [.aa 0,.bin .sub (.aa 1) (.i 1)],.k 125 [.aa 0,.bin .sub (.aa 1) (.i 1)],.k 125 [.aa 0,.bin .sub (.aa 1) (.i 1)]]))] [],.ite (.cmp .isin (.aa 2) (.af [.i 6,.i 7])) [.ret (some (.k 124 [.aa 0,.aa 1]))] [],.ite (.cmp .isin (.aa 2) (.af [.i 8,.i 9])) [.ret (some (.af [.s "bin",.s ".",.k 125 [.aa 0,.bin .sub (.aa 1) (.i 1)],.k 124 [.aa 0,.aa 1]]))] [],.ite (.cmp .eq (.aa 2) (.i 10)) [.ret (some (.af [.s "assign",.k 121 [.aa 0,.bin .sub (.aa 1) (.i 1)],.k 125 [.aa 0,.bin .sub (.aa 1) (.i 1)]]))] [],.ite (.cmp .eq (.aa 2) (.i 11)) [.ret (some (.af [.s "opassign",.sub (.bJ [.s "+",.s "||",.s "//"]) (.k 118 [.aa 0,.i 3]),.k 121 [.aa 0,.bin .sub (.aa 1) (.i 1)],.k 125 [.aa 0,.bin .sub (.aa 1) (.i 1)]]))] [],.ite (.cmp .eq (.aa 2) (.i 12)) [.ret (some (.af [.s "aassign",.sub (.bJ [.af [.s "list",.bJ [.k 121 [.aa 0,.i 0],.af [.s "undef"],.k 119 [.aa 0,.i 0]]],.k 119 [.aa 0,.bin .sub (.aa 1) (.i 1)],.af [.s "local",.af [.s "list",.bJ [.af [.s "globs",.s "main::x"]]]]]) (.k 118 [.aa 0,.i 3]),.k 122 [.aa 0,.aa 1]]))] [],.ite (.cmp .eq (.aa 2) (.i 13)) [.ret (some (.af [.sub (.bJ [.s "preinc",.s "postdec"]) (.k 118 [.aa 0,.i 2]),.k 121 [.aa 0,.bin .sub (.aa 1) (.i 1)]]))] [],.ite (.cmp .eq (.aa 2) (.i 14)) [.ret (some (.af [.sub (.bJ [.s "next",.s "last",.s "redo"]) (.k 118 [.aa 0,.i 3]),.sub (.bJ [.s "",.s "A",.s "B"]) (.k 118 [.aa 0,.i 3])]))] [],.ite (.cmp .eq (.aa 2) (.i 15)) [.ret (some (.sub (.bJ [.af [.s "aslice",.k 119 [.aa 0,.bin .sub (.aa 1) (.i 1)],.k 122 [.aa 0,.aa 1]],.af [.s "lslice",.k 122 [.aa 0,.aa 1],.k 122 [.aa 0,.i 1]],.af [.s "range",.af [.s "num",.i 1],.k 125 [.aa 0,.bin .sub (.aa 1) (.i 1)]],.af [.s "repeat",.k 122 [.aa 0,.aa 1],.af [.s "num",.i 2]]]) (.k 118 [.aa 0,.i 4])))] [],.ite (.cmp .eq (.aa 2) (.i 16)) [.ret (some (.af [.s "refgen",.sub (.bJ [.k 121 [.aa 0,.bin .sub (.aa 1) (.i 1)],.k 122 [.aa 0,.aa 1],.k 125 [.aa 0,.bin .sub (.aa 1) (.i 1)]]) (.k 118 [.aa 0,.i 3])]))] [],.ite (.cmp .eq (.aa 2) (.i 17)) [.ret (some (.af [.s "hslice",.k 120 [.aa 0,.bin .sub (.aa 1) (.i 1)],.k 122 [.aa 0,.aa 1]]))] [],.ite (.cmp .eq (.aa 2) (.i 18)) [.ret (some (.af [.s "doblock",.k 123 [.aa 0,.bin .sub (.aa 1) (.i 1)]]))] [],.ret (some (.sub (.bJ [.k 122 [.aa 0,.aa 1],.af [.s "interp",.bJ [.af [.s "str",.s "a"],.k 119 [.aa 0,.i 0]]],.af [.s "bin",.s "+",.k 121 [.aa 0,.i 0],.k 125 [.aa 0,.bin .sub (.aa 1) (.i 1)]],.af [.s "anonh",.k 122 [.aa 0,.aa 1]]]) (.k 118 [.aa 0,.i 4])))]⟩
noncomputable def fO:Fn:=⟨2,5,[.cO 2 (.ite (.cmp .gt (.aa 1) (.i 0)) (.k 118 [.aa 0,.i 9]) (.i 0)),.cO 3 (.ite (.cmp .gt (.aa 2) (.i 2)) (.sub (.bJ [.s "",.s "A",.s "B"]) (.k 118 [.aa 0,.i 3])) (.s "")),.ite (.cmp .eq (.aa 2) (.i 2)) [.ret (some (.af [.s "sub",.af [.s "subdef",.s "main::f",.k 123 [.aa 0,.bin .sub (.aa 1) (.i 2)],.i 6,.bJ []]]))] [],.ite (.cmp .eq (.aa 2) (.i 3)) [.cO 4 (.sub (.bJ [.aI .none,.k 123 [.aa 0,.bin .sub (.aa 1) (.i 1)]]) (.k 118 [.aa 0,.i 2])),.ret (some (.af [.s "if",.comp (.af [.k 125 [.aa 0,.bin .sub (.aa 1) (.i 1)],.k 123 [.aa 0,.bin .sub (.aa 1) (.i 1)]]) true [6] (.range [.bin .add (.i 1) (.k 118 [.aa 0,.i 2])]) none,.aa 4]))] [],.ite (.cmp .eq (.aa 2) (.i 4)) [.cO 5 (.sub (.bJ [.aI .none,.k 123 [.aa 0,.i 0]]) (.k 118 [.aa 0,.i 2])),.ret (some (.af [.s "while",.aa 3,.k 125 [.aa 0,.bin .sub (.aa 1) (.i 1)],.k 123 [.aa 0,.bin .sub (.aa 1) (.i 1)],.aa 5,.cmp .eq (.k 118 [.aa 0,.i 2]) (.i 1)]))] [],.ite (.cmp .eq (.aa 2) (.i 5)) [.ret (some (.af [.s "dowhile",.k 123 [.aa 0,.bin .sub (.aa 1) (.i 1)],.k 125 [.aa 0,.bin .sub (.aa 1) (.i 1)],.cmp .eq (.k 118 [.aa 0,.i 2]) (.i 1)]))] [],.ite (.cmp .eq (.aa 2) (.i 6)) [.ret (some (.af [.s "cfor",.aa 3,.aI .none,.sub (.bJ [.aI .none,.k 125 [.aa 0,.bin .sub (.aa 1) (.i 1)]]) (.k 118 [.aa 0,.i 2]),.k 125 [.aa 0,.i 0],.k 123 [.aa 0,.bin .sub (.aa 1) (.i 1)]]))] [],.ite (.cmp .eq (.aa 2) (.i 7)) [.ret (some (.af [.s "bare",.aa 3,.k 123 [.aa 0,.bin .sub (.aa 1) (.i 1)]]))] [],.ite (.cmp .eq (.aa 2) (.i 8)) [.ret (some (.af [.s "foreach",.aa 3,.sub (.bJ [.af [.s "mys",.i 1],.af [.s "globs",.s "main::x"]]) (.k 118 [.aa 0,.i 2]),.k 122 [.aa 0,.aa 1],.k 123 [.aa 0,.bin .sub (.aa 1) (.i 1)]]))] [],.ret (some (.af [.s "expr",.i 1,.k 125 [.aa 0,.aa 1]]))]⟩
noncomputable def tQ:Fn:=⟨1,6,[.cO 1 (.sub (.aa 0) (.i 0)),.ite (.kI false [.cmp .eq (.aa 1) (.s "append"),.cmp .eq (.aa 1) (.s "substrlv")]) [.ret (some (.af [.sub (.aa 0) (.i 1),.i 1]))] [],.ite (.cmp .eq (.aa 1) (.s "func")) [.ret (some (.af [.sub (.aa 0) (.i 2),.ite (.cmp .gt (.sub (.aa 0) (.i 3)) (.i 0)) (.i 1) (.i 0)]))] [],.ite (.cmp .eq (.aa 1) (.s "subreturn")) [.ret (some (.af [.ite (.cmp .gt (.sub (.aa 0) (.i 1)) (.i 0)) (.i 1) (.i 0),.i 0]))] [],.ite (.cmp .isin (.aa 1) (.k 116 [])) [.fM [2,3] (.sub (.k 116 []) (.aa 1)),.ret (some (.af [.aa 2,.ite (.cmp .gt (.sub (.aa 0) (.aa 3)) (.i 0)) (.i 1) (.i 0)]))] [],.ret (some (.sub (.comp (.af [.aa 4,.aa 5]) false [4,5,6] (.aA 144) (some (.cmp .isin (.aa 1) (.aa 6)))) (.i 0)))]⟩
noncomputable def tR:Fn:=⟨3,1,[.cO 3 (.sub (.aa 0) (.i 0)),.ite (.cmp .eq (.aa 3) (.s "unwind")) [.ret (some (.af [.sub (.aa 0) (.i 1),.sub (.aa 0) (.i 2)]))] [],.cO 1 (.bin .add (.aa 1) (.ite (.cmp .eq (.aa 3) (.s "enter")) (.i 1) (.ite (.cmp .eq (.aa 3) (.s "leave")) (.i (-1)) (.i 0)))),.ret (some (.af [.aa 1,.bin .add (.aa 2) (.ite (.cmp .eq (.aa 3) (.s "begin")) (.i 1) (.ite (.cmp .isin (.aa 3) (.af [.s "settle",.s "forget"])) (.i (-1)) (.i 0)))]))]⟩
noncomputable def iS:Fn:=⟨2,9,[.cO 2 (.comp (.sub (.aa 0) (.aa 8)) true [8] (.get (.aA 145) (.sub (.aa 0) (.i 0)) (.bJ [])) none),.ite (.kI false [.cmp .ne (.len (.aa 0)) (.get (.k 117 []) (.sub (.aa 0) (.i 0)) (.len (.aa 0))),.cmp .ne (.comp (.aa 9) true [9] (.aa 2) (some (.not (.chain (.i 0) .le (.aa 9) .lt (.aa 1))))) (.bJ [])]) [.ret (some (.aI (.bool false)))] [],.fM [3,4] (.k 127 [.aa 0]),.cO 5 (.cmp .isin (.sub (.aa 0) (.i 0)) (.af [.s "jump",.s "bywant",.s "return0",.s "return1",.s "return2",.s "subreturn",.s "loopleave",.s "refuse"])),.ite (.kI false [.cmp .ne (.k 2 [.aa 0]) (.af [.aa 3,.aa 4]),.cmp .ne (.k 3 [.aa 0]) (.aa 2),.cmp .eq (.k 5 [.aa 0]) (.aa 5)]) [.ret (some (.aI (.bool false)))] [],.cO 6 (.ite (.cmp .isin (.sub (.aa 0) (.i 0)) (.af [.s "orjump",.s "andjump",.s "dorjump"])) (.i 1) (.ite (.cmp .eq (.sub (.aa 0) (.i 0)) (.s "next")) (.i (-1)) (.i 0))),.cO 7 (.bin .add (.ite (.aa 5) (.bJ []) (.bJ [.af [.i (-1),.bin .sub (.aa 4) (.aa 3)]])) (.comp (.af [.aa 10,.bin .add (.bin .sub (.aa 4) (.aa 3)) (.aa 6)]) true [10] (.aa 2) none)),.ret (some (.cmp .eq (.k 6 [.aa 0]) (.aa 7)))]⟩
noncomputable def ir:Fn:=⟨1,15,[.cO 1 (.attr (.aa 0) "rows"),.ite (.cmp .ne (.comp (.aa 14) true [14] (.aa 1) (some (.not (.k 129 [.aa 14,.len (.aa 1)])))) (.bJ [])) [.ret (some (.aI (.bool false)))] [],.cO 2 (.iZ [] []),.cO 3 (.oj [.af [.i 0,.af [.i 0,.i 0,.i 0]]]),.while (.cmp .ne (.aa 3) (.bJ [])) [.fM [4,5] (.pop (.aa 3)),.ite (.kI false [.cmp .ge (.aa 4) (.len (.aa 1)),.cmp .ne (.get (.aa 2) (.aa 4) (.aa 5)) (.aa 5)]) [.ret (some (.aI (.bool false)))] [],.ite (.cmp .isin (.aa 4) (.aa 2)) [.cont] [],.om (.aa 2) (.aa 4) (.aa 5),.cO 6 (.sub (.aa 1) (.aa 4)),.fM [7,8,9] (.aa 5),.ite (.kI false [.cmp .lt (.aa 7) (.sub (.k 127 [.aa 6]) (.i 0)),.cmp .lt (.min (.aa 5)) (.i 0)]) [.ret (some (.aI (.bool false)))] [],.ite (.kI true [.cmp .isin (.sub (.aa 6) (.i 0)) (.af [.s "return0",.s "return1",.s "return2"]),.cmp .lt (.aa 7) (.ite (.cmp .eq (.sub (.aa 6) (.i 0)) (.s "return0")) (.i 0) (.i 1))]) [.ret (some (.aI (.bool false)))] [],.cO 10 (.k 128 [.aa 6,.aa 8,.aa 9]),.for false [11,12] (.k 6 [.aa 6]) [.expr (.append (.aa 3) (.af [.ite (.cmp .lt (.aa 11) (.i 0)) (.bin .add (.aa 4) (.i 1)) (.aa 11),.bin .add (.af [.bin .add (.aa 7) (.aa 12)]) (.aa 10)]))]],.cO 13 (.get (.aa 2) (.bin .sub (.len (.aa 1)) (.i 1)) (.af [.ite (.cmp .eq (.sub (.sub (.aa 1) (.i (-1))) (.i 0)) (.s "return0")) (.i 0) (.i 1),.i 0,.i 0])),.ite (.kI false [.cmp .ne (.slice (.sub (.sub (.aa 1) (.i (-1))) (.i 0)) none (some (.i 6))) (.s "return"),.cmp .ne (.aa 13) (.af [.ite (.cmp .eq (.sub (.sub (.aa 1) (.i (-1))) (.i 0)) (.s "return0")) (.i 0) (.i 1),.i 0,.i 0])]) [.ret (some (.aI (.bool false)))] [],.ret (some (.cmp .eq (.comp (.aa 15) true [15] (.attr (.aa 0) "subs") (some (.not (.k 130 [.aa 15])))) (.bJ [])))]⟩
noncomputable def I0:Fn:=⟨1,7,[.cO 1 (.iZ [.str "script",.str "at"] [.slice (.aa 0) none (some (.i 50)),.i 0]),.cO 2 (.af [.s "block",.comp (.k 126 [.aa 1,.i 3]) true [7] (.range [.bin .add (.i 1) (.k 118 [.aa 1,.i 3])]) none]),.cO 3 (.k 37 []),.for true [4] (.af [.k 103 [],.k 78 [],.k 87 [],.k 88 [],.k 52 []]) [.expr (.update (.aa 3) (.aa 4))],.expr (.update (.aa 3) (.k 115 [])),.cO 5 (.k 51 []),.expr (.update (.aa 5) (.k 114 [])),.cO 6 (.nQ [.str "nodes",.str "lvs",.str "statements"] [.r9 (.aa 3),.r9 (.k 69 []),.r9 (.aa 5)]),.ret (some (.k 130 [.k 56 [.aa 6,.af [.s "program",.aa 2,.i 6]]]))]⟩
noncomputable def kL:Fn:=⟨6,0,[.eW (.aa 0) "rows" (.aa 1),.eW (.aa 0) "name" (.aa 2),.eW (.aa 0) "pad_size" (.aa 3),.eW (.aa 0) "captures" (.aa 4),.eW (.aa 0) "subs" (.aa 5)]⟩
noncomputable def AU:Fn:=⟨4,0,[.eW (.aa 0) "tables" (.aa 1),.eW (.aa 0) "is_sub" (.aa 2),.eW (.aa 0) "lays_subs" (.aa 3),.eW (.aa 0) "rows" (.oj []),.eW (.aa 0) "marks" (.oj []),.eW (.aa 0) "height" (.i 0),.eW (.aa 0) "scopes" (.i 0),.eW (.aa 0) "starts" (.i 0),.eW (.aa 0) "loops" (.oj []),.eW (.aa 0) "subs" (.oj [])]⟩
noncomputable def qj:Fn:=⟨3,0,[.eW (.aa 0) "label" (.aa 2),.eW (.aa 0) "marks" (.nQ [.str "next",.str "last",.str "redo"] [.k 8 [.aa 1],.k 8 [.aa 1],.k 8 [.aa 1]]),.eW (.aa 0) "height" (.attr (.aa 1) "height"),.eW (.aa 0) "scopes" (.attr (.aa 1) "scopes"),.eW (.aa 0) "starts" (.attr (.aa 1) "starts")]⟩
noncomputable def ao:List Fn:=[jr,AG,yF,AH,nt,C5,i6,QY,AI,AJ,gK,vV,nR,nu,ow,tB,vW,tC,rI,vX,nS,tD,yG,vY,nT,qe,vZ,qf,C6,GD,C7,v7,AK,AL,yH,v8,v9,yI,rJ,wc,rK,wh,iQ,dR,nv,yJ,C8,rL,rM,AM,tE,wk,wm,AN,jK,iR,rN,yK,AO,wo,ig,yL,qg,wu,rO,oz,wA,tF,wB,tG,wC,rP,AP,rQ,tH,oA,oB,yM,lu,yN,AQ,wD,tK,wF,tL,qh,tM,yO,yP,m8,nU,yQ,AR,qi,rR,oE,tN,tP,yR,qO,jL,ny,AS,yS,rT,wG,wH,wI,rU,yT,rV,yU,nA,oF,yV,wJ,wK,rW,oG,i7,jM,nV,oH,i8,oJ,jN,fO,tQ,tR,iS,ir,I0,kL,AU,qj]
noncomputable def i9:V:=(.af [.str "&",.str "`",.str "'",.str "+"])
noncomputable def C9:V:=(.int 0)
noncomputable def tS:V:=(.cM [(.str "const",.af [.int 0,.int 1,.str "-"]),(.str "empty",.af [.int 0,.int 1,.str ""]),(.str "drop",.af [.int 1,.int 0,.str ""]),(.str "dup",.af [.int 1,.int 2,.str ""]),(.str "swap",.af [.int 2,.int 2,.str ""]),(.str "wrap",.af [.int 1,.int 1,.str ""]),(.str "append",.af [.int 0,.int 1,.str "n"]),(.str "copy",.af [.int 1,.int 1,.str ""]),(.str "count",.af [.int 1,.int 1,.str ""]),(.str "final",.af [.int 1,.int 1,.str ""]),(.str "refuse",.af [.int 0,.int 1,.str "-"]),(.str "pad",.af [.int 0,.int 1,.str "--"]),(.str "my",.af [.int 0,.int 1,.str "--"]),(.str "glob",.af [.int 0,.int 1,.str "--"]),(.str "matchvar",.af [.int 0,.int 1,.str "-"]),(.str "fetch",.af [.int 1,.int 1,.str ""]),(.str "ascalar",.af [.int 1,.int 1,.str ""]),(.str "newscalar",.af [.int 1,.int 1,.str ""]),(.str "vivify",.af [.int 1,.int 1,.str "-"]),(.str "deref",.af [.int 1,.int 1,.str "-"]),(.str "items",.af [.int 1,.int 1,.str ""]),(.str "size",.af [.int 1,.int 1,.str ""]),(.str "pairs",.af [.int 1,.int 1,.str ""]),(.str "keycount",.af [.int 1,.int 1,.str ""]),(.str "lastidx",.af [.int 1,.int 1,.str ""]),(.str "elem",.af [.int 2,.int 1,.str ""]),(.str "helem",.af [.int 2,.int 1,.str ""]),(.str "elemat",.af [.int 2,.int 1,.str ""]),(.str "helemat",.af [.int 2,.int 1,.str ""]),(.str "elemlv",.af [.int 2,.int 1,.str ""]),(.str "helemlv",.af [.int 2,.int 1,.str ""]),(.str "aslice",.af [.int 2,.int 1,.str ""]),(.str "hslice",.af [.int 2,.int 1,.str ""]),(.str "aslicelv",.af [.int 2,.int 1,.str ""]),(.str "hslicelv",.af [.int 2,.int 1,.str ""]),(.str "lslice",.af [.int 2,.int 1,.str ""]),(.str "substrlv",.af [.int 0,.int 1,.str "n"]),(.str "veclv",.af [.int 3,.int 1,.str ""]),(.str "poslv",.af [.int 1,.int 1,.str ""]),(.str "ref",.af [.int 1,.int 1,.str ""]),(.str "refvalue",.af [.int 1,.int 1,.str ""]),(.str "elemrefs",.af [.int 1,.int 1,.str ""]),(.str "anona",.af [.int 1,.int 1,.str ""]),(.str "anonh",.af [.int 1,.int 1,.str ""]),(.str "closure",.af [.int 0,.int 1,.str "-"]),(.str "definesub",.af [.int 0,.int 0,.str "-"]),(.str "code",.af [.int 0,.int 1,.str "-"]),(.str "codefor",.af [.int 0,.int 1,.str "-"]),(.str "assign",.af [.int 2,.int 1,.str ""]),(.str "opassign",.af [.int 2,.int 1,.str "-"]),(.str "aassign",.af [.int 2,.int 1,.str "w"]),(.str "members",.af [.int 1,.int 1,.str ""]),(.str "lasttarget",.af [.int 1,.int 1,.str ""]),(.str "preinc",.af [.int 1,.int 1,.str ""]),(.str "predec",.af [.int 1,.int 1,.str ""]),(.str "postinc",.af [.int 1,.int 1,.str ""]),(.str "postdec",.af [.int 1,.int 1,.str ""]),(.str "localglob",.af [.int 0,.int 1,.str "--"]),(.str "localelem",.af [.int 2,.int 1,.str ""]),(.str "localhelem",.af [.int 2,.int 1,.str ""]),(.str "localaslice",.af [.int 2,.int 1,.str ""]),(.str "localhslice",.af [.int 2,.int 1,.str ""]),(.str "bin",.af [.int 2,.int 1,.str "-"]),(.str "xor",.af [.int 2,.int 1,.str ""]),(.str "un",.af [.int 1,.int 1,.str "-"]),(.str "joinlist",.af [.int 1,.int 1,.str ""]),(.str "text",.af [.int 1,.int 1,.str ""]),(.str "wanted",.af [.int 0,.int 1,.str ""]),(.str "repeat",.af [.int 2,.int 1,.str ""]),(.str "range",.af [.int 2,.int 1,.str ""]),(.str "jump",.af [.int 0,.int 0,.str "j"]),(.str "iffalse",.af [.int 1,.int 0,.str "j"]),(.str "iftrue",.af [.int 1,.int 0,.str "j"]),(.str "ifdef",.af [.int 1,.int 0,.str "j"]),(.str "orjump",.af [.int 1,.int 0,.str "j"]),(.str "andjump",.af [.int 1,.int 0,.str "j"]),(.str "dorjump",.af [.int 1,.int 0,.str "j"]),(.str "bywant",.af [.int 0,.int 0,.str "jjj"]),(.str "iter",.af [.int 1,.int 1,.str ""]),(.str "next",.af [.int 1,.int 2,.str "j"]),(.str "bindpad",.af [.int 1,.int 0,.str "-"]),(.str "bindglob",.af [.int 1,.int 0,.str "-"]),(.str "return0",.af [.int 0,.int 0,.str ""]),(.str "return1",.af [.int 1,.int 0,.str ""]),(.str "return2",.af [.int 1,.int 0,.str ""]),(.str "subreturn",.af [.int 0,.int 0,.str "s"]),(.str "enter",.af [.int 0,.int 0,.str ""]),(.str "leave",.af [.int 0,.int 0,.str ""]),(.str "begin",.af [.int 0,.int 0,.str ""]),(.str "settle",.af [.int 0,.int 0,.str ""]),(.str "resettle",.af [.int 0,.int 0,.str ""]),(.str "forget",.af [.int 0,.int 0,.str ""]),(.str "line",.af [.int 0,.int 0,.str "-"]),(.str "package",.af [.int 0,.int 0,.str "-"]),(.str "loop",.af [.int 0,.int 0,.str "-jjj"]),(.str "endloop",.af [.int 0,.int 0,.str ""]),(.str "unwind",.af [.int 0,.int 0,.str "---"]),(.str "loopleave",.af [.int 0,.int 0,.str "--"]),(.str "call",.af [.int 2,.int 1,.str "w"]),(.str "callsame",.af [.int 1,.int 1,.str "w"]),(.str "method",.af [.int 2,.int 1,.str "-w"]),(.str "func",.af [.int 0,.int 1,.str "-nw"]),(.str "map",.af [.int 1,.int 1,.str "-"]),(.str "grep",.af [.int 1,.int 1,.str "-"]),(.str "sort",.af [.int 1,.int 1,.str "--"]),(.str "match",.af [.int 2,.int 1,.str "--w"]),(.str "subst",.af [.int 2,.int 1,.str "--"]),(.str "trans",.af [.int 1,.int 1,.str "---"]),(.str "split",.af [.int 3,.int 1,.str "-w"]),(.str "delete",.af [.int 2,.int 1,.str "-"]),(.str "exists",.af [.int 2,.int 1,.str "-"]),(.str "isdef",.af [.int 1,.int 1,.str ""]),(.str "codethere",.af [.int 0,.int 1,.str "-"]),(.str "evalblock",.af [.int 0,.int 1,.str "-w"]),(.str "evalstr",.af [.int 1,.int 1,.str "--w"])])
noncomputable def GF:V:=(.af [.str "jump",.str "bywant",.str "return0",.str "return1",.str "return2",.str "subreturn",.str "loopleave",.str "refuse"])
noncomputable def gY:V:=(.cM [(.str "orjump",.int 1),(.str "andjump",.int 1),(.str "dorjump",.int 1),(.str "next",.int (-1))])
noncomputable def Dc:V:=(.int 0)
noncomputable def I1:V:=(.int 1)
noncomputable def QZ:V:=(.int 2)
noncomputable def yW:V:=(.af [.str "pada",.str "globa",.str "rv2a",.str "aslice",.str "hslice"])
noncomputable def jt:V:=(.af [.str "substr",.str "vec",.str "pos"])
noncomputable def lz:V:=(.cM [(.str "pads",.str "S"),(.str "pada",.str "A"),(.str "padh",.str "H"),(.str "mys",.str "S"),(.str "mya",.str "A"),(.str "myh",.str "H"),(.str "globs",.str "S"),(.str "globa",.str "A"),(.str "globh",.str "H")])
noncomputable def nB:V:=(.af [.str "pada",.str "globa",.str "rv2a",.str "mya"])
noncomputable def yX:V:=(.aC [.af [.int 0,.int 1,.aC [.str "const",.str "empty",.str "refuse",.str "pad",.str "my",.str "glob",.str "matchvar",.str "closure",.str "code",.str "codefor",.str "localglob",.str "wanted",.str "codethere"]],.af [.int 1,.int 1,.aC [.str "wrap",.str "copy",.str "count",.str "final",.str "fetch",.str "ascalar",.str "newscalar",.str "vivify",.str "deref",.str "items",.str "size",.str "pairs",.str "keycount",.str "lastidx",.str "poslv",.str "ref",.str "refvalue",.str "elemrefs",.str "anona",.str "anonh",.str "members",.str "lasttarget",.str "preinc",.str "predec",.str "postinc",.str "postdec",.str "un",.str "joinlist",.str "text",.str "iter",.str "map",.str "grep",.str "sort",.str "trans",.str "isdef"]],.af [.int 2,.int 1,.aC [.str "elem",.str "helem",.str "elemat",.str "helemat",.str "elemlv",.str "helemlv",.str "aslice",.str "hslice",.str "aslicelv",.str "hslicelv",.str "lslice",.str "assign",.str "opassign",.str "localelem",.str "localhelem",.str "localaslice",.str "localhslice",.str "bin",.str "xor",.str "repeat",.str "range",.str "subst",.str "delete",.str "exists"]],.af [.int 3,.int 1,.aC [.str "veclv"]],.af [.int 1,.int 2,.aC [.str "dup",.str "next"]],.af [.int 2,.int 2,.aC [.str "swap"]],.af [.int 1,.int 0,.aC [.str "drop",.str "iffalse",.str "iftrue",.str "ifdef",.str "orjump",.str "andjump",.str "dorjump",.str "bindpad",.str "bindglob",.str "return1",.str "return2"]],.af [.int 0,.int 0,.aC [.str "definesub",.str "jump",.str "bywant",.str "return0",.str "enter",.str "leave",.str "begin",.str "settle",.str "resettle",.str "forget",.str "line",.str "package",.str "loop",.str "endloop",.str "unwind",.str "loopleave"]]])
noncomputable def dZ:V:=(.cM [(.str "jump",.aC [.int 1]),(.str "iffalse",.aC [.int 1]),(.str "iftrue",.aC [.int 1]),(.str "ifdef",.aC [.int 1]),(.str "orjump",.aC [.int 1]),(.str "andjump",.aC [.int 1]),(.str "dorjump",.aC [.int 1]),(.str "next",.aC [.int 1]),(.str "bywant",.aC [.int 1,.int 2,.int 3]),(.str "loop",.aC [.int 2,.int 3,.int 4])])
noncomputable def rX:List (String×V):=[("is_match_name",.fn 0),("shape_of",.fn 1),("effect_of",.fn 2),("jumps_of",.fn 3),("with_jumps",.fn 4),("goes_on",.fn 5),("heights_at",.fn 6),("lay",.fn 7),("new_mark",.fn 8),("put_mark",.fn 9),("rows_with_places",.fn 10),("jump_marks",.fn 11),("code_of",.fn 12),("value_code",.fn 13),("list_code",.fn 14),("refuse_here",.fn 15),("blank_here",.fn 16),("value_given",.fn 17),("scalar_given",.fn 18),("list_given",.fn 19),("lv_code",.fn 20),("gen_literal",.fn 21),("gen_undef",.fn 22),("gen_scalar",.fn 23),("gen_glob_scalar",.fn 24),("gen_wantarray",.fn 25),("gen_interp",.fn 26),("gen_stringify",.fn 27),("gen_bin",.fn 28),("gen_un",.fn 29),("gen_xor",.fn 30),("gen_choice",.fn 31),("gen_cond",.fn 32),("gen_list",.fn 33),("gen_range",.fn 34),("gen_repeat",.fn 35),("gen_lslice",.fn 36),("base_gens",.fn 37),("scope_begins",.fn 38),("scope_ends",.fn 39),("start_begins",.fn 40),("start_ends",.fn 41),("statement_code",.fn 42),("body_code",.fn 43),("scope_code",.fn 44),("stmt_expr",.fn 45),("stmt_if",.fn 46),("stmt_package",.fn 47),("stmt_nothing",.fn 48),("stmt_sub",.fn 49),("gen_doblock",.fn 50),("plain_gens",.fn 51),("block_gens",.fn 52),("sub_code",.fn 53),("blocks_in",.fn 54),("lay_named_subs",.fn 55),("program_code",.fn 56),("lv_of_pad",.fn 57),("lv_of_my",.fn 58),("lv_of_glob",.fn 59),("is_settable",.fn 60),("lv_of_ref",.fn 61),("lv_of_element",.fn 62),("lv_of_cond",.fn 63),("lv_of_assign",.fn 64),("lv_of_opassign",.fn 65),("lv_of_step",.fn 66),("lv_of_local",.fn 67),("lv_of_func",.fn 68),("all_lv_gens",.fn 69),("gen_assign",.fn 70),("gen_opassign",.fn 71),("gen_step",.fn 72),("targets_code",.fn 73),("gen_aassign",.fn 74),("localized_code",.fn 75),("localized_list",.fn 76),("gen_local",.fn 77),("assign_gens",.fn 78),("code_here",.fn 79),("gen_call",.fn 80),("gen_method",.fn 81),("gen_anonsub",.fn 82),("gen_return",.fn 83),("closed_code",.fn 84),("gen_evalblock",.fn 85),("gen_evalstr",.fn 86),("call_gens",.fn 87),("eval_gens",.fn 88),("array_given_here",.fn 89),("hash_given_here",.fn 90),("gen_array",.fn 91),("gen_hash",.fn 92),("gen_ref_array",.fn 93),("gen_ref_hash",.fn 94),("gen_ref_scalar",.fn 95),("gen_lastidx",.fn 96),("gen_element",.fn 97),("gen_slice",.fn 98),("ref_code",.fn 99),("refs_code",.fn 100),("gen_refgen",.fn 101),("gen_anon",.fn 102),("data_gens",.fn 103),("round_begins",.fn 104),("round_ends",.fn 105),("last_comes",.fn 106),("stmt_while",.fn 107),("stmt_dowhile",.fn 108),("stmt_cfor",.fn 109),("stmt_foreach",.fn 110),("stmt_bare",.fn 111),("loop_meant",.fn 112),("gen_leave",.fn 113),("loop_gens",.fn 114),("leave_gens",.fn 115),("_law_wants",.fn 116),("_law_lengths",.fn 117),("_law_pull",.fn 118),("_law_array",.fn 119),("_law_hash",.fn 120),("_law_lv",.fn 121),("_law_list",.fn 122),("_law_block",.fn 123),("_law_call",.fn 124),("_law_node",.fn 125),("_law_statement",.fn 126),("_law_effect",.fn 127),("_law_depths",.fn 128),("_law_row_right",.fn 129),("_law_code_right",.fn 130),("law",.fn 131),("MATCH_SIGNS",i9),("VOID_ops",C9),("SHAPES",tS),("LEAVING",GF),("KEEPING",gY),("VOID_gen",Dc),("SCALAR",I1),("LIST",QZ),("MANY_WORDS",yW),("SETTABLE_FUNCS",jt),("PAD_KINDS",lz),("ARRAY_WORDS",nB),("_law_table",yX),("_law_places",dZ)]
noncomputable def EE:List (List String):=[["name","sign"],["op","shape"],["op","taken","left","parts","at"],["op","parts"],["op","places","parts","made","used","at"],["op"],["op","taken","left","change","found","place"],["gen","row","taken","left"],["gen"],["gen","mark","height"],["gen","rows","row","parts"],["row"],["gen","node","want","nodes"],["gen","node"],["gen","node"],["gen","text","want"],["gen","want"],["gen","want"],["gen","want"],["gen","want"],["gen","node","lvs"],["gen","node","want"],["gen","node","want"],["gen","node","want"],["gen","node","want"],["gen","node","want"],["gen","node","want","part"],["gen","node","want"],["gen","node","want"],["gen","node","want"],["gen","node","want"],["gen","node","want","behind","decided"],["gen","node","want","other","behind","height"],["gen","node","want","part"],["gen","node","want"],["gen","node","want"],["gen","node","want"],[],["gen"],["gen"],["gen"],["gen","word"],["gen","stmt","want","statements"],["gen","block","want","at"],["gen","block","want"],["gen","stmt","want"],["gen","stmt","want","height","behind","at","condition","block","other","keeps"],["gen","stmt","want"],["gen","stmt","want"],["gen","stmt","want"],["gen","node","want"],[],[],["tables","sub","gen","block","stmt","marks","want"],["stmt"],["gen","block","stmt","inner"],["tables","tree","gen"],["gen","node"],["gen","node"],["gen","node"],["gen","node"],["gen","node","kind"],["gen","node"],["gen","node","other","behind","height"],["gen","node"],["gen","node","behind"],["gen","node"],["gen","node"],["gen","node","name","nodes","one"],[],["gen","node","want"],["gen","node","want"],["gen","node","want"],["gen","node","part"],["gen","node","want"],["gen","node"],["gen","node","part"],["gen","node","want"],["found","word"],["gen","node"],["gen","node","want"],["gen","node","want"],["gen","node","want"],["gen","node","want","height","marks","wanted"],["gen","inner","want"],["gen","node","want","inner"],["gen","node","want"],[],[],["gen","want"],["gen","want"],["gen","node","want"],["gen","node","want"],["gen","node","want"],["gen","node","want"],["gen","node","want"],["gen","node","want"],["gen","node","want"],["gen","node","want"],["gen","node"],["gen","nodes","node"],["gen","node","want"],["gen","node","want"],[],["gen","label","loop"],["gen","loop"],["gen","loop"],["gen","stmt","want","word","label","condition","block","after","is_until","top","done","loop"],["gen","stmt","want","top"],["gen","stmt","want","word","label","init","condition","step","block","top","done","loop"],["gen","stmt","want","word","label","variable","listed","block","top","done","height","loop"],["gen","stmt","want","behind","loop"],["gen","label","at"],["gen","node","want","height","count","loop"],[],[],[],[],["state","size","at","script"],["state","depth","way"],["state","depth","way"],["state","depth","way"],["state","depth"],["state","depth"],["state","depth","way"],["state","depth","way"],["state","depth","way","label","other","after"],["row","word","taken","place"],["row","scopes","starts","word"],["row","size","goals","taken","left","ends","more","due"],["code","rows","seen","line","at","depths","row","height","scopes","starts","deeper","place","change","last"],["script","state","block","nodes","some","statements","tables"],["self","rows","name","pad_size","captures","subs"],["self","tables","is_sub","lays_subs"],["self","gen","label"]]
noncomputable def iu:List (String×Nat):=[("OpsCode",132),("Gen",133),("OpenLoop",134)]
noncomputable def I2:List String:=["captures","height","is_sub","label","lays_subs","loops","marks","name","pad_size","rows","scopes","starts","subs","tables"]
noncomputable def aj:List V:=rX.map (·.2)
end Mine
namespace Mine
open PySem PySem.W PyProof.Rows
variable {M:Model}{A:Around}{α:Type}{E:Value->Shared->Prop}{h h':Heap}{a:Addr}{o:Obj}{ws:Array Value}{tk:Nat}
theorem wb{β:Type}{m:Sem α}{f:α->Sem β}{Q:β->Shared->Prop}{s:Shared}(h:wpAny M A m (λa s'=>wpAny M A (f a) Q E s') E s):wpAny M A (m >>=f) Q E s:=wpAny_bind h
theorem wq{a:α}{Q:α->Shared->Prop}{s:Shared}(h:Q a s):wpAny M A (pure a) Q E s:=wpAny_pure h
theorem ju(o:Obj){x:Obj}(e:h.get? a=some x):(h.push o).get? a=some x:=Heap.get?_push_of_some o e
structure PV where
 prog:Program
 w:World
 h₀:Heap
 K:Frag
 fa:Nat->Addr
 ca:String->Option Addr
 gt:List V
 mg:Str->Option Value
 mb:Str->Option Value
noncomputable abbrev fz:=List (Addr×Addr)
section
variable (P:PV)(h:Heap)(M:Addr->Prop)(φ:fz)
mutual
noncomputable def aK:V->Value->Prop
 |.ah,aR=>False
 |.none,w=>w=.none
 |.bool b,w=>w=.bool b
 |.int i,w=>∃t,w=.int i t
 |.str s,w=>∃t,w=.str (Str.ofString s) t
 |.af xs,w=>∃a ws,w=.ref a/\¬ M a/\h.IsTuple a ws/\aM xs ws.toList
 |.aC xs,w=>∃a ws,w=.ref a/\¬ M a/\h.IsList a ws/\aM xs ws.toList
 |.cM kvs,w=>∃a l,w=.ref a/\¬ M a/\a≠sysModules/\h.DictOf (strKind P.prog P.w) a l/\bB kvs l
 |.obj c kvs,w=>∃x dx ca es n,w=.ref x/\¬ M x/\¬ M dx/\P.ca c=some ca/\h.get? x=some (instObj ca dx)/\h.get? dx=some (dictOf es n)/\e8 kvs es
 |.k8 a b c,w=>∃r t u v,w=.ref r/\¬ M r/\IsRange h r a b c t u v
 |.ref n,w=>∃c,φ[n]?=some c/\w=.ref c.1
 |.fn k,w=>w=.ref (P.fa k)
noncomputable def aM:List V->List Value->Prop
 |[],ws=>ws=[]
 |x::xs,ws=>∃w r,ws=w::r/\aK x w/\aM xs r
noncomputable def bB:List (V×V)->List (Str×Value)->Prop
 |[],l=>l=[]
 |(k,v)::r,l=>∃s w l',l=(Str.ofString s,w)::l'/\k=.str s/\aK v w/\bB r l'
noncomputable def e8:List (String×V)->List DictEntry->Prop
 |[],es=>es=[]
 |(k,v)::r,es=>∃hs t w l',es=⟨hs,.str (Str.ofString k) t,w⟩::l'/\aK v w/\e8 r l'
end
end
theorem wi{c:Prop}[Decidable c]{a b:Sem α}{Q:α->Shared->Prop}{s:Shared}(h:c)(k:wpAny M A a Q E s):wpAny M A (ite c a b) Q E s:=by rw[if_pos h];exact k
theorem wn{c:Prop}[Decidable c]{a b:Sem α}{Q:α->Shared->Prop}{s:Shared}(h:¬ c)(k:wpAny M A b Q E s):wpAny M A (ite c a b) Q E s:=by rw[if_neg h];exact k
theorem we{a b:Sem α}{Q:α->Shared->Prop}{s:Shared}(h:a=b)(k:wpAny M A b Q E s):wpAny M A a Q E s:=h▸k
section
variable {P:PV}{h h':Heap}{M M':Addr->Prop}{φ bF:fz}
structure d9 (h:Heap) (M:Addr->Prop) (φ:fz) (h':Heap) (M':Addr->Prop) (bF:fz):Prop where
 keep:∀a o,h.get? a=some o->¬ M a->h'.get? a=some o
 m:∀a o,h.get? a=some o->M' a->M a
 sd:∀(n:Nat) (c:Addr×Addr),φ[n]?=some c->bF[n]?=some c
theorem d9.at(g:d9 h M φ h' M' bF)(e:h.get? a=some o)(n:¬ M a):h'.get? a=some o/\¬ M' a:=⟨g.keep a o e n,λq=>n (g.m a o e q)⟩
theorem d9.af(g:d9 h M φ h' M' bF)(t:h.IsTuple a ws)(n:¬ M a):h'.IsTuple a ws/\¬ M' a:=by
 exact t.elim λo r=>⟨⟨o,(g.at r.1 n).1,r.2⟩,(g.at r.1 n).2⟩
theorem d9.aC(g:d9 h M φ h' M' bF)(t:h.IsList a ws)(n:¬ M a):h'.IsList a ws/\¬ M' a:=by
 exact t.elim λo r=>⟨⟨o,(g.at r.1 n).1,r.2⟩,(g.at r.1 n).2⟩
theorem d9.cM(g:d9 h M φ h' M' bF){K:Type}[DecidableEq K]{knd:KeyKind P.prog P.w K}{l:List (K×Value)}(t:h.DictOf knd a l)(n:¬ M a):h'.DictOf knd a l/\¬ M' a:=by
 exact t.elim λo t=>t.elim λes t=>t.elim λep r=>⟨⟨o,es,ep,(g.at r.1 n).1,r.2⟩,(g.at r.1 n).2⟩
mutual
theorem aK.mono(g:d9 h M φ h' M' bF):∀(v:V) {w:Value},aK P h M φ v w->aK P h' M' bF v w
 |.ah,aR,r=>r.elim
 |.none,aR,r=>r
 |.bool aR,dm,r=>r
 |.int aR,dm,r=>r
 |.str aR,dm,r=>r
 |.af xs,aR,r=>r.imp λY r=>r.imp λY r=>⟨r.1,(g.af r.2.2.1 r.2.1).2,(g.af r.2.2.1 r.2.1).1,aM.mono g xs r.2.2.2⟩
 |.aC xs,aR,r=>r.imp λY r=>r.imp λY r=>⟨r.1,(g.aC r.2.2.1 r.2.1).2,(g.aC r.2.2.1 r.2.1).1,aM.mono g xs r.2.2.2⟩
 |.cM kvs,aR,r=>r.imp λY r=>r.imp λY r=>⟨r.1,(g.cM r.2.2.2.1 r.2.1).2,r.2.2.1,(g.cM r.2.2.2.1 r.2.1).1,bB.mono g kvs r.2.2.2.2⟩
 |.obj aR kvs,dm,r=>r.imp λY r=>r.imp λY r=>r.imp λY r=>r.imp λY r=>r.imp λY r=>r.imp id λr=>⟨(g.at r.2.2.2.1 r.1).2,(g.at r.2.2.2.2.1 r.2.1).2,r.2.2.1,(g.at r.2.2.2.1 r.1).1,(g.at r.2.2.2.2.1 r.2.1).1,e8.mono g kvs r.2.2.2.2.2⟩
 |.k8 ..,aR,r=>r.imp λY r=>r.imp λY r=>r.imp λY r=>r.imp λY r=>⟨r.1,(g.at r.2.2 r.2.1).2,(g.at r.2.2 r.2.1).1⟩
 |.ref aR,dm,r=>r.imp λc r=>⟨g.sd _ _ r.1,r.2⟩
 |.fn aR,dm,r=>r
theorem aM.mono(g:d9 h M φ h' M' bF):∀(xs:List V) {ws:List Value},aM P h M φ xs ws->aM P h' M' bF xs ws
 |[],aR,r=>r
 |x::xs,aR,r=>r.imp λY r=>r.imp λY r=>⟨r.1,aK.mono g x r.2.1,aM.mono g xs r.2.2⟩
theorem bB.mono(g:d9 h M φ h' M' bF):∀(xs:List (V×V)) {ws:List (Str×Value)},bB P h M φ xs ws->bB P h' M' bF xs ws
 |[],aR,r=>r
 |(aR,v)::xs,dm,r=>r.imp λY r=>r.imp λY r=>r.imp λY r=>⟨r.1,r.2.1,aK.mono g v r.2.2.1,bB.mono g xs r.2.2.2⟩
theorem e8.mono(g:d9 h M φ h' M' bF):∀(xs:List (String×V)) {ws:List DictEntry},e8 P h M φ xs ws->e8 P h' M' bF xs ws
 |[],aR,r=>r
 |(aR,v)::xs,dm,r=>r.imp λY r=>r.imp λY r=>r.imp λY r=>r.imp λY r=>⟨r.1,aK.mono g v r.2.1,e8.mono g xs r.2.2⟩
end
end
noncomputable def iw(P:PV)(h:Heap)(M:Addr->Prop)(φ:fz):List (V×V)->List (Int×Value)->Prop
 |[],l=>l=[]
 |(k,v)::r,l=>∃i w l',l=(i,w)::l'/\k=.int i/\aK P h M φ v w/\iw P h M φ r l'
theorem iw.mono{P:PV}{M M':Addr->Prop}{φ bF:fz}(g:d9 h M φ h' M' bF):∀(xs:List (V×V)) {ws:List (Int×Value)},iw P h M φ xs ws->iw P h' M' bF xs ws
 |[],aR,r=>r
 |(aR,v)::xs,dm,r=>r.imp λY r=>r.imp λY r=>r.imp λY r=>⟨r.1,r.2.1,aK.mono g v r.2.2.1,iw.mono g xs r.2.2.2⟩
noncomputable def fP(P:PV)(h:Heap)(M:Addr->Prop)(φ:fz):MO->Addr×Addr->Prop
 |.dead,aR=>True
 |.list xs,c=>c.1=c.2/\M c.2/\∃ws,h.PlainList c.2 ws/\aM P h M φ xs ws.toList
 |.dict kvs,c=>c.1=c.2/\M c.2/\((∃l,h.DictOf (strKind P.prog P.w) c.2 l/\bB P h M φ kvs l)\/∃l,h.DictOf (intKind P.prog P.w) c.2 l/\iw P h M φ kvs l)
 |.inst n kvs,c=>¬ M c.1/\M c.2/\∃ca es k,P.ca n=some ca/\h.get? c.1=some (instObj ca c.2)/\h.get? c.2=some (dictOf es k)/\e8 P h M φ kvs es
noncomputable def bV(h:Heap)(a:Addr):Prop:=∃o,h.get? a=some o
structure Inv (P:PV) (Z:H) (φ:fz) (M:Addr->Prop) (s:Shared):Prop where
 sys:bV P.h₀ sysModules
 len:φ.length=Z.length
 cell:∀(n:Nat) (o:MO) (c:Addr×Addr),Z[n]?=some o->φ[n]?=some c->fP P s.heap M φ o c
 nodup:(φ.map (·.2)).Nodup
 lt:∀a,M a->bV s.heap a
 base:∀a,M a->P.h₀.get? a=none
 iy:∀a,a∈φ.map (·.2)->bV s.heap a
 iL:∀a o,P.h₀.get? a=some o->s.heap.get? a=some o
noncomputable def bI:Addr->Prop:=λY=>False
structure Step (lo:Addr->Prop) (φ:fz) (M:Addr->Prop) (s:Shared) (bF:fz) (M':Addr->Prop) (s':Shared):Prop where
 same:∃h tk,s'={s with heap:=h,toks:=tk}
 live:∀a o,s.heap.get? a=some o->bV s'.heap a
 keep:∀a o,s.heap.get? a=some o->¬ (M a/\(a∈φ.map (·.2)\/lo a))->s'.heap.get? a=some o
 sd:∀(n:Nat) (c:Addr×Addr),φ[n]?=some c->bF[n]?=some c
 new:∀a,a∈bF.map (·.2)->a∈φ.map (·.2)\/s.heap.get? a=none
 m:∀a,M' a->M a\/s.heap.get? a=none
 kM:∀a o,s.heap.get? a=some o->M a->a∉φ.map (·.2)->M' a
section
variable {lo Zv:Addr->Prop}{P:PV}{φ bF cR PI:fz}{M M' eO UG:Addr->Prop}{s s' aQ fQ:Shared}{Z:H}
theorem dw(e:h.get? a=some o):¬ h.get? a=none:=λq=>by rw[e]at q;cases q
theorem Step.refl:Step lo φ M s φ M s:=⟨⟨_,_,rfl⟩,λY o e=>⟨o,e⟩,λY Y e Y=>e,λY Y e=>e,λY e=>.inl e,λY e=>.inl e,λY Y Y e Y=>e⟩
theorem Step.grow(t:Step lo φ M s bF M' s'):d9 s.heap M φ s'.heap M' bF:=
 ⟨λa o e n=>t.keep a o e λq=>n q.1,λa Y e q=>(t.m a q).resolve_right (dw e),t.sd⟩
theorem Step.trans(a:Step lo φ M s cR eO aQ)(b:Step lo cR eO aQ PI UG fQ):Step lo φ M s PI UG fQ:=by
 have back:∀x,aQ.heap.get? x=none->s.heap.get? x=none:=λx e=>by
  cases h:s.heap.get? x with
  |none=>rfl
  |some o=>obtain⟨o',e'⟩:=a.live x o h;rw[e]at e';cases e'
 refine⟨?_,λx o e=>?_,λx o e n=>?_,λn c e=>b.sd n c (a.sd n c e),λx e=>?_,λx e=>?_,λx o e m n=>?_⟩
 ·obtain⟨h1,t1,e1⟩:=a.same
  obtain⟨h2,t2,e2⟩:=b.same;exact⟨h2,t2,by rw[e2,e1]⟩
 ·obtain⟨o',e'⟩:=a.live x o e;exact b.live x o' e'
 ·refine b.keep x o (a.keep x o e n) λq=>n ⟨(a.m x q.1).resolve_right (dw e),q.2.imp_left λq=>(a.new x q).resolve_right (dw e)⟩
 ·rcases b.new x e with q|q
  ·exact a.new x q
  ·exact .inr (back x q)
 ·rcases b.m x e with q|q
  ·exact a.m x q
  ·exact .inr (back x q)
 ·obtain⟨o',e'⟩:=a.live x o e
  exact b.kM x o' e' (a.kM x o e m n) λq=>(a.new x q).elim n (dw e)
theorem Step.tok(t:Step lo φ M s bF M' s')(k:Nat):Step lo φ M s bF M' {s' with toks:=k}:=by
 obtain⟨h1,t1,e1⟩:=t.same;exact⟨⟨h1,k,by rw[e1]⟩,t.live,t.keep,t.sd,t.new,t.m,t.kM⟩
theorem Step.weaken(t:Step lo φ M s bF M' s')(h:∀a,bV s.heap a->lo a->Zv a):Step Zv φ M s bF M' s':=
 ⟨t.same,t.live,λa o e n=>t.keep a o e λq=>n ⟨q.1,q.2.imp_right (h a ⟨o,e⟩)⟩,t.sd,t.new,t.m,t.kM⟩
theorem Inv.tok(i:Inv P Z φ M s)(k:Nat):Inv P Z φ M {s with toks:=k}:=⟨i.sys,i.len,i.cell,i.nodup,i.lt,i.base,i.iy,i.iL⟩
theorem xA{K:Type}[DecidableEq K]{knd:KeyKind P.prog P.w K}{l:List (K×Value)}(k:∀ob,h.get? a=some ob->h'.get? a=some ob)(t:h.DictOf knd a l):h'.DictOf knd a l:=
 t.imp λY t=>t.imp λY t=>t.imp λY t=>⟨k _ t.1,t.2⟩
theorem fP.mono{o:MO}{c:Addr×Addr}(g:d9 h M φ h' M' bF)(k:∀ob,h.get? c.2=some ob->h'.get? c.2=some ob)(m:M c.2->M' c.2)(r:fP P h M φ o c):fP P h' M' bF o c:=by
 cases o with
 |dead=>exact r
 |list xs=>exact⟨r.1,m r.2.1,r.2.2.imp λY r=>⟨r.1.imp λY e=>k _ e,aM.mono g xs r.2⟩⟩
 |dict kvs=>exact⟨r.1,m r.2.1,r.2.2.imp (λq=>q.imp λY q=>⟨xA k q.1,bB.mono g kvs q.2⟩) λq=>q.imp λY q=>⟨xA k q.1,iw.mono g kvs q.2⟩⟩
 |inst n kvs=>exact⟨r.2.2.elim λY q=>q.elim λY q=>q.elim λY q=>(g.at q.2.1 r.1).2,m r.2.1,r.2.2.imp λY q=>q.imp λY q=>q.imp λY q=>⟨q.1,(g.at q.2.1 r.1).1,k _ q.2.2.1,e8.mono g kvs q.2.2.2⟩⟩
theorem Inv.fresh(i:Inv P Z φ M s)(k:∀a o,s.heap.get? a=some o->h'.get? a=some o)(m:∀a,M a->M' a)(m':∀a,M' a->M a\/(s.heap.get? a=none/\bV h' a)):
  Inv P Z φ M' {s with heap:=h',toks:=tk}/\Step lo φ M s φ M' {s with heap:=h',toks:=tk}:=by
 have t:Step lo φ M s φ M' {s with heap:=h',toks:=tk}:=⟨⟨_,_,rfl⟩,λa o e=>⟨o,k a o e⟩,λa o e Y=>k a o e,λY Y e=>e,λY e=>.inl e,λa e=>(m' a e).imp_right (·.1),λa Y Y e Y=>m a e⟩;refine⟨⟨i.sys,i.len,λn o c e q=>(i.cell n o c e q).mono t.grow (λob=>k _ ob) (m _),i.nodup,λa q=>?_,λa q=>?_,λa q=>?_,λa o e=>k a o (i.iL a o e)⟩,t⟩
 ·rcases m' a q with q|q
  ·obtain⟨o,e⟩:=i.lt a q;exact⟨o,k a o e⟩
  ·exact q.2
 ·rcases m' a q with q|q
  ·exact i.base a q
  ·cases h:P.h₀.get? a with
   |none=>rfl
   |some o=>exact absurd q.1 (dw (i.iL a o h))
 ·obtain⟨o,e⟩:=i.iy a q;exact⟨o,k a o e⟩
theorem Inv.more(i:Inv P Z φ M s)(k:∀a o,s.heap.get? a=some o->h'.get? a=some o):Inv P Z φ M {s with heap:=h',toks:=tk}/\Step lo φ M s φ M {s with heap:=h',toks:=tk}:=
 i.fresh k (λY e=>e) λY e=>.inl e
theorem Step.push(lo:Addr->Prop)(o:Obj):Step lo φ M s φ M {s with heap:=s.heap.push o}:=
 ⟨⟨_,_,rfl⟩,λY o e=>⟨o,ju _ e⟩,λY Y e Y=>ju o e,λY Y e=>e,λY e=>.inl e,λY e=>.inl e,λY Y Y e Y=>e⟩
theorem Inv.push(i:Inv P Z φ M s)(o:Obj):Inv P Z φ M {s with heap:=s.heap.push o}:=
 (i.more (lo:=bI) (tk:=s.toks) λY Y e=>ju o e).1
theorem bC:h.get? h.objs.size=none:=by
 cases e:h.get? h.objs.size with
 |none=>rfl
 |some o=>exact absurd (Heap.lt_size e) (Nat.lt_irrefl _)
theorem Inv.notM(i:Inv P Z φ M s):¬ M s.heap.objs.size:=λq=>by obtain⟨o,e⟩:=i.lt _ q;rw[bC]at e;cases e
end
end Mine
namespace Mine
open PySem PySem.W PyProof.Rows PySem.Calls
variable {a b:Value}{α β:Type}{C:Prop}{o:Option MO}{xs ys:List V}{h:Heap}{ws us:Array Value}{Q:Value->Shared->Prop}{y z:V}{l2:Addr}
theorem f7(s:String):(Str.ofString s).length=s.length:=PySem.ofString_length s
theorem yY(a b:String):Str.ofString (a++b)=Str.ofString a++Str.ofString b:=by
 rw[Str.ofString_eq_toList,Str.ofString_eq_toList,Str.ofString_eq_toList];show(⟨_⟩:Str)=⟨_⟩;simp
theorem GG:∀{l m:List Char},l.map Char.toNat=m.map Char.toNat->l=m:=by
 intro l;induction l with
 |nil=>intro m e;cases m with|nil=>rfl|cons _ _=>cases e
 |cons x l ih=>
  intro m e;cases m with
  |nil=>cases e
  |cons y m=>obtain⟨e1,e2⟩:=List.cons.inj e;rw[ih e2,Char.toNat_inj.mp e1]
theorem fH{a b:String}(h:Str.ofString a=Str.ofString b):a=b:=by
 rw[Str.ofString_eq_toList,Str.ofString_eq_toList]at h;exact String.toList_inj.mp (GG (List.toArray_inj (Str.mk.inj h)))
theorem aN{a:α}(h:none=some a):C:=nomatch h
theorem dg{c:Prop}[Decidable c]{o:Option α}{z:α}(h:(if c then o else Option.none)=some z):c/\o=some z:=by
 by_cases q:c
 ·rw[if_pos q]at h;exact⟨q,h⟩
 ·rw[if_neg q]at h;exact aN h
theorem bD{c:Prop}[Decidable c]{a z:α}(h:(if c then some a else Option.none)=some z):c/\a=z:=(dg h).imp id di
theorem f9{o:Option α}{f:α->Option β}{z:β}(h:o.bind f=some z)(k:∀a,o=some a->f a=some z->C):C:=(Option.bind_eq_some_iff.mp h).elim λa h=>k a h.1 h.2
theorem nW{o:Option α}{f:α->β}{z:β}(h:o.map f=some z)(k:∀a,o=some a->f a=z->C):C:=(Option.map_eq_some_iff.mp h).elim λa h=>k a h.1 h.2
theorem I3{x:V}{i:Unit}:QU x=some i->x=.none:= @V.casesOn (λx=>QU x=some i->x=.none) x aN (λY=>rfl) (λY=>aN) (λY=>aN) (λY=>aN) (λY=>aN) (λY=>aN) (λY=>aN) (λY Y=>aN) (λY Y Y=>aN) (λY=>aN) (λY=>aN)
theorem Q0{x:V}{i:Bool}:WW x=some i->x=.bool i:= @V.casesOn (λx=>WW x=some i->x=.bool i) x aN aN (λa h=>congrArg V.bool (di h)) (λY=>aN) (λY=>aN) (λY=>aN) (λY=>aN) (λY=>aN) (λY Y=>aN) (λY Y Y=>aN) (λY=>aN) (λY=>aN)
theorem iz{x:V}{i:Int}:qb x=some i->x=.int i:= @V.casesOn (λx=>qb x=some i->x=.int i) x aN aN (λY=>aN) (λa h=>congrArg V.int (di h)) (λY=>aN) (λY=>aN) (λY=>aN) (λY=>aN) (λY Y=>aN) (λY Y Y=>aN) (λY=>aN) (λY=>aN)
theorem tU{x:V}{i:String}:PF x=some i->x=.str i:= @V.casesOn (λx=>PF x=some i->x=.str i) x aN aN (λY=>aN) (λY=>aN) (λa h=>congrArg V.str (di h)) (λY=>aN) (λY=>aN) (λY=>aN) (λY Y=>aN) (λY Y Y=>aN) (λY=>aN) (λY=>aN)
theorem tV{x:V}{i:List V}:MD x=some i->x=.af i:= @V.casesOn (λx=>MD x=some i->x=.af i) x aN aN (λY=>aN) (λY=>aN) (λY=>aN) (λa h=>congrArg V.af (di h)) (λY=>aN) (λY=>aN) (λY Y=>aN) (λY Y Y=>aN) (λY=>aN) (λY=>aN)
theorem Dd{x:V}{i:List V}:Uq x=some i->x=.aC i:= @V.casesOn (λx=>Uq x=some i->x=.aC i) x aN aN (λY=>aN) (λY=>aN) (λY=>aN) (λY=>aN) (λa h=>congrArg V.aC (di h)) (λY=>aN) (λY Y=>aN) (λY Y Y=>aN) (λY=>aN) (λY=>aN)
theorem jO{x:V}{i:Nat}:C3 x=some i->x=.ref i:= @V.casesOn (λx=>C3 x=some i->x=.ref i) x aN aN (λY=>aN) (λY=>aN) (λY=>aN) (λY=>aN) (λY=>aN) (λY=>aN) (λY Y=>aN) (λY Y Y=>aN) (λa h=>congrArg V.ref (di h)) (λY=>aN)
theorem se(h:jq o=some xs):o=some (.list xs):=by
 cases o with
 |none=>exact aN h
 |some o=>exact @MO.casesOn (λo=>jq (some o)=some xs->some o=some (.list xs)) o aN (λY h=>congrArg (λx=>some (MO.list x)) (di h)) (λY=>aN) (λY Y=>aN) h
theorem sf{xs:List (V×V)}(h:AD o=some xs):o=some (.dict xs):=by
 cases o with
 |none=>exact aN h
 |some o=>exact @MO.casesOn (λo=>AD (some o)=some xs->some o=some (.dict xs)) o aN (λY=>aN) (λY h=>congrArg (λx=>some (MO.dict x)) (di h)) (λY Y=>aN) h
theorem sj{p:String×List (String×V)}(h:yE o=some p):o=some (.inst p.1 p.2):=by
 cases o with
 |none=>exact aN h
 |some o=>exact @MO.casesOn (λo=>yE (some o)=some p->some o=some (.inst p.1 p.2)) o aN (λY=>aN) (λY=>aN) (λY Y h=>congrArg (λ(x:String×List (String×V))=>some (MO.inst x.1 x.2)) (di h)) h
theorem UH{Z:H}{x:V}{f:Nat->List V->Option α}{z:α}(h:((C3 x).bind λn=>(jq Z[n]?).bind (f n))=some z)(k:∀n xs,x=.ref n->Z[n]?=some (.list xs)->f n xs=some z->C):C:=
 f9 h λn e h=>f9 h λxs e' h=>k n xs (jO e) (se e') h
theorem Xy{Z:H}{x:V}{f:Nat->String×List (String×V)->Option α}{z:α}(h:((C3 x).bind λn=>(yE Z[n]?).bind (f n))=some z)(k:∀n p,x=.ref n->Z[n]?=some (.inst p.1 p.2)->f n p=some z->C):C:=
 f9 h λn e h=>f9 h λxs e' h=>k n xs (jO e) (sj e') h
section
variable {P:PV}{A:Around}{E:Value->Shared->Prop}{φ:fz}{M:Addr->Prop}{s:Shared}{Z:H}
theorem aM.length:∀{ws:List Value},aM P h M φ xs ws->xs.length=ws.length:=by
 induction xs with
 |nil=>intro _ r;cases r;rfl
 |cons x xs ih=>intro _ r;obtain⟨w,l,rfl,_,q⟩:=r;exact congrArg (· +1) (ih q)
theorem aM.append:∀{ws us:List Value},aM P h M φ xs ws->aM P h M φ ys us->aM P h M φ (xs++ys) (ws++us):=by
 induction xs with
 |nil=>intro _ _ r q;cases r;exact q
 |cons x xs ih=>intro _ _ r q;obtain⟨w,l,rfl,a,b⟩:=r;exact⟨w,_,rfl,a,ih b q⟩
theorem aM.get:∀{ws:List Value} {n:Nat} {v:V},aM P h M φ xs ws->xs[n]?=some v->∃w,ws[n]?=some w/\aK P h M φ v w:=by
 induction xs with
 |nil=>exact λY e=>aN e
 |cons x xs ih=>
  intro _ n v r e;obtain⟨w,l,rfl,a,b⟩:=r;cases n with
  |zero=>cases e;exact⟨w,rfl,a⟩
  |succ n=>exact ih (n:=n) b e
theorem aM.take:∀{ws:List Value} (n:Nat),aM P h M φ xs ws->aM P h M φ (xs.take n) (ws.take n):=by
 induction xs with
 |nil=>intro _ n r;cases r;rw[List.take_nil,List.take_nil];rfl
 |cons x xs ih=>
  intro _ n r;obtain⟨w,l,rfl,a,b⟩:=r;cases n with
  |zero=>rfl
  |succ n=>exact⟨w,_,rfl,a,ih n b⟩
theorem aM.drop:∀{ws:List Value} (n:Nat),aM P h M φ xs ws->aM P h M φ (xs.drop n) (ws.drop n):=by
 induction xs with
 |nil=>intro _ n r;cases r;rw[List.drop_nil,List.drop_nil];rfl
 |cons x xs ih=>
  intro _ n r;cases n with
  |zero=>exact r
  |succ n=>obtain⟨w,l,rfl,a,b⟩:=r;exact ih n b
theorem aM.set:∀{ws:List Value} (n:Nat) {v:V} {w:Value},aM P h M φ xs ws->aK P h M φ v w->aM P h M φ (xs.set n v) (ws.set n w):=by
 induction xs with
 |nil=>intro _ n _ _ r _;cases r;rfl
 |cons x xs ih=>
  intro _ n _ _ r q;obtain⟨w,l,rfl,a,b⟩:=r;cases n with
  |zero=>exact⟨_,_,rfl,q,b⟩
  |succ n=>exact⟨w,_,rfl,a,ih n b q⟩
theorem lA{K:Type}[DecidableEq K]{prog:Program}{w:World}{knd:KeyKind prog w K}{a:Addr}{l:List (K×Value)}(d:h.DictOf knd a l)(k:∀o es ep,h.get? a=some o->o.ExactDict->o.data=.dict es ep->KeysOf knd es->Pairs knd es.toList l->(l.map (·.1)).Nodup->C):C:=
 d.elim λo d=>d.elim λes d=>d.elim λep d=>k o es ep d.1 d.2.1 d.2.2.1 d.2.2.2.1 d.2.2.2.2.1 d.2.2.2.2.2
theorem I4{l:Addr}(t:h.IsList l ws)(k:∀n d sl,h.get? l=some {cls:=.type "list",dict:=d,data:=.seq ws n,slots:=sl}->C):C:=by
 obtain⟨⟨c1,d1,dt1,Xz⟩,ho,hc,n,hd⟩:=t;exact k n d1 Xz (by rw[ho];cases hc;cases hd;rfl)
theorem EF{l:Addr}(t:h.IsTuple l ws)(k:∀n d sl,h.get? l=some {cls:=.type "tuple",dict:=d,data:=.seq ws n,slots:=sl}->C):C:=by
 obtain⟨⟨c1,d1,dt1,Xz⟩,ho,hc,n,hd⟩:=t;exact k n d1 Xz (by rw[ho];cases hc;cases hd;rfl)
theorem mu(i:Inv P Z φ M s){ws:List Value}(r:aM P s.heap M φ xs ws)
  (k:∀w s',Step bI φ M s φ M s'->Inv P Z φ M s'->aK P s'.heap M φ (.af xs) w->Q w s'):Q (.ref s.heap.objs.size) {s with heap:=s.heap.push {cls:=.type "tuple",data:=.seq ws.toArray}}:=by
 refine k _ _ (Step.push bI _) (i.push _) ⟨_,ws.toArray,rfl,i.notM,⟨_,Heap.get?_push_size _ rfl,rfl,_,rfl⟩,?_⟩
 simpa using aM.mono (Step.push bI (φ:=φ) (M:=M) (s:=s) _).grow _ r
theorem qk(i:Inv P Z φ M s){ws:List Value}(r:aM P s.heap M φ xs ws)
  (k:∀w s',Step bI φ M s φ M s'->Inv P Z φ M s'->aK P s'.heap M φ (.aC xs) w->Q w s'):Q (.ref s.heap.objs.size) {s with heap:=s.heap.push {cls:=.type "list",data:=.seq ws.toArray}}:=by
 refine k _ _ (Step.push bI _) (i.push _) ⟨_,ws.toArray,rfl,i.notM,⟨_,Heap.get?_push_size _ rfl,rfl,_,rfl⟩,?_⟩
 simpa using aM.mono (Step.push bI (φ:=φ) (M:=M) (s:=s) _).grow _ r
noncomputable def wL:Ax->Operator
 |.add=>.Add
 |.sub=>.Sub
 |.mul=>.Mult
 |.div=>.FloorDiv
 |.mod=>.Mod
theorem jP(i:Inv P Z φ M s){n:Int}(k:∀w s',Step bI φ M s φ M s'->Inv P Z φ M s'->aK P s'.heap M φ (.int n) w->Q w s'):Q (.int n s.toks) {s with toks:=s.toks+1}:=
 k _ _ (Step.refl.tok _) (i.tok _) ⟨_,rfl⟩
inductive m9:Ax->V->V->V->Prop where
 |add (a b:Int):m9 .add (.int a) (.int b) (.int (a+b))
 |sub (a b:Int):m9 .sub (.int a) (.int b) (.int (a-b))
 |mul (a b:Int) (q:0<=a/\a<1000):m9 .mul (.int a) (.int b) (.int (a*b))
 |div (a b:Int) (q:0<b/\b<1000000):m9 .div (.int a) (.int b) (.int (a / b))
 |mod (a b:Int) (q:0<b):m9 .mod (.int a) (.int b) (.int (a % b))
 |str (a b:String) (q:a.length+b.length<=1000):m9 .add (.str a) (.str b) (.str (a++b))
 |aC (a b:List V) (q:a.length+b.length<=1000):m9 .add (.aC a) (.aC b) (.aC (a++b))
 |af (a b:List V) (q:a.length+b.length<=1000):m9 .add (.af a) (.af b) (.af (a++b))
theorem XA{x:V}:IW x y=some z->m9 .add x y z:= @V.casesOn (λx=>IW x y=some z->m9 .add x y z) x aN aN (λY=>aN) (λa h=>nW h λb e h=>by rw[iz e,<-h];exact .add a b) (λa h=>f9 h λb e h=>by rw[tU e,<-(bD h).2];exact .str a b (bD h).1) (λa h=>f9 h λb e h=>by rw[tV e,<-(bD h).2];exact .af a b (bD h).1) (λa h=>f9 h λb e h=>by rw[Dd e,<-(bD h).2];exact .aC a b (bD h).1) (λY=>aN) (λY Y=>aN) (λY Y Y=>aN) (λY=>aN) (λY=>aN)
theorem MG{o:Ax}{x:V}(h:(qb x).bind (λa=>(qb y).bind λb=>IX o a b)=some z){C:V->V->Prop}(k:∀a b,IX o a b=some z->C (.int a) (.int b)):C x y:=
 f9 h λa e h=>f9 h λb e' h=>by rw[iz e,iz e'];exact k a b h
theorem XC{o:Ax}{x:V}:binop o x y=some z->m9 o x y z:=
 @Ax.casesOn (λo=>binop o x y=some z->m9 o x y z) o XA (λh=>MG (C:=λx y=>m9 .sub x y z) h λa b h=>by rw[<-di h];exact .sub a b) (λh=>MG (C:=λx y=>m9 .mul x y z) h λa b h=>by rw[<-(bD h).2];exact .mul a b (bD h).1)
  (λh=>MG (C:=λx y=>m9 .div x y z) h λa b h=>by rw[<-(bD h).2];exact .div a b (bD h).1) (λh=>MG (C:=λx y=>m9 .mod x y z) h λa b h=>by rw[<-(bD h).2];exact .mod a b (bD h).1)
theorem aM.size(r:aM P h M φ xs ws.toList):xs.length=ws.size:=r.length.trans Array.length_toList
theorem AV(r1:aM P s.heap M φ xs ws.toList)(r2:aM P s.heap M φ ys us.toList)(q:xs.length+ys.length<=1000):ws.size+us.size<=sizeLine:=by
 rw[<-r1.size,<-r2.size];exact Nat.le_trans q (by rw[sizeLine_eq];decide)
theorem MH{l:Addr}(t1:s.heap.IsList l ws)(t2:s.heap.IsList l2 us)(hs:ws.size+us.size<=sizeLine)
  (k:Q (.ref s.heap.objs.size) {s with heap:=s.heap.push {cls:=.type "list",data:=.seq (ws++us)}}):wpAny (model P.prog P.w) A (binaryOp .Add (.ref l) (.ref l2)) Q E s:=
 I4 t1 λn d sl h1=>I4 t2 λm d2 UI h2=>
  concat_meets ⟨_,h1,rfl⟩ ⟨_,h2,rfl⟩ noFill_list_add seq_list_add PySem.F.slot_list_add PySem.F.entry_list_add (PySem.F.args_list_add_2 _ _) (list_addW l l2 ws us n m d d2 sl UI hs) ⟨h1,h2,k⟩
theorem MI{l:Addr}(t1:s.heap.IsTuple l ws)(t2:s.heap.IsTuple l2 us)(hs:ws.size+us.size<=sizeLine)
  (k1:ws.isEmpty=true->Q (.ref l2) s)(k2:us.isEmpty=true->Q (.ref l) s)(k:Q (.ref s.heap.objs.size) {s with heap:=s.heap.push {cls:=.type "tuple",data:=.seq (ws++us)}}):wpAny (model P.prog P.w) A (binaryOp .Add (.ref l) (.ref l2)) Q E s:=
 EF t1 λn d sl h1=>EF t2 λm d2 UI h2=>by
  have go:=λ{S:PySem.Spec} (g:Meets (Builtin.«tuple.__add__» ⟨[.ref l,.ref l2],[]⟩) S) (h:S A (wants Q E) s)=>concat_meets (w:=P.w) (prog:=P.prog) (E:=E) (Q:=Q) (s:=s) (a:=.ref l) (b:=.ref l2) (T:="tuple") ⟨_,h1,rfl⟩ ⟨_,h2,rfl⟩ noFill_tuple_add seq_tuple_add PySem.F.slot_tuple_add PySem.F.entry_tuple_add (PySem.F.args_tuple_add_2 _ _) g h;by_cases hv:ws.isEmpty=true
  ·exact go (tuple_addW0 l l2 ws us n m d d2 sl UI hv) ⟨h1,h2,k1 hv⟩
  ·by_cases hw:us.isEmpty=true
   ·exact go (tuple_addW1 l l2 ws us n m d d2 sl UI hv hw) ⟨h1,h2,k2 hw⟩
   ·exact go (tuple_addW2 l l2 ws us n m d d2 sl UI hv hw hs) ⟨h1,h2,k⟩
theorem aM.nil(r:aM P h M φ xs ws.toList)(e:ws.isEmpty=true):xs=[]:=List.length_eq_zero_iff.mp (r.size.trans (Array.isEmpty_iff_size_eq_zero.mp e))
theorem oK{o:Ax}{a' b':Int}(hx:aK P s.heap M φ (.int a') a)(hy:aK P s.heap M φ (.int b') b)(h:∀t u,wpAny (model P.prog P.w) A (binaryOp (wL o) (.int a' t) (.int b' u)) Q E s):wpAny (model P.prog P.w) A (binaryOp (wL o) a b) Q E s:=by
 obtain⟨t,rfl⟩:=hx;obtain⟨u,rfl⟩:=hy;exact h t u
theorem Q2{o:Ax}{x:V}(hb:binop o x y=some z)(hx:aK P s.heap M φ x a)(hy:aK P s.heap M φ y b)(i:Inv P Z φ M s)
  (k:∀w s',Step bI φ M s φ M s'->Inv P Z φ M s'->aK P s'.heap M φ z w->Q w s'):wpAny (model P.prog P.w) A (binaryOp (wL o) a b) Q E s:=by
 have hc:=XC hb;clear hb;induction hc with
 |add a b=>exact oK hx hy λY Y=>PyProof.Rows.add_int (jP i k)
 |sub a b=>exact oK hx hy λY Y=>PyProof.Rows.sub_int (jP i k)
 |mul a b q=>exact oK hx hy λY Y=>PyProof.Rows.mul_int (jP i k) (IntMulOk.of_left (intBits_le_64 (Int.lt_of_lt_of_le (by decide) q.1) (Int.lt_trans q.2 (by decide))))
 |div a b q=>exact oK hx hy λY Y=>PyProof.Rows.floordiv_int (Int.ne_of_gt q.1) (by rw[Int.fdiv_eq_ediv_of_nonneg _ (Int.le_of_lt q.1)];exact jP i k) (.inl (PyProof.noPylong_small (Int.ofNat_lt.mp (by rw[Int.natAbs_of_nonneg (Int.le_of_lt q.1)];exact Int.lt_trans q.2 (by decide)))))
 |mod a b q=>exact oK hx hy λY Y=>PyProof.Rows.mod_int' (Int.ne_of_gt q) (by rw[Int.fmod_eq_emod_of_nonneg _ (Int.le_of_lt q)];exact jP i k)
 |str a b q=>
  obtain⟨t,rfl⟩:=hx;obtain⟨u,rfl⟩:=hy;exact PyProof.Rows.add_str (λt' tk=>k _ _ (Step.refl.tok _) (i.tok _) ⟨t',by rw[yY]⟩) (by rw[f7,f7];exact Nat.le_trans q (by rw[sizeLine_eq];decide))
 |aC a b q=>
  obtain⟨l,ws,rfl,n1,hl,r1⟩:=hx;obtain⟨l2,us,rfl,n2,WZ,r2⟩:=hy;have e:ws++us=(ws.toList++us.toList).toArray:=by rw[<-Array.toList_append]
  exact MH hl WZ (AV r1 r2 q) (by rw[e];exact qk i (r1.append r2) k)
 |af a b q=>
  obtain⟨l,ws,rfl,n1,hl,r1⟩:=hx;obtain⟨l2,us,rfl,n2,WZ,r2⟩:=hy;have e:ws++us=(ws.toList++us.toList).toArray:=by rw[<-Array.toList_append]
  refine MI hl WZ (AV r1 r2 q) (λz=>k _ _ Step.refl i ?_) (λz=>k _ _ Step.refl i ?_) (by rw[e];exact mu i (r1.append r2) k)
  ·rw[r1.nil z,List.nil_append];exact⟨_,_,rfl,n2,WZ,r2⟩
  ·rw[r2.nil z,List.append_nil];exact⟨_,_,rfl,n1,hl,r1⟩
end
end Mine
namespace Mine
open PySem PySem.W PyProof.Rows PySem.Calls PySem.SeqAt
variable {f:V->V->Option Bool}{y v' z:V}{xs ys us vs ρ ρ' ks:List V}{a dx ca I d D:Addr}{b bT single ac:Bool}{h h':Heap}{n j tk nc k₁ j1 j2:Nat}{ws:Array Value}{o:Mw}{kvs r:List (V×V)}{C:Prop}{wx wv wy:Value}{Q E:Value->Shared->Prop}{α β:Type}{st cn id:String}{u:Tok}{sl:Slots}{pos p p2 apos np p1:Pos}{e ea eb ec el ee ed ey elt iter:Expr}{es ifs:List Expr}{name n1 n2:Str}{names ss done:List String}{prog:Program}{R:Result->Shared->Prop}{A:Around}{s' aQ:Shared}{M eO M':Addr->Prop}{St:Nat->Heap->Prop}{P:PV}{φ cR bF:fz}{Q':V->H->Prop}{Z Z':H}{env iM:Env}{gn:List Str}{ts:List Nat}{scope:Scope}{fp:List Addr}{Pn:Nat->Value->Prop}{ix:X}{G:Expr->Prop}{cf:CF}
theorem tW{x:V}{k:Bool}(h:allEq f (x::xs) (y::ys)=some k):∃c d,f x y=some c/\allEq f xs ys=some d/\(c&&d)=k:=f9 h λc e h=>nW h λd e' h=>⟨c,d,e,e',h⟩
theorem De:∀{ys:List V} {k:Bool},allEq f xs ys=some k->xs.length=ys.length->
  ∃e:Nat->Bool,(∀j x y,xs[j]?=some x->ys[j]?=some y->f x y=some (e j))/\(List.range xs.length).all e=k:=by
 induction xs with
 |nil=>exact λh Y=>⟨λY=>true,λj x y e=>aN e,di h⟩
 |cons x xs ih=>
  intro ys k h l;cases ys with
  |nil=>exact absurd l (Nat.succ_ne_zero _)
  |cons y ys=>
   obtain⟨a,d,h1,h2,e0⟩:=tW h;obtain⟨e,he,hk⟩:=ih h2 (Nat.succ.inj l);refine⟨λj=> @Nat.casesOn (λY=>Bool) j a e,λj u v=>?_,?_⟩
   ·cases j with
    |zero=>exact λeu ev=>di eu▸di ev▸h1
    |succ j=>exact he j u v
   ·rw[List.length_cons,List.range_succ_eq_map,List.all_cons,List.all_map,<-e0,<-hk];rfl
noncomputable def Q3:Value->Bool
 |.float .. =>false
 |_=>true
section
variable {P:PV}{A:Around}{E:Value->Shared->Prop}{φ:fz}{M:Addr->Prop}{s:Shared}{Z:H}
theorem EG{a b:Value}{k:Bool}(h:RcAt A s a b k)(hf:Q3 a=true)(hk:a=b->k=true):EqAt A s a b k:=λprog w E Q hq=>by
 unfold PySem.eqBool;refine wpAny_holding ?_;refine wpAny_ite_split (λEH=>?_) (λY=>?_)
 ·rw[hk (eq_of_beq EH)]at hq;exact wb (wpAny_rule (wq hq))
 ·have z:wpAny (model prog w) A (richCompare .Eq a b >>=truthOfDropped) Q E s:=wb (h prog w E _ (wpAny_truthy_bool hq))
  cases a<;>first|exact z|exact absurd hf Bool.false_ne_true
theorem xB{v:V}{a:Value}:aK P h M φ v a->Q3 a=true:= @V.casesOn (λx=>aK P h M φ x a->Q3 a=true) v (λr=>r.elim) (λr=>r.symm▸rfl) (λY r=>r.symm▸rfl) (λY r=>r.elim λY e=>e.symm▸rfl) (λY r=>r.elim λY e=>e.symm▸rfl) (λY r=>r.elim λY r=>r.elim λY r=>r.1.symm▸rfl) (λY r=>r.elim λY r=>r.elim λY r=>r.1.symm▸rfl) (λY r=>r.elim λY r=>r.elim λY r=>r.1.symm▸rfl) (λY Y r=>r.elim λY r=>r.elim λY r=>r.elim λY r=>r.elim λY r=>r.elim λY r=>r.1.symm▸rfl) (λY Y Y r=>r.elim λY r=>r.elim λY r=>r.elim λY r=>r.elim λY r=>r.1.symm▸rfl) (λY r=>r.elim λY r=>r.2.symm▸rfl) (λY r=>r.symm▸rfl)
theorem IsList.det{x y:Array Value}(p:h.IsList a x)(q:h.IsList a y):x=y:=by
 obtain⟨o,e,_,n,d⟩:=p;obtain⟨o',e',_,n',d'⟩:=q;exact(Data.seq.inj (d.symm.trans ((congrArg Obj.data (di (e.symm.trans e'))).trans d'))).1
theorem IsTuple.det{x y:Array Value}(p:h.IsTuple a x)(q:h.IsTuple a y):x=y:=by
 obtain⟨o,e,_,n,d⟩:=p;obtain⟨o',e',_,n',d'⟩:=q;exact(Data.seq.inj (d.symm.trans ((congrArg Obj.data (di (e.symm.trans e'))).trans d'))).1
inductive MJ (n:Nat):V->V->Bool->Prop where
 |none:MJ n .none .none true
 |bool (a b:Bool):MJ n (.bool a) (.bool b) (a==b)
 |int (a b:Int):MJ n (.int a) (.int b) (decide (a=b))
 |str (a b:String):MJ n (.str a) (.str b) (decide (a=b))
 |af {a b:List V} {k:Bool} (l:a.length=b.length) (h:allEq (f6 n) a b=some k):MJ n (.af a) (.af b) k
 |aC {a b:List V} {k:Bool} (l:a.length=b.length) (h:allEq (f6 n) a b=some k):MJ n (.aC a) (.aC b) k
 |ne {a b:List V} (l:¬ a.length=b.length):MJ n (.aC a) (.aC b) false
theorem XD{v:V}{k:Bool}:f6 (n+1) v v'=some k->MJ n v v' k:= @V.casesOn (λx=>f6 (n+1) x v'=some k->MJ n x v' k) v aN (λh=>nW h λY e h=>by rw[I3 e,<-h];exact .none) (λa h=>nW h λb e h=>by rw[Q0 e,<-h];exact .bool a b) (λa h=>nW h λb e h=>by rw[iz e,<-h];exact .int a b) (λa h=>nW h λb e h=>by rw[tU e,<-h];exact .str a b) (λa h=>f9 h λb e h=>by rw[tV e];exact .af (dg h).1 (dg h).2) (λa h=>f9 h λb e h=>by
  rw[Dd e];by_cases l:a.length=b.length
  ·rw[if_pos l]at h;exact .aC l h
  ·rw[if_neg l]at h;rw[<-di h];exact .ne l) (λY=>aN) (λY Y=>aN) (λY Y Y=>aN) (λY=>aN) (λY=>aN)
theorem xC(ih:∀(v v':V) {w:Value} {k:Bool},aK P s.heap M φ v w->aK P s.heap M φ v' w->f6 n v v'=some k->k=true)(xs:List V):∀(ys:List V) {ws:List Value} {k:Bool},aM P s.heap M φ xs ws->aM P s.heap M φ ys ws->allEq (f6 n) xs ys=some k->k=true:=by
 induction xs with
 |nil=>exact λY Y Y Y Y e=>(di e).symm
 |cons x xs ih2=>
  intro ys _ k q q' e;cases ys with
  |nil=>exact(di e).symm
  |cons y ys=>
   obtain⟨w,l,e1,a,b⟩:=q;obtain⟨w',l',e',a',b'⟩:=q';obtain⟨c,d,h1,h2,e0⟩:=tW e;obtain⟨e2,e3⟩:=List.cons.inj (e'.symm.trans e1);rw[<-e0,ih x y a (e2▸a') h1,ih2 ys b (e3▸b') h2];rfl
theorem AW{b:Addr}{w:Value}(e:w=.ref a)(e':w=.ref b):b=a:=Value.ref.inj (e'.symm.trans e)
theorem AY(n:Nat):∀(v v':V) {w:Value} {k:Bool},aK P s.heap M φ v w->aK P s.heap M φ v' w->f6 n v v'=some k->k=true:=by
 induction n with
 |zero=>exact λY Y Y Y Y Y=>aN
 |succ n ih=>
  intro v v' w k r r' e;have hc:=XD e;clear e;have hl:∀{a b:List V},aK P s.heap M φ (.aC a) w->aK P s.heap M φ (.aC b) w->∃ws,aM P s.heap M φ a ws/\aM P s.heap M φ b ws:=λr r'=>by
   obtain⟨a,ws,e,_,t1,q1⟩:=r;obtain⟨b,us,e',_,t2,q2⟩:=r';rw[AW e e']at t2;exact⟨_,q1,IsList.det t1 t2▸q2⟩
  induction hc with
  |none=>rfl
  |bool a b=>exact beq_iff_eq.mpr (Value.bool.inj (r.symm.trans r'))
  |int a b=>obtain⟨t,e⟩:=r;obtain⟨t',e'⟩:=r';exact decide_eq_true (Value.int.inj (e.symm.trans e')).1
  |str a b=>obtain⟨t,e⟩:=r;obtain⟨t',e'⟩:=r';exact decide_eq_true (fH (Value.str.inj (e.symm.trans e')).1)
  |af l h=>
   obtain⟨a,ws,e,_,t1,q1⟩:=r;obtain⟨b,us,e',_,t2,q2⟩:=r';rw[AW e e']at t2;exact xC ih _ _ q1 (IsTuple.det t1 t2▸q2) h
  |aC l h=>obtain⟨ws,q1,q2⟩:=hl r r';exact xC ih _ _ q1 q2 h
  |ne l=>obtain⟨ws,q1,q2⟩:=hl r r';exact absurd (q1.length.trans q2.length.symm) l
theorem Q4{w:Value}(h:j<ws.size)(e:ws.toList[j]?=some w):ws[j]=w:=
 di ((Array.getElem?_eq_getElem h).symm.trans (Array.getElem?_toList.symm.trans e))
theorem aM.items(r:aM P h M φ xs ws.toList)(l:j<ws.size):∃v,xs[j]?=some v/\aK P h M φ v ws[j]:=by
 have:j<xs.length:=by rw[r.length];simpa using l
 obtain⟨w,e,q⟩:=r.get (List.getElem?_eq_getElem this);exact⟨xs[j],List.getElem?_eq_getElem this,by rw[Q4 l e];exact q⟩
theorem I5(hu:A.units+(n+1)<cLine):A.in1.units+n<cLine:=by
 show A.units+1+n<cLine;lia
theorem AZ(ih:∀(A:Around) (v v':V) (a b:Value) (k:Bool),aK P s.heap M φ v a->aK P s.heap M φ v' b->f6 n v v'=some k->A.units+n<cLine->EqAt A s a b k)
  {us:Array Value}{k:Bool}(q1:aM P s.heap M φ xs ws.toList)(q2:aM P s.heap M φ ys us.toList)(h:allEq (f6 n) xs ys=some k)(hl:xs.length=ys.length)(hu:A.units+n<cLine):
  ws.size=us.size/\∃e:Nat->Bool,(∀j (h1:j<ws.size) (h2:j<us.size),EqAt A s ws[j] us[j] (e j))/\(List.range ws.size).all e=k:=by
 have l1:=q1.size;have l2:=q2.size;obtain⟨e,he,hk⟩:=De h hl;refine⟨by lia,e,λj h1 h2=>?_,by rw[<-l1];exact hk⟩;obtain⟨v,ev,rv⟩:=q1.items h1;obtain⟨u,eu,ru⟩:=q2.items h2;exact ih A v u _ _ _ rv ru (he j v u ev eu) hu
theorem tX(hu:A.units+(n+1)<cLine):A.units<cLine:=Nat.lt_of_le_of_lt (Nat.le_add_right _ _) hu
theorem Df(ih:∀(A:Around) (v v':V) (a b:Value) (k:Bool),aK P s.heap M φ v a->aK P s.heap M φ v' b->f6 n v v'=some k->A.units+n<cLine->EqAt A s a b k)
  {us:Array Value}{b:Addr}{k:Bool}(t1:s.heap.IsList a ws)(t2:s.heap.IsList b us)(q1:aM P s.heap M φ xs ws.toList)(q2:aM P s.heap M φ ys us.toList)(h:f6 (n+1) (.aC xs) (.aC ys)=some k)(hu:A.units+(n+1)<cLine):
  RcAt A s (.ref a) (.ref b) k/\RcNeAt A s (.ref a) (.ref b) !k:=by
 have h:(if xs.length=ys.length then allEq (f6 n) xs ys else some false)=some k:=h;have My:=tX hu;by_cases hl:xs.length=ys.length
 ·rw[if_pos hl]at h
  obtain⟨e1,e,he,hk⟩:=AZ ih (A:=A.in1) q1 q2 h hl (I5 hu);rw[<-hk];exact⟨RcAt.lists t1 t2 e1 My he,RcNeAt.lists t1 t2 e1 My he⟩
 ·rw[if_neg hl]at h
  rw[<-di h];have mw:(ws.size !=us.size)=true:=bne_iff_ne.mpr (q1.size▸q2.size▸hl);exact⟨RcAt.lists_lengths t1 t2 mw My,RcNeAt.lists_lengths t1 t2 mw My⟩
theorem Q5(ih:∀(A:Around) (v v':V) (a b:Value) (k:Bool),aK P s.heap M φ v a->aK P s.heap M φ v' b->f6 n v v'=some k->A.units+n<cLine->EqAt A s a b k)
  {us:Array Value}{b:Addr}{k:Bool}(t1:s.heap.IsTuple a ws)(t2:s.heap.IsTuple b us)(q1:aM P s.heap M φ xs ws.toList)(q2:aM P s.heap M φ ys us.toList)(hl:xs.length=ys.length)(h:allEq (f6 n) xs ys=some k)(hu:A.units+(n+1)<cLine):
  RcAt A s (.ref a) (.ref b) k/\RcNeAt A s (.ref a) (.ref b) !k:=by
 obtain⟨e1,e,he,hk⟩:=AZ ih (A:=A.in1) q1 q2 h hl (I5 hu);have x1:=RcAt.tuples t1 t2 (tX hu) he;have x2:=RcNeAt.tuples t1 t2 (tX hu) he;rw[<-e1,Nat.min_self,hk,beq_self_eq_true,Bool.and_true]at x1 x2;exact⟨x1,x2⟩
theorem str_beq(x y:String):(Str.ofString x==Str.ofString y)=decide (x=y):=by
 by_cases h:x=y
 ·rw[h,decide_eq_true rfl];exact beq_self_eq_true _
 ·rw[decide_eq_false h];exact beq_eq_false_iff_ne.mpr λq=>h (fH q)
theorem PJ(n:Nat):∀(A:Around) (v v':V) (a b:Value) (k:Bool),aK P s.heap M φ v a->aK P s.heap M φ v' b->f6 n v v'=some k->A.units+n<cLine->RcAt A s a b k/\RcNeAt A s a b !k:=by
 induction n with
 |zero=>exact λY Y Y Y Y Y Y Y e Y=>aN e
 |succ n Zw=>
  intro A v v' a b k r r' e hu;have ih:∀(A:Around) (v v':V) (a b:Value) (k:Bool),aK P s.heap M φ v a->aK P s.heap M φ v' b->f6 n v v'=some k->A.units+n<cLine->EqAt A s a b k:=
   λA v v' a b k q q' h u=>EG (Zw A v v' a b k q q' h u).1 (xB q) λEH=>AY n v v' q (EH▸q') h
  clear Zw;have e0:=e;have hc:=XD e;clear e;induction hc with
  |none=>rw[show a=.none from r,show b=.none from r'];exact⟨RcAt.none_none,RcNeAt.none_none⟩
  |bool x y=>rw[show a=.bool x from r,show b=.bool y from r'];exact⟨RcAt.bool_bool _ _,RcNeAt.bool_bool _ _⟩
  |int x y=>
   obtain⟨t,e⟩:=r;obtain⟨u,e'⟩:=r';rw[e,e'];exact⟨RcAt.int_int _ t _ u,RcNeAt.int_int _ t _ u⟩
  |str x y=>
   obtain⟨t,e⟩:=r;obtain⟨u,e'⟩:=r';rw[e,e',<-str_beq];exact⟨RcAt.str_str _ t _ u,RcNeAt.str_str _ t _ u⟩
  |af l h=>
   obtain⟨a,ws,e,_,t1,q1⟩:=r;obtain⟨b,us,e',_,t2,q2⟩:=r';rw[e,e'];exact Q5 ih t1 t2 q1 q2 l h hu
  |aC=>
   obtain⟨a,ws,e,_,t1,q1⟩:=r;obtain⟨b,us,e',_,t2,q2⟩:=r';rw[e,e'];exact Df ih t1 t2 q1 q2 e0 hu
  |ne=>
   obtain⟨a,ws,e,_,t1,q1⟩:=r;obtain⟨b,us,e',_,t2,q2⟩:=r';rw[e,e'];exact Df ih t1 t2 q1 q2 e0 hu
theorem PL{A:Around}{v:V}{a b:Value}{k:Bool}(q:aK P s.heap M φ v a)(q':aK P s.heap M φ v' b)(h:f6 n v v'=some k)(u:A.units+n<cLine):EqAt A s a b k:=
 EG (PJ n A v v' a b k q q' h u).1 (xB q) λEH=>AY n v v' q (EH▸q') h
end
noncomputable def gO(P:PV)(h:Heap)(M:Addr->Prop)(φ:fz)(kvs:List (V×V))(a:Addr):Prop:=
 (∃l,h.DictOf (strKind P.prog P.w) a l/\bB P h M φ kvs l)\/∃l,h.DictOf (intKind P.prog P.w) a l/\iw P h M φ kvs l
noncomputable def cC(P:PV)(h:Heap)(M:Addr->Prop)(φ:fz):V->Value->Prop
 |.aC xs,w=>∃a ws,w=.ref a/\h.IsList a ws/\aM P h M φ xs ws.toList
 |.cM kvs,w=>∃a,w=.ref a/\a≠sysModules/\gO P h M φ kvs a
 |v,w=>aK P h M φ v w
section
variable {P:PV}{A:Around}{E:Value->Shared->Prop}{φ:fz}{M:Addr->Prop}{s:Shared}{Z:H}
theorem cC.of{v:V}{w:Value}:aK P h M φ v w->cC P h M φ v w:= @V.casesOn (λx=>aK P h M φ x w->cC P h M φ x w) v (id) (id) (λY=>id) (λY=>id) (λY=>id) (λY=>id) (λY r=>r.elim λa r=>r.elim λws r=>⟨a,ws,r.1,r.2.2.1,r.2.2.2⟩) (λY r=>r.elim λa r=>r.elim λl r=>⟨a,r.1,r.2.2.1,.inl ⟨l,r.2.2.2⟩⟩) (λY Y=>id) (λY Y Y=>id) (λY=>id) (λY=>id)
theorem yZ(p:h.PlainList a ws):h.IsList a ws:=p.elim λn e=>⟨_,e,rfl,n,rfl⟩
theorem Inv.at(i:Inv P Z φ M s){o:MO}{c:Addr×Addr}(e:Z[n]?=some o)(q:φ[n]?=some c):fP P s.heap M φ o c:=i.cell n o c e q
theorem Inv.tY(i:Inv P Z φ M s)(h:M a):a≠sysModules:=λe=>i.sys.elim λo q=>aN ((i.base a h).symm.trans (e▸q))
theorem eX(i:Inv P Z φ M s){v:V}{w:Value}:aK P s.heap M φ v w->cC P s.heap M φ (cH Z v) w:= @V.casesOn (λx=>aK P s.heap M φ x w->cC P s.heap M φ (cH Z x) w) v (cC.of) (cC.of) (λY=>cC.of) (λY=>cC.of) (λY=>cC.of) (λY=>cC.of) (λY=>cC.of) (λY=>cC.of) (λY Y=>cC.of) (λY Y Y=>cC.of) (λn r=>by
  obtain⟨c,e,e'⟩:=r;show cC P s.heap M φ (yD n Z[n]?) w;have q:=λo h=>i.at (n:=n) (o:=o) h e;revert q;cases Z[n]? with
  |none=>exact λY=>⟨c,e,e'⟩
  |some o=>
   intro q;have q:=q o rfl;cases o with
   |list xs=>obtain⟨e1,_,ws,p,q⟩:=q;exact⟨c.2,ws,e1▸e',yZ p,q⟩
   |dict kvs=>obtain⟨e1,m,q⟩:=q;exact⟨c.2,e1▸e',i.tY m,q⟩
   |dead=>exact⟨c,e,e'⟩
   |inst=>exact⟨c,e,e'⟩) (λY=>cC.of)
noncomputable def sq(P:PV)(h:Heap)(M:Addr->Prop)(φ:fz)(r:Option V)(o:Option Value):Prop:=match r with
 |none=>o=none
 |some v=>∃w,o=some w/\aK P h M φ v w
theorem oM{K:Type}[DecidableEq K](k k':K)(v:Value)(l:List (K×Value)):valueAt ((k,v)::l) k'=if k=k' then some v else valueAt l k':=by
 unfold valueAt;rw[List.find?_cons];by_cases h:k=k'<;>simp[h]
theorem GH(s:String):∀{l:List (Str×Value)} {r:Option V},bB P h M φ kvs l->fY kvs (.str s)=some r->sq P h M φ r (valueAt l (Str.ofString s)):=by
 induction kvs with
 |nil=>intro l r k e;rw[show l=[] from k,<-di e];rfl
 |cons p rest ih=>
  obtain⟨k0,v⟩:=p;intro l o k e;obtain⟨s',w,l',e1,rfl,q,k⟩:=k;have e:cond (decide (s'=s)) (some (some v)) (fY rest (.str s))=some o:=e;rw[e1,oM];by_cases hs:s'=s
  ·rw[decide_eq_true hs]at e;rw[if_pos (congrArg Str.ofString hs),<-di e];exact⟨w,rfl,q⟩
  ·rw[decide_eq_false hs]at e;rw[if_neg λz=>hs (fH z)];exact ih k e
theorem GJ(s:Int):∀{l:List (Int×Value)} {r:Option V},iw P h M φ kvs l->fY kvs (.int s)=some r->sq P h M φ r (valueAt l s):=by
 induction kvs with
 |nil=>intro l r k e;rw[show l=[] from k,<-di e];rfl
 |cons p rest ih=>
  obtain⟨k0,v⟩:=p;intro l o k e;obtain⟨s',w,l',e1,rfl,q,k⟩:=k;have e:cond (decide (s'=s)) (some (some v)) (fY rest (.int s))=some o:=e;rw[e1,oM];by_cases hs:s'=s
  ·rw[decide_eq_true hs]at e;rw[if_pos hs,<-di e];exact⟨w,rfl,q⟩
  ·rw[decide_eq_false hs]at e;rw[if_neg hs];exact ih k e
theorem lB{K K':Type}[DecidableEq K][DecidableEq K']{knd:KeyKind P.prog P.w K}(XE:KeyKind P.prog P.w K')(d:h.DictOf knd a []):h.DictOf XE a []:=
 lA d λo es ep ho hc hd Y hp Y=>by
  have e:es=#[]:=Array.eq_empty_of_size_eq_zero hp.length;rw[e]at hd;exact⟨o,#[],ep,ho,hc,hd,λe he=>(Array.not_mem_empty _ he).elim,.nil,.nil⟩
theorem tZ(x:Str)(t:Tok):(strKind P.prog P.w).is x (.str x t)=true:=by
 show Value.isStrOf x (.str x t)=true;simp[Value.isStrOf]
theorem I6(x:Int)(t:Tok):(intKind P.prog P.w).is x (.int x t)=true:=by
 show Value.isInt x (.int x t)=true;simp[Value.isInt]
inductive MK:V->Prop where
 |int (i:Int):MK (.int i)
 |str (s:String):MK (.str s)
theorem dJ(h:false=true):C:=nomatch h
theorem ML{x:V}:isKey x=true->MK x:= @V.casesOn (λx=>isKey x=true->MK x) x dJ dJ (λY=>dJ) (λi Y=>.int i) (λi Y=>.str i) (λY=>dJ) (λY=>dJ) (λY=>dJ) (λY Y=>dJ) (λY Y Y=>dJ) (λY=>dJ) (λY=>dJ)
theorem I7{l:List (Str×Value)}{i:Int}{r:Option V}(q:bB P h M φ kvs l)(e:fY kvs (.int i)=some r):l=[]/\r=none:=by
 cases kvs with
 |nil=>exact⟨q,(di e).symm⟩
 |cons p r=>obtain⟨k,v⟩:=p;obtain⟨s',w,l',_,rfl,_⟩:=q;exact aN e
theorem I8{l:List (Int×Value)}{i:String}{r:Option V}(q:iw P h M φ kvs l)(e:fY kvs (.str i)=some r):l=[]/\r=none:=by
 cases kvs with
 |nil=>exact⟨q,(di e).symm⟩
 |cons p r=>obtain⟨k,v⟩:=p;obtain⟨s',w,l',_,rfl,_⟩:=q;exact aN e
theorem qm{x:V}{r:Option V}(D:gO P h M φ kvs a)(hx:aK P h M φ x wx)(hk:isKey x=true)(hl:fY kvs x=some r)
  (C':∀(K:Type) (_:DecidableEq K) (knd:KeyKind P.prog P.w K) (k:K) (f:K->Option Value),knd.is k wx=true->h.MapOf knd a f->sq P h M φ r (f k)->C):C:=by
 have hk:=ML hk;induction hk with
 |int i=>
  obtain⟨t,rfl⟩:=hx;rcases D with⟨l,d,q⟩|⟨l,d,q⟩
  ·obtain⟨rfl,rfl⟩:=I7 q hl
   exact C' Int _ (intKind P.prog P.w) i _ (I6 i t) (lB _ d).mapOf rfl
  ·exact C' Int _ (intKind P.prog P.w) i _ (I6 i t) d.mapOf (GJ i q hl)
 |str i=>
  obtain⟨t,rfl⟩:=hx;rcases D with⟨l,d,q⟩|⟨l,d,q⟩
  ·exact C' Str _ (strKind P.prog P.w) _ _ (tZ _ t) d.mapOf (GH i q hl)
  ·obtain⟨rfl,rfl⟩:=I8 q hl
   exact C' Str _ (strKind P.prog P.w) _ _ (tZ _ t) (lB _ d).mapOf rfl
noncomputable def za:Value->Value->Bool
 |.int a aR,.int b dm=>a==b
 |.str a aR,.str b dm=>a==b
 |aR,dm=>false
theorem MM{w:Value}{i:Int}{t:Tok}{c:Bool}:aK P h M φ y w->eqv y (.int i)=some c->za w (.int i t)=c:= @V.casesOn (λx=>aK P h M φ x w->eqv x (.int i)=some c->za w (.int i t)=c) y (λY=>aN) (λY=>aN) (λY Y=>aN) (λa q h=>q.elim λu e=>e.symm▸di h) (λY Y=>aN) (λY Y=>aN) (λY Y=>aN) (λY Y=>aN) (λY Y Y=>aN) (λY Y Y Y=>aN) (λY Y=>aN) (λY Y=>aN)
theorem MN{w:Value}{i:String}{t:Tok}{c:Bool}:aK P h M φ y w->eqv y (.str i)=some c->za w (.str (Str.ofString i) t)=c:= @V.casesOn (λx=>aK P h M φ x w->eqv x (.str i)=some c->za w (.str (Str.ofString i) t)=c) y (λY=>aN) (λY=>aN) (λY Y=>aN) (λY Y=>aN) (λa q h=>q.elim λu e=>e.symm▸(str_beq a i).trans (di h)) (λY Y=>aN) (λY Y=>aN) (λY Y=>aN) (λY Y Y=>aN) (λY Y Y Y=>aN) (λY Y=>aN) (λY Y=>aN)
theorem MP{x:V}{w:Value}{c:Bool}(hx:aK P h M φ x wx)(hk:isKey x=true)(q:aK P h M φ y w)(h1:eqv y x=some c):za w wx=c:=by
 have hk:=ML hk;induction hk with
 |int i=>exact hx.elim λt e=>e.symm▸MM q h1
 |str i=>exact hx.elim λt e=>e.symm▸MN q h1
theorem MQ{x:V}(hx:aK P h M φ x wx)(hk:isKey x=true):∀{ws:List Value} {b:Bool},aM P h M φ ys ws->IV ys x=some b->
  ws.any (za · wx)=b/\∀w∈ws,∃v,aK P h M φ v w/\eqv v x=some (za w wx):=by
 induction ys with
 |nil=>intro _ b q e;rw[show _=[] from q];exact⟨di e,λY m=>nomatch m⟩
 |cons y ys ih=>
  intro _ b q e;obtain⟨w,l,rfl,q1,q2⟩:=q;refine f9 e λc h1 e=>nW e λd h2 e=>?_;obtain⟨i1,i2⟩:=ih q2 h2;have e1:=MP hx hk q1 h1;refine⟨by rw[List.any_cons,e1,i1];exact e,λz m=>?_⟩;rcases List.mem_cons.mp m with e2|m
  ·rw[e2];exact⟨y,q1,e1▸h1⟩
  ·exact i2 z m
noncomputable def ff:Mw->CmpOp
 |.eq=>.Eq
 |.ne=>.NotEq
 |.lt=>.Lt
 |.le=>.LtE
 |.gt=>.Gt
 |.ge=>.GtE
 |.isin=>.In
 |.xq=>.NotIn
 |.is=>.Is
 |.ni=>.IsNot
noncomputable def MR:V->Bool
 |.none=>true
 |_=>false
theorem Dg{x:V}:oq x=some b->MR x=b:= @V.casesOn (λx=>oq x=some b->MR x=b) x (aN) (di) (λY=>di) (λY=>di) (λY=>di) (λY=>di) (λY=>di) (λY=>di) (λY Y=>di) (λY Y Y=>di) (λY=>di) (λY=>di)
theorem I9{v:V}{w:Value}:cC P h M φ v w->(w==Value.none)=MR v:= @V.casesOn (λx=>cC P h M φ x w->(w==Value.none)=MR x) v (λr=>r.elim) (λr=>r.symm▸rfl) (λY r=>r.symm▸rfl) (λY r=>r.elim λY e=>e.symm▸rfl) (λY r=>r.elim λY e=>e.symm▸rfl) (λY r=>r.elim λY r=>r.elim λY r=>r.1.symm▸rfl) (λY r=>r.elim λY r=>r.elim λY r=>r.1.symm▸rfl) (λY r=>r.elim λY r=>r.1.symm▸rfl) (λY Y r=>r.elim λY r=>r.elim λY r=>r.elim λY r=>r.elim λY r=>r.elim λY r=>r.1.symm▸rfl) (λY Y Y r=>r.elim λY r=>r.elim λY r=>r.elim λY r=>r.elim λY r=>r.1.symm▸rfl) (λY r=>r.elim λY r=>r.2.symm▸rfl) (λY r=>r.symm▸rfl)
theorem xD{v:V}{w:Value}(r:cC P h M φ v w)(e:oq v=some b):(w==Value.none)=b:=(I9 r).trans (Dg e)
theorem EI{x:V}{a:Value}(hk:isKey x=true)(hx:cC P h M φ x a):aK P h M φ x a:=by
 have hk:=ML hk;induction hk with
 |int i=>exact hx
 |str i=>exact hx
theorem EJ{x:V}{a:Value}{z:Bool}(hx:cC P s.heap M φ x a)(q:aM P s.heap M φ ys ws.toList)(hb:(if isKey x=true then IV ys x else none)=some z)(hu:A.units+20<cLine):
  (∀y,y∈ws->EqAt A.in1 s y a (za y a))/\ws.any (za · a)=z:=by
 obtain⟨hk,hb⟩:=dg hb;have hx:=EI hk hx;obtain⟨e1,e2⟩:=MQ hx hk q hb;refine⟨λy m=>?_,by rw[<-e1,Array.any_toList]⟩;obtain⟨v,r,e⟩:=e2 y (Array.mem_toList_iff.mpr m);exact PL (n:=6) r hx e (by show A.units+1+6<cLine;lia)
theorem GK{r:Option V}{o:Option Value}(q:sq P h M φ r o):o.isSome=r.isSome:=by
 cases r with
 |none=>rw[show o=none from q];rfl
 |some v=>obtain⟨w,e,_⟩:=q;rw[e];rfl
theorem Ja{x:V}{a b:Value}{z neg:Bool}(hb:sZ x y=some z)(hx:cC P s.heap M φ x a)(hy:cC P s.heap M φ y b)(hu:A.units+20<cLine)(hn:neg=true->IY y=some ())
  (k:∀tk,Q (.bool (neg ^^ z)) {s with toks:=tk}):wpAny (model P.prog P.w) A (compareOp (if neg then .NotIn else .In) a b) Q E s:=by
 cases y with
 |af ys=>
  obtain⟨l,ws,rfl,_,t,q⟩:=hy;obtain⟨he,e3⟩:=EJ hx q hb hu;cases neg with
  |false=>exact in_tupleAt _ t he (by rw[e3];exact Bool.false_xor z▸k s.toks)
  |true=>exact notIn_tupleAt _ t he (by rw[e3];exact Bool.true_xor z▸k s.toks)
 |aC ys=>
  obtain⟨l,ws,rfl,t,q⟩:=hy;obtain⟨he,e3⟩:=EJ hx q hb hu;cases neg with
  |false=>exact in_listAt _ t he (by rw[e3];exact Bool.false_xor z▸k s.toks)
  |true=>exact notIn_listAt _ t he (by rw[e3];exact Bool.true_xor z▸k s.toks)
 |cM kvs=>
  obtain⟨hk,hb⟩:=dg hb;obtain⟨d,rfl,hs,D⟩:=hy;refine nW hb λr hr e0=>qm D (EI hk hx) hk hr λK Y knd key f h1 h2 h3=>?_;have e:=(GK h3).trans e0;have k9:(d==sysModules)=false:=beq_eq_false_iff_ne.mpr hs;cases neg with
  |false=>exact wpAny_in_of h1 k9 h2 (by rw[e];exact Bool.false_xor z▸k _)
  |true=>exact wpAny_notIn_of h1 k9 h2 (by rw[e];exact Bool.true_xor z▸k _)
 |str t=>
  refine nW hb λx' e h=>?_;rw[tU e]at hx;obtain⟨u,rfl⟩:=hy;obtain⟨v,rfl⟩:=hx;cases neg with
  |false=>exact PySem.P.in_str (by rw[h];exact Bool.false_xor z▸k s.toks)
  |true=>exact aN (hn rfl)
 |_=>exact aN hb
noncomputable def MS:V->Bool
 |.aC aR=>true
 |.cM aR=>true
 |_=>false
theorem Jb{v:V}{w:Value}:MS v=false->cC P h M φ v w->aK P h M φ v w:= @V.casesOn (λx=>MS x=false->cC P h M φ x w->aK P h M φ x w) v (λY r=>r) (λY r=>r) (λY Y r=>r) (λY Y r=>r) (λY Y r=>r) (λY Y r=>r) (λY e=>dJ e.symm) (λY e=>dJ e.symm) (λY Y Y r=>r) (λY Y Y Y r=>r) (λY Y r=>r) (λY Y r=>r)
theorem EK{x:V}{a b:Value}{c:Bool}(hx:cC P s.heap M φ x a)(hy:cC P s.heap M φ y b)(hu:A.units+20<cLine)(he:eqv x y=some c):RcAt A s a b c/\RcNeAt A s a b !c:=by
 have h0:=he;have hc:=XD (n:=5) he;clear he;have go:=λ(e1:MS x=false) (e2:MS y=false)=>PJ 6 A x y a b c (Jb e1 hx) (Jb e2 hy) h0 (Nat.lt_of_le_of_lt (Nat.add_le_add_left (by decide) _) hu);have gl:∀{xs ys:List V},cC P s.heap M φ (.aC xs) a->cC P s.heap M φ (.aC ys) b->eqv (.aC xs) (.aC ys)=some c->RcAt A s a b c/\RcNeAt A s a b !c:=λhx hy h0=>by
  obtain⟨l,ws,rfl,t,q⟩:=hx;obtain⟨l',us,rfl,t',q'⟩:=hy;exact Df (n:=5) (λA v v' a b k q q' h u=>PL q q' h u) t t' q q' h0 (Nat.lt_of_le_of_lt (Nat.add_le_add_left (by decide) _) hu)
 induction hc with
 |none=>exact go rfl rfl
 |bool=>exact go rfl rfl
 |int=>exact go rfl rfl
 |str=>exact go rfl rfl
 |af=>exact go rfl rfl
 |aC=>exact gl hx hy h0
 |ne=>exact gl hx hy h0
theorem MT{f:Int->Int->Bool}{x:V}{a b:Value}{z:Bool}(hx:cC P s.heap M φ x a)(hy:cC P s.heap M φ y b)(h:AB f x y=some z)(k:∀i j t u,a=.int i t->b=.int j u->f i j=z->C):C:=
 f9 h λi e h=>nW h λj e' h=>by
  have r:cC P s.heap M φ (.int i) a:=iz e▸hx;have r':cC P s.heap M φ (.int j) b:=iz e'▸hy;obtain⟨t,e⟩:=r;obtain⟨u,e'⟩:=r';exact k i j t u e e' h
theorem mz{x:V}{a b:Value}{z:Bool}(hb:iO o x y=some z)(hx:cC P s.heap M φ x a)(hy:cC P s.heap M φ y b)(hu:A.units+20<cLine)
  (k:∀tk,Q (.bool z) {s with toks:=tk}):wpAny (model P.prog P.w) A (compareOp (ff o) a b) Q E s:=by
 have k':Q (.bool z) s:=k s.toks;have nn:=λ(e:QU y=some ())=>(show b=.none from(I3 e▸hy:cC P s.heap M φ .none b));cases o with
 |eq=>exact(EK hx hy hu hb).1 _ _ _ _ k'
 |ne=>exact nW hb λc hc e=>(EK hx hy hu hc).2 _ _ _ _ (e▸k')
 |lt=>exact MT hx hy hb λi j t u e e' h=>by rw[e,e'];exact PyProof.Rows.lt_int (h▸k')
 |le=>exact MT hx hy hb λi j t u e e' h=>by rw[e,e'];exact PyProof.Rows.le_int (h▸k')
 |gt=>exact MT hx hy hb λi j t u e e' h=>by rw[e,e'];exact PyProof.Rows.gt_int (h▸k')
 |ge=>exact MT hx hy hb λi j t u e e' h=>by rw[e,e'];exact PyProof.Rows.ge_int (h▸k')
 |isin=>exact Ja (neg:=false) hb hx hy hu (λe=>dJ e) λtk=>(Bool.false_xor z).symm▸k tk
 |xq=>exact f9 hb λY hs hb=>nW hb λc hc e=>Ja (neg:=true) hc hx hy hu (λY=>hs) λtk=>(Bool.true_xor c).symm▸e.symm▸k tk
 |is=>exact f9 hb λY e hb=>by rw[nn e];exact PySem.is_none (by rw[xD hx hb];exact k')
 |ni=>exact f9 hb λY e hb=>nW hb λc hc e'=>by rw[nn e];exact PySem.isNot_none (by rw[xD hx hc,e'];exact k')
end
theorem oN(h:n<lim):(n:Int)<2 ^ 63:=by unfold lim at h;lia
theorem fh(h:n<lim):n<=sizeLine:=by rw[sizeLine_eq];unfold lim at h;lia
section
variable {P:PV}{A:Around}{E:Value->Shared->Prop}{φ:fz}{M:Addr->Prop}{s:Shared}{Z:H}
theorem aM.at{v:V}(r:aM P h M φ xs ws.toList)(e:xs[n]?=some v):∃w,ws[n]?=some w/\aK P h M φ v w:=by
 obtain⟨w,q,r⟩:=r.get e;exact⟨w,Array.getElem?_toList▸q,r⟩
theorem Jc{j:Int}(h0:0<=j)(h1:j.toNat<n):(if (decide (0<=j)&&decide (j<n))=true then some j.toNat else none)=some j.toNat:=by
 rw[decide_eq_true h0,decide_eq_true ((Int.toNat_lt h0).mp h1)];rfl
theorem zb{xs:List α}{i:Int}{v:α}(e:idx xs i=some v)
  (k:∀j,seqIndex? i xs.length=some j->xs[j]?=some v-> -(2 ^ 63)<=i->i<2 ^ 63->(0<=i/\j=i.toNat)\/(i<0/\0<=i+xs.length/\j=(i+xs.length).toNat)->C):C:=by
 unfold idx at e;by_cases h:0<=i
 ·rw[if_pos h]at e
  obtain⟨h2,e⟩:=dg e;refine k _ ?_ e (Int.le_trans (by decide) h) (Int.lt_trans h2 (by decide)) (.inl ⟨h,rfl⟩);unfold seqIndex?;rw[if_neg (Int.not_lt.mpr h)];exact Jc h (List.getElem?_eq_some_iff.mp e).1
 ·rw[if_neg h]at e
  have h:=Int.not_le.mp h;obtain⟨h2,e⟩:=dg e;refine k _ ?_ e (Int.le_of_lt (Int.lt_trans (by decide) h2.1)) (Int.lt_trans h (by decide)) (.inr ⟨h,h2.2,rfl⟩);unfold seqIndex?;rw[if_pos h];exact Jc h2.2 (List.getElem?_eq_some_iff.mp e).1
theorem Jd{l:Addr}{i:Int}{t:Tok}{v:V}(hl:s.heap.IsList l ws)(q:aM P s.heap M φ xs ws.toList)(e:idx xs i=some v)
  (k:∀w,aK P s.heap M φ v w->Q w s):wpAny (model P.prog P.w) A (getItem (.ref l) (.int i t)) Q E s:=
 zb e λj Y hx b1 b2 p=>by
  obtain⟨w,hw,r⟩:=q.at hx;rw[q.size]at p;rcases p with⟨h,rfl⟩|⟨h,h0,rfl⟩
  ·exact wpAny_getItem_list hl h b2 hw (k w r)
  ·exact wpAny_getItem_list_neg hl h (by lia) b1 hw (k w r)
theorem MU{i:Int}{c:Char}{t:Tok}(e:idx st.toList i=some c)
  (k:∀w tk,aK P s.heap M φ (.str (String.ofList [c])) w->Q w {s with toks:=tk}):wpAny (model P.prog P.w) A (getItem (.str (Str.ofString st) t) (.int i u)) Q E s:=by
 have XF:(Str.ofString st).cps.toList=st.toList.map Char.toNat:=by rw[Str.ofString_eq_toList]
 have hsz:(Str.ofString st).length=st.toList.length:=(f7 st).trans String.length_toList.symm;refine zb e λj h1 h2 b1 b2 Y=>PySem.P.getItem_str (c:=c.toNat) ?_ ?_ ?_
 ·rw[decide_eq_false (Int.not_lt.mpr b1),decide_eq_false (Int.not_le.mpr b2)];rfl
 ·rw[hsz,h1]
  show(Str.ofString st).cps[j]?=_;rw[<-Array.getElem?_toList,XF,List.getElem?_map,h2];rfl
 ·have e:(⟨#[c.toNat]⟩:Str)=Str.ofString (String.ofList [c]):=by rw[Str.ofString_eq_toList];simp
  rw[e];exact k _ _ ⟨_,rfl⟩
theorem zc{x:V}{i:Int}{b:Value}(hy:aK P s.heap M φ x b)(e:qb x=some i):∃u,b=.int i u:=by
 have r:aK P s.heap M φ (.int i) b:=iz e▸hy;exact r
theorem zd{n:Int}{w:Value}(e:V.int n=z)(r:∃t,w=.int n t):aK P h M φ z w:=e▸r
theorem MV{x:V}{a b:Value}(hb:cQ x y=some z)(hx:cC P s.heap M φ x a)(hy:aK P s.heap M φ y b)
  (k:∀w tk,aK P s.heap M φ z w->Q w {s with toks:=tk}):wpAny (model P.prog P.w) A (getItem a b) Q E s:=by
 have ki:∀{f:Int->Option V},(qb y).bind f=some z->((i:Int)->(u:Tok)->f i=some z->wpAny (model P.prog P.w) A (getItem a (.int i u)) Q E s)->wpAny (model P.prog P.w) A (getItem a b) Q E s:=
  λh K=>f9 h λi e h=>by obtain⟨u,e⟩:=zc hy e;rw[e];exact K i u h
 exact(@V.casesOn (λx=>cQ x y=some z->cC P s.heap M φ x a->wpAny (model P.prog P.w) A (getItem a b) Q E s) x aN aN (λY=>aN) (λY=>aN)
  (λst h hx=>hx.elim λt e=>ki h λi u h=>nW h λc hc e'=>by rw[e];exact MU hc (e'▸k))
  (λxs h hx=>ki h λi u h=>by
   obtain⟨l,ws,rfl,_,t,q⟩:=hx;exact zb h λj h1 h2 b1 b2 Y=>by
    obtain⟨w,hw,r⟩:=q.at h2;exact PyProof.Rows.getItem_tuple t b1 b2 (q.size▸h1) hw (k w s.toks r))
  (λxs h hx=>ki h λi u h=>by
   obtain⟨l,ws,rfl,t,q⟩:=hx;exact Jd t q h λw r=>k w s.toks r)
  (λkvs h hx=>by
   obtain⟨hk,h⟩:=dg h;obtain⟨d,rfl,hs,D⟩:=hx;exact qm D hy hk (Option.join_eq_some_iff.mp h) λK Y knd key f h1 h2 h3=>by obtain⟨w,h3,r⟩:=h3;exact wpAny_getItem_of h1 h2 h3 (k w _ r))
  (λY Y=>aN) (λY Y Y=>aN) (λY=>aN) (λY=>aN)) hb hx
theorem MW{x:V}{a:Value}(hb:ou x=some z)(hx:cC P s.heap M φ x a)
  (k:∀w tk,aK P s.heap M φ z w->Q w {s with toks:=tk}):wpAny (model P.prog P.w) A (call (.builtin "len") [a]) Q E s:=
 (@V.casesOn (λx=>ou x=some z->cC P s.heap M φ x a->wpAny (model P.prog P.w) A (call (.builtin "len") [a]) Q E s) x aN aN (λY=>aN) (λY=>aN)
  (λst h hx=>hx.elim λt e=>by
   obtain⟨hl,e'⟩:=bD h;rw[e];exact PySem.P.len_str (by rw[f7];exact Int.not_le.mpr (oN hl)) (k _ _ (zd e' ⟨_,by rw[f7]⟩)))
  (λxs h hx=>by
   obtain⟨hl,e'⟩:=bD h;obtain⟨l,ws,rfl,_,t,q⟩:=hx;exact PyProof.Rows.len_tuple t (q.size▸oN hl) (k _ _ (zd e' ⟨_,by rw[q.size]⟩)))
  (λxs h hx=>by
   obtain⟨hl,e'⟩:=bD h;obtain⟨l,ws,rfl,t,q⟩:=hx;exact call_len_list t (q.size▸oN hl) (k _ _ (zd e' ⟨_,by rw[q.size]⟩)))
  (λY=>aN) (λY Y=>aN) (λY Y Y=>aN) (λY=>aN) (λY=>aN)) hb hx
end
theorem UJ(a b:Int)(h0:0<=a):sliceRange a b 1=(List.range (b.toNat-a.toNat)).map (a.toNat+·):=by
 obtain⟨k,rfl⟩:=Int.eq_ofNat_of_zero_le h0;have e:(if (k:Int)<b then(b-k+1-1) / 1 else 0:Int).toNat=b.toNat-k:=by
  rw[Int.ediv_one,Int.add_sub_cancel];rcases Decidable.em ((k:Int)<b)with h|h
  ·obtain⟨m,rfl⟩:=Int.eq_ofNat_of_zero_le (Int.le_trans h0 (Int.le_of_lt h))
   rw[if_pos h];exact Int.toNat_sub m k
  ·rw[if_neg h];exact(Nat.sub_eq_zero_of_le (Int.toNat_le.mpr (Int.not_lt.mp h))).symm
 show List.map (λ(j:Nat)=>((k:Int)+1*(j:Int)).toNat) (List.range (if (k:Int)<b then(b-k+1-1) / 1 else 0:Int).toNat)=_;rw[e];exact List.map_congr_left λj Y=>by rw[Int.one_mul];rfl
noncomputable def t6(o:Option Int)(n:Nat)(d:Int):Int:=match o with
 |none=>d
 |some i=>max 0 (min (if i<0 then i+n else i) n)
theorem mx0(x:Int):(max 0 x).toNat=x.toNat:=by
 rcases Int.le_total 0 x with h|h
 ·rw[Int.max_eq_right h]
 ·rw[Int.max_eq_left h,Int.toNat_of_nonpos h];rfl
theorem t7(i:Int)(n:Nat):(max 0 (min (if i<0 then i+n else i) n)).toNat=AA i n/\AA i n<=n:=by
 rw[mx0];unfold AA;by_cases h:i<0
 ·rw[if_pos h,if_pos h,Int.min_eq_left (by lia)]
  exact⟨rfl,by lia⟩
 ·rw[if_neg h,if_neg h]
  obtain⟨k,rfl⟩:=Int.eq_ofNat_of_zero_le (Int.not_lt.mp h);refine⟨?_,Nat.min_le_right _ _⟩;rcases Nat.le_total k n with q|q
  ·rw[Int.min_eq_left (Int.ofNat_le.mpr q)];exact(Nat.min_eq_left q).symm
  ·rw[Int.min_eq_right (Int.ofNat_le.mpr q)];exact(Nat.min_eq_right q).symm
theorem sy:∀(o:Option Int) (n:Nat),0<=t6 o n 0/\(t6 o n 0).toNat=Zu o n
 |none,aR=>⟨Int.le_refl 0,rfl⟩
 |some i,n=>⟨Int.le_max_left ..,(t7 i n).1⟩
theorem ze:∀(o:Option Int) (n:Nat),(t6 o n n).toNat=PG o n/\PG o n<=n
 |none,aR=>⟨rfl,Nat.le_refl _⟩
 |some i,n=>t7 i n
theorem xE(xs:Array α)(lo hi:Option Int):(sliceRange (t6 lo xs.size 0) (t6 hi xs.size xs.size) 1).filterMap (xs[·]?)=dj xs.toList lo hi:=by
 rw[UJ _ _ (sy ..).1,pick_run,(sy ..).2,(ze ..).1,<-List.drop_take];rfl
theorem A1(xs:Array Value)(lo hi:Option Int):slicePick xs lo hi none=(dj xs.toList lo hi).toArray:=congrArg List.toArray (xE xs lo hi)
theorem Dh(x:Str)(l u:Option (Int×Tok)):(slicePicked x l u none).filterMap (x.cps[·]?)=dj x.cps.toList (l.map (·.1)) (u.map (·.1)):=xE x.cps _ _
theorem Di(x:Str)(l u:Option (Int×Tok)):(slicePicked x l u none).length=(dj x.cps.toList (l.map (·.1)) (u.map (·.1))).length:=by
 show(sliceRange (t6 (l.map (·.1)) x.cps.size 0) (t6 (u.map (·.1)) x.cps.size x.cps.size) 1).length=_;rw[UJ _ _ (sy ..).1,(sy ..).2,(ze ..).1,List.length_map,List.length_range];unfold dj;rw[List.length_drop,List.length_take];exact congrArg (· -_) (Nat.min_eq_left (ze ..).2).symm
theorem Dj(f:α->β)(xs:List α)(lo hi:Option Int):dj (xs.map f) lo hi=(dj xs lo hi).map f:=by
 unfold dj;simp only[List.length_map,List.map_take,List.map_drop]
theorem t8(xs:List α)(lo hi:Option Int):(dj xs lo hi).Sublist xs:=(List.drop_sublist _ _).trans (List.take_sublist _ _)
theorem Dk(xs:List α)(lo hi:Option Int)(h:(dj xs lo hi).length=xs.length):dj xs lo hi=xs:=(t8 ..).eq_of_length h
section
variable {P:PV}{A:Around}{E:Value->Shared->Prop}{φ:fz}{M:Addr->Prop}{s:Shared}{Z:H}
theorem GL{t:Tok}{sl:Addr}{l u:Option (Int×Tok)}(hs:s.heap.IsSlice sl l u none)(hl:st.length<lim)
  (k:∀w tk,aK P s.heap M φ (.str (String.ofList (dj st.toList (l.map (·.1)) (u.map (·.1))))) w->Q w {s with toks:=tk}):wpAny (model P.prog P.w) A (getItem (.str (Str.ofString st) t) (.ref sl)) Q E s:=by
 refine wpAny_getItem_str_slice hs rfl ?_;have XF:(Str.ofString st).cps.toList=st.toList.map Char.toNat:=by rw[Str.ofString_eq_toList]
 have e1:=Dh (Str.ofString st) l u;have e2:=Di (Str.ofString st) l u;rw[XF,Dj]at e1 e2;unfold sliceMade;by_cases h:((none:Option (Int×Tok)).map (·.1)).getD 1==1&&(slicePicked (Str.ofString st) l u none).length==(Str.ofString st).length
 ·rw[if_pos h]
  have h:=beq_iff_eq.mp (an h).2;rw[e2,List.length_map,f7]at h;refine k _ _ ⟨t,?_⟩;rw[Dk _ _ _ h,String.ofList_toList]
 ·rw[if_neg h,e1]
  have e:(⟨((dj st.toList (l.map (·.1)) (u.map (·.1))).map Char.toNat).toArray⟩:Str)=Str.ofString (String.ofList (dj st.toList (l.map (·.1)) (u.map (·.1)))):=by
   rw[Str.ofString_eq_toList,String.toList_ofList]
  rw[e];refine⟨?_,k _ _ ⟨_,rfl⟩⟩;rw[f7];exact Nat.le_trans (Nat.le_trans (Nat.le_of_eq String.length_ofList) (t8 ..).length_le) (fh hl)
theorem wM{Q:Option Int->Shared->Prop}(h:Q (some 1) s):wpAny (model P.prog P.w) A (Builtin.Slice.slicePartIndex (.int 1 u)) Q E s:=by
 exact slicePart_int (i:=1) h
theorem qn{sl:Addr}{Q:Int×Int×Nat->Shared->Prop}(hs:s.heap.IsSliceOf sl .none (.int 1 u) .none)(h1:1<=n)(h:Q (0,1,1) s):
  wpAny (model P.prog P.w) A (Builtin.Slice.sliceApplied (.ref sl) (pure (n:Int))) Q E s:=by
 obtain⟨os,Q6,Zx,W0⟩:=id hs;unfold Builtin.Slice.sliceApplied Builtin.Slice.sliceFields;refine wb (wb (wpAny_field Q6 W0 (x:=.none) rfl (wb (wpAny_field Q6 W0 (x:=.int 1 u) rfl (wb (wpAny_field Q6 W0 (x:=.none) rfl (wq ?_)))))));refine wb (slicePart_none ?_);show wpAny _ _ (if ((1:Int)==0)=true then _ else _) _ _ s;rw[if_neg (by decide)];refine wb (slicePart_none (wb (wM (wb (wq ?_)))));show wpAny _ _ (match Builtin.Slice.sliceAdjust none (some 1) 1 (n:Int)with|(lo,hi)=>pure (lo,(1:Int),Builtin.Slice.slicePlaces lo hi 1)) _ _ s;have:Builtin.Slice.sliceAdjust none (some 1) 1 (n:Int)=(0,1):=by
  unfold Builtin.Slice.sliceAdjust;have h2:¬ ((1:Int)<0):=by lia
  simp only[h2,if_false];congr 1;lia
 rw[this];exact wq h
theorem oO{t sl:Addr}{items:Array Value}(ht:IsTup s.heap t items)(hs:s.heap.IsSliceOf sl .none (.int 1 u) .none)(h1:1<=items.size)
  (h:items.size=1->Q (.ref t) s)(h':Q (.ref s.heap.objs.size) {s with heap:=s.heap.push {cls:=.type "tuple",data:=.seq (items.toList.take 1).toArray}}):
  wpAny (model P.prog P.w) A (getItem (.ref t) (.ref sl)) Q E s:=by
 have EL:sizeOk (.seq (items.toList.take 1).toArray):=by
  show(items.toList.take 1).toArray.size<=sizeLine;rw[List.size_toArray,List.length_take,sizeLine_eq];lia
 obtain⟨os,Q6,Zx,W0⟩:=id hs;have hTs:s.TypeIs (.ref sl) "slice":=⟨os,Q6,Zx⟩;unfold getItem
 try with_reducible refine wpAny_holding ?_
 first|refine wb (wq ?_)|skip
 refine wb (wpAny_sequenceKey ht.typeIs (by decide) ?_);refine wb (wpAny_callSpecial?_slot (name:=Str.ofString "__getitem__") ht.typeIs slot_tuple_getitem
  (wpAny_call_entry slot_tuple_getitem ht.typeIs entry_tuple_getitem ?_ (args_tuple_getitem _ _)))
 show wpAny _ _ (Builtin.Tuple.tupleItemsOf (.ref t) >>=_) _ _ s;refine wb (tupleItemsOf_ ht ?_);refine wb (wpAny_typeOf hTs ?_);rw[if_pos (by decide)];refine wb (qn hs h1 ?_);by_cases UK:items.size=1
 ·show wpAny _ _ (if (((0:Int)==0)&&((1:Int)==1)&&(1==items.size))=true then _ else _) _ _ s
  rw[if_pos (by rw[UK];decide)];refine wb (wb (wpAny_typeOf ht.typeIs (wq ?_)));rw[if_pos (by decide)];exact wb (wpAny_rule (wq ⟨_,rfl,wq (h UK)⟩))
 ·show wpAny _ _ (if (((0:Int)==0)&&((1:Int)==1)&&(1==items.size))=true then _ else _) _ _ s
  rw[if_neg (by simp;lia)];have e:((List.range 1).filterMap λ(k:Nat)=>items[((0:Int)+(k:Int)*1).toNat]?).toArray=(items.toList.take 1).toArray:=by
   congr 1;have:(List.range 1)=[0]:=rfl;rw[this];rcases items with⟨l⟩
   cases l with
   |nil=>simp at h1
   |cons a r=>simp
  rw[e]
  first
   |exact wb (m:=Builtin.Tuple.tupleExact _) (wpAny_newObj_type (wq ⟨_,rfl,wq h'⟩) EL)
   |exact wb (m:=Builtin.Tuple.tupleExact _) (wpAny_newObj_type (wb (wq (wq ⟨_,rfl,wq h'⟩))) EL)
   |exact wb (wb (m:=Builtin.Tuple.tupleExact _) (wpAny_newObj_type (wq (wq ⟨_,rfl,wq h'⟩)) EL))
   |exact wb (wb (m:=Builtin.Tuple.tupleExact _) (wpAny_newObj_type (wq ⟨_,rfl,wq h'⟩) EL))
end
noncomputable abbrev Slots:=List (Str×Nat)
structure aY (P:PV) (φ:fz) (M:Addr->Prop) (h:Heap) (sl:Slots) (env:Env) (ρ:List V):Prop where
 kind:env.scope.kind=.function
 aA:env.globals=mainGlobals
 blt:env.builtins=builtinsNs
 aa:M env.locals/\env.locals∉φ.map (·.2)
 cells:∀n c,env.cells.lookup n=some c->M c/\c∉φ.map (·.2)/\c≠env.locals/\∃v,h.IsCell c v
 apart:∀n n' c,env.cells.lookup n=some c->env.cells.lookup n'=some c->n=n'
 inj:∀n n' i,sl.lookup n=some i->sl.lookup n'=some i->n=n'
 ns:∃m,h.Ns env.locals m/\∀n i,env.kindOf n=some .local->sl.lookup n=some i->∀v,ρ[i]?=some v->v≠.ah->∃w,m n=some w/\aK P h M φ v w
 cl:∀n i,env.kindOf n=some .cell->sl.lookup n=some i->∃c,env.cells.lookup n=some c/\∀v,ρ[i]?=some v->v≠.ah->∃w,h.IsCell c (some w)/\aK P h M φ v w
section
variable {P:PV}{A:Around}{E:Value->Shared->Prop}{lo:Addr->Prop}{φ bF:fz}{M M':Addr->Prop}{s s':Shared}{Z:H}{sl:Slots}{env:Env}{ρ:List V}{GN:Model}
noncomputable def Own(env:Env)(a:Addr):Prop:=a=env.locals\/∃n,env.cells.lookup n=some a
theorem aY.move(r:aY P φ M h sl env ρ)(g:d9 h M φ h' M' bF)(UL:∀a,Own env a->M a->a∉φ.map (·.2)->M' a/\a∉bF.map (·.2))(kp:∀a o,Own env a->M a->a∉φ.map (·.2)->h.get? a=some o->h'.get? a=some o):aY P bF M' h' sl env ρ:=by
 have own:∀{n c},env.cells.lookup n=some c->Own env c:=λe=>.inr ⟨_,e⟩;refine⟨r.kind,r.aA,r.blt,UL _ (.inl rfl) r.aa.1 r.aa.2,λn c e=>?_,r.apart,r.inj,?_,λn j k1 k2=>?_⟩
 ·have q:=r.cells n c e
  have q':=UL c (own e) q.1 q.2.1;exact⟨q'.1,q'.2,q.2.2.1,q.2.2.2.elim λv x=>x.elim λo x=>⟨v,o,kp c o (own e) q.1 q.2.1 x.1,x.2⟩⟩
 ·exact r.ns.elim λm q=>⟨m,q.1.elim λo x=>x.elim λes x=>x.elim λep x=>⟨o,es,ep,kp _ o (.inl rfl) r.aa.1 r.aa.2 x.1,x.2⟩,λn j k1 k2 v k3 k4=>(q.2 n j k1 k2 v k3 k4).elim λw x=>⟨w,x.1,x.2.mono g⟩⟩
 ·exact(r.cl n j k1 k2).elim λc q=>⟨c,q.1,λv k3 k4=>(q.2 v k3 k4).elim λw x=>⟨w,x.1.elim λo y=>⟨o,kp c o (own q.1) (r.cells n c q.1).1 (r.cells n c q.1).2.1 y.1,y.2⟩,x.2.mono g⟩⟩
theorem Own.cases(q:Own env a){C:Addr->Prop}(h1:C env.locals)(h2:∀n c,env.cells.lookup n=some c->C c):C a:=q.elim (λe=>e▸h1) λe=>e.elim λn e=>h2 n a e
theorem aY.step(r:aY P φ M s.heap sl env ρ)(i:Inv P Z φ M s)(t:Step lo φ M s bF M' s')(hl:¬ lo env.locals)(hc:∀n c,env.cells.lookup n=some c->¬ lo c):aY P bF M' s'.heap sl env ρ:=
 r.move t.grow (λa Y ha na=>(i.lt a ha).elim λo e=>⟨t.kM a o e ha na,λq=>(t.new a q).elim na (dw e)⟩) λa o q Y n1 e=>t.keep a o e λz=>z.2.elim n1 (q.cases hl hc)
theorem aY.bq(r:aY P φ M s.heap sl env ρ)(i:Inv P Z φ M s)(t:Step bI φ M s bF M' s'):aY P bF M' s'.heap sl env ρ:=r.step i t (λq=>q) λY Y Y q=>q
theorem wN{ρ:List V}{i:Nat}{v:V}(h:i≠j):(ρ.set i v)[j]?=ρ[j]? :=by rw[List.getElem?_set];simp[h]
theorem Je{n:Str}{i:Nat}{v:V}(r:aY P φ M s.heap sl env ρ)(hs:sl.lookup n=some i)(hk:env.kindOf n=some .local\/env.kindOf n=some .cell)
  (hd:(n==("__debug__":Str))=false)(hv:ρ[i]?=some v)(hu:v≠.ah)(k:∀w,aK P s.heap M φ v w->Q w s):wpAny GN A (eval (.Name n pos) env) Q E s:=by
 rcases hk with hk|hk
 ·obtain⟨m,hn,q⟩:=r.ns
  obtain⟨w,h1,h2⟩:=q n i hk hs v hv hu;exact wpAny_Name (wpAny_loadName_local r.kind hk hn h1 (k w h2)) hd
 ·obtain⟨c,h1,q⟩:=r.cl n i hk hs
  obtain⟨w,h3,h2⟩:=q v hv hu;exact wpAny_Name (wpAny_loadName_cell r.kind hk h1 h3 (k w h2)) hd
theorem GO(hs:Heap.SameBut a h h')(ha:bV h' a){b:Addr}{o:Obj}(e:h.get? b=some o):bV h' b:=by
 by_cases z:b=a
 ·rw[z];exact ha
 ·exact⟨o,(hs.2 b z).trans e⟩
theorem Step.upd(hs:Heap.SameBut a s.heap h')(hv:bV h' a)(ha:M a)(MX:a∈φ.map (·.2)\/lo a):Step lo φ M s φ M {s with heap:=h',toks:=tk}:=
 ⟨⟨_,_,rfl⟩,λY Y e=>GO hs hv e,λb o e n=>(hs.2 b λq=>n ⟨q▸ha,q▸MX⟩).trans e,λY Y e=>e,λY e=>.inl e,λY e=>.inl e,λY Y Y e Y=>e⟩
theorem Inv.upd(i:Inv P Z φ M s)(hs:Heap.SameBut a s.heap h')(hv:bV h' a)(ha:M a)(hn:a∉φ.map (·.2)):Inv P Z φ M {s with heap:=h',toks:=tk}:=by
 have t:Step (λY=>True) φ M s φ M {s with heap:=h',toks:=tk}:=Step.upd hs hv ha (.inr trivial);refine⟨i.sys,i.len,λn o c e q=>(i.cell n o c e q).mono t.grow (λob e=>(hs.2 c.2 λz=>hn ?_).trans e) (λx=>x),i.nodup,λb q=>?_,i.base,λb q=>?_,λb o e=>?_⟩
 ·rw[<-z];exact List.mem_map.mpr ⟨c,List.mem_of_getElem? q,rfl⟩
 ·obtain⟨o,e⟩:=i.lt b q;exact t.live b o e
 ·obtain⟨o,e⟩:=i.iy b q;exact t.live b o e
 ·exact(hs.2 b λz=>dw e (z▸i.base a ha)).trans (i.iL b o e)
theorem Heap.Ns.live{m:Str->Option Value}(n:h.Ns a m):bV h a:=n.elim λo x=>x.elim λY x=>x.elim λY x=>⟨o,x.1⟩
theorem Heap.IsCell.live{m:Option Value}(n:h.IsCell a m):bV h a:=n.elim λo x=>⟨o,x.1⟩
theorem get_set{ρ:List V}{v:V}(k:(ρ.set j v)[j]?=some v'):v'=v:=by
 rw[List.getElem?_set_self']at k;exact nW k λY Y e=>e.symm
theorem jQ{ρ:List V}{i:Nat}{v:V}(h:i≠j)(k:(ρ.set i v)[j]?=some v'):ρ[j]?=some v':=(wN h).symm.trans k
theorem EM{n n':Str}{a b:NameKind}(h:env.kindOf n=some a)(h':env.kindOf n'=some b)(e:a≠b):n'≠n:=λz=>e (di (h.symm.trans (z▸h')))
theorem qo{n:Str}{v:V}{w:Value}{Q:Unit->Shared->Prop}(r:aY P φ M s.heap sl env ρ)(i:Inv P Z φ M s)(hs:sl.lookup n=some j)(hk:env.kindOf n=some .local)
  (hv:aK P s.heap M φ v w)(hl:lo env.locals)(k:∀s',Step lo φ M s φ M s'->Inv P Z φ M s'->aY P φ M s'.heap sl env (ρ.set j v)->Q () s'):wpAny GN A (storeName env n w) Q E s:=by
 obtain⟨m,hn,q⟩:=r.ns;have ne:∀{n' j'},n'≠n->sl.lookup n'=some j'->j≠j':=λe k2 z=>e (r.inj _ _ _ k2 (z▸hs));refine wpAny_storeName_local hk hn (λh' Zy k9=>?_) (by rw[r.kind];rfl);have lv:=Heap.Ns.live Zy;have t:Step lo φ M s φ M {s with heap:=h',toks:=s.toks+1}:=Step.upd k9 lv r.aa.1 (.inr hl);refine k _ t (i.upd k9 lv r.aa.1 r.aa.2) ⟨r.kind,r.aA,r.blt,r.aa,λn c e=>?_,r.apart,r.inj,⟨_,Zy,λn' j' k1 k2 v' k3 k4=>?_⟩,λn' j' k1 k2=>?_⟩
 ·obtain⟨a,b,d,v,Jf⟩:=r.cells n c e
  exact⟨a,b,d,v,Jf.sameBut k9 d⟩
 ·by_cases e:n'=n
  ·have ej:j'=j:=di (k2.symm.trans (e▸hs))
   rw[ej]at k3;exact⟨w,if_pos e,get_set k3▸hv.mono t.grow⟩
  ·obtain⟨w',h1,h2⟩:=q n' j' k1 k2 v' (jQ (ne e k2) k3) k4
   exact⟨w',(if_neg e).trans h1,h2.mono t.grow⟩
 ·obtain⟨c,h1,q'⟩:=r.cl n' j' k1 k2
  refine⟨c,h1,λv' k3 k4=>?_⟩;obtain⟨w',h3,h2⟩:=q' v' (jQ (ne (EM hk k1 (by decide)) k2) k3) k4;exact⟨w',h3.sameBut k9 (r.cells n' c h1).2.2.1,h2.mono t.grow⟩
theorem Dl{n:Str}{v:V}{w:Value}{Q:Unit->Shared->Prop}(r:aY P φ M s.heap sl env ρ)(i:Inv P Z φ M s)(hs:sl.lookup n=some j)(hk:env.kindOf n=some .cell)
  (hv:aK P s.heap M φ v w)(UM:∀c,env.cells.lookup n=some c->lo c)(k:∀s',Step lo φ M s φ M s'->Inv P Z φ M s'->aY P φ M s'.heap sl env (ρ.set j v)->Q () s'):wpAny GN A (storeName env n w) Q E s:=by
 have ne:∀{n' j'},n'≠n->sl.lookup n'=some j'->j≠j':=λe k2 z=>e (r.inj _ _ _ k2 (z▸hs));obtain⟨c,hc,q⟩:=r.cl n j hk hs;obtain⟨a,b,d,aaP,Jf⟩:=r.cells n c hc;refine wpAny_storeName_cell r.kind hk hc Jf λh' Q7 k9=>?_;have lv:=Heap.IsCell.live Q7;have t:Step lo φ M s φ M {s with heap:=h'}:=Step.upd (tk:=s.toks) k9 lv a (.inr (UM c hc));refine k _ t (i.upd (tk:=s.toks) k9 lv a b) ⟨r.kind,r.aA,r.blt,r.aa,λn' c' e=>?_,r.apart,r.inj,?_,λn' j' k1 k2=>?_⟩
 ·obtain⟨a',b',d',v',Q8⟩:=r.cells n' c' e
  by_cases z:c'=c
  ·exact⟨a',b',d',_,z▸Q7⟩
  ·exact⟨a',b',d',v',Q8.sameBut k9 z⟩
 ·obtain⟨m,hn,q'⟩:=r.ns
  refine⟨m,hn.sameBut k9 (Ne.symm d),λn' j' k1 k2 v' k3 k4=>?_⟩;obtain⟨w',h1,h2⟩:=q' n' j' k1 k2 v' (jQ (ne (EM hk k1 (by decide)) k2) k3) k4;exact⟨w',h1,h2.mono t.grow⟩
 ·by_cases e:n'=n
  ·have ej:j'=j:=di (k2.symm.trans (e▸hs))
   rw[ej];exact⟨c,e▸hc,λv' k3 Y=>⟨w,Q7,get_set k3▸hv.mono t.grow⟩⟩
  ·obtain⟨c',h1,q'⟩:=r.cl n' j' k1 k2
   refine⟨c',h1,λv' k3 k4=>?_⟩;obtain⟨w',h3,h2⟩:=q' v' (jQ (ne e k2) k3) k4;exact⟨w',h3.sameBut k9 λz=>e (r.apart n' n c (z▸h1) hc),h2.mono t.grow⟩
theorem jv{n:Str}{v:V}{w:Value}{Q:Unit->Shared->Prop}(r:aY P φ M s.heap sl env ρ)(i:Inv P Z φ M s)(hs:sl.lookup n=some j)(hk:env.kindOf n=some .local\/env.kindOf n=some .cell)
  (hv:aK P s.heap M φ v w)(hl:lo env.locals)(UM:env.kindOf n=some .cell->∀c,env.cells.lookup n=some c->lo c)
  (k:∀s',Step lo φ M s φ M s'->Inv P Z φ M s'->aY P φ M s'.heap sl env (ρ.set j v)->Q () s'):wpAny GN A (storeName env n w) Q E s:=
 hk.elim (λhk=>qo r i hs hk hv hl k) λhk=>Dl r i hs hk hv (UM hk) k
end
structure oQ (K:Frag) (C:Addr) (names:List String):Prop where
 get:findIn K (.ref C) "__getattribute__"=some (some (.builtin "object.__getattribute__"))
 dict:hasDictIn K C=true
 own:∀n∈names,findIn K (.ref C) (Str.ofString n)=some none
 set:findIn K (.ref C) "__setattr__"=some (some (.builtin "object.__setattr__"))
 over:plainOver K C=true
section
variable {P:PV}{A:Around}{E:Value->Shared->Prop}{lo:Addr->Prop}{φ bF:fz}{M M':Addr->Prop}{s s':Shared}{Z:H}
theorem Inv.up(i:Inv P Z φ M s):d9 P.h₀ (λY=>False) [] s.heap M φ:=
 ⟨λa o e Y=>i.iL a o e,λa o e q=>dw e (i.base a q),λn c e=>by simp at e⟩
theorem Inv.K(i:Inv P Z φ M s)(h:P.K.In P.h₀):P.K.In s.heap:=h.keeps i.iL
theorem Dm(i:Inv P Z φ M s){n':Nat}{c c':Addr×Addr}(h:φ[n]?=some c)(h':φ[n']?=some c')(ne:n≠n'):c'.2≠c.2:=λe=>by
 have nd:=List.pairwise_iff_getElem.mp i.nodup;have h1:(φ.map (·.2))[n]?=some c.2:=by rw[List.getElem?_map,h];rfl
 have h2:(φ.map (·.2))[n']?=some c.2:=by rw[List.getElem?_map,h',<-e];rfl
 obtain⟨l1,e1⟩:=List.getElem?_eq_some_iff.mp h1;obtain⟨l2,e2⟩:=List.getElem?_eq_some_iff.mp h2;rcases Nat.lt_or_gt_of_ne ne with q|q
 ·exact nd n n' l1 l2 q (e1.trans e2.symm)
 ·exact nd n' n l2 l1 q (e2.trans e1.symm)
theorem fP.live{o:MO}{c:Addr×Addr}(r:fP P h M φ o c)(hd:o≠.dead):bV h c.2:=by
 cases o with
 |dead=>exact absurd rfl hd
 |list xs=>exact r.2.2.elim λws r=>r.1.elim λn e=>⟨_,e⟩
 |dict kvs=>exact r.2.2.elim (λr=>r.elim λl r=>lA r.1 λo Y Y e Y Y Y Y Y=>⟨o,e⟩) λr=>r.elim λl r=>lA r.1 λo Y Y e Y Y Y Y Y=>⟨o,e⟩
 |inst=>exact r.2.2.elim λY r=>r.elim λY r=>r.elim λY r=>⟨_,r.2.2.1⟩
theorem Inv.sD(i:Inv P Z φ M s){c:Addr×Addr}{o':MO}(hn:φ[n]?=some c)(hM:M c.2)(hs:Heap.SameBut c.2 s.heap h')(new:fP P h' M φ o' c)(hd:o'≠.dead):
  Inv P (Z.set n o') φ M {s with heap:=h',toks:=tk}:=by
 have mem:c.2∈φ.map (·.2):=List.mem_map.mpr ⟨c,List.mem_of_getElem? hn,rfl⟩;have t:Step bI φ M s φ M {s with heap:=h',toks:=tk}:=Step.upd hs (new.live hd) hM (.inl mem);refine⟨i.sys,by rw[List.length_set];exact i.len,λm o c' e q=>?_,i.nodup,λb q=>?_,i.base,λb q=>?_,λb o e=>?_⟩
 ·by_cases z:n=m
  ·rw[<-z,List.getElem?_set_self']at e
   rw[<-z,hn]at q;exact nW e λY Y e=>e▸di q▸new
  ·rw[List.getElem?_set_ne z]at e
   exact(i.cell m o c' e q).mono t.grow (λob e=>(hs.2 c'.2 (Dm i hn q z)).trans e) (λx=>x)
 ·obtain⟨o,e⟩:=i.lt b q;exact t.live b o e
 ·obtain⟨o,e⟩:=i.iy b q;exact t.live b o e
 ·exact(hs.2 b λz=>dw e (z▸i.base _ hM)).trans (i.iL b o e)
theorem gP{c:Addr×Addr}(hn:φ[n]?=some c):c.2∈φ.map (·.2):=List.mem_map.mpr ⟨c,List.mem_of_getElem? hn,rfl⟩
theorem A2{k n:String}{t:Tok}(hk:k≠n):(Value.str (Str.ofString k) t).isStr (Str.ofString n)=false:=beq_eq_false_iff_ne.mpr λz=>hk (fH z)
theorem A3{k:String}{t:Tok}:(Value.str (Str.ofString k) t).isStr (Str.ofString k)=true:=beq_self_eq_true _
theorem MY{n:Str}{e:DictEntry}{es:List DictEntry}(h:e.key.isStr n=false)(h':e.refKey=false):getL n (e::es)=getL n es:=by
 unfold getL;rw[List.find?_cons,h,List.any_cons,h',Bool.false_or]
theorem MZ{n:Str}{e:DictEntry}{es:List DictEntry}(h:e.key.isStr n=true):getL n (e::es)=some (some e.val):=by
 unfold getL;rw[List.find?_cons,h]
theorem e8.get(n:String){kvs:List (String×V)}:∀{es:List DictEntry} {z:V},e8 P h M φ kvs es->sY kvs n=some z->∃w,getL (Str.ofString n) es=some (some w)/\aK P h M φ z w:=by
 induction kvs with
 |nil=>exact λY e=>aN e
 |cons p r ih=>
  intro _ z q e;obtain⟨hs,t,w,l',rfl,q1,q2⟩:=q;have e:(if p.1=n then some p.2 else sY r n)=some z:=e;by_cases hk:p.1=n
  ·rw[if_pos hk]at e
   exact⟨w,MZ (hk▸A3),di e▸q1⟩
  ·rw[if_neg hk]at e
   rw[MY (A2 hk) rfl];exact ih q2 e
theorem e8.len{kvs:List (String×V)}:∀{es:List DictEntry},e8 P h M φ kvs es->es.length=kvs.length:=by
 induction kvs with
 |nil=>intro _ q;rw[show _=[] from q];rfl
 |cons p r ih=>intro _ q;obtain⟨hs,t,w,l',rfl,q1,q2⟩:=q;exact congrArg (· +1) (ih q2)
theorem e8.noRef{kvs:List (String×V)}:∀{es:List DictEntry},e8 P h M φ kvs es->es.any (·.refKey)=false:=by
 induction kvs with
 |nil=>intro _ q;rw[show _=[] from q];rfl
 |cons p r ih=>intro _ q;obtain⟨hs,t,w,l',rfl,q1,q2⟩:=q;show(false||l'.any (·.refKey))=false;exact ih q2
theorem e8.set(n:String)(Zz:Int)(tk:Tok){v:V}{w:Value}(hv:aK P h M φ v w){kvs:List (String×V)}:∀{es:List DictEntry},e8 P h M φ kvs es->
  e8 P h M φ (dS kvs n v) (putL (Str.ofString n) Zz (.str (Str.ofString n) tk) w es):=by
 induction kvs with
 |nil=>intro _ q;rw[show _=[] from q];exact⟨Zz,tk,w,[],rfl,hv,rfl⟩
 |cons p r ih=>
  intro _ q;obtain⟨hs,t,w',l',rfl,q1,q2⟩:=q;show e8 P h M φ (if p.1=n then(p.1,v)::r else(p.1,p.2)::dS r n v) (if (Value.str (Str.ofString p.1) t).isStr (Str.ofString n)=true then _ else _);by_cases hk:p.1=n
  ·rw[if_pos hk,if_pos (hk▸A3)]
   exact⟨hs,t,w,l',rfl,hv,q2⟩
  ·rw[if_neg hk,A2 hk,if_neg Bool.false_ne_true]
   exact⟨hs,t,w',_,rfl,q1,ih q2⟩
theorem Jg(name:String)(v:V)(l:List (String×V)):(dS l name v).length<=l.length+1:=by
 induction l with
 |nil=>exact Nat.le_refl _
 |cons p r ih=>
  show(if p.1=name then(p.1,v)::r else(p.1,p.2)::dS r name v).length<=_;by_cases h:p.1=name
  ·rw[if_pos h];exact Nat.le_add_right _ 1
  ·rw[if_neg h];exact Nat.succ_le_succ ih
theorem handed{v:V}{w:Value}:aK P h M φ v w->handedIn w=true:= @V.casesOn (λx=>aK P h M φ x w->handedIn w=true) v (λr=>r.elim) (λr=>r.symm▸rfl) (λY r=>r.symm▸rfl) (λY r=>r.elim λY e=>e.symm▸rfl) (λY r=>r.elim λY e=>e.symm▸rfl) (λY r=>r.elim λY r=>r.elim λY r=>r.1.symm▸rfl) (λY r=>r.elim λY r=>r.elim λY r=>r.1.symm▸rfl) (λY r=>r.elim λY r=>r.elim λY r=>r.1.symm▸rfl) (λY Y r=>r.elim λY r=>r.elim λY r=>r.elim λY r=>r.elim λY r=>r.elim λY r=>r.1.symm▸rfl) (λY Y Y r=>r.elim λY r=>r.elim λY r=>r.elim λY r=>r.elim λY r=>r.1.symm▸rfl) (λY r=>r.elim λY r=>r.2.symm▸rfl) (λY r=>r.symm▸rfl)
theorem noGet_none{K:Frag}:noGet K none=true:=rfl
theorem EN{x:Addr}{es:List DictEntry}{name:String}{kvs:List (String×V)}
  (X:P.K.In s.heap)(ck:oQ P.K ca names)(hm:name∈names)(hx:s.heap.get? x=some (instObj ca dx))(hd:s.heap.get? dx=some (dictOf es n))(q:e8 P s.heap M φ kvs es)(hg:sY kvs name=some z)
  (k:∀w tk,aK P s.heap M φ z w->Q w {s with toks:=tk}):wpAny (model P.prog P.w) A (getAttr (.ref x) (Str.ofString name) b) Q E s:=by
 obtain⟨w,h1,h2⟩:=q.get name hg;exact get_value X ⟨hx,rfl,rfl,hd⟩ ck.get (findObj_own ck.dict (ck.own name hm) noGet_none (by rw[lookIn_dict];exact h1)) (handed h2) (k w _ h2)
theorem M0{w:World}{K:Frag}{C x:Addr}{Q9:Obj}{tk:Tok}{v:Value}{xF es:List DictEntry}{oR:Nat}(X:K.In s.heap)
  (hx:s.heap.get? x=some (instObj C dx))(hD:s.heap.get? dx=some (dictOf xF oR))(hp:plainOver K C=true)(ht:takerIn K C name=some none)(hh:(clsIn K C).any (·.hasDict)=true)(hl:xF.any (·.refKey)=false)
  (e:Obj.putName name (PyData.keyHash w.params name) (.str name s.toks) v (dictOf xF oR)=Q9)(e':Q9.data=.dict es.toArray n)(hz:es.length<=1000)(hf:Q9.isFreed=false)
  (h:∀h',Heap.SameBut dx s.heap h'->h'.get? dx=some Q9->R (.ok (.ret .none)) {s with heap:=h',toks:=s.toks+1}):
  codeAny (model prog w) A (.call (.builtin "object.__setattr__") ⟨[.ref x,.str name tk,v],[]⟩) R s:=by
 refine osa_open X (show InstAt s.heap x (instObj C dx) C (some (dictOf xF oR)) from⟨hx,rfl,rfl,hD⟩) hp ht λb=>?_;obtain⟨cd,hc,PN⟩:=any_some hh;have D':(s.heap.update dx (Obj.putName name (PyData.keyHash w.params name) (.str name s.toks) v)).get? dx=some Q9:=by
  rw[<-e];exact Heap.get?_update_self _ hD (by rw[e];exact hf)
 refine wb (wq (wb (wb (wpAny_loadPart hx (wb ((looks_clsIn X hc).here ?_))))));rw[PN];refine wq (a:=some dx) (wb (wq (wb ?_)));unfold nsSet;refine wb (wb (wpAny_askSetting (wq (wb (wpAny_mkText (wb (wpAny_loadPart hD ?_)))))));have c:(!xF.toArray.any (·.key.isStr name)&&xF.toArray.any (·.refKey))=false:=by rw[List.any_toArray,List.any_toArray,hl,Bool.and_false]
 dsimp only[dictOf];rw[aRefKeyMayBeTheName_at,c];refine wpAny_updatePart hD ?_;exact wb (wpAny_lookBehind D' (by rw[e'];exact pastItsLine_dict (by rw[List.size_toArray,sizeLine_eq];exact Nat.le_trans hz (by decide))) (wq (h _ (Heap.SameBut.update ..) D')))
theorem M6(i:Inv P Z φ M s){kvs:List (String×V)}{name:String}{v:V}{w:Value}{Q:Unit->Shared->Prop}(X:P.K.In s.heap)(wO:Z[n]?=some (.inst cn kvs))
  (ZA:P.ca cn=some ca)(ck:oQ P.K ca names)(hm:name∈names){c:Addr×Addr}(t9:φ[n]?=some c)(hv:aK P s.heap M φ v w)(hz:kvs.length<900)
  (k:∀s',Step bI φ M s φ M s'->Inv P (Z.set n (.inst cn (dS kvs name v))) φ M s'->Q () s'):wpAny (model P.prog P.w) A (setAttr (.ref c.1) (Str.ofString name) w) Q E s:=by
 obtain⟨m1,m2,ZC,es,j,e1,ox,od,q⟩:=i.cell n _ c wO t9;rw[di (e1.symm.trans ZA)]at ox;refine set_plain (ox:=instObj ca c.2) (od:=some (dictOf es j)) X ⟨ox,rfl,rfl,od⟩ ck.set ?_;have q':=e8.set name (PyData.keyHash P.w.params (Str.ofString name)) (s.toks+1) hv q;refine M0 (s:={s with toks:=s.toks+1}) (es:=putL (Str.ofString name) (PyData.keyHash P.w.params (Str.ofString name)) (.str (Str.ofString name) (s.toks+1)) w es) (n:=putN (Str.ofString name) es j)
  X ox od ck.over ?_ ck.dict q.noRef (putName_dict ..) rfl ?_ rfl λh' hs hg=>?_
 ·unfold takerIn;rw[ck.own name hm];rfl
 ·rw[q'.len];exact Nat.le_trans (Jg ..) (by lia)
 ·have t:Step bI φ M s φ M {s with heap:=h',toks:=s.toks+2}:=Step.upd hs ⟨_,hg⟩ m2 (.inl (gP t9))
  exact k _ t (i.sD t9 m2 hs ⟨m1,m2,ca,_,_,ZA,(t.grow.at ox m1).1,hg,q'.mono t.grow⟩ MO.noConfusion)
end
theorem oS(f:Array Value->Array Value)(ZD:Array Value)(n:Nat):∃n',Obj.mapSeq f {cls:=.type "list",data:=.seq ZD n}={cls:=.type "list",data:=.seq (f ZD) n'}:=⟨_,rfl⟩
theorem wQ{w:World}{s:Shared}{l:Addr}{items:Array Value}{k:Int}{t:Tok}{v:Value}{Q:Unit->Shared->Prop}(hp:s.heap.PlainList l items)
  (h0:0<=k)(UN:k<2 ^ 63)(hn:k<items.size)
  (hQ:∀h',h'.PlainList l (items.setIfInBounds k.toNat v)->Heap.SameBut l s.heap h'->Q () {s with heap:=h'}):
  wpAny (model prog w) A (setItem (.ref l) (.int k t) v) Q E s:=by
 have hl:=hp.isList;obtain⟨n,ho⟩:=id hp;unfold setItem
 try with_reducible refine wpAny_holding ?_
 first|refine wb (wq ?_)|skip
 refine wb (wpAny_sequenceKey hl.typeIs (by decide) ?_);refine wb (wpAny_callSpecial?_slot (name:=Str.ofString "__setitem__") hl.typeIs slot_list_setitem
  (wpAny_call_entry slot_list_setitem hl.typeIs entry_list_setitem ?_ (args_list_setitem _ _ _)))
 show wpAny _ _ (Builtin.List.listSubscript? (.int k t) >>=_) _ _ s;refine wb (wpAny_listSubscript_int (fitsIndex_of h0 UN) ?_);clear UN;obtain⟨j,rfl⟩:=Int.eq_ofNat_of_zero_le h0;have hj:j<items.size:=by lia
 have hx':items[j]?=some items[j]:=Array.getElem?_eq_getElem hj;show wpAny _ _ ((seqItemAt l j >>=λr=>pure (r.map (j,·))) >>=_) _ _ s;refine wb (wb (wpAny_seqItemAt ho rfl (wq ?_)));rw[hx'];show wpAny _ _ (setSeqItemAt l j v >>=_) _ _ s;obtain⟨n',e⟩:=oS (·.setIfInBounds j v) items n;have UO:(s.heap.update l (Obj.mapSeq (·.setIfInBounds j v))).PlainList l (items.setIfInBounds j v):=
  ⟨n',by rw[Heap.get?_update_self _ ho (by rw[e];rfl),e]⟩
 refine wb (wpAny_setSeqItemAt ho rfl ?_)
 first
  |exact wb (wq (wq ⟨.none,rfl,wq (hQ _ UO (Heap.SameBut.update ..))⟩))
  |exact wq ⟨.none,rfl,wq (hQ _ UO (Heap.SameBut.update ..))⟩
section
variable {P:PV}{A:Around}{E:Value->Shared->Prop}{φ:fz}{M:Addr->Prop}{s:Shared}{Z Z':H}
theorem mE(i:Inv P Z φ M s){x:V}{w:Value}(ex:x=.ref n)(h:Z[n]?=some (.list xs))(r:aK P s.heap M φ x w)
  (k:∀l ws,w=.ref l->φ[n]?=some (l,l)->M l->s.heap.PlainList l ws->aM P s.heap M φ xs ws.toList->C):C:=by
 rw[ex]at r;obtain⟨c,e,e'⟩:=r;obtain⟨h1,h2,ws,h3,h4⟩:=i.cell n _ c h e;have ec:c=(c.2,c.2):=Prod.ext h1 rfl;exact k c.2 ws (h1▸e') (ec▸e) h2 h3 h4
theorem sE(i:Inv P Z φ M s){x:V}{w:Value}(ex:x=.ref n)(h:Z[n]?=some (.dict kvs))(r:aK P s.heap M φ x w)
  (k:∀l,w=.ref l->φ[n]?=some (l,l)->M l->gO P s.heap M φ kvs l->C):C:=by
 rw[ex]at r;obtain⟨c,e,e'⟩:=r;obtain⟨h1,h2,h3⟩:=i.cell n _ c h e;have ec:c=(c.2,c.2):=Prod.ext h1 rfl;exact k c.2 (h1▸e') (ec▸e) h2 h3
theorem EO(i:Inv P Z φ M s){kvs:List (String×V)}{w:Value}(h:Z[n]?=some (.inst cn kvs))(r:aK P s.heap M φ (.ref n) w):
  ∃c,w=.ref c.1/\φ[n]?=some c/\fP P s.heap M φ (.inst cn kvs) c:=r.elim λc r=>⟨c,r.2,r.1,i.cell n _ c h r.1⟩
theorem Inv.zf(i:Inv P Z φ M s){l:Addr}(hn:φ[n]?=some (l,l))(hM:M l)(hs:Heap.SameBut l s.heap h')(p:h'.PlainList l ws)(q:aM P s.heap M φ xs ws.toList):
  Inv P (Z.set n (.list xs)) φ M {s with heap:=h',toks:=tk}/\Step bI φ M s φ M {s with heap:=h',toks:=tk}:=by
 have t:Step bI φ M s φ M {s with heap:=h',toks:=tk}:=Step.upd hs (p.elim λY e=>⟨_,e⟩) hM (.inl (gP hn));exact⟨i.sD hn hM hs ⟨rfl,hM,ws,p,aM.mono t.grow xs q⟩ MO.noConfusion,t⟩
theorem Dn(i:Inv P Z φ M s){x v:V}(hb:tu Z v x=some Z')(hx:aK P s.heap M φ x wx)(hv:aK P s.heap M φ v wv)
  (k:∀s',Step bI φ M s φ M s'->Inv P Z' φ M s'->Q .none s'):wpAny (model P.prog P.w) A (call (.builtin "list.append") [wx,wv]) Q E s:=
 UH hb λn xs ex wO h=>mE i ex wO hx λl ws e t9 hM p q=>by
  obtain⟨hl,UP⟩:=bD h;rw[e];refine wpAny_list_append_plain p (λh' p' hs=>?_) (q.size▸fh hl);have q':aM P s.heap M φ (xs++[v]) (ws.push wv).toList:=by
   rw[Array.toList_push];exact q.append ⟨wv,[],rfl,hv,rfl⟩
  obtain⟨i',t⟩:=i.zf (tk:=s.toks) t9 hM hs p' q';exact k _ t (UP▸i')
theorem ua{x:V}(h:kK Z x=true)(k:∀n xs,x=.ref n->Z[n]?=some (.list xs)->xs.length<lim->C):C:=
 f9 (z:=()) (o:=(C3 x).bind λn=>jq Z[n]?) (f:=λxs=>if xs.length<lim then some () else none) (by
  unfold kK at h;revert h;cases (C3 x).bind λn=>jq Z[n]? with
  |none=>exact dJ
  |some xs=>exact λh=>if_pos (dt h)) λxs e h=>f9 e λn e e'=>k n xs (jO e) (se e') (dg h).1
theorem get_append(i:Inv P Z φ M s){x:V}{pl:Sem Bool}{Q:Value×List Value->Shared->Prop}(wO:kK Z x=true)(hx:aK P s.heap M φ x wx)(k:Q (.builtin "list.append",[wx]) s):
  wpAny (model P.prog P.w) A (getMethod wx "append" pl) Q E s:=
 ua wO λn xs ex wO Y=>mE i ex wO hx λl ws e t9 hM p q=>by
  rw[e]at k ⊢;exact p.elim λY p=>getMethod_list_append p rfl rfl k
theorem zg(q:aM P h M φ xs ws.toList)(hp:0<ws.size):aM P h M φ xs.dropLast (ws.eraseIdxIfInBounds (ws.size-1)).toList:=by
 have e1:(ws.eraseIdxIfInBounds (ws.size-1)).toList=ws.toList.take (xs.length-1):=by
  rw[Array.eraseIdxIfInBounds,dif_pos (Nat.sub_lt hp Nat.one_pos),Array.toList_eraseIdx,List.eraseIdx_eq_take_drop_succ,List.drop_of_length_le (Nat.le_of_eq (Nat.sub_add_cancel hp).symm),List.append_nil,q.size]
 rw[e1,List.dropLast_eq_take];exact q.take _
theorem M7(i:Inv P Z φ M s){x v:V}(hb:xu Z x=some (v,Z'))(hl:kK Z x=true)(hx:aK P s.heap M φ x wx)
  (k:∀w s',Step bI φ M s φ M s'->Inv P Z' φ M s'->aK P s'.heap M φ v w->Q w s'):wpAny (model P.prog P.w) A (call (.builtin "list.pop") [wx]) Q E s:=
 UH hb λn xs ex wO h=>mE i ex wO hx λl ws e t9 hM p q=>nW h λu hu e0=>ua hl λn' xs' ex' UQ hl=>by
  rw[<-V.ref.inj (ex.symm.trans ex')]at UQ;rw[MO.list.inj (di (UQ.symm.trans wO)),q.size]at hl;obtain⟨e1,e2⟩:=Prod.mk.inj e0;have My:xs[ws.size-1]?=some v:=by rw[<-q.size,<-e1,<-hu,List.getLast?_eq_getElem?]
  obtain⟨y,hy,r⟩:=q.at My;have hp:0<ws.size:=Nat.lt_of_le_of_lt (Nat.zero_le _) (Array.getElem?_eq_some_iff.mp hy).1;obtain⟨m,ho⟩:=p;rw[e];refine call_meets PySem.F.slot_list_pop ⟨_,ho,rfl⟩ PySem.F.entry_list_pop (PySem.F.args_list_pop_1 _) (PySem.MeetsSeq.list_pop_last l ws m y hy (fh hl)) ⟨ho,?_⟩;obtain⟨m',e'⟩:=oS (λxs=>xs.eraseIdxIfInBounds (ws.size-1)) ws m;have p':(s.heap.update l (Obj.mapSeq λxs=>xs.eraseIdxIfInBounds (ws.size-1))).PlainList l (ws.eraseIdxIfInBounds (ws.size-1)):=⟨m',by rw[Heap.get?_update_self _ ho (by rw[e'];rfl),e']⟩;obtain⟨i',t⟩:=i.zf (tk:=s.toks) t9 hM (Heap.SameBut.update ..) p' (zg q hp);exact k _ _ t (e2▸i') (r.mono t.grow)
theorem M8(i:Inv P Z φ M s){x:V}{pl:Sem Bool}{Q:Value×List Value->Shared->Prop}(wO:kK Z x=true)(hx:aK P s.heap M φ x wx)(k:Q (.builtin "list.pop",[wx]) s):
  wpAny (model P.prog P.w) A (getMethod wx "pop" pl) Q E s:=
 ua wO λn xs ex wO Y=>mE i ex wO hx λl ws e t9 hM p q=>by
  rw[e]at k ⊢;exact getMethod_list_of PySem.F.slot_list_pop PySem.F.type_list_pop p.isList (p.elim λY p=>⟨_,p,rfl⟩) k
theorem qP{K:Type}[DecidableEq K]{k k':K}{v w:Value}{l:List (K×Value)}:stored ((k,v)::l) k' w=if k=k' then(k,w)::l.map (λkv=>if kv.1=k' then(kv.1,w) else kv) else(k,v)::stored l k' w:=by
 unfold stored;rw[List.any_cons];by_cases h:k=k'
 ·rw[decide_eq_true h,Bool.true_or,if_pos rfl,if_pos h,List.map_cons,if_pos h]
 ·rw[decide_eq_false h,Bool.false_or,if_neg h,List.map_cons,if_neg h]
  by_cases h2:(l.any λkv=>decide (kv.1=k'))=true
  ·rw[if_pos h2,if_pos h2]
  ·rw[if_neg h2,if_neg h2];rfl
theorem qQ{K:Type}[DecidableEq K]{k:K}{w:Value}{l:List (K×Value)}(nd:k∉l.map (·.1)):l.map (λkv=>if kv.1=k then(kv.1,w) else kv)=l:=by
 refine(List.map_congr_left λkv hm=>?_).trans (List.map_id _);exact if_neg λ(z:kv.1=k)=>nd (z▸List.mem_map_of_mem (f:=λkv=>kv.1) hm)
theorem A4{s':String}{v:V}{w:Value}(hv:aK P h M φ v w):∀{r:List (V×V)} {l:List (Str×Value)},bB P h M φ kvs l->putK kvs (.str s') v=some r->(l.map (·.1)).Nodup->
  bB P h M φ r (stored l (Str.ofString s') w):=by
 induction kvs with
 |nil=>intro r l q e _;rw[show l=[] from q,<-di e];exact⟨s',w,[],rfl,rfl,hv,rfl⟩
 |cons p kvs ih=>
  obtain⟨k,u⟩:=p;intro r l q e nd;obtain⟨fQ,Jh,l',rfl,rfl,q1,q2⟩:=q;have e:cond (decide (fQ=s')) (some ((.str fQ,v)::kvs)) ((putK kvs (.str s') v).map ((.str fQ,u)::·))=some r:=e;obtain⟨UR,US⟩:=List.nodup_cons.mp nd;rw[qP];by_cases hs:fQ=s'
  ·rw[decide_eq_true hs]at e
   rw[if_pos (congrArg _ hs),qQ (hs▸UR),<-di e];exact⟨fQ,w,_,rfl,rfl,hv,q2⟩
  ·rw[decide_eq_false hs]at e
   rw[if_neg λz=>hs (fH z)];exact nW e λr' e1 e2=>by rw[<-e2];exact⟨fQ,Jh,_,rfl,rfl,q1,ih q2 e1 US⟩
theorem Ji{s':Int}{v:V}{w:Value}(hv:aK P h M φ v w):∀{r:List (V×V)} {l:List (Int×Value)},iw P h M φ kvs l->putK kvs (.int s') v=some r->(l.map (·.1)).Nodup->
  iw P h M φ r (stored l s' w):=by
 induction kvs with
 |nil=>intro r l q e _;rw[show l=[] from q,<-di e];exact⟨s',w,[],rfl,rfl,hv,rfl⟩
 |cons p kvs ih=>
  obtain⟨k,u⟩:=p;intro r l q e nd;obtain⟨fQ,Jh,l',rfl,rfl,q1,q2⟩:=q;have e:cond (decide (fQ=s')) (some ((.int fQ,v)::kvs)) ((putK kvs (.int s') v).map ((.int fQ,u)::·))=some r:=e;obtain⟨UR,US⟩:=List.nodup_cons.mp nd;rw[qP];by_cases hs:fQ=s'
  ·rw[decide_eq_true hs]at e
   rw[if_pos hs,qQ (hs▸UR),<-di e];exact⟨fQ,w,_,rfl,rfl,hv,q2⟩
  ·rw[decide_eq_false hs]at e
   rw[if_neg hs];exact nW e λr' e1 e2=>by rw[<-e2];exact⟨fQ,Jh,_,rfl,rfl,q1,ih q2 e1 US⟩
theorem bB.length:∀{l:List (Str×Value)},bB P h M φ kvs l->l.length=kvs.length:=by
 induction kvs with
 |nil=>intro l q;rw[show l=[] from q];rfl
 |cons p r ih=>obtain⟨a,b⟩:=p;intro l q;obtain⟨_,_,_,rfl,_,_,q⟩:=q;exact congrArg (· +1) (ih q)
theorem iw.length:∀{l:List (Int×Value)},iw P h M φ kvs l->l.length=kvs.length:=by
 induction kvs with
 |nil=>intro l q;rw[show l=[] from q];rfl
 |cons p r ih=>obtain⟨a,b⟩:=p;intro l q;obtain⟨_,_,_,rfl,_,_,q⟩:=q;exact congrArg (· +1) (ih q)
theorem jR{K:Type}[DecidableEq K]{knd:KeyKind P.prog P.w K}{l:List (K×Value)}(d:h.DictOf knd a l):(l.map (·.1)).Nodup:=lA d λY Y Y Y Y Y Y Y n=>n
theorem lC{K:Type}[DecidableEq K]{knd:KeyKind P.prog P.w K}{l:List (K×Value)}(d:h.DictOf knd a l):bV h a:=lA d λo Y Y e Y Y Y Y Y=>⟨o,e⟩
theorem Jj{s:String}{v:V}(D:gO P h M φ kvs a)(e:putK kvs (.str s) v=some r):∃l,h.DictOf (strKind P.prog P.w) a l/\bB P h M φ kvs l:=by
 rcases D with D|⟨l,d,q⟩
 ·exact D
 ·cases kvs with
  |nil=>rw[show l=[] from q]at d;exact⟨[],lB _ d,rfl⟩
  |cons p kvs=>obtain⟨k,u⟩:=p;obtain⟨_,_,_,_,rfl,_⟩:=q;exact aN e
theorem Jk{s:Int}{v:V}(D:gO P h M φ kvs a)(e:putK kvs (.int s) v=some r):∃l,h.DictOf (intKind P.prog P.w) a l/\iw P h M φ kvs l:=by
 rcases D with⟨l,d,q⟩|D
 ·cases kvs with
  |nil=>rw[show l=[] from q]at d;exact⟨[],lB _ d,rfl⟩
  |cons p kvs=>obtain⟨k,u⟩:=p;obtain⟨_,_,_,_,rfl,_⟩:=q;exact aN e
 ·exact D
theorem A5(i:Inv P Z φ M s){x v:V}{Q:Unit->Shared->Prop}{f:Int->Option H}(ex:x=.ref n)(wO:Z[n]?=some (.list xs))(hb:(qb y).bind f=some Z')
  (hf:∀k z,f k=some z->(0<=k/\k<xs.length/\xs.length<lim)/\Z.set n (.list (xs.set k.toNat v))=z)(hx:aK P s.heap M φ x wx)(hy:aK P s.heap M φ y wy)(hv:aK P s.heap M φ v wv)
  (k:∀s',Step bI φ M s φ M s'->Inv P Z' φ M s'->Q () s'):wpAny (model P.prog P.w) A (setItem wx wy wv) Q E s:=
 mE i ex wO hx λl ws e t9 hM p q=>f9 hb λj ej h=>by
  obtain⟨⟨h0,h1,hl⟩,UP⟩:=hf j _ h;obtain⟨t,e'⟩:=zc hy ej;rw[q.size]at h1 hl;rw[e,e'];refine wQ p h0 (Int.lt_trans h1 (oN hl)) h1 λh' p' hs=>?_;have q':aM P s.heap M φ (xs.set j.toNat v) (ws.setIfInBounds j.toNat wv).toList:=by
   rw[Array.toList_setIfInBounds];exact q.set _ hv
  obtain⟨i',t⟩:=i.zf (tk:=s.toks) t9 hM hs p' q';exact k _ t (UP▸i')
theorem A6(i:Inv P Z φ M s){x v:V}{Q:Unit->Shared->Prop}(ex:x=.ref n)(wO:Z[n]?=some (.dict kvs))(hz:kvs.length<lim)(hk:isKey y=true)(e:putK kvs y v=some r)
  (hx:aK P s.heap M φ x wx)(hy:aK P s.heap M φ y wy)(hv:aK P s.heap M φ v wv)
  (k:∀s',Step bI φ M s φ M s'->Inv P (Z.set n (.dict r)) φ M s'->Q () s'):wpAny (model P.prog P.w) A (setItem wx wy wv) Q E s:=
 sE i ex wO hx λl e0 t9 hM D=>by
  have fin:∀{h':Heap} {tk:Nat},Heap.SameBut l s.heap h'->bV h' l->(∀M' bF,d9 s.heap M φ h' M' bF->gO P h' M' bF r l)->Q () {s with heap:=h',toks:=tk}:=λ{h' tk} hs lv hd=>
   have t:Step bI φ M s φ M {s with heap:=h',toks:=tk}:=Step.upd hs lv hM (.inl (gP t9))
   k _ t (i.sD t9 hM hs ⟨rfl,hM,hd _ _ t.grow⟩ MO.noConfusion)
  rw[e0];have hk:=ML hk;induction hk with
  |str s'=>
   obtain⟨l',d,q⟩:=Jj D e;obtain⟨t,rfl⟩:=hy;exact wpAny_setItem_pairs (k:=Str.ofString s') (tZ _ t) d (λh' d' hs=>fin hs (lC d') λM' bF g=>.inl ⟨_,d',(A4 hv q e (jR d)).mono g⟩) (q.length▸fh hz)
  |int s'=>
   obtain⟨l',d,q⟩:=Jk D e;obtain⟨t,rfl⟩:=hy;exact wpAny_setItem_pairs (k:=s') (I6 _ t) d (λh' d' hs=>fin hs (lC d') λM' bF g=>.inr ⟨_,d',(Ji hv q e (jR d)).mono g⟩) (q.length▸fh hz)
theorem A7(i:Inv P Z φ M s){x v:V}{Q:Unit->Shared->Prop}(hb:tw Z x y v=some Z')(hx:aK P s.heap M φ x wx)(hy:aK P s.heap M φ y wy)(hv:aK P s.heap M φ v wv)
  (k:∀s',Step bI φ M s φ M s'->Inv P Z' φ M s'->Q () s'):wpAny (model P.prog P.w) A (setItem wx wy wv) Q E s:=
 f9 hb λn en h=>by
  cases e:jq Z[n]? with
  |some xs=>
   rw[e]at h;exact A5 i (jO en) (se e) h (λY Y=>bD) hx hy hv k
  |none=>
   rw[e]at h;exact f9 h λkvs e h=>nW (dg h).2 λr e2 e3=>A6 i (jO en) (sf e) (dg h).1.1 (dg h).1.2 e2 hx hy hv λs' t i'=>k s' t (e3▸i')
end
set_option backward.match.sparseCases true
theorem GQ(n:Nat):∀a:Int,(kJ a n).length=n:=by
 induction n with
 |zero=>exact λY=>rfl
 |succ n ih=>exact λa=>congrArg (· +1) (ih (a+1))
theorem A8(n:Nat):∀a:Int,(jI a n).length=n:=by
 induction n with
 |zero=>exact λY=>rfl
 |succ n ih=>exact λa=>congrArg (· +1) (ih (a-1))
theorem step_at(a c:Int)(j:Nat):a+c+j*c=a+((j+1:Nat):Int)*c:=by
 rw[Int.natCast_add,Int.add_mul,Int.add_assoc,Int.add_comm c];exact congrArg (λx=>a+(j*c+x)) (Int.one_mul c).symm
theorem Jl(n:Nat):∀(a:Int) (j:Nat) (v:V),(kJ a n)[j]?=some v->v=.int (a+j*1):=by
 induction n with
 |zero=>exact λY Y Y=>aN
 |succ n ih=>
  intro a j v e;rcases j with _|j
  ·rw[<-di e];exact congrArg V.int (Int.add_zero a).symm
  ·rw[ih (a+1) j v e,step_at]
theorem Dp(n:Nat):∀(a:Int) (j:Nat) (v:V),(jI a n)[j]?=some v->v=.int (a+j* -1):=by
 induction n with
 |zero=>exact λY Y Y=>aN
 |succ n ih=>
  intro a j v e;rcases j with _|j
  ·rw[<-di e];exact congrArg V.int (Int.add_zero a).symm
  ·rw[ih (a-1) j v e,Int.sub_eq_add_neg,step_at]
theorem A9(a b:Int):(if a >b then a-b else 0)=((a-b).toNat:Int):=by
 by_cases h:a >b
 ·rw[if_pos h,Int.toNat_of_nonneg (Int.le_of_lt (Int.sub_pos.mpr h))]
 ·rw[if_neg h,Int.toNat_of_nonpos (Int.sub_nonpos_of_le (Int.not_lt.mp h))];rfl
theorem nE(a b:Int):Builtin.Range.rangeSize a b (-1)=((a-b).toNat:Int):=by
 rw[<-A9];show(if a >b then(a-b-1) / 1+1 else 0)=_;rw[Int.ediv_one,Int.sub_add_cancel]
theorem rangeSize_pos(a b:Int):Builtin.Range.rangeSize a b 1=((b-a).toNat:Int):=(rangeSize_one a b).trans (A9 b a)
theorem GR{a b:Int}(h1: -16000000<=a)(h2:a<=16000000)(h3: -16000000<=b)(h4:b<=16000000):Builtin.Range.small a b (-1)=true:=by
 unfold Builtin.Range.small;rw[nE];have f:∀x:Int,-64000000<=x->x<=64000000->Builtin.Range.rangeFitsLong x=true:=λx p q=>Bool.and_eq_true_iff.mpr ⟨decide_eq_true (Int.le_trans (by decide) p),decide_eq_true (Int.lt_of_le_of_lt q (by decide))⟩;rw[f a (Int.le_trans (by decide) h1) (Int.le_trans h2 (by decide)),f b (Int.le_trans (by decide) h3) (Int.le_trans h4 (by decide)),f (-1) (by decide) (by decide),f ((a-b).toNat:Int) (by lia) (by lia),if_neg (by decide),f (b+(-1+1)) (by lia) (by lia),Bool.or_true];rfl
noncomputable def lD:List String:=["enumerate","zip","dict_itemiterator","dict_reverseitemiterator","odict_iterator","itertools.zip_longest","itertools.pairwise"]
noncomputable def zh(h:Heap)(I:Addr):Prop:=∃o n vs,h.get? I=some o/\o.cls=.type n/\o.data=.fields vs/\lD.contains n=false
theorem uc{M:Model}{s:Shared}{target:Expr}{v:Value}{Q:Unit->Shared->Prop}(i:zh s.heap I)(h:Q () s):wpAny M A (letOwnedTupleGo target (.ref I) v) Q E s:=by
 have p:wpAny M A (pure ()) Q E s:=wq h;obtain⟨o,n,vs,ho,hc,hd,hn⟩:=i;have key:∀(a:Addr),wpAny M A (do
   let o<-load I
   match o.cls,o.data with
   |.type n,.fields vs=>
    if lD.contains n&&vs[0]?==some (rawInt a) then
     rule "for.unpacks-the-owned-tuple"
     updateField I 0 .none
   |aR,dm=>pure ()) Q E s:=λa=>by
  refine wb (wpAny_load ho ?_);rw[hc,hd];show wpAny M A (if (lD.contains n&&vs[0]?==some (rawInt a))=true then _ else _) Q E s;rw[hn];exact p
 have w:wpAny M A (letOwnedTupleGo (.Tuple [] 0 default) (.ref I) v) Q E s:=by
  clear hn hd hc ho h;rcases v<;>first|exact p|exact key _
 clear key ho hc hd hn h;rcases target<;>first|exact p|exact w
section
variable {P:PV}{A:Around}{E:Value->Shared->Prop}{φ:fz}{M:Addr->Prop}{s:Shared}{Z Z':H}
noncomputable def Jm(P:PV)(A:Around)(φ:fz)(M:Addr->Prop)(s:Shared)(vs:List V)(Q:Value->Shared->Prop):Prop:=
 ∀I fp Pn St h',Walks P.prog P.w A I fp [I] vs.length Pn St->s.heap.get? I=none->(∀b∈fp,b≠I->bV s.heap b/\¬ M b)->St 0 h'->(∀i h,St i h->zh h I)->(∀b o,s.heap.get? b=some o->h'.get? b=some o)->
   (∀j v w zj Ra Dq,d9 s.heap M φ zj Ra Dq->vs[j]?=some v->Pn j w->aK P zj Ra Dq v w)->Q (.ref I) {s with heap:=h'}
theorem Ba(k:Jm P A φ M s vs Q)(nm:¬ M a)(q:aM P s.heap M φ vs ws.toList){it:Obj}
  (W:Walks P.prog P.w A s.heap.objs.size [s.heap.objs.size,a] [s.heap.objs.size] ws.size (λi v=>ws[i]?=some v) St)(lv:bV s.heap a)(s0:St 0 (s.heap.push it))(sI:∀i h,St i h->zh h s.heap.objs.size):
  Q (.ref s.heap.objs.size) {s with heap:=s.heap.push it}:=
 k _ _ _ _ _ (q.size▸W) bC (λb hb nb=>(List.mem_cons.mp hb).elim (λz=>absurd z nb) λhb=>(List.mem_singleton.mp hb)▸⟨lv,nm⟩) s0 sI (λb o e=>ju _ e)
  λj v w zj Ra Dq g e (p:ws[j]?=some w)=>(q.at e).elim λw' r=>(di (r.1.symm.trans p):w'=w)▸r.2.mono g
theorem gb(lv:bV h a):a≠h.objs.size:=λe=>lv.elim λo q=>aN (bC.symm.trans (e▸q))
theorem Bb(hh:A.handled=none){a b c:Int}{t v:Tok}{r:Addr}(k:Jm P A φ M s vs Q)(o:IsRange s.heap r a b c t u v)(hs:Builtin.Range.small a b c=true)(hn:Builtin.Range.rangeSize a b c=n)
  (hl:vs.length=n)(hv:∀(j:Nat) (v:V),vs[j]?=some v->v=.int (a+j*c)):wpAny (model P.prog P.w) A (pyIter (.ref r)) Q E s:=by
 subst hl;refine wpAny_pyIter_range o hs ?_;have W:=Walks.range (prog:=P.prog) (w:=P.w) hh s.heap.objs.size a c vs.length;refine k _ _ _ _ _ W bC (λb hb nb=>absurd (List.mem_singleton.mp hb) nb) ?_ (λi h st=>⟨_,_,_,st,rfl,rfl,by decide⟩) (λb o e=>ju _ e) λj v w zj Ra Dq g e p=>p.elim λt p=>(hv j v e)▸⟨t,p⟩;show IsRangeIter _ _ (a+((0:Nat):Int)*c) ((vs.length:Int)-((0:Nat):Int)) c;rw[<-hn,show((0:Nat):Int)=0 from rfl,Int.zero_mul,Int.add_zero,Int.sub_zero];exact Heap.get?_push_size _ rfl
theorem Bc(hh:A.handled=none){it:V}{w:Value}(hv:itemsOf it=some vs)(r:aK P s.heap M φ it w)(k:Jm P A φ M s vs Q):
  wpAny (model P.prog P.w) A (pyIter w) Q E s:=
 (@V.casesOn (λx=>itemsOf x=some vs->aK P s.heap M φ x w->wpAny (model P.prog P.w) A (pyIter w) Q E s) it aN aN (λY=>aN) (λY=>aN) (λY=>aN) (λxs h r=>by
   rw[di h]at r;obtain⟨a,ws,rfl,nm,t,q⟩:=r;have lv:bV s.heap a:=t.elim λo e=>⟨o,e.1⟩;exact wpAny_pyIter_tuple t (Ba k nm q (Walks.tuple hh _ a (gb lv) ws) lv ⟨⟨_,Heap.get?_push_size _ rfl,rfl,rfl⟩,t.elim λo e=>⟨o,ju _ e.1,e.2⟩⟩ λi h st=>st.1.elim λo e=>⟨o,_,_,e.1,e.2.1,e.2.2,by decide⟩)) (λxs h r=>by
   rw[di h]at r;obtain⟨a,ws,rfl,nm,t,q⟩:=r;have lv:bV s.heap a:=t.elim λo e=>⟨o,e.1⟩;exact wpAny_pyIter_list t (Ba k nm q (Walks.list hh _ a (gb lv) ws) lv ⟨⟨_,Heap.get?_push_size _ rfl,rfl,rfl⟩,t.elim λo e=>⟨o,ju _ e.1,e.2⟩⟩ λi h st=>st.1.elim λo e=>⟨o,_,_,e.1,e.2.1,e.2.2,by decide⟩)) (λY=>aN) (λY Y=>aN) (λa b c h r=>by
   obtain⟨⟨b1,b2,b3,b4⟩,h⟩:=dg h;obtain⟨r,t,u,v,rfl,nm,o⟩:=r;by_cases hc:c=1
   ·rw[if_pos hc]at h
    rw[hc]at o;have e:=di h;exact Bb hh k o (small_one (Int.le_trans (by decide) b1) (Int.lt_of_le_of_lt b2 (by decide)) (Int.le_trans (by decide) b3) (Int.lt_of_le_of_lt b4 (by decide))) (rangeSize_pos a b) (e▸GQ _ _) (e▸Jl _ _)
   ·rw[if_neg hc]at h
    obtain⟨hc,h⟩:=dg h;rw[hc]at o;have e:=di h;exact Bb hh k o (GR b1 b2 b3 b4) (nE a b) (e▸A8 _ _) (e▸Dp _ _)) (λY=>aN) (λY=>aN)) hv r
theorem M9{isStr:Bool}{x:V}{w:Value}(hb:ED isStr x=some b)(hx:aK P s.heap M φ x w)(k:∀tk,Q (.bool b) {s with toks:=tk}):
  wpAny (model P.prog P.w) A (call (.builtin "isinstance") [w,.type (if isStr then "str" else "tuple")]) Q E s:=by
 have k1:∀{c:Bool} {tk:Nat},some c=some b->Q (.bool c) {s with toks:=tk}:=λe=>di e▸k _;have k0:∀{c:Bool},some c=some b->Q (.bool c) s:=λe=>di e▸k s.toks;clear k;exact(@V.casesOn (λx=>ED isStr x=some b->aK P s.heap M φ x w->wpAny (model P.prog P.w) A (call (.builtin "isinstance") [w,.type (if isStr then "str" else "tuple")]) Q E s) x aN (λh r=>by
   rcases isStr with _|_
   ·rw[show w=.none from r];exact PySem.IsiPair.NoneType_tuple (k1 h)
   ·exact aN h) (λb h r=>by
   rcases isStr with _|_
   ·rw[show w=.bool b from r];exact PySem.IsiPair.bool_tuple (k1 h)
   ·exact aN h) (λb h r=>by
   rcases isStr with _|_
   ·obtain⟨t,rfl⟩:=r;exact PySem.IsiPair.int_tuple (k1 h)
   ·exact aN h) (λb h r=>by
   obtain⟨t,rfl⟩:=r;rcases isStr with _|_
   ·exact PySem.IsiPair.str_tuple (k1 h)
   ·exact PySem.IsiPair.str_str (k0 h)) (λb h r=>by
   obtain⟨a,ws,rfl,nm,⟨o,ho,hc,_⟩,q⟩:=r;rcases isStr with _|_
   ·exact PySem.IsiPair.tuple_tuple ho hc (k0 h)
   ·exact PySem.IsiPair.tuple_str ho hc (k1 h)) (λY=>aN) (λY=>aN) (λY Y=>aN) (λY Y Y=>aN) (λY=>aN) (λY=>aN)) hb hx
theorem Ds(i:Inv P Z φ M s){w:Value}(hx:aK P s.heap M φ (.af xs) w)(hl:xs.length<lim)
  (k:∀w s',Step bI φ M s φ M s'->Inv P Z φ M s'->aK P s'.heap M φ (.aC xs) w->Q w s'):wpAny (model P.prog P.w) A (call (.type "list") [w]) Q E s:=by
 obtain⟨a,ws,rfl,nm,⟨o,ho,hc,n,hd⟩,q⟩:=hx;refine call_list_seq (hsz:=q.size▸fh hl) a (.inr rfl) ho hc hd λh' c' hk hD=>?_;obtain⟨i',t⟩:=i.more (lo:=bI) (tk:=s.toks) hk;exact k _ _ t i' ⟨_,ws,rfl,i.notM,⟨_,hD,rfl,c',rfl⟩,aM.mono t.grow xs q⟩
theorem GU(i:Inv P Z φ M s){w:Value}(hx:cC P s.heap M φ (.aC xs) w)(hl:xs.length<lim)
  (k:∀w s',Step bI φ M s φ M s'->Inv P Z φ M s'->aK P s'.heap M φ (.af xs) w->Q w s'):wpAny (model P.prog P.w) A (call (.type "tuple") [w]) Q E s:=by
 obtain⟨a,ws,rfl,t,q⟩:=hx;refine call_tuple_list (hsz:=q.size▸fh hl) t λh' hk=>?_;obtain⟨i',t⟩:=i.more (lo:=bI) (h':=h'.push {cls:=.type "tuple",data:=.seq ws}) (tk:=s.toks) λb o e=>ju _ (hk b o e);exact k _ _ t i' ⟨_,ws,rfl,λm=>(i.lt _ m).elim λo e=>aN (bC.symm.trans (hk _ _ e)),⟨_,Heap.get?_push_size _ rfl,rfl,_,rfl⟩,aM.mono t.grow xs q⟩
theorem ue{x:V}{i:Int}{ws:List Value}(hx:aM P s.heap M φ (x::xs) ws)(e:qb x=some i):∃t l,ws=.int i t::l/\aM P s.heap M φ xs l:=by
 rw[iz e]at hx;obtain⟨w,l,h,⟨t,e⟩,q⟩:=hx;exact⟨t,l,e▸h,q⟩
theorem GV(i:Inv P Z φ M s){ws:List Value}(hb:EA xs=some z)(hx:aM P s.heap M φ xs ws)
  (k:∀w s',Step bI φ M s φ M s'->Inv P Z φ M s'->aK P s'.heap M φ z w->Q w s'):wpAny (model P.prog P.w) A (call (.type "range") ws) Q E s:=by
 have k':∀{a b c:Int} {t u v:Tok} {tk:Nat},z=.k8 a b c->Q (.ref s.heap.objs.size) {s with heap:=s.heap.push {cls:=.type "range",data:=.fields #[.int a t,.int b u,.int c v]},toks:=tk}:=λe=>
  k _ _ ((Step.push bI _).tok _) ((i.push _).tok _) (e▸⟨_,_,_,_,rfl,i.notM,Heap.get?_push_size _ rfl⟩)
 clear k;rcases xs with _|⟨x,xs⟩
 ·exact aN hb
 refine f9 hb λa ea hb=>?_;obtain⟨t,l,w1,W3⟩:=ue hx ea;rcases xs with _|⟨x2,xs⟩
 ·rw[w1,show l=[] from W3]
  exact call_range_1 (k' (di hb).symm)
 refine f9 hb λb eb hb=>?_;obtain⟨u,l,w2,hx3⟩:=ue W3 eb;rcases xs with _|⟨x3,xs⟩
 ·exact aN hb
 refine f9 hb λc ec hb=>?_;obtain⟨v,l,w3,hx4⟩:=ue hx3 ec;rcases xs with _|⟨x4,xs⟩
 ·rw[w1,w2,w3,show l=[] from hx4]
  obtain⟨⟨hc,Q7⟩,e⟩:=bD hb;exact call_range_3 (by rw[hc];decide) (k' e.symm) (.inl (PyProof.noPylong_small (by lia)))
 ·exact aN hb
end
set_option backward.match.sparseCases false
noncomputable def numOf(xs:List V)(i:Nat):Int:=match xs[i]? with|some (.int k)=>k|_=>0
theorem Dt:∀{z:Int},AE xs=some z->(∀(j:Nat) (x:V),xs[j]?=some x->∃k,x=.int k/\z<=k)/\∃j:Nat,xs[j]?=some (.int z):=by
 induction xs with
 |nil=>exact aN
 |cons v r ih=>
  intro z e;refine f9 e λk ek e=>?_;rw[iz ek];rcases r with _|⟨v',r⟩
  ·rw[di e]
   refine⟨λj x h=>?_,0,rfl⟩;rcases j with _|j
   ·exact⟨z,(di h).symm,Int.le_refl _⟩
   ·exact aN h
  ·refine nW e λz' e' ez=>?_
   obtain⟨h1,j,h2⟩:=ih e';rw[<-ez];refine⟨λi x h=>?_,?_⟩
   ·rcases i with _|i
    ·exact⟨k,(di h).symm,Int.min_le_left _ _⟩
    ·obtain⟨k',h4,h5⟩:=h1 i x h
     exact⟨k',h4,Int.le_trans (Int.min_le_right _ _) h5⟩
   ·rcases Int.le_total k z' with h|h
    ·exact⟨0,by rw[Int.min_eq_left h];rfl⟩
    ·exact⟨j+1,by rw[Int.min_eq_right h];exact h2⟩
section
variable {P:PV}{A:Around}{E:Value->Shared->Prop}{φ:fz}{M:Addr->Prop}{s:Shared}{Z Z':H}
theorem Na(hh:A.handled=none)(i:Inv P Z φ M s){w:Value}{z:Int}(hb:AE xs=some z)(hx:aK P s.heap M φ (.af xs) w)
  (k:∀w s',Step bI φ M s φ M s'->Inv P Z φ M s'->aK P s'.heap M φ (.int z) w->Q w s'):wpAny (model P.prog P.w) A (call (.builtin "min") [w]) Q E s:=by
 obtain⟨a,ws,rfl,nm,t,q⟩:=hx;obtain⟨h1,j0,hz⟩:=Dt hb;have lv:bV s.heap a:=t.elim λo e=>⟨o,e.1⟩;have Nb:∀(j:Nat) (v:Value),ws[j]?=some v->∃t,v=.int (numOf xs j) t:=λj v e=>by
  obtain⟨x,ex,rx⟩:=q.items (Array.getElem?_eq_some_iff.mp e).1;obtain⟨k',e1,_⟩:=h1 j x ex;rw[e1]at rx ex;rw[show numOf xs j=k' from congrArg (λo=>match o with|some (.int k)=>k|_=>0) ex,<-(Array.getElem?_eq_some_iff.mp e).2];exact rx
 have l0:j0<ws.size:=q.size▸(List.getElem?_eq_some_iff.mp hz).1;have lt:=Nat.lt_of_le_of_lt (Nat.zero_le _) l0;refine call_min_walk (wpAny_pyIter_tuple t ⟨s.heap.objs.size,_,_,ws.size,_,_,_,rfl,Walks.tuple (A:=A.in1) hh s.heap.objs.size a (gb lv) ws,⟨⟨_,Heap.get?_push_size _ rfl,rfl,rfl⟩,t.elim λo e=>⟨o,ju _ e.1,e.2⟩⟩,λb hb=>?_,lt,
  CmpOf.ints_lt (numOf xs) Nb,λv h' tk e hk=>?_⟩)
 ·show b<(s.heap.push _).objs.size
  rw[Heap.size_push];rcases List.mem_cons.mp hb with e|e
  ·exact e▸Nat.lt_succ_self _
  ·rw[List.mem_singleton.mp e];exact lv.elim λo e=>Nat.lt_succ_of_lt (Heap.lt_size e)
 ·obtain⟨i',t'⟩:=i.more (lo:=bI) (h':=h') (tk:=tk) λb o e=>hk b o (λz=>gb ⟨o,e⟩ (List.mem_singleton.mp z)) (ju _ e)
  obtain⟨t2,e2⟩:=Nb _ _ e;obtain⟨g1,g2⟩:=argBest_lt (numOf xs) (ws.size-1);revert e e2 g1 g2;generalize argBest (λi j=>decide (numOf xs i<numOf xs j)) (ws.size-1)=jb;intro e e2 g1 g2;obtain⟨x,ex,_⟩:=q.items (Array.getElem?_eq_some_iff.mp e).1;obtain⟨k1,e1,k3⟩:=h1 _ _ ex;rw[e1]at ex;have n1:numOf xs jb=k1:=congrArg (λo=>match o with|some (.int k)=>k|_=>0) ex;have n2:numOf xs j0=z:=congrArg (λo=>match o with|some (.int k)=>k|_=>0) hz;have n3:=g2 j0 (Nat.le_sub_one_of_lt l0);rw[n1,n2]at n3;exact k _ _ t' i' ⟨t2,by rw[e2,n1,Int.le_antisymm n3 k3]⟩
theorem xG{pl:Sem Bool}{Q:Value×List Value->Shared->Prop}(slot:Slot "dict" name id)(hty:typeOf (.builtin id)=pure (.type "method_descriptor"))
  (D:gO P s.heap M φ kvs a)(k:Q (.builtin id,[.ref a]) s):wpAny (model P.prog P.w) A (getMethod (.ref a) name pl) Q E s:=by
 have go:∀{o:Obj},s.heap.get? a=some o->o.ExactDict->wpAny (model P.prog P.w) A (getMethod (.ref a) name pl) Q E s:=λ{o} ho h=>
  getMethod_builtin ⟨o,ho,h.1⟩ PySem.F.plainAttrs_dict slot hty (λb e=>(Value.ref.inj e)▸⟨o,ho,h.2.1⟩) k
 exact D.elim (λD=>D.elim λl D=>lA D.1 λo Y Y ho h Y Y Y Y=>go ho h) λD=>D.elim λl D=>lA D.1 λo Y Y ho h Y Y Y Y=>go ho h
theorem Jo{x:V}{a wz:Value}{r:Option V}(hb:nq x y=some r)(hx:cC P s.heap M φ x a)(hy:aK P s.heap M φ y wy)(hz:aK P s.heap M φ z wz)
  (k:∀w tk,aK P s.heap M φ (r.getD z) w->Q w {s with toks:=tk}):wpAny (model P.prog P.w) A (call (.builtin "dict.get") [a,wy,wz]) Q E s:=
 (@V.casesOn (λx=>nq x y=some r->cC P s.heap M φ x a->wpAny (model P.prog P.w) A (call (.builtin "dict.get") [a,wy,wz]) Q E s) x aN aN (λY=>aN) (λY=>aN) (λY=>aN) (λY=>aN) (λY=>aN) (λkvs hb hx=>by
  obtain⟨hk,hb⟩:=dg hb;obtain⟨d,rfl,hs,D⟩:=hx;refine qm D hy hk hb λK Y knd key f h1 h2 h3=>call_meetsIn PySem.F.slot_dict_get h2.typeIs PySem.F.entry_dict_get (PySem.F.args_dict_get_3 _ _ _) (meets_dict_get_default knd d h1 (beq_eq_false_iff_ne.mpr hs) wz) ⟨f,h2,?_⟩;rcases r with _|v
  ·rw[show f key=none from h3];exact k _ _ hz
  ·obtain⟨w,e,q⟩:=h3;rw[e];exact k _ _ q) (λY Y=>aN) (λY Y Y=>aN) (λY=>aN) (λY=>aN)) hb hx
theorem zk{K:Type}[DecidableEq K]{l:List (K×Value)}(k:K)(v:Value)(n:(l.map (·.1)).Nodup):((stored l k v).map (·.1)).Nodup:=by
 unfold stored;by_cases h:(l.any λkv=>decide (kv.1=k))=true
 ·rw[if_pos h,List.map_map]
  refine(List.map_congr_left λkv Y=>?_:l.map _=l.map (·.1))▸n;show(if kv.1=k then(kv.1,v) else kv).1=kv.1;by_cases z:kv.1=k
  ·rw[if_pos z]
  ·rw[if_neg z]
 ·rw[if_neg h,List.map_append,List.nodup_append]
  refine⟨n,List.nodup_cons.mpr ⟨List.not_mem_nil,List.nodup_nil⟩,λa ha b hb e=>?_⟩;obtain⟨p,hp,e'⟩:=List.mem_map.mp ha;exact h (List.any_eq_true.mpr ⟨p,hp,decide_eq_true (e'.trans (e.trans (List.mem_singleton.mp hb)))⟩)
theorem Jp:∀{kvs res:List (V×V)} {l l':List (Str×Value)},bB P h M φ kvs l->bB P h M φ r l'->xr kvs r=some res->(l.map (·.1)).Nodup->bB P h M φ res (merged l l'):=by
 induction r with
 |nil=>intro kvs res l l' q q' e _;rw[show l'=[] from q',<-di e];exact q
 |cons p r ih=>
  obtain⟨k,v⟩:=p;intro kvs res l l' q q' e n;obtain⟨fQ,Jh,l',rfl,rfl,q1,q2⟩:=q';exact f9 e λm e1 e2=>(ih (A4 q1 q e1 n) q2 e2 (zk _ _ n):bB P h M φ res (merged (stored l (Str.ofString fQ) Jh) l'))
theorem zl(D:gO P s.heap M φ kvs a)(h:i0 kvs=true):∃l,s.heap.DictOf (strKind P.prog P.w) a l/\bB P s.heap M φ kvs l:=by
 rcases D with D|⟨l,d,q⟩
 ·exact D
 ·rcases kvs with _|⟨⟨k,v⟩,r⟩
  ·rw[show l=[] from q]at d;exact⟨[],lB _ d,rfl⟩
  ·obtain⟨_,_,_,_,rfl,_⟩:=q;exact dJ h
theorem Du(i:Inv P Z φ M s){d x:V}{wd:Value}(hb:AF Z d x=some Z')(hx:aK P s.heap M φ x wx)(hd:aK P s.heap M φ d wd)
  (k:∀s',Step bI φ M s φ M s'->Inv P Z' φ M s'->Q .none s'):wpAny (model P.prog P.w) A (call (.builtin "dict.update") [wx,wd]) Q E s:=
 f9 hb λn en h=>f9 h λm em h=>by
  by_cases XG:m=n
  ·rw[if_pos XG]at h;exact aN h
  rw[if_neg XG]at h;refine f9 h λkvs h1 h=>f9 h λr h2 h=>?_;obtain⟨⟨hc,s1,s2⟩,h⟩:=dg h;refine nW h λres e UP=>sE i (jO en) (sf h1) hx λa ea ha hM Da=>sE i (jO em) (sf h2) hd λb eb XH hMb Db=>?_;have mw:a≠b:=λz=>Dm i ha XH (Ne.symm XG) z.symm;obtain⟨l,d1,q1⟩:=zl Da s1;obtain⟨l',d2,q2⟩:=zl Db s2;rw[ea,eb];refine call_meetsIn PySem.F.slot_dict_update d1.typeIs PySem.F.entry_dict_update (PySem.F.args_dict_update_2 _ _) (meets_dict_update (strKind P.prog P.w) a b mw (beq_eq_false_iff_ne.mpr (i.tY hMb))) ⟨l,l',d1,d2,?_,λh' d3 d4 k9=>?_⟩
  ·rw[q1.length,q2.length,sizeLine_eq];exact Nat.le_trans hc (by decide)
  ·have t:Step bI φ M s φ M {s with heap:=h'}:=Step.upd (tk:=s.toks) k9 (lC d3) hM (.inl (gP ha))
   exact k _ t (UP▸i.sD (tk:=s.toks) ha hM k9 ⟨rfl,hM,.inl ⟨_,d3,(Jp q1 q2 e (jR d1)).mono t.grow⟩⟩ MO.noConfusion)
end
noncomputable def kX(A:Around)(n:Nat):Prop:=A.handled=none/\A.depth+4*n+4<=recursionLimit/\A.units+12*n+60<cLine
noncomputable def EP(A:Around)(n:Nat):Prop:=A.handled=none/\A.depth+4*n+1<=recursionLimit/\A.units+12*n+52<cLine
theorem kX.units(r:kX A n):A.units+20<cLine:=by have:=r.2.2;lia
structure Cx where
 P:PV
 cf:CF
 n:Nat
 nm:List (Str×NameKind)
 sl:Slots
variable {C':Cx}
noncomputable def qp(P:PV)(φ:fz)(M:Addr->Prop)(s:Shared)(Q':V->H->Prop)(Q:Value->Shared->Prop):Prop:=
 ∀v w Z' bF M' s',Q' v Z'->Inv P Z' bF M' s'->Step bI φ M s bF M' s'->aK P s'.heap M' bF v w->Q w s'
noncomputable def Bd(P:PV)(φ:fz)(M:Addr->Prop)(s:Shared)(Q':Bool->H->Prop)(Q:Bool->Shared->Prop):Prop:=
 ∀b Z' bF M' s',Q' b Z'->Inv P Z' bF M' s'->Step bI φ M s bF M' s'->Q b s'
noncomputable def ER(n:Nat)(P:PV)(φ:fz)(M:Addr->Prop)(s:Shared)(Q':List V->H->Prop)(Q:List Value->Shared->Prop):Prop:=
 ∀vs ws Z' bF M' s',Q' vs Z'->Inv P Z' bF M' s'->Step bI φ M s bF M' s'->aM P s'.heap M' bF vs ws->ws.length=n->Q ws s'
structure wR (p:Prop):Prop where
 to:p
instance {p:Prop}:CoeFun (wR p) λY=>p:=⟨wR.to⟩
noncomputable abbrev aW(C:Cx)(x:X)(e:Expr):Prop:=wR (∀{A:Around} {env:Env} {s:Shared} {φ:fz} {M:Addr->Prop} {Z:H} {ρ:List V} {Q E:Value->Shared->Prop} {Q':V->H->Prop},
 kX A C.n->Inv C.P Z φ M s->aY C.P φ M s.heap C.sl env ρ->env.scope.names=C.nm->b8 C.cf C.P.gt x ρ Q' Z->qp C.P φ M s Q' Q->wpAny (model C.P.prog C.P.w) A (eval e env) Q E s)
noncomputable abbrev oU(C:Cx)(x:X)(e:Expr):Prop:=wR (∀{A:Around} {env:Env} {s:Shared} {φ:fz} {M:Addr->Prop} {Z:H} {ρ:List V} {Q:Bool->Shared->Prop} {E:Value->Shared->Prop} {Q':Bool->H->Prop},
 kX A C.n->Inv C.P Z φ M s->aY C.P φ M s.heap C.sl env ρ->env.scope.names=C.nm->b8 C.cf C.P.gt x ρ (λv Z=>isBool v λb=>Q' b Z) Z->Bd C.P φ M s Q' Q->
  wpAny (model C.P.prog C.P.w) A (isTrue e env (eval e env)) Q E s)
noncomputable abbrev uf(C:Cx)(xs:List X)(es:List Expr):Prop:=wR (∀{A:Around} {env:Env} {pos:Pos} {s:Shared} {φ:fz} {M:Addr->Prop} {Z:H} {ρ:List V} {Q:List Value->Shared->Prop} {E:Value->Shared->Prop} {Q':List V->H->Prop},
 kX A C.n->Inv C.P Z φ M s->aY C.P φ M s.heap C.sl env ρ->env.scope.names=C.nm->fN C.cf C.P.gt xs ρ Q' Z->ER es.length C.P φ M s Q' Q->
  wpAny (model C.P.prog C.P.w) A (spliced (backTo pos (starEach es env))) Q E s)
noncomputable abbrev Nc(C:Cx)(bT:Bool)(xs:List X)(es:List Expr):Prop:=wR (∀{A:Around} {env:Env} {pos:Pos} {s:Shared} {φ:fz} {M:Addr->Prop} {Z:H} {ρ:List V} {Q E:Value->Shared->Prop} {Q':V->H->Prop},
 kX A C.n->Inv C.P Z φ M s->aY C.P φ M s.heap C.sl env ρ->env.scope.names=C.nm->QX C.cf C.P.gt bT xs ρ Q' Z->qp C.P φ M s Q' Q->
  wpAny (model C.P.prog C.P.w) A (eval (.BoolOp (if bT then .And else .Or) es pos) env) Q E s)
noncomputable abbrev ES(C:Cx)(bT:Bool)(xs:List X)(es:List Expr):Prop:=wR (∀{A:Around} {env:Env} {pos:Pos} {whole:Sem Value} {s:Shared} {φ:fz} {M:Addr->Prop} {Z:H} {ρ:List V} {Q:Bool->Shared->Prop} {E:Value->Shared->Prop} {Q':Bool->H->Prop},
 kX A C.n->Inv C.P Z φ M s->aY C.P φ M s.heap C.sl env ρ->env.scope.names=C.nm->QX C.cf C.P.gt bT xs ρ (λv Z=>isBool v λb=>Q' b Z) Z->Bd C.P φ M s Q' Q->
  wpAny (model C.P.prog C.P.w) A (isTrue (.BoolOp (if bT then .And else .Or) es pos) env whole) Q E s)
section
variable {C:Cx}
theorem aL{o:Option α}{Q:α->Prop}(h:aT o Q):∃a,o=some a/\Q a:=by
 cases o with
 |none=>exact h.elim
 |some a=>exact⟨a,rfl,h⟩
theorem jw{v:V}{Q:Bool->Prop}:isBool v Q->∃b,v=.bool b/\Q b:= @V.casesOn (λx=>isBool x Q->∃b,x=.bool b/\Q b) v False.elim False.elim (λb h=>⟨b,rfl,h⟩) (λY=>False.elim) (λY=>False.elim) (λY=>False.elim) (λY=>False.elim) (λY=>False.elim) (λY Y=>False.elim) (λY Y Y=>False.elim) (λY=>False.elim) (λY=>False.elim)
theorem ug{v:V}{Q:Int->Prop}:isInt v Q->∃b,v=.int b/\Q b:= @V.casesOn (λx=>isInt x Q->∃b,x=.int b/\Q b) v False.elim False.elim (λY=>False.elim) (λb h=>⟨b,rfl,h⟩) (λY=>False.elim) (λY=>False.elim) (λY=>False.elim) (λY=>False.elim) (λY Y=>False.elim) (λY Y Y=>False.elim) (λY=>False.elim) (λY=>False.elim)
theorem Nd{v:V}{Q:Nat->Prop}:isFn v Q->∃b,v=.fn b/\Q b:= @V.casesOn (λx=>isFn x Q->∃b,x=.fn b/\Q b) v False.elim False.elim (λY=>False.elim) (λY=>False.elim) (λY=>False.elim) (λY=>False.elim) (λY=>False.elim) (λY=>False.elim) (λY Y=>False.elim) (λY Y Y=>False.elim) (λY=>False.elim) (λb h=>⟨b,rfl,h⟩)
theorem Be{v:V}{Q:List V->Prop}:isTup v Q->∃b,v=.af b/\Q b:= @V.casesOn (λx=>isTup x Q->∃b,x=.af b/\Q b) v False.elim False.elim (λY=>False.elim) (λY=>False.elim) (λY=>False.elim) (λb h=>⟨b,rfl,h⟩) (λY=>False.elim) (λY=>False.elim) (λY Y=>False.elim) (λY Y Y=>False.elim) (λY=>False.elim) (λY=>False.elim)
theorem Jq{v:V}{Q:List V->Prop}:EB v Q->∃b,v=.aC b/\Q b:= @V.casesOn (λx=>EB x Q->∃b,x=.aC b/\Q b) v False.elim False.elim (λY=>False.elim) (λY=>False.elim) (λY=>False.elim) (λY=>False.elim) (λb h=>⟨b,rfl,h⟩) (λY=>False.elim) (λY Y=>False.elim) (λY Y Y=>False.elim) (λY=>False.elim) (λY=>False.elim)
theorem Jr{v:V}{Q:Prop}:EC v Q->v=.none/\Q:= @V.casesOn (λx=>EC x Q->x=.none/\Q) v False.elim (λh=>⟨rfl,h⟩) (λY=>False.elim) (λY=>False.elim) (λY=>False.elim) (λY=>False.elim) (λY=>False.elim) (λY=>False.elim) (λY Y=>False.elim) (λY Y Y=>False.elim) (λY=>False.elim) (λY=>False.elim)
theorem GW{c:Prop}[Decidable c]{P:Prop}(h:if c then P else False):c/\P:=by
 by_cases q:c
 ·rw[if_pos q]at h;exact⟨q,h⟩
 ·rw[if_neg q]at h;exact h.elim
theorem qp.on{s:Shared}(k:qp P φ M s Q' Q)(t:Step bI φ M s cR eO aQ):qp P cR eO aQ Q' Q:=
 λv w Z' bF M' s' h i t' r=>k v w Z' bF M' s' h i (t.trans t') r
theorem Bd.on{s:Shared}{Q':Bool->H->Prop}{Q:Bool->Shared->Prop}(k:Bd P φ M s Q' Q)(t:Step bI φ M s cR eO aQ):Bd P cR eO aQ Q' Q:=
 λb Z' bF M' s' h i t'=>k b Z' bF M' s' h i (t.trans t')
theorem qp.now{s:Shared}{v:V}{w:Value}(k:qp P φ M s Q' Q)(i:Inv P Z φ M s)(h:Q' v Z)(r:aK P s.heap M φ v w):Q w s:=k v w Z φ M s h i Step.refl r
theorem qp.tok{s:Shared}{v:V}{w:Value}(k:qp P φ M s Q' Q)(i:Inv P Z φ M s)(h:Q' v Z)(r:aK P s.heap M φ v w):Q w {s with toks:=tk}:=
 k v w Z φ M _ h (i.tok tk) (Step.refl.tok tk) r
theorem dO{M:Model}{s:Shared}{Q:Bool->Shared->Prop}(h:Q b s):wpAny M A (truthy (.bool b)) Q E s:=by
 first
  |exact wq h
  |exact λY Y Y=>h
theorem Js{x:X}(hx:aW C x e)(he:∀env whole,isTrue e env whole=(do let v<-whole;standAt e.pos;holding [v] (truthy v))):oU C x e:=⟨λ{A env s φ M Z ρ Q E Q'} room i er nm h k=>
 wpAny_isTrue_value (hx room i er nm h λv w Z' bF M' s' h' i' t' r'=>by
  obtain⟨b,rfl,h'⟩:=jw h';cases r';exact dO (k _ _ _ _ _ h' i' t')) (he _ _)⟩
theorem Rb{n:Str}(h1:C.sl.lookup n=some j)(h2:C.nm.lookup n=some .local\/C.nm.lookup n=some .cell)(h3:(n==("__debug__":Str))=false):aW C (.aa j) (.Name n pos):=⟨λ{A env s φ M Z ρ Q E Q'} room i er nm h k=>by
 obtain⟨v,hv,h⟩:=aL h;have hu:v≠.ah:=λz=>by subst z;exact h
 have h:Q' v Z:=by cases v<;>first|exact h|exact absurd rfl hu
 exact Je er h1 (by unfold Env.kindOf;rw[nm];exact h2) h3 hv hu λw r=>k.now i h r⟩
theorem Bf:aW C (.aI .none) (.Constant .none nc pos):=⟨λroom i er nm h k=>by exact wpAny_Constant_none (k.now i h rfl)⟩
theorem Bg:aW C (.aI (.bool b)) (.Constant (.bool b) nc pos):=⟨λroom i er nm h k=>by exact wpAny_Constant_bool (k.now i h rfl)⟩
theorem Dv{b:Int}:aW C (.aI (.int b)) (.Constant (.int b) nc pos):=⟨λroom i er nm h k=>by exact wpAny_Constant_int (k.tok i h ⟨_,rfl⟩)⟩
theorem Dw{b:String}:aW C (.aI (.str b)) (.Constant (.str (Str.ofString b)) nc pos):=⟨λroom i er nm h k=>by exact wpAny_Constant_str (k.tok i h ⟨_,rfl⟩)⟩
theorem Rc{o:Ax}{a b:X}(ha:aW C a ea)(hb:aW C b eb):aW C (.bin o a b) (.BinOp ea (wL o) eb pos):=⟨λ{A env s φ M Z ρ Q E Q'} room i er nm h k=>by
 refine wpAny_BinOp (ha room i er nm h λx w1 cD gA M1 s1 h1 i1 t1 r1=>hb room i1 (er.bq i t1) nm h1 λy w2 Z2 lE M2 s2 h2 i2 t2 r2=>?_);obtain⟨z,hz,h2⟩:=aL h2;exact Q2 hz (r1.mono t2.grow) r2 i2 λw s3 t3 i3 r3=>k z w _ _ _ _ h2 i3 ((t1.trans t2).trans t3) r3⟩
theorem Jt{M:Model}{s:Shared}(h:Q (.bool !b) s):wpAny M A (unaryOp .Not (.bool b)) Q E s:=by
 show wpAny M A (do return .bool (!(<-truthy (.bool b)))) Q E s;exact wb (dO (wq h))
theorem Rd{a:X}(ha:aW C a ea):aW C (.not a) (.UnaryOp .Not ea pos):=⟨λ{A env s φ M Z ρ Q E Q'} room i er nm h k=>by
 refine wpAny_UnaryOp (ha room i er nm h λx w1 cD gA M1 s1 h1 i1 t1 r1=>?_);obtain⟨b,rfl,h1⟩:=jw h1;cases r1;exact Jt ((k.on t1).now i1 h1 rfl)⟩
theorem Rf{a:X}(ha:oU C a ea):oU C (.not a) (.UnaryOp .Not ea pos):=⟨λ{A env s φ M Z ρ Q E Q'} room i er nm h k=>by
 refine wpAny_isTrue_Not (ha (Q':=λb Z=>Q' (!b) Z) room i er nm ?_ λb Z' bF M' s' h' i' t'=>k _ _ _ _ _ h' i' t');exact h⟩
theorem Rg{a b:X}(ha:aW C a ea)(hb:aW C b eb)(hm:behindInMarks (ff o) eb=false):aW C (.cmp o a b) (.Compare ea [ff o] [eb] pos):=⟨λ{A env s φ M Z ρ Q E Q'} room i er nm h k=>by
 refine wpAny_Compare1 (ha room i er nm h λx w1 cD gA M1 s1 h1 i1 t1 r1=>hb room i1 (er.bq i t1) nm h1 λy w2 Z2 lE M2 s2 h2 i2 t2 r2=>?_) hm;obtain⟨z,hz,h2⟩:=aL h2;exact mz hz (eX i2 (r1.mono t2.grow)) (eX i2 r2) room.units λtk=>((k.on t1).on t2).tok i2 h2 rfl⟩
theorem Rh{a b:X}(ha:aW C a ea)(hb:aW C b eb)(hm:behindInMarks (ff o) eb=false):oU C (.cmp o a b) (.Compare ea [ff o] [eb] pos):=⟨λ{A env s φ M Z ρ Q E Q'} room i er nm h k=>by
 refine wpAny_isTrue_Compare1 (ha room i er nm h λx w1 cD gA M1 s1 h1 i1 t1 r1=>hb room i1 (er.bq i t1) nm h1 λy w2 Z2 lE M2 s2 h2 i2 t2 r2=>?_) hm;obtain⟨z,hz,h2⟩:=aL h2;exact mz hz (eX i2 (r1.mono t2.grow)) (eX i2 r2) room.units λtk=>dO (k _ _ _ _ _ h2 (i2.tok tk) ((t1.trans t2).tok tk))⟩
theorem Ri{c a b:X}(hc:oU C c ec)(ha:aW C a ea)(hb:aW C b eb):aW C (.ite c a b) (.IfExp ec ea eb pos):=⟨λ{A env s φ M Z ρ Q E Q'} room i er nm h k=>by
 refine wpAny_IfExp (hc (Q':=λt Z=>if t then b8 C.cf C.P.gt a ρ Q' Z else b8 C.cf C.P.gt b ρ Q' Z) room i er nm h λt Z' bF M' s' h' i' t'=>?_);cases t with
 |true=>exact ha room i' (er.bq i t') nm h' (k.on t')
 |false=>exact hb room i' (er.bq i t') nm h' (k.on t')⟩
theorem Rj{c a b:X}(hc:oU C c ec)(ha:oU C a ea)(hb:oU C b eb):oU C (.ite c a b) (.IfExp ec ea eb pos):=⟨λ{A env s φ M Z ρ Q E Q'} room i er nm h k=>by
 refine isTrue_IfExp (hc (Q':=λt Z=>if t then b8 C.cf C.P.gt a ρ (λv Z=>isBool v λb=>Q' b Z) Z else b8 C.cf C.P.gt b ρ (λv Z=>isBool v λb=>Q' b Z) Z) room i er nm h λt Z' bF M' s' h' i' t'=>?_);cases t with
 |true=>exact ha room i' (er.bq i t') nm h' (k.on t')
 |false=>exact hb room i' (er.bq i t') nm h' (k.on t')⟩
theorem Nf:uf C [] []:=⟨λroom i er nm h k=>by exact args_nil (k _ _ _ _ _ _ h i Step.refl rfl rfl)⟩
noncomputable def notStar(e:Expr):Bool:= !(e.ctorIdx==22)
theorem bZ{r:List Expr}(h:notStar e=true):starEach (e::r) env=(false,eval e env)::starEach r env:=by
 cases e<;>first|rfl|exact absurd h Bool.false_ne_true
theorem Ju{x:X}{xs:List X}{e:Expr}{es:List Expr}(hx:aW C x e)(hxs:uf C xs es)(hn:notStar e=true):uf C (x::xs) (e::es):=⟨λ{A env pos s φ M Z ρ Q E Q'} room i er nm h k=>by
 refine args_cons (hx room i er nm h λx w1 cD gA M1 s1 h1 i1 t1 r1=>hxs room i1 (er.bq i t1) nm h1 λys ws Z2 lE M2 s2 h2 i2 t2 r2 l2=>?_) (bZ hn);exact k _ _ _ _ _ _ h2 i2 (t1.trans t2) ⟨_,_,rfl,r1.mono t2.grow,r2⟩ (by simp[l2])⟩
theorem Jv{xs:List X}(hx:uf C xs es)(hl:es.length<=1000):aW C (.af xs) (.Tuple es nc pos):=⟨λ{A env s φ M Z ρ Q E Q'} room i er nm h k=>by
 refine wpAny_Tuple (hx room i er nm h λvs ws cD gA M1 s1 h1 i1 t1 r1 l1=>⟨by rw[l1,sizeLine_eq];lia,?_⟩);exact mu i1 r1 λw s' t i' r=>(k.on t1) _ _ _ _ _ _ h1 i' t r⟩
theorem Ng{xs:List X}(hx:uf C xs es)(hl:es.length<=1000):aW C (.bJ xs) (.List es pos):=⟨λ{A env s φ M Z ρ Q E Q'} room i er nm h k=>by
 refine wpAny_List (hx room i er nm h λvs ws cD gA M1 s1 h1 i1 t1 r1 l1=>⟨by rw[l1,sizeLine_eq];lia,?_⟩);exact qk i1 r1 λw s' t i' r=>(k.on t1) _ _ _ _ _ _ h1 i' t r⟩
theorem Inv.Bh{s:Shared}(i:Inv P Z φ M s){o:MO}{c:Addr×Addr}(hk:∀a o,s.heap.get? a=some o->h'.get? a=some o)
  (h2:s.heap.get? c.2=none)(lv:bV h' c.2)(new:fP P h' (λa=>M a\/a=c.2) (φ++[c]) o c):
  Inv P (Z++[o]) (φ++[c]) (λa=>M a\/a=c.2) {s with heap:=h',toks:=tk}/\Step bI φ M s (φ++[c]) (λa=>M a\/a=c.2) {s with heap:=h',toks:=tk}:=by
 have t:Step bI φ M s (φ++[c]) (λa=>M a\/a=c.2) {s with heap:=h',toks:=tk}:=by
  refine⟨⟨_,_,rfl⟩,λa o e=>⟨o,hk a o e⟩,λa o e Y=>hk a o e,λn c' e=>?_,λa e=>?_,λa e=>e.imp_right λz=>(by rw[z];exact h2),λa Y Y e Y=>.inl e⟩
  ·rw[List.getElem?_append_left (List.getElem?_eq_some_iff.mp e).1];exact e
  ·rw[List.map_append,List.mem_append]at e
   rcases e with e|e
   ·exact .inl e
   ·simp at e;exact .inr (e▸h2)
 refine⟨⟨i.sys,by simp[i.len],λn o' c' e q=>?_,?_,λa e=>?_,λa e=>?_,λa e=>?_,λa o e=>hk a o (i.iL a o e)⟩,t⟩
 ·by_cases hn:n<Z.length
  ·rw[List.getElem?_append_left hn]at e
   rw[List.getElem?_append_left (by rw[i.len];exact hn)]at q;exact(i.cell n o' c' e q).mono t.grow (λob=>hk _ ob) .inl
  ·have hn:Z.length<=n:=Nat.le_of_not_lt hn
   rw[List.getElem?_append_right hn]at e;rw[List.getElem?_append_right (by rw[i.len];exact hn),i.len]at q;cases hz:n-Z.length with
   |zero=>rw[hz]at e q;simp at e q;subst e;subst q;exact new
   |succ m=>rw[hz]at e;simp at e
 ·rw[List.map_append,List.nodup_append]
  refine⟨i.nodup,by simp,λa ha b hb e=>?_⟩;simp at hb;obtain⟨o,q⟩:=i.iy a ha;rw[e,hb,h2]at q;cases q
 ·rcases e with e|rfl
  ·obtain⟨o,q⟩:=i.lt a e;exact⟨o,hk a o q⟩
  ·exact lv
 ·rcases e with e|rfl
  ·exact i.base a e
  ·cases q:P.h₀.get? c.2 with
   |none=>rfl
   |some o=>have:=i.iL _ _ q;rw[h2]at this;cases this
 ·rw[List.map_append,List.mem_append]at e
  rcases e with e|e
  ·obtain⟨o,q⟩:=i.iy a e;exact⟨o,hk a o q⟩
  ·simp at e;exact e▸lv
theorem Nh{xs:List X}(hx:uf C xs es)(hl:es.length<=1000):aW C (.oj xs) (.List es pos):=⟨λ{A env s φ M Z ρ Q E Q'} room i er nm h k=>by
 refine wpAny_List (hx room i er nm h λvs ws cD gA M1 s1 h1 i1 t1 r1 l1=>⟨by rw[l1,sizeLine_eq];lia,?_⟩);have hk:∀a o,s1.heap.get? a=some o->(s1.heap.push {cls:=.type "list",data:=.seq ws.toArray}).get? a=some o:=λa o e=>ju _ e;have hp:(s1.heap.push {cls:=.type "list",data:=.seq ws.toArray}).get? s1.heap.objs.size=some {cls:=.type "list",data:=.seq ws.toArray}:=Heap.get?_push_size _ rfl;have g:d9 s1.heap M1 gA (s1.heap.push {cls:=.type "list",data:=.seq ws.toArray}) (λa=>M1 a\/a=s1.heap.objs.size) (gA++[(s1.heap.objs.size,s1.heap.objs.size)]):=
  ⟨λa o e Y=>hk a o e,λa o e q=>q.resolve_right (λz=>by rw[z,bC]at e;cases e),λn c e=>by rw[List.getElem?_append_left (List.getElem?_eq_some_iff.mp e).1];exact e⟩
 obtain⟨i2,t2⟩:=i1.Bh (tk:=s1.toks) (o:=.list vs) (c:=(s1.heap.objs.size,s1.heap.objs.size)) hk bC ⟨_,hp⟩ ⟨rfl,.inr rfl,ws.toArray,⟨_,hp⟩,by simpa using aM.mono g vs r1⟩;refine(k.on t1) _ _ _ _ _ _ h1 i2 t2 ⟨(s1.heap.objs.size,s1.heap.objs.size),?_,rfl⟩;rw[<-i1.len];simp⟩
end
noncomputable def eT{α β:Type}(R:α->β->Prop):List α->List β->Prop
 |[],l=>match l with
  |[]=>True
  |aR::dm=>False
 |a::as,l=>match l with
  |[]=>False
  |b::bs=>R a b/\eT R as bs
noncomputable def dz:List Expr->Bool
 |[]=>true
 |e::r=>notStar e&&dz r
section
variable {C:Cx}
theorem jS{xs:List X}:∀{es:List Expr},eT (aW C) xs es->dz es=true->uf C xs es:=by
 induction xs with
 |nil=>
  intro es h _;rcases es with _|_
  ·exact Nf
  ·exact h.elim
 |cons x xs ih=>
  intro es h p;rcases es with _|⟨e,es⟩
  ·exact h.elim
  ·have p:=an p
   exact @Ju C x xs e es h.1 (ih h.2 p.2) p.1
theorem plain_any:dz es=true->(backTo pos (starEach es env)).any (·.1)=false:=by
 induction es with
 |nil=>exact λY=>rfl
 |cons e es ih=>
  intro p;have p:=an p;rw[bZ p.1];exact ih p.2
theorem plain_all:dz es=true->(backTo pos (starEach es env)).all (!·.1)=true:=by
 induction es with
 |nil=>exact λY=>rfl
 |cons e es ih=>
  intro p;have p:=an p;rw[bZ p.1];exact ih p.2
theorem iT{M:Model}{s:Shared}{f:Value}{Q:Args->Shared->Prop}(p:dz es=true)
  (h:wpAny M A (spliced (backTo pos (starEach es env))) (λvs s'=>Q ⟨vs,[]⟩ s') E s):wpAny M A (evalArgs f true (backTo pos (starEach es env)) []) Q E s:=by
 cases es with
 |nil=>
  intro Γ pp ZE;have:=h Γ pp ZE;exact PyProof.Rows.evalArgs_none (show Q ⟨[],[]⟩ s from this) Γ pp ZE
 |cons e es=>
  have p:=an p;rw[bZ p.1]at h ⊢;exact evalArgs_plain h
theorem uh{M:Model}{s:Shared}{first:List Value}(p:dz es=true)
  (h:wpAny M A (spliced (backTo pos (starEach es env))) (λvs aQ=>wpAny M A (call (.builtin id) (first++vs)) Q E aQ) E s):wpAny M A (callWith pos (.builtin id) first (backTo pos (starEach es env)) []) Q E s:=
 Calls.callWith_builtin (plain_any p) (iT p h)
theorem Jw{M:Model}{s:Shared}{T:String}(p:dz es=true)
  (h:wpAny M A (spliced (backTo pos (starEach es env))) (λvs aQ=>wpAny M A (call (.type T) vs) Q E aQ) E s):wpAny M A (callWith pos (.type T) [] (backTo pos (starEach es env)) []) Q E s:=
 PySem.callWith_type (plain_any p) (iT p h)
noncomputable def Jx:List (String×Value):=[("len",.builtin "len"),("range",.type "range"),("isinstance",.builtin "isinstance"),("list",.type "list"),("tuple",.type "tuple"),("min",.builtin "min"),("str",.type "str")]
structure Good (P:PV) (gn:List Str):Prop where
 Ur:P.K.In P.h₀
 lim:P.h₀.NoLimit
 g:P.h₀.Ns mainGlobals P.mg
 b:P.h₀.Ns builtinsNs P.mb
 bi:∀n v,(n,v)∈Jx->P.mg (Str.ofString n)=none/\P.mb (Str.ofString n)=some v
 gl:∀(k:Nat) (n:Str) (v:V),gn[k]?=some n->P.gt[k]?=some v->∃w,P.mg n=some w/\aK P P.h₀ (λY=>False) [] v w
theorem jT(G:Good C.P gn){M:Model}{s:Shared}{n:String}{v:Value}(hm:(n,v)∈Jx)
  (i:Inv C.P Z φ eO s)(er:aY C.P φ eO s.heap C.sl env ρ)(nm:env.scope.names=C.nm)(hk:C.nm.lookup (Str.ofString n)=some .globalImplicit)(hd:(Str.ofString n==("__debug__":Str))=false)
  (k:Q v s):wpAny M A (eval (.Name (Str.ofString n) pos) env) Q E s:=by
 obtain⟨h1,h2⟩:=G.bi n v hm;refine Name_function_global er.kind (by unfold Env.kindOf;rw[nm];exact hk) ?_ hd;exact loadGlobal_builtin (by rw[er.aA];exact G.g.keeps i.iL) h1 (by rw[er.blt];exact G.b.keeps i.iL) h2 k
theorem Ni(G:Good C.P gn){n:Str}(h1:gn[k₁]?=some n)(hk:C.nm.lookup n=some .globalImplicit)(hd:(n==("__debug__":Str))=false):aW C (.aA k₁) (.Name n pos):=⟨λ{A env s φ M Z ρ Q E Q'} room i er nm h k=>by
 obtain⟨v,hv,h⟩:=aL h;obtain⟨w,e,r⟩:=G.gl k₁ n v h1 hv;refine Name_function_global er.kind (by unfold Env.kindOf;rw[nm];exact hk) ?_ hd;exact loadGlobal_global (by rw[er.aA];exact G.g.keeps i.iL) e (k.now i h (r.mono i.up))⟩
theorem Jy{s:Shared}{x:V}{a:Value}(hb:cQ x y=some z)(hx:cC P s.heap M φ x a):∃T id,s.TypeIs a T/\typeLookup (.type T) "__getitem__"=pure (some (.builtin id)):=
 (@V.casesOn (λx=>cQ x y=some z->cC P s.heap M φ x a->∃T id,s.TypeIs a T/\typeLookup (.type T) "__getitem__"=pure (some (.builtin id))) x aN aN (λY=>aN) (λY=>aN) (λY Y r=>r.elim λt r=>r.symm▸⟨_,_,typeIs_str _ _ _,PySem.F.slot_str_getitem.lookup⟩) (λY Y r=>r.elim λl r=>r.elim λws r=>r.1.symm▸⟨_,_,r.2.2.1.typeIs,slot_tuple_getitem.lookup⟩) (λY Y r=>r.elim λl r=>r.elim λws r=>r.1.symm▸⟨_,_,r.2.1.typeIs,slot_list_getitem.lookup⟩) (λY Y r=>r.elim λl r=>r.1.symm▸r.2.2.elim (λD=>D.elim λY D=>⟨"dict",_,D.1.typeIs,slot_dict_getitem.lookup⟩) λD=>D.elim λY D=>⟨"dict",_,D.1.typeIs,slot_dict_getitem.lookup⟩) (λY Y=>aN) (λY Y Y=>aN) (λY=>aN) (λY=>aN)) hb hx
set_option tactic.hygienic true in
theorem ET{s:Shared}{value slice:Expr}{o i:Value}{T:String}(hT:s.TypeIs o T)(hl:typeLookup (.type T) "__getitem__"=pure (some (.builtin id)))
  (h:wpAny (model P.prog P.w) A (getItem o i) Q E s):wpAny (model P.prog P.w) A (subscriptTail value slice o i) Q E s:=by
 unfold subscriptTail;refine wb ?_;rw[getitemInPython_of_ne hT.not_modules];refine wb (wpAny_specialOf hT hl ?_);have fin:wpAny (model P.prog P.w) A (subscripted slice false o i) (λr wU=>wpAny (model P.prog P.w) A (letTemporaryGo value o r >>=λY=>pure r) Q E wU) E s:=by
  have:∃ops,subscripted slice false o i=operate ops (getItem o i):=by
   rcases slice<;>first|exact⟨_,rfl⟩|skip
   rename_i st _
   rcases st<;>exact⟨_,rfl⟩
  obtain⟨ops,e⟩:=this;rw[e];exact wpAny_operating (wpAny_mono h (λr wU Nj=>wb (wpAny_letTemporaryGo (wq Nj))) λY Y x=>x)
 first
  |exact wq (wb fin)
  |exact wb (wq (wb fin))
  |exact wb fin
theorem Rk{a b:X}(ha:aW C a ea)(hb:aW C b eb):aW C (.sub a b) (.Subscript ea eb pos):=⟨λ{A env s φ M Z ρ Q E Q'} room i er nm h k=>by
 refine Subscript_ (ha room i er nm h λx w1 cD gA M1 s1 h1 i1 t1 r1=>hb room i1 (er.bq i t1) nm h1 λy w2 Z2 lE M2 s2 h2 i2 t2 r2=>?_);obtain⟨z,hz,h2⟩:=aL h2;have d:=eX i2 (r1.mono t2.grow);obtain⟨T,id,hT,hl⟩:=Jy hz d;exact ET hT hl (MV hz d r2 λw tk r=>((k.on t1).on t2).tok i2 h2 r)⟩
noncomputable def Nk(C:Cx)(x:Option X)(e:Option Expr):Prop:=match x,e with
 |none,none=>True
 |some x,some e=>aW C x e
 |aR,dm=>False
noncomputable def jU:Option Int->Option (Int×Tok)->Prop
 |none,o=>o=none
 |some i,o=>∃t,o=some (i,t)
theorem Bj{x:Option X}{e:Option Expr}(hx:Nk C x e){s:Shared}{Q':Option Int->H->Prop}(room:kX A C.n)
  (i:Inv C.P Z φ M s)(er:aY C.P φ M s.heap C.sl env ρ)(nm:env.scope.names=C.nm)(h:Xx C.cf C.P.gt x ρ Q' Z)
  (k:∀o p Z' bF M' s',Q' o Z'->Inv C.P Z' bF M' s'->Step bI φ M s bF M' s'->jU o p->Q (partValue p) s'):wpAny (model C.P.prog C.P.w) A (evalPart e env) Q E s:=by
 cases x with
 |none=>
  cases e with
  |none=>exact wpAny_evalPart_none (k none none _ _ _ _ h i Step.refl rfl)
  |some aR=>exact hx.elim
 |some x=>
  cases e with
  |none=>exact hx.elim
  |some e=>
   refine wpAny_evalPart_some (wR.to hx room i er nm h λv w Z' bF M' s' h' i' t' r'=>?_);obtain⟨j,rfl,h'⟩:=ug h';obtain⟨t,rfl⟩:=r';exact k _ (some (j,t)) _ _ _ _ h' i' t' ⟨t,rfl⟩
theorem jU.Jz{o:Option Int}{p:Option (Int×Tok)}(h:jU o p):IsPart (partValue p) o:=by
 cases o with
 |none=>cases h;exact .none
 |some i=>obtain⟨t,rfl⟩:=h;exact .int i t
theorem jU.map{o:Option Int}{p:Option (Int×Tok)}(h:jU o p):p.map (·.1)=o:=by
 cases o with
 |none=>cases h;rfl
 |some i=>obtain⟨t,rfl⟩:=h;rfl
theorem GX{s:Shared}(i:Inv P Z φ M s){x:V}{lo hi:Option Int}{pl pu:Option (Int×Tok)}{a:Value}{sl:Addr}
  (hb:gr x lo hi=some z)(hx:aK P s.heap M φ x a)(hs:s.heap.IsSlice sl pl pu none)(h1:jU lo pl)(h2:jU hi pu)
  (k:∀w s',Step bI φ M s φ M s'->Inv P Z φ M s'->aK P s'.heap M φ z w->Q w s'):
  (∃T id,s.TypeIs a T/\typeLookup (.type T) "__getitem__"=pure (some (.builtin id)))/\wpAny (model P.prog P.w) A (getItem a (.ref sl)) Q E s:=by
 have Us:s.heap.IsSliceOf sl (partValue pl) (partValue pu) .none:=hs;clear hs;exact(@V.casesOn (λx=>gr x lo hi=some z->aK P s.heap M φ x a->(∃T id,s.TypeIs a T/\typeLookup (.type T) "__getitem__"=pure (some (.builtin id)))/\wpAny (model P.prog P.w) A (getItem a (.ref sl)) Q E s) x aN aN (λY=>aN) (λY=>aN) (λst hb hx=>by
  obtain⟨t,rfl⟩:=hx;obtain⟨hl,e⟩:=bD hb;refine⟨⟨_,_,typeIs_str _ _ _,PySem.F.slot_str_getitem.lookup⟩,GL (φ:=φ) (M:=M) Us hl λw tk r=>?_⟩;rw[h1.map,h2.map]at r;exact k w _ (Step.refl.tok tk) (i.tok tk) (e▸r)) (λxs hb hx=>by
  obtain⟨l,ws,rfl,nm,t,q⟩:=hx;refine⟨⟨_,_,t.typeIs,slot_tuple_getitem.lookup⟩,?_⟩;rcases lo with _|a
  ·rcases hi with _|b
   ·exact aN hb
   ·obtain⟨⟨hb1,PO,ZF⟩,e⟩:=bD hb
    obtain⟨u,e2⟩:=h2;rw[show pl=none from h1,e2,hb1]at Us;refine oO t Us (q.size▸PO) (λh1=>?_) (mu i (q.take 1) (e▸k));exact k _ _ Step.refl i (e▸⟨l,ws,rfl,nm,t,by rw[List.take_of_length_le (Nat.le_of_eq (q.size.trans h1))];exact q⟩)
  ·rcases hi with _|b
   ·obtain⟨⟨PO,ZF,hc3⟩,e⟩:=bD hb
    obtain⟨u,e1⟩:=h1;obtain⟨m,rfl⟩:=Int.eq_ofNat_of_zero_le (Int.le_trans (by decide) PO);rw[show pu=none from h2,e1]at Us;exact getItem_tuple_from (a:=m) t Us (Int.ofNat_le.mp PO) (q.size▸Int.ofNat_le.mp ZF) (mu i (q.drop m) (e▸k)) (q.size▸fh hc3)
   ·exact aN hb) (λxs hb hx=>by
  obtain⟨l,ws,rfl,nm,t,q⟩:=hx;obtain⟨hl,e⟩:=bD hb;refine⟨⟨_,_,t.typeIs,slot_list_getitem.lookup⟩,wpAny_getItem_list_slice t Us h1.Jz h2.Jz .none (by decide) ?_ (q.size▸fh hl)⟩;rw[A1];have q':aM P s.heap M φ (dj xs lo hi) (dj ws.toList lo hi):=by
   unfold dj;rw[<-q.length];exact(q.take _).drop _
  exact qk i q' (e▸k)) (λY=>aN) (λY Y=>aN) (λY Y Y=>aN) (λY=>aN) (λY=>aN)) hb hx
theorem JA{a:X}{lo hi:Option X}{el eh:Option Expr}(ha:aW C a ea)(hl:Nk C lo el)(hh:Nk C hi eh):aW C (.slice a lo hi) (.Subscript ea (.Slice el eh none p) pos):=⟨λ{A env s φ M Z ρ Q E Q'} room i er nm h k=>by
 refine Subscript_ (ha room i er nm h λx w1 cD gA M1 s1 h1 i1 t1 r1=>wpAny_Slice (Bj hl room i1 (er.bq i t1) nm h1 λo2 p2 Z2 lE M2 s2 h2 i2 t2 r2=>Bj hh room i2 ((er.bq i t1).bq i1 t2) nm h2 λo3 p3 kY Mz M3 s3 h3 i3 t3 r3=>wpAny_evalPart_none ?_));obtain⟨z,hz,h3⟩:=aL h3;have i4:=i3.push {cls:=.type "slice",data:=.fields #[partValue p2,partValue p3,.none]};have t4:Step bI Mz M3 s3 Mz M3 {s3 with heap:=s3.heap.push {cls:=.type "slice",data:=.fields #[partValue p2,partValue p3,.none]}}:=Step.push bI _;have t5:=(t2.trans t3).trans t4;obtain⟨⟨T,id,hT,hl⟩,hg⟩:=GX (E:=E) (A:=A) (Q:=Q) i4 hz (r1.mono t5.grow) ⟨_,Heap.get?_push_size _ rfl,rfl,rfl⟩ r2 r3 λw s' t i' r=>k z w _ _ _ _ h3 i' ((t1.trans t5).trans t) r;exact ET hT hl hg⟩
noncomputable def gu(e:Expr):Bool:=if h:e.ctorIdx=16 then Expr.Call.elim e h λf as ks Y=>if h2:f.ctorIdx=23 then Expr.Name.elim f h2 λid Y=> !(as.isEmpty&&ks.isEmpty)||(id !=("super":Str)) else true else true
set_option tactic.hygienic true in
theorem um{o:Expr}{n:Str}{whole:Sem Value}(h:gu o=true):attributeBase o n env whole=whole:=by
 rcases o<;>first|rfl|skip
 rename_i f as ks pos
 rcases f<;>first|rfl|skip
 rcases as with _|_
 ·rcases ks with _|_
  ·have h:(_ !=("super":Str))=true:=h
   unfold attributeBase;dsimp only;rw[h,Bool.true_or,Bool.true_or,Bool.true_or,if_pos rfl]
   first|done|exact bind_pure _
  ·rfl
 ·rfl
theorem Bk{s:Shared}(i:Inv P Z φ M s){x:V}{a:Value}{n:String}(X:P.K.In P.h₀)
  (ck:∀c ca,P.ca c=some ca->oQ P.K ca names)(hm:n∈names)(hb:dQ Z x n=some z)(hx:aK P s.heap M φ x a)
  (k:∀w tk,aK P s.heap M φ z w->Q w {s with toks:=tk}):wpAny (model P.prog P.w) A (getAttr a (Str.ofString n) b) Q E s:=
 (@V.casesOn (λx=>dQ Z x n=some z->aK P s.heap M φ x a->wpAny (model P.prog P.w) A (getAttr a (Str.ofString n) b) Q E s) x aN aN (λY=>aN) (λY=>aN) (λY=>aN) (λY=>aN) (λY=>aN) (λY=>aN) (λc kvs hb hx=>by
  exact hx.elim λx r=>r.elim λdx r=>r.elim λca r=>r.elim λes r=>r.elim λm r=>by
   rw[r.1];exact EN (i.K X) (ck _ _ r.2.2.2.1) hm r.2.2.2.2.1 r.2.2.2.2.2.1 r.2.2.2.2.2.2 hb k) (λY Y Y=>aN) (λr hb hx=>f9 hb λp e hb=>by
  exact(EO i (sj e) hx).elim λc r=>r.2.2.2.2.elim λca q=>q.elim λes q=>q.elim λj q=>by
   rw[r.1];exact EN (i.K X) (ck _ _ q.1) hm q.2.1 q.2.2.1 q.2.2.2 hb k) (λY=>aN)) hb hx
theorem Nl(G:Good C.P gn){a:X}{n:String}(ck:∀c ca,C.P.ca c=some ca->oQ C.P.K ca names)(hm:n∈names)(ha:aW C a ea)(hc:gu ea=true):
  aW C (.attr a n) (.Attribute ea (Str.ofString n) pos):=⟨λ{A env s φ M Z ρ Q E Q'} room i er nm h k=>by
 rw[arm_eval_Attribute,um hc];refine wb (wpAny_mono (ha room i er nm h (Q:=λw s'=>wpAny (model C.P.prog C.P.w) A (do
   standAt pos.atName
   let r<-holding [w] (getAttr w (Str.ofString n) true)
   letTemporaryGo ea w r
   pure r) Q E s') λx w1 cD gA M1 s1 h1 i1 t1 r1=>?_) (λY Y h=>h) λY Y h=>h)
 obtain⟨z,hz,h1⟩:=aL h1;refine wb (wpAny_standAt (wb (wpAny_holding (Bk i1 G.Ur ck hm hz r1 λw tk r=>wb (wpAny_letTemporaryGo (wq ?_))))));exact(k.on t1).tok i1 h1 r⟩
end
structure zm (P:PV) (cf:CF) (n:Nat):Prop where
 fn:∀{k:Nat} {args:List V} {Q':V->H->Prop} {Z:H},cf k args Q' Z->∃o fd,P.h₀.get? (P.fa k)=some o/\o.data=.func fd
 run:∀{k:Nat} {args:List V} {Q':V->H->Prop} {Z:H} {A:Around} {s:Shared} {φ:fz} {M:Addr->Prop} {ws:List Value} {R:Result->Shared->Prop},
  cf k args Q' Z->EP A n->Inv P Z φ M s->aM P s.heap M φ args ws->qp P φ M s Q' (λw s'=>R (.ok (.ret w)) s')->codeAny (model P.prog P.w) A (.call (.ref (P.fa k)) ⟨ws,[]⟩) R s
noncomputable def notAttr(e:Expr):Bool:= !(e.ctorIdx==20)
theorem eU{f:Expr}(h:notAttr f=true):eval (.Call f es [] pos) env=(do callWith pos (<-eval f env) [] (backTo pos (starEach es env)) (backToKw pos (keywordEach [] env))):=by
 cases f<;>first|rfl|exact absurd h Bool.false_ne_true
section
variable {C:Cx}
theorem ER.on{s:Shared}{Q':List V->H->Prop}{Q:List Value->Shared->Prop}(k:ER n P φ M s Q' Q)(t:Step bI φ M s cR eO aQ):ER n P cR eO aQ Q' Q:=
 λv w Z' bF M' s' h i t' r=>k v w Z' bF M' s' h i (t.trans t') r
theorem kX.call(r:kX A n):EP A n:=⟨r.1,by have:=r.2.1;lia,by have:=r.2.2;lia⟩
theorem Nm(K:zm C.P C.cf C.n){f:X}{xs:List X}{ef:Expr}(hf:aW C f ef)(hx:eT (aW C) xs es)(hp:dz es=true)(ha:notAttr ef=true):aW C (.call f xs) (.Call ef es [] pos):=⟨λ{A env s φ M Z ρ Q E Q'} room i er nm h k=>by
 refine Call_ (hf room i er nm h λg wg cD gA M1 s1 h1 i1 t1 r1=>?_) (eU ha);obtain⟨kf,rfl,h1⟩:=Nd h1;rw[show wg=.ref (C.P.fa kf) from r1];obtain⟨o,fd,H⟩:∃o fd,(∃o fd,C.P.h₀.get? (C.P.fa kf)=some o/\o.data=.func fd)->C.P.h₀.get? (C.P.fa kf)=some o/\o.data=.func fd:=by
  by_cases H:∃o fd,C.P.h₀.get? (C.P.fa kf)=some o/\o.data=.func fd
  ·exact H.elim λo H=>H.elim λfd H=>⟨o,fd,λY=>H⟩
  ·exact⟨default,default,λh=>absurd h H⟩
 refine Calls.callWith_function (o:=o) (fd:=fd) (iT hp (jS hx hp room i1 (er.bq i t1) nm h1 λvs ws Z2 lE M2 s2 h2 i2 t2 r2 l2=>?_));have H:=H (K.fn h2);exact⟨⟨i2.iL _ _ H.1,H.2⟩,wpAny_call (K.run h2 room.call i2 r2 λv w Z' bF M' s' h' i' t' r'=>k _ _ _ _ _ _ h' i' ((t1.trans t2).trans t') r')⟩⟩
theorem dK(h:notStar e=true):dz [e]=true:=Bool.and_eq_true_iff.mpr ⟨h,rfl⟩
theorem mF{x:X}(hx:aW C x e)(hn:notStar e=true){s:Shared}{Q:List Value->Shared->Prop}(room:kX A C.n)
  (i:Inv C.P Z φ M s)(er:aY C.P φ M s.heap C.sl env ρ)(nm:env.scope.names=C.nm)(h:b8 C.cf C.P.gt x ρ Q' Z)(k:qp C.P φ M s Q' λw s'=>Q [w] s'):wpAny (model C.P.prog C.P.w) A (spliced (backTo pos (starEach [e] env))) Q E s:=by
 refine args_cons (hx room i er nm h λx w1 cD gA M1 s1 h1 i1 t1 r1=>args_nil (k _ _ _ _ _ _ h1 i1 t1 r1)) (bZ hn)
theorem Rl(G:Good C.P gn){a:X}(hk:C.nm.lookup (Str.ofString "len")=some .globalImplicit)(ha:aW C a ea)(hn:notStar ea=true):aW C (.len a) (.Call (.Name (Str.ofString "len") p) [ea] [] pos):=⟨λ{A env s φ M Z ρ Q E Q'} room i er nm h k=>by
 refine Call_ (jT G (v:=.builtin "len") (.head _) i er nm hk (by decide+kernel) (uh (dK hn) (mF ha hn room i er nm h λx w1 cD gA M1 s1 h1 i1 t1 r1=>?_))) (eU rfl);obtain⟨z,hz,h1⟩:=aL h1;exact MW hz (eX i1 r1) λw tk r=>(k.on t1).tok i1 h1 r⟩
theorem JB(G:Good C.P gn){xs:List X}(hk:C.nm.lookup (Str.ofString "range")=some .globalImplicit)(hx:eT (aW C) xs es)(hp:dz es=true):aW C (.range xs) (.Call (.Name (Str.ofString "range") p) es [] pos):=⟨λ{A env s φ M Z ρ Q E Q'} room i er nm h k=>by
 refine Call_ (jT G (v:=.type "range") (.tail _ (.head _)) i er nm hk (by decide+kernel) (Jw hp (jS hx hp room i er nm h λvs ws cD gA M1 s1 h1 i1 t1 r1 l1=>?_))) (eU rfl);obtain⟨z,hz,h1⟩:=aL h1;exact GV i1 hz r1 λw s' t i' r=>(k.on t1) _ _ _ _ _ _ h1 i' t r⟩
theorem GY(G:Good C.P gn){a:X}(hk:C.nm.lookup (Str.ofString "list")=some .globalImplicit)(ha:aW C a ea)(hn:notStar ea=true):aW C (.toList a) (.Call (.Name (Str.ofString "list") p) [ea] [] pos):=⟨λ{A env s φ M Z ρ Q E Q'} room i er nm h k=>by
 refine Call_ (jT G (v:=.type "list") (.tail _ (.tail _ (.tail _ (.head _)))) i er nm hk (by decide+kernel) (Jw (dK hn) (mF ha hn room i er nm h λx w1 cD gA M1 s1 h1 i1 t1 r1=>?_))) (eU rfl);obtain⟨xs,rfl,h1⟩:=Be h1;obtain⟨hl,h1⟩:=GW h1;exact Ds i1 r1 hl λw s' t i' r=>(k.on t1) _ _ _ _ _ _ h1 i' t r⟩
theorem JC(G:Good C.P gn){a:X}(hk:C.nm.lookup (Str.ofString "tuple")=some .globalImplicit)(ha:aW C a ea)(hn:notStar ea=true):aW C (.Az a) (.Call (.Name (Str.ofString "tuple") p) [ea] [] pos):=⟨λ{A env s φ M Z ρ Q E Q'} room i er nm h k=>by
 refine Call_ (jT G (v:=.type "tuple") (.tail _ (.tail _ (.tail _ (.tail _ (.head _))))) i er nm hk (by decide+kernel) (Jw (dK hn) (mF ha hn room i er nm h λx w1 cD gA M1 s1 h1 i1 t1 r1=>?_))) (eU rfl);have d:=eX i1 r1;obtain⟨xs,e,h1⟩:=Jq h1;obtain⟨hl,h1⟩:=GW h1;rw[e]at d;exact GU i1 d hl λw s' t i' r=>(k.on t1) _ _ _ _ _ _ h1 i' t r⟩
theorem Rm(G:Good C.P gn){a:X}(hk:C.nm.lookup (Str.ofString "min")=some .globalImplicit)(ha:aW C a ea)(hn:notStar ea=true):aW C (.min a) (.Call (.Name (Str.ofString "min") p) [ea] [] pos):=⟨λ{A env s φ M Z ρ Q E Q'} room i er nm h k=>by
 refine Call_ (jT G (v:=.builtin "min") (.tail _ (.tail _ (.tail _ (.tail _ (.tail _ (.head _)))))) i er nm hk (by decide+kernel) (uh (dK hn) (mF ha hn room i er nm h λx w1 cD gA M1 s1 h1 i1 t1 r1=>?_))) (eU rfl);obtain⟨xs,rfl,h1⟩:=Be h1;obtain⟨z,hz,h1⟩:=aL h1;exact Na room.1 i1 hz r1 λw s' t i' r=>(k.on t1) _ _ _ _ _ _ h1 i' t r⟩
theorem Rn(G:Good C.P gn){a:X}(hk:C.nm.lookup (Str.ofString "isinstance")=some .globalImplicit)(XI:C.nm.lookup (Str.ofString (if b then "str" else "tuple"))=some .globalImplicit)(ha:aW C a ea)(hn:notStar ea=true):
  aW C (.PD b a) (.Call (.Name (Str.ofString "isinstance") p) [ea,.Name (Str.ofString (if b then "str" else "tuple")) p2] [] pos):=⟨λ{A env s φ M Z ρ Q E Q'} room i er nm h k=>by
 refine Call_ (jT G (v:=.builtin "isinstance") (.tail _ (.tail _ (.head _))) i er nm hk (by decide+kernel) (uh (by show(notStar ea&&(true&&true))=true;rw[hn];rfl) ?_)) (eU rfl);refine args_cons (ha room i er nm h λx w1 cD gA M1 s1 h1 i1 t1 r1=>?_) (bZ hn);refine args_cons ?_ (bZ rfl);refine jT G (v:=.type (if b then "str" else "tuple")) (by rcases b;exact .tail _ (.tail _ (.tail _ (.tail _ (.head _))));exact .tail _ (.tail _ (.tail _ (.tail _ (.tail _ (.tail _ (.head _))))))) i1 (er.bq i t1) nm XI (by cases b<;>decide+kernel) (args_nil ?_);obtain⟨z,hz,h1⟩:=aL h1;exact M9 hz r1 λtk=>(k.on t1).tok i1 h1 rfl⟩
theorem iU{M:Model}{s:Shared}{o:Expr}{args:List Expr}(hb:gu o=true)(hl:(apos.endLine==pos.line)=true)
  (hp:dz args=true)(hn:args.length<29)
  (h:wpAny M A (eval o env) (λov aQ=>∀pl,wpAny M A (getMethod ov name pl) (λfx fQ=>wpAny M A (callWith pos fx.1 fx.2 (backTo pos (starEach args env)) []) Q E fQ) E aQ) E s):
  wpAny M A (eval (.Call (.Attribute o name apos) args [] pos) env) Q E s:=by
 rw[arm_eval_Call,um hb];refine wb (wpAny_mono h (λov aQ eY=>wb (wpAny_standAt ?_)) λY Y x=>x);have XJ:methodCallForm (args.length+([]:List Keyword).length) (backTo pos (starEach args env)) (backToKw pos (keywordEach [] env))=true:=by
  unfold methodCallForm;rw[plain_all hp];exact decide_eq_true (Nat.lt_succ_of_lt hn)
 have e1:methodCallPos true o env apos pos=pure pos:=if_pos (c:=(!true||(apos.endLine==pos.line))=true) hl;unfold methodCall;rw[XJ,e1];exact wb (wpAny_holding (wpAny_mono (eY _) (λfx fQ Rp=>wb (wq Rp)) λY Y x=>x))
theorem Rq{x:V}{i:List (V×V)}:WY x=some i->x=.cM i:= @V.casesOn (λx=>WY x=some i->x=.cM i) x aN aN (λY=>aN) (λY=>aN) (λY=>aN) (λY=>aN) (λY=>aN) (λa h=>congrArg V.cM (di h)) (λY Y=>aN) (λY Y Y=>aN) (λY=>aN) (λY=>aN)
theorem GZ{l e:X}(hl:aW C l el)(he:aW C e ee)(hb:gu el=true)(hp:(apos.endLine==pos.line)=true)(hn:notStar ee=true):aW C (.append l e) (.Call (.Attribute el "append" apos) [ee] [] pos):=⟨λ{A env s φ M Z ρ Q E Q'} room i er nm h k=>by
 refine iU hb hp (dK hn) (show 1<29 by decide) (hl room i er nm h λx w1 cD gA M1 s1 h1 i1 t1 r1 pl=>?_);obtain⟨hq,h1⟩:=GW h1
 ·refine get_append i1 hq r1 (uh (dK hn) (mF he hn room i1 (er.bq i t1) nm h1 λv w2 Z2 lE M2 s2 h2 i2 t2 r2=>?_))
  obtain⟨kY,hz,h2⟩:=aL h2;exact Dn i2 hz (r1.mono t2.grow) r2 λs' t i'=>((k.on t1).on t2) _ _ _ _ _ _ h2 i' t rfl⟩
theorem Rr{l:X}(hl:aW C l el)(hb:gu el=true)(hp:(apos.endLine==pos.line)=true):aW C (.pop l) (.Call (.Attribute el "pop" apos) [] [] pos):=⟨λ{A env s φ M Z ρ Q E Q'} room i er nm h k=>by
 refine iU hb hp rfl (by decide) (hl room i er nm h λx w1 cD gA M1 s1 h1 i1 t1 r1 pl=>?_);obtain⟨hq,h1⟩:=GW h1
 ·refine M8 i1 hq r1 (uh rfl (args_nil ?_))
  obtain⟨⟨v,kY⟩,hz,h2⟩:=aL h1;exact M7 i1 hz hq r1 λw s' t i' r=>(k.on t1) _ _ _ _ _ _ h2 i' t r⟩
theorem Bl{s:Shared}{x:V}{w:Value}(i:Inv P Z φ M s)(h:nk Z x=true)(r:aK P s.heap M φ x w):∃kvs a,w=.ref a/\gO P s.heap M φ kvs a:=by
 obtain⟨kvs,e⟩:=Option.isSome_iff_exists.mp h;have d:=eX i r;rw[Rq e]at d;exact d.elim λa d=>⟨kvs,a,d.1,d.2.2⟩
theorem G1{d e:X}(hd:aW C d ed)(he:aW C e ee)(hb:gu ed=true)(hp:(apos.endLine==pos.line)=true)(hn:notStar ee=true):aW C (.update d e) (.Call (.Attribute ed "update" apos) [ee] [] pos):=⟨λ{A env s φ M Z ρ Q E Q'} room i er nm h k=>by
 refine iU hb hp (dK hn) (show 1<29 by decide) (hd room i er nm h λx w1 cD gA M1 s1 h1 i1 t1 r1 pl=>?_);obtain⟨hq,h1⟩:=GW h1
 ·obtain⟨kvs,a,rfl,D⟩:=Bl i1 hq r1
  refine xG PySem.F.slot_dict_update PySem.F.type_dict_update D (uh (dK hn) (mF he hn room i1 (er.bq i t1) nm h1 λv w2 Z2 lE M2 s2 h2 i2 t2 r2=>?_));obtain⟨kY,hz,h2⟩:=aL h2;exact Du i2 hz (r1.mono t2.grow) r2 λs' t i'=>((k.on t1).on t2) _ _ _ _ _ _ h2 i' t rfl⟩
theorem Rt{d y e:X}(hd:aW C d ed)(hy:aW C y ey)(he:aW C e ee)(hb:gu ed=true)(hp:(apos.endLine==pos.line)=true)(hn:notStar ey=true)(XK:notStar ee=true):aW C (.get d y e) (.Call (.Attribute ed "get" apos) [ey,ee] [] pos):=⟨λ{A env s φ M Z ρ Q E Q'} room i er nm h k=>by
 refine iU hb hp (Bool.and_eq_true_iff.mpr ⟨hn,dK XK⟩) (show 2<29 by decide) (hd room i er nm h λx w1 cD gA M1 s1 h1 i1 t1 r1 pl=>?_);obtain⟨hq,h1⟩:=GW h1
 ·obtain⟨kvs,a,rfl,D⟩:=Bl i1 hq r1
  refine xG PySem.F.slot_dict_get PySem.F.type_dict_get D (uh (Bool.and_eq_true_iff.mpr ⟨hn,dK XK⟩) ?_);refine args_cons (hy room i1 (er.bq i t1) nm h1 λy w2 Z2 lE M2 s2 h2 i2 t2 r2=>?_) (bZ hn);refine args_cons (he room i2 ((er.bq i t1).bq i1 t2) nm h2 λz w3 kY Mz M3 s3 h3 i3 t3 r3=>args_nil ?_) (bZ XK);obtain⟨r,hz,h3⟩:=aL h3;exact Jo hz (eX i3 (r1.mono (t2.trans t3).grow)) (r2.mono t3.grow) r3 λw tk r=>(((k.on t1).on t2).on t3).tok i3 h3 r⟩
theorem Ru{bT:Bool}:ES C bT [] []:=⟨λ{A env pos whole s φ M Z ρ Q E Q'} room i er nm h k=>by
 have:Q bT s:=k bT _ _ _ _ h i Step.refl;cases bT with
 |true=>exact isTrue_and_nil this
 |false=>exact isTrue_or_nil this⟩
theorem JD{bT:Bool}{x:X}{xs:List X}{e:Expr}{es:List Expr}(hx:oU C x e)(hs:ES C bT xs es):ES C bT (x::xs) (e::es):=⟨λ{A env pos whole s φ M Z ρ Q E Q'} room i er nm h k=>by
 cases bT with
 |true=>
  refine isTrue_and (hx (Q':=λb Z=>if b=true then QX C.cf C.P.gt true xs ρ (λv Z=>isBool v λb=>Q' b Z) Z else isBool (.bool b) λb=>Q' b Z) room i er nm h λb Z' bF M' s' h' i' t'=>?_);cases b with
  |true=>exact hs room i' (er.bq i t') nm h' (k.on t')
  |false=>exact k _ _ _ _ _ h' i' t'
 |false=>
  refine isTrue_or (hx (Q':=λb Z=>if b=false then QX C.cf C.P.gt false xs ρ (λv Z=>isBool v λb=>Q' b Z) Z else isBool (.bool b) λb=>Q' b Z) room i er nm h λb Z' bF M' s' h' i' t'=>?_);cases b with
  |false=>exact hs room i' (er.bq i t') nm h' (k.on t')
  |true=>exact k _ _ _ _ _ h' i' t'⟩
theorem Rv{bT:Bool}{x:X}{e:Expr}(hx:aW C x e):Nc C bT [x] [e]:=⟨λ{A env pos s φ M Z ρ Q E Q'} room i er nm h k=>by
 refine BoolOp_one (hx room i er nm h λv w Z' bF M' s' h' i' t' r'=>?_);obtain⟨b,rfl,h'⟩:=jw h';by_cases hb:b=bT
 ·change (if b=bT then QX C.cf C.P.gt bT [] _ _ _ else _)at h';rw[if_pos hb]at h';exact k _ _ _ _ _ _ h' i' t' (hb▸r')
 ·change (if b=bT then _ else _)at h';rw[if_neg hb]at h';exact k _ _ _ _ _ _ h' i' t' r'⟩
theorem Nn{bT:Bool}{x x2:X}{xs:List X}{e e2:Expr}{es:List Expr}(hx:aW C x e)(hs:Nc C bT (x2::xs) (e2::es)):Nc C bT (x::x2::xs) (e::e2::es):=⟨λ{A env pos s φ M Z ρ Q E Q'} room i er nm h k=>by
 cases bT with
 |true=>
  refine BoolOp_and (hx room i er nm h λv w Z' bF M' s' h' i' t' r'=>?_);obtain⟨b,rfl,h'⟩:=jw h';cases r';refine dO ?_;cases b with
  |true=>exact hs room i' (er.bq i t') nm h' (k.on t')
  |false=>exact(k.on t').now i' h' rfl
 |false=>
  refine BoolOp_or (hx room i er nm h λv w Z' bF M' s' h' i' t' r'=>?_);obtain⟨b,rfl,h'⟩:=jw h';cases r';refine dO ?_;cases b with
  |false=>exact hs room i' (er.bq i t') nm h' (k.on t')
  |true=>exact(k.on t').now i' h' rfl⟩
noncomputable def gf(C:Cx)(x:X)(e:Expr):Prop:=aW C x e/\oU C x e
theorem Rw{xs:List X}:∀{x:X} {e:Expr} {es:List Expr},eT (gf C) (x::xs) (e::es)->Nc C bT (x::xs) (e::es):=by
 induction xs with
 |nil=>
  intro x e es h;rcases es with _|_
  ·exact @Rv C bT x e h.1.1
  ·exact h.2.elim
 |cons x2 xs ih=>
  intro x e es h;rcases es with _|⟨e2,es⟩
  ·exact h.2.elim
  ·exact @Nn C bT x x2 xs e e2 es h.1.1 (ih h.2)
theorem Np{xs:List X}:∀{es:List Expr},eT (gf C) xs es->ES C bT xs es:=by
 induction xs with
 |nil=>
  intro es h;rcases es with _|_
  ·exact @Ru C bT
  ·exact h.elim
 |cons x xs ih=>
  intro es h;rcases es with _|⟨e,es⟩
  ·exact h.elim
  ·exact @JD C bT x xs e es h.1.2 (ih h.2)
theorem Rx{x:X}{xs:List X}(h:eT (gf C) (x::xs) (e::es)):gf C (.kI bT (x::xs)) (.BoolOp (if bT then .And else .Or) (e::es) pos):=
 ⟨⟨λroom i er nm h' k=>by exact Rw h room i er nm h' k⟩,⟨λroom i er nm h' k=>by exact Np h room i er nm h' k⟩⟩
theorem JE{a b c:X}{o':Mw}(ha:aW C a ea)(hb:aW C b eb)(hc:aW C c ec)(hm:lastMarks [ff o,ff o'] [eb,ec]=false):gf C (.chain a o b o' c) (.Compare ea [ff o,ff o'] [eb,ec] pos):=by
 constructor
 ·refine⟨?_⟩
  intro A env s φ M Z ρ Q E Q' room i er nm h k;refine Compare_chain (ha room i er nm h λx w1 cD gA M1 s1 h1 i1 t1 r1=>chain_link (hb room i1 (er.bq i t1) nm h1 λy w2 Z2 lE M2 s2 h2 i2 t2 r2=>?_)) hm;obtain⟨z,hz,h2⟩:=aL h2;refine mz hz (cC.of (r1.mono t2.grow)) (cC.of r2) room.units λtk=>dO ?_;have UT:=i2.tok tk;have Ry:Step bI gA M1 s1 lE M2 {s2 with toks:=tk}:=t2.tok tk;cases z with
  |false=>exact((k.on t1).on Ry).now UT h2 rfl
  |true=>
   refine chain_last (hc room UT ((er.bq i t1).bq i1 Ry) nm h2 λu w3 kY Mz M3 s3 h3 i3 t3 r3=>?_);obtain⟨z,hz,h3⟩:=aL h3;exact mz hz (cC.of (r2.mono t3.grow)) (cC.of r3) room.units λtk=>(((k.on t1).on Ry).on t3).tok i3 h3 rfl
 ·refine⟨?_⟩
  intro A env s φ M Z ρ Q E Q' room i er nm h k;refine isTrue_chain (ha room i er nm h λx w1 cD gA M1 s1 h1 i1 t1 r1=>test_link (hb room i1 (er.bq i t1) nm h1 λy w2 Z2 lE M2 s2 h2 i2 t2 r2=>?_)) hm;obtain⟨z,hz,h2⟩:=aL h2;refine mz hz (cC.of (r1.mono t2.grow)) (cC.of r2) room.units λtk=>dO ?_;have UT:=i2.tok tk;have Ry:Step bI gA M1 s1 lE M2 {s2 with toks:=tk}:=t2.tok tk;cases z with
  |false=>exact k _ _ _ _ _ h2 UT (t1.trans Ry)
  |true=>
   refine test_last (hc room UT ((er.bq i t1).bq i1 Ry) nm h2 λu w3 kY Mz M3 s3 h3 i3 t3 r3=>?_);obtain⟨z,hz,h3⟩:=aL h3;exact mz hz (cC.of (r2.mono t3.grow)) (cC.of r3) room.units λtk=>dO (k _ _ _ _ _ h3 (i3.tok tk) (((t1.trans Ry).trans t3).tok tk))
theorem Inv.kill{s:Shared}(i:Inv P Z φ M s){c:Addr×Addr}(hn:φ[n]?=some c):
  Inv P (Z.set n .dead) φ (λa=>M a/\a≠c.2) s/\Step bI φ M s φ (λa=>M a/\a≠c.2) s:=by
 have t:Step bI φ M s φ (λa=>M a/\a≠c.2) s:=⟨⟨_,_,rfl⟩,λa o e=>⟨o,e⟩,λa o e Y=>e,λY Y e=>e,λY e=>.inl e,λa e=>.inl e.1,λa o e m na=>⟨m,λz=>na (z▸gP hn)⟩⟩;refine⟨⟨i.sys,by rw[List.length_set];exact i.len,λm o c' e q=>?_,i.nodup,λa e=>i.lt a e.1,λa e=>i.base a e.1,i.iy,i.iL⟩,t⟩;by_cases z:n=m
 ·rw[<-z,List.getElem?_set_self']at e
  exact nW e λY Y e=>e▸trivial
 ·rw[List.getElem?_set_ne z]at e
  exact(i.cell m o c' e q).mono t.grow (λob e=>e) λx=>⟨x,Dm i hn q z⟩
theorem Rz{a:X}(ha:aW C a ea):aW C (.r9 a) ea:=⟨λ{A env s φ M Z ρ Q E Q'} room i er nm h k=>by
 refine ha room i er nm h λx w1 cD gA M1 s1 h1 i1 t1 r1=>?_;obtain⟨⟨v,Z2⟩,hz,h1⟩:=aL h1;have hz:((C3 x).bind λn=>match jq cD[n]? with
  |some xs=>some (.aC xs,cD.set n .dead)
  |Option.none=>(AD cD[n]?).bind λkvs=>if i0 kvs=true then some (.cM kvs,cD.set n .dead) else Option.none)=some (v,Z2):=hz
 refine f9 hz λn en hz=>?_;cases e:jq cD[n]? with
 |some xs=>
  rw[e]at hz;obtain⟨e1,e2⟩:=Prod.mk.inj (di hz);rw[<-e1,<-e2]at h1;exact mE i1 (jO en) (se e) r1 λl ws ew t9 hM p q=>by
   obtain⟨i2,t2⟩:=i1.kill t9;exact(k.on t1) _ _ _ _ _ _ h1 i2 t2 ⟨l,ws,ew,λz=>z.2 rfl,p.isList,aM.mono t2.grow xs q⟩
 |none=>
  rw[e]at hz;refine f9 hz λkvs e hz=>?_;obtain⟨hs,e3⟩:=bD hz;obtain⟨e1,e2⟩:=Prod.mk.inj e3;rw[<-e1,<-e2]at h1;exact sE i1 (jO en) (sf e) r1 λl ew t9 hM D=>by
   obtain⟨l',d,q⟩:=zl D hs;obtain⟨i2,t2⟩:=i1.kill t9;exact(k.on t1) _ _ _ _ _ _ h1 i2 t2 ⟨l,l',ew,λz=>z.2 rfl,i1.tY hM,d,bB.mono t2.grow kvs q⟩⟩
end
structure JF (P:PV) (c:String) (k:Nat) (ca:Addr):Prop where
 cls:P.ca c=some ca
 mg:P.mg (Str.ofString c)=some (.ref ca)
 keep:keepIn P.K (.ref ca)=true
 makes:makesIn P.K ca=true
 init:findIn P.K (.ref ca) "__init__"=some (some (.ref (P.fa k)))
 XM:typeIn P.K (.ref (P.fa k))=some (.type "function")
theorem Dy{vs:List Value}(r:kX A n):EP (A.under (.builtin "type.__call__" ⟨.ref ca::vs,[]⟩)) n:=by
 have hw:(Code.builtin "type.__call__" ⟨.ref ca::vs,[]⟩).weight<=2:=by
  show Code.frames _+_+_+_<=2;have h1:(Code.builtin "type.__call__" ⟨.ref ca::vs,[]⟩).frames=0:=by rfl
  have h2:(Code.builtin "type.__call__" ⟨.ref ca::vs,[]⟩).isCaller=false:=by rfl
  rw[h1,h2]
  split<;>split<;>simp
 have hu:(Code.builtin "type.__call__" ⟨.ref ca::vs,[]⟩).cUnits=1:=by rfl
 refine⟨r.1,?_,?_⟩
 ·show A.depth+_+4*n+1<=_
  have:=r.2.1;lia
 ·show A.units+_+12*n+52<_
  rw[hu];have:=r.2.2;lia
section
variable {C:Cx}
theorem RA(G:Good C.P gn)(K:zm C.P C.cf C.n){p:Bool}{c:String}(N:JF C.P c nc ca){xs:List X}(hk:C.nm.lookup (Str.ofString c)=some .globalImplicit)(hd:(Str.ofString c==("__debug__":Str))=false)
  (hx:eT (aW C) xs es)(hp:dz es=true):aW C (.new p c nc xs) (.Call (.Name (Str.ofString c) np) es [] pos):=⟨λ{A env s φ M Z ρ Q E Q'} room i er nm h k=>by
 refine Call_ (Name_function_global er.kind (by unfold Env.kindOf;rw[nm];exact hk) (loadGlobal_global (by rw[er.aA];exact G.g.keeps i.iL) N.mg ?_) hd) (eU rfl);refine callWith_of (P:=λh=>C.P.K.In h) (by rw[plain_any hp];rfl) (keeps_K N.keep) (iT hp (jS hx hp room i er nm h λvs ws cD gA M1 s1 h1 i1 t1 r1 l1=>⟨i1.K G.Ur,wpAny_call ?_⟩));have X:=i1.K G.Ur;obtain⟨hh,g,d,t,os⟩:=s1;refine make_core (makes_of X N.makes) (looks_findIn X N.init) (λself=>bind_fn X self N.XM) (.inl rfl) ?_;have XI:∀a o,hh.get? a=some o->((hh.push emptyDict).push (instObj ca hh.objs.size)).get? a=some o:=λa o e=>ju _ (ju _ e);have e1:((hh.push emptyDict).push (instObj ca hh.objs.size)).get? (hh.objs.size+1)=some (instObj ca hh.objs.size):=by
  have:=Heap.get?_push_size (hh.push emptyDict) (o:=instObj ca hh.objs.size) rfl
  rwa [Heap.size_push]at this
 have e2:((hh.push emptyDict).push (instObj ca hh.objs.size)).get? hh.objs.size=some emptyDict:=ju _ (Heap.get?_push_size _ rfl);have nM:¬ (M1 (hh.objs.size+1)\/hh.objs.size+1=hh.objs.size):=λq=>by
  rcases q with q|q
  ·obtain⟨o,e⟩:=i1.lt _ q
   have:=Heap.lt_size e;exact absurd this (by show ¬ hh.objs.size+1<hh.objs.size;lia)
  ·lia
 obtain⟨i2,t2⟩:=i1.Bh (tk:=t) (o:=.inst c []) (c:=(hh.objs.size+1,hh.objs.size)) XI bC ⟨_,e2⟩ ⟨nM,.inr rfl,ca,[],0,N.cls,e1,e2,rfl⟩;refine K.run h1 (Dy room) i2 ⟨_,_,rfl,⟨(hh.objs.size+1,hh.objs.size),by rw[<-i1.len];simp,rfl⟩,aM.mono t2.grow vs r1⟩ λv w kY Mz M3 s3 h3 i3 t3 r3=>?_;obtain⟨ev,h4⟩:=Jr h3;rw[ev]at r3;refine⟨r3,?_⟩;obtain⟨⟨v,PR⟩,hz,h5⟩:=aL h4;have tt:=(t1.trans t2).trans t3;have t9:Mz[cD.length]?=some (hh.objs.size+1,hh.objs.size):=t3.sd _ _ (by rw[<-i1.len];simp);rcases p with _|_
 ·obtain⟨e1,e2⟩:=Prod.mk.inj (di hz)
  rw[<-e1,<-e2]at h5;exact k _ _ _ _ _ _ h5 i3 tt ⟨_,t9,rfl⟩
 ·refine nW hz λp e hz=>?_
  obtain⟨e1,e2⟩:=Prod.mk.inj hz;rw[<-e1,<-e2]at h5;obtain⟨i4,t4⟩:=i3.kill t9;exact(i3.cell _ _ _ (sj e) t9).2.2.elim λZC q=>q.elim λUU q=>q.elim λj q=>
   k _ _ _ _ _ _ h5 i4 (tt.trans t4) ⟨_,_,ZC,UU,j,rfl,λz=>(i3.cell _ _ _ (sj e) t9).1 z.1,λz=>z.2 rfl,q.1,q.2.1,q.2.2.1,e8.mono t4.grow p.2 q.2.2.2⟩⟩
end
local macro_rules |`(tactic|lia)=>return UD
section
variable {prog:Program}{w:World}{K:Type}[DecidableEq K]{knd:KeyKind prog w K}{A:Around}{E:Value->Shared->Prop}{s:Shared}
theorem oV{kvs:List (K×Value)}{k:K}{v:Value}(h:k∉kvs.map (·.1)):stored kvs k v=kvs++[(k,v)]:=by
 have RB:¬ (kvs.any λkv=>decide (kv.1=k))=true:=by
  rw[List.any_eq_true];rintro⟨kv,PS,he⟩;exact h (List.mem_map.mpr ⟨kv,PS,dt he⟩)
 rw[stored,if_neg RB]
theorem G3{kvs:List (K×Value)}{k:K}{key v:Value}{Q:Unit->Shared->Prop}(G4:knd.is k key=true)(hm:s.heap.DictOf knd d kvs)(hf:k∉kvs.map (·.1))
  (hQ:∀h',h'.DictOf knd d (kvs++[(k,v)])->Heap.SameBut d s.heap h'->Q () {s with heap:=h'})(hsz:kvs.length<=sizeLine):wpAny (model prog w) A (dictPut d (knd.hash k) key v) Q E s:=by
 refine cps λG g=>?_;obtain⟨o,es,ep,ho,hc,hd,hk,hp,hn⟩:=hm;refine g ?_;have hes:es.size<=sizeLine:=by
  have e1:=hp.length;have e2:es.toList.length=es.size:=by simp
  lia
 unfold dictPut;refine wb (wpAny_dictFind_of G4 ho hd hk ?_);have XN:(es.findIdx? λe=>knd.is k e.key)=kvs.findIdx? λkv=>decide (kv.1=k):=by
  rw[<-hp.findIdx k];obtain⟨l⟩:=es;simp
 have hi:es.findIdx? (λe=>knd.is k e.key)=none:=by
  rw[XN,List.findIdx?_eq_none_iff];intro kv PS;exact decide_eq_false λz=>hf (List.mem_map.mpr ⟨kv,PS,z⟩)
 rw[hi];refine wpAny_updateDictKeys (hz:=hes) ho hd (hQ _ ⟨_,_,ep+1,Heap.get?_update_self _ ho (Obj.isFreed_of_dict (Obj.data_mapDictKeys hd _)),
  hc.mapDictKeys _,Obj.data_mapDictKeys hd _,hk.push G4 _,?_,?_⟩ (Heap.SameBut.update ..))
 ·have:=hp.append G4 (knd.hash k) v
  obtain⟨l⟩:=es
  simpa using this
 ·rw[List.map_append,List.nodup_append]
  refine⟨hn,by simp,?_⟩;intro a ha b hb;simp only[List.map_cons,List.map_nil,List.mem_singleton]at hb;subst hb;exact λe=>hf (e▸ha)
theorem qR{kvs more:List (K×Value)}{Q:Unit->Shared->Prop}(hda:d≠a)(haS:(a==sysModules)=false)(hd:s.heap.DictOf knd d kvs)(ha:s.heap.DictOf knd a more)(h0:kvs≠[])
  (hf:(kvs.map (·.1)++more.map (·.1)).Nodup)(hsz:kvs.length+more.length<=sizeLine)
  (hQ:∀h',h'.DictOf knd d (kvs++more)->Heap.SameBut d s.heap h'->Q () {s with heap:=h'}):wpAny (model prog w) A (mergeMapping d (.ref a) false) Q E s:=by
 obtain⟨od,XO,epd,hod,hcd,XQ,hkd,UW,W4⟩:=id hd;refine cps λG g=>?_;obtain⟨oo,CX,epo,W5,hco,Nq,hko,ZG,hno⟩:=id ha;refine g ?_;have hT:s.TypeIs (.ref a) "dict":=⟨oo,W5,hco.1⟩;have hlen:more.length=CX.size:=by rw[<-ZG.length];simp
 have mw:XO.isEmpty=false:=by
  cases q:XO.isEmpty with
  |false=>rfl
  |true=>
   exfalso
   have h1:XO=#[]:=Array.isEmpty_iff.mp q;have:=UW.length;rw[h1]at this;exact h0 (List.length_eq_zero_iff.mp (by simpa using this.symm))
 refine wb (wpAny_isInstance hT isSubtype_dict_dict (wi rfl (wb (wpAny_specialOf hT PySem.F.slot_dict_iter.lookup (wb (wq ?_))))));have e1:((some (Value.builtin "dict.__iter__"))==some (.builtin "dict.__iter__"))=true:=by decide
 rw[e1];refine wn (c:=(a==sysModules)=true) (λz=>dJ (haS.symm.trans z)) (wb (wpAny_dictEntries hod XQ (wn (λz=>dJ (mw.symm.trans z)) (wb (wpAny_dictEntries W5 Nq (wb (wpAny_dictEpoch W5 Nq ?_)))))));refine wb (wpAny_forIn_list _
  (λrest Y s'=>∃h' i,s'={s with heap:=h'}/\rest=List.range' i (CX.size-i)/\i<=CX.size/\h'.DictOf knd d (kvs++more.take i)/\h'.get? a=some oo/\Heap.SameBut d s.heap h')
  _ ?_ ?_ (List.range CX.size) _ ⟨s.heap,0,rfl,by simp[List.range_eq_range'],Nat.zero_le _,by simpa using hd,W5,Heap.SameBut.refl _ _⟩)
 ·rintro x rest b s' ⟨h',i,rfl,hr,hi,PN,RC,k9⟩
  have qS:i<CX.size:=by
   rcases Nat.lt_or_ge i CX.size with h|h
   ·exact h
   ·rw[Nat.sub_eq_zero_of_le h]at hr;simp at hr
  obtain⟨rfl,UX⟩:x=i/\rest=List.range' (i+1) (CX.size-(i+1)):=by
   have e:=QT qS;rw[e,List.range'_succ]at hr
   injection hr with h1 h2
   exact⟨h1,h2⟩
  refine wb (wpAny_dictEntries RC Nq ?_);rw[Array.getElem?_eq_getElem qS];obtain⟨kv,PS⟩:∃kv,more[x]?=some kv:=⟨more[x]'(by rw[hlen];exact qS),List.getElem?_eq_getElem _⟩;obtain⟨k,v⟩:=kv;obtain⟨G4,Nb⟩:=ZG.get? (e:=CX[x]) (by simp[qS]) PS;obtain⟨k',UY,UZ⟩:=hko CX[x] (Array.getElem_mem qS);obtain rfl:k'=k:=knd.inj _ _ _ UY G4;show wpAny _ _ (holding [CX[x].key,CX[x].val] (dictPut d CX[x].hash CX[x].key CX[x].val) >>=_) _ _ _;rw[UZ,Nb];have hx:x<more.length:=by lia
  have hfr:k'∉(kvs++more.take x).map (·.1):=by
   rw[List.map_append,List.mem_append];rintro (h|h)
   ·have:=(List.nodup_append.mp hf).2.2 _ h k' (List.mem_map.mpr ⟨(k',v),List.mem_of_getElem? PS,rfl⟩)
    exact this rfl
   ·obtain⟨p,hp,e⟩:=List.mem_map.mp h
    obtain⟨j,hj⟩:=List.mem_iff_getElem?.mp hp;have U4:j<x:=by
     have:=(List.getElem?_eq_some_iff.mp hj).1;rw[List.length_take]at this;lia
    rw[List.getElem?_take,if_pos U4]at hj;have nd:=List.pairwise_iff_getElem.mp hno;have l1:j<(more.map (·.1)).length:=by simp;lia
    have l2:x<(more.map (·.1)).length:=by simp;lia
    have:=nd j x l1 l2 U4;apply this;have q1:(more.map (·.1))[j]?=some p.1:=by rw[List.getElem?_map,hj];rfl
    have q2:(more.map (·.1))[x]?=some k':=by rw[List.getElem?_map,PS];rfl
    rw[(List.getElem?_eq_some_iff.mp q1).2,(List.getElem?_eq_some_iff.mp q2).2];exact e
  refine wb (wpAny_holding (G3 G4 PN hfr (λzj XR U5=>?_) (by rw[List.length_append,List.length_take];lia)));have PT:zj.get? a=some oo:=(U5.2 a (Ne.symm hda)).trans RC;refine wb (wpAny_dictEpoch PT Nq ?_);rw[if_neg (by simp)];refine wq ⟨zj,x+1,rfl,UX,qS,?_,PT,k9.trans U5⟩;rw[List.take_add_one,PS,<-List.append_assoc];exact XR
 ·rintro b s' ⟨h',i,rfl,hr,hi,PN,RC,k9⟩
  have XS:i=CX.size:=by
   rcases Nat.lt_or_ge i CX.size with h|h
   ·rw[QT h,List.range'_succ]at hr;exact nomatch hr
   ·exact Nat.le_antisymm hi h
  rw[XS,<-hlen,List.take_length]at PN;exact wq (hQ h' PN k9)
end
noncomputable abbrev cT:=Sem Value×Sem Value
noncomputable def fZ(p:cT):Option (Sem Value)×Sem Value:=(some p.1,p.2)
section
variable {f:(Option (Sem Value)×Sem Value)->(Option Addr×List cT)->Sem (ForInStep (Option Addr×List cT))}{flush:List cT->Option Addr->Sem (Option Addr)}
theorem EU(hf:∀(p:cT) (m:Option Addr) (run:List cT),run.length+1<17->f (fZ p) (m,run)=pure (.yield (m,run++[p])))(m:Option Addr):
  ∀(items run:List cT),run.length+items.length<17->forIn (items.map fZ) (m,run) f=pure (m,run++items)
 |[],run,aR=>by simp
 |p::rest,run,h=>by
  rw[List.map_cons,List.forIn_cons,hf p m run (by simp at h;lia),pure_bind];have:=EU hf m rest (run++[p]) (by simp at h ⊢;lia)
  simpa using this
theorem JG(hf:∀(p:cT) (m:Option Addr) (run:List cT),run.length+1<17->f (fZ p) (m,run)=pure (.yield (m,run++[p])))
  (U6:∀(p:cT) (m:Option Addr) (run:List cT),run.length+1=17->f (fZ p) (m,run)=(flush (run++[p]) m >>=λm=>pure (.yield (m,[]))))(m:Option Addr)(rest:List cT):
  ∀(items run:List cT),items≠[]->run.length+items.length=17->forIn ((items++rest).map fZ) (m,run) f=(flush (run++items) m >>=λm=>forIn (rest.map fZ) (m,[]) f)
 |[],aR,h,dm=>absurd rfl h
 |[p],run,aR,h=>by
  rw[List.cons_append,List.map_cons,List.forIn_cons,U6 p m run (by simpa using h),bind_assoc];simp
 |p::p2::r,run,aR,h=>by
  rw[List.cons_append,List.map_cons,List.forIn_cons,hf p m run (by simp at h;lia),pure_bind];have:=JG hf U6 m rest (p2::r) (run++[p]) (by simp) (by simp at h ⊢;lia)
  simpa using this
end
noncomputable def eE(run:List cT)(main:Option Addr):Sem (Option Addr):=do
 if run.isEmpty then return main
 match main with
 |none=>return some (<-subDict run)
 |some d=>
  let sub<-holding [.ref d] (subDict run)
  (holding [.ref d,.ref sub] (mergeMapping d (.ref sub) false)).onRaise λx=>do let _<-holding [.ref d,x] (runValue (.builtin "proto.let_go" {}))
  return some d
noncomputable def jx(m:Option Addr)(items:List cT):Sem Value:=do
 match<-eE items m with
 |some d=>pure (.ref d)
 |none=>newDict
noncomputable def nF:Nat->Option Addr->List cT->Sem Value
 |0,m,items=>jx m items
 |n+1,m,items=>eE (items.take 17) m >>=λm=>nF n m (items.drop 17)
theorem PU{f:(Option (Sem Value)×Sem Value)->(Option Addr×List cT)->Sem (ForInStep (Option Addr×List cT))}
  (hf:∀(p:cT) (m:Option Addr) (run:List cT),run.length+1<17->f (fZ p) (m,run)=pure (.yield (m,run++[p])))
  (U6:∀(p:cT) (m:Option Addr) (run:List cT),run.length+1=17->f (fZ p) (m,run)=(eE (run++[p]) m >>=λm=>pure (.yield (m,[])))):
  ∀(n:Nat) (m:Option Addr) (items:List cT),17*n<=items.length->items.length<17*(n+1)->(forIn (items.map fZ) (m,([]:List cT)) f >>=λr=>jx r.1 r.2)=nF n m items
 |0,m,items,aR,h=>by
  rw[EU hf m items [] (by simpa using h),pure_bind,List.nil_append];rfl
 |n+1,m,items,h1,h2=>by
  have e:items.take 17++items.drop 17=items:=List.take_append_drop 17 items;have hl:(items.take 17).length=17:=by rw[List.length_take];exact Nat.min_eq_left (Nat.le_trans (Nat.le_add_left _ _) h1)
  have ne:items.take 17≠[]:=λz=>by rw[z]at hl;simp at hl
  have c:=JG hf U6 m (items.drop 17) (items.take 17) [] ne (by simp only[List.length_nil];lia);rw[e]at c;rw[c,bind_assoc,List.nil_append];show _=(eE (items.take 17) m >>=λm=>nF n m (items.drop 17));congr 1
  funext m'
  exact PU hf U6 n m' (items.drop 17) (by rw[List.length_drop];exact Nat.le_sub_of_add_le h1) (by rw[List.length_drop];exact Nat.sub_lt_left_of_lt_add (Nat.le_trans (Nat.le_add_left _ _) h1) (Nat.lt_of_lt_of_eq h2 (Nat.add_comm (17*(n+1)) 17)))
theorem oW(n:Nat)(items:List cT)(h1:17*n<=items.length)(h2:items.length<17*(n+1)):dictDisplay (items.map fZ)=nF n none items:=by
 rw[<-PU (f:=λp r=>match p.1 with
  |some k=>if (r.2++[(k,p.2)]).length==17 then eE (r.2++[(k,p.2)]) r.1 >>=λm=>pure (.yield (m,[])) else pure (.yield (r.1,r.2++[(k,p.2)]))
  |none=>pure (.yield r)) (λp m run h=>by
   have mw:((run++[(p.1,p.2)]).length==17)=false:=by simp;lia
   simp only[fZ,mw,Bool.false_eq_true,if_false]) (λp m run h=>by
   have mw:((run++[(p.1,p.2)]).length==17)=true:=by simp;lia
   simp only[fZ,mw,if_true]) n none items h1 h2]
 unfold dictDisplay;dsimp only;have key:∀{α:Type} (g1 g2:(Option (Sem Value)×Sem Value)->(Option Addr×List cT)->Sem (ForInStep (Option Addr×List cT))) (k:(Option Addr×List cT)->Sem α),(∀p b,g1 (fZ p) b=g2 (fZ p) b)->
   ∀(l:List cT) (b:Option Addr×List cT),(forIn (l.map fZ) b g1 >>=k)=(forIn (l.map fZ) b g2 >>=k):=λg1 g2 k h l b=>by
  congr 1;induction l generalizing b with
  |nil=>simp
  |cons p l ih=>
   simp only[List.map_cons,List.forIn_cons,h];congr 1
   funext r
   cases r with
   |done aR=>rfl
   |yield b=>exact ih b
 have k2:=key (α:=Value);rw[k2 _ (λp r=>match p.1 with
  |some k=>if (r.2++[(k,p.2)]).length==17 then eE (r.2++[(k,p.2)]) r.1 >>=λm=>pure (.yield (m,[])) else pure (.yield (r.1,r.2++[(k,p.2)]))
  |none=>pure (.yield r)) _ ?_ items]
 ·rfl
 ·intro p b
  obtain⟨m,run⟩:=b;simp only[fZ];rfl
noncomputable abbrev JT:=fz->(Addr->Prop)->Heap->Prop
noncomputable def JH(P:PV)(J:JT):Prop:=∀{Z:H} {φ:fz} {M:Addr->Prop} {s:Shared} {bF:fz} {M':Addr->Prop} {s':Shared},Inv P Z φ M s->J φ M s.heap->Step bI φ M s bF M' s'->J bF M' s'.heap
noncomputable def RD(P:PV)(J:JT)(A:Around)(env:Env)(cf:CF)(ρ:List V)(x:X)(e:Expr):Prop:=∀{s:Shared} {φ:fz} {M:Addr->Prop} {Z:H} {Q E:Value->Shared->Prop} {Q':V->H->Prop},
 Inv P Z φ M s->J φ M s.heap->b8 cf P.gt x ρ Q' Z->qp P φ M s Q' Q->wpAny (model P.prog P.w) A (eval e env) Q E s
noncomputable def zo(k:String)(e:Option Expr):Prop:=∃c p,e=some (.Constant (.str (Str.ofString k)) c p)
theorem PW{R:α->β->Prop}{as:List α}:∀{bs:List β},eT R as bs->as.length=bs.length:=by
 induction as with
 |nil=>
  intro bs h;rcases bs with _|⟨b,bs⟩
  ·exact rfl
  ·exact h.elim
 |cons a as ih=>
  intro bs h;rcases bs with _|⟨b,bs⟩
  ·exact h.elim
  ·exact congrArg (· +1) (ih h.2)
theorem Ut{R:α->β->Prop}{as:List α}:∀{bs:List β} (n:Nat),eT R as bs->eT R (as.take n) (bs.take n):=by
 induction as with
 |nil=>
  intro bs n h;rcases bs with _|⟨b,bs⟩
  ·rw[List.take_nil,List.take_nil];trivial
  ·exact h.elim
 |cons a as ih=>
  intro bs n h;rcases bs with _|⟨b,bs⟩
  ·exact h.elim
  ·rcases n with _|n
   ·exact trivial
   ·exact⟨h.1,ih n h.2⟩
theorem Uu{R:α->β->Prop}{as:List α}:∀{bs:List β} (n:Nat),eT R as bs->eT R (as.drop n) (bs.drop n):=by
 induction as with
 |nil=>
  intro bs n h;rcases bs with _|⟨b,bs⟩
  ·rw[List.drop_nil,List.drop_nil];trivial
  ·exact h.elim
 |cons a as ih=>
  intro bs n h;rcases bs with _|⟨b,bs⟩
  ·exact h.elim
  ·rcases n with _|n
   ·exact h
   ·exact ih n h.2
inductive gQ {α:Type} (R:α->Expr->Prop):List String->List (Option Expr)->List α->List Expr->Prop
 |nil:gQ R [] [] [] []
 |cons {s c p x e ss keys xs es}:R x e->gQ R ss keys xs es->gQ R (s::ss) (some (.Constant (.str (Str.ofString s)) c p)::keys) (x::xs) (e::es)
theorem gQ.len{R:α->Expr->Prop}{keys:List (Option Expr)}{xs:List α}(D:gQ R ss keys xs es):ss.length=xs.length/\∀env pos,(pairTrees keys es env pos).length=ss.length:=by
 induction D with
 |nil=>exact⟨rfl,λY Y=>rfl⟩
 |cons aR dm ih=>exact⟨congrArg (· +1) ih.1,λenv pos=>congrArg (· +1) (ih.2 env pos)⟩
theorem gQ.nil_of{R:α->Expr->Prop}{keys:List (Option Expr)}{xs:List α}(D:gQ R ss keys xs es)(he:(pairTrees keys es env pos).isEmpty=true):ss=[]/\xs=[]:=by
 induction D with
 |nil=>exact⟨rfl,rfl⟩
 |cons aR dm p8=>exact dJ he
theorem gQ.cut{R:α->Expr->Prop}{keys:List (Option Expr)}{xs:List α}(D:gQ R ss keys xs es):∀n,gQ R (ss.take n) (keys.take n) (xs.take n) (es.take n)/\gQ R (ss.drop n) (keys.drop n) (xs.drop n) (es.drop n)/\
  ∀env pos,(pairTrees keys es env pos).take n=pairTrees (keys.take n) (es.take n) env pos/\(pairTrees keys es env pos).drop n=pairTrees (keys.drop n) (es.drop n) env pos:=by
 induction D with
 |nil=>
  intro n;rcases n with _|n
  ·exact⟨.nil,.nil,λY Y=>⟨rfl,rfl⟩⟩
  ·exact⟨.nil,.nil,λY Y=>⟨rfl,rfl⟩⟩
 |cons hx D ih=>
  intro n;rcases n with _|n
  ·exact⟨.nil,.cons hx D,λY Y=>⟨rfl,rfl⟩⟩
  ·exact⟨.cons hx (ih n).1,(ih n).2.1,λenv pos=>⟨congrArg (_::·) ((ih n).2.2 env pos).1,((ih n).2.2 env pos).2⟩⟩
theorem gQ.trees{R:α->Expr->Prop}{keys:List (Option Expr)}{xs:List α}(D:gQ R ss keys xs es):
  (evalEachOpt keys env).zip ((evalEach es env).map λv=>do let x<-v;standAt pos;pure x)=(pairTrees keys es env pos).map fZ:=by
 induction D with
 |nil=>rfl
 |cons aR dm ih=>exact congrArg (_::·) ih
theorem EW{R:α->Expr->Prop}:∀{keys:List (Option Expr)} {xs:List α} {es:List Expr},eT zo ss keys->eT R xs es->ss.length=xs.length->gQ R ss keys xs es:=by
 induction ss with
 |nil=>
  intro keys xs es hk hx hl;rcases keys with _|⟨b,bs⟩
  ·rcases xs with _|⟨x,xs⟩
   ·rcases es with _|⟨e,es⟩
    ·exact .nil
    ·exact hx.elim
   ·exact nomatch hl
  ·exact hk.elim
 |cons s ss ih=>
  intro keys xs es hk hx hl;rcases keys with _|⟨b,bs⟩
  ·exact hk.elim
  rcases xs with _|⟨x,xs⟩
  ·exact nomatch hl
  rcases es with _|⟨e,es⟩
  ·exact hx.elim
  exact hk.1.elim λc r=>r.elim λp e=>e▸.cons hx.1 (ih hk.2 hx.2 (Nat.succ.inj hl))
theorem bB.append{xs ys:List (V×V)}{l':List (Str×Value)}:∀{l:List (Str×Value)},bB P h M φ xs l->bB P h M φ ys l'->bB P h M φ (xs++ys) (l++l'):=by
 induction xs with
 |nil=>exact λa b=>Eq.symm a▸b
 |cons x xs ih=>
  rcases x with⟨k,v⟩
  exact λa b=>a.elim λs r=>r.elim λw r=>r.elim λl r=>r.1▸⟨s,w,_,rfl,r.2.1,r.2.2.1,ih r.2.2.2 b⟩
theorem bB.keys:∀{vs:List V} {l:List (Str×Value)},ss.length=vs.length->bB P h M φ ((ss.map V.str).zip vs) l->l.map (·.1)=ss.map Str.ofString:=by
 induction ss with
 |nil=>exact λY q=>congrArg (List.map (·.1)) (show _=_ from q)
 |cons s ss ih=>
  intro vs l e q;rcases vs with _|⟨v,vs⟩
  ·exact nomatch e
  exact q.elim λs' r=>r.elim λw r=>r.elim λl r=>r.1▸(V.str.inj r.2.1▸congrArg (Str.ofString s::·) (ih (Nat.succ.inj e) r.2.2.2))
theorem oX(h:ss.Nodup):(ss.map Str.ofString).Nodup:=by
 rw[List.nodup_iff_pairwise_ne]at h ⊢;exact List.Pairwise.map _ (λa b ne e=>ne (fH e)) h
theorem fB{as bs:List α}{ds:List β}:∀{cs:List β},as.length=cs.length->(as++bs).zip (cs++ds)=as.zip cs++bs.zip ds:=by
 induction as with
 |nil=>
  intro cs h;rcases cs with _|⟨c,cs⟩
  ·exact rfl
  ·exact nomatch h
 |cons a as ih=>
  intro cs h;rcases cs with _|⟨c,cs⟩
  ·exact nomatch h
  ·exact congrArg ((a,c)::·) (ih (Nat.succ.inj h))
section
variable {P:PV}{J:JT}{A:Around}{env:Env}{cf:CF}{ρ:List V}
theorem lF(ys:List X):∀(xs:List X) (Q:List V->H->Prop) (Z:H),fN cf P.gt (xs++ys) ρ Q Z=fN cf P.gt xs ρ (λvs Z=>fN cf P.gt ys ρ (λus Z=>Q (vs++us) Z) Z) Z
 |[],Q,Z=>by rfl
 |x::xs,Q,Z=>by
  exact congrArg (b8 cf P.gt x ρ · Z) (funext λv=>funext λZ=>lF ys xs _ Z)
theorem G5(hJ:JH P J){keys:List (Option Expr)}{xs:List X}(D:gQ (RD P J A env cf ρ) ss keys xs es):
  ∀{s:Shared} {φ:fz} {M:Addr->Prop} {Z:H} {Q:List (Value×Value)->Shared->Prop} {E:Value->Shared->Prop} {Q':List V->H->Prop},Inv P Z φ M s->J φ M s.heap->fN cf P.gt xs ρ Q' Z->
  (∀vs nX l Z' bF M' s',Q' vs Z'->Inv P Z' bF M' s'->Step bI φ M s bF M' s'->vs.length=xs.length->Carries (strKind P.prog P.w) nX l->bB P s'.heap M' bF ((ss.map V.str).zip vs) l->Q nX s')->
  wpAny (model P.prog P.w) A (evalPairs (pairTrees keys es env pos)) Q E s:=by
 induction D with
 |nil=>exact λi j h k=>pairTrees_nil_walk (k [] [] [] _ _ _ _ h i Step.refl rfl trivial rfl)
 |cons hx aR ih=>
  intro s φ M Z Q E Q' i j h k;refine pairTrees_cons_walk (wpAny_Constant_str ?_);have t0:Step bI φ M s φ M {s with toks:=s.toks+1}:=Step.refl.tok _;refine hx (i.tok (s.toks+1)) (hJ i j t0) h λv w cD gA M1 s1 h1 i1 t1 r1=>?_;refine ih i1 (hJ i j (t0.trans t1)) h1 λvs nX l Z2 lE M2 s2 h2 i2 t2 l2 c2 k2=>?_;exact k (v::vs) _ (_::l) _ _ _ _ h2 i2 ((t0.trans t1).trans t2) (congrArg (· +1) l2) ⟨tZ _ _,rfl,c2⟩ ⟨_,w,l,rfl,rfl,r1.mono t2.grow,k2⟩
theorem EX{s:Shared}(i:Inv P Z φ M s)(o:Obj)(hf:o.isFreed=false):
  Inv P Z φ (λa=>M a\/a=s.heap.objs.size) {s with heap:=s.heap.push o}/\Step bI φ M s φ (λa=>M a\/a=s.heap.objs.size) {s with heap:=s.heap.push o}/\s.heap.objs.size∉φ.map (·.2):=by
 obtain⟨a,b⟩:=i.fresh (lo:=bI) (M':=λa=>M a\/a=s.heap.objs.size) (h':=s.heap.push o) (tk:=s.toks) (λY Y e=>ju _ e) (λY=>.inl) λa e=>e.imp_right λz=>by
  subst z;exact⟨bC,_,Heap.get?_push_size _ hf⟩
 exact⟨a,b,λq=>by obtain⟨o,e⟩:=i.iy _ q;rw[bC]at e;cases e⟩
noncomputable def Bm(d:Addr)(x:cT)(_:PUnit):Sem (ForInStep PUnit):=do
 let kv<-x.1;let vv<-holding [kv] x.2
 holding [kv,vv] (dictSet d kv vv)
 pure (ForInStep.yield PUnit.unit)
structure Made (P:PV) (J:JT) (d:Addr) (done:List String) (us:List V) (l:List (Str×Value)) (Z:H) (φ:fz) (M:Addr->Prop) (s:Shared):Prop where
 inv:Inv P Z φ M s
 j:J φ M s.heap
 m:M d
 sd:d∉φ.map (·.2)
 dict:s.heap.DictOf (strKind P.prog P.w) d l
 rel:bB P s.heap M φ ((done.map V.str).zip us) l
 len:done.length=us.length
theorem Made.size{l:List (Str×Value)}{s:Shared}(a:Made P J d done us l Z φ M s):l.length=done.length:=
 (List.length_map ..).symm.trans ((congrArg List.length (a.rel.keys a.len)).trans (List.length_map ..))
theorem Made.live{l:List (Str×Value)}{s:Shared}(a:Made P J d done us l Z φ M s):bV s.heap d:=a.dict.elim λo r=>r.elim λY r=>r.elim λY r=>⟨o,r.1⟩
theorem Made.step{l:List (Str×Value)}{s:Shared}(a:Made P J d done us l Z φ M s)(t:Step bI φ M s bF M' s')(i:Inv P Z' bF M' s')(j:J bF M' s'.heap):Made P J d done us l Z' bF M' s':=
 ⟨i,j,a.live.elim λo ho=>t.kM d o ho a.m a.sd,λq=>a.live.elim λo ho=>(t.new d q).elim a.sd (dw ho),a.dict.elim λo r=>r.elim λes r=>r.elim λep r=>⟨o,es,ep,t.keep d o r.1 λq=>q.2.elim a.sd λz=>z,r.2⟩,bB.mono t.grow _ a.rel,a.len⟩
theorem Made.fresh{l:List (Str×Value)}{s:Shared}(a:Made P J d done us l Z φ M s){x:String}(nd:(done++x::ss).Nodup)(hz:done.length+(ss.length+1)<=1000):Str.ofString x∉l.map (·.1)/\l.length<=sizeLine:=by
 have kl:=a.rel.keys a.len;refine⟨λq=>?_,?_⟩
 ·rw[kl]at q
  exact(List.mem_map.mp q).elim λb r=>(List.nodup_append.mp nd).2.2 _ r.1 x (List.mem_cons_self ..) (fH r.2)
 ·rw[a.size,sizeLine_eq]
  exact Nat.le_trans (Nat.le_trans (Nat.le_add_right ..) hz) (by decide)
theorem Made.put{l:List (Str×Value)}{s:Shared}(a:Made P J d done us l Z φ M s)(XT:∀{φ:fz} {M:Addr->Prop} {h h':Heap},M d->J φ M h->Heap.SameBut d h h'->J φ M h')
  {x:String}{v:V}{w:Value}(hs:Heap.SameBut d s.heap h')(D:h'.DictOf (strKind P.prog P.w) d (l++[(Str.ofString x,w)]))(r:aK P s.heap M φ v w):
  Made P J d (done++[x]) (us++[v]) (l++[(Str.ofString x,w)]) Z φ M {s with heap:=h',toks:=tk}/\Step (λa=>a=d) φ M s φ M {s with heap:=h',toks:=tk}:=by
 have lv:bV h' d:=D.elim λo r=>r.elim λY r=>r.elim λY r=>⟨o,r.1⟩;have t:Step (λa=>a=d) φ M s φ M {s with heap:=h',toks:=tk}:=Step.upd hs lv a.m (.inr rfl);refine⟨⟨a.inv.upd hs lv a.m a.sd,XT a.m a.j hs,a.m,a.sd,D,?_,by rw[List.length_append,List.length_append,a.len];rfl⟩,t⟩;rw[List.map_append,fB ((List.length_map ..).trans a.len)];exact bB.append (bB.mono t.grow _ a.rel) ⟨x,w,[],rfl,rfl,r.mono t.grow,rfl⟩
theorem JI(hJ:JH P J)(XT:∀{φ:fz} {M:Addr->Prop} {h h':Heap},M d->J φ M h->Heap.SameBut d h h'->J φ M h'){keys:List (Option Expr)}{xs:List X}(D:gQ (RD P J A env cf ρ) ss keys xs es):
  ∀{done:List String} {us:List V} {l:List (Str×Value)} {s:Shared} {φ:fz} {M:Addr->Prop} {Z:H} {Q:PUnit->Shared->Prop} {E:Value->Shared->Prop} {Q':List V->H->Prop},Made P J d done us l Z φ M s->(done++ss).Nodup->done.length+ss.length<=1000->fN cf P.gt xs ρ Q' Z->
  (∀vs l' Z' bF M' s',Q' vs Z'->Step (λa=>a=d) φ M s bF M' s'->vs.length=xs.length->Made P J d (done++ss) (us++vs) l' Z' bF M' s'->Q PUnit.unit s')->
  wpAny (model P.prog P.w) A (forIn (pairTrees keys es env pos) PUnit.unit (Bm d)) Q E s:=by
 induction D with
 |nil=>
  intro done us l s φ M Z Q E Q' a nd hz h k;show wpAny _ _ (forIn [] _ _) _ _ _;rw[List.forIn_nil];exact wq (k [] l _ _ _ _ h Step.refl rfl ((List.append_nil done).symm▸(List.append_nil us).symm▸a))
 | @cons cU c p x e ss keys xs es hx aR ih=>
  intro done us l s φ M Z Q E Q' a nd hz h k;show wpAny _ _ (forIn ((eval (.Constant (.str (Str.ofString cU)) c p) env,do let x<-eval e env;standAt pos;pure x)::pairTrees keys es env pos) _ _) _ _ _;rw[List.forIn_cons];have t0:Step bI φ M s φ M {s with toks:=s.toks+1}:=Step.refl.tok _;refine wb (wb (wpAny_Constant_str (k:=c) (pos:=p) (env:=env) (wb (wpAny_holding (wb (hx (a.inv.tok (s.toks+1)) (hJ a.inv a.j t0) h
   λv w cD gA M1 s1 h1 i1 t1 r1=>wb (wpAny_standAt (wq ?_))))))))
  have t1:=t0.trans t1;have a1:=a.step t1 i1 (hJ a.inv a.j t1);have fr:=a1.fresh nd hz;refine wb (wpAny_holding (wpAny_dictSet_pairs (k:=Str.ofString cU) (tZ _ _) a1.dict (λh' D2 hs=>wq ?_) fr.2));rw[oV fr.1]at D2;have a2:=a1.put (tk:=s1.toks+1) XT hs D2 r1;refine ih a2.1 ((List.append_assoc done [cU] ss).symm▸nd) ?_ h1 λvs l' kY Mz M3 s3 h3 t3 l3 a3=>?_
  ·rw[List.length_append,Nat.add_assoc,Nat.add_comm [cU].length];exact hz
  ·exact k (v::vs) l' _ _ _ _ h3 (((t1.weaken λY Y z=>z.elim).trans a2.2).trans t3) (congrArg (· +1) l3) (List.append_assoc done [cU] ss▸List.append_assoc us [v] vs▸a3)
end
structure Uv (P:PV) (J:JT) where
 own:Addr->Prop
 uo:JH P J
 live:∀{φ:fz} {M:Addr->Prop} {h:Heap},J φ M h->∀a,own a->bV h a
 upd:∀{φ:fz} {M:Addr->Prop} {h h':Heap} {d:Addr},¬ own d->M d->J φ M h->Heap.SameBut d h h'->J φ M h'
theorem Step.fresh{s:Shared}(hd:s.heap.get? d=none)(t:Step (λa=>a=d) φ M s bF M' s'):Step bI φ M s bF M' s':=
 t.weaken λa lv z=>lv.elim λo e=>aN (hd.symm.trans (z▸e))
section
variable {P:PV}{J:JT}{A:Around}{env:Env}{cf:CF}{ρ:List V}
theorem G6{s:Shared}(JO:Uv P J)(i:Inv P Z φ M s)(j:J φ M s.heap):
  ∃M1,Made P J s.heap.objs.size [] [] [] Z φ M1 {s with heap:=s.heap.push {cls:=.type "dict",data:=.dict #[]}}/\Step bI φ M s φ M1 {s with heap:=s.heap.push {cls:=.type "dict",data:=.dict #[]}}/\¬ JO.own s.heap.objs.size:=by
 have a:=EX i {cls:=.type "dict",data:=.dict #[]} rfl;exact⟨_,⟨a.1,JO.uo i j a.2.1,.inr rfl,a.2.2,Heap.DictOf.new _,rfl,rfl⟩,a.2.1,λq=>(JO.live j _ q).elim λo e=>aN (bC.symm.trans e)⟩
theorem lH(JO:Uv P J){keys:List (Option Expr)}{xs:List X}(D:gQ (RD P J A env cf ρ) ss keys xs es)(nd:ss.Nodup)(hz:ss.length<=1000)
  {s:Shared}{Q:Addr->Shared->Prop}{Q':List V->H->Prop}(i:Inv P Z φ M s)(j:J φ M s.heap)(h:fN cf P.gt xs ρ Q' Z)
  (k:∀d vs l Z' bF M' s',Q' vs Z'->Made P J d ss vs l Z' bF M' s'->Step bI φ M s bF M' s'->s.heap.get? d=none->Q d s'):wpAny (model P.prog P.w) A (subDict (pairTrees keys es env pos)) Q E s:=by
 refine(G6 JO i j).elim λM1 r=>?_;have a:=r.1;by_cases hs:ss.length<=15
 ·refine wpAny_subDict (knd:=strKind P.prog P.w) (by rw[D.len.2];exact hs) ?_
  refine G5 JO.uo D a.inv a.j h λvs nX l Z2 lE M2 s2 h2 i2 t2 l2 c2 k2=>?_;have a2:=a.step t2 i2 (JO.uo a.inv a.j t2);refine⟨l,c2,a2.dict,λh' D3 JJ=>?_⟩;have ln:=D.len.1.trans l2.symm;rw[merged_nil_of_nodup l (by rw[k2.keys ln];exact oX nd)]at D3;have U7:bV h' s.heap.objs.size:=D3.elim λo r=>r.elim λY r=>r.elim λY r=>⟨o,r.1⟩;have t3:Step (λa=>a=s.heap.objs.size) lE M2 s2 lE M2 {s2 with heap:=h',toks:=s2.toks+nX.length}:=Step.upd JJ U7 a2.m (.inr rfl);exact k _ vs l _ _ _ _ h2 ⟨i2.upd JJ U7 a2.m a2.sd,JO.upd r.2.2 a2.m a2.j JJ,a2.m,a2.sd,D3,bB.mono t3.grow _ k2,ln⟩ ((((r.2.1.trans t2).weaken λY Y z=>z.elim).trans t3).fresh bC) bC
 ·unfold subDict
  refine wb (wpAny_alloc ?_);refine wb (wpAny_holding ?_);rw[if_neg (by rw[D.len.2];exact hs)];refine wb (wpAny_rule ?_);exact wb (JI JO.uo (λm q hs=>JO.upd r.2.2 m q hs) D (done:=[]) (us:=[]) a nd ((Nat.zero_add ss.length).symm▸hz) h λvs l' Z2 lE M2 s2 h2 t2 l2 a2=>wq (wq (k _ vs l' _ _ _ _ h2 a2 (((r.2.1.weaken λY Y z=>z.elim).trans t2).fresh bC) bC)))
theorem xH(JO:Uv P J)(EY:¬ JO.own d){keys:List (Option Expr)}{xs:List X}(D:gQ (RD P J A env cf ρ) ss keys xs es)
  {l:List (Str×Value)}{s:Shared}{Q:Option Addr->Shared->Prop}{Q':List V->H->Prop}(a:Made P J d done us l Z φ M s)
  (nd:(done++ss).Nodup)(hz:done.length+ss.length<=1000)(h0:done≠[])(h:fN cf P.gt xs ρ Q' Z)
  (k:∀vs l' Z' bF M' s',Q' vs Z'->Made P J d (done++ss) (us++vs) l' Z' bF M' s'->Step (λa=>a=d) φ M s bF M' s'->Q (some d) s'):wpAny (model P.prog P.w) A (eE (pairTrees keys es env pos) (some d)) Q E s:=by
 unfold eE;by_cases he:(pairTrees keys es env pos).isEmpty=true
 ·rw[if_pos he]
  obtain⟨rfl,rfl⟩:=D.nil_of he;exact wq (k [] l _ _ _ _ h ((List.append_nil done).symm▸(List.append_nil us).symm▸a) Step.refl)
 ·rw[if_neg he]
  refine wb (wpAny_holding (lH JO D (List.nodup_append.mp nd).2.1 (Nat.le_trans (Nat.le_add_left ..) hz) a.inv a.j h λd2 vs l2 Z2 lE M2 s2 h2 b t2 nw=>?_));have a2:=a.step t2 b.inv b.j;have W4:(l.map (·.1)++l2.map (·.1)).Nodup:=by rw[a.rel.keys a.len,b.rel.keys b.len,<-List.map_append];exact oX nd
  refine wb (wpAny_onRaise (wpAny_holding (qR (λz=>a.live.elim λo ho=>aN (nw.symm.trans (z▸ho))) (by simpa using b.inv.tY b.m) a2.dict b.dict (λz=>h0 (List.length_eq_zero_iff.mp (by rw[<-a.size,z];rfl))) W4
   (by rw[a.size,b.size,sizeLine_eq];exact Nat.le_trans hz (by decide)) λh' D3 JJ=>wq ?_)))
  have U7:bV h' d:=D3.elim λo r=>r.elim λY r=>r.elim λY r=>⟨o,r.1⟩;have t3:Step (λa=>a=d) lE M2 s2 lE M2 {s2 with heap:=h'}:=Step.upd (tk:=s2.toks) JJ U7 a2.m (.inr rfl);refine k vs (l++l2) _ _ _ _ h2 ⟨b.inv.upd (tk:=s2.toks) JJ U7 a2.m a2.sd,JO.upd EY a2.m b.j JJ,a2.m,a2.sd,D3,?_,by rw[List.length_append,List.length_append,a.len,b.len]⟩ ((t2.weaken λY Y z=>z.elim).trans t3);rw[List.map_append,fB ((List.length_map ..).trans a.len)];exact bB.append (bB.mono t3.grow _ a2.rel) (bB.mono t3.grow _ b.rel)
theorem sF{ss:List α}{k:Nat}(hz:k+ss.length<=1000):k+(ss.take n).length<=1000/\(k+(ss.take n).length)+(ss.drop n).length<=1000:=by
 rw[Nat.add_assoc,<-List.length_append,List.take_append_drop];exact⟨Nat.le_trans (Nat.add_le_add_left (by rw[List.length_take];exact Nat.min_le_right ..) k) hz,hz⟩
theorem G7(JO:Uv P J)(EY:¬ JO.own d)(n:Nat):∀{ss:List String} {keys:List (Option Expr)} {xs:List X} {es:List Expr},gQ (RD P J A env cf ρ) ss keys xs es->
  ∀{done:List String} {us:List V} {l:List (Str×Value)} {s:Shared} {φ:fz} {M:Addr->Prop} {Z:H} {Q:Value->Shared->Prop} {E:Value->Shared->Prop} {Q':List V->H->Prop},Made P J d done us l Z φ M s->
  (done++ss).Nodup->done.length+ss.length<=1000->done≠[]->fN cf P.gt xs ρ Q' Z->
  (∀vs l' Z' bF M' s',Q' vs Z'->Made P J d (done++ss) (us++vs) l' Z' bF M' s'->Step (λa=>a=d) φ M s bF M' s'->Q (.ref d) s')->wpAny (model P.prog P.w) A (nF n (some d) (pairTrees keys es env pos)) Q E s:=by
 induction n with
 |zero=>exact λD Y Y Y Y Y Y Y Y Y Y a nd hz h0 h k=>wb (xH JO EY D a nd hz h0 h λvs l' Z' bF M' s' h' D' t'=>wq (k _ _ _ _ _ _ h' D' t'))
 |succ n ih=>
  intro ss keys xs es D done us l s φ M Z Q E Q' a nd hz h0 h k;have c:=D.cut 17;have e:=c.2.2 env pos;show wpAny _ _ (eE ((pairTrees keys es env pos).take 17) (some d) >>=λm=>nF n m ((pairTrees keys es env pos).drop 17)) _ _ _;rw[e.1,e.2];have hs:ss.take 17++ss.drop 17=ss:=List.take_append_drop 17 ss;rw[<-List.take_append_drop 17 xs,lF]at h;rw[<-hs,<-List.append_assoc]at nd;have z:=sF (n:=17) hz;refine wb (xH JO EY c.1 a (List.nodup_append.mp nd).1 z.1 h0 h λvs l' Z' bF M' s' h' D' t'=>?_);refine ih c.2.1 D' nd (by rw[List.length_append];exact z.2) (λq=>h0 (List.append_eq_nil_iff.mp q).1) h' λvs2 l2 Z2 lE M2 s2 h2 D2 t2=>?_;rw[List.append_assoc,List.append_assoc,hs]at D2;exact k _ _ _ _ _ _ h2 D2 (t'.trans t2)
theorem qT(JO:Uv P J){keys:List (Option Expr)}{xs:List X}(hk:eT zo ss keys)(hx:eT (RD P J A env cf ρ) xs es)(hl:ss.length=xs.length)(nd:ss.Nodup)(hz:ss.length<=1000)
  (h0:ss≠[]){s:Shared}{Q':List V->H->Prop}(i:Inv P Z φ M s)(j:J φ M s.heap)(h:fN cf P.gt xs ρ Q' Z)
  (k:∀d vs l Z' bF M' s',Q' vs Z'->Made P J d ss vs l Z' bF M' s'->Step bI φ M s bF M' s'->s.heap.get? d=none->Q (.ref d) s'):wpAny (model P.prog P.w) A (eval (.Dict keys es pos) env) Q E s:=by
 have D:=EW hk hx hl;have mw:∀{n:Nat} {ks:List (Option Expr)} {fs:List Expr},(pairTrees ks fs env pos).length=n->0<n->¬ (pairTrees ks fs env pos).isEmpty=true:=λe hn z=>by
  rw[List.isEmpty_iff.mp z]at e;exact Nat.ne_of_lt hn e
 rw[arm_eval_Dict,D.trees];refine wb (wpAny_standAt ?_);have dv:=D.len.2 env pos;refine(⟨_,rfl⟩:∃n,ss.length / 17=n).elim λn hn=>?_;have hm:=Nat.div_add_mod ss.length 17;rw[hn]at hm;rw[oW n _ (by rw[dv];exact Nat.le_trans (Nat.le_add_right ..) (Nat.le_of_eq hm)) (by rw[dv,<-hm,Nat.mul_add];exact Nat.add_lt_add_left (Nat.mod_lt _ (by decide)) _)];cases n with
 |zero=>
  show wpAny _ _ (jx none _) _ _ _;unfold jx eE;rw[if_neg (mw dv (List.length_pos_iff.mpr h0))];exact wb (wb (lH JO D nd hz i j h λd vs l Z' bF M' s' h' D' t' nw=>wq (wq (k _ _ _ _ _ _ _ h' D' t' nw))))
 |succ n=>
  have c:=D.cut 17;have e:=c.2.2 env pos;show wpAny _ _ (eE ((pairTrees keys es env pos).take 17) none >>=λm=>nF n m ((pairTrees keys es env pos).drop 17)) _ _ _;rw[e.1,e.2];have hs:ss.take 17++ss.drop 17=ss:=List.take_append_drop 17 ss;rw[<-List.take_append_drop 17 xs,lF]at h;have MA:=nd;rw[<-hs]at MA;have IM:(ss.take 17).length=17:=by
   rw[List.length_take];exact Nat.min_eq_left (Nat.le_trans (Nat.le_add_left 17 (17*n)) (Nat.le_trans (Nat.le_add_right ..) (Nat.le_of_eq hm)))
  have z:=sF (n:=17) (k:=0) (ss:=ss) ((Nat.zero_add ss.length).symm▸hz);unfold eE;rw[if_neg (mw ((c.1.len.2 env pos).trans IM) (by decide))];refine wb (wb (lH JO c.1 (List.nodup_append.mp MA).1 (by rw[IM];decide) i j h λd vs l Z' bF M' s' h' D' t' nw=>wq ?_));refine G7 JO (λq=>(JO.live j _ q).elim λo e=>aN (nw.symm.trans e)) n c.2.1 D' MA (Nat.zero_add (ss.take 17).length▸z.2) (λq=>nomatch (congrArg List.length q).symm.trans IM) h' λvs2 l2 Z2 lE M2 s2 h2 D2 t2=>?_;rw[hs]at D2;exact k _ _ _ _ _ _ _ h2 D2 (((t'.weaken λY Y z=>z.elim).trans t2).fresh nw) nw
end
section
variable {P:PV}{lo:Addr->Prop}{φ bF:fz}{M M':Addr->Prop}{s s':Shared}{Z:H}
theorem Step.drop(t:Step lo φ M s bF M' s')(hd:s.heap.get? d=none):Step lo φ M s bF (λa=>M' a/\a≠d) s':=
 ⟨t.same,t.live,t.keep,t.sd,t.new,λa e=>t.m a e.1,λa o e m n=>⟨t.kM a o e m n,λz=>by rw[z,hd]at e;cases e⟩⟩
theorem qq:d9 h M φ h (λa=>M a/\a≠d) φ:=⟨λY Y e Y=>e,λY Y Y e=>e.1,λY Y e=>e⟩
theorem Inv.drop(i:Inv P Z φ M s)(hd:d∉φ.map (·.2)):Inv P Z φ (λa=>M a/\a≠d) s:=
 ⟨i.sys,i.len,λn o c e q=>(i.cell n o c e q).mono qq (λob e=>e) λm=>⟨m,λz=>hd (z▸gP q)⟩,i.nodup,λa e=>i.lt a e.1,λa e=>i.base a e.1,i.iy,i.iL⟩
theorem xJ{c:Addr×Addr}:d9 h M φ h M (φ++[c]):=⟨λY Y e Y=>e,λY Y Y e=>e,λn c e=>by rw[List.getElem?_append_left (List.getElem?_eq_some_iff.mp e).1];exact e⟩
theorem Inv.adopt(i:Inv P Z φ M s){o:MO}(hd:d∉φ.map (·.2))(hm:M d)(new:fP P s.heap M (φ++[(d,d)]) o (d,d)):Inv P (Z++[o]) (φ++[(d,d)]) M s:=by
 refine⟨i.sys,by simp[i.len],λn o' c' e q=>?_,?_,i.lt,i.base,λa e=>?_,i.iL⟩
 ·by_cases hn:n<Z.length
  ·rw[List.getElem?_append_left hn]at e
   rw[List.getElem?_append_left (by rw[i.len];exact hn)]at q;exact(i.cell n o' c' e q).mono xJ (λob e=>e) λm=>m
  ·have hn:Z.length<=n:=Nat.le_of_not_lt hn
   rw[List.getElem?_append_right hn]at e;rw[List.getElem?_append_right (by rw[i.len];exact hn),i.len]at q;cases hz:n-Z.length with
   |zero=>rw[hz]at e q;simp at e q;subst e;subst q;exact new
   |succ m=>rw[hz]at e;simp at e
 ·rw[List.map_append,List.nodup_append]
  refine⟨i.nodup,by simp,λa ha b hb e=>?_⟩;simp at hb;exact hd (hb▸e▸ha)
 ·rw[List.map_append,List.mem_append]at e
  rcases e with e|e
  ·exact i.iy a e
  ·simp at e;exact e▸i.lt _ hm
theorem Step.adopt(t:Step lo φ M s bF M' s')(hd:s.heap.get? d=none):Step lo φ M s (bF++[(d,d)]) M' s':=
 ⟨t.same,t.live,t.keep,λn c e=>by have:=t.sd n c e;rw[List.getElem?_append_left (List.getElem?_eq_some_iff.mp this).1];exact this,λa e=>by
  rw[List.map_append,List.mem_append]at e;rcases e with e|e
  ·exact t.new a e
  ·simp at e;exact .inr (e▸hd),t.m,t.kM⟩
noncomputable def JK(P:PV)(sl:Slots)(env:Env)(ρ:List V):Uv P (λφ M h=>aY P φ M h sl env ρ) where
 own:=Own env
 uo:=λi j t=>j.bq i t
 live:=λj a h=>by
  rcases h with rfl|⟨n,h⟩
  ·obtain⟨m,hn,_⟩:=j.ns;exact Heap.Ns.live hn
  ·obtain⟨_,_,_,v,hc⟩:=j.cells n a h;exact Heap.IsCell.live hc
 upd:=λ{φ M h h' d} nd hm r hs=>by
  have g:d9 h M φ h' M φ:=⟨λa o e n=>(hs.2 a λz=>n (z▸hm)).trans e,λY Y Y e=>e,λY Y e=>e⟩;refine⟨r.kind,r.aA,r.blt,r.aa,λn c e=>?_,r.apart,r.inj,?_,λn j k1 k2=>?_⟩
  ·obtain⟨a,b,q,v,hc⟩:=r.cells n c e
   exact⟨a,b,q,v,hc.sameBut hs λz=>nd (.inr ⟨n,z▸e⟩)⟩
  ·obtain⟨m,hn,q⟩:=r.ns
   refine⟨m,hn.sameBut hs λz=>nd (.inl z.symm),λn j k1 k2 v k3 k4=>?_⟩;obtain⟨w,h1,h2⟩:=q n j k1 k2 v k3 k4;exact⟨w,h1,h2.mono g⟩
  ·obtain⟨c,h1,q⟩:=r.cl n j k1 k2
   refine⟨c,h1,λv k3 k4=>?_⟩;obtain⟨w,hc,h2⟩:=q v k3 k4;exact⟨w,hc.sameBut hs λz=>nd (.inr ⟨n,z▸h1⟩),h2.mono g⟩
end
section
variable {C:Cx}
theorem JL(room:kX A C.n)(nm:env.scope.names=C.nm):∀{xs:List X} {es:List Expr},eT (aW C) xs es->eT (RD C.P (λφ M h=>aY C.P φ M h C.sl env ρ) A env C.cf ρ) xs es
 |[],[],aR=>trivial
 |x::xs,e::es,h=>⟨λi j hw k=>h.1 room i j nm hw k,JL room nm h.2⟩
 |[],aR::dm,h=>h.elim
 |aR::dm,[],h=>h.elim
theorem Nr{keys:List (Option Expr)}{xs:List X}(hk:eT zo ss keys)(hx:eT (aW C) xs es)(hl:ss.length=xs.length)(nd:ss.Nodup)(hz:ss.length<=1000)(h0:ss≠[]):
  aW C (.nQ (ss.map V.str) xs) (.Dict keys es pos):=⟨λ{A env s φ M Z ρ Q E Q'} room i er nm h k=>by
 refine qT (JK C.P C.sl env ρ) hk (JL room nm hx) hl nd hz h0 i er h λd vs l Z' bF M' s' h' D t nw=>?_;exact k _ _ _ _ _ _ h' (D.inv.drop D.sd) (t.drop nw) ⟨d,l,rfl,λz=>z.2 rfl,D.inv.tY D.m,D.dict,bB.mono qq _ D.rel⟩⟩
theorem Nt{keys:List (Option Expr)}{xs:List X}(hk:eT zo ss keys)(hx:eT (aW C) xs es)(hl:ss.length=xs.length)(nd:ss.Nodup)(hz:ss.length<=1000)(h0:ss≠[]):
  aW C (.iZ (ss.map V.str) xs) (.Dict keys es pos):=⟨λ{A env s φ M Z ρ Q E Q'} room i er nm h k=>by
 refine qT (JK C.P C.sl env ρ) hk (JL room nm hx) hl nd hz h0 i er h λd vs l Z' bF M' s' h' D t nw=>?_;have i2:=D.inv.adopt (o:=.dict ((ss.map V.str).zip vs)) D.sd D.m ⟨rfl,D.m,.inl ⟨l,D.dict,bB.mono xJ _ D.rel⟩⟩;exact k _ _ _ _ _ _ h' i2 (t.adopt nw) ⟨(d,d),by rw[<-D.inv.len];simp,rfl⟩⟩
theorem JM:aW C (.iZ [] []) (.Dict [] [] pos):=⟨λ{A env s φ M Z ρ Q E Q'} room i er nm h k=>by
 refine wpAny_Dict_empty ?_;obtain⟨i1,t1,n1⟩:=EX i {cls:=.type "dict",data:=.dict #[]} rfl;have D:(s.heap.push {cls:=.type "dict",data:=.dict #[]}).DictOf (strKind C.P.prog C.P.w) s.heap.objs.size []:=Heap.DictOf.new _;have i2:=i1.adopt (o:=.dict []) n1 (.inr rfl) ⟨rfl,.inr rfl,.inl ⟨[],D,rfl⟩⟩;have h:Q' (.ref Z.length) (Z++[.dict []]):=h;exact k _ _ _ _ _ _ h i2 (t1.adopt bC) ⟨(s.heap.objs.size,s.heap.objs.size),by rw[<-i.len];simp,rfl⟩⟩
end
noncomputable def iA(ac:Bool)(nm:List (Str×NameKind))(sl:Slots)(j:Nat):Expr->Prop
 |.Name n aR=>sl.lookup n=some j/\(nm.lookup n=some .local\/(ac=true/\nm.lookup n=some .cell))
 |_=>False
noncomputable def iB(ac:Bool)(nm:List (Str×NameKind))(sl:Slots)(single:Bool)(ts:List Nat)(t:Expr):Prop:=match single with
 |true=>∃j,ts=[j]/\iA ac nm sl j t
 |false=>∃es k p,t=.Tuple es k p/\eT (iA ac nm sl) ts es
section
variable {P:PV}{A:Around}{E:Value->Shared->Prop}{lo:Addr->Prop}{φ bF:fz}{M M':Addr->Prop}{s s':Shared}{Z:H}{sl:Slots}{env:Env}{ρ:List V}{nm:List (Str×NameKind)}{ac:Bool}
theorem Bo{t:Expr}{v:V}{w:Value}{Q:Unit->Shared->Prop}(r:aY P φ M s.heap sl env ρ)(i:Inv P Z φ M s)(hn:env.scope.names=nm)(ok:iA ac nm sl j t)
  (hv:aK P s.heap M φ v w)(hl:lo env.locals)(MX:ac=true->∀n c,env.cells.lookup n=some c->lo c)
  (k:∀s',Step lo φ M s φ M s'->Inv P Z φ M s'->aY P φ M s'.heap sl env (ρ.set j v)->Q () s'):wpAny (model P.prog P.w) A (assign t env w) Q E s:=by
 rcases t<;>first|exact ok.elim|skip
 refine PySem.wpAny_assign_Name (jv r i ok.1 (by unfold Env.kindOf;rw[hn];exact ok.2.imp_right (·.2)) hv hl (λhk c hc=>?_) k);rcases ok.2 with q|q
 ·unfold Env.kindOf at hk;rw[hn,q]at hk;exact nomatch hk
 ·exact MX q.1 _ c hc
theorem xK(ok:iA ac nm sl j e):assignEach (e::es) env=(false,assign e env)::assignEach es env:=by
 rcases e<;>first|rfl|exact ok.elim
theorem G8(hn:env.scope.names=nm)(hl:lo env.locals)(MX:ac=true->∀n c,env.cells.lookup n=some c->lo c):∀{es:List Expr} {vs:List V} {ws:List Value} {ρ ρ':List V} {s:Shared} {Q:Unit->Shared->Prop},eT (iA ac nm sl) ts es->qc ρ ts vs=some ρ'->
  aY P φ M s.heap sl env ρ->Inv P Z φ M s->aM P s.heap M φ vs ws->(∀s',Step lo φ M s φ M s'->Inv P Z φ M s'->aY P φ M s'.heap sl env ρ'->Q () s')->
  wpAny (model P.prog P.w) A (assignInOrder ((assignEach es env).map (·.2)) ws) Q E s:=by
 induction ts with
 |nil=>
  intro es vs ws ρ ρ' s Q ok e r i q k;rcases es with _|_
  ·rcases vs with _|_
   ·rw[show ws=[] from q]
    exact wpAny_assignInOrder_none (k s Step.refl i (di e▸r))
   ·exact aN e
  ·exact ok.elim
 |cons j ts ih=>
  intro es vs ws ρ ρ' s Q ok e' r i q k;rcases es with _|⟨e,es⟩
  ·exact ok.elim
  ·rcases vs with _|⟨v,vs⟩
   ·exact aN e'
   ·obtain⟨w,ws,rfl,q1,q2⟩:=q
    rw[xK ok.1];refine wpAny_assignInOrder_more (Bo r i hn ok.1 q1 hl MX λs1 t1 i1 r1=>?_);exact ih ok.2 e' r1 i1 (aM.mono t1.grow _ q2) λs2 t2 i2 r2=>k s2 (t1.trans t2) i2 r2
theorem JN:∀{es:List Expr},eT (iA ac nm sl) ts es->(assignEach es env).length=ts.length/\(assignEach es env).findIdx? (·.1)=none:=by
 induction ts with
 |nil=>
  intro es ok;rcases es with _|_
  ·exact⟨rfl,rfl⟩
  ·exact ok.elim
 |cons j ts ih=>
  intro es ok;rcases es with _|⟨e,es⟩
  ·exact ok.elim
  ·obtain⟨a,b⟩:=ih ok.2
   rw[xK ok.1];exact⟨congrArg (· +1) a,by rw[List.findIdx?_cons,b];rfl⟩
theorem Dz:∀{vs:List V} {ρ ρ':List V},qc ρ ts vs=some ρ'->ts.length=vs.length:=by
 induction ts with
 |nil=>
  intro vs ρ ρ' h;rcases vs with _|_
  ·rfl
  ·exact aN h
 |cons j ts ih=>
  intro vs ρ ρ' h;rcases vs with _|⟨v,vs⟩
  ·exact aN h
  ·exact congrArg (· +1) (ih h)
theorem uq(hh:A.handled=none){t:Expr}{v:V}{w:Value}{Q:Unit->Shared->Prop}(r:aY P φ M s.heap sl env ρ)(i:Inv P Z φ M s)(hn:env.scope.names=nm)(ok:iB ac nm sl single ts t)
  (hb:s8 single ts ρ v=some ρ')(hv:aK P s.heap M φ v w)(hl:lo env.locals)(MX:ac=true->∀n c,env.cells.lookup n=some c->lo c)
  (k:∀s',Step lo φ M s φ M s'->Inv P Z φ M s'->aY P φ M s'.heap sl env ρ'->Q () s'):wpAny (model P.prog P.w) A (assign t env w) Q E s:=by
 rcases single with _|_
 ·obtain⟨es,nc,p,rfl,ok⟩:=ok
  refine f9 hb λvs ev hb=>?_;rw[tV ev]at hv;obtain⟨a,ws,rfl,nM,tt,q⟩:=hv;obtain⟨l1,l2⟩:=JN (env:=env) ok;refine wpAny_assign_Tuple hh tt (by rw[l1,Dz hb,q.size]) l2 λh' he=>?_;have hk:∀a o,s.heap.get? a=some o->h'.get? a=some o:=λa o e=>he a o (gb ⟨o,e⟩) e;obtain⟨i1,t1⟩:=i.more (lo:=lo) (tk:=s.toks) hk;have t0:Step bI φ M s φ M {s with heap:=h'}:=(i.more (lo:=bI) (tk:=s.toks) hk).2;exact G8 hn hl MX ok hb (r.bq i t0) i1 (aM.mono t1.grow _ q) λs2 t2 i2 r2=>k s2 (t1.trans t2) i2 r2
 ·obtain⟨j,rfl,ok⟩:=ok
  have hb:some (ρ.set j v)=some ρ':=hb;exact Bo r i hn ok hv hl MX λs' t i r=>k s' t i (di hb▸r)
theorem Inv.lI(i:Inv P Z φ M s)(hk:∀b o,b≠a->s.heap.get? b=some o->h'.get? b=some o)(hv:bV h' a)(ha:M a)(hn:a∉φ.map (·.2)):
  Inv P Z φ M {s with heap:=h',toks:=tk}/\d9 s.heap M φ h' M φ:=by
 have g:d9 s.heap M φ h' M φ:=⟨λb o e n=>hk b o (λz=>n (z▸ha)) e,λY Y Y e=>e,λY Y e=>e⟩;have lv:∀b,bV s.heap b->bV h' b:=λb q=>by
  by_cases z:b=a
  ·rw[z];exact hv
  ·obtain⟨o,e⟩:=q;exact⟨o,hk b o z e⟩
 exact⟨⟨i.sys,i.len,λn o c e q=>(i.cell n o c e q).mono g (λob e=>hk _ _ (λz=>hn (z▸gP q)) e) λm=>m,i.nodup,λb q=>lv b (i.lt b q),i.base,λb q=>lv b (i.iy b q),λb o e=>hk b o (λz=>dw e (z▸i.base a ha)) (i.iL b o e)⟩,g⟩
theorem Step.lI(t:Step lo φ M s bF M' s')(hk:∀b o,b≠a->s'.heap.get? b=some o->h'.get? b=some o)(hv:bV h' a)(hl:s.heap.get? a=none):Step lo φ M s bF M' {s' with heap:=h',toks:=tk}:=by
 have ne:∀b o,s.heap.get? b=some o->b≠a:=λb o e z=>by rw[z,hl]at e;cases e
 obtain⟨h1,t1,e1⟩:=t.same;refine⟨⟨h',tk,by rw[e1]⟩,λb o e=>?_,λb o e n=>hk b o (ne b o e) (t.keep b o e n),t.sd,t.new,t.m,t.kM⟩;obtain⟨o',e'⟩:=t.live b o e;exact⟨o',hk b o' (ne b o e) e'⟩
theorem aY.lI(r:aY P φ M s.heap sl env ρ)(hk:∀b o,b≠a->s.heap.get? b=some o->h'.get? b=some o)(hm:M a)(hd:¬ Own env a):aY P φ M h' sl env ρ:=by
 have g:d9 s.heap M φ h' M φ:=⟨λb o e n=>hk b o (λz=>n (z▸hm)) e,λY Y Y e=>e,λY Y e=>e⟩;exact r.move g (λY Y a b=>⟨a,b⟩) λb o q Y Y e=>hk b o (λz=>hd (z▸q)) e
theorem Inv.gone(i:Inv P Z φ M s)(hm:M d)(hd:d∉φ.map (·.2))(hk:∀b o,b≠d->s.heap.get? b=some o->h'.get? b=some o):
  Inv P Z φ (λa=>M a/\a≠d) {s with heap:=h',toks:=tk}/\d9 s.heap M φ h' (λa=>M a/\a≠d) φ:=by
 have g:d9 s.heap M φ h' (λa=>M a/\a≠d) φ:=⟨λa o e n=>hk a o (λz=>n (z▸hm)) e,λY Y Y e=>e.1,λY Y e=>e⟩;refine⟨⟨i.sys,i.len,λn o c e q=>(i.cell n o c e q).mono g (λob e=>hk _ _ (λz=>hd (z▸gP q)) e) λm=>⟨m,λz=>hd (z▸gP q)⟩,i.nodup,λa e=>?_,λa e=>i.base a e.1,λa e=>?_,λa o e=>?_⟩,g⟩
 ·obtain⟨o,h⟩:=i.lt a e.1;exact⟨o,hk a o e.2 h⟩
 ·obtain⟨o,h⟩:=i.iy a e;exact⟨o,hk a o (λz=>hd (z▸e)) h⟩
 ·exact hk a o (λz=>by have:=i.base d hm;rw[<-z,e]at this;cases this) (i.iL a o e)
theorem Step.gone(t:Step lo φ M s bF M' s')(hd:s.heap.get? d=none)(hk:∀b o,b≠d->s'.heap.get? b=some o->h'.get? b=some o):
  Step lo φ M s bF (λa=>M' a/\a≠d) {s' with heap:=h',toks:=tk}:=by
 have ne:∀a o,s.heap.get? a=some o->a≠d:=λa o e z=>by rw[z,hd]at e;cases e
 obtain⟨h1,t1,e1⟩:=t.same;refine⟨⟨h',tk,by rw[e1]⟩,λa o e=>?_,λa o e n=>hk a o (ne a o e) (t.keep a o e n),t.sd,t.new,λa e=>t.m a e.1,λa o e m n=>⟨t.kM a o e m n,ne a o e⟩⟩;obtain⟨o',e'⟩:=t.live a o e;exact⟨o',hk a o' (ne a o e) e'⟩
theorem aY.gone(r:aY P φ M s.heap sl env ρ)(hm:M d)(hd:¬ Own env d)(hk:∀b o,b≠d->s.heap.get? b=some o->h'.get? b=some o):
  aY P φ (λa=>M a/\a≠d) h' sl env ρ:=by
 have g:d9 s.heap M φ h' (λa=>M a/\a≠d) φ:=⟨λa o e n=>hk a o (λz=>n (z▸hm)) e,λY Y Y e=>e.1,λY Y e=>e⟩;exact r.move g (λb q a e=>⟨⟨a,λz=>hd (z▸q)⟩,e⟩) λb o q Y Y e=>hk b o (λz=>hd (z▸q)) e
end
theorem lJ{w:World}{s:Shared}{target:Expr}{it acc:Value}(I:Nat->Shared->Prop)
  (turn:∀n s,I n s->wpAny (model prog w) A (pyNext it) (λr aQ=>match r with
   |none=>R (.ok .next) aQ
   |some v=>wpAny (model prog w) A (letOwnedTupleGo target it v) (λY PX=>wpAny (model prog w) A (assign target env v) (λY fQ=>
     wpAny (model prog w) A (forIn ifs true λc r=>if r=true then do let ok<-isTrue c env (eval c env);pure (ForInStep.yield ok) else pure (ForInStep.yield r)) (λok wU=>
      if ok=true then wpAny (model prog w) A (eval elt env) (λx Nu=>
       wpAny (model prog w) A (call (.builtin "list.append") [acc,x]) (λY Nv=>∃m,m<n/\I m Nv) (notedBy (model prog w) A env λe s'=>R (.error e) s') Nu) (notedBy (model prog w) A env λe s'=>R (.error e) s') wU
      else ∃m,m<n/\I m wU) (notedBy (model prog w) A env λe s'=>R (.error e) s') fQ) (notedBy (model prog w) A env λe s'=>R (.error e) s') PX) (notedBy (model prog w) A env λe s'=>R (.error e) s') aQ)
    (notedBy (model prog w) A env λe s'=>R (.error e) s') s)
  (n:Nat)(h:I n s):
  codeAny (model prog w) A (.compLoop (.ListComp elt [⟨target,iter,ifs,0⟩] scope pos) 0 it acc env) R s:=by
 refine codeAny_loop rfl I (λn s hI=>?_) n h;show wpAny _ A ((compTurn (.ListComp elt [⟨target,iter,ifs,0⟩] scope pos) 0 it acc env).onRaise (λx=>do noteFrame x env;theTreesLotGoes x)) _ _ s;refine wpAny_noted ?_;rw[compTurn_list];refine wb (wpAny_standAt (wb (wpAny_mono (turn n s hI) (λr aQ eY=>?_) λY Y h'=>h')));induction r with
 |none=>exact wq eY
 |some v=>
  refine wb (wpAny_mono eY (λY PX U8=>?_) λY Y h'=>h');refine wb (wpAny_mono U8 (λY fQ Rp=>wb (wpAny_mono Rp (λok wU Nj=>?_) λY Y h'=>h')) λY Y h'=>h');induction ok with
  |false=>exact wq ⟨rfl,Nj⟩
  |true=>
   exact wb (wb (wpAny_mono Nj (λx Nu XU=>wb (wpAny_mono XU (λY Nv XW=>wq (wq ⟨rfl,XW⟩)) λY Y h'=>h')) λY Y h'=>h'))
noncomputable def JP(C:Cx)(c:Option X)(ifs:List Expr):Prop:=match c with
 |none=>ifs=[]
 |some x=>∃e,ifs=[e]/\oU C x e
section
variable {C:Cx}
structure lK (C:Cx) (iM:Env) (I D:Addr) (St:Nat->Heap->Prop) (aQ:Shared) (cR:fz) (eO:Addr->Prop) (j:Nat) (acc:List V) (ρ:List V) (Z:H) (φ:fz) (M:Addr->Prop) (s:Shared):Prop where
 inv:Inv C.P Z φ M s
 step:Step (λa=>aQ.heap.get? a=none) cR eO aQ φ M s
 mI:M I
 nI:I∉φ.map (·.2)
 mD:M D
 nD:D∉φ.map (·.2)
 st:St j s.heap
 pl:∃ys,s.heap.PlainList D ys/\aM C.P s.heap M φ acc ys.toList
 er:aY C.P φ M s.heap C.sl iM ρ
 len:acc.length<=j
theorem Bp{s:Shared}(i:Inv P Z φ M s)(t:Step bI φ M s bF M' s')(hm:M a)(hn:a∉φ.map (·.2)):M' a/\a∉bF.map (·.2)/\∀o,s.heap.get? a=some o->s'.heap.get? a=some o:=by
 obtain⟨o,e⟩:=i.lt a hm;exact⟨t.kM a o e hm hn,λq=>(t.new a q).elim hn (dw e),λo e=>t.keep a o e λq=>q.2.elim hn λz=>z⟩
theorem lK.go{acc:List V}{s:Shared}{w:World}
  (W:Walks prog w A I fp [I] n Pn St)(JQ:∀b∈fp,b≠I->bV aQ.heap b/\¬ eO b)(X:lK C iM I D St aQ cR eO j acc ρ Z φ M s)(i':Inv C.P Z' bF M' s')(t:Step bI φ M s bF M' s'):
  lK C iM I D St aQ cR eO j acc ρ Z' bF M' s':=by
 obtain⟨a1,a2,a3⟩:=Bp X.inv t X.mI X.nI;obtain⟨b1,b2,b3⟩:=Bp X.inv t X.mD X.nD;refine⟨i',X.step.trans (t.weaken λY Y z=>z.elim),a1,a2,b1,b2,W.frame _ _ _ X.st λb hb o e=>?_,?_,X.er.bq X.inv t,X.len⟩
 ·by_cases z:b=I
  ·subst z;exact a3 o e
  ·obtain⟨⟨o',e'⟩,nm⟩:=JQ b hb z
   exact t.keep b o e λq=>nm ((X.step.m b q.1).resolve_right (dw e'))
 ·obtain⟨ys,⟨m,e⟩,q⟩:=X.pl
  exact⟨ys,⟨m,b3 _ e⟩,aM.mono t.grow _ q⟩
noncomputable def EZ(C:Cx)(iM:Env)(I D:Addr)(St:Nat->Heap->Prop)(aQ:Shared)(cR:fz)(eO:Addr->Prop)(x:X)(c:Option X)(single:Bool)(ts:List Nat)(vs:List V)(Q':V->H->Prop)(n:Nat)(s:Shared):Prop:=∃j acc ρ Z φ M,j+n=vs.length/\lK C iM I D St aQ cR eO j acc ρ Z φ M s/\
   iP (λρ Q Z=>b8 C.cf C.P.gt x ρ Q Z) (λρ Q Z=>Mx C.cf C.P.gt c ρ Q Z) c.isSome single ts ρ (vs.drop j) (λys Z=>Q' (.aC (acc++ys)) Z) Z
theorem G9(room:kX A C.n)(hn:iM.scope.names=C.nm){x:X}{target:Expr}{c:Option X}
  (W:Walks C.P.prog C.P.w A I fp [I] vs.length Pn St)(hx:aW C x elt)(hc:JP C c ifs)(ht:iB false C.nm C.sl single ts target)(RE:∀i h,St i h->zh h I)
  (hP:∀j v w zj Ra Dq,d9 aQ.heap eO cR zj Ra Dq->vs[j]?=some v->Pn j w->aK C.P zj Ra Dq v w)(JQ:∀b∈fp,b≠I->bV aQ.heap b/\¬ eO b)(hz:vs.length<lim)
  (ZH:aQ.heap.get? I=none)(PY:aQ.heap.get? D=none)(hL1:aQ.heap.get? iM.locals=none)(Uw:I≠D)(XX:¬ Own iM I)(ZI:¬ Own iM D)(hDf:D∉fp)(hLf:iM.locals∉fp)
  {s:Shared}(X0:lK C iM I D St aQ cR eO 0 [] ρ Z φ M s)
  (h:iP (λρ Q Z=>b8 C.cf C.P.gt x ρ Q Z) (λρ Q Z=>Mx C.cf C.P.gt c ρ Q Z) c.isSome single ts ρ vs (λys Z=>Q' (.aC ys) Z) Z)
  (k:∀acc ρ' Z' bF M' s',Q' (.aC acc) Z'->Inv C.P Z' bF M' s'->Step (λa=>aQ.heap.get? a=none) cR eO aQ bF M' s'->M' D->D∉bF.map (·.2)->aY C.P bF M' s'.heap C.sl iM ρ'->(∃ys,s'.heap.PlainList D ys/\aM C.P s'.heap M' bF acc ys.toList)->R (.ok .next) s'):
  codeAny (model C.P.prog C.P.w) A (.compLoop (.ListComp elt [⟨target,iter,ifs,0⟩] scope pos) 0 (.ref I) (.ref D) iM) R s:=by
 refine lJ (EZ C iM I D St aQ cR eO x c single ts vs Q') ?_ vs.length ⟨0,[],ρ,Z,φ,M,by simp,X0,by simpa using h⟩;rintro n s ⟨j,acc,ρ,Z,φ,M,hj,X,hw⟩;by_cases qS:j<vs.length
 ·refine W.item j s _ _ qS X.st λv h' tk hv PZ hk=>?_
  have zp:∀b o,b≠I->s.heap.get? b=some o->h'.get? b=some o:=λb o hb e=>hk b o (by simpa using hb) e;have ia:=RE _ _ PZ;have Ux:bV h' I:=ia.elim λo x=>x.elim λY x=>x.elim λY x=>⟨o,x.1⟩;obtain⟨i1,g1⟩:=X.inv.lI (tk:=tk) zp Ux X.mI X.nI;have t1:=X.step.lI (tk:=tk) zp Ux ZH;have Ay:=X.er.lI zp X.mI XX;refine uc ia ?_;obtain⟨u,hu⟩:∃u,vs[j]?=some u:=⟨vs[j],List.getElem?_eq_getElem qS⟩;have hr:aK C.P h' M φ u v:=hP j u v _ _ _ (Step.grow t1) hu hv;have hd:vs.drop j=u::vs.drop (j+1):=by
   rw[List.drop_eq_getElem_cons qS];congr 1;have:=List.getElem?_eq_getElem qS;rw[this]at hu;cases hu;rfl
  rw[hd]at hw;unfold iP at hw;obtain⟨IP,hb,hw⟩:=aL hw;refine uq (lo:=λa=>a=iM.locals) room.1 Ay i1 hn ht hb hr rfl (λz=>by cases z) λs2 t2 i2 Bq=>?_;have hI2:∀o,h'.get? I=some o->s2.heap.get? I=some o:=λo e=>t2.keep I o e λq=>q.2.elim X.nI λz=>XX (.inl z);have X2:lK C iM I D St aQ cR eO (j+1) acc IP Z φ M s2:=by
   refine⟨i2,t1.trans (t2.weaken λa Y z=>by rw[z];exact hL1),X.mI,X.nI,X.mD,X.nD,W.frame _ _ _ PZ λb hb o e=>?_,?_,Bq,Nat.le_succ_of_le X.len⟩
   ·by_cases z:b=I
    ·rw[z]at e ⊢;exact hI2 o e
    ·obtain⟨⟨o',e'⟩,nm⟩:=JQ b hb z
     exact t2.keep b o e λq=>nm ((X.step.m b q.1).resolve_right (dw e'))
   ·obtain⟨ys,⟨m,e⟩,q⟩:=X.pl
    exact⟨ys,⟨m,t2.keep D _ (zp D _ (Ne.symm Uw) e) λq=>q.2.elim X.nD λz=>ZI (.inl z)⟩,aM.mono t2.grow _ (aM.mono g1 _ q)⟩
  have ZJ:1<=n:=Nat.pos_of_ne_zero λz=>absurd (show j=vs.length by rw[<-hj,z];rfl) (Nat.ne_of_lt qS);have next:∀{RG:List V} {Z2:H} {lE:fz} {M2:Addr->Prop} {s3:Shared},lK C iM I D St aQ cR eO (j+1) RG IP Z2 lE M2 s3->
    iP (λρ Q Z=>b8 C.cf C.P.gt x ρ Q Z) (λρ Q Z=>Mx C.cf C.P.gt c ρ Q Z) c.isSome single ts IP (vs.drop (j+1)) (λys Z=>Q' (.aC (RG++ys)) Z) Z2->
    ∃m,m<n/\EZ C iM I D St aQ cR eO x c single ts vs Q' m s3:=λYy q=>
   ⟨n-1,Nat.sub_lt ZJ Nat.one_pos,by unfold EZ;exact⟨j+1,_,_,_,_,_,((Nat.add_right_comm j 1 (n-1)).trans (congrArg (j+·) (Nat.sub_add_cancel ZJ))).trans hj,Yy,q⟩⟩
  have put:∀{Z2:H} {lE:fz} {M2:Addr->Prop} {s3:Shared} {E:Value->Shared->Prop},lK C iM I D St aQ cR eO (j+1) acc IP Z2 lE M2 s3->
    b8 C.cf C.P.gt x IP (λy Z=>iP (λρ Q Z=>b8 C.cf C.P.gt x ρ Q Z) (λρ Q Z=>Mx C.cf C.P.gt c ρ Q Z) c.isSome single ts IP (vs.drop (j+1)) (λys Z=>Q' (.aC (acc++y::ys)) Z) Z) Z2->
    wpAny (model C.P.prog C.P.w) A (eval elt iM) (λx' Nu=>wpAny (model C.P.prog C.P.w) A (call (.builtin "list.append") [.ref D,x']) (λY Nv=>∃m,m<n/\EZ C iM I D St aQ cR eO x c single ts vs Q' m Nv) E Nu) E s3:=λ{Z2 lE M2 s3 E} Yy q=>by
   refine hx room Yy.inv Yy.er hn q λy wy PR φ4 M4 s4 h4 i4 t4 r4=>?_;have Y4:=Yy.go W JQ i4 t4;obtain⟨ys,pl,qs⟩:=Y4.pl;have hsz:ys.size=acc.length:=by have:=qs.length;simpa using this.symm
   refine wpAny_list_append_plain pl (λh5 ZK hs5=>?_) (by rw[hsz];have:=Y4.len;exact Nat.le_trans (by lia) (fh hz));have W6:∀b o,b≠D->s4.heap.get? b=some o->h5.get? b=some o:=λb o hb e=>(hs5.2 b hb).trans e;have ZL:bV h5 D:=ZK.elim λY e=>⟨_,e⟩;obtain⟨i5,g5⟩:=Y4.inv.lI (tk:=s4.toks) W6 ZL Y4.mD Y4.nD;refine next (RG:=acc++[y]) (Z2:=PR) (lE:=φ4) (M2:=M4) ⟨i5,Y4.step.lI (tk:=s4.toks) W6 ZL PY,Y4.mI,Y4.nI,Y4.mD,Y4.nD,W.frame _ _ _ Y4.st λb hb o e=>W6 b o (λz=>hDf (z▸hb)) e,⟨_,ZK,?_⟩,Y4.er.lI W6 Y4.mD ZI,by have:=X.len;simp;lia⟩ ?_
   ·rw[Array.toList_push]
    exact(aM.mono g5 _ qs).append ⟨wy,[],rfl,r4.mono g5,rfl⟩
   ·simpa using h4
  induction c with
  |none=>
   have hc:ifs=[]:=hc;subst hc;refine wpAny_tests_nil ?_;rw[if_pos rfl];simp only[Option.isSome_none,Bool.false_eq_true,if_false]at hw;exact put X2 hw
  |some cx=>
   obtain⟨e,rfl,hc⟩:=hc;simp only[Option.isSome_some,if_true,Mx]at hw;refine wpAny_tests_one (hc room X2.inv X2.er hn hw λb kY Mz M3 s3 h3 i3 t3=>?_);have X3:=X2.go W JQ i3 t3;induction b with
   |true=>exact put X3 h3
   |false=>exact next X3 h3
 ·have XY:j=vs.length:=Nat.le_antisymm (hj▸Nat.le_add_right j n) (Nat.le_of_not_lt qS)
  subst XY;refine W.done s _ _ X.st λh' tk hk=>?_;have zp:∀b o,b≠I->s.heap.get? b=some o->h'.get? b=some o:=λb o hb e=>hk b o (by simpa using hb) e;rw[List.drop_length]at hw;unfold iP at hw;obtain⟨i1,g1⟩:=X.inv.gone (tk:=tk) X.mI X.nI zp;refine cps λG g=>?_;obtain⟨ys,⟨m,e⟩,q⟩:=X.pl;refine g ?_;exact k acc ρ Z φ _ _ (by simpa using hw) i1 (X.step.gone ZH zp) ⟨X.mD,λz=>Uw z.symm⟩ X.nD (X.er.gone X.mI XX zp) ⟨ys,⟨m,zp D _ (Ne.symm Uw) e⟩,aM.mono g1 _ q⟩
end
noncomputable def zq(names outer:List (Str×NameKind)):List (Str×NameKind):=names.map λ(n,k)=>if (k==.free&&outer.lookup n==some .cell) then(n,.cell) else(n,k)
theorem wV(hk:env.scope.kind=.function):(relabel scope env).names=zq scope.names env.scope.names:=by
 unfold relabel zq;dsimp only;refine List.map_congr_left λp Y=>?_;obtain⟨n,k⟩:=p;show(if (k==NameKind.free&&env.scope.kind==.function&&env.kindOf n==some .cell)=true then _ else _)=_;rw[hk];simp only[beq_self_eq_true,Bool.and_true];rfl
theorem zu:∀{ts:List Nat} {ρ:List V} {i:Nat},(i∈ts->∀v,(QW ts ρ)[i]?=some v->v=.ah)/\(i∉ts->(QW ts ρ)[i]?=ρ[i]?)
 |[],ρ,i=>⟨(λh=>absurd h (by simp)),(λY=>rfl)⟩
 |t::ts,ρ,i=>by
  obtain⟨a,b⟩:=zu (ts:=ts) (ρ:=ρ.set t .ah) (i:=i);refine⟨λh v e=>?_,λh=>?_⟩
  ·by_cases hi:i∈ts
   ·exact a hi v e
   ·have ht:i=t:=(List.mem_cons.mp h).resolve_right hi
    have e:(QW ts (ρ.set t .ah))[i]?=some v:=e;rw[b hi,ht,List.getElem?_set]at e;simp only[if_true]at e
    split at e<;>cases e
    rfl
  ·have h:i≠t/\i∉ts:=⟨λz=>h (by simp[z]),λz=>h (by simp[z])⟩
   show(QW ts (ρ.set t .ah))[i]?=_;rw[b h.2,List.getElem?_set];simp[Ne.symm h.1]
theorem nY:∀(names:List (Str×NameKind)) (acc:List (Str×Addr)),(∀n,(n,NameKind.free)∈names->∃c,env.cells.lookup n=some c)->(∀p∈acc,env.cells.lookup p.1=some p.2)->
  ∃cl,(forIn names acc λ(p:Str×NameKind) cs=>(if (p.2==NameKind.free)=true then do let a<-cellOf env p.1;pure (ForInStep.yield ((p.1,a)::cs)) else pure (ForInStep.yield cs):Sem (ForInStep (List (Str×Addr)))))=pure cl/\
   (∀p∈cl,env.cells.lookup p.1=some p.2)/\(∀p∈acc,p∈cl)/\∀n,(n,NameKind.free)∈names->∃c,(n,c)∈cl
 |[],acc,aR,h=>⟨acc,by rw[List.forIn_nil],h,λY m=>m,λY m=>nomatch m⟩
 |(n,kd)::r,acc,hf,h=>by
  have hr:∀n,(n,NameKind.free)∈r->∃c,env.cells.lookup n=some c:=λn m=>hf n (List.mem_cons_of_mem _ m);rw[List.forIn_cons];by_cases hk:kd=.free
  ·subst hk
   obtain⟨c,hc⟩:=hf n List.mem_cons_self;have e:cellOf env n=pure c:=by unfold cellOf;rw[hc]
   obtain⟨cl,e1,h1,h2,h3⟩:=nY r ((n,c)::acc) hr (λp m=>by
    rcases List.mem_cons.mp m with rfl|m
    ·exact hc
    ·exact h p m)
   refine⟨cl,?_,h1,λp m=>h2 p (List.mem_cons_of_mem _ m),λn' m=>?_⟩
   ·dsimp only
    rw[show(NameKind.free==NameKind.free)=true from rfl,if_pos rfl,e];exact e1
   ·rcases List.mem_cons.mp m with q|m
    ·cases q;exact⟨c,h2 _ List.mem_cons_self⟩
    ·exact h3 n' m
  ·have zp:(kd==NameKind.free)=false:=by simpa using hk
   obtain⟨cl,e1,h1,h2,h3⟩:=nY r acc hr h;refine⟨cl,?_,h1,h2,λn' m=>?_⟩
   ·dsimp only
    rw[zp];exact e1
   ·rcases List.mem_cons.mp m with q|m
    ·cases q;exact absurd rfl hk
    ·exact h3 n' m
set_option tactic.hygienic true in
theorem wW(hf:∀n,(n,NameKind.free)∈scope.names->∃c,env.cells.lookup n=some c):
  ∃cl,closureFor scope env=pure cl/\(∀n c,cl.lookup n=some c->env.cells.lookup n=some c)/\∀n,(n,NameKind.free)∈scope.names->∃c,cl.lookup n=some c:=by
 obtain⟨cl,e,h1,_,h3⟩:=nY (env:=env) scope.names [] hf (λY m=>nomatch m);refine⟨cl,?_,λn c hl=>h1 (n,c) (mem_of_lookup hl),λn m=>?_⟩
 ·unfold closureFor
  have:(forIn scope.names ([]:List (Str×Addr)) λ(x:Str×NameKind) (cs:List (Str×Addr))=>(match x with
   |(name,kind)=>if (kind==NameKind.free)=true then do let a<-cellOf env name;pure (ForInStep.yield ((name,a)::cs)) else pure (ForInStep.yield cs):Sem (ForInStep (List (Str×Addr)))))=pure cl:=e
  show(forIn scope.names ([]:List (Str×Addr)) _ >>=λcs=>pure cs)=_;rw[bind_pure];exact this
 ·obtain⟨c,hc⟩:=h3 n m
  cases hl:cl.lookup n with
  |some c=>exact⟨c,rfl⟩
  |none=>
   exfalso
   have:∀(l:List (Str×Addr)),l.lookup n=none->(n,c)∉l:=λl=>by
    induction l with
    |nil=>intro _ m;cases m
    |cons p r ih=>
     intro h m;rw[List.lookup_cons]at h
     split at h
     ·cases h
     ·rename_i hb
      rcases List.mem_cons.mp m with q|m
      ·subst q;simp at hb
      ·exact ih h m
   exact this cl hl hc
structure zv (C C':Cx) (scope:Scope) (ts:List Nat):Prop where
 P:C'.P=C.P
 cf:C'.cf=C.cf
 n:C'.n=C.n
 nm:C'.nm=zq scope.names C.nm
 kind:scope.kind=.function
 RH:∀y∈scope.names,y.2≠.cell
 names:∀y∈scope.names,y.2=.local->scope.names.lookup y.1=some .local
 free:∀n,(n,NameKind.free)∈scope.names->C.nm.lookup n=some .cell/\∃i,C.sl.lookup n=some i
 inj:∀n n' i,C'.sl.lookup n=some i->C'.sl.lookup n'=some i->n=n'
 aa:∀n i,C'.nm.lookup n=some .local->C'.sl.lookup n=some i->i∈ts
 cel:∀n i,C'.nm.lookup n=some .cell->C'.sl.lookup n=some i->(n,NameKind.free)∈scope.names/\C.sl.lookup n=some i/\i∉ts
noncomputable def U9(P:PV)(A:Around)(E:Value->Shared->Prop)(use:Option (Value->Sem Unit))(Q:Value->Shared->Prop)(w:Value)(Cc:Addr)(s':Shared):Prop:=match use with
 |none=>∃m,s'.heap.Ns Cc m/\∀h',Heap.SameBut Cc s'.heap h'->Q w {s' with heap:=h'}
 |some u=>wpAny (model P.prog P.w) A (u w) (λY P1=>∃m,P1.heap.Ns Cc m/\∀h',Heap.SameBut Cc P1.heap h'->Q .none {P1 with heap:=h'}) E s'
noncomputable def qt(e:Expr):Bool:= !(e.ctorIdx==7)
theorem Br{C:Cx}{s:Shared}{x:X}{c:Option X}{target:Expr}{XZ:Pos}
  {use:Option (Value->Sem Unit)}(O:zv C C' scope ts)(P4:aW C ix iter)(hx:aW C' x elt)(hc:JP C' c ifs)(ht:iB false C'.nm C'.sl single ts target)(Bs:qt iter=true)
  (room:kX A C.n)(i:Inv C.P Z φ M s)(er:aY C.P φ M s.heap C.sl env ρ)(W7:env.scope.names=C.nm)(h:b8 C.cf C.P.gt (.comp x single ts ix c) ρ Q' Z)
  (k:∀acc w Cc Z' bF M' s',Q' (.aC acc) Z'->Inv C.P Z' bF M' s'->Step bI φ M s bF M' s'->aK C.P s'.heap M' bF (.aC acc) w->M' Cc->Cc∉bF.map (·.2)->s.heap.get? Cc=none->(∃m,s'.heap.Ns Cc m)->U9 C.P A E use Q w Cc s'):
  wpAny (model C.P.prog C.P.w) A (comprehension (.ListComp elt [⟨target,iter,ifs,0⟩] scope pos) scope env XZ (newList []) false (eval iter env) use) Q E s:=by
 obtain⟨cl,Va,Vb,cl2⟩:=wW (scope:=scope) (env:=env) λn m=>by
  obtain⟨h1,j,h2⟩:=O.free n m;obtain⟨cc,h3,_⟩:=er.cl n j (by unfold Env.kindOf;rw[W7];exact h1) h2;exact⟨cc,h3⟩
 refine wpAny_comprehension_free rfl (λv=>by unfold foldedSetIterable;cases iter<;>first|rfl|cases Bs) Va O.kind O.names ?_;refine P4 room i er W7 h λit w1 cD gA M1 s1 h1 i1 t1 r1=>?_;obtain⟨vs,hv,h1⟩:=aL h1
 split at h1
 case isFalse=>exact h1.elim
 case isTrue hlen=>
 refine Bc room.1 hv r1 λI fp Pn St h' W hI JQ PZ RE W8 hP=>?_;have Ay:=er.bq i t1;have Vc:bV h' I:=by obtain⟨o,_,_,e,_⟩:=RE _ _ PZ;exact⟨o,e⟩
 refine wpAny_newObj_type (wpAny_newFunctionEnv O.RH (by intro y hy;simp at hy) (λeY W9 X4=>?_) O.kind);dsimp only at W9 X4 ⊢;generalize X5:h'.push {cls:=.type "list",dict:=none,data:=.seq ([]:List Value).toArray}=H2 at W9 X4 ⊢;have hC:H2.objs.size=h'.objs.size+1:=by rw[<-X5,Heap.size_push]
 have kC:∀b o,b≠H2.objs.size->H2.get? b=some o->eY.get? b=some o:=λb o hb e=>(X4.2 b hb).trans (ju _ e);have k2:∀b o,h'.get? b=some o->eY.get? b=some o:=λb o e=>kC b o (Nat.ne_of_lt (by rw[hC];exact Nat.lt_succ_of_lt (Heap.lt_size e))) (X5▸ju _ e);have k1:∀b o,s1.heap.get? b=some o->eY.get? b=some o:=λb o e=>k2 b o (W8 b o e);have eD:eY.get? h'.objs.size=some {cls:=.type "list",dict:=none,data:=.seq ([]:List Value).toArray}:=kC _ _ (by lia) (X5▸Heap.get?_push_size _ rfl);have fresh:∀a,h'.get? a=none->s1.heap.get? a=none:=λa ha=>by
  cases e:s1.heap.get? a with
  |none=>rfl
  |some o=>rw[W8 a o e]at ha;cases ha
 have PY:s1.heap.get? h'.objs.size=none:=fresh _ bC;have Uy:s1.heap.get? H2.objs.size=none:=fresh _ (by
  cases e:h'.get? H2.objs.size with
  |none=>rfl
  |some o=>exact absurd (Heap.lt_size e) (by rw[hC];exact Nat.not_lt.mpr (Nat.le_succ _)))
 have Uw:I≠h'.objs.size:=λz=>by obtain⟨o,e⟩:=Vc;rw[z,bC]at e;exact aN e
 have ZM:I≠H2.objs.size:=λz=>by obtain⟨o,e⟩:=Vc;rw[z]at e;exact absurd (Heap.lt_size e) (by rw[hC];exact Nat.not_lt.mpr (Nat.le_succ _))
 have ZN:h'.objs.size≠H2.objs.size:=by lia
 obtain⟨i2,t2⟩:=i1.fresh (lo:=bI) (M':=λa=>M1 a\/a=I\/a=h'.objs.size\/a=H2.objs.size) (h':=eY) (tk:=s1.toks+([]:List (Str×Value)).length) k1 (λY=>.inl) λa e=>by
  rcases e with e|rfl|rfl|rfl
  ·exact .inl e
  ·obtain⟨o,e⟩:=Vc;exact .inr ⟨hI,o,k2 _ o e⟩
  ·exact .inr ⟨PY,_,eD⟩
  ·exact .inr ⟨Uy,Heap.Ns.live W9⟩
 have qU:∀a,s1.heap.get? a=none->a∉gA.map (·.2):=λa ha q=>by obtain⟨o,e⟩:=i1.iy a q;rw[ha]at e;exact aN e
 have X6:∀a,Own env a->bV s1.heap a:=λa q=>(JK C.P C.sl env ρ).live Ay a q;have X7:∀a,Own (compEnvC scope cl H2.objs.size env) a->a=H2.objs.size\/Own env a:=λa q=>by
  rcases q with q|⟨n,q⟩
  ·exact .inl q
  ·exact .inr (.inr ⟨n,Vb n a q⟩)
 have JR:∀a,s1.heap.get? a=none->a≠H2.objs.size->¬ Own (compEnvC scope cl H2.objs.size env) a:=λa ha mw q=>by
  rcases X7 a q with z|q
  ·exact mw z
  ·obtain⟨o,e⟩:=X6 a q;rw[ha]at e;exact aN e
 have X8:(compEnvC scope cl H2.objs.size env).scope.names=C'.nm:=by
  show(relabel scope env).names=_;rw[wV er.kind,W7,O.nm]
 have Bq:aY C'.P gA (λa=>M1 a\/a=I\/a=h'.objs.size\/a=H2.objs.size) eY C'.sl (compEnvC scope cl H2.objs.size env) (QW ts ρ):=by
  rw[O.P];refine⟨O.kind,Ay.aA,Ay.blt,⟨.inr (.inr (.inr rfl)),qU _ Uy⟩,λn c e=>?_,λn n' c e e'=>Ay.apart n n' c (Vb n c e) (Vb n' c e'),O.inj,?_,λn j e1 e2=>?_⟩
  ·refine cps λG g=>?_
   obtain⟨a,b,d,v,o,ho,hv⟩:=Ay.cells n c (Vb n c e);refine g ?_;have mw:c≠H2.objs.size:=λz=>dw ho (by rw[z];exact Uy);exact⟨.inl a,b,mw,v,o,k1 c o ho,hv⟩
  ·refine⟨_,W9,λn j e1 e2 v e3 e4=>?_⟩
   have e1:C'.nm.lookup n=some .local:=by rw[<-X8];exact e1
   exact absurd (zu.1 (O.aa n j e1 e2) v e3) e4
  ·have e1:C'.nm.lookup n=some .cell:=by rw[<-X8];exact e1
   obtain⟨f1,f2,f3⟩:=O.cel n j e1 e2;obtain⟨g1,_⟩:=O.free n f1;obtain⟨c,hc,q⟩:=Ay.cl n j (by unfold Env.kindOf;rw[W7];exact g1) f2;obtain⟨c',Q7⟩:=cl2 n f1;have:=Vb n c' Q7;rw[hc]at this;cases this;refine⟨c,Q7,λv e3 e4=>?_⟩;rw[zu.2 f3]at e3;refine cps λG g=>?_;obtain⟨w,⟨o,ho,hv⟩,r⟩:=q v e3 e4;refine g ?_;exact⟨w,⟨o,k1 c o ho,hv⟩,r.mono t2.grow⟩
 have Vd:St 0 eY:=W.frame _ _ _ PZ λb Y o e=>k2 b o e;obtain⟨P',cf',n',X9,P5⟩:=C';have eP:P'=C.P:=O.P;have eF:cf'=C.cf:=O.cf;have eN:n'=C.n:=O.n;subst eP eF eN;have loop:∀(wU:Shared),wU={s1 with heap:=eY,toks:=s1.toks+([]:List (Str×Value)).length}->
   codeAny (model C.P.prog C.P.w) A (.compLoop (.ListComp elt [⟨target,iter,ifs,0⟩] scope pos) 0 (.ref I) (.ref h'.objs.size) (compEnvC scope cl H2.objs.size env)) (compPost (model C.P.prog C.P.w) A E use Q (.ref h'.objs.size) H2.objs.size) wU:=by
  rintro wU rfl;refine G9 (C:=⟨C.P,C.cf,C.n,X9,P5⟩) room X8 W hx hc ht RE hP JQ hlen hI PY Uy Uw (JR I hI ZM) (JR _ PY ZN) (λz=>?_) (λz=>?_)
   ⟨i2,t2.weaken λY Y z=>z.elim,.inr (.inl rfl),qU _ hI,.inr (.inr (.inl rfl)),qU _ PY,Vd,⟨#[],⟨0,eD⟩,rfl⟩,Bq,Nat.le_refl _⟩ h1 λacc ρ' Z' bF M' s' h3 i3 t3 mD nD P6 pl=>?_
  ·obtain⟨⟨o,e⟩,_⟩:=JQ _ z (Ne.symm Uw);rw[PY]at e;exact aN e
  ·obtain⟨⟨o,e⟩,_⟩:=JQ _ z (Ne.symm ZM)
   have e:s1.heap.get? H2.objs.size=some o:=e;rw[Uy]at e;exact aN e
  ·obtain⟨ys,p,q⟩:=pl
   have t4:Step bI φ M s bF (λa=>M' a/\a≠h'.objs.size) s':=by
    have:Step bI gA M1 s1 bF M' s':=t3.weaken λa lv z=>by obtain⟨o,e⟩:=lv;rw[z]at e;exact aN e
    exact t1.trans (this.drop PY)
   have sC:s.heap.get? H2.objs.size=none:=by
    cases e:s.heap.get? H2.objs.size with
    |none=>rfl
    |some o=>obtain⟨o',e'⟩:=t1.live _ o e;rw[Uy]at e';exact aN e'
   have hm:=P6.aa;have u:=k acc (.ref h'.objs.size) H2.objs.size Z' bF _ s' h3 (i3.drop nD) t4 ⟨_,ys,rfl,λz=>z.2 rfl,p.isList,aM.mono qq _ q⟩ ⟨hm.1,ZN.symm⟩ hm.2 sC (let⟨m,hn,_⟩:=P6.ns;⟨m,hn⟩);induction use with
   |none=>exact u
   |some uu=>exact u
 exact codeAny_compStart_list (loop _ rfl) (W.self 0 _ _ _ Vd (loop _ rfl))
theorem E0{C:Cx}{x:X}{c:Option X}{target:Expr}(O:zv C C' scope ts)(P4:aW C ix iter)(hx:aW C' x elt)(hc:JP C' c ifs)
  (ht:iB false C'.nm C'.sl single ts target)(Bs:qt iter=true):aW C (.comp x single ts ix c) (.ListComp elt [⟨target,iter,ifs,0⟩] scope pos):=⟨λ{A env s φ M Z ρ Q E Q'} room i er nm h k=>by
 rw[eval_ListComp];refine Br (use:=none) O P4 hx hc ht Bs room i er nm h λacc w Cc Z' bF M' s' h' i' t' r' m' n' nw hn=>?_;obtain⟨m,hn⟩:=hn;refine⟨m,hn,λh2 hs=>?_⟩;have hk:∀b o,b≠Cc->s'.heap.get? b=some o->h2.get? b=some o:=λb o hb e=>(hs.2 b hb).trans e;obtain⟨i2,g2⟩:=i'.gone (tk:=s'.toks) m' n' hk;exact k _ _ _ _ _ _ h' i2 (t'.gone nw hk) (r'.mono g2)⟩
noncomputable def Ve(P:PV)(h:Heap)(M:Addr->Prop)(φ:fz):Fl->Flow->Prop
 |.next,f=>f=.next
 |.cont,f=>f=.cont
 |.ret v,f=>∃w,f=.ret w/\aK P h M φ v w
noncomputable def ur(C:Cx)(env:Env)(φ:fz)(M:Addr->Prop)(s:Shared)(Q':Fl->List V->H->Prop)(Q:Flow->Shared->Prop):Prop:=
 ∀fl f ρ' Z' bF M' s',Q' fl ρ' Z'->Inv C.P Z' bF M' s'->Step (Own env) φ M s bF M' s'->aY C.P bF M' s'.heap C.sl env ρ'->Ve C.P s'.heap M' bF fl f->Q f s'
noncomputable abbrev dW(C:Cx)(x:S)(e:Stmt):Prop:=wR (∀{A:Around} {env:Env} {s:Shared} {φ:fz} {M:Addr->Prop} {Z:H} {ρ:List V} {Q:Flow->Shared->Prop} {E:Value->Shared->Prop} {Q':Fl->List V->H->Prop},
 kX A C.n->Inv C.P Z φ M s->aY C.P φ M s.heap C.sl env ρ->env.scope.names=C.nm->wpS C.cf C.P.gt x ρ Q' Z->ur C env φ M s Q' Q->wpAny (model C.P.prog C.P.w) A (exec e env) Q E s)
noncomputable abbrev qV(C:Cx)(x:List S)(e:List Stmt):Prop:=wR (∀{A:Around} {env:Env} {s:Shared} {φ:fz} {M:Addr->Prop} {Z:H} {ρ:List V} {Q:Flow->Shared->Prop} {E:Value->Shared->Prop} {Q':Fl->List V->H->Prop},
 kX A C.n->Inv C.P Z φ M s->aY C.P φ M s.heap C.sl env ρ->env.scope.names=C.nm->dU C.cf C.P.gt x ρ Q' Z->ur C env φ M s Q' Q->wpAny (model C.P.prog C.P.w) A (execs e env) Q E s)
section
variable {C:Cx}
theorem Step.own{s:Shared}(t:Step bI φ M s bF M' s'):Step (Own env) φ M s bF M' s':=t.weaken λY Y z=>z.elim
theorem ur.on{s:Shared}{Q':Fl->List V->H->Prop}{Q:Flow->Shared->Prop}(k:ur C env φ M s Q' Q)(t:Step (Own env) φ M s cR eO aQ):ur C env cR eO aQ Q' Q:=
 λfl f ρ' Z' bF M' s' h i t' r fr=>k fl f ρ' Z' bF M' s' h i (t.trans t') r fr
theorem RI:qV C [] []:=⟨λroom i er nm h k=>by exact wpAny_execs_nil (k .next .next _ _ _ _ _ h i Step.refl er rfl)⟩
theorem Nx{x:S}{xs:List S}{e:Stmt}{es:List Stmt}(hx:dW C x e)(hs:qV C xs es):qV C (x::xs) (e::es):=⟨λ{A env s φ M Z ρ Q E Q'} room i er nm h k=>by
 refine wpAny_execs_cons (hx room i er nm h λfl f ρ' Z' bF M' s' h' i' t' RJ fr=>?_);cases fl with
 |next=>cases fr;exact hs room i' RJ nm h' (k.on t')
 |cont=>cases fr;exact k _ _ _ _ _ _ _ h' i' t' RJ rfl
 |ret v=>obtain⟨w,rfl,r⟩:=fr;exact k _ _ _ _ _ _ _ h' i' t' RJ ⟨w,rfl,r⟩⟩
theorem RK{pos:Pos}:dW C .pass (.Pass pos):=⟨λroom i er nm h k=>by exact wpAny_Pass (k .next .next _ _ _ _ _ h i Step.refl er rfl)⟩
theorem RM{pos:Pos}:dW C .cont (.Continue pos):=⟨λroom i er nm h k=>by exact wpAny_Continue (k .cont .cont _ _ _ _ _ h i Step.refl er rfl)⟩
theorem RN{e:Stmt}:dW C .fail e:=⟨λroom i er nm h k=>by exact h.elim⟩
noncomputable def eZ(e:Expr):Bool:=Nat.ble e.ctorIdx 7||Nat.ble 11 e.ctorIdx
theorem lM{t:Option Expr}{l:Nat}(h:eZ e=true):swapsWith e t l env=pure false:=by
 cases e<;>first|rfl|exact absurd h Bool.false_ne_true
theorem RO{x:X}(hx:aW C x e)(hc:eZ e=true):dW C (.expr x) (.Expr e pos):=⟨λ{A env s φ M Z ρ Q E Q'} room i er nm h k=>by
 refine wpAny_Expr_any (hx room i er nm h λv w Z' bF M' s' h' i' t' r'=>?_) (by unfold interactive;rw[er.kind];rfl) (lM hc);exact k .next .next _ _ _ _ _ h' i' t'.own (er.bq i t') rfl⟩
theorem RP{pos:Pos}:dW C (.ret none) (.Return none pos):=⟨λroom i er nm h k=>by exact wpAny_Return_none (k (.ret .none) _ _ _ _ _ _ h i Step.refl er ⟨_,rfl,rfl⟩)⟩
theorem Vf{x:X}{e:Expr}{pos:Pos}(hx:aW C x e):dW C (.ret (some x)) (.Return (some e) pos):=⟨λ{A env s φ M Z ρ Q E Q'} room i er nm h k=>by
 exact wpAny_Return_some (hx room i er nm h λv w Z' bF M' s' h' i' t' r'=>k (.ret v) _ _ _ _ _ _ h' i' t'.own (er.bq i t') ⟨w,rfl,r'⟩)⟩
theorem Own.locals:Own env env.locals:=.inl rfl
theorem Vg{j:Nat}{x:X}{n:Str}{np pos:Pos}{e:Expr}(hx:aW C x e)(hc:eZ e=true)(ok:iA true C.nm C.sl j (.Name n np)):dW C (.cO j x) (.Assign [.Name n np] e pos):=⟨λ{A env s φ M Z ρ Q E Q'} room i er nm h k=>by
 refine wpAny_Assign_Name (hx room i er nm h λv w cD gA M1 s1 h1 i1 t1 r1=>?_) (lM hc);refine jv (lo:=Own env) (er.bq i t1) i1 ok.1 (by unfold Env.kindOf;rw[nm];exact ok.2.imp_right (·.2)) r1 Own.locals (λY c hc=>.inr ⟨_,hc⟩) λs2 t2 i2 Bq=>?_;exact k .next .next _ _ _ _ _ h1 i2 (t1.own.trans t2) Bq rfl⟩
theorem RQ{n:Str}{Ny:Pos}{x:X}{c:Option X}{target:Expr}(O:zv C C' scope ts)(P4:aW C ix iter)(hx:aW C' x elt)(hc:JP C' c ifs)
  (ht:iB false C'.nm C'.sl single ts target)(Bs:qt iter=true)(ok:iA true C.nm C.sl j (.Name n np)):dW C (.cO j (.comp x single ts ix c)) (.Assign [.Name n np] (.ListComp elt [⟨target,iter,ifs,0⟩] scope Ny) pos):=⟨λ{A env s φ M Z ρ Q E Q'} room i er nm h k=>by
 have h:b8 C.cf C.P.gt (.comp x single ts ix c) ρ (λv Z=>Q' .next (ρ.set j v) Z) Z:=h;cases hb:(env.blockKind==.function&&env.kindOf n==some .local&&np.line==Ny.line&& !(scope.names.any λ(m,k)=>m==n&&(k==.local||k==.cell)))with
 |false=>
  have hs:swapsWith (.ListComp elt [⟨target,iter,ifs,0⟩] scope Ny) (some (.Name n np)) pos.line env=pure false:=by
   rw[<-hb];rfl
  refine wpAny_Assign_Name (E0 O P4 hx hc ht Bs room i er nm h λv w cD gA M1 s1 h1 i1 t1 r1=>?_) hs;refine jv (lo:=Own env) (er.bq i t1) i1 ok.1 (by unfold Env.kindOf;rw[nm];exact ok.2.imp_right (·.2)) r1 Own.locals (λY c hc=>.inr ⟨_,hc⟩) λs2 t2 i2 Bq=>?_;exact k .next .next _ _ _ _ _ h1 i2 (t1.own.trans t2) Bq rfl
 |true=>
  have hs:swapsWith (.ListComp elt [⟨target,iter,ifs,0⟩] scope Ny) (some (.Name n np)) pos.line env=pure true:=by
   rw[<-hb];rfl
  rw[exec_Assign_Name_used n np _ pos hs];refine wb (wpAny_standAt (wb ?_));unfold evalThenUse;refine wb (Br (use:=some (assign (.Name n np) env)) (Q:=λY s'=>wpAny (model C.P.prog C.P.w) A (pure ()) (λY P1=>wpAny (model C.P.prog C.P.w) A (pure Flow.next) Q E P1) E s') O P4 hx hc ht Bs room i er nm h λacc w Cc cD gA M1 s1 h1 i1 t1 r1 mC nC nw hn=>?_);have Ay:=er.bq i t1;refine PySem.wpAny_assign_Name (jv (lo:=Own env) Ay i1 ok.1 (by unfold Env.kindOf;rw[nm];exact ok.2.imp_right (·.2)) r1 Own.locals (λY c hc=>.inr ⟨_,hc⟩) λs2 t2 i2 Bq=>?_);have Bt:¬ Own env Cc:=λq=>by obtain⟨o,e⟩:=(JK C.P C.sl env ρ).live er Cc q;rw[nw]at e;cases e
  obtain⟨m,o,es,ep,ho,hr⟩:=hn;refine⟨m,⟨o,es,ep,t2.keep Cc o ho λq=>q.2.elim nC Bt,hr⟩,λh' k9=>wq (wq ?_)⟩;have hk:∀b o,b≠Cc->s2.heap.get? b=some o->h'.get? b=some o:=λb o hb e=>(k9.2 b hb).trans e;obtain⟨i3,g3⟩:=i2.gone (tk:=s2.toks) mC nC hk;exact k .next .next _ _ _ _ _ h1 i3 ((t1.own.trans t2).gone nw hk) (Bq.gone mC Bt hk) rfl⟩
noncomputable def notTuple(e:Expr):Bool:= !(e.ctorIdx==25)
theorem RS{js:List Nat}{x:X}{es:List Expr}{nc:Nat}{tp pos:Pos}{e:Expr}(hx:aW C x e)(hc:eZ e=true)(ht:notTuple e=true)(ok:eT (iA true C.nm C.sl) js es):dW C (.fM js x) (.Assign [.Tuple es nc tp] e pos):=⟨λ{A env s φ M Z ρ Q E Q'} room i er nm h k=>by
 refine Assign_Tuple (hx room i er nm h λv w cD gA M1 s1 h1 i1 t1 r1=>?_) (by unfold swapsWithSole;exact lM hc) (by unfold swappedStores;cases e<;>first|rfl|exact absurd ht Bool.false_ne_true);obtain⟨IP,hb,h1⟩:=aL h1;refine uq (ac:=true) (single:=false) (lo:=Own env) room.1 (er.bq i t1) i1 nm ⟨es,nc,tp,rfl,ok⟩ hb r1 Own.locals (λY n c hc=>.inr ⟨n,hc⟩) λs2 t2 i2 Bq=>?_;exact k .next .next _ _ _ _ _ h1 i2 (t1.own.trans t2) Bq rfl⟩
theorem Vh{c:Prop}[Decidable c]{a b z:α}(h:¬ c)(e:b=z):(if c then a else b)=z:=(if_neg h).trans e
theorem Yb{f:Expr->Bool}(h:∀e,notStar e=true->f e=false){a b:Expr}(ha:notStar a=true)(hb:notStar b=true):¬ ([a,b].any f=true):=by
 show ¬ ((f a||(f b||false))=true);rw[h a ha,h b hb];exact Bool.false_ne_true
theorem all2{f:α->Bool}{a b:α}(h:(f a&&f b)=false):¬ ([a,b].all f=true):=by
 show ¬ ((f a&&(f b&&true))=true);rw[Bool.and_true,h];exact Bool.false_ne_true
theorem fm2{f:α->Option β}{a b:α}{x y:β}(h1:f a=some x)(h2:f b=some y):[a,b].filterMap f=[x,y]:=by
 rw[List.filterMap_cons_some h1,List.filterMap_cons_some h2];rfl
theorem Vi{a b:Str}(ne:a≠b):[a,b].eraseDups.length=2:=by
 have:(b==a)=false:=beq_eq_false_iff_ne.mpr ne.symm;rw[List.eraseDups_cons,List.filter_cons,this];rfl
theorem Vj{tp vp:Pos}{e1 e2:Expr}(hbk:env.blockKind=.function)(k1:env.kindOf n1=some .local)(k2:env.kindOf n2=some .local)(s1:notStar e1=true)(s2:notStar e2=true)(ne:n1≠n2)
  (hl:(p2.line==p1.line)=true)(hf:(foldedForSure 8 e1&&foldedForSure 8 e2)=false)(hq:(constantsAlone 8 e1&&constantsAlone 8 e2)=false):swappedStores [.Tuple [.Name n1 p1,.Name n2 p2] nc tp] (.Tuple [e1,e2] k₁ vp) env=pure (some [n1,n2]):=by
 unfold swappedStores;refine Vh ?_ (Vh (Yb (λe h=>?_) s1 s2) ?_)
 ·show ¬ ((env.blockKind !=.function)=true)
  rw[hbk];decide
 ·rcases e<;>first|rfl|exact dJ h
 dsimp only;refine(congrArg (λ(names:List Str)=>(if (names.length !=2||names.eraseDups.length !=names.length)=true then pure none else if ([e1,e2].all (foldedForSure 8))=true then pure none else if ([e1,e2].all (constantsAlone 8))=true then _ else pure (some names):Sem (Option (List Str)))) (fm2 (a:=PySem.Expr.Name n1 p1) (b:=PySem.Expr.Name n2 p2) (x:=n1) (y:=n2) ?_ ?_)).trans ?_
 ·exact if_pos (Bool.and_eq_true_iff.mpr ⟨by rw[k1];exact beq_self_eq_true _,beq_self_eq_true p1.line⟩)
 ·exact if_pos (Bool.and_eq_true_iff.mpr ⟨by rw[k2];exact beq_self_eq_true _,hl⟩)
 ·refine Vh ?_ (Vh (all2 hf) (Vh (all2 hq) rfl))
  show ¬ (([n1,n2].eraseDups.length !=2)=true);rw[Vi ne];decide
theorem Yc(h:qc ρ [j1,j2] vs=some ρ'):∃u1 u2,vs=[u1,u2]/\(ρ.set j1 u1).set j2 u2=ρ':=by
 rcases vs with _|⟨u1,vs⟩
 ·exact aN h
 rcases vs with _|⟨u2,vs⟩
 ·exact aN h
 rcases vs with _|⟨_,_⟩
 ·exact⟨u1,u2,rfl,di h⟩
 ·exact aN h
theorem Nz{j1 j2:Nat}{x1 x2:X}{n1 n2:Str}{p1 p2 tp vp pos:Pos}{nc k₁:Nat}{e1 e2:Expr}(h1:aW C x1 e1)(h2:aW C x2 e2)(s1:notStar e1=true)(s2:notStar e2=true)(ne:n1≠n2)(nj:j1≠j2)
  (JS:C.sl.lookup n1=some j1/\C.nm.lookup n1=some .local)(ZO:C.sl.lookup n2=some j2/\C.nm.lookup n2=some .local)(hl:(p2.line==p1.line)=true)(hf:(foldedForSure 8 e1&&foldedForSure 8 e2)=false)(hq:(constantsAlone 8 e1&&constantsAlone 8 e2)=false):
  dW C (.fM [j1,j2] (.af [x1,x2])) (.Assign [.Tuple [.Name n1 p1,.Name n2 p2] nc tp] (.Tuple [e1,e2] k₁ vp) pos):=⟨λ{A env s φ M Z ρ Q E Q'} room i er nm h k=>by
 have k1:env.kindOf n1=some .local:=by unfold Env.kindOf;rw[nm];exact JS.2
 have k2:env.kindOf n2=some .local:=by unfold Env.kindOf;rw[nm];exact ZO.2
 refine Assign_Tuple_swapped (names:=[n1,n2]) (Jv (jS (C:=C) (xs:=[x1,x2]) (es:=[e1,e2]) ⟨h1,h2,trivial⟩ (Bool.and_eq_true_iff.mpr ⟨s1,dK s2⟩)) (show 2<=1000 by decide) room i er nm (show b8 C.cf C.P.gt (.af [x1,x2]) ρ (λv Z=>aT (s8 false [j1,j2] ρ v) λρ=>Q' .next ρ Z) Z from h) λv w cD gA M1 s1 h1 i1 t1 r1=>?_) rfl
  (Vj (by unfold Env.blockKind;rw[er.kind];rfl) k1 k2 s1 s2 ne hl hf hq)
 obtain⟨IP,hb,h1⟩:=aL h1;refine f9 hb λvs ev hb=>?_;rw[tV ev]at r1;obtain⟨u1,u2,rfl,e⟩:=Yc hb;obtain⟨a,ws,rfl,nM,tt,q⟩:=r1;rw[show [n1,n2].length=ws.size from q.size];refine wpAny_unpackItems_tuple room.1 tt λh' he=>?_;obtain⟨i2,t2⟩:=i1.more (lo:=bI) (h':=h') (tk:=s1.toks) λa o e=>he a o (gb ⟨o,e⟩) e;have Bq:=(er.bq i t1).bq i1 t2;obtain⟨w1,r,e1,q1,w2,r2,e2,q2,e3⟩:=q;rw[e1,e2,e3];show wpAny _ _ (assignInOrder [λv=>bindName env n2 v,λv=>bindName env n1 v] [w2,w1]) _ _ _;refine wpAny_assignInOrder_more (wpAny_bindName (qo (lo:=Own env) Bq i2 ZO.1 k2 (q2.mono t2.grow) Own.locals λs3 t3 i3 P6=>?_));refine wpAny_assignInOrder_more (wpAny_bindName (qo (lo:=Own env) P6 i3 JS.1 k1 ((q1.mono t2.grow).mono t3.grow) Own.locals λs4 t4 i4 Xa=>wpAny_assignInOrder_none ?_));rw[List.set_comm _ _ nj.symm,e]at Xa;exact k .next .next _ _ _ _ _ h1 i4 (((t1.own.trans t2.own).trans t3).trans t4) Xa rfl⟩
end
section
variable {C:Cx}
theorem ur.toS{s:Shared}{Q':Fl->List V->H->Prop}{Q:Flow->Shared->Prop}(k:ur C env φ M s Q' Q)(t:Step bI φ M s cR eO aQ)(h:Q' .next ρ Z)(i:Inv C.P Z cR eO aQ)(er:aY C.P cR eO aQ.heap C.sl env ρ):Q .next aQ:=
 k .next .next _ _ _ _ _ h i t.own er rfl
theorem qW{s:Shared}(i:Inv P Z φ M s){x v:V}{a w:Value}{n:String}{Q:Unit->Shared->Prop}(X:P.K.In P.h₀)
  (ck:∀c ca,P.ca c=some ca->oQ P.K ca names)(hm:n∈names)(hb:ie Z x n v=some Z')(hx:aK P s.heap M φ x a)(hv:aK P s.heap M φ v w)
  (k:∀s',Step bI φ M s φ M s'->Inv P Z' φ M s'->Q () s'):wpAny (model P.prog P.w) A (setAttr a (Str.ofString n) w) Q E s:=by
 refine Xy hb λj p ex wO h=>?_;obtain⟨hz,e⟩:=bD h;rw[ex]at hx;exact(EO i wO hx).elim λc q=>q.2.2.2.2.elim λca x=>x.elim λY x=>x.elim λY x=>by
  rw[q.1];exact M6 i (i.K X) wO x.1 (ck _ _ x.1) hm q.2.1 hv hz (e▸k)
theorem RT{gn:List Str}(G:Good C.P gn){a x:X}{n:String}{ea e:Expr}{ap pos:Pos}{names:List String}(ck:∀c ca,C.P.ca c=some ca->oQ C.P.K ca names)(hm:n∈names)(ha:aW C a ea)(hx:aW C x e)(hc:eZ e=true):
  dW C (.eW a n x) (.Assign [.Attribute ea (Str.ofString n) ap] e pos):=⟨λ{A env s φ M Z ρ Q E Q'} room i er nm h k=>by
 refine plainObj_wpAny_Assign_Attribute (hx room i er nm h λv w cD gA M1 s1 h1 i1 t1 r1=>ha room i1 (er.bq i t1) nm h1 λx wx Z2 lE M2 s2 h2 i2 t2 r2=>?_) (lM hc);obtain⟨kY,hz,h2⟩:=aL h2;refine qW i2 G.Ur ck hm hz r2 (r1.mono t2.grow) λs3 t3 i3=>?_;exact k.toS ((t1.trans t2).trans t3) h2 i3 (((er.bq i t1).bq i1 t2).bq i2 t3)⟩
theorem RU{a y x:X}{sp:Pos}(ha:aW C a ea)(hy:aW C y ey)(hx:aW C x e)(hc:eZ e=true):dW C (.om a y x) (.Assign [.Subscript ea ey sp] e pos):=⟨λ{A env s φ M Z ρ Q E Q'} room i er nm h k=>by
 refine wpAny_Assign_Subscript (hx room i er nm h λv w cD gA M1 s1 h1 i1 t1 r1=>ha room i1 (er.bq i t1) nm h1 λx wx Z2 lE M2 s2 h2 i2 t2 r2=>hy room i2 ((er.bq i t1).bq i1 t2) nm h2 λy wy kY Mz M3 s3 h3 i3 t3 r3=>?_) (lM hc);obtain⟨PR,hz,h3⟩:=aL h3;refine A7 i3 hz (r2.mono t3.grow) r3 (r1.mono (t2.trans t3).grow) λs4 t4 i4=>?_;exact k.toS (((t1.trans t2).trans t3).trans t4) h3 i4 ((((er.bq i t1).bq i1 t2).bq i2 t3).bq i3 t4)⟩
theorem E1{s:Shared}(i:Inv P Z φ M s){o:Ax}{a:Int}{w1 w2:Value}(hb:WX o a y=some z)(hx:aK P s.heap M φ (.int a) w1)(hy:aK P s.heap M φ y w2)
  (k:∀w s',Step bI φ M s φ M s'->Inv P Z φ M s'->aK P s'.heap M φ z w->Q w s'):wpAny (model P.prog P.w) A (inplaceOp (wL o) w1 w2) Q E s:=by
 obtain⟨t,rfl⟩:=hx;refine f9 hb λb e h=>?_;obtain⟨u,rfl⟩:=zc hy e;rcases o<;>first|exact aN h|skip
 ·exact PySem.P.iadd_int (jP i (di h▸k))
 ·exact PySem.P.isub_int (jP i (di h▸k))
theorem zw{s:Shared}{GN:Model}{n:Str}{i:Nat}{v:V}(r:aY P φ M s.heap sl env ρ)(hs:sl.lookup n=some i)(hk:env.kindOf n=some .local\/env.kindOf n=some .cell)
  (hv:ρ[i]?=some v)(hu:v≠.ah)(k:∀w,aK P s.heap M φ v w->Q w s):wpAny GN A (loadName env n) Q E s:=by
 rcases hk with hk|hk
 ·obtain⟨m,hn,q⟩:=r.ns
  obtain⟨w,h1,h2⟩:=q n i hk hs v hv hu;exact wpAny_loadName_local r.kind hk hn h1 (k w h2)
 ·obtain⟨c,h1,q⟩:=r.cl n i hk hs
  obtain⟨w,h3,h2⟩:=q v hv hu;exact wpAny_loadName_cell r.kind hk h1 h3 (k w h2)
theorem Vk{j:Nat}{o:Ax}{x:X}{n:Str}{np pos:Pos}{e:Expr}(hx:aW C x e)(ok:iA true C.nm C.sl j (.Name n np)):dW C (.aug j o x) (.AugAssign (.Name n np) (wL o) e pos):=⟨λ{A env s φ M Z ρ Q E Q'} room i er nm h k=>by
 obtain⟨old,ho,h⟩:=aL h;obtain⟨a,rfl,h⟩:=ug h;have hk:env.kindOf n=some .local\/env.kindOf n=some .cell:=by unfold Env.kindOf;rw[nm];exact ok.2.imp_right (·.2)
 refine wpAny_AugAssign_Name (zw er ok.1 hk ho (by simp) λw1 r1=>hx room i er nm h λv w cD gA M1 s1 h1 i1 t1 r2=>?_);obtain⟨z,hz,h1⟩:=aL h1;have Ay:=er.bq i t1;refine E1 i1 hz (r1.mono t1.grow) r2 λw2 s2 t2 i2 r3=>?_;refine jv (lo:=Own env) (Ay.bq i1 t2) i2 ok.1 hk r3 Own.locals (λY c hc=>.inr ⟨_,hc⟩) λs3 t3 i3 P6=>?_;exact k .next .next _ _ _ _ _ h1 i3 ((t1.own.trans t2.own).trans t3) P6 rfl⟩
theorem RV{gn:List Str}(G:Good C.P gn){a x:X}{n:String}{o:Ax}{ea e:Expr}{ap pos:Pos}{names:List String}(ck:∀c ca,C.P.ca c=some ca->oQ C.P.K ca names)(hm:n∈names)(ha:aW C a ea)(hx:aW C x e):
  dW C (.sW a n o x) (.AugAssign (.Attribute ea (Str.ofString n) ap) (wL o) e pos):=⟨λ{A env s φ M Z ρ Q E Q'} room i er nm h k=>by
 refine wpAny_AugAssign_AttributeAny (ha room i er nm h λx wx cD gA M1 s1 h1 i1 t1 r1=>?_);obtain⟨old,ho,h1⟩:=aL h1;obtain⟨a,rfl,h1⟩:=ug h1;refine Bk i1 G.Ur ck hm ho r1 λw0 tk r0=>?_;have ZP:=i1.tok tk;have Yd:Step bI φ M s gA M1 {s1 with toks:=tk}:=t1.tok tk;refine hx room ZP (er.bq i Yd) nm h1 λv w Z2 lE M2 s2 h2 i2 t2 r2=>?_;obtain⟨z,hz,h2⟩:=aL h2;obtain⟨kY,hs,h2⟩:=aL h2;refine E1 i2 hz (r0.mono t2.grow) r2 λw2 s3 t3 i3 r3=>?_;refine qW i3 G.Ur ck hm hs ((aK.mono t2.grow _ r1).mono t3.grow) r3 λs4 t4 i4=>?_;exact k.toS (((Yd.trans t2).trans t3).trans t4) h2 i4 ((((er.bq i Yd).bq ZP t2).bq i2 t3).bq i3 t4)⟩
theorem Vl{c:X}{t e:List S}{et ee:List Stmt}(hc:oU C c ec)(ht:qV C t et)(he:qV C e ee):dW C (.ite c t e) (.If ec et ee pos):=⟨λ{A env s φ M Z ρ Q E Q'} room i er nm h k=>by
 refine wpAny_If (hc (Q':=λb Z=>if b=true then dU C.cf C.P.gt t ρ Q' Z else dU C.cf C.P.gt e ρ Q' Z) room i er nm h λb cD gA M1 s1 h1 i1 t1=>?_);induction b with
 |true=>exact ht room i1 (er.bq i t1) nm h1 (k.on t1.own)
 |false=>exact he room i1 (er.bq i t1) nm h1 (k.on t1.own)⟩
theorem NB{c:X}{b:List S}{eb:List Stmt}(hc:oU C c ec)(hb:qV C b eb):dW C (.while c b) (.While ec eb [] pos):=⟨λ{A env s φ M Z ρ Q E Q'} room i er nm h k=>by
 obtain⟨n,h⟩:=h;refine wpAny_While (codeAny_whileLoop (λn s'=>∃ρ' Z' bF M',jJ (λρ Q Z=>b8 C.cf C.P.gt c ρ Q Z) (λρ Q Z=>dU C.cf C.P.gt b ρ Q Z) n ρ' Q' Z'/\Inv C.P Z' bF M' s'/\Step (Own env) φ M s bF M' s'/\aY C.P bF M' s'.heap C.sl env ρ') (λn s' hI=>?_) n ⟨ρ,Z,φ,M,h,i,Step.refl,er⟩);refine cps λG g=>?_;obtain⟨ρ',Z',bF,M',h',i',t',RJ⟩:=hI;refine g ?_;induction n with
 |zero=>exact h'.elim
 |succ n=>
  unfold jJ at h';refine hc (Q':=λbb Z=>if bb=true then dU C.cf C.P.gt b ρ' (λfl ρ Z=>match fl with
   |.ret r=>Q' (.ret r) ρ Z
   |_=>jJ (λρ Q Z=>b8 C.cf C.P.gt c ρ Q Z) (λρ Q Z=>dU C.cf C.P.gt b ρ Q Z) n ρ Q' Z) Z else Q' .next ρ' Z) room i' RJ nm h' λbb cD gA M1 s1 h1 i1 t1=>?_
  have Ay:=RJ.bq i' t1;induction bb with
  |true=>
   refine hb room i1 Ay nm h1 λfl f IP Z2 lE M2 s2 h2 i2 t2 Bq fr=>?_;have tt:=(t'.trans t1.own).trans t2;induction fl with
   |next=>cases fr;exact⟨n,Nat.lt_succ_self n,IP,Z2,lE,M2,h2,i2,tt,Bq⟩
   |cont=>cases fr;exact⟨n,Nat.lt_succ_self n,IP,Z2,lE,M2,h2,i2,tt,Bq⟩
   |ret v=>obtain⟨w,rfl,r⟩:=fr;exact k (.ret v) _ _ _ _ _ _ h2 i2 tt Bq ⟨w,rfl,r⟩
  |false=>exact wpAny_execs_nil (k .next .next _ _ _ _ _ h1 i1 (t'.trans t1.own) Ay rfl)⟩
structure P7 (C:Cx) (env:Env) (I:Addr) (St:Nat->Heap->Prop) (aQ:Shared) (cR:fz) (eO:Addr->Prop) (j:Nat) (ρ:List V) (Z:H) (φ:fz) (M:Addr->Prop) (s:Shared):Prop where
 inv:Inv C.P Z φ M s
 step:Step (Own env) cR eO aQ φ M s
 mI:M I
 nI:I∉φ.map (·.2)
 st:St j s.heap
 er:aY C.P φ M s.heap C.sl env ρ
theorem Vm{b:List S}{target:Expr}{eb:List Stmt}(P4:aW C ix iter)(hb:qV C b eb)(ht:iB true C.nm C.sl single ts target)(Bs:qt iter=true):dW C (.for single ts ix b) (.For target iter eb [] pos):=⟨λ{A env s φ M Z ρ Q E Q'} room i er nm h k=>by
 refine wpAny_For (P4 room i er nm h λit w1 cD gA M1 s1 h1 i1 t1 r1=>?_) (λv=>by unfold foldedSetIterable;cases iter<;>first|rfl|cases Bs);obtain⟨vs,hv,h1⟩:=aL h1;refine Bc room.1 hv r1 λI fp Pn St h' W hI JQ PZ RE W8 hP=>?_;have Ay:=er.bq i t1;have Vc:bV h' I:=by obtain⟨o,_,_,e,_⟩:=RE _ _ PZ;exact⟨o,e⟩
 have qU:I∉gA.map (·.2):=λq=>by obtain⟨o,e⟩:=i1.iy I q;rw[hI]at e;exact aN e
 have Bt:¬ Own env I:=λq=>by obtain⟨o,e⟩:=(JK C.P C.sl env ρ).live Ay I q;rw[hI]at e;exact aN e
 obtain⟨i2,t2⟩:=i1.fresh (lo:=bI) (M':=λa=>M1 a\/a=I) (h':=h') (tk:=s1.toks) W8 (λY=>.inl) λa e=>e.imp_right λz=>by subst z;exact⟨hI,Vc⟩
 refine codeAny_forLoop_any (λn s'=>∃j ρ' Z' bF M',j+n=vs.length/\P7 C env I St s1 gA M1 j ρ' Z' bF M' s'/\forL (λρ Q Z=>dU C.cf C.P.gt b ρ Q Z) single ts (vs.drop j) ρ' Q' Z') ?_ vs.length
  ⟨0,ρ,cD,gA,_,by simp,⟨i2,t2.own,.inr rfl,qU,PZ,Ay.bq i1 t2⟩,by simpa using h1⟩
 rintro n s' ⟨j,ρ',Z',bF,M',hj,X,hw⟩;by_cases qS:j<vs.length
 ·refine W.item j s' _ _ qS X.st λv h2 tk hv Vn hk=>?_
  have zp:∀b o,b≠I->s'.heap.get? b=some o->h2.get? b=some o:=λb o hb e=>hk b o (by simpa using hb) e;have ia:=RE _ _ Vn;have Ux:bV h2 I:=ia.elim λo x=>x.elim λY x=>x.elim λY x=>⟨o,x.1⟩;obtain⟨i3,g3⟩:=X.inv.lI (tk:=tk) zp Ux X.mI X.nI;have t3:=X.step.lI (tk:=tk) zp Ux hI;have P6:=X.er.lI zp X.mI Bt;refine uc ia ?_;obtain⟨u,hu⟩:∃u,vs[j]?=some u:=⟨vs[j],List.getElem?_eq_getElem qS⟩;have hr:aK C.P h2 M' bF u v:=hP j u v _ _ _ (Step.grow t3) hu hv;have hd:vs.drop j=u::vs.drop (j+1):=by
   rw[List.drop_eq_getElem_cons qS];congr 1;have:=List.getElem?_eq_getElem qS;rw[this]at hu;cases hu;rfl
  rw[hd]at hw;unfold forL at hw;obtain⟨IP,hbd,hw⟩:=aL hw;refine uq (lo:=Own env) room.1 P6 i3 nm ht hbd hr Own.locals (λY n c hc=>.inr ⟨n,hc⟩) λs4 t4 i4 Xa=>?_;refine hb room i4 Xa nm hw λfl f Ye Vo Yg M5 s5 h5 i5 t5 ZQ fr=>?_;have ZR:=(t3.trans t4).trans t5;have Vp:∀o,h2.get? I=some o->s5.heap.get? I=some o:=λo e=>t5.keep I o (t4.keep I o e λq=>q.2.elim X.nI Bt) λq=>q.2.elim X.nI Bt;have Yy:P7 C env I St s1 gA M1 (j+1) Ye Vo Yg M5 s5:=by
   obtain⟨o,e⟩:=Ux;have e4:=t4.keep I o e λq=>q.2.elim X.nI Bt;refine⟨i5,ZR,t5.kM I o e4 X.mI X.nI,λq=>(t5.new I q).elim X.nI (dw e4),W.frame _ _ _ Vn λb hb o e=>?_,ZQ⟩;by_cases z:b=I
   ·rw[z]at e ⊢;exact Vp o e
   ·obtain⟨⟨o',e'⟩,X9⟩:=JQ b hb z
    have ZS:¬ M' b:=λm=>X9 ((X.step.m b m).resolve_right (dw e'));have e4:=t4.keep b o e λq=>ZS q.1;exact t5.keep b o e4 λq=>ZS q.1
  induction fl with
  |next=>cases fr;exact⟨n-1,by lia,j+1,Ye,Vo,Yg,M5,by lia,Yy,h5⟩
  |cont=>cases fr;exact⟨n-1,by lia,j+1,Ye,Vo,Yg,M5,by lia,Yy,h5⟩
  |ret r=>
   obtain⟨w,rfl,rr⟩:=fr;exact k (.ret r) _ _ _ _ _ _ h5 i5 (t1.own.trans ZR) ZQ ⟨w,rfl,rr⟩
 ·have XY:j=vs.length:=by lia
  subst XY;refine W.done s' _ _ X.st λh2 tk hk=>?_;have zp:∀b o,b≠I->s'.heap.get? b=some o->h2.get? b=some o:=λb o hb e=>hk b o (by simpa using hb) e;rw[List.drop_length]at hw;unfold forL at hw;obtain⟨i3,g3⟩:=X.inv.gone (tk:=tk) X.mI X.nI zp;exact wpAny_execs_nil (k .next .next _ _ _ _ _ hw i3 (t1.own.trans (X.step.gone hI zp)) (X.er.gone X.mI Bt zp) rfl)⟩
end
noncomputable abbrev NM:=List (Str×NameKind)
variable {nm:NM}
theorem nb(h:(!b)=true):b=false:=by cases b<;>first|rfl|exact dJ h
theorem any_eq{o:Option α}{f:α->Bool}(h:o.any f=true)(k:∀a,o=some a->f a=true->C):C:=by
 rcases o with _|a
 ·exact dJ h
 ·exact k a rfl h
theorem aP{o:Option α}{f:α->Bool}(h:o.any f=true)(k:∀a,f a=true->C):C:=any_eq h λa Y h=>k a h
noncomputable def one?{α:Type}:(l:List α)->Option {a:α // l=[a]}|[a]=>some ⟨a,rfl⟩|_=>none
noncomputable section
noncomputable def zx(e:Expr):Option {es:List Expr // ∃k p,e=.Tuple es k p}:=if h:e.ctorIdx=25 then Expr.Tuple.elim e h λes k p=>some ⟨es,k,p,rfl⟩ else none
noncomputable def JU(e:Expr):Option {q:Const×Nat×Pos // e=.Constant q.1 q.2.1 q.2.2}:=if h:e.ctorIdx=19 then Expr.Constant.elim e h λc k p=>some ⟨(c,k,p),rfl⟩ else none
noncomputable def Yh(e:Expr):Option {q:UnaryOp×Expr×Pos // e=.UnaryOp q.1 q.2.1 q.2.2}:=if h:e.ctorIdx=3 then Expr.UnaryOp.elim e h λo x p=>some ⟨(o,x,p),rfl⟩ else none
noncomputable def cI(c:Const):Option {i:Int // c=.int i}:=if h:c.ctorIdx=2 then Const.int.elim c h λi=>some ⟨i,rfl⟩ else none
noncomputable def cS(c:Const):Option {x:Str // c=.str x}:=if h:c.ctorIdx=5 then Const.str.elim c h λx=>some ⟨x,rfl⟩ else none
noncomputable def DA(f:Str->Bool)(e:Expr):Bool:=if h:e.ctorIdx=23 then Expr.Name.elim e h λn Y=>f n else false
theorem oY{f:Str->Bool}(h:DA f e=true)(k:∀n p,f n=true->G (.Name n p)):G e:=by
 by_cases hc:e.ctorIdx=23
 ·exact Expr.Name.elim (motive_1:=λe=>DA f e=true->G e) e hc (λn p h=>k n p h) h
 ·unfold DA at h
  rw[dif_neg hc]at h;exact dJ h
noncomputable def RX(o:Option NameKind):Bool:=decide (o=some .local)||decide (o=some .cell)
theorem E2{o:Option NameKind}(h:RX o=true):o=some .local\/o=some .cell:=(Bool.or_eq_true_iff.mp h).imp dt dt
noncomputable def wX(nm:NM)(n:Str):Bool:=decide (nm.lookup n=some .globalImplicit)
noncomputable def P8(j:Nat)(nm:NM)(sl:Slots)(e:Expr):Bool:=DA (λn=>decide (sl.lookup n=some j)&&RX (nm.lookup n)&& !(n==("__debug__":Str))) e
noncomputable def RY(v:V):Option Const:=(qb v).elim ((PF v).elim ((WW v).elim ((QU v).map λY=>.none) λb=>some (.bool b)) λs=>some (.str (Str.ofString s))) λi=>some (.int i)
theorem RZ{v:V}{c:Const}(h:RY v=some c){G:V->Const->Prop}(n:G .none .none)(b:∀b,G (.bool b) (.bool b))(i:∀i,G (.int i) (.int i))(s:∀s,G (.str s) (.str (Str.ofString s))):G v c:=
 @V.casesOn (λv=>RY v=some c->G v c) v aN (λh=>di h▸n) (λx h=>di h▸b x) (λx h=>di h▸i x) (λx h=>di h▸s x) (λY=>aN) (λY=>aN) (λY=>aN) (λY Y=>aN) (λY Y Y=>aN) (λY=>aN) (λY=>aN) h
noncomputable def P9(v:V)(e:Expr):Bool:=(RY v).any λc=>((JU e).any λq=>decide (q.1.1=c))||((qb v).any λi=>(Yh e).any λu=>decide (u.1.1=.USub)&&(JU u.1.2.1).any λq=>decide (q.1.1=.int (-i)))
noncomputable def JV(gn:List Str)(k:Nat)(nm:NM)(e:Expr):Bool:=DA (λn=>decide (gn[k]?=some n)&&wX nm n&& !(n==("__debug__":Str))) e
noncomputable def strsOf:List V->Option (List String)
 |[]=>some []
 |k::r=>(PF k).bind λs=>(strsOf r).map (s::·)
noncomputable def Qa(s:String)(e:Option Expr):Bool:=e.any λe=>(JU e).any λq=>decide (q.1.1=.str (Str.ofString s))
noncomputable def E3{α β:Type}(f:α->β->Bool):List α->List β->Bool
 |[],[]=>true
 |a::as,b::bs=>f a b&&E3 f as bs
 |aR,dm=>false
noncomputable def DE(ks:List V)(keys:List (Option Expr))(n:Nat):Bool:=(strsOf ks).any λss=>E3 Qa ss keys&&decide (ss.length=n)&&decide (ss.Nodup)&&decide (ss.length<=1000)&& !ss.isEmpty
noncomputable def isName(s:String)(e:Expr):Bool:=DA (λn=>decide (n=Str.ofString s)) e
noncomputable def nameOf?(e:Expr):Option Str:=if h:e.ctorIdx=23 then Expr.Name.elim e h λn Y=>some n else none
noncomputable def zy(single:Bool)(t:Expr):List Str:=bif single then(nameOf? t).toList else(zx t).elim [] λq=>q.1.filterMap nameOf?
noncomputable def qu(ac:Bool)(nm:NM)(sl:Slots)(j:Nat)(e:Expr):Bool:=DA (λn=>decide (sl.lookup n=some j)&&(decide (nm.lookup n=some .local)||(ac&&decide (nm.lookup n=some .cell)))) e
noncomputable def oZ(ac:Bool)(nm:NM)(sl:Slots)(single:Bool)(ts:List Nat)(t:Expr):Bool:=bif single then(one? ts).any λj=>qu ac nm sl j.1 t else(zx t).any λq=>E3 (qu ac nm sl) ts q.1
noncomputable def zz(sl:Slots):Bool:=decide ((sl.map (·.2)).Nodup)
noncomputable def zA(scope:Scope)(nm:NM)(sl P5:Slots)(ts:List Nat):Bool:=
 decide (scope.kind=.function)&&scope.names.all (λy=>decide (y.2≠.cell))&&scope.names.all (λy=>decide (y.2=.local->scope.names.lookup y.1=some .local))&&
 scope.names.all (λy=>decide (y.2=.free->nm.lookup y.1=some .cell)&&(decide (y.2≠.free)||(sl.lookup y.1).isSome))&&
 zz P5&&
 P5.all (λp=>decide (P5.lookup p.1≠some p.2)||(decide ((zq scope.names nm).lookup p.1≠some .local)||decide (p.2∈ts))&&
  (decide ((zq scope.names nm).lookup p.1≠some .cell)||(decide ((p.1,NameKind.free)∈scope.names)&&decide (sl.lookup p.1=some p.2)&&decide (p.2∉ts))))
end
theorem qX{f:α->β->Bool}{R:α->β->Prop}(h:∀a b,f a b=true->R a b){as:List α}:∀{bs:List β},E3 f as bs=true->eT R as bs:=by
 induction as with
 |nil=>
  intro bs e;rcases bs with _|⟨b,bs⟩
  ·trivial
  ·exact dJ e
 |cons a as ih=>
  intro bs e;rcases bs with _|⟨b,bs⟩
  ·exact dJ e
  ·exact⟨h a b (aV e),ih (cJ e)⟩
theorem iC{t:Expr}(h:qu ac nm sl j t=true):iA ac nm sl j t:=
 oY h λn p h=>⟨dt (aV h),(Bool.or_eq_true_iff.mp (cJ h)).imp dt λq=>⟨(aV q),dt (cJ q)⟩⟩
theorem gR{t:Expr}(h:oZ ac nm sl single ts t=true):iB ac nm sl single ts t:=by
 cases single with
 |true=>exact aP (show(one? ts).any _=true from h) λj hj=>⟨j.1,j.2,iC hj⟩
 |false=>exact aP (show(zx t).any _=true from h) λq hq=>q.2.elim λk r=>r.elim λp e=>⟨q.1,k,p,e,qX (λY Y=>iC) hq⟩
theorem DF:∀{ss:List String},strsOf ks=some ss->ks=ss.map V.str:=by
 induction ks with
 |nil=>exact λe=>di e▸rfl
 |cons k r ih=>exact λe=>f9 e λs hs e=>nW e λl hl e=>by rw[<-e,tU hs,ih hl];rfl
theorem Hf{s:String}{e:Option Expr}(h:Qa s e=true):zo s e:=any_eq h λe' he h=>aP h λq hq=>⟨q.1.2.1,q.1.2.2,he.trans (congrArg some (q.2.trans (congrArg (Expr.Constant · _ _) (dt hq))))⟩
theorem uv{keys:List (Option Expr)}(h:DE ks keys n=true):∃ss,ks=ss.map V.str/\eT zo ss keys/\ss.length=n/\ss.Nodup/\ss.length<=1000/\ss≠[]:=
 any_eq h λss e h=>have a:=an h;have b:=an a.1;have c:=an b.1;have d:=an c.1
  ⟨ss,DF e,qX (λY Y=>Hf) d.1,dt d.2,dt c.2,dt b.2,λz=>by rw[z]at a;exact dJ a.2⟩
theorem xM(h:zz sl=true):∀n n' i,sl.lookup n=some i->sl.lookup n'=some i->n=n':=by
 intro n n' i e e';have h:=dt h;have m:=mem_of_lookup e;have m':=mem_of_lookup e';obtain⟨a,ha⟩:=List.mem_iff_getElem.mp m;obtain⟨b,hb⟩:=List.mem_iff_getElem.mp m';obtain⟨la,ea⟩:=ha;obtain⟨lb,eb⟩:=hb;have nd:=List.pairwise_iff_getElem.mp h;have key:∀(x y:Nat) (lx:x<sl.length) (ly:y<sl.length),sl[x].2=i->sl[y].2=i->¬ x<y:=λx y lx ly ex ey hxy=>by
  have:=nd x y (by simpa using lx) (by simpa using ly) hxy;simp only[List.getElem_map]at this;exact this (ex.trans ey.symm)
 have h1:=key a b la lb (by rw[ea]) (by rw[eb]);have h2:=key b a lb la (by rw[eb]) (by rw[ea]);have:a=b:=by lia
 subst this;rw[ea]at eb;exact(Prod.mk.inj eb).1
theorem qY{C:Cx}{P5:Slots}(h:zA scope C.nm C.sl P5 ts=true):zv C ⟨C.P,C.cf,C.n,zq scope.names C.nm,P5⟩ scope ts:=by
 unfold zA at h;simp only[Bool.and_eq_true,decide_eq_true_eq,List.all_eq_true]at h;obtain⟨⟨⟨⟨⟨h1,h2⟩,h3⟩,h4⟩,h5⟩,h6⟩:=h;refine⟨rfl,rfl,rfl,rfl,h1,h2,h3,λn m=>?_,xM h5,λn i e1 e2=>?_,λn i e1 e2=>?_⟩
 ·obtain⟨a,b⟩:=h4 _ m
  refine⟨a rfl,?_⟩;simp only[ne_eq,not_true_eq_false,decide_false,Bool.false_or]at b;exact Option.isSome_iff_exists.mp b
 ·have:=h6 _ (mem_of_lookup e2)
  simp only[Bool.or_eq_true,Bool.and_eq_true,decide_eq_true_eq]at this;rcases this with q|⟨q,_⟩
  ·exact absurd e2 q
  ·rcases q with q|q
   ·exact absurd e1 q
   ·exact q
 ·have:=h6 _ (mem_of_lookup e2)
  simp only[Bool.or_eq_true,Bool.and_eq_true,decide_eq_true_eq]at this;rcases this with q|⟨_,q⟩
  ·exact absurd e2 q
  ·rcases q with q|⟨⟨q1,q2⟩,q3⟩
   ·exact absurd e1 q
   ·exact⟨q1,q2,q3⟩
structure Tab where
 gn:List Str
 cls:List (String×Nat)
 an:List String
variable {T:Tab}
noncomputable def zB{α:Type}:(l:List α)->Option {q:α×α // l=[q.1,q.2]}|[a,b]=>some ⟨(a,b),rfl⟩|_=>none
noncomputable def Vq{α:Type}:(l:List α)->Option (PLift (l=[]))|[]=>some ⟨rfl⟩|_=>none
theorem Vr{gs:List Comprehension}{sc:Scope}:(g:Comprehension)->gs=[g]->g.is_async=0->Expr.ListComp elt gs sc p=.ListComp elt [⟨g.target,g.iter,g.ifs,0⟩] sc p
 |⟨aR,dm,p8,JW⟩,e,q=>e▸(show _=(0:Int) from q)▸rfl
noncomputable section
noncomputable def Vs(e:Expr):Option {q:Expr×Operator×Expr // ∃p,e=.BinOp q.1 q.2.1 q.2.2 p}:=if h:e.ctorIdx=2 then Expr.BinOp.elim e h λl o r p=>some ⟨(l,o,r),p,rfl⟩ else none
noncomputable def NC(e:Expr):Option {es:List Expr // ∃p,e=.List es p}:=if h:e.ctorIdx=24 then Expr.List.elim e h λes p=>some ⟨es,p,rfl⟩ else none
noncomputable def JX(e:Expr):Option {q:List (Option Expr)×List Expr // ∃p,e=.Dict q.1 q.2 p}:=if h:e.ctorIdx=6 then Expr.Dict.elim e h λks vs p=>some ⟨(ks,vs),p,rfl⟩ else none
noncomputable def Vt(e:Expr):Option {x:Expr // ∃p,e=.UnaryOp .Not x p}:=if h:e.ctorIdx=3 then Expr.UnaryOp.elim e h λo x p=>if q:o=.Not then some ⟨x,p,q▸rfl⟩ else none else none
noncomputable def Vu(e:Expr):Option {q:BoolOp×List Expr // ∃p,e=.BoolOp q.1 q.2 p}:=if h:e.ctorIdx=0 then Expr.BoolOp.elim e h λo es p=>some ⟨(o,es),p,rfl⟩ else none
noncomputable def R0(e:Expr):Option {q:Expr×List CmpOp×List Expr // ∃p,e=.Compare q.1 q.2.1 q.2.2 p}:=if h:e.ctorIdx=15 then Expr.Compare.elim e h λl os cs p=>some ⟨(l,os,cs),p,rfl⟩ else none
noncomputable def Vv(e:Expr):Option {q:Expr×Expr×Expr // ∃p,e=.IfExp q.1 q.2.1 q.2.2 p}:=if h:e.ctorIdx=5 then Expr.IfExp.elim e h λc a b p=>some ⟨(c,a,b),p,rfl⟩ else none
noncomputable def ND(e:Expr):Option {q:Expr×Expr // ∃p,e=.Subscript q.1 q.2 p}:=if h:e.ctorIdx=21 then Expr.Subscript.elim e h λa i p=>some ⟨(a,i),p,rfl⟩ else none
noncomputable def JY(e:Expr):Option {q:Option Expr×Option Expr // ∃p,e=.Slice q.1 q.2 none p}:=if h:e.ctorIdx=26 then Expr.Slice.elim e h λl u s p=>if q:s.isNone=true then some ⟨(l,u),p,Option.isNone_iff_eq_none.mp q▸rfl⟩ else none else none
noncomputable def uw(e:Expr):Option {q:Expr×Str // ∃p,e=.Attribute q.1 q.2 p}:=if h:e.ctorIdx=20 then Expr.Attribute.elim e h λa n p=>some ⟨(a,n),p,rfl⟩ else none
noncomputable def kN(e:Expr):Option {q:Expr×List Expr // ∃p,e=.Call q.1 q.2 [] p}:=if h:e.ctorIdx=16 then Expr.Call.elim e h λf es kw p=>if q:kw.isEmpty=true then some ⟨(f,es),p,List.isEmpty_iff.mp q▸rfl⟩ else none else none
noncomputable def Bu(e:Expr):Option {q:Expr×Str×Pos×List Expr×Pos // e=.Call (.Attribute q.1 q.2.1 q.2.2.1) q.2.2.2.1 [] q.2.2.2.2}:=if h:e.ctorIdx=16 then Expr.Call.elim e h λf es kw p=>if q:kw.isEmpty=true then
 if hf:f.ctorIdx=20 then Expr.Attribute.elim f hf λo n ap=>some ⟨(o,n,ap,es,p),List.isEmpty_iff.mp q▸rfl⟩ else none else none else none
noncomputable def Qc(e:Expr):Option {q:Expr×Expr×Expr×List Expr×Scope // ∃p,e=.ListComp q.1 [⟨q.2.1,q.2.2.1,q.2.2.2.1,0⟩] q.2.2.2.2 p}:=if h:e.ctorIdx=8 then Expr.ListComp.elim e h λelt gs sc p=>(one? gs).bind λg=>if q:g.1.is_async=0 then
 some ⟨(elt,g.1.target,g.1.iter,g.1.ifs,sc),p,Vr g.1 g.2 q⟩ else none else none
noncomputable abbrev eName(e:Expr):Option Str:=nameOf? e
end
theorem any_some{o:Option α}{f:α->Bool}(h:o.any f=true):∃a,f a=true:=aP h λa h=>⟨a,h⟩
noncomputable def ux(n:Str)(s:String)(o:Expr)(ap p:Pos):Bool:=decide (n=Str.ofString s)&&gu o&&(ap.endLine==p.line)
mutual
noncomputable def fX(T:Tab):X->NM->Slots->Expr->Bool
 |.aa j,nm,sl,e=>P8 j nm sl e
 |.aI v,aR,dm,e=>P9 v e
 |.aA k,nm,aR,e=>JV T.gn k nm e
 |.af xs,nm,sl,e=>(zx e).any λ⟨es,_⟩=>qv T xs nm sl es&&decide (es.length<=1000)
 |.bJ xs,nm,sl,e=>(NC e).any λ⟨es,_⟩=>qv T xs nm sl es&&decide (es.length<=1000)
 |.oj xs,nm,sl,e=>(NC e).any λ⟨es,_⟩=>qv T xs nm sl es&&decide (es.length<=1000)
 |.nQ ks xs,nm,sl,e=>(JX e).any λ⟨(keys,es),_⟩=>qv T xs nm sl es&&DE ks keys xs.length
 |.iZ ks xs,nm,sl,e=>(JX e).any λ⟨(keys,es),_⟩=>qv T xs nm sl es&&(DE ks keys xs.length||(ks.isEmpty&&keys.isEmpty&&xs.isEmpty))
 |.bin o a b,nm,sl,e=>(Vs e).any λ⟨(l,op,r),_⟩=>decide (op=wL o)&&fX T a nm sl l&&fX T b nm sl r
 |.not a,nm,sl,e=>(Vt e).any λ⟨x,_⟩=>fX T a nm sl x
 |.kI bT xs,nm,sl,e=>(Vu e).any λ⟨(o,es),_⟩=>decide (o=if bT then .And else .Or)&&qv T xs nm sl es&& !xs.isEmpty
 |.cmp o a b,nm,sl,e=>(R0 e).any λ⟨(l,os,cs),_⟩=>(one? os).any λ⟨op,_⟩=>(one? cs).any λ⟨r,_⟩=>decide (op=ff o)&&fX T a nm sl l&&fX T b nm sl r&& !behindInMarks (ff o) r
 |.chain a o b o' c,nm,sl,e=>(R0 e).any λ⟨(l,os,cs),_⟩=>(zB os).any λ⟨(op,Yi),_⟩=>(zB cs).any λ⟨(m,r),_⟩=>decide (op=ff o)&&decide (Yi=ff o')&&fX T a nm sl l&&fX T b nm sl m&&fX T c nm sl r&& !lastMarks [ff o,ff o'] [m,r]
 |.ite c a b,nm,sl,e=>(Vv e).any λ⟨(ec,ea,eb),_⟩=>fX T c nm sl ec&&fX T a nm sl ea&&fX T b nm sl eb
 |.sub a i,nm,sl,e=>(ND e).any λ⟨(ea,ei),_⟩=>fX T a nm sl ea&&fX T i nm sl ei
 |.slice a lo hi,nm,sl,e=>(ND e).any λ⟨(ea,es),_⟩=>(JY es).any λ⟨(l,h),_⟩=>fX T a nm sl ea&&Xb T lo nm sl l&&Xb T hi nm sl h
 |.attr a n,nm,sl,e=>(uw e).any λ⟨(ea,m),_⟩=>decide (m=Str.ofString n)&&fX T a nm sl ea&&gu ea&&decide (n∈T.an)
 |.call f xs,nm,sl,e=>(kN e).any λ⟨(ef,es),_⟩=>fX T f nm sl ef&&qv T xs nm sl es&&notAttr ef
 |.len a,nm,sl,e=>(kN e).any λ⟨(ef,es),_⟩=>(one? es).any λ⟨ea,_⟩=>isName "len" ef&&wX nm (Str.ofString "len")&&fX T a nm sl ea&&notStar ea
 |.range xs,nm,sl,e=>(kN e).any λ⟨(ef,es),_⟩=>isName "range" ef&&wX nm (Str.ofString "range")&&qv T xs nm sl es
 |.PD b a,nm,sl,e=>(kN e).any λ⟨(ef,es),_⟩=>(zB es).any λ⟨(ea,et),_⟩=>isName "isinstance" ef&&wX nm (Str.ofString "isinstance")&&isName (if b then "str" else "tuple") et&&wX nm (Str.ofString (if b then "str" else "tuple"))&&fX T a nm sl ea&&notStar ea
 |.toList a,nm,sl,e=>(kN e).any λ⟨(ef,es),_⟩=>(one? es).any λ⟨ea,_⟩=>isName "list" ef&&wX nm (Str.ofString "list")&&fX T a nm sl ea&&notStar ea
 |.Az a,nm,sl,e=>(kN e).any λ⟨(ef,es),_⟩=>(one? es).any λ⟨ea,_⟩=>isName "tuple" ef&&wX nm (Str.ofString "tuple")&&fX T a nm sl ea&&notStar ea
 |.min a,nm,sl,e=>(kN e).any λ⟨(ef,es),_⟩=>(one? es).any λ⟨ea,_⟩=>isName "min" ef&&wX nm (Str.ofString "min")&&fX T a nm sl ea&&notStar ea
 |.get d k x,nm,sl,e=>(Bu e).any λ⟨(o,n,ap,es,p),_⟩=>(zB es).any λ⟨(ek,ex),_⟩=>ux n "get" o ap p&&fX T d nm sl o&&fX T k nm sl ek&&fX T x nm sl ex&&notStar ek&&notStar ex
 |.append l x,nm,sl,e=>(Bu e).any λ⟨(o,n,ap,es,p),_⟩=>(one? es).any λ⟨ex,_⟩=>ux n "append" o ap p&&fX T l nm sl o&&fX T x nm sl ex&&notStar ex
 |.pop l,nm,sl,e=>(Bu e).any λ⟨(o,n,ap,es,p),_⟩=>(Vq es).any λY=>ux n "pop" o ap p&&fX T l nm sl o
 |.update l x,nm,sl,e=>(Bu e).any λ⟨(o,n,ap,es,p),_⟩=>(one? es).any λ⟨ex,_⟩=>ux n "update" o ap p&&fX T l nm sl o&&fX T x nm sl ex&&notStar ex
 |.comp elt single ts it c,nm,sl,e=>(Qc e).any λ⟨(ee,t,ei,ifs,sc),_⟩=>zA sc nm sl ((zy single t).zip ts++sl) ts&&oZ false (zq sc.names nm) ((zy single t).zip ts++sl) single ts t&&qt ei&&fX T it nm sl ei&&fX T elt (zq sc.names nm) ((zy single t).zip ts++sl) ee&&ZT T c (zq sc.names nm) ((zy single t).zip ts++sl) ifs
 |.new aR c k xs,nm,sl,e=>(kN e).any λ⟨(ef,es),_⟩=>isName c ef&&wX nm (Str.ofString c)&& !(Str.ofString c==("__debug__":Str))&&decide ((c,k)∈T.cls)&&qv T xs nm sl es
 |.r9 a,nm,sl,e=>fX T a nm sl e&&((uw e).isSome||(eName e).isSome||(kN e).isSome)
noncomputable def qv(T:Tab):List X->NM->Slots->List Expr->Bool
 |[],aR,dm,es=>es.isEmpty
 |x::xs,nm,sl,es=>(match es with|e::es=>notStar e&&fX T x nm sl e&&qv T xs nm sl es|[]=>false)
noncomputable def Xb(T:Tab):Option X->NM->Slots->Option Expr->Bool
 |none,aR,dm,e=>e.isNone
 |some x,nm,sl,e=>(match e with|some e=>fX T x nm sl e|none=>false)
noncomputable def ZT(T:Tab):Option X->NM->Slots->List Expr->Bool
 |none,aR,dm,es=>es.isEmpty
 |some x,nm,sl,es=>(match es with|[e]=>fX T x nm sl e|_=>false)
end
theorem fJ{s:String}(h:isName s e=true):∃p,e=.Name (Str.ofString s) p:=oY h (G:=λe=>∃p,e=.Name (Str.ofString s) p) λn p h=>⟨p,congrArg (Expr.Name · p) (dt h)⟩
theorem gS{n:Str}(h:wX nm n=true):nm.lookup n=some .globalImplicit:=dt h
theorem qw{a b:α}{G:α->Prop}(q:a=b)(g:G b):G a:=q▸g
section
variable {e:Expr}{G:Expr->Prop}
theorem NF{f:_->Bool}(h:(Vs e).any f=true)(k:∀l o r p pf,f ⟨(l,o,r),pf⟩=true->G (.BinOp l o r p)):G e:=aP h λq hq=>q.2.elim λp z=>qw z (k _ _ _ p q.2 hq)
theorem NG{f:_->Bool}(h:(zx e).any f=true)(k:∀es q p pf,f ⟨es,pf⟩=true->G (.Tuple es q p)):G e:=aP h λq hq=>q.2.elim λx r=>r.elim λp z=>qw z (k _ x p q.2 hq)
theorem E4{f:_->Bool}(h:(NC e).any f=true)(k:∀es p pf,f ⟨es,pf⟩=true->G (.List es p)):G e:=aP h λq hq=>q.2.elim λp z=>qw z (k _ p q.2 hq)
theorem Bv{f:_->Bool}(h:(JX e).any f=true)(k:∀ks es p pf,f ⟨(ks,es),pf⟩=true->G (.Dict ks es p)):G e:=aP h λq hq=>q.2.elim λp z=>qw z (k _ _ p q.2 hq)
theorem NH{f:_->Bool}(h:(Vt e).any f=true)(k:∀x p pf,f ⟨x,pf⟩=true->G (.UnaryOp .Not x p)):G e:=aP h λq hq=>q.2.elim λp z=>qw z (k _ p q.2 hq)
theorem NI{f:_->Bool}(h:(Vu e).any f=true)(k:∀o es p pf,f ⟨(o,es),pf⟩=true->G (.BoolOp o es p)):G e:=aP h λq hq=>q.2.elim λp z=>qw z (k _ _ p q.2 hq)
theorem E5{f:_->Bool}(h:(R0 e).any f=true)(k:∀l os cs p pf,f ⟨(l,os,cs),pf⟩=true->G (.Compare l os cs p)):G e:=aP h λq hq=>q.2.elim λp z=>qw z (k _ _ _ p q.2 hq)
theorem NJ{f:_->Bool}(h:(Vv e).any f=true)(k:∀c a b p pf,f ⟨(c,a,b),pf⟩=true->G (.IfExp c a b p)):G e:=aP h λq hq=>q.2.elim λp z=>qw z (k _ _ _ p q.2 hq)
theorem zC{f:_->Bool}(h:(ND e).any f=true)(k:∀a i p pf,f ⟨(a,i),pf⟩=true->G (.Subscript a i p)):G e:=aP h λq hq=>q.2.elim λp z=>qw z (k _ _ p q.2 hq)
theorem Hg{f:_->Bool}(h:(JY e).any f=true)(k:∀l u p pf,f ⟨(l,u),pf⟩=true->G (.Slice l u none p)):G e:=aP h λq hq=>q.2.elim λp z=>qw z (k _ _ p q.2 hq)
theorem uy{f:_->Bool}(h:(uw e).any f=true)(k:∀a n p pf,f ⟨(a,n),pf⟩=true->G (.Attribute a n p)):G e:=aP h λq hq=>q.2.elim λp z=>qw z (k _ _ p q.2 hq)
theorem gB{f:_->Bool}(h:(kN e).any f=true)(k:∀g es p pf,f ⟨(g,es),pf⟩=true->G (.Call g es [] p)):G e:=aP h λq hq=>q.2.elim λp z=>qw z (k _ _ p q.2 hq)
theorem o6{f:_->Bool}(h:(Bu e).any f=true)(k:∀o n ap es p pf,f ⟨(o,n,ap,es,p),pf⟩=true->G (.Call (.Attribute o n ap) es [] p)):G e:=aP h λq hq=>qw q.2 (k _ _ _ _ _ q.2 hq)
theorem Bw{f:_->Bool}(h:(Qc e).any f=true)(k:∀a t i c s p pf,f ⟨(a,t,i,c,s),pf⟩=true->G (.ListComp a [⟨t,i,c,0⟩] s p)):G e:=aP h λq hq=>q.2.elim λp z=>qw z (k _ _ _ _ _ p q.2 hq)
theorem lN{l:List α}{f:_->Bool}{G:List α->Prop}(h:(one? l).any f=true)(k:∀a pf,f ⟨a,pf⟩=true->G [a]):G l:=aP h λq hq=>qw q.2 (k _ q.2 hq)
theorem uz{α:Type}{l:List α}{f:_->Bool}{G:List α->Prop}(h:(zB l).any f=true)(k:∀a b pf,f ⟨(a,b),pf⟩=true->G [a,b]):G l:=aP h λq hq=>qw q.2 (k _ _ q.2 hq)
theorem R8{l:List α}{f:_->Bool}{G:List α->Prop}(h:(Vq l).any f=true)(k:∀pf,f pf=true->G []):G l:=aP h λq hq=>qw q.1 (k q hq)
end
structure World1 (T:Tab) (P:PV) (cf:CF) (n:Nat):Prop where
 good:Good P T.gn
 call:zm P cf n
 cls:∀c ca,P.ca c=some ca->oQ P.K ca T.an
 new:∀c k,(c,k)∈T.cls->∃ca,JF P c k ca
section
variable {C:Cx}
theorem cV{x:X}(hx:aW C x e)(he:∀env whole,isTrue e env whole=(do let v<-whole;standAt e.pos;holding [v] (truthy v))):gf C x e:=⟨hx,Js hx he⟩
theorem R9{k:Int}:aW C (.aI (.int (-k))) (.UnaryOp .USub (.Constant (.int k) nc p) pos):=⟨λ{A env s φ M Z ρ Q E Q'} room i er nm h kk=>by
 refine wpAny_UnaryOp (wpAny_Constant_int (PySem.P.neg_int ?_));exact kk.tok i h ⟨_,rfl⟩⟩
theorem Hh{v:V}(h:P9 v e=true):gf C (.aI v) e:=any_eq h λc hl h=>by
 rcases Bool.or_eq_true_iff.mp h with h|h
 ·exact aP h λq hq=>by
   rw[q.2,dt hq];exact RZ hl (G:=λv c=>gf C (.aI v) (.Constant c _ _)) (cV Bf λY Y=>rfl) (λb=>cV Bg λY Y=>rfl) (λi=>cV Dv λY Y=>rfl) (λx=>cV Dw λY Y=>rfl)
 ·exact any_eq h λi hi h=>aP h λu hu=>aP (cJ hu) λq hq=>by
   have z:=q.2;rw[dt hq]at z;rw[u.2,dt (aV hu),z,iz hi,show(V.int i)=.int (- -i) from congrArg V.int (Int.neg_neg i).symm];exact cV R9 λY Y=>rfl
theorem Hi(h:P8 j C.nm C.sl e=true):gf C (.aa j) e:=oY h λn p h=>cV (Rb (dt (aV (aV h))) (E2 (cJ (aV h))) (nb (cJ h))) λY Y=>rfl
theorem DG(G:Good C.P gn){k:Nat}(h:JV gn k C.nm e=true):gf C (.aA k) e:=oY h λn p h=>cV (Ni G (dt (aV (aV h))) (gS (cJ (aV h))) (nb (cJ h))) λY Y=>rfl
theorem fR:∀{xs:List X} {es:List Expr},eT (gf C) xs es->eT (aW C) xs es
 |[],[],aR=>trivial
 |aR::dm,p8::JW,h=>⟨h.1.1,fR h.2⟩
 |[],aR::dm,h=>h.elim
 |aR::dm,[],h=>h.elim
end
theorem sG{n:Str}{s:String}{o:Expr}{ap:Pos}(h:ux n s o ap p=true):n=Str.ofString s/\gu o=true/\(ap.endLine==p.line)=true:=⟨dt (aV (aV h)),(cJ (aV h)),(cJ h)⟩
theorem Vw(h:(nameOf? e).isSome=true)(k:∀n p,G (.Name n p)):G e:=by
 by_cases hc:e.ctorIdx=23
 ·exact Expr.Name.elim e hc k
 ·unfold nameOf? at h
  rw[dif_neg hc]at h;exact dJ h
theorem Hj(h:((uw e).isSome||(eName e).isSome||(kN e).isSome)=true):∀env whole,isTrue e env whole=(do let v<-whole;standAt e.pos;holding [v] (truthy v)):=by
 rcases Bool.or_eq_true_iff.mp h with h|h
 ·rcases Bool.or_eq_true_iff.mp h with h|h
  ·exact(Option.isSome_iff_exists.mp h).elim λq Y=>q.2.elim λp z=>z▸λY Y=>rfl
  ·exact Vw (G:=λe=>∀env whole,isTrue e env whole=(do let v<-whole;standAt e.pos;holding [v] (truthy v))) h λY Y Y Y=>rfl
 ·exact(Option.isSome_iff_exists.mp h).elim λq Y=>q.2.elim λp z=>z▸λY Y=>rfl
mutual
theorem aH(W:World1 T P cf n):∀(x:X) (nm:NM) (sl:Slots) (e:Expr),fX T x nm sl e=true->gf ⟨P,cf,n,nm,sl⟩ x e
 |.aa j,nm,sl,e,h=>Hi (C:=⟨P,cf,n,nm,sl⟩) (h)
 |.aI v,nm,sl,e,h=>Hh (h)
 |.aA k,nm,sl,e,h=>DG (C:=⟨P,cf,n,nm,sl⟩) W.good (h)
 |.af xs,nm,sl,aR,h=>NG h λes Y Y Y h=>have z:=cW W xs nm sl es (aV h);cV (Jv (jS (fR z.1) z.2) (dt (cJ h))) λY Y=>rfl
 |.bJ xs,nm,sl,aR,h=>E4 h λes Y Y h=>have z:=cW W xs nm sl es (aV h);cV (Ng (jS (fR z.1) z.2) (dt (cJ h))) λY Y=>rfl
 |.oj xs,nm,sl,aR,h=>E4 h λes Y Y h=>have z:=cW W xs nm sl es (aV h);cV (Nh (jS (fR z.1) z.2) (dt (cJ h))) λY Y=>rfl
 |.nQ ks xs,nm,sl,aR,h=>Bv h λkeys es Y Y h=>by
  have z:=cW W xs nm sl es (aV h);refine cps λG g=>?_;obtain⟨ss,rfl,k1,k2,k3,k4,k5⟩:=uv (cJ h);refine g ?_;exact cV (Nr k1 (fR z.1) k2 k3 k4 k5) λY Y=>rfl
 |.iZ ks xs,nm,sl,aR,h=>Bv h λkeys es Y Y h=>by
  have z:=cW W xs nm sl es (aV h);rcases Bool.or_eq_true_iff.mp (cJ h)with h2|h2
  ·obtain⟨ss,rfl,k1,k2,k3,k4,k5⟩:=uv h2
   exact cV (Nt k1 (fR z.1) k2 k3 k4 k5) λY Y=>rfl
  ·have e1:=List.isEmpty_iff.mp (aV (aV h2))
   have e2:=List.isEmpty_iff.mp (cJ (aV h2));have e3:=List.isEmpty_iff.mp (cJ h2);subst e1 e2 e3;induction es with
   |nil=>exact cV JM λY Y=>rfl
   |cons aR dm=>exact z.1.elim
 |.bin o a b,nm,sl,aR,h=>NF h λl op r Y Y h=>by
  have e:=dt (aV (aV h));subst e;exact cV (Rc (aH W a nm sl l (cJ (aV h))).1 (aH W b nm sl r (cJ h)).1) λY Y=>rfl
 |.not a,nm,sl,aR,h=>NH h λx Y Y h=>⟨Rd (aH W a nm sl x h).1,Rf (aH W a nm sl x h).2⟩
 |.kI bT xs,nm,sl,aR,h=>NI h λo es Y Y h=>by
  have e:=dt (aV (aV h));subst e;have z:=cW W xs nm sl es (cJ (aV h));cases xs with
  |nil=>exact nomatch (cJ h)
  |cons x xs=>induction es with
   |nil=>exact z.1.elim
   |cons e es=>exact Rx z.1
 |.cmp o a b,nm,sl,aR,h=>E5 h λl Y Y Y Y h=>lN (G:=λos=>gf _ _ (.Compare _ os _ _)) h λop Y h=>lN (G:=λcs=>gf _ _ (.Compare _ _ cs _)) h λr Y h=>by
  have h:(decide (op=ff o)&&fX T a nm sl l&&fX T b nm sl r&& !behindInMarks (ff o) r)=true:=h;have e:=dt (aV (aV (aV h)));subst e;have x1:=aH W a nm sl l (cJ (aV (aV h)));have x2:=aH W b nm sl r (cJ (aV h));exact⟨Rg x1.1 x2.1 (nb (cJ h)),Rh x1.1 x2.1 (nb (cJ h))⟩
 |.chain a o b o' c,nm,sl,aR,h=>E5 h λl Y Y Y Y h=>uz (G:=λos=>gf _ _ (.Compare _ os _ _)) h λop Yi Y h=>uz (G:=λcs=>gf _ _ (.Compare _ _ cs _)) h λm r Y h=>by
  have h:(decide (op=ff o)&&decide (Yi=ff o')&&fX T a nm sl l&&fX T b nm sl m&&fX T c nm sl r&& !lastMarks [ff o,ff o'] [m,r])=true:=h;have e1:=dt (an (an (aV (aV (aV h)))).1).1;have e2:=dt (an (an (aV (aV (aV h)))).1).2;subst e1 e2;exact JE (aH W a nm sl l (an (aV (aV (aV h)))).2).1 (aH W b nm sl m (cJ (aV (aV h)))).1 (aH W c nm sl r (cJ (aV h))).1 (nb (cJ h))
 |.ite c a b,nm,sl,aR,h=>NJ h λec ea eb Y Y h=>
  have a1:=aH W c nm sl ec (aV (aV h));have a2:=aH W a nm sl ea (cJ (aV h));have a3:=aH W b nm sl eb (cJ h)
  ⟨Ri a1.2 a2.1 a3.1,Rj a1.2 a2.2 a3.2⟩
 |.sub a i,nm,sl,aR,h=>zC h λea ei Y Y h=>cV (Rk (aH W a nm sl ea (aV h)).1 (aH W i nm sl ei (cJ h)).1) λY Y=>rfl
 |.slice a lo hi,nm,sl,aR,h=>zC h λea Y Y Y h=>Hg (G:=λes=>gf _ _ (.Subscript _ es _)) h λl u Y Y h=>
  cV (JA (aH W a nm sl ea (aV (aV h))).1 (qx W lo nm sl l (cJ (aV h))) (qx W hi nm sl u (cJ h))) λY Y=>rfl
 |.attr a m,nm,sl,aR,h=>uy h λea k Y Y h=>by
  have e:=dt (aV (aV (aV h)));subst e;exact cV (Nl (C:=⟨P,cf,n,nm,sl⟩) W.good W.cls (dt (cJ h)) (aH W a nm sl ea (cJ (aV (aV h)))).1 (cJ (aV h))) λY Y=>rfl
 |.call f xs,nm,sl,aR,h=>gB h λef es Y Y h=>
  have z:=cW W xs nm sl es (cJ (aV h))
  cV (Nm (C:=⟨P,cf,n,nm,sl⟩) W.call (aH W f nm sl ef (aV (aV h))).1 (fR z.1) z.2 (cJ h)) λY Y=>rfl
 |.len a,nm,sl,aR,h=>gB h λef Y Y Y h=>lN (G:=λes=>gf _ _ (.Call _ es _ _)) h λea Y h=>by
  obtain⟨q,rfl⟩:=fJ (aV (aV (aV h)));exact cV (Rl (C:=⟨P,cf,n,nm,sl⟩) W.good (gS (cJ (aV (aV h)))) (aH W a nm sl ea (cJ (aV h))).1 (cJ h)) λY Y=>rfl
 |.range xs,nm,sl,aR,h=>gB h λef es Y Y h=>by
  obtain⟨q,rfl⟩:=fJ (aV (aV h));have z:=cW W xs nm sl es (cJ h);exact cV (JB (C:=⟨P,cf,n,nm,sl⟩) W.good (gS (cJ (aV h))) (fR z.1) z.2) λY Y=>rfl
 |.PD b a,nm,sl,aR,h=>gB h λef Y Y Y h=>uz (G:=λes=>gf _ _ (.Call _ es _ _)) h λea et Y h=>by
  obtain⟨q,rfl⟩:=fJ (an (an (aV (aV (aV h)))).1).1;obtain⟨q2,rfl⟩:=fJ (an (aV (aV (aV h)))).2;exact cV (Rn (C:=⟨P,cf,n,nm,sl⟩) W.good (gS (an (an (aV (aV (aV h)))).1).2) (gS (cJ (aV (aV h)))) (aH W a nm sl ea (cJ (aV h))).1 (cJ h)) λY Y=>rfl
 |.toList a,nm,sl,aR,h=>gB h λef Y Y Y h=>lN (G:=λes=>gf _ _ (.Call _ es _ _)) h λea Y h=>by
  obtain⟨q,rfl⟩:=fJ (aV (aV (aV h)));exact cV (GY (C:=⟨P,cf,n,nm,sl⟩) W.good (gS (cJ (aV (aV h)))) (aH W a nm sl ea (cJ (aV h))).1 (cJ h)) λY Y=>rfl
 |.Az a,nm,sl,aR,h=>gB h λef Y Y Y h=>lN (G:=λes=>gf _ _ (.Call _ es _ _)) h λea Y h=>by
  obtain⟨q,rfl⟩:=fJ (aV (aV (aV h)));exact cV (JC (C:=⟨P,cf,n,nm,sl⟩) W.good (gS (cJ (aV (aV h)))) (aH W a nm sl ea (cJ (aV h))).1 (cJ h)) λY Y=>rfl
 |.min a,nm,sl,aR,h=>gB h λef Y Y Y h=>lN (G:=λes=>gf _ _ (.Call _ es _ _)) h λea Y h=>by
  obtain⟨q,rfl⟩:=fJ (aV (aV (aV h)));exact cV (Rm (C:=⟨P,cf,n,nm,sl⟩) W.good (gS (cJ (aV (aV h)))) (aH W a nm sl ea (cJ (aV h))).1 (cJ h)) λY Y=>rfl
 |.get d k x,nm,sl,aR,h=>o6 h λo m ap Y p Y h=>uz (G:=λes=>gf _ _ (.Call _ es _ _)) h λek ex Y h=>by
  obtain⟨rfl,h1,h2⟩:=sG (an (an (aV (aV (aV h)))).1).1;exact cV (Rt (aH W d nm sl o (an (an (aV (aV (aV h)))).1).2).1 (aH W k nm sl ek (an (aV (aV (aV h)))).2).1 (aH W x nm sl ex (cJ (aV (aV h)))).1 h1 h2 (cJ (aV h)) (cJ h)) λY Y=>rfl
 |.append l x,nm,sl,aR,h=>o6 h λo m ap Y p Y h=>lN (G:=λes=>gf _ _ (.Call _ es _ _)) h λex Y h=>by
  obtain⟨rfl,h1,h2⟩:=sG (aV (aV (aV h)));exact cV (GZ (aH W l nm sl o (cJ (aV (aV h)))).1 (aH W x nm sl ex (cJ (aV h))).1 h1 h2 (cJ h)) λY Y=>rfl
 |.pop l,nm,sl,aR,h=>o6 h λo m ap Y p Y h=>R8 (G:=λes=>gf _ _ (.Call _ es _ _)) h λY h=>by
  refine cps λG g=>?_;obtain⟨rfl,h1,h2⟩:=sG (aV h);refine g ?_;exact cV (Rr (aH W l nm sl o (cJ h)).1 h1 h2) λY Y=>rfl
 |.update l x,nm,sl,aR,h=>o6 h λo m ap Y p Y h=>lN (G:=λes=>gf _ _ (.Call _ es _ _)) h λex Y h=>by
  obtain⟨rfl,h1,h2⟩:=sG (aV (aV (aV h)));exact cV (G1 (aH W l nm sl o (cJ (aV (aV h)))).1 (aH W x nm sl ex (cJ (aV h))).1 h1 h2 (cJ h)) λY Y=>rfl
 |.comp elt single ts it c,nm,sl,aR,h=>Bw h λee t ei ifs sc Y Y h=>
  cV (E0 (qY (C:=⟨P,cf,n,nm,sl⟩) (an (an (aV (aV (aV h)))).1).1) (aH W it nm sl ei (cJ (aV (aV h)))).1 (aH W elt _ _ ee (cJ (aV h))).1 (xN W c _ _ ifs (cJ h)) (gR (an (an (aV (aV (aV h)))).1).2) (an (aV (aV (aV h)))).2) λY Y=>rfl
 |.new pr c k xs,nm,sl,aR,h=>gB h λef es Y Y h=>by
  obtain⟨q,rfl⟩:=fJ (an (aV (aV (aV h)))).1;have z:=cW W xs nm sl es (cJ h);obtain⟨ca,N⟩:=W.new c k (dt (cJ (aV h)));exact cV (RA (C:=⟨P,cf,n,nm,sl⟩) W.good W.call N (gS (an (aV (aV (aV h)))).2) (nb (cJ (aV (aV h)))) (fR z.1) z.2) λY Y=>rfl
 |.r9 a,nm,sl,e,h=>by
  have h:(fX T a nm sl e&&((uw e).isSome||(eName e).isSome||(kN e).isSome))=true:=h;refine cV (Rz (aH W a nm sl e (aV h)).1) (Hj (cJ h))
theorem cW(W:World1 T P cf n):∀(xs:List X) (nm:NM) (sl:Slots) (es:List Expr),qv T xs nm sl es=true->eT (gf ⟨P,cf,n,nm,sl⟩) xs es/\dz es=true
 |[],nm,sl,es,h=>by
  have:=List.isEmpty_iff.mp (show es.isEmpty=true from h);subst this;exact⟨trivial,rfl⟩
 |x::xs,nm,sl,es,h=>by
  induction es with
  |nil=>exact dJ h
  |cons e es=>
   have h:(notStar e&&fX T x nm sl e&&qv T xs nm sl es)=true:=h;simp only[Bool.and_eq_true]at h;obtain⟨⟨h1,h2⟩,h3⟩:=h;obtain⟨a,b⟩:=cW W xs nm sl es h3;exact⟨⟨aH W x nm sl e h2,a⟩,by simp[dz,h1,b]⟩
theorem qx(W:World1 T P cf n):∀(x:Option X) (nm:NM) (sl:Slots) (e:Option Expr),Xb T x nm sl e=true->Nk ⟨P,cf,n,nm,sl⟩ x e
 |none,nm,sl,e,h=>by
  induction e with
  |none=>trivial
  |some aR=>exact dJ h
 |some x,nm,sl,e,h=>by
  induction e with
  |none=>exact dJ h
  |some e=>exact(aH W x nm sl e h).1
theorem xN(W:World1 T P cf n):∀(x:Option X) (nm:NM) (sl:Slots) (e:List Expr),ZT T x nm sl e=true->JP ⟨P,cf,n,nm,sl⟩ x e
 |none,nm,sl,e,h=>by
  exact List.isEmpty_iff.mp (show e.isEmpty=true from h)
 |some x,nm,sl,e,h=>by
  match e,h with
  |[e],h=>exact⟨_,rfl,(aH W x nm sl e h).2⟩
  |[],h=>exact dJ h
  |aR::dm::p8,h=>exact dJ h
end
noncomputable section
noncomputable def JZ(s:Stmt):Option {q:Expr×Expr // ∃p,s=.Assign [q.1] q.2 p}:=if h:s.ctorIdx=5 then Stmt.Assign.elim s h λts e p=>(one? ts).map λt=>⟨(t.1,e),p,congrArg (Stmt.Assign · e p) t.2⟩ else none
noncomputable def Sa(s:Stmt):Option {q:Expr×Operator×Expr // ∃p,s=.AugAssign q.1 q.2.1 q.2.2 p}:=if h:s.ctorIdx=7 then Stmt.AugAssign.elim s h λt o e p=>some ⟨(t,o,e),p,rfl⟩ else none
noncomputable def ZU(s:Stmt):Option {q:Expr×List Stmt×List Stmt // ∃p,s=.If q.1 q.2.1 q.2.2 p}:=if h:s.ctorIdx=12 then Stmt.If.elim s h λc a b p=>some ⟨(c,a,b),p,rfl⟩ else none
noncomputable def J0(s:Stmt):Option {q:Expr×List Stmt // ∃p,s=.While q.1 q.2 [] p}:=if h:s.ctorIdx=11 then Stmt.While.elim s h λc a o p=>if q:o.isEmpty=true then some ⟨(c,a),p,List.isEmpty_iff.mp q▸rfl⟩ else none else none
noncomputable def Vx(s:Stmt):Option {q:Expr×Expr×List Stmt // ∃p,s=.For q.1 q.2.1 q.2.2 [] p}:=if h:s.ctorIdx=9 then Stmt.For.elim s h λt i b o p=>if q:o.isEmpty=true then some ⟨(t,i,b),p,List.isEmpty_iff.mp q▸rfl⟩ else none else none
noncomputable def Qd(s:Stmt):Option {e:Expr // ∃p,s=.Expr e p}:=if h:s.ctorIdx=24 then Stmt.Expr.elim s h λe p=>some ⟨e,p,rfl⟩ else none
noncomputable def Vy(s:Stmt):Option {e:Option Expr // ∃p,s=.Return e p}:=if h:s.ctorIdx=3 then Stmt.Return.elim s h λe p=>some ⟨e,p,rfl⟩ else none
noncomputable def Qe(s:Stmt):Option {p:Pos // s=.Pass p}:=if h:s.ctorIdx=25 then Stmt.Pass.elim s h λp=>some ⟨p,rfl⟩ else none
noncomputable def Qf(s:Stmt):Option {p:Pos // s=.Continue p}:=if h:s.ctorIdx=27 then Stmt.Continue.elim s h λp=>some ⟨p,rfl⟩ else none
noncomputable def Yj(e:Expr):Option {q:Str×Pos // e=.Name q.1 q.2}:=if h:e.ctorIdx=23 then Expr.Name.elim e h λn p=>some ⟨(n,p),rfl⟩ else none
noncomputable def Vz:(x:X)->Option {q:X×X // x=.af [q.1,q.2]}|.af xs=>(zB xs).map λt=>⟨t.1,congrArg X.af t.2⟩|_=>none
noncomputable def J1:(x:X)->Option {q:X×Bool×List Nat×X×Option X // x=.comp q.1 q.2.1 q.2.2.1 q.2.2.2.1 q.2.2.2.2}|.comp a b c d e=>some ⟨(a,b,c,d,e),rfl⟩|_=>none
end
structure T2 (nm:NM) (sl:Slots) (j1 j2:Nat) (n1 n2:Str) (p1 p2:Pos) (e1 e2:Expr):Prop where
 s1:notStar e1=true
 s2:notStar e2=true
 ne:n1≠n2
 nj:j1≠j2
 k1:sl.lookup n1=some j1/\nm.lookup n1=some .local
 k2:sl.lookup n2=some j2/\nm.lookup n2=some .local
 hl:(p2.line==p1.line)=true
 hf:(foldedForSure 8 e1&&foldedForSure 8 e2)=false
 hq:(constantsAlone 8 e1&&constantsAlone 8 e2)=false
noncomputable def ZV(nm:NM)(sl:Slots)(j1 j2:Nat)(n1 n2:Str)(p1 p2:Pos)(e1 e2:Expr):Bool:=
 (notStar e1&&notStar e2)&&((decide (n1≠n2)&&decide (j1≠j2))&&(((decide (sl.lookup n1=some j1)&&decide (nm.lookup n1=some .local))&&(decide (sl.lookup n2=some j2)&&decide (nm.lookup n2=some .local)))&&((p2.line==p1.line)&&(!(foldedForSure 8 e1&&foldedForSure 8 e2)&& !(constantsAlone 8 e1&&constantsAlone 8 e2)))))
noncomputable def VA(nm:NM)(sl:Slots)(j1 j2:Nat)(t e:Expr):Bool:=(zx t).any λts=>(zB ts.1).any λtt=>(Yj tt.1.1).any λa=>(Yj tt.1.2).any λb=>(zx e).any λes=>(zB es.1).any λee=>ZV nm sl j1 j2 a.1.1 b.1.1 a.1.2 b.1.2 ee.1.1 ee.1.2
mutual
noncomputable def Yk(T:Tab):S->NM->Slots->Stmt->Bool
 |.pass,aR,dm,s=>(Qe s).isSome
 |.cont,aR,dm,s=>(Qf s).isSome
 |.fail,aR,dm,p8=>true
 |.expr x,nm,sl,s=>(Qd s).any λ⟨e,_⟩=>fX T x nm sl e&&eZ e
 |.ret x,nm,sl,s=>(Vy s).any λ⟨e,_⟩=>Xb T x nm sl e
 |.cO j x,nm,sl,s=>(JZ s).any λ⟨(t,e),_⟩=>qu true nm sl j t&&fX T x nm sl e&&(eZ e||(J1 x).isSome)
 |.fM js x,nm,sl,s=>(JZ s).any λ⟨(t,e),_⟩=>fX T x nm sl e&&eZ e&&((notTuple e&&oZ true nm sl false js t)||((zB js).any λ⟨(j1,j2),_⟩=>(Vz x).isSome&&VA nm sl j1 j2 t e))
 |.eW a n x,nm,sl,s=>(JZ s).any λ⟨(t,e),_⟩=>(uw t).any λ⟨(ea,m),_⟩=>decide (m=Str.ofString n)&&decide (n∈T.an)&&fX T a nm sl ea&&fX T x nm sl e&&eZ e
 |.om a i x,nm,sl,s=>(JZ s).any λ⟨(t,e),_⟩=>(ND t).any λ⟨(ea,ei),_⟩=>fX T a nm sl ea&&fX T i nm sl ei&&fX T x nm sl e&&eZ e
 |.aug j o x,nm,sl,s=>(Sa s).any λ⟨(t,op,e),_⟩=>qu true nm sl j t&&decide (op=wL o)&&fX T x nm sl e
 |.sW a n o x,nm,sl,s=>(Sa s).any λ⟨(t,op,e),_⟩=>(uw t).any λ⟨(ea,m),_⟩=>decide (m=Str.ofString n)&&decide (n∈T.an)&&fX T a nm sl ea&&decide (op=wL o)&&fX T x nm sl e
 |.ite c t e,nm,sl,s=>(ZU s).any λ⟨(ec,et,ee),_⟩=>fX T c nm sl ec&&Bx T t nm sl et&&Bx T e nm sl ee
 |.while c b,nm,sl,s=>(J0 s).any λ⟨(ec,eb),_⟩=>fX T c nm sl ec&&Bx T b nm sl eb
 |.for single ts it b,nm,sl,s=>(Vx s).any λ⟨(t,ei,eb),_⟩=>oZ true nm sl single ts t&&qt ei&&fX T it nm sl ei&&Bx T b nm sl eb
noncomputable def Bx(T:Tab):List S->NM->Slots->List Stmt->Bool
 |[],aR,dm,es=>es.isEmpty
 |x::xs,nm,sl,es=>(match es with|e::es=>Yk T x nm sl e&&Bx T xs nm sl es|[]=>false)
end
section
variable {s:Stmt}{G:Stmt->Prop}
theorem sH{f:_->Bool}(h:(JZ s).any f=true)(k:∀t e p pf,f ⟨(t,e),pf⟩=true->G (.Assign [t] e p)):G s:=aP h λq hq=>q.2.elim λp z=>qw z (k _ _ p q.2 hq)
theorem E6{f:_->Bool}(h:(Sa s).any f=true)(k:∀t o e p pf,f ⟨(t,o,e),pf⟩=true->G (.AugAssign t o e p)):G s:=aP h λq hq=>q.2.elim λp z=>qw z (k _ _ _ p q.2 hq)
theorem Sb{f:_->Bool}(h:(ZU s).any f=true)(k:∀c a b p pf,f ⟨(c,a,b),pf⟩=true->G (.If c a b p)):G s:=aP h λq hq=>q.2.elim λp z=>qw z (k _ _ _ p q.2 hq)
theorem Hl{f:_->Bool}(h:(J0 s).any f=true)(k:∀c a p pf,f ⟨(c,a),pf⟩=true->G (.While c a [] p)):G s:=aP h λq hq=>q.2.elim λp z=>qw z (k _ _ p q.2 hq)
theorem NK{f:_->Bool}(h:(Vx s).any f=true)(k:∀t i b p pf,f ⟨(t,i,b),pf⟩=true->G (.For t i b [] p)):G s:=aP h λq hq=>q.2.elim λp z=>qw z (k _ _ _ p q.2 hq)
theorem J2{f:_->Bool}(h:(Qd s).any f=true)(k:∀e p pf,f ⟨e,pf⟩=true->G (.Expr e p)):G s:=aP h λq hq=>q.2.elim λp z=>qw z (k _ p q.2 hq)
theorem NL{f:_->Bool}(h:(Vy s).any f=true)(k:∀e p pf,f ⟨e,pf⟩=true->G (.Return e p)):G s:=aP h λq hq=>q.2.elim λp z=>qw z (k _ p q.2 hq)
theorem Yl{G:Expr->Prop}{f:_->Bool}(h:(Yj e).any f=true)(k:∀n p pf,f ⟨(n,p),pf⟩=true->G (.Name n p)):G e:=aP h λq hq=>qw q.2 (k _ _ q.2 hq)
end
theorem NN{s:Stmt}{G:Stmt->Prop}(h:(Qe s).isSome=true)(k:∀p,G (.Pass p)):G s:=(Option.isSome_iff_exists.mp h).elim λq Y=>qw q.2 (k q.1)
theorem NO{s:Stmt}{G:Stmt->Prop}(h:(Qf s).isSome=true)(k:∀p,G (.Continue p)):G s:=(Option.isSome_iff_exists.mp h).elim λq Y=>qw q.2 (k q.1)
theorem J3{x:X}(h:(Vz x).isSome=true):∃a b,x=.af [a,b]:=(Option.isSome_iff_exists.mp h).elim λq Y=>⟨_,_,q.2⟩
theorem Ho{x:X}(h:(J1 x).isSome=true):∃a b c d e,x=.comp a b c d e:=(Option.isSome_iff_exists.mp h).elim λq Y=>⟨_,_,_,_,_,q.2⟩
theorem VB{e1 e2:Expr}(h:ZV nm sl j1 j2 n1 n2 p1 p2 e1 e2=true):T2 nm sl j1 j2 n1 n2 p1 p2 e1 e2:=
 have a:=an h;have b:=an a.2;have c:=an b.2;have d:=an c.2;have e:=an d.2;have f:=an c.1
 ⟨(an a.1).1,(an a.1).2,dt (an b.1).1,dt (an b.1).2,(an f.1).imp dt dt,(an f.2).imp dt dt,d.1,nb e.1,nb e.2⟩
theorem NP{t:Expr}(h:VA nm sl j1 j2 t e=true){G:Expr->Expr->Prop}(k:∀n1 n2 p1 p2 k1 q1 e1 e2 k2 q2,T2 nm sl j1 j2 n1 n2 p1 p2 e1 e2->G (.Tuple [.Name n1 p1,.Name n2 p2] k1 q1) (.Tuple [e1,e2] k2 q2)):G t e:=
 aP (show(zx t).any _=true from h) λts h=>aP h λtt h=>aP h λa h=>aP h λb h=>aP h λes h=>aP h λee h=>ts.2.elim λk1 r=>r.elim λq1 ht=>es.2.elim λk2 r=>r.elim λq2 he=>by
  rw[ht,he,tt.2,ee.2,a.2,b.2];exact k _ _ _ _ _ _ _ _ _ _ (VB h)
theorem E7{t:Expr}(h:qu ac nm sl j t=true):∃n p,t=.Name n p:=oY h (G:=λt=>∃n p,t=.Name n p) λn p Y=>⟨n,p,rfl⟩
mutual
theorem Hp(W:World1 T P cf n):∀(x:S) (nm:NM) (sl:Slots) (e:Stmt),Yk T x nm sl e=true->dW ⟨P,cf,n,nm,sl⟩ x e
 |.pass,nm,sl,e,h=>by
  apply @NN e (dW ⟨P,cf,n,nm,sl⟩ .pass) h;intro _;exact @RK ⟨P,cf,n,nm,sl⟩ _
 |.cont,nm,sl,e,h=>by
  apply @NO e (dW ⟨P,cf,n,nm,sl⟩ .cont) h;intro _;exact @RM ⟨P,cf,n,nm,sl⟩ _
 |.fail,nm,sl,e,h=>RN
 |.expr x,nm,sl,s,h=>by
  apply @J2 s (dW ⟨P,cf,n,nm,sl⟩ (.expr x)) _ h;intro e _ _ h;exact RO (aH W x nm sl e (aV h)).1 (cJ h)
 |.ret x,nm,sl,s,h=>by
  apply @NL s (dW ⟨P,cf,n,nm,sl⟩ (.ret x)) _ h;intro e _ _ h;have z:=qx W x nm sl e h;induction x with
  |none=>induction e with
   |none=>exact @RP ⟨P,cf,n,nm,sl⟩ _
   |some aR=>exact z.elim
  |some x=>induction e with
   |none=>exact z.elim
   |some e=>exact @Vf ⟨P,cf,n,nm,sl⟩ _ _ _ z
 |.cO j x,nm,sl,s,h=>by
  apply @sH s (dW ⟨P,cf,n,nm,sl⟩ (.cO j x)) _ h;intro t e _ _ h;have h1:=(aV (aV h));have h2:=(cJ (aV h));obtain⟨m,np,rfl⟩:=E7 h1;cases hc:eZ e with
  |true=>exact @Vg ⟨P,cf,n,nm,sl⟩ _ _ _ _ _ _ (aH W x nm sl e h2).1 hc (iC h1)
  |false=>
   have h3:(eZ e||(J1 x).isSome)=true:=(cJ h);rw[hc]at h3;obtain⟨elt,single,ts,it,c,e0⟩:=Ho h3;subst e0;apply @Bw _ (λe=>dW ⟨P,cf,n,nm,sl⟩ (.cO j (.comp elt single ts it c)) (.Assign _ e _)) _ h2;intro ee t ei ifs sc _ _ h;exact RQ (qY (C:=⟨P,cf,n,nm,sl⟩) (an (an (aV (aV (aV h)))).1).1) (aH W it nm sl ei (cJ (aV (aV h)))).1 (aH W elt _ _ ee (cJ (aV h))).1 (xN W c _ _ ifs (cJ h)) (gR (an (an (aV (aV (aV h)))).1).2) (an (aV (aV (aV h)))).2 (iC h1)
 |.fM js x,nm,sl,s,h=>by
  apply @sH s (dW ⟨P,cf,n,nm,sl⟩ (.fM js x)) _ h;intro t e _ _ h;have h1:=(aV (aV h));rcases Bool.or_eq_true_iff.mp (cJ h)with h3|h3
  ·obtain⟨es,k,p',rfl,ok⟩:=gR (cJ h3)
   exact @RS ⟨P,cf,n,nm,sl⟩ _ _ _ _ _ _ _ (aH W x nm sl e h1).1 (cJ (aV h)) (aV h3) ok
  ·apply @uz _ _ _ (λjs=>dW ⟨P,cf,n,nm,sl⟩ (.fM js x) _) h3
   intro j1 j2 _ h3;obtain⟨x1,x2,e0⟩:=J3 (aV h3);subst e0;refine NP (G:=λt e=>fX T (.af [x1,x2]) nm sl e=true->dW ⟨P,cf,n,nm,sl⟩ (.fM [j1,j2] (.af [x1,x2])) (.Assign [t] e _)) (cJ h3) (λn1 n2 p1 p2 k1 q1 e1 e2 k2 q2 q h1=>?_) h1;have z:=(cW W [x1,x2] nm sl [e1,e2] (an (show(qv T [x1,x2] nm sl [e1,e2]&&decide ([e1,e2].length<=1000))=true from h1)).1).1;exact @Nz ⟨P,cf,n,nm,sl⟩ _ _ _ _ _ _ _ _ _ _ _ _ _ _ _ z.1.1 z.2.1.1 q.s1 q.s2 q.ne q.nj q.k1 q.k2 q.hl q.hf q.hq
 |.eW a m x,nm,sl,s,h=>by
  apply @sH s (dW ⟨P,cf,n,nm,sl⟩ (.eW a m x)) _ h;intro t e _ _ h;apply @uy _ (λt=>dW ⟨P,cf,n,nm,sl⟩ (.eW a m x) (.Assign [t] _ _)) _ h;intro ea k _ _ h;have e0:=dt (an (aV (aV (aV h)))).1;subst e0;exact @RT ⟨P,cf,n,nm,sl⟩ _ W.good _ _ _ _ _ _ _ _ W.cls (dt (an (aV (aV (aV h)))).2) (aH W a nm sl ea (cJ (aV (aV h)))).1 (aH W x nm sl e (cJ (aV h))).1 (cJ h)
 |.om a i x,nm,sl,s,h=>by
  apply @sH s (dW ⟨P,cf,n,nm,sl⟩ (.om a i x)) _ h;intro t e _ _ h;apply @zC _ (λt=>dW ⟨P,cf,n,nm,sl⟩ (.om a i x) (.Assign [t] _ _)) _ h;intro ea ei _ _ h;exact RU (aH W a nm sl ea (aV (aV (aV h)))).1 (aH W i nm sl ei (cJ (aV (aV h)))).1 (aH W x nm sl e (cJ (aV h))).1 (cJ h)
 |.aug j o x,nm,sl,s,h=>by
  apply @E6 s (dW ⟨P,cf,n,nm,sl⟩ (.aug j o x)) _ h;intro t op e _ _ h;have e0:=dt (cJ (aV h));have h1:=(aV (aV h));subst e0;obtain⟨m,np,rfl⟩:=E7 h1;exact @Vk ⟨P,cf,n,nm,sl⟩ _ _ _ _ _ _ _ (aH W x nm sl e (cJ h)).1 (iC h1)
 |.sW a m o x,nm,sl,s,h=>by
  apply @E6 s (dW ⟨P,cf,n,nm,sl⟩ (.sW a m o x)) _ h;intro t op e _ _ h;apply @uy _ (λt=>dW ⟨P,cf,n,nm,sl⟩ (.sW a m o x) (.AugAssign t _ _ _)) _ h;intro ea k _ _ h;have e0:=dt (an (aV (aV (aV h)))).1;have e1:=dt (cJ (aV h));subst e0 e1;exact @RV ⟨P,cf,n,nm,sl⟩ _ W.good _ _ _ _ _ _ _ _ _ W.cls (dt (an (aV (aV (aV h)))).2) (aH W a nm sl ea (cJ (aV (aV h)))).1 (aH W x nm sl e (cJ h)).1
 |.ite c t e,nm,sl,s,h=>by
  apply @Sb s (dW ⟨P,cf,n,nm,sl⟩ (.ite c t e)) _ h;intro ec et ee _ _ h;exact Vl (aH W c nm sl ec (aV (aV h))).2 (gg W t nm sl et (cJ (aV h))) (gg W e nm sl ee (cJ h))
 |.while c b,nm,sl,s,h=>by
  apply @Hl s (dW ⟨P,cf,n,nm,sl⟩ (.while c b)) _ h;intro ec eb _ _ h;exact NB (aH W c nm sl ec (aV h)).2 (gg W b nm sl eb (cJ h))
 |.for single ts it b,nm,sl,s,h=>by
  apply @NK s (dW ⟨P,cf,n,nm,sl⟩ (.for single ts it b)) _ h;intro t ei eb _ _ h;exact Vm (aH W it nm sl ei (cJ (aV h))).1 (gg W b nm sl eb (cJ h)) (gR (aV (aV (aV h)))) (cJ (aV (aV h)))
theorem gg(W:World1 T P cf n):∀(x:List S) (nm:NM) (sl:Slots) (e:List Stmt),Bx T x nm sl e=true->qV ⟨P,cf,n,nm,sl⟩ x e
 |[],nm,sl,e,h=>by
  have:=List.isEmpty_iff.mp (show e.isEmpty=true from h);subst this;exact RI
 |x::xs,nm,sl,es,h=>by
  induction es with
  |nil=>exact dJ h
  |cons e es=>
   have h:(Yk T x nm sl e&&Bx T xs nm sl es)=true:=h;exact Nx (Hp W x nm sl e (aV h)) (gg W xs nm sl es (cJ h))
end
end Mine
namespace Mine
open PySem
structure FD where
 args:Arguments
 scope:Scope
 body:List Stmt
noncomputable def gh(a:Arguments):Option (List Str):=match a with
 |⟨[],as,none,[],[],none,[]⟩=>some (as.map (·.arg))
 |_=>none
noncomputable def jV(ns:List String):Slots:=ns.zipIdx.map λp=>(Str.ofString p.1,p.2)
noncomputable def By(T:Tab)(f:Fn)(names:List String)(fd:FD):Bool:=
 let sl:=jV names
 (match gh fd.args with
  |some ps=>decide (ps=(sl.take f.sX).map (·.1))&&decide (ps.length=f.sX)&&decide (ps.Nodup)
  |none=>false)&&
 decide (fd.scope.kind=.function)&&decide (fd.scope.isGenerator=false)&&decide (fd.scope.isCoroutine=false)&&zz sl&&decide (names.length<=f.sX+f.C2)&&
 sl.all (λp=>RX (fd.scope.names.lookup p.1))&&Bx T f.body fd.scope.names sl fd.body
noncomputable def uA:Tab:=⟨rX.map λp=>Str.ofString p.1,iu,I2⟩
end Mine
namespace Mine
open PySem PySem.W PyProof.Rows PySem.Calls PySem.SeqAt
variable {n:Str}{names:List String}{T:Tab}
structure Sd (P:PV) (k:Nat) (fd:FD) (ps:List Str) (o:Obj) (zD:FuncData):Prop where
 at_:P.h₀.get? (P.fa k)=some o
 data:o.data=.func zD
 body:zD.body=.stmts fd.body
 scope:zD.scope=fd.scope
 clo:zD.closure=[]
 aA:zD.globals=mainGlobals
 blt:zD.builtins=builtinsNs
 code:P.h₀.CodeRec zD.code zD.qualname
 bind:∀vals:List Value,vals.length=ps.length->bindArgs zD ⟨vals,[]⟩=pure (ps.zip vals)
theorem ja:∀(names:List (Str×NameKind)) (k:Nat) (acc:List (Str×Addr)),(acc.lookup n).isSome=true->((cellsFrom k names acc).lookup n).isSome=true
 |[],aR,dm,h=>h
 |(m,kd)::r,k,acc,h=>by
  unfold cellsFrom
  split
  ·refine ja r _ _ ?_
   rw[List.lookup_cons]
   split
   ·rfl
   ·exact h
  ·exact ja r _ _ h
theorem gv:∀(names:List (Str×NameKind)) (k:Nat) (acc:List (Str×Addr)),(n,NameKind.cell)∈names->((cellsFrom k names acc).lookup n).isSome=true
 |(m,kd)::r,k,acc,h=>by
  unfold cellsFrom;rcases List.mem_cons.mp h with q|q
  ·cases q
   rw[show(NameKind.cell==NameKind.cell)=true from rfl,if_pos rfl];refine ja r _ _ ?_;rw[List.lookup_cons,beq_self_eq_true];rfl
  ·split
   ·exact gv r _ _ q
   ·exact gv r _ _ q
theorem uB{kf:Str->Option NameKind}:∀{ps:List Str} {ws:List Value} {m:Str->Option Value},n∉ps->bindL kf (ps.zip ws) m n=m n
 |[],ws,m,aR=>by simp[bindL]
 |p::ps,[],m,aR=>by simp[bindL]
 |p::ps,w::ws,m,h=>by
  have h1:n≠p:=λz=>h (by simp[z]);have h2:n∉ps:=λz=>h (by simp[z]);rw[List.zip_cons_cons];unfold bindL;rw[uB h2]
  split
  ·simp[h1]
  ·rfl
theorem xO{kf:Str->Option NameKind}{w:Value}:∀{ps:List Str} {ws:List Value} {m:Str->Option Value} {i:Nat},ps.Nodup->ps[i]?=some n->ws[i]?=some w->kf n=some .local->bindL kf (ps.zip ws) m n=some w
 |[],aR,dm,i,p8,h,JW,VC=>by simp at h
 |p::ps,[],aR,i,dm,p8,h,JW=>by simp at h
 |p::ps,w0::ws,m,0,nd,h1,h2,hk=>by
  simp at h1 h2;subst h1 h2;rw[List.zip_cons_cons];unfold bindL;rw[uB (List.nodup_cons.mp nd).1,if_pos hk];simp
 |p::ps,w0::ws,m,i+1,nd,h1,h2,hk=>by
  rw[List.zip_cons_cons];unfold bindL;exact xO (List.nodup_cons.mp nd).2 (by simpa using h1) (by simpa using h2) hk
theorem uC{kf:Str->Option NameKind}:∀{ps:List Str} {ws:List Value} {m:Str->Option Value},n∉ps->bindC kf (ps.zip ws) m n=m n
 |[],ws,m,aR=>by simp[bindC]
 |p::ps,[],m,aR=>by simp[bindC]
 |p::ps,w::ws,m,h=>by
  have h1:n≠p:=λz=>h (by simp[z]);have h2:n∉ps:=λz=>h (by simp[z]);rw[List.zip_cons_cons];unfold bindC;rw[uC h2]
  split
  ·rfl
  ·simp[h1]
theorem xP{kf:Str->Option NameKind}{w:Value}:∀{ps:List Str} {ws:List Value} {m:Str->Option Value} {i:Nat},ps.Nodup->ps[i]?=some n->ws[i]?=some w->kf n≠some .local->bindC kf (ps.zip ws) m n=some w
 |[],aR,dm,i,p8,h,JW,VC=>by simp at h
 |p::ps,[],aR,i,dm,p8,h,JW=>by simp at h
 |p::ps,w0::ws,m,0,nd,h1,h2,hk=>by
  simp at h1 h2;subst h1 h2;rw[List.zip_cons_cons];unfold bindC;rw[uC (List.nodup_cons.mp nd).1,if_neg hk];simp
 |p::ps,w0::ws,m,i+1,nd,h1,h2,hk=>by
  rw[List.zip_cons_cons];unfold bindC;exact xP (List.nodup_cons.mp nd).2 (by simpa using h1) (by simpa using h2) hk
theorem DH{i:Nat}(h:(jV names).lookup n=some i):(jV names)[i]?=some (n,i):=by
 have m:=mem_of_lookup h;unfold jV at m ⊢;obtain⟨p,hp,e⟩:=List.mem_map.mp m;obtain⟨a,b⟩:=p;have:=(List.mem_zipIdx hp);cases e;obtain⟨h1,h2,h3⟩:=this;rw[List.getElem?_map,List.getElem?_zipIdx];simp only[Nat.zero_add]at h2 h3 ⊢;have:names[b]?=some a:=by rw[List.getElem?_eq_getElem (by lia),h3];simp
 rw[this];rfl
section
variable {P:PV}{A:Around}{s:Shared}{φ:fz}{M:Addr->Prop}{Z:H}
theorem Se{cf:CF}{n:Nat}(W:World1 T P cf n){k:Nat}{f:Fn}{fd:FD}(ck:By T f names fd=true){o:Obj}{zD:FuncData}{ps:List Str}(Xc:gh fd.args=some ps)(F:Sd P k fd ps o zD)
  {args:List V}{Q':V->H->Prop}{ws:List Value}{R:Result->Shared->Prop}(h:MF cf P.gt f args Q' Z)(room:EP A (n+1))(i:Inv P Z φ M s)(r:aM P s.heap M φ args ws)(kk:qp P φ M s Q' (λw s'=>R (.ok (.ret w)) s')):
  codeAny (model P.prog P.w) A (.call (.ref (P.fa k)) ⟨ws,[]⟩) R s:=by
 unfold By at ck;rw[Xc]at ck;simp only[Bool.and_eq_true,decide_eq_true_eq,List.all_eq_true]at ck;refine cps λG g=>?_;obtain⟨⟨⟨⟨⟨⟨⟨⟨⟨c1,c2⟩,c3⟩,c4⟩,c5⟩,c6⟩,c7⟩,c8⟩,c9⟩,c10⟩:=ck;refine g ?_;unfold MF at h
 split at h
 case isFalse=>exact h.elim
 case isTrue hlen=>
 have hwl:ws.length=ps.length:=by rw[c2,<-hlen,r.length]
 have Ym:A.depth<recursionLimit:=by have:=room.2.1;lia
 refine codeAny_call_cells (binds:=ps.zip ws) Ym (i.iL _ _ F.at_) F.data (W.good.lim.keeps i.iL) (F.code.keeps i.iL) F.body (F.bind ws hwl) F.clo (λx hx=>?_) (λaQ X=>?_) (by rw[F.scope];exact c6) (by rw[F.scope];exact c5) (by rw[F.scope];exact c4)
 ·have ZW:x.1∈ps:=(List.of_mem_zip (a:=x.1) (b:=x.2) hx).1
  rw[c1]at ZW;refine cps λG g=>?_;obtain⟨p,hp,e⟩:=List.mem_map.mp ZW;refine g ?_;have:=c9 p (List.mem_of_mem_take hp);rw[e]at this;rw[F.scope];exact(E2 this).imp id λq=>⟨q,gv _ _ _ (mem_of_lookup q)⟩
 ·generalize hE:callEnvC zD s.heap.objs.size (P.fa k)=env at X ⊢
  have eL:env.locals=s.heap.objs.size:=by rw[<-hE];rfl
  have eC:env.cells=cellsFrom (s.heap.objs.size+1) fd.scope.names []:=by rw[<-hE,<-F.scope];rfl
  have eS:env.scope=fd.scope:=by rw[<-hE,<-F.scope];rfl
  have eG:env.globals=mainGlobals:=by rw[<-hE,<-F.aA];rfl
  have eB:env.builtins=builtinsNs:=by rw[<-hE,<-F.blt];rfl
  obtain⟨eY,tk,rfl⟩:=X.toInCall.same;have fresh:∀a,s.heap.objs.size<=a->s.heap.get? a=none:=λa ha=>by
   cases e:s.heap.get? a with
   |none=>rfl
   |some o=>exact absurd (Heap.lt_size e) (Nat.not_lt.mpr ha)
  have Sf:∀a,Own env a->s.heap.get? a=none:=λa q=>by
   rcases q with rfl|⟨m,q⟩
   ·exact fresh _ (Nat.le_of_eq eL.symm)
   ·exact fresh _ (Nat.le_of_lt (by have:=X.above m a (mem_of_lookup q);rw[eL]at this;exact this))
  have NQ:∀a,Own env a->bV eY a:=λa q=>by
   rcases q with rfl|⟨m,q⟩
   ·exact Heap.Ns.live X.toInCall.ns
   ·exact Heap.IsCell.live (X.cell m a q)
  obtain⟨i1,t1⟩:=i.fresh (lo:=bI) (M':=λa=>M a\/Own env a) (h':=eY) (tk:=tk) X.toInCall.keep (λY=>.inl) λa e=>e.imp_right λq=>⟨Sf a q,NQ a q⟩;have qU:∀a,Own env a->a∉φ.map (·.2):=λa q z=>by obtain⟨o,e⟩:=i.iy a z;rw[Sf a q]at e;exact aN e
  have hkf:∀m,env.kindOf m=fd.scope.names.lookup m:=λm=>by unfold Env.kindOf;rw[eS]
  have Qg:∀m j v,(jV names).lookup m=some j->(args++List.replicate f.C2 V.ah)[j]?=some v->v≠.ah->∃w,ps[j]?=some m/\ws[j]?=some w/\aK P eY (λa=>M a\/Own env a) φ v w:=λm j v e1 e2 e3=>by
   have hj:j<args.length:=by
    rcases Nat.lt_or_ge j args.length with q|q
    ·exact q
    ·rw[List.getElem?_append_right q,List.getElem?_replicate]at e2
     split at e2<;>cases e2
     exact absurd rfl e3
   rw[List.getElem?_append_left hj]at e2;obtain⟨w,hw,rw'⟩:=r.get e2;refine⟨w,?_,hw,rw'.mono t1.grow⟩;rw[c1,List.getElem?_map,List.getElem?_take,if_pos (by lia),DH e1];rfl
  have er:aY P φ (λa=>M a\/Own env a) eY (jV names) env (args++List.replicate f.C2 V.ah):=by
   refine⟨by rw[eS];exact c4,eG,eB,⟨.inr (.inl rfl),qU _ (.inl rfl)⟩,λm c e=>⟨.inr (.inr ⟨m,e⟩),qU _ (.inr ⟨m,e⟩),Nat.ne_of_gt (X.above m c (mem_of_lookup e)),_,X.cell m c e⟩,λm m' c e e'=>name_of_addr X.apart (mem_of_lookup e) (mem_of_lookup e'),xM c7,⟨_,X.toInCall.ns,λm j e1 e2 v e3 e4=>?_⟩,λm j e1 e2=>?_⟩
   ·refine cps λG g=>?_
    obtain⟨w,p1,p2,p3⟩:=Qg m j v e2 e3 e4;refine g ?_;exact⟨w,xO c3 p1 p2 e1,p3⟩
   ·have e1':(m,NameKind.cell)∈fd.scope.names:=mem_of_lookup (by rw[<-hkf];exact e1)
    obtain⟨c,hc⟩:=Option.isSome_iff_exists.mp (gv fd.scope.names (s.heap.objs.size+1) [] e1');rw[<-eC]at hc;refine⟨c,hc,λv e3 e4=>?_⟩;obtain⟨w,p1,p2,p3⟩:=Qg m j v e2 e3 e4;have:=X.cell m c hc;rw[xP c3 p1 p2 (by rw[e1];simp)]at this;exact⟨w,this,p3⟩
  have VD:kX (A.deeper env) n:=⟨room.1,by show A.depth+1+4*n+4<=_;have:=room.2.1;lia,by show A.units+3+12*n+60<_;have:=room.2.2;lia⟩;refine gg W f.body fd.scope.names (jV names) fd.body c10 VD i1 er (by rw[eS]) h λfl fw ρ' Z' bF M' s' h' i' t' RJ fr=>?_;have tt:Step bI φ M s bF M' s':=(t1.own.trans t').weaken λa lv q=>by obtain⟨o,e⟩:=lv;rw[Sf a q]at e;exact aN e
  induction fl with
  |next=>cases fr;exact kk .none .none _ _ _ _ h' i' tt rfl
  |cont=>exact h'.elim
  |ret v=>obtain⟨w,rfl,rr⟩:=fr;exact kk v w _ _ _ _ h' i' tt rr
end
structure Table (T:Tab) (P:PV) (ft:List Fn):Prop where
 good:Good P T.gn
 cls:∀c ca,P.ca c=some ca->oQ P.K ca T.an
 new:∀c k,(c,k)∈T.cls->∃ca,JF P c k ca
 fns:∀(k:Nat) (f:Fn),ft[k]?=some f->∃names fd ps o zD,By T f names fd=true/\gh fd.args=some ps/\Sd P k fd ps o zD
theorem J4{P:PV}{ft:List Fn}(X:Table T P ft):∀n,zm P (aq ft P.gt n) n
 |0=>⟨λh=>h.elim,λh=>h.elim⟩
 |n+1=>by
  have W:World1 T P (aq ft P.gt n) n:=⟨X.good,J4 X n,X.cls,X.new⟩;refine⟨λh=>?_,λh room i r kk=>?_⟩
  ·refine cps λG g=>?_
   obtain⟨f,hf,_⟩:=aL h;refine g ?_;refine cps λG g=>?_;obtain⟨names,fd,ps,o,zD,ck,Xc,F⟩:=X.fns _ f hf;refine g ?_;exact⟨o,zD,F.at_,F.data⟩
  ·obtain⟨f,hf,h⟩:=aL h
   refine cps λG g=>?_;obtain⟨names,fd,ps,o,zD,ck,Xc,F⟩:=X.fns _ f hf;refine g ?_;exact Se W ck Xc F h room i r kk
end Mine
namespace Mine
open PySem PySem.W
noncomputable def PP:Program:=PySem.Challenge.pw_pc0235_01
noncomputable def tT:= @PySem.W.Fast.tw14364793385576792824
end Mine
namespace Mine
open PySem
inductive OT where
 |nil
 |leaf (o:Obj)
 |node (l r:OT)
noncomputable def OT.cl{α:Sort u}(t:OT)(n:α)(f:Obj->α)(g:OT->OT->α):α:= @OT.rec (λY=>α) n f (λl r Y Y=>g l r) t
noncomputable def uD(d:Nat):OT->Nat->Option Obj:=
 @Nat.rec (λY=>OT->Nat->Option Obj) (λt Y=>t.cl none some λY Y=>none)
  (λY ih t i=>t.cl none (λY=>none) λl r=> @Bool.rec (λY=>Option Obj) (ih l (Nat.div i 2)) (ih r (Nat.div i 2)) (Nat.beq (Nat.mod i 2) 1)) d
noncomputable def BA(d:Nat):OT->Nat->Obj->OT:=
 @Nat.rec (λY=>OT->Nat->Obj->OT) (λY Y o=>.leaf o)
  (λY ih t i o=>t.cl (@Bool.rec (λY=>OT) (.node (ih .nil (Nat.div i 2) o) .nil) (.node .nil (ih .nil (Nat.div i 2) o)) (Nat.beq (Nat.mod i 2) 1))
   (λY=>.nil) λl r=> @Bool.rec (λY=>OT) (.node (ih l (Nat.div i 2) o) r) (.node l (ih r (Nat.div i 2) o)) (Nat.beq (Nat.mod i 2) 1)) d
theorem E8(i:Nat):Nat.beq (Nat.mod i 2) 1=decide (i % 2=1):=by
 show Nat.beq (i % 2) 1=_;rcases Nat.mod_two_eq_zero_or_one i with h|h<;>rw[h]<;>rfl
theorem mod_eq{i j:Nat}(h:j % 2=i % 2)(e:j / 2=i / 2):j=i:=by rw[<-Nat.div_add_mod j 2,<-Nat.div_add_mod i 2,h,e]
theorem half_lt{i d:Nat}(h:i<2 ^ (d+1)):i / 2<2 ^ d:=Nat.div_lt_of_lt_mul (Nat.mul_comm (2 ^ d) 2▸(show i<2 ^ d*2 from h))
theorem J5:∀d i,uD d .nil i=none
 |0,aR=>rfl
 |aR+1,dm=>rfl
theorem mG(d:Nat)(l r:OT)(i:Nat):uD (d+1) (.node l r) i=if i % 2=1 then uD d r (i / 2) else uD d l (i / 2):=by
 show @Bool.rec (λY=>Option Obj) (uD d l (i / 2)) (uD d r (i / 2)) (Nat.beq (Nat.mod i 2) 1)=_;rw[E8];by_cases h:i % 2=1<;>simp[h]
theorem xQ(d:Nat)(l r:OT)(i:Nat)(o:Obj):BA (d+1) (.node l r) i o=if i % 2=1 then .node l (BA d r (i / 2) o) else .node (BA d l (i / 2) o) r:=by
 show @Bool.rec (λY=>OT) (.node (BA d l (i / 2) o) r) (.node l (BA d r (i / 2) o)) (Nat.beq (Nat.mod i 2) 1)=_;rw[E8];by_cases h:i % 2=1<;>simp[h]
theorem uE(o:Obj):∀(d:Nat) (t:OT) (i j:Nat) (x:Obj),i<2 ^ d->j<2 ^ d->uD d (BA d t i o) j=some x->(j=i/\x=o)\/(j≠i/\uD d t j=some x)
 |0,t,i,j,x,hi,hj,e=>by
  have:i=0:=by simpa using hi
  have:j=0:=by simpa using hj
  subst_vars
  exact .inl ⟨rfl,(di e).symm⟩
 |d+1,t,i,j,x,hi,hj,e=>by
  have ZX:i / 2<2 ^ d:=half_lt hi;have U4:j / 2<2 ^ d:=half_lt hj;have core:∀l r,uD (d+1) (BA (d+1) (.node l r) i o) j=some x->(j=i/\x=o)\/(j≠i/\uD (d+1) (.node l r) j=some x):=by
   intro l r e;rw[mG d l r];by_cases pi:i % 2=1
   ·rw[xQ,if_pos pi,mG]at e
    by_cases pj:j % 2=1
    ·rw[if_pos pj]at e ⊢
     exact(uE o d r (i / 2) (j / 2) x ZX U4 e).imp (λq=>⟨mod_eq (pj.trans pi.symm) q.1,q.2⟩) λq=>⟨λz=>q.1 (z▸rfl),q.2⟩
    ·rw[if_neg pj]at e ⊢
     exact .inr ⟨λz=>pj (z▸pi),e⟩
   ·rw[xQ,if_neg pi,mG]at e
    by_cases pj:j % 2=1
    ·rw[if_pos pj]at e ⊢
     exact .inr ⟨λz=>pi (z▸pj),e⟩
    ·rw[if_neg pj]at e ⊢
     exact(uE o d l (i / 2) (j / 2) x ZX U4 e).imp (λq=>⟨mod_eq (((Nat.mod_two_eq_zero_or_one j).resolve_right pj).trans ((Nat.mod_two_eq_zero_or_one i).resolve_right pi).symm) q.1,q.2⟩) λq=>⟨λz=>q.1 (z▸rfl),q.2⟩
  cases t with
  |leaf a=>cases e
  |nil=>
   rcases core .nil .nil e with h|⟨h,q⟩
   ·exact .inl h
   ·rw[mG,J5]at q
    split at q<;>cases q
  |node l r=>exact core l r e
end Mine
namespace Mine
open PySem
noncomputable def bX(t:OT)(i:Nat):Option Obj:= @Bool.rec (λY=>Option Obj) none (uD 12 t i) (Nat.ble i 4095)
noncomputable def iN(t:OT)(i:Nat)(o:Obj):OT:=BA 12 t i o
theorem iD{t:OT}{i j:Nat}{o x:Obj}(hi:Nat.ble i 4095=true)(e:bX (iN t i o) j=some x):(j=i/\x=o)\/(j≠i/\bX t j=some x):=by
 unfold bX at e ⊢;cases hj:Nat.ble j 4095 with
 |false=>rw[hj]at e;cases e
 |true=>
  rw[hj]at e;have a:=Nat.le_of_ble_eq_true hi;have b:=Nat.le_of_ble_eq_true hj;exact uE o 12 t i j x (Nat.lt_of_le_of_lt a (by decide)) (Nat.lt_of_le_of_lt b (by decide)) e
end Mine
namespace Mine
open PySem PySem.W
open Sem (wp)
variable {α β:Type}{T:OT}{h:Heap}{m:Nat}{o:Obj}{a:Addr}
noncomputable def gj{α:Sort u}(n:Nat)(f:Nat->α):α:= @Nat.rec (λY=>α) (f 0) (λk Y=>f (Nat.succ k)) n
theorem d7{α:Sort u}(n:Nat)(f:Nat->α):gj n f=f n:=by cases n<;>rfl
noncomputable def uF{α:Type}{β:Sort u}(l:List α):(List α->β)->β:=
 @List.rec α (λY=>(List α->β)->β) (λk=>k []) (λx Y ih k=>ih λxs=>k (x::xs)) l
theorem jy{β:Sort u}:∀(l:List α) (k:List α->β),uF l k=k l
 |[],aR=>rfl
 |x::xs,k=>jy xs λxs=>k (x::xs)
noncomputable def lO{β:Type}(o:Obj)(k:Obj->β):β:=if h:o.data.ctorIdx=3 then Data.dict.elim o.data h λl n=>uF l.toList λl=>k ⟨o.cls,o.dict,.dict ⟨l⟩ n,o.slots⟩ else k o
theorem lQ(o:Obj)(k:Obj->β):lO o k=k o:=by
 obtain⟨c,d,t,sl⟩:=o;cases t<;>first|rfl|exact jy _ _
structure dX (h:Heap) (T:OT) (m:Nat):Prop where
 size:h.objs.size=m
 at_:∀a o,bX T a=some o->h.get? a=some o
structure Fr (up:Addr->Bool) (T:OT) (h:Heap) (T':OT) (h':Heap):Prop where
 kept:∀b o,up b=false->h.get? b=some o->h'.get? b=some o
 life:h'.life=h.life
 out:∀b o,bX T b=none->h.get? b=some o->bX T' b=none/\h'.get? b=some o
theorem Fr.refl(up:Addr->Bool)(T:OT)(h:Heap):Fr up T h T h:=⟨λY Y Y e=>e,rfl,λY Y a e=>⟨a,e⟩⟩
theorem Fr.trans{up:Addr->Bool}{T' Uz:OT}{h' zj:Heap}(a:Fr up T h T' h')(b:Fr up T' h' Uz zj):Fr up T h Uz zj:=
 ⟨λx o u e=>b.kept x o u (a.kept x o u e),b.life.trans a.life,λx o t e=>b.out x o (a.out x o t e).1 (a.out x o t e).2⟩
structure J6 where
 res:Result
 T:OT
 m:Nat
 i:Nat
noncomputable abbrev J7:=Ctx->Sem Fin->Pos->OT->Nat->Nat->Option J6
variable {ih:J7}
noncomputable def NR{α β:Type}(o:Option α)(f:α->Option β):Option β:= @Option.rec α (λY=>Option β) none f o
noncomputable def J8{β:Type}(b:Bool)(f g:Option β):Option β:= @Bool.rec (λY=>Option β) g f b
noncomputable def J9(den:Code->Sem Fin)(prog:Program)(P:Params)(up:Addr->Bool)(ih:J7)(Γ:Ctx)(t:Sem Fin)(p:Pos)(T:OT)(m i:Nat):Option J6:=
 match t with
 |.pure (.done f)=>some ⟨.ok f,T,m,i⟩
 |.pure (.again c')=>J8 c'.quiet (ih (Γ.goto c') (den c') p T m i) none
 |.raise e=>some ⟨.error e,T,m,i⟩
 |.rule aR k=>ih Γ (k ()) p T m i
 |.at p' k=>ih Γ (k ()) p' T m i
 |.point aR k=>ih Γ (k ()) p T m i
 |.ask k=>ih Γ (k ⟨prog,P⟩) p T m i
 |.load a aR k=>NR (bX T a) λo=>ih Γ (k o) p T m i
 |.loadIfAlive a k=>NR (bX T a) λo=>ih Γ (k (some o)) p T m i
 |.update a aR f k=>J8 (up a) (NR (bX T a) λo=>J8 (f o).isFreed none (lO (f o) λo'=>ih Γ (k ()) p (iN T a o') m i)) none
 |.alloc o k=>J8 o.isFreed none (gj m λm=>J8 (Nat.ble m 4095) (ih Γ (k m) p (iN T m o) (Nat.succ m) i) none)
 |.fresh k=>gj i λi=>ih Γ (k i) p T m (Nat.succ i)
 |.handled own k=>ih Γ (k (if own then Γ.own else Γ.handled)) p T m i
 |.stack k=>ih Γ (k ((Γ.code,p)::Γ.below)) p T m i
 |.thread k=>ih Γ (k 0) p T m i
 |.call c h aR dm k=>NR (ih (Γ.enter c h p) (den c) p T m i) λr=>ih Γ (k r.res) p r.T r.m r.i
 |_=>none
noncomputable def ev(den:Code->Sem Fin)(prog:Program)(P:Params)(up:Addr->Bool)(n:Nat):J7:=
 @Nat.rec (λY=>J7) (λY Y Y Y Y Y=>none) (λY ih=>J9 den prog P up ih) n
theorem dX.alloc(D:dX h T m)(hf:o.isFreed=false)(hg:Nat.ble m 4095=true):dX (h.push o) (iN T m o) (m+1):=by
 refine⟨by rw[Heap.size_push,D.size],λa o' e=>?_⟩;rcases iD hg e with⟨rfl,rfl⟩|⟨_,e⟩
 ·rw[<-D.size];exact Heap.get?_push_size _ hf
 ·exact ju _ (D.at_ a o' e)
theorem o7(e:bX T a=some o):Nat.ble a 4095=true:=by
 unfold bX at e;cases h:Nat.ble a 4095 with
 |true=>rfl
 |false=>rw[h]at e;cases e
theorem dX.update{f:Obj->Obj}(D:dX h T m)(e:bX T a=some o)(hf:(f o).isFreed=false):dX (h.update a f) (iN T a (f o)) m:=by
 have z:=D.at_ _ _ e;have hs:Heap.SameBut a h (h.update a f):=Heap.SameBut.update ..;refine⟨by rw[hs.1,D.size],λb o' e'=>?_⟩;rcases iD (o7 e) e' with⟨rfl,rfl⟩|⟨hb,e'⟩
 ·first|exact Heap.get?_update_self f z hf|exact Heap.get?_update_self _ z hf
 ·exact(hs.2 _ hb).trans (D.at_ b o' e')
theorem gZ{b:Addr}(ha:Nat.ble a 4095=true)(hb:bX T b=none)(ne:b≠a):bX (iN T a o) b=none:=by
 cases e:bX (iN T a o) b with
 |none=>rfl
 |some x=>
  rcases iD ha e with⟨q,_⟩|⟨_,q⟩
  ·exact absurd q ne
  ·rw[hb]at q;cases q
theorem Fr.alloc(up:Addr->Bool)(T:OT)(h:Heap)(o:Obj)(hg:Nat.ble h.objs.size 4095=true):Fr up T h (iN T h.objs.size o) (h.push o):=
 ⟨λY Y Y e=>ju _ e,rfl,λb x t e=>⟨gZ hg t (Nat.ne_of_lt (Heap.lt_size e)),ju _ e⟩⟩
theorem Fr.update{up:Addr->Bool}(h:Heap)(f:Obj->Obj)(u:up a=true)(ea:bX T a=some o):Fr up T h (iN T a (f o)) (h.update a f):=
 ⟨λb o ub e=>((Heap.SameBut.update .. :Heap.SameBut a h (h.update a f)).2 b (λq=>by rw[q,u]at ub;cases ub)).trans e,rfl,
  λb x t e=>have ne:b≠a:=(λq=>by rw[q,ea]at t;cases t);⟨gZ (o7 ea) t ne,((Heap.SameBut.update .. :Heap.SameBut a h (h.update a f)).2 b ne).trans e⟩⟩
theorem o8{o:Option α}{f:α->Option β}{b:β}(h:NR o f=some b):∃a,o=some a/\f a=some b:=by
 cases o with
 |none=>cases h
 |some a=>exact⟨a,rfl,h⟩
theorem lR{c:Bool}{f g:Option β}{b:β}(h:J8 c f g=some b):(c=true/\f=some b)\/(c=false/\g=some b):=by
 cases c with
 |true=>exact .inl ⟨rfl,h⟩
 |false=>exact .inr ⟨rfl,h⟩
section
variable {prog:Program}{w:World}{up:Addr->Bool}{g:Array GenState}{d:Drawn}{os:OsState}
noncomputable abbrev sJ(prog:Program)(w:World)(up:Addr->Bool)(ih:J7):Prop:=
 ∀Γ t p T m i r (g:Array GenState) (d:Drawn) (os:OsState) (R:Result->Shared->Prop) h,ih Γ t p T m i=some r->dX h T m->
  (∀h',dX h' r.T r.m->Fr up T h r.T h'->R r.res ⟨h',g,d,r.i,os⟩)->
  wp (model prog w) Γ t (Sem.finPost (model prog w) Γ R) (λe Y s'=>R (.error e) s') p ⟨h,g,d,i,os⟩
theorem o9(IH:sJ prog w up ih){Γ:Ctx}{p:Pos}{i:Nat}{r:J6}{g:Array GenState}{d:Drawn}{os:OsState}{R:Result->Shared->Prop}
  (e:ih Γ (denote table Γ.code) p T m i=some r)(D:dX h T m)(K:∀h',dX h' r.T r.m->Fr up T h r.T h'->R r.res ⟨h',g,d,r.i,os⟩):wpCode (model prog w) Γ R p ⟨h,g,d,i,os⟩:=by
 rw[wpCode_iff_wp];exact IH Γ _ p T m i r g d os R h e D K
theorem zE(IH:sJ prog w up ih):sJ prog w up (J9 (denote table) prog w.params up ih):=by
 intro Γ t p T m i r g d os R h H D K;cases t with
 |pure fin=>
  cases fin with
  |done f=>cases H;exact K h D (.refl ..)
  |again c'=>
   rcases lR (show J8 c'.quiet _ none=some r from H)with⟨q,H⟩|⟨_,H⟩
   ·exact⟨q,o9 (Γ:=Γ.goto c') IH H D K⟩
   ·cases H
 |raise e=>cases H;exact K h D (.refl ..)
 |rule aR k=>exact IH Γ (k ()) p T m i r g d os R h H D K
 |«at» p' k=>exact IH Γ (k ()) p' T m i r g d os R h H D K
 |point aR k=>exact IH Γ (k ()) p T m i r g d os R h H D K
 |ask k=>exact IH Γ (k ⟨prog,w.params⟩) p T m i r g d os R h H D K
 |load a q k=>
  obtain⟨o,e,H⟩:=o8 (show NR (bX T a) (λo=>ih Γ (k o) p T m i)=some r from H);exact⟨o,D.at_ _ _ e,IH Γ (k o) p T m i r g d os R h H D K⟩
 |loadIfAlive a k=>
  obtain⟨o,e,H⟩:=o8 (show NR (bX T a) (λo=>ih Γ (k (some o)) p T m i)=some r from H);show wp _ _ (k (h.get? a)) _ _ _ _;rw[D.at_ _ _ e];exact IH Γ (k (some o)) p T m i r g d os R h H D K
 |update a q f k=>
  rcases lR (show J8 (up a) (NR (bX T a) λo=>J8 (f o).isFreed none (lO (f o) λo'=>ih Γ (k ()) p (iN T a o') m i)) none=some r from H)with⟨u,H⟩|⟨_,H⟩
  ·obtain⟨o,e,H⟩:=o8 H
   rcases lR H with⟨_,H⟩|⟨hf,H⟩
   ·cases H
   ·rw[lQ]at H
    refine⟨by rw[D.at_ _ _ e];rfl,IH Γ (k ()) p _ m i r g d os R _ H (D.update e hf) λh' D' F=>K h' D' ((Fr.update h f u e).trans F)⟩
  ·cases H
 |alloc o k=>
  rcases lR (show J8 o.isFreed none (gj m λm=>J8 (Nat.ble m 4095) (ih Γ (k m) p (iN T m o) (Nat.succ m) i) none)=some r from H)with⟨_,H⟩|⟨hf,H⟩
  ·cases H
  ·rw[d7]at H
   rcases lR H with⟨q,H⟩|⟨_,H⟩
   ·have e:=D.size
    subst e;exact IH Γ (k h.objs.size) p _ _ i r g d os R (h.push o) H (D.alloc hf q) λh' D' F=>K h' D' ((Fr.alloc up T h o q).trans F)
   ·cases H
 |fresh k=>
  have H:gj i (λi=>ih Γ (k i) p T m (Nat.succ i))=some r:=H;rw[d7]at H;exact IH Γ (k i) p T m (i+1) r g d os R h H D K
 |handled own k=>exact IH Γ (k (if own then Γ.own else Γ.handled)) p T m i r g d os R h H D K
 |stack k=>exact IH Γ (k ((Γ.code,p)::Γ.below)) p T m i r g d os R h H D K
 |thread k=>exact IH Γ (k 0) p T m i r g d os R h H D K
 |call c hd gd l k=>
  obtain⟨NS,Yn,Yo⟩:=o8 (show NR (ih (Γ.enter c hd p) (denote table c) p T m i) (λr=>ih Γ (k r.res) p r.T r.m r.i)=some r from H);refine o9 (Γ:=Γ.enter c hd p) IH Yn D λh' D' F=>?_;exact IH Γ (k NS.res) p NS.T NS.m NS.i r g d os R h' Yo D' λzj D'' F'=>K zj D'' (F.trans F')
 |unsupported|finish|register|choose|os|newGen|genState|resume|«yield»|fork|await=>cases H
theorem uG:∀n,sJ prog w up (ev (denote table) prog w.params up n)
 |0=>λY Y Y Y Y Y Y Y Y Y Y Y H=>by cases H
 |n+1=>zE (uG n)
end
noncomputable def Sg:Nat->List Obj->OT->OT
 |aR,[],t=>t
 |n,o::l,t=>Sg (n+1) l (iN t n o)
noncomputable def ZY(P:Params):OT:=Sg 0 (boot_heap P).objs.toList .nil
theorem E9:∀(l:List Obj) (n:Nat) (t:OT) (pre:List Obj),pre.length=n->n+l.length<=4096->(∀a o,bX t a=some o->pre[a]?=some o)->
  ∀a o,bX (Sg n l t) a=some o->(pre++l)[a]?=some o
 |[],n,t,pre,aR,dm,H,a,o,e=>by rw[List.append_nil];exact H a o e
 |x::l,n,t,pre,hp,hn,H,a,o,e=>by
  rw[List.length_cons]at hn;have z:=E9 l (n+1) (iN t n x) (pre++[x]) (by rw[List.length_append,hp];rfl) (by lia) (λb y eb=>by
   rcases iD (Nat.ble_eq_true_of_le (by lia)) eb with⟨rfl,rfl⟩|⟨_,eb⟩
   ·rw[List.getElem?_append_right (by lia),hp,Nat.sub_self];rfl
   ·have q:=H b y eb
    rw[List.getElem?_append_left (List.getElem?_eq_some_iff.mp q).1];exact q) a o e
  rw[List.append_assoc]at z;exact z
theorem Hq(P:Params):(boot_heap P).objs.toList.all (λo=> !o.isFreed)=true:=by rfl
theorem Hr(P:Params):(boot_heap P).objs.size<=4096:=by
 have:(boot_heap P).objs.size=11:=by rfl
 lia
theorem Ka(P:Params):dX (boot_heap P) (ZY P) (boot_heap P).objs.size:=by
 refine⟨rfl,λa o e=>?_⟩;have z:=E9 (boot_heap P).objs.toList 0 .nil [] rfl (by rw[Array.length_toList,Nat.zero_add];exact Hr P) (λa o e=>by
  unfold bX at e;cases h:Nat.ble a 4095<;>rw[h]at e<;>cases e) a o e
 rw[List.nil_append,Array.getElem?_toList]at z;have f:o.isFreed=false:=by
  have:=List.all_eq_true.mp (Hq P) o (Array.mem_toList_iff.mpr (Array.mem_of_getElem? z))
  simpa using this
 unfold Heap.get?;rw[z];obtain⟨c,d,dt,sl⟩:=o;cases dt<;>first|rfl|cases f
noncomputable def uH:Code->Sem Fin:=PySem.W.Fast.tw11892475500146522536 tT
noncomputable def upA(a:Addr):Bool:= @Bool.rec (λY=>Bool) (@Bool.rec (λY=>Bool) (Nat.beq a cStatics) true (Nat.beq a mainNs)) true (Nat.ble 11 a)
noncomputable def G0:Ctx:=⟨.builtin "claim.caller" {},none,none,[],none⟩
end Mine
namespace Mine
open PySem PySem.W PySem.Calls
variable {h:Heap}{P:Addr}{ps:Array Value}{M:Model}{A:Around}{E Q:Value->Shared->Prop}{name qualname:Str}{firstLine:Nat}{pos:Pos}{scope:Scope}{prog:Program}
noncomputable def kZ(L:Option (List Str×List Str)):Nat:=match L with|some _=>2|none=>0
noncomputable def uI(L:Option (List Str×List Str)):Nat:=match L with|some l=>l.1.length+l.2.length|none=>0
inductive IC (h:Heap) (c P:Addr) (ps:Array Value):Prop
 |mk (o:Obj) (vs:Array Value) (file:Str) (tf:Tok) (flags:Int) (tg:Tok) (CY:Bool) (text:Int) (tt:Tok) (op:Obj) (ho:h.get? c=some o) (hd:o.data=.fields vs) (Qh:vs.getD 11 .none=.ref P) (h2:vs.getD 18 .none=.str file tf)
  (h7:vs.getD 7 .none=.int flags tg) (h9:vs.getD 9 .none=.bool CY) (Sh:vs.getD 10 .none=.int text tt) (Si:h.get? P=some op) (UW:op.data=.fields ps) (ht:TriplesOk ps.toList) (mw:c≠P)
theorem IC.to{c:Addr}(x:IC h c P ps):h.IsCode c P ps:=by
 obtain⟨o,vs,file,tf,flags,tg,CY,text,tt,op,h1,h2,h3,h4,h5,h6,h7,h8,h9,Sh,Qh⟩:=x;exact⟨o,vs,file,tf,flags,tg,CY,text,tt,op,h1,h2,h3,h4,h5,h6,h7,h8,h9,Sh,Qh⟩
theorem IC.of{c:Addr}(x:h.IsCode c P ps):IC h c P ps:=
 x.elim λo x=>x.elim λvs x=>x.elim λf x=>x.elim λtf x=>x.elim λfl x=>x.elim λtg x=>x.elim λi x=>x.elim λte x=>x.elim λtt x=>x.elim λop x=>
  .mk o vs f tf fl tg i te tt op x.1 x.2.1 x.2.2.1 x.2.2.2.1 x.2.2.2.2.1 x.2.2.2.2.2.1 x.2.2.2.2.2.2.1 x.2.2.2.2.2.2.2.1 x.2.2.2.2.2.2.2.2.1 x.2.2.2.2.2.2.2.2.2.1 x.2.2.2.2.2.2.2.2.2.2
theorem uJ{c:Addr}{q:Str}(o:Obj)(vs:Array Value)(file:Str)(tf:Tok)(flags:Int)(tg:Tok)(CY:Bool)(text:Int)(tt tq:Tok)(ho:h.get? c=some o)(hc:o.cls=.type "code")(hd:o.data=.fields vs)(Qh:vs[11]?=some (.ref P))(h2:vs.getD 18 .none=.str file tf)
  (h7:vs.getD 7 .none=.int flags tg)(h9:vs.getD 9 .none=.bool CY)(Sh:vs.getD 10 .none=.int text tt)(h1:vs[1]?=some (.str q tq))(Si:h.get? P=some (X.tableObj #[]))(mw:c≠P):h.IsCode c P #[]/\h.TableAt c P #[]/\h.CodeRec (.ref c) q:=
 ⟨IC.to (.mk o vs file tf flags tg CY text tt _ ho hd (by rw[Array.getD_eq_getD_getElem?,Qh];rfl) h2 h7 h9 Sh Si rfl trivial mw),⟨⟨o,vs,ho,hc,hd,Qh⟩,Si⟩,⟨c,o,vs,tq,rfl,ho,hd,h1⟩⟩
theorem wY{s:Shared}{ctx:CodeContext}{Yp NT Sj flags:Nat}{free:List Str}{isFunction:Bool}
  {L:Option (List Str×List Str)}{fd:FuncData}
  (hQ:∀c P h' tk,(∀b o,s.heap.get? b=some o->h'.get? b=some o)->c=s.heap.objs.size+(3+kZ L)->P=s.heap.objs.size+1->h'.objs.size=s.heap.objs.size+(4+kZ L)->
   tk=s.toks+(5+free.length+uI L)->h'.life=s.heap.life->h'.IsCode c P #[]/\h'.TableAt c P #[]/\h'.CodeRec (.ref c) qualname->Q (.ref c) {s with heap:=h',toks:=tk}):
  wpAny M A (newCode ctx name qualname firstLine Yp NT Sj flags free isFunction none L (some fd)) Q E s:=by
 unfold newCode;refine wb (wpAny_mkText (wb (wpAny_mkText (wb (wpAny_mkText (wb (wpAny_mkStrs λfs=>
  wb (wpAny_newObjAsIs_type (wb (wpAny_alloc ?_))))))))))
 generalize hH:(s.heap.push {cls:=.type "tuple",dict:=none,data:=.seq fs.toArray})=H;have hz:H.objs.size=s.heap.objs.size+1:=by rw[<-hH,Heap.size_push]
 have ZZ:H.life=s.heap.life:=by rw[<-hH];rfl
 have hk:∀b o,s.heap.get? b=some o->H.get? b=some o:=λb o e=>hH▸ju _ e;have Z0:(H.push {cls:=.none,data:=.fields #[]}).get? H.objs.size=some {cls:=.none,data:=.fields #[]}:=Heap.get?_push_size _ rfl;induction L with
 |none=>
  refine wb (wq (wb (wq (wb (wb (wpAny_alloc (wq (wb (wpAny_fresh (wb (wpAny_mkText (wpAny_newObj_type ?_ (by size_fits)))))))))))));refine hQ _ H.objs.size _ _ (λb o e=>ju _ (ju _ (ju _ (hk b o e)))) (by first|(simp only[Heap.size_push,hz,kZ];done)|(simp only[Heap.size_push,hz,kZ];lia)) hz
   (by first|(simp only[Heap.size_push,hz,kZ];done)|(simp only[Heap.size_push,hz,kZ];lia)) (by first|(simp only[uI];done)|(simp only[uI];lia)) ZZ
   (uJ _ _ _ _ _ _ _ _ _ _ (Heap.get?_push_size _ rfl) rfl rfl rfl rfl rfl rfl rfl rfl (ju _ (ju _ Z0)) (by simp only[Heap.size_push];exact Nat.ne_of_gt (by lia)))
 |some l=>
  refine wb (wpAny_mkStrs λa=>wb (wpAny_newObjAsIs_type (wb (wpAny_mkStrs λb=>wb (wpAny_newObjAsIs_type
    (wb (wb (wpAny_alloc (wq (wb (wpAny_fresh (wb (wpAny_mkText (wpAny_newObj_type ?_ (by size_fits)))))))))))))))
  refine hQ _ H.objs.size _ _ (λb o e=>ju _ (ju _ (ju _ (ju _ (ju _ (hk b o e))))))
   (by first|(simp only[Heap.size_push,hz,kZ];done)|(simp only[Heap.size_push,hz,kZ];lia)) hz (by first|(simp only[Heap.size_push,hz,kZ];done)|(simp only[Heap.size_push,hz,kZ];lia)) (by first|(simp only[uI];done)|(simp only[uI];lia)) ZZ
   (uJ _ _ _ _ _ _ _ _ _ _ (Heap.get?_push_size _ rfl) rfl rfl rfl rfl rfl rfl rfl rfl (ju _ (ju _ (ju _ (ju _ Z0)))) (by simp only[Heap.size_push];exact Nat.ne_of_gt (by lia)))
theorem nZ{s:Shared}{env:Env}{c:Addr}{pr:Arguments}{body:FuncBody}
  (hc:env.code=.ref c)(hok:s.heap.IsCode c P ps)(DI:s.heap.TableAt c P ps)(VE:codeAmong pos ps.toList=none)
  (hQ:∀c' h' tk,Heap.ExtBut P s.heap h'->c'=s.heap.objs.size+(3+kZ (localNames pr scope body))->h'.objs.size=s.heap.objs.size+(4+kZ (localNames pr scope body))->
   tk=s.toks+(5+scope.freeNames.length+uI (localNames pr scope body))->h'.life=s.heap.life->
   h'.IsCode c P (ps++#[rawInt pos.line,rawInt pos.col,.ref c'])->h'.TableAt c P (ps++#[rawInt pos.line,rawInt pos.col,.ref c'])->h'.CodeRec (.ref c') qualname->
   Q (.ref c') {s with heap:=h',toks:=tk}):
  wpAny M A (functionCode env pos firstLine name qualname pr scope body) Q E s:=by
 obtain⟨o,vs,file,tf,flags,tg,CY,text,tt,op,ho,hd,Qh,h2,h7,h9,Sh,Si,UW,Z1,mw⟩:=IC.of hok;refine wn (c:=(env.code==.none)=true) (by rw[hc];exact Bool.false_ne_true) (wb (we (congrArg fieldsOf hc) (wpAny_fieldsOf ho hd ?_)));rw[Qh];refine wb (wpAny_fieldsOf Si UW ?_);have e4:(vs.getD 18 Value.none,vs.getD 7 Value.none,vs.getD 9 Value.none,vs.getD 10 Value.none)=(.str file tf,.int flags tg,.bool CY,.int text tt):=by rw[h2,h7,h9,Sh]
 rw[VE,e4];refine wb (wY λc' P' h' tk kept ec eP sz et lf rc=>?_);have Sk:=kept _ _ Si;have htb:=kept _ _ DI.2;refine wb (wpAny_updateFieldsOfTheText Sk UW ?_);have same:=Heap.SameBut.update (h:=h') (a:=P) (f:=Obj.mapFields λvs=>if (codeAmong pos vs.toList).isSome=true then vs else vs++#[rawInt pos.line,rawInt pos.col,.ref c']);have e1:op=X.tableObj ps:=di (Sk.symm.trans htb);have VF:Obj.mapFields (λvs=>if (codeAmong pos vs.toList).isSome=true then vs else vs++#[rawInt pos.line,rawInt pos.col,.ref c']) op=X.tableObj (ps++#[rawInt pos.line,rawInt pos.col,.ref c']):=by
  rw[e1];simp only[Obj.mapFields,X.tableObj,VE];rfl
 have NU:=Heap.get?_update_self (h:=h') (λo=>Obj.mapFields (λvs=>if (codeAmong pos vs.toList).isSome=true then vs else
  vs++#[rawInt pos.line,rawInt pos.col,.ref c']) o) Sk (by rw[VF];rfl)
 rw[VF]at NU;refine wb (wpAny_fieldsOf NU rfl ?_);have hl:(ps++#[rawInt pos.line,rawInt pos.col,Value.ref c']).toList=ps.toList++[rawInt pos.line,rawInt pos.col,.ref c']:=by simp
 rw[hl,codeAmong_snoc _ Z1 VE];have hcP:c'≠P:=Nat.ne_of_gt (Nat.lt_of_lt_of_le (Heap.lt_size Si) (by rw[ec];exact Nat.le_add_right ..));refine wq (hQ _ _ _ (λb o' hb e=>(same.extBut b o' hb (kept b o' e))) ec (by rw[Heap.size_after_update];exact sz) et lf ?_ ?_ ?_)
 ·exact IC.to (.mk o vs file tf flags tg CY text tt _ (same.extBut _ _ mw (kept _ _ ho)) hd Qh h2 h7 h9 Sh NU rfl (by rw[hl];exact TriplesOk_snoc _ _ _ _ Z1) mw)
 ·exact⟨DI.1.imp λY x=>x.imp λY x=>⟨same.extBut _ _ mw (kept _ _ x.1),x.2⟩,NU⟩
 ·exact rc.2.2.imp λc₂ x=>x.imp λY x=>x.imp λY x=>x.imp λY x=>⟨x.1,same.extBut _ _ (λz=>hcP ((Value.ref.inj x.1).trans z)) x.2.1,x.2.2⟩
noncomputable def jc(P:Params)(n:Str):Int:=if n.cps.isEmpty then 0 else reduceHash (P.strHash n.cps)
theorem qZ{w:World}{s:Shared}{a:Addr}{m}{v:Value}{Q:Unit->Shared->Prop}(hn:s.heap.Ns a m)
  (h:Q () {s with heap:=s.heap.update a (Obj.putName name (jc w.params name) (.str name s.toks) v),toks:=s.toks+1}):wpAny (model prog w) A (nsSet a name v) Q E s:=λΓ p Y=>by
 obtain⟨o,es,ep,ho,hd,hk,hm⟩:=hn;have RB:es.any (·.refKey)=false:=by
  rw[Array.any_eq_false'];intro e he;obtain⟨n,t,h⟩:=hk e he;simp[DictEntry.refKey,h]
 simp only[nsSet,strHash,Sem.wp_bind',Sem.wp_cmd_ask,Sem.wp_pure',Sem.wp_cmd_mkText];rw[Sem.wp_loadPart_of _ _ _ _ {s with toks:=s.toks+1} (o:=o) _ ho];simp only[hd,aRefKeyMayBeTheName_eq,aRefKeyMayBeTheNameByArray,RB,Bool.and_false,Bool.false_eq_true,if_false,Sem.wp_cmd_updatePart];exact⟨by rw[ho];rfl,h⟩
theorem uK{w:World}{s:Shared}{c Pl F:Addr}{params:Arguments}{body:List Stmt}
  {mg}{Q:Flow->Shared->Prop}
  (VG:PlainDefTree name params body scope pos)
  (VH:∀x∈scope.names,x.2≠.free)(Yq:docOf body=none)(NV:prog.main.scope.names.lookup name=some .local)
  (hq:qualnameIn {scope:=prog.main.scope,locals:=mainGlobals,globals:=mainGlobals,cells:=[]} name name=name)(hm:s.heap.Main mg c Pl ps)(DI:s.heap.TableAt c Pl ps)
  (zF:prog.main.scope.kind=.module)(VE:codeAmong pos ps.toList=none)
  (h:∀c' eY,Heap.ExtBut Pl s.heap eY->c'=s.heap.objs.size+(3+kZ (localNames params scope (.stmts body)))->eY.objs.size=s.heap.objs.size+(4+kZ (localNames params scope (.stmts body)))->
   eY.life=s.heap.life->eY.TableAt c Pl (ps++#[rawInt pos.line,rawInt pos.col,.ref c'])->eY.CodeRec (.ref c') name->
   Q .next {s with
    heap:=(eY.push {cls:=.type "function",data:=.func (plainDef name params body scope ((mg "__name__").getD .none) (.ref c'))}).update mainGlobals
     (Obj.putName name (jc w.params name) (.str name (s.toks+(5+scope.freeNames.length+uI (localNames params scope (.stmts body))))) (.ref eY.objs.size))
    toks:=s.toks+(5+scope.freeNames.length+uI (localNames params scope (.stmts body)))+1}):
  wpAny (model prog w) A (exec (.FunctionDef name params body [] none [] scope none name pos) (mainEnv prog c F)) Q E s:=by
 have hq':qualnameIn (mainEnv prog c F) name name=name:=hq;rw[VG,hq'];refine wb (wpAny_standAt (wb (wpAny_holding ?_)));have UM:closureFor scope (mainEnv prog c F)=pure []:=closureFor_none VH;refine wb (wq (wi (by rw[List.zip_nil_right];rfl) (wb (wq (wi rfl (wb (wq (wb (we UM (wq (wi rfl (wb (wq (wb (nZ (c:=c) (P:=Pl) rfl hm.code DI VE λc' eY tk hx ec sz et lf Y tb rc=>?_)))))))))))))));subst et;obtain⟨bm,o,hbm,Sl,abz,Yr,hbo,Ys,VI,VJ⟩:=hm.bmod;have Yt:=hm.g.extBut hx (Nat.ne_of_lt hm.low.2);refine wb (wpAny_builtinsFor Yt hbm Sl (hx _ _ Yr hbo) Ys VI VJ ?_);refine wb (wpAny_nsGet Yt (wb (we (b:=pure Value.none) (by rw[Yq]) (wq ?_))));refine wb (wpAny_alloc (wq (wb (wpAny_standAt (wb (wpAny_bindName ?_))))));rw[storeName_local (env:=mainEnv prog c F) NV (by show(prog.main.scope.kind==.class||(prog.main.scope.kind==.module&&mainGlobals !=mainGlobals))=false;rw[zF];rfl)];exact qZ (Yt.push _) (wq (h c' eY hx ec sz lf tb rc))
end Mine
namespace Mine
open PySem PySem.W PyProof.Rows PySem.Calls PySem.SeqAt
variable {s':Shared}{k' t':Nat}{M:Addr->Prop}{α:Type}{e:Expr}{vs:List V}{A:Around}{pos:Pos}{E:Value->Shared->Prop}{ss:List String}{es:List Expr}{d:Addr}{h':Heap}
structure Ext (X:Addr->Prop) (s s':Shared) (k t:Nat):Prop where
 same:∃h tk,s'={s with heap:=h,toks:=tk}
 keep:∀b o,s.heap.get? b=some o->¬ X b->s'.heap.get? b=some o
 live:∀b o,s.heap.get? b=some o->bV s'.heap b
 size:s'.heap.objs.size=s.heap.objs.size+k
 toks:s'.toks=s.toks+t
noncomputable abbrev no:Addr->Prop:=λY=>False
theorem Ext.refl{X:Addr->Prop}{s:Shared}:Ext X s s 0 0:=⟨⟨_,_,rfl⟩,λY Y e Y=>e,λY o e=>⟨o,e⟩,rfl,rfl⟩
theorem Ext.trans{X:Addr->Prop}{s P1:Shared}{k t:Nat}(a:Ext X s s' k t)(b:Ext X s' P1 k' t'):Ext X s P1 (k+k') (t+t'):=by
 obtain⟨h1,t1,e1⟩:=a.same;obtain⟨h2,t2,e2⟩:=b.same;refine⟨⟨h2,t2,by rw[e2,e1]⟩,λx o e n=>b.keep x o (a.keep x o e n) n,λx o e=>?_,by rw[b.size,a.size,Nat.add_assoc],by rw[b.toks,a.toks,Nat.add_assoc]⟩;obtain⟨o',e'⟩:=a.live x o e;exact b.live x o' e'
theorem Ext.weaken{X Yy:Addr->Prop}{s:Shared}{k t:Nat}(a:Ext X s s' k t)(h:∀x,bV s.heap x->X x->Yy x):Ext Yy s s' k t:=
 ⟨a.same,λx o e n=>a.keep x o e λq=>n (h x ⟨o,e⟩ q),a.live,a.size,a.toks⟩
theorem Ext.to{X:Addr->Prop}{s:Shared}{k t:Nat}(a:Ext X s s' k t)(hk:k=k')(ht:t=t'):Ext X s s' k' t':=hk▸ht▸a
theorem Ext.tok(X:Addr->Prop)(s:Shared)(t:Nat):Ext X s {s with toks:=s.toks+t} 0 t:=⟨⟨_,_,rfl⟩,λY Y e Y=>e,λY o e=>⟨o,e⟩,rfl,rfl⟩
theorem Ext.push(X:Addr->Prop)(s:Shared)(o:Obj):Ext X s {s with heap:=s.heap.push o} 1 0:=
 ⟨⟨_,_,rfl⟩,λY Y e Y=>ju _ e,λY o e=>⟨o,ju _ e⟩,Heap.size_push _ _,rfl⟩
theorem Ext.grow{X:Addr->Prop}{s:Shared}{k t:Nat}(a:Ext X s s' k t)(hX:∀x,X x->M x):d9 s.heap M [] s'.heap M []:=
 ⟨λx o e n=>a.keep x o e λq=>n (hX x q),λY Y Y q=>q,λY Y e=>e⟩
theorem Ext.lives{X:Addr->Prop}{s:Shared}{k t:Nat}(a:Ext X s s' k t)(hM:∀x,M x->bV s.heap x):∀x,M x->bV s'.heap x:=λx m=>by
 obtain⟨o,e⟩:=hM x m;exact a.live x o e
section
variable {P:PV}{env:Env}
noncomputable def Yu(P:PV)(env:Env)(e:Expr)(v:V)(k t:Nat):Prop:=∀{M:Addr->Prop} {A:Around} {s:Shared} {Q E:Value->Shared->Prop},(∀a,M a->bV s.heap a)->
 (∀w s',Ext no s s' k t->aK P s'.heap M [] v w->Q w s')->wpAny (model P.prog P.w) A (eval e env) Q E s
theorem lS{b:Bool}{o:Option α}{z:α}(h:(bif b then o else none)=some z):b=true/\o=some z:=by
 rcases b with _|_
 ·exact aN h
 ·exact⟨rfl,h⟩
noncomputable def Sm(e:Expr):Option Int:=(JU e).bind λq=>(cI q.1.1).map (·.1)
noncomputable def xR(v:V)(e:Expr):Option Nat:=(qb v).elim ((PF v).bind λx=>(JU e).bind λq=>(cS q.1.1).bind λy=>if y.1=Str.ofString x then some 1 else none)
 λi=>(Yh e).elim ((Sm e).bind λj=>if j=i then some 1 else none) λq=>(Sm q.1.2.1).bind λj=>if q.1.1=.USub/\-j=i then some 2 else none
theorem Fb{i:Int}(h:Sm e=some i):∃k p,e=.Constant (.int i) k p:=f9 h λq Y h=>nW h λy Y e=>⟨q.1.2.1,q.1.2.2,q.2.trans (by rw[y.2,e])⟩
theorem BB{v:V}{t:Nat}(h:xR v e=some t){C:V->Expr->Nat->Prop}(a:∀i k p,C (.int i) (.Constant (.int i) k p) 1)(b:∀i k p p',C (.int (-i)) (.UnaryOp .USub (.Constant (.int i) k p) p') 2)
  (c:∀x k p,C (.str x) (.Constant (.str (Str.ofString x)) k p) 1):C v e t:=by
 unfold xR at h;cases hi:qb v with
 |none=>
  rw[hi]at h;refine f9 h λx hx h=>f9 h λq Y h=>f9 h λy Y h=>?_;have z:=bD h;rw[tU hx,q.2,y.2,z.1,<-z.2];exact c _ _ _
 |some i=>
  rw[hi]at h;rw[iz hi];cases hq:Yh e with
  |none=>
   rw[hq]at h;refine f9 h λj hj h=>(Fb hj).elim λk r=>r.elim λp e=>?_;have z:=bD h;rw[e,<-z.1,<-z.2];exact a _ _ _
  |some q=>
   rw[hq]at h;refine f9 h λj hj h=>(Fb hj).elim λk r=>r.elim λp e=>?_;have z:=bD h;rw[q.2,e,z.1.1,<-z.1.2,<-z.2];exact b _ _ _ _
theorem q7{v:V}{t:Nat}(h:xR v e=some t):Yu P env e v 0 t:=
 BB h (C:=λv e t=>Yu P env e v 0 t) (λi c p Y Y s Q E hM k=>wpAny_Constant_int (k _ _ (Ext.tok _ s 1) ⟨_,rfl⟩))
  (λi c p p' Y Y s Q E hM k=>wpAny_UnaryOp (wpAny_Constant_int (PySem.P.neg_int (k _ _ (Ext.tok _ s 2) ⟨_,rfl⟩)))) (λx c p Y Y s Q E hM k=>wpAny_Constant_str (k _ _ (Ext.tok _ s 1) ⟨_,rfl⟩))
theorem wZ{v:V}{t:Nat}(h:xR v e=some t):notStar e=true:=BB h (C:=λY e Y=>notStar e=true) (λY Y Y=>rfl) (λY Y Y Y=>rfl) (λY Y Y=>rfl)
noncomputable def Yv{α:Type}:List α->Option (α×List α)|[]=>none|x::xs=>some (x,xs)
theorem Kc{l:List α}{q:α×List α}(h:Yv l=some q):l=q.1::q.2:=by
 rcases l with _|⟨x,xs⟩
 ·exact aN h
 ·rw[<-di h]
noncomputable def zG:List V->List Expr->Option Nat
 |[],es=>bif es.isEmpty then some 0 else none
 |v::vs,es=>(Yv es).bind λq=>(xR v q.1).bind λa=>(zG vs q.2).map (a+·)
theorem pn:∀{es:List Expr} {t:Nat},zG vs es=some t->∀{s:Shared} {Q:List Value->Shared->Prop},(∀a,M a->bV s.heap a)->
  (∀ws s',Ext no s s' 0 t->aM P s'.heap M [] vs ws->ws.length=es.length->Q ws s')->wpAny (model P.prog P.w) A (spliced (backTo pos (starEach es env))) Q E s:=by
 induction vs with
 |nil=>
  intro es t h s Q hM k;have z:=lS h;have e:=List.isEmpty_iff.mp z.1;subst e;exact args_nil (k _ _ (di z.2▸Ext.refl) rfl rfl)
 |cons v vs ih=>
  intro es t h s Q hM k;refine f9 h λq hq h=>f9 h λa ha h=>nW h λb hb e=>?_;have u:=Kc hq;subst u;refine args_cons (q7 ha hM λw s1 x1 r1=>ih hb (x1.lives hM) λws s2 x2 r2 l2=>?_) (bZ (wZ ha));exact k _ _ (e▸x1.trans x2) ⟨_,_,rfl,r1.mono (x2.grow λY q=>q.elim),r2⟩ (congrArg (· +1) l2)
noncomputable def Fc(v:V)(e:Expr):Option (Nat×Nat):=(MD v).elim ((Uq v).elim ((xR v e).map λt=>(0,t)) λvs=>(NC e).bind λq=>if q.1.length<=1000 then(zG vs q.1).map λt=>(1,t) else none)
 λvs=>(zx e).bind λq=>if q.1.length<=1000 then(zG vs q.1).map λt=>(1,t) else none
theorem DJ{s:Shared}{o:Obj}(hf:o.isFreed=false)(hM:∀a,M a->bV s.heap a):(s.heap.push o).get? s.heap.objs.size=some o/\¬ M s.heap.objs.size:=
 ⟨Heap.get?_push_size _ hf,λq=>(hM _ q).elim λo e=>aN (bC.symm.trans e)⟩
theorem q8{v:V}{r:Nat×Nat}(h:Fc v e=some r):Yu P env e v r.1 r.2:=by
 intro M A s Q E hM kk;unfold Fc at h;cases ht:MD v with
 |some vs=>
  rw[ht]at h;refine f9 h λq Y h=>?_;have z:=dg h;refine nW z.2 λt' Yw e=>?_;have eq:=q.2;refine eq.elim λnc r=>r.elim λpos eq=>?_;rw[eq];refine wpAny_Tuple (pn Yw hM λws s1 x1 r1 l1=>⟨by rw[l1,sizeLine_eq];exact Nat.le_trans z.1 (by decide),?_⟩);have p:=DJ (s:=s1) (o:={cls:=.type "tuple",data:=.seq ws.toArray}) rfl (x1.lives hM);have x2:=Ext.push no s1 {cls:=.type "tuple",data:=.seq ws.toArray};exact kk _ _ (e▸x1.trans x2) (tV ht▸⟨_,ws.toArray,rfl,p.2,⟨_,p.1,rfl,_,rfl⟩,aM.mono (x2.grow λY q=>q.elim) _ r1⟩)
 |none=>
  rw[ht]at h;cases hl:Uq v with
  |some vs=>
   rw[hl]at h;refine f9 h λq Y h=>?_;have z:=dg h;refine nW z.2 λt' Yw e=>?_;have eq:=q.2;refine eq.elim λpos eq=>?_;rw[eq];refine wpAny_List (pn Yw hM λws s1 x1 r1 l1=>⟨by rw[l1,sizeLine_eq];exact Nat.le_trans z.1 (by decide),?_⟩);have p:=DJ (s:=s1) (o:={cls:=.type "list",data:=.seq ws.toArray}) rfl (x1.lives hM);have x2:=Ext.push no s1 {cls:=.type "list",data:=.seq ws.toArray};exact kk _ _ (e▸x1.trans x2) (Dd hl▸⟨_,ws.toArray,rfl,p.2,⟨_,p.1,rfl,_,rfl⟩,aM.mono (x2.grow λY q=>q.elim) _ r1⟩)
  |none=>
   rw[hl]at h;exact nW h λt ha e=>by subst e;exact q7 ha hM kk
noncomputable def zH:List V->List Expr->Option (Nat×Nat)
 |[],es=>bif es.isEmpty then some (0,0) else none
 |v::vs,es=>(Yv es).bind λq=>(Fc v q.1).bind λa=>(zH vs q.2).map λb=>(a.1+b.1,a.2+b.2)
noncomputable abbrev EQ:=List (V×Nat×Nat)
noncomputable def elemR(q:V×Nat×Nat)(e:Expr):Prop:=Fc q.1 e=some q.2
noncomputable def kO(qs:EQ):Nat:=(qs.map (·.2.1)).sum
noncomputable def tO(qs:EQ):Nat:=(qs.map (·.2.2)).sum
theorem Hs:∀{es:List Expr} {r:Nat×Nat},zH vs es=some r->∃qs:EQ,qs.map (·.1)=vs/\eT elemR qs es/\kO qs=r.1/\tO qs=r.2:=by
 induction vs with
 |nil=>
  intro es r h;have z:=lS h;have e:=List.isEmpty_iff.mp z.1;subst e;exact⟨[],rfl,trivial,congrArg (·.1) (di z.2),congrArg (·.2) (di z.2)⟩
 |cons v vs ih=>
  intro es r h;refine f9 h λq hq h=>f9 h λa ha h=>nW h λb hb e=>?_;have u:=Kc hq;subst u;subst e;exact(ih hb).elim λqs r=>⟨(v,a)::qs,congrArg (v::·) r.1,⟨ha,r.2.1⟩,congrArg (a.1+·) r.2.2.1,congrArg (a.2+·) r.2.2.2⟩
theorem Z2(a b:Nat):0+a+b=a+b:=by rw[Nat.zero_add]
theorem ar1(a b c:Nat):1+a+(b+c)=a+b+(c+1):=by lia
theorem ar2(a b c:Nat):1+a+1+(b+2*c)=a+b+2*(c+1):=by lia
theorem NW{keys:List (Option Expr)}{qs:EQ}(D:gQ elemR ss keys qs es):
  ∀{M:Addr->Prop} {A:Around} {s:Shared} {Q:List (Value×Value)->Shared->Prop} {E:Value->Shared->Prop},(∀a,M a->bV s.heap a)->
  (∀nX l s',Ext no s s' (kO qs) (tO qs+ss.length)->Carries (strKind P.prog P.w) nX l->nX.length=ss.length->bB P s'.heap M [] ((ss.map V.str).zip (qs.map (·.1))) l->Q nX s')->
  wpAny (model P.prog P.w) A (evalPairs (pairTrees keys es env pos)) Q E s:=by
 induction D with
 |nil=>exact λhM k=>pairTrees_nil_walk (k [] [] _ Ext.refl trivial rfl rfl)
 |cons hx aR ih=>
  intro M A s Q E hM k;refine pairTrees_cons_walk (wpAny_Constant_str ?_);have x0:=Ext.tok no s 1;refine q8 hx (x0.lives hM) λw s1 x1 r1=>?_;refine ih ((x0.trans x1).lives hM) λnX l s2 x2 c2 l2 r2=>?_;exact k (_::nX) (_::l) _ (((x0.trans x1).trans x2).to (Z2 _ _) (ar1 _ _ _)) ⟨tZ _ _,rfl,c2⟩ (congrArg (· +1) l2) ⟨_,w,l,rfl,rfl,r1.mono (x2.grow λY q=>q.elim),r2⟩
structure Under (P:PV) (M:Addr->Prop) (d:Addr) (ss:List String) (vs:List V) (l:List (Str×Value)) (s:Shared):Prop where
 m:¬ M d
 dict:s.heap.DictOf (strKind P.prog P.w) d l
 rel:bB P s.heap (λa=>M a\/a=d) [] ((ss.map V.str).zip vs) l
 len:ss.length=vs.length
theorem mH{h:Heap}{l:List (Str×Value)}(D:h.DictOf (strKind P.prog P.w) d l):bV h d:=D.elim λo r=>r.elim λY r=>r.elim λY r=>⟨o,r.1⟩
theorem Ext.dict{X:Addr->Prop}{s:Shared}{k t:Nat}{l:List (Str×Value)}(x:Ext X s s' k t)(hd:¬ X d)(D:s.heap.DictOf (strKind P.prog P.w) d l):s'.heap.DictOf (strKind P.prog P.w) d l:=
 D.elim λo r=>r.elim λes r=>r.elim λep r=>⟨o,es,ep,x.keep d o r.1 hd,r.2⟩
theorem Ext.Sn{s:Shared}(tk:Nat)(hs:Heap.SameBut d s.heap h')(lv:bV h' d):Ext (λa=>a=d) s {s with heap:=h',toks:=s.toks+tk} 0 tk:=
 ⟨⟨_,_,rfl⟩,λb o e n=>(hs.2 b n).trans e,λb o e=>if q:b=d then q▸lv else⟨o,(hs.2 b q).trans e⟩,hs.1,rfl⟩
section
variable {M:Addr->Prop}{d:Addr}{ss:List String}{vs:List V}{l:List (Str×Value)}{s:Shared}
theorem Under.keys(u:Under P M d ss vs l s):l.map (·.1)=ss.map Str.ofString:=u.rel.keys u.len
theorem Under.length(u:Under P M d ss vs l s):l.length=ss.length:=(List.length_map ..).symm.trans ((congrArg List.length u.keys).trans (List.length_map ..))
theorem Under.lives(u:Under P M d ss vs l s)(hM:∀a,M a->bV s.heap a):∀a,(M a\/a=d)->bV s.heap a:=λa q=>q.elim (hM a) λz=>z▸mH u.dict
theorem Under.ext{k t:Nat}(u:Under P M d ss vs l s)(x:Ext no s s' k t):Under P M d ss vs l s':=⟨u.m,x.dict (λq=>q) u.dict,bB.mono (x.grow λY q=>q.elim) _ u.rel,u.len⟩
theorem Ht(hM:∀a,M a->bV s.heap a):Under P M s.heap.objs.size [] [] [] {s with heap:=s.heap.push {cls:=.type "dict",data:=.dict #[]}}:=
 ⟨(DJ (o:={cls:=.type "dict",data:=.dict #[]}) rfl hM).2,Heap.DictOf.new _,rfl,rfl⟩
theorem Under.put{x:String}{v:V}{w:Value}{tk:Nat}(u:Under P M d ss vs l s)(hs:Heap.SameBut d s.heap h')
  (D:h'.DictOf (strKind P.prog P.w) d (l++[(Str.ofString x,w)]))(r:aK P s.heap (λa=>M a\/a=d) [] v w):Under P M d (ss++[x]) (vs++[v]) (l++[(Str.ofString x,w)]) {s with heap:=h',toks:=tk}:=by
 have g:d9 s.heap (λa=>M a\/a=d) [] h' (λa=>M a\/a=d) []:=⟨λb o e n=>(hs.2 b λq=>n (.inr q)).trans e,λY Y Y q=>q,λY Y e=>e⟩;refine⟨u.m,D,?_,by rw[List.length_append,List.length_append,u.len];rfl⟩;rw[List.map_append,fB ((List.length_map ..).trans u.len)];exact bB.append (bB.mono g _ u.rel) ⟨x,w,[],rfl,rfl,r.mono g,rfl⟩
theorem Under.fresh(u:Under P M d ss vs l s){x:String}{tt:List String}(nd:(ss++x::tt).Nodup)(hz:ss.length+(tt.length+1)<=1000):Str.ofString x∉l.map (·.1)/\l.length<=sizeLine:=by
 refine⟨λq=>?_,?_⟩
 ·rw[u.keys]at q
  exact(List.mem_map.mp q).elim λb r=>(List.nodup_append.mp nd).2.2 _ r.1 x (List.mem_cons_self ..) (fH r.2)
 ·rw[u.length,sizeLine_eq]
  exact Nat.le_trans (Nat.le_trans (Nat.le_add_right ..) hz) (by decide)
end
theorem So{keys:List (Option Expr)}{qs:EQ}(D:gQ elemR ss keys qs es):
  ∀{done:List String} {us:List V} {l:List (Str×Value)} {M:Addr->Prop} {A:Around} {s:Shared} {Q:PUnit->Shared->Prop} {E:Value->Shared->Prop},(∀a,M a->bV s.heap a)->Under P M d done us l s->
  (done++ss).Nodup->done.length+ss.length<=1000->
  (∀l' s',Ext (λa=>a=d) s s' (kO qs) (tO qs+2*ss.length)->Under P M d (done++ss) (us++qs.map (·.1)) l' s'->Q PUnit.unit s')->
  wpAny (model P.prog P.w) A (forIn (pairTrees keys es env pos) PUnit.unit (Bm d)) Q E s:=by
 induction D with
 |nil=>
  intro done us l M A s Q E hM U nd hz k;show wpAny _ _ (forIn [] _ _) _ _ _;rw[List.forIn_nil];exact wq (k l _ Ext.refl ((List.append_nil done).symm▸(List.append_nil us).symm▸U))
 | @cons cU c p x e ss keys qs es hx aR ih=>
  intro done us l M A s Q E hM U nd hz k;show wpAny _ _ (forIn ((eval (.Constant (.str (Str.ofString cU)) c p) env,do let x<-eval e env;standAt pos;pure x)::pairTrees keys es env pos) _ _) _ _ _;rw[List.forIn_cons];have x0:=Ext.tok no s 1;refine wb (wb (wpAny_Constant_str (k:=c) (pos:=p) (env:=env) (wb (wpAny_holding (wb (q8 hx (M:=λa=>M a\/a=d) (x0.lives (U.lives hM))
   λw s1 x1 r1=>wb (wpAny_standAt (wq ?_))))))))
  have x1:=x0.trans x1;have U1:=U.ext x1;have fr:=U1.fresh nd hz;refine wb (wpAny_holding (wpAny_dictSet_pairs (k:=Str.ofString cU) (tZ _ _) U1.dict (λh' D2 hs=>wq ?_) fr.2));rw[oV fr.1]at D2;have x2:=Ext.Sn (s:=s1) 1 hs (mH D2);have lq:=(x1.weaken (Yy:=λa=>a=d) λY Y q=>q.elim).trans x2;refine ih (lq.lives hM) (U1.put (tk:=s1.toks+1) hs D2 r1) ((List.append_assoc done [cU] ss).symm▸nd) ?_ λl' s3 x3 U3=>?_
  ·rw[List.length_append,Nat.add_assoc,Nat.add_comm [cU].length];exact hz
  ·exact k l' _ ((lq.trans x3).to (Z2 _ _) (ar2 _ _ _)) (List.append_assoc done [cU] ss▸List.append_assoc us [x.1] (qs.map (·.1))▸U3)
theorem Ext.back{s:Shared}{a b:Nat}(hd:s.heap.get? d=none)(x:Ext (λa=>a=d) s s' a b):Ext no s s' a b:=x.weaken λa lv q=>lv.elim λo e=>aN (hd.symm.trans (q▸e))
theorem ar3(a b c:Nat):1+a+0=a+1/\0+(b+c)+c=b+2*c:=by lia
theorem ar4(a b:Nat):1+a=a+1/\0+b=b:=by lia
theorem qy{keys:List (Option Expr)}{qs:EQ}(D:gQ elemR ss keys qs es)(nd:ss.Nodup)(hz:ss.length<=1000)
  {s:Shared}{Q:Addr->Shared->Prop}(hM:∀a,M a->bV s.heap a)
  (k:∀d l s',Ext no s s' (kO qs+1) (tO qs+2*ss.length)->Under P M d ss (qs.map (·.1)) l s'->d=s.heap.objs.size->Q d s'):wpAny (model P.prog P.w) A (subDict (pairTrees keys es env pos)) Q E s:=by
 have U0:=Ht (P:=P) hM;have x0:=Ext.push no s {cls:=.type "dict",data:=.dict #[]};by_cases hs:ss.length<=15
 ·refine wpAny_subDict (knd:=strKind P.prog P.w) (by rw[D.len.2];exact hs) ?_
  refine NW D (M:=λa=>M a\/a=s.heap.objs.size) (U0.lives (x0.lives hM)) λnX l s1 x1 c1 l1 r1=>⟨l,c1,x1.dict (λq=>q) U0.dict,λh' D3 k9=>?_⟩;have ln:ss.length=(qs.map (·.1)).length:=D.len.1.trans (List.length_map ..).symm;rw[merged_nil_of_nodup l (by rw[r1.keys ln];exact oX nd)]at D3;have x2:=Ext.Sn (s:=s1) nX.length k9 (mH D3);have g:d9 s1.heap (λa=>M a\/a=s.heap.objs.size) [] h' (λa=>M a\/a=s.heap.objs.size) []:=⟨λb o e n=>(k9.2 b λq=>n (.inr q)).trans e,λY Y Y q=>q,λY Y e=>e⟩;have z:=ar3 (kO qs) (tO qs) ss.length;exact k _ l _ (((((x0.trans x1).weaken λY Y q=>q.elim).trans x2).back bC).to z.1 (l1▸z.2)) ⟨U0.m,D3,bB.mono g _ r1,ln⟩ rfl
 ·unfold subDict
  refine wb (wpAny_alloc ?_);refine wb (wpAny_holding ?_);rw[if_neg (by rw[D.len.2];exact hs)];refine wb (wpAny_rule ?_);have z:=ar4 (kO qs) (tO qs+2*ss.length);exact wb (So D (done:=[]) (us:=[]) (x0.lives hM) U0 nd ((Nat.zero_add ss.length).symm▸hz) λl' s2 x2 U2=>wq (wq (k _ l' _ ((((x0.weaken λY Y q=>q.elim).trans x2).back bC).to z.1 z.2) U2 rfl)))
theorem ar5(a b c:Nat):a+1+0=a+1/\b+2*c+0=b+2*c:=⟨rfl,rfl⟩
theorem Fd{keys:List (Option Expr)}{qs:EQ}(D:gQ elemR ss keys qs es)
  {done:List String}{us:List V}{l:List (Str×Value)}{s:Shared}{Q:Option Addr->Shared->Prop}(hM:∀a,M a->bV s.heap a)(U:Under P M d done us l s)(uL:bV s.heap sysModules)
  (nd:(done++ss).Nodup)(hz:done.length+ss.length<=1000)(h0:done≠[])
  (k:∀l' s',Ext (λa=>a=d) s s' (kO qs+if ss.length=0 then 0 else 1) (tO qs+2*ss.length)->Under P M d (done++ss) (us++qs.map (·.1)) l' s'->Q (some d) s'):wpAny (model P.prog P.w) A (eE (pairTrees keys es env pos) (some d)) Q E s:=by
 unfold eE;by_cases he:(pairTrees keys es env pos).isEmpty=true
 ·rw[if_pos he]
  obtain⟨rfl,rfl⟩:=D.nil_of he;exact wq (k l _ Ext.refl ((List.append_nil done).symm▸(List.append_nil us).symm▸U))
 ·rw[if_neg he]
  have Sl:ss.length≠0:=λz=>he (List.isEmpty_iff.mpr (List.length_eq_zero_iff.mp ((D.len.2 env pos).trans z)));refine wb (wpAny_holding (qy D (List.nodup_append.mp nd).2.1 (Nat.le_trans (Nat.le_add_left ..) hz) (M:=λa=>M a\/a=d) (U.lives hM) λd2 l2 s2 x2 U2 Xd=>?_));have W4:(l.map (·.1)++l2.map (·.1)).Nodup:=by rw[U.keys,U2.keys,<-List.map_append];exact oX nd
  have hd2:(d2==sysModules)=false:=beq_eq_false_iff_ne.mpr λz=>uL.elim λo e=>aN (bC.symm.trans (Xd▸z▸e));refine wb (wpAny_onRaise (wpAny_holding (qR (λz=>U2.m (.inr z.symm)) hd2 (x2.dict (λq=>q) U.dict) U2.dict (λz=>h0 (List.length_eq_zero_iff.mp (by rw[<-U.length,z];rfl))) W4
   (by rw[U.length,U2.length,sizeLine_eq];exact Nat.le_trans hz (by decide)) λh' D3 JJ=>wq ?_)))
  have x3:Ext (λa=>a=d) s2 {s2 with heap:=h'} 0 0:=Ext.Sn 0 JJ (mH D3);refine k (l++l2) _ (((x2.weaken (Yy:=λa=>a=d) λY Y q=>q.elim).trans x3).to (by rw[if_neg Sl]) rfl) ⟨U.m,D3,?_,by rw[List.length_append,List.length_append,U.len,U2.len]⟩;rw[List.map_append,fB ((List.length_map ..).trans U.len)];have g3:d9 s2.heap (λa=>M a\/a=d) [] h' (λa=>M a\/a=d) []:=x3.grow λY q=>.inr q;have g2:d9 s2.heap (λa=>(M a\/a=d)\/a=d2) [] s2.heap (λa=>M a\/a=d) []:=⟨λY Y e Y=>e,λY Y Y q=>.inl q,λY Y e=>e⟩;exact bB.append (bB.mono g3 _ (bB.mono (x2.grow λY q=>q.elim) _ U.rel)) (bB.mono g3 _ (bB.mono g2 _ U2.rel))
noncomputable def iV:Nat->Nat->Nat
 |0,m=>if m=0 then 0 else 1
 |n+1,m=>1+iV n (m-17)
theorem Fe(f:V×Nat×Nat->Nat)(n:Nat)(qs:EQ):(qs.map f).sum=((qs.take n).map f).sum+((qs.drop n).map f).sum:=by rw[<-List.sum_append,<-List.map_append,List.take_append_drop]
theorem Xe(a b c d e f:Nat):a+1+(b+c)=a+b+(1+c)/\d+2*e+(f+2*c)=d+f+2*(e+c):=by lia
theorem Sq(n:Nat):∀{ss:List String} {keys:List (Option Expr)} {qs:EQ} {es:List Expr},gQ elemR ss keys qs es->17*n<=ss.length->
  ∀{done:List String} {us:List V} {l:List (Str×Value)} {M:Addr->Prop} {A:Around} {s:Shared} {Q:Value->Shared->Prop} {E:Value->Shared->Prop},(∀a,M a->bV s.heap a)->Under P M d done us l s->bV s.heap sysModules->
  (done++ss).Nodup->done.length+ss.length<=1000->done≠[]->
  (∀l' s',Ext (λa=>a=d) s s' (kO qs+iV n ss.length) (tO qs+2*ss.length)->Under P M d (done++ss) (us++qs.map (·.1)) l' s'->Q (.ref d) s')->wpAny (model P.prog P.w) A (nF n (some d) (pairTrees keys es env pos)) Q E s:=by
 induction n with
 |zero=>exact λD hn Y Y Y Y Y Y Y Y hM U uL nd hz h0 k=>wb (Fd D hM U uL nd hz h0 λl' s' x' U'=>wq (k _ _ x' U'))
 |succ n ih=>
  intro ss keys qs es D hn done us l M A s Q E hM U uL nd hz h0 k;have c:=D.cut 17;have e:=c.2.2 env pos;show wpAny _ _ (eE ((pairTrees keys es env pos).take 17) (some d) >>=λm=>nF n m ((pairTrees keys es env pos).drop 17)) _ _ _;rw[e.1,e.2];have hs:ss.take 17++ss.drop 17=ss:=List.take_append_drop 17 ss;rw[<-hs,<-List.append_assoc]at nd;have z:=sF (n:=17) hz;have IM:(ss.take 17).length=17:=by
   rw[List.length_take];exact Nat.min_eq_left (Nat.le_trans (Nat.le_add_left 17 (17*n)) hn)
  refine wb (Fd c.1 hM U uL (List.nodup_append.mp nd).1 z.1 h0 λl' s' x' U'=>?_);refine ih c.2.1 (by rw[List.length_drop];exact Nat.le_sub_of_add_le hn) (x'.lives hM) U' (uL.elim λo e=>x'.live _ o e) nd (by rw[List.length_append];exact z.2) (λq=>h0 (List.append_eq_nil_iff.mp q).1) λl2 s2 x2 U2=>?_;rw[List.append_assoc,List.append_assoc,hs,<-List.map_append,List.take_append_drop]at U2;have y:=(x'.trans x2);rw[IM,if_neg (by decide)]at y;refine k _ _ (y.to ?_ ?_) U2
  ·show kO (qs.take 17)+1+(kO (qs.drop 17)+iV n (ss.drop 17).length)=kO qs+(1+iV n (ss.length-17))
   rw[List.length_drop,show kO qs=kO (qs.take 17)+kO (qs.drop 17) from Fe _ 17 qs];exact(Xe _ _ _ 0 0 0).1
  ·rw[show tO qs=tO (qs.take 17)+tO (qs.drop 17) from Fe _ 17 qs,show ss.length=17+(ss.drop 17).length from(congrArg List.length hs).symm.trans ((List.length_append ..).trans (congrArg (· +_) IM))]
   exact(Xe 0 0 _ _ _ _).2
theorem Hu{keys:List (Option Expr)}{kk tt:Nat}(hk:eT zo ss keys)(he:zH vs es=some (kk,tt))(hl:ss.length=vs.length)(nd:ss.Nodup)(hz:ss.length<=1000)
  (h0:ss≠[]){s:Shared}{Q:Value->Shared->Prop}(hM:∀a,M a->bV s.heap a)(uL:bV s.heap sysModules)
  (k:∀d l s',Ext no s s' (kk+iV (ss.length / 17) ss.length) (tt+2*ss.length)->Under P M d ss vs l s'->d=s.heap.objs.size->Q (.ref d) s'):wpAny (model P.prog P.w) A (eval (.Dict keys es pos) env) Q E s:=by
 refine(Hs he).elim λqs r=>?_;have D:=EW hk r.2.1 (hl.trans ((congrArg List.length r.1).symm.trans (List.length_map ..)));rw[<-r.1,<-show kO qs=kk from r.2.2.1,<-show tO qs=tt from r.2.2.2]at k;have mw:∀{n:Nat} {ks:List (Option Expr)} {fs:List Expr},(pairTrees ks fs env pos).length=n->0<n->¬ (pairTrees ks fs env pos).isEmpty=true:=λe hn z=>by
  rw[List.isEmpty_iff.mp z]at e;exact Nat.ne_of_lt hn e
 rw[arm_eval_Dict,D.trees];refine wb (wpAny_standAt ?_);have dv:=D.len.2 env pos;refine(⟨_,rfl⟩:∃n,ss.length / 17=n).elim λn hn=>?_;have hm:=Nat.div_add_mod ss.length 17;rw[hn]at hm k;rw[oW n _ (by rw[dv];exact Nat.le_trans (Nat.le_add_right ..) (Nat.le_of_eq hm)) (by rw[dv,<-hm,Nat.mul_add];exact Nat.add_lt_add_left (Nat.mod_lt _ (by decide)) _)];cases n with
 |zero=>
  show wpAny _ _ (jx none _) _ _ _;unfold jx eE;rw[if_neg (mw dv (List.length_pos_iff.mpr h0))];exact wb (wb (qy D nd hz hM λd l s' x' U' nw=>wq (wq (k _ _ _ (x'.to (by show _=_+if ss.length=0 then 0 else 1;rw[if_neg λz=>h0 (List.length_eq_zero_iff.mp z)]) rfl) U' nw))))
 |succ n=>
  have c:=D.cut 17;have e:=c.2.2 env pos;show wpAny _ _ (eE ((pairTrees keys es env pos).take 17) none >>=λm=>nF n m ((pairTrees keys es env pos).drop 17)) _ _ _;rw[e.1,e.2];have hs:ss.take 17++ss.drop 17=ss:=List.take_append_drop 17 ss;have MA:=nd;rw[<-hs]at MA;have VK:17*n+17<=ss.length:=Nat.le_trans (Nat.le_add_right ..) (Nat.le_of_eq hm);have IM:(ss.take 17).length=17:=by
   rw[List.length_take];exact Nat.min_eq_left (Nat.le_trans (Nat.le_add_left 17 (17*n)) VK)
  have z:=sF (n:=17) (k:=0) (ss:=ss) ((Nat.zero_add ss.length).symm▸hz);unfold eE;rw[if_neg (mw ((c.1.len.2 env pos).trans IM) (by decide))];refine wb (wb (qy c.1 (List.nodup_append.mp MA).1 (by rw[IM];decide) hM λd l s' x' U' Xd=>wq ?_));have nw:s.heap.get? d=none:=Xd▸bC;refine Sq n c.2.1 (by rw[List.length_drop];exact Nat.le_sub_of_add_le VK) (x'.lives hM) U' (uL.elim λo e=>x'.live _ o e) MA (Nat.zero_add (ss.take 17).length▸z.2) (λq=>nomatch (congrArg List.length q).symm.trans IM) λl2 s2 x2 U2=>?_;rw[hs,<-List.map_append,List.take_append_drop]at U2;have y:=((x'.weaken λY Y z=>z.elim).trans x2).back nw;rw[IM]at y;refine k _ _ _ (y.to ?_ ?_) U2 Xd
  ·show kO (qs.take 17)+1+(kO (qs.drop 17)+iV n (ss.drop 17).length)=kO qs+(1+iV n (ss.length-17))
   rw[List.length_drop,show kO qs=kO (qs.take 17)+kO (qs.drop 17) from Fe _ 17 qs];exact(Xe _ _ _ 0 0 0).1
  ·rw[show tO qs=tO (qs.take 17)+tO (qs.drop 17) from Fe _ 17 qs,show ss.length=17+(ss.drop 17).length from(congrArg List.length hs).symm.trans ((List.length_append ..).trans (congrArg (· +_) IM))]
   exact(Xe 0 0 _ _ _ _).2
end
end Mine
namespace Mine
open PySem PySem.W PyProof.Rows PySem.Calls
variable {a Pl bm F:Addr}{name:Str}{α:Type}{st:Stmt}{d:Drawn}{T T':OT}{h h':Heap}{prog:Program}{o:Option Obj}{m:Nat}{g:Array GenState}{os:OsState}{A:Around}{Q:Flow->Shared->Prop}{E:Value->Shared->Prop}{ss:List String}{CZ:List Stmt}{env:Env}{p:Pos}{C0:Pos->Stmt->OT->Nat->Nat->Option J6}
noncomputable def Ff:List Arg->Bool
 |[]=>true
 |a::r=>a.annotation.isNone&&Ff r
theorem n5{l:List Arg}:Ff l=true->∀env,annotationsOf l env=[]:=by
 induction l with
 |nil=>exact λY Y=>rfl
 |cons a r ih=>
  intro h env;have h:=an h;rcases a with⟨n,ann,p⟩
  rcases ann with _|_
  ·exact ih h.2 env
  ·exact dJ h.1
noncomputable def gT(a:Arguments):Bool:=a.posonlyargs.isEmpty&&(a.vararg.isNone&&(a.kwonlyargs.isEmpty&&(a.kw_defaults.isEmpty&&(a.kwarg.isNone&&(a.defaults.isEmpty&&Ff a.args)))))
theorem nH{a:Arguments}(h:gT a=true):∃as,a=⟨[],as,none,[],[],none,[]⟩/\Ff as=true:=by
 rcases a with⟨po,as,va,ko,kd,kwa,d⟩
 rcases po with _|_
 ·rcases va with _|_
  ·rcases ko with _|_
   ·rcases kd with _|_
    ·rcases kwa with _|_
     ·rcases d with _|_
      ·exact⟨as,rfl,h⟩
      ·exact dJ h
     ·exact dJ h
    ·exact dJ h
   ·exact dJ h
  ·exact dJ h
 ·exact dJ h
theorem Hv{params:Arguments}{body:List Stmt}{scope:Scope}{pos:Pos}(h:gT params=true):PlainDefTree name params body scope pos:=by
 obtain⟨as,rfl,ha⟩:=nH h;intro env;have e:(λenv=>annotationsOf (as++[]++[]++[]++[]) env++[])=λY=>[]:=funext λenv=>by
  rw[List.append_nil,List.append_nil,List.append_nil,List.append_nil,List.append_nil];exact n5 ha env
 rw[arm_exec_FunctionDef];exact(congrArg (λn=>defStmt name name ⟨[],as,none,[],[],none,[]⟩ body scope pos env [] none [] [] ([],[]) n (.FunctionDef name ⟨[],as,none,[],[],none,[]⟩ body [] none [] scope none name pos)) e).trans rfl
structure Hw where
 name:Str
 params:Arguments
 body:List Stmt
 scope:Scope
 xS:Str
 pos:Pos
variable {f:Hw}
noncomputable def lT(st:Stmt):Option Hw:=if h:st.ctorIdx=0 then Stmt.FunctionDef.elim st h λname params body VL ret Z3 scope ts xS pos=>bif VL.isEmpty&&(ret.isNone&&(Z3.isEmpty&&ts.isNone)) then some ⟨name,params,body,scope,xS,pos⟩ else none else none
theorem Ss{c:Prop}[Decidable c]{f:c->Option α}{z:α}(h:(if h:c then f h else none)=some z):c:=by
 by_cases hc:c
 ·exact hc
 ·rw[dif_neg hc]at h
  exact aN h
theorem uM{d:Hw}(h:lT st=some d):st=.FunctionDef d.name d.params d.body [] none [] d.scope none d.xS d.pos:=
 Stmt.FunctionDef.elim (motive_2:=λst=>lT st=some d->st=.FunctionDef d.name d.params d.body [] none [] d.scope none d.xS d.pos) st (Ss h) (λname params body VL ret Z3 scope ts xS pos h=>by
  have z:=lS h;have a:=an z.1;have b:=an a.2;have c:=an b.2;rw[<-di z.2,List.isEmpty_iff.mp a.1,Option.isNone_iff_eq_none.mp b.1,List.isEmpty_iff.mp c.1,Option.isNone_iff_eq_none.mp c.2]) h
noncomputable def Qi(p:Program)(d:Hw):Bool:=
 decide (d.xS=d.name)&&(gT d.params&&(d.scope.names.all (λx=>x.2 !=.free)&&((docOf d.body).isNone&&(decide (p.main.scope.names.lookup d.name=some .local)&&
   decide (qualnameIn {scope:=p.main.scope,locals:=mainGlobals,globals:=mainGlobals,cells:=[]} d.name d.name=d.name)))))
noncomputable def P0(prog:Program)(w:World):PV:=⟨prog,w,⟨#[],default⟩,[],λY=>0,λY=>none,[],λY=>none,λY=>none⟩
mutual
noncomputable def BC:V->Bool
 |.af xs=>zI xs
 |.aC xs=>zI xs
 |.cM kvs=>DK kvs
 |.obj .. =>false
 |.ref aR=>false
 |.fn aR=>false
 |_=>true
noncomputable def zI:List V->Bool
 |[]=>true
 |v::r=>BC v&&zI r
noncomputable def DK:List (V×V)->Bool
 |[]=>true
 |(aR,v)::r=>BC v&&DK r
end
section
variable {P P':PV}{h:Heap}{M:Addr->Prop}{φ:fz}
mutual
theorem aK.swap(hp:P.prog=P'.prog)(hw:P.w=P'.w):∀(v:V) {w:Value},BC v=true->aK P h M φ v w->aK P' h M φ v w
 |.ah,aR,dm,r=>r
 |.none,aR,dm,r=>r
 |.bool aR,dm,p8,r=>r
 |.int aR,dm,p8,r=>r
 |.str aR,dm,p8,r=>r
 |.af xs,aR,d,r=>r.elim λa r=>r.elim λws r=>⟨a,ws,r.1,r.2.1,r.2.2.1,aM.swap hp hw xs d r.2.2.2⟩
 |.aC xs,aR,d,r=>r.elim λa r=>r.elim λws r=>⟨a,ws,r.1,r.2.1,r.2.2.1,aM.swap hp hw xs d r.2.2.2⟩
 |.cM kvs,aR,d,r=>r.elim λa r=>r.elim λl r=>⟨a,l,r.1,r.2.1,r.2.2.1,by rw[<-hp,<-hw];exact r.2.2.2.1,bB.swap hp hw kvs d r.2.2.2.2⟩
 |.k8 ..,aR,dm,r=>r
 |.obj ..,aR,d,dm=>dJ d
 |.ref aR,dm,d,p8=>dJ d
 |.fn aR,dm,d,p8=>dJ d
theorem aM.swap(hp:P.prog=P'.prog)(hw:P.w=P'.w):∀(xs:List V) {ws:List Value},zI xs=true->aM P h M φ xs ws->aM P' h M φ xs ws
 |[],aR,dm,r=>r
 |x::xs,aR,d,r=>r.elim λw r=>r.elim λl r=>⟨w,l,r.1,aK.swap hp hw x (an d).1 r.2.1,aM.swap hp hw xs (an d).2 r.2.2⟩
theorem bB.swap(hp:P.prog=P'.prog)(hw:P.w=P'.w):∀(xs:List (V×V)) {ws:List (Str×Value)},DK xs=true->bB P h M φ xs ws->bB P' h M φ xs ws
 |[],aR,dm,r=>r
 |(aR,v)::xs,dm,d,r=>r.elim λs r=>r.elim λw r=>r.elim λl r=>⟨s,w,l,r.1,r.2.1,aK.swap hp hw v (an d).1 r.2.2.1,bB.swap hp hw xs (an d).2 r.2.2.2⟩
end
end
inductive e7 where
 |fn (name:Str) (params:Arguments) (body:List Stmt) (scope:Scope) (a c:Addr)
 |cM (a:Addr) (v:V)
noncomputable def jW(prog:Program)(w:World)(h:Heap)(T:OT):e7->Prop
 |.fn name params body scope a c=>(bX T a=none/\∃pm,h.get? a=some {cls:=.type "function",data:=.func (plainDef name params body scope pm (.ref c))})/\
   bX T c=none/\h.CodeRec (.ref c) name
 |.cM a v=>aK (P0 prog w) h (λa=>bX T a≠none) [] v (.ref a)
noncomputable def Keeps(T:OT)(h:Heap)(T':OT)(h':Heap):Prop:=∀b o,bX T b=none->h.get? b=some o->bX T' b=none/\h'.get? b=some o
theorem Keeps.grow(k:Keeps T h T' h'):d9 h (λa=>bX T a≠none) [] h' (λa=>bX T' a≠none) []:=
 ⟨λa o e n=>(k a o (Classical.not_not.mp n) e).2,λa o e q=>λz=>q (k a o z e).1,λY Y e=>e⟩
theorem xT{c:Addr}{n:Str}(x:h.CodeRec (.ref c) n){P:Prop}(k:∀o,h.get? c=some o->P/\h'.get? c=some o):P/\h'.CodeRec (.ref c) n:=
 x.elim λc₂ x=>x.elim λo x=>x.elim λvs x=>x.elim λt x=>by
  have e:=k o (Value.ref.inj x.1▸x.2.1);exact⟨e.1,c₂,o,vs,t,x.1,Value.ref.inj x.1▸e.2,x.2.2⟩
theorem jW.keep{w:World}(k:Keeps T h T' h'){d:e7}(f:jW prog w h T d):jW prog w h' T' d:=by
 rcases d with _|_
 ·have q:=xT f.2.2 λo e=>k _ o f.2.1 e
  exact⟨f.1.2.elim λpm e=>⟨(k _ _ f.1.1 e).1,pm,(k _ _ f.1.1 e).2⟩,q⟩
 ·exact aK.mono k.grow _ f
inductive Kd (h:Heap) (c Pl:Addr):Prop where
 |mk (o:Obj) (vs:Array Value) (file:Str) (tf:Tok) (flags:Int) (tg:Tok) (CY:Bool) (text:Int) (tt:Tok) (e:h.get? c=some o) (kc:o.cls=.type "code") (kd:o.data=.fields vs) (UA:vs[11]?=some (.ref Pl))
  (q:vs.getD 11 .none=.ref Pl/\vs.getD 18 .none=.str file tf/\vs.getD 7 .none=.int flags tg/\vs.getD 9 .none=.bool CY/\vs.getD 10 .none=.int text tt)
structure Base (h:Heap) (c Pl bm:Addr):Prop where
 code:Kd h c Pl
 bmod:∃o,h.get? bm=some o/\o.cls=.type "module"/\o.dict=some builtinsNs/\o.data=.plain
theorem Base.keep{c:Addr}(b:Base h c Pl bm)(kc:∀o,h.get? c=some o->h'.get? c=some o)(kb:∀o,h.get? bm=some o->h'.get? bm=some o):Base h' c Pl bm:=by
 refine⟨?_,b.bmod.elim λo q=>⟨o,kb _ q.1,q.2⟩⟩;obtain⟨o,vs,file,tf,flags,tg,CY,text,tt,e,a,d,k,q⟩:=b.code;exact⟨o,vs,file,tf,flags,tg,CY,text,tt,kc _ e,a,d,k,q⟩
noncomputable def zJ:Value->Bool
 |.str .. =>true
 |_=>false
noncomputable def jX:Value->Bool
 |.int .. =>true
 |_=>false
theorem xU{v:Value}(h:zJ v=true):∃s t,v=.str s t:=by rcases v<;>first|exact dJ h|exact⟨_,_,rfl⟩
theorem mJ{v:Value}(h:jX v=true):∃s t,v=.int s t:=by rcases v<;>first|exact dJ h|exact⟨_,_,rfl⟩
noncomputable def fj(l:List DictEntry):Bool:=R.allR l λe=>zJ e.key
noncomputable def Hx(l:List Value):Nat->Bool:=
 @List.rec Value (λY=>Nat->Bool) (λk=>Nat.beq k 0) (λv Y ih k=>match k with
  |0=>jX v&&ih 1
  |1=>jX v&&ih 2
  |_=>ih 0) l
noncomputable def BD(l:List Value):Bool:=Hx l 0
theorem NY(l:List Value):(Hx l 0=true->TriplesOk l)/\(Hx l 1=true->∀i t,TriplesOk (.int i t::l))/\(Hx l 2=true->∀i t j u,TriplesOk (.int i t:: .int j u::l)):=by
 induction l with
 |nil=>exact⟨λY=>trivial,dJ,dJ⟩
 |cons v r ih=>
  refine⟨λh=>?_,λh i t=>?_,λh i t j u=>ih.1 h⟩
  ·have h:=an (show(jX v&&Hx r 1)=true from h)
   exact(mJ h.1).elim λi e=>e.elim λt e=>e▸ih.2.1 h.2 i t
  ·have h:=an (show(jX v&&Hx r 2)=true from h)
   exact(mJ h.1).elim λj e=>e.elim λu e=>e▸ih.2.2 h.2 i t j u
theorem BE{l:List Value}(h:BD l=true):TriplesOk l:=(NY l).1 h
theorem gC{l:List DictEntry}(h:fj l=true):StrKeys ⟨l⟩:=λe he=>by
 unfold fj at h;rw[<-R.allR_eq]at h;exact xU (List.all_eq_true.mp h e (Array.mem_toList_iff.mpr he))
noncomputable def C1(k:List Nat)(l:List DictEntry):Option Value:=
 @List.rec DictEntry (λY=>Option Value) none (λe Y ih=>match e.key with
  |.str s aR=> @Bool.rec (λY=>Option Value) ih (some e.val) (Fast.lEq s.cps.toList k)
  |_=>ih) l
theorem Hy{s:Str}{t:Tok}:(Value.str s t).isStr name=Fast.lEq s.cps.toList name.cps.toList:=by
 show(s==name)=_;cases q:Fast.lEq s.cps.toList name.cps.toList with
 |true=>exact beq_iff_eq.mpr (congrArg Str.mk (Array.toList_inj.mp (Fast.lEq_iff.mp q)):(⟨s.cps⟩:Str)=⟨name.cps⟩)
 |false=>exact beq_eq_false_iff_ne.mpr λz=>dJ (q.symm.trans (Fast.lEq_iff.mpr (congrArg (λs:Str=>s.cps.toList) z)))
theorem BF{e:DictEntry}{l:List DictEntry}:nsFind ⟨e::l⟩ name= @Bool.rec (λY=>Option Value) (nsFind ⟨l⟩ name) (some e.val) (e.key.isStr name):=by
 unfold nsFind findBy;rw[List.find?_toArray,List.find?_toArray,List.find?_cons];show Option.map _ (match e.key.isStr name with|true=>some e|false=>List.find? _ l)=_;cases e.key.isStr name<;>rfl
theorem uN(name:Str)(l:List DictEntry):C1 name.cps.toList l=nsFind ⟨l⟩ name:=by
 induction l with
 |nil=>rfl
 |cons e l ih=>
  rw[BF,<-ih];show(match e.key with
   |.str s aR=> @Bool.rec (λY=>Option Value) (C1 name.cps.toList l) (some e.val) (Fast.lEq s.cps.toList name.cps.toList)
   |_=>C1 name.cps.toList l)=_
  cases e.key<;>first|rfl|skip
  rw[Hy]
noncomputable def NZ:List Nat:=[95,95,98,117,105,108,116,105,110,115,95,95]
theorem Fg:("__builtins__":Str).cps.toList=NZ:=by decide
noncomputable def jY(b:Nat):Option Value->Bool
 |some v=>match v with
  |.ref a=>Nat.beq a b
  |_=>false
 |none=>false
theorem jz{b:Nat}{v:Option Value}(h:jY b v=true):v=some (.ref b):=by
 rcases v with _|v
 ·exact dJ h
 ·rcases v<;>first|exact dJ h|exact congrArg (λa=>some (Value.ref a)) (Nat.eq_of_beq_eq_true h)
structure BG where
 T:OT
 m:Nat
 i:Nat
 a:Addr
 c:Addr
variable {r:BG}
noncomputable def N1(l:List Value):Obj:=⟨.none,none,.fields ⟨l⟩,#[]⟩
noncomputable def IQ(x:Value×Option Addr×List DictEntry×Nat×Array (Option Value)):Obj:=⟨x.1,x.2.1,.dict ⟨x.2.2.1⟩ x.2.2.2.1,x.2.2.2.2⟩
noncomputable def Qj:Option Obj->Option (List Value)
 |some ⟨c,d,dt,sl⟩=>match c with
  |.none=>match d with
   |none=>match dt with
    |.fields vs=>match sl.toList with
     |[]=>some vs.toList
     |aR::dm=>none
    |_=>none
   |some aR=>none
  |_=>none
 |none=>none
noncomputable def Su:Option Obj->Option (Value×Option Addr×List DictEntry×Nat×Array (Option Value))
 |some ⟨c,d,dt,sl⟩=>match dt with
  |.dict es n=>some (c,d,es.toList,n,sl)
  |_=>none
 |none=>none
theorem Ke{l:List Value}(h:Qj o=some l):o=some (N1 l):=by
 rcases o with _|⟨c,d,dt,sl⟩
 ·exact aN h
 rcases c<;>first|exact aN h|skip
 rcases d with _|_
 ·rcases dt<;>first|exact aN h|skip
  rcases sl with⟨sl⟩
  rcases sl with _|_
  ·rw[<-di h];rfl
  ·exact aN h
 ·exact aN h
theorem Fi{x}(h:Su o=some x):o=some (IQ x):=by
 rcases o with _|⟨c,d,dt,sl⟩
 ·exact aN h
 rcases dt<;>first|exact aN h|skip
 rw[<-di h];rfl
section
variable (P:Params)(Pl bm:Addr)
noncomputable def Qk(T:OT)(m i:Nat)(f:Hw)(ps:List Value)(x:Value×Option Addr×List DictEntry×Nat×Array (Option Value)):Option BG:=
 bif BD ps&&((codeAmong f.pos ps).isNone&&(fj x.2.2.1&&jY bm (C1 NZ x.2.2.1))) then
  gj (m+(3+kZ (localNames f.params f.scope (.stmts f.body)))) λc'=>
  gj (m+(4+kZ (localNames f.params f.scope (.stmts f.body)))) λa=>
  gj (i+(5+f.scope.freeNames.length+uI (localNames f.params f.scope (.stmts f.body)))) λtk=>
  uF (ps++[rawInt f.pos.line,rawInt f.pos.col,.ref c']) λps'=>
  lO (Obj.putName f.name (jc P f.name) (.str f.name tk) (.ref a) (IQ x)) λo'=>
  gj (a+1) λm'=>gj (tk+1) λi'=>
  some ⟨iN (iN T Pl (N1 ps')) mainGlobals o',m',i',a,c'⟩
 else none
noncomputable def zK(T:OT)(m i:Nat)(f:Hw):Option BG:=(Qj (bX T Pl)).bind λps=>(Su (bX T mainGlobals)).bind λx=>Qk P Pl bm T m i f ps x
end
structure Nums (c Pl bm:Addr):Prop where
 gc:mainGlobals<c
 gp:mainGlobals<Pl
 cp:c≠Pl
 b0:bm≠builtinsNs
 bg:bm≠mainGlobals
 bp:bm≠Pl
theorem pq(name:Str)(h:Int)(key v:Value)(x):(Obj.putName name h key v (IQ x)).isFreed=false:=by
 unfold Obj.putName;dsimp only[IQ]
 split<;>rfl
theorem DL{P:Params}{i:Nat}{ps:List Value}{x}(H:Qk P Pl bm T m i f ps x=some r):(TriplesOk ps/\codeAmong f.pos ps=none/\StrKeys ⟨x.2.2.1⟩/\nsFind ⟨x.2.2.1⟩ "__builtins__"=some (.ref bm))/\
  ∃c' a tk,c'=m+(3+kZ (localNames f.params f.scope (.stmts f.body)))/\a=m+(4+kZ (localNames f.params f.scope (.stmts f.body)))/\tk=i+(5+f.scope.freeNames.length+uI (localNames f.params f.scope (.stmts f.body)))/\
   r=⟨iN (iN T Pl (N1 (ps++[rawInt f.pos.line,rawInt f.pos.col,.ref c']))) mainGlobals (Obj.putName f.name (jc P f.name) (.str f.name tk) (.ref a) (IQ x)),a+1,tk+1,a,c'⟩:=by
 obtain⟨hc,H⟩:=lS H;have hc:=an hc;have h2:=an hc.2;have h3:=an h2.2;rw[d7,d7,d7,jy,lQ,d7,d7]at H;exact⟨⟨BE hc.1,Option.isNone_iff_eq_none.mp h2.1,gC h3.1,by rw[<-uN,Fg];exact jz h3.2⟩,_,_,_,rfl,rfl,rfl,(di H).symm⟩
theorem Kf{x:Addr}(hx:h.objs.size<=x):h.get? x=none:=by
 cases e:h.get? x with
 |none=>rfl
 |some o=>exact absurd (Heap.lt_size e) (Nat.not_lt.mpr hx)
theorem pA(D:dX h T m){x:Addr}(hx:h.objs.size<=x):bX T x=none:=by
 cases e:bX T x with
 |none=>rfl
 |some o=>exact aN ((Kf hx).symm.trans (D.at_ _ _ e))
theorem nJ{b:Addr}{o:Obj}(e:bX T a=some o)(t:bX T b=none):b≠a:=λz=>aN (t.symm.trans (z▸e))
theorem Xf(D:dX h T m){o:Obj}(e:bX T a=some o):a<h.objs.size:=Heap.lt_size (D.at_ _ _ e)
theorem w4{w:World}{c:Addr}{i:Nat}
  (H:zK w.params Pl bm T m i f=some r)(ok:Qi prog f=true)(zF:prog.main.scope.kind=.module)(N:Nums c Pl bm)(D:dX h T m)(B:Base h c Pl bm)
  (K:∀h',dX h' r.T r.m->Keeps T h r.T h'->(∀b o,b≠Pl->b≠mainGlobals->h.get? b=some o->h'.get? b=some o)->jW prog w h' r.T (.fn f.name f.params f.body f.scope r.a r.c)->Q .next ⟨h',g,d,r.i,os⟩):
  wpAny (model prog w) A (exec (.FunctionDef f.name f.params f.body [] none [] f.scope none f.name f.pos) (mainEnv prog c F)) Q E ⟨h,g,d,i,os⟩:=
 f9 H λps hP H=>f9 H λx hG H=>by
  have hP:=Ke hP;have hG:=Fi hG;obtain⟨⟨h1,h2,h3,h4⟩,c',a,tk,ec,ea,et,er⟩:=DL H;have Z4:=D.at_ _ _ hP;have Xg:=D.at_ _ _ hG;have Yx:h.Ns mainGlobals (nsFind ⟨x.2.2.1⟩):=⟨_,_,_,Xg,rfl,h3,λY=>rfl⟩;have hm:h.Main (nsFind ⟨x.2.2.1⟩) c Pl ⟨ps⟩:=by
   obtain⟨oc,vs,file,tf,flags,tg,CY,text,tt,e,kc,kd,UA,q⟩:=B.code;exact⟨Yx,⟨oc,vs,file,tf,flags,tg,CY,text,tt,_,e,kd,q.1,q.2.1,q.2.2.1,q.2.2.2.1,q.2.2.2.2,Z4,rfl,h1,N.cp⟩,⟨N.gc,N.gp⟩,B.bmod.elim λob q=>⟨bm,ob,h4,N.b0,N.bg,N.bp,q⟩⟩
  have DI:h.TableAt c Pl ⟨ps⟩:=by
   obtain⟨oc,vs,file,tf,flags,tg,CY,text,tt,e,kc,kd,UA,q⟩:=B.code;exact⟨⟨oc,vs,e,kc,kd,UA⟩,Z4⟩
  have ok:=an (an ok).2;have o2:=an ok.2;have o3:=an o2.2;have o4:=an o3.2;have em:h.objs.size=m:=D.size;clear B H;refine uK (mg:=nsFind ⟨x.2.2.1⟩) (ps:=⟨ps⟩) (Hv ok.1) (λx hx=>bne_iff_ne.mp (List.all_eq_true.mp o2.1 x hx)) (Option.isNone_iff_eq_none.mp o3.1) (dt o4.1) (dt o4.2) hm DI zF h2 λc₂ eY hx VM sz lf tb rc=>?_;clear hm DI lf o2 o3 o4 ok;have e2:c₂=c':=by rw[ec,VM];exact congrArg (· +_) em
  have Xh:eY.objs.size=a:=by rw[ea,sz];exact congrArg (· +_) em
  rw[e2]at tb rc ⊢;rw[er]at K;have et':(⟨h,g,d,i,os⟩:Shared).toks+(5+f.scope.freeNames.length+uI (localNames f.params f.scope (.stmts f.body)))=tk:=et.symm;rw[et',Xh];have Z5:mainGlobals≠Pl:=Nat.ne_of_lt N.gp;generalize Z6:({cls:=.type "function",data:=.func (plainDef f.name f.params f.body f.scope ((nsFind ⟨x.2.2.1⟩ "__name__").getD .none) (.ref c'))}:Obj)=fo;have fl:fo.isFreed=false:=by rw[<-Z6];rfl
  have Xi:(eY.push fo).get? mainGlobals=some (IQ x):=ju _ (hx _ _ Z5 Xg);have Sv:=pq f.name (jc w.params f.name) (.str f.name tk) (.ref a) x;dsimp only at K;revert K Sv;generalize Obj.putName f.name (jc w.params f.name) (.str f.name tk) (.ref a)=pf;intro K Sv;have hs:Heap.SameBut mainGlobals (eY.push fo) ((eY.push fo).update mainGlobals pf):=Heap.SameBut.update ..;have old:∀b o,b≠Pl->b≠mainGlobals->h.get? b=some o->((eY.push fo).update mainGlobals pf).get? b=some o:=λb o n1 n2 e=>
   (hs.2 b n2).trans (ju _ (hx _ _ n1 e))
  have lP:=o7 hP;have lG:=o7 hG;have tn:∀b,bX T b=none->bX (iN (iN T Pl (N1 (ps++[rawInt f.pos.line,rawInt f.pos.col,.ref c']))) mainGlobals (pf (IQ x))) b=none:=λb t=>gZ lG (gZ lP t (nJ hP t)) (nJ hG t);have Z7:h.objs.size<=a:=by rw[em,ea];exact Nat.le_add_right _ _
  have Z8:h.objs.size<=c':=by rw[em,ec];exact Nat.le_add_right _ _
  refine K _ ⟨by rw[hs.1,Heap.size_push,Xh],λb o e=>?_⟩ (λb o t e=>⟨tn b t,old _ _ (nJ hP t) (nJ hG t) e⟩) old ⟨⟨tn _ (pA D Z7),(nsFind ⟨x.2.2.1⟩ "__name__").getD .none,?_⟩,tn _ (pA D Z8),?_⟩
  ·rcases iD lG e with⟨q1,q2⟩|⟨n1,e⟩
   ·rw[q1,q2];exact Heap.get?_update_self _ Xi Sv
   ·rcases iD lP e with⟨q1,q2⟩|⟨n2,e⟩
    ·rw[q1,q2]
     refine(hs.2 _ Z5.symm).trans (ju _ (tb.2.trans ?_));exact congrArg (λl=>some (Obj.mk .none none (.fields l) #[])) (List.append_toArray ps [rawInt f.pos.line,rawInt f.pos.col,.ref c'])
    ·exact old _ _ n2 n1 (D.at_ _ _ e)
  ·rw[Z6,<-Xh];exact(hs.2 _ (Xh▸nJ hG (pA D Z7))).trans (Heap.get?_push_size _ fl)
  ·exact(xT (P:=True) rc λo e=>⟨trivial,(hs.2 _ (nJ hG (pA D Z8))).trans (ju _ e)⟩).2
open Sem (wp)
noncomputable def Kg(s:String):Option Expr->Bool
 |some e=>match e with
  |.Constant c aR dm=>match c with
   |.str y=>Fast.sEq y (Str.ofString s)
   |_=>false
  |_=>false
 |none=>false
set_option tactic.hygienic true in
theorem Kh{s:String}{k:Option Expr}(h:Kg s k=true):zo s k:=by
 rcases k with _|e
 ·exact dJ h
 rcases e<;>first|exact dJ h|skip
 rename_i c _ _
 rcases c<;>first|exact dJ h|skip
 rw[Fast.sEq_iff.mp h];exact⟨_,_,rfl⟩
noncomputable def N2:List String->List (Option Expr)->Bool
 |[],l=>match l with
  |[]=>true
  |aR::dm=>false
 |s::ss,l=>match l with
  |[]=>false
  |k::ks=>Kg s k&&N2 ss ks
theorem N3:∀{ks:List (Option Expr)},N2 ss ks=true->eT zo ss ks:=by
 induction ss with
 |nil=>
  intro ks h;rcases ks with _|_
  ·trivial
  ·exact dJ h
 |cons s ss ih=>
  intro ks h;rcases ks with _|⟨k,ks⟩
  ·exact dJ h
  ·have h:=an (show(Kg s k&&N2 ss ks)=true from h)
   exact⟨Kh h.1,ih h.2⟩
structure BH where
 nm:Str
 np:Pos
 keys:List (Option Expr)
 vals:List Expr
 dp:Pos
 ap:Pos
noncomputable def N4(nm:Str)(np ap:Pos):Expr->Option BH
 |.Dict keys vals dp=>some ⟨nm,np,keys,vals,dp,ap⟩
 |_=>none
noncomputable def zL:Stmt->Option BH
 |.Assign ts v ap=>match ts with
  |t::r=>match r with
   |[]=>match t with
    |.Name nm np=>N4 nm np ap v
    |_=>none
   |aR::dm=>none
  |[]=>none
 |_=>none
set_option tactic.hygienic true in
theorem Hz{d:BH}(h:zL st=some d):st=.Assign [.Name d.nm d.np] (.Dict d.keys d.vals d.dp) d.ap:=by
 rcases st<;>first|exact aN h|skip
 rename_i ts v ap
 rcases ts with _|⟨t,r⟩
 ·exact aN h
 rcases r with _|_
 ·rcases t<;>first|exact aN h|skip
  rcases v<;>first|exact aN h|skip
  rw[<-di h]
 ·exact aN h
noncomputable def Sw(p:Program)(st:Stmt):Bool:=(match lT st with
 |some d=>Qi p d
 |none=>true)&&match zL st with
 |some d=>decide (p.main.scope.names.lookup d.nm=some .local)
 |none=>true
section
variable (P:Params)(Pl bm:Addr)
noncomputable def Ql(T:OT)(m i:Nat)(nm:Str)(n:Nat)(kk tt:Nat)(o:Obj):Option BG:=
  gj (m+(kk+iV (n / 17) n)) λm'=>
  gj (i+(tt+2*n)) λtk=>
  lO (Obj.putName nm (jc P nm) (.str nm tk) (.ref m) o) λo'=>
  gj (tk+1) λi'=>
  some ⟨iN T mainGlobals o',m',i',m,m⟩
noncomputable def BI{α:Type}:Option α->Bool
 |some aR=>true
 |none=>false
theorem Kl{o:Option α}(h:BI o=true):∃x,o=some x:=by
 rcases o with _|x
 ·exact dJ h
 ·exact⟨x,rfl⟩
noncomputable def zM(T:OT)(m i:Nat)(d:BH)(ss:List String)(vs:List V):Option BG:=
 (zH vs d.vals).bind λq=>(Su (bX T mainGlobals)).bind λx=>
   bif fj x.2.2.1&&(N2 ss d.keys&&(Nat.beq ss.length vs.length&&(BI (bX T sysModules)))) then Ql P T m i d.nm ss.length q.1 q.2 (IQ x) else none
noncomputable def w5{α:Type}(o:Option α)(f:α->Bool):Bool:=match o with
 |some a=>f a
 |none=>false
theorem pB{o:Option α}{f:α->Bool}(h:w5 o f=true):∃a,o=some a:=by
 rcases o with _|a
 ·exact dJ h
 ·exact⟨a,rfl⟩
theorem pC{o:Option α}{f:α->Bool}{a:α}(e:o=some a)(h:w5 o f=true):f a=true:=by rw[e]at h;exact h
noncomputable def DM:Result->Bool
 |.ok f=>match f with
  |.next=>true
  |_=>false
 |.error aR=>false
theorem HE{r:Result}(h:DM r=true):r=.ok .next:=by
 rcases r with _|f
 ·exact dJ h
 ·rcases f<;>first|exact dJ h|rfl
noncomputable def topGo(C0:Pos->Stmt->OT->Nat->Nat->Option J6)(k:OT->Nat->Nat->List e7->Bool):List Stmt->List (List String×List V)->(Nat->Pos)->OT->Nat->Nat->List e7->Bool
 |[],ds,aR,T,m,i,acc=>bif ds.isEmpty then k T m i acc else false
 |st::r,ds,ps,T,m,i,acc=>match lT st with
  |some f=>w5 (zK P Pl bm T m i f) λs=>topGo C0 k r ds (λj=>ps (j+1)) s.T s.m s.i (.fn f.name f.params f.body f.scope s.a s.c::acc)
  |none=>match zL st with
   |some x=>(match ds with
    |d::ds=>w5 (zM P T m i x d.1 d.2) λs=>topGo C0 k r ds (λj=>ps (j+1)) s.T s.m s.i (.cM s.a (.cM ((d.1.map V.str).zip d.2))::acc)
    |[]=>false)
   |none=>w5 (C0 (ps 0) st T m i) λe=>DM e.res&&topGo C0 k r ds (λj=>ps (j+1)) e.T e.m e.i acc
end
theorem Keeps.trans{Uz:OT}{zj:Heap}(a:Keeps T h T' h')(b:Keeps T' h' Uz zj):Keeps T h Uz zj:=λx o t e=>b x o (a x o t e).1 (a x o t e).2
theorem w6{w:World}{c:Addr}{i:Nat}{x:BH}{vs:List V}
  (H:zM w.params T m i x ss vs=some r)(nd:ss.Nodup)(hz:ss.length<=1000)(h0:ss≠[])(NV:prog.main.scope.names.lookup x.nm=some .local)(zF:prog.main.scope.kind=.module)(D:dX h T m)
  (K:∀h',dX h' r.T r.m->Keeps T h r.T h'->(∀b o,b≠mainGlobals->h.get? b=some o->h'.get? b=some o)->jW prog w h' r.T (.cM r.a (.cM ((ss.map V.str).zip vs)))->Q .next ⟨h',g,d,r.i,os⟩):
  wpAny (model prog w) A (exec (.Assign [.Name x.nm x.np] (.Dict x.keys x.vals x.dp) x.ap) (mainEnv prog c F)) Q E ⟨h,g,d,i,os⟩:=
 f9 H λq he H=>f9 H λy hG H=>by
  have hG:=Fi hG;obtain⟨hc,H⟩:=lS H;have hc:=an hc;have h2:=an hc.2;have h3:=an h2.2;have h1:=gC hc.1;have Xg:=D.at_ _ _ hG;have em:h.objs.size=m:=D.size;have uL:bV h sysModules:=(Kl h3.2).elim λo e=>⟨o,D.at_ _ _ e⟩;have hM:∀a,bX T a≠none->bV h a:=λa q=>by
   cases e:bX T a with
   |none=>exact absurd e q
   |some o=>exact⟨o,D.at_ _ _ e⟩
  refine wpAny_Assign_Name (Hu (P:=P0 prog w) (M:=λa=>bX T a≠none) (N3 h2.1) he (Nat.eq_of_beq_eq_true h3.1) nd hz h0 hM uL λSx l s' x' U' ed=>?_);rw[storeName_local (env:=mainEnv prog c F) NV (by show(prog.main.scope.kind==.class||(prog.main.scope.kind==.module&&mainGlobals !=mainGlobals))=false;rw[zF];rfl)];obtain⟨Sy,tk,UU⟩:=x'.same;have Xj:=x'.toks;have Z9:=x'.size;have keep:=x'.keep;clear x' hc h2 he nd h0 NV zF hM;unfold Ql at H;rw[d7,d7,lQ,d7]at H;rw[UU]at Xj Z9 keep U' ⊢;have ed:Sx=m:=ed.trans em;have Xj:i+(q.2+2*ss.length)=tk:=Xj.symm;rw[Xj,<-ed]at H;rw[<-di H]at K;have Xi:Sy.get? mainGlobals=some (IQ y):=keep _ _ Xg λq=>q;refine qZ (m:=nsFind ⟨y.2.2.1⟩) ⟨IQ y,_,_,Xi,rfl,h1,λY=>rfl⟩ ?_;have Sv:=pq x.nm (jc w.params x.nm) (.str x.nm tk) (.ref Sx) y;clear H;dsimp only at K;revert K Sv;show _->_->Q .next ⟨Sy.update mainGlobals (Obj.putName x.nm (jc w.params x.nm) (.str x.nm tk) (.ref Sx)),g,d,tk+1,os⟩
  generalize Obj.putName x.nm (jc w.params x.nm) (.str x.nm tk) (.ref Sx)=f;intro K Sv;have hs:Heap.SameBut mainGlobals Sy (Sy.update mainGlobals f):=Heap.SameBut.update ..;have lG:=o7 hG;have old:∀b o,b≠mainGlobals->h.get? b=some o->(Sy.update mainGlobals f).get? b=some o:=λb o n1 e=>(hs.2 b n1).trans (keep _ _ e λq=>q);refine K _ ⟨?_,λa o e=>?_⟩ (λb o t e=>⟨gZ lG t (nJ hG t),old _ _ (nJ hG t) e⟩) old ?_
  ·rw[hs.1,show Sx=h.objs.size from ed.trans em.symm];exact Z9
  ·rcases iD lG e with⟨q1,q2⟩|⟨n1,e⟩
   ·rw[q1,q2];exact Heap.get?_update_self _ Xi Sv
   ·exact old _ _ n1 (D.at_ _ _ e)
  ·have back:∀b,bX (iN T mainGlobals (f (IQ y))) b≠none->bX T b≠none:=λb q z=>q (gZ lG z (nJ hG z))
   have g:d9 Sy (λa=>bX T a≠none\/a=Sx) [] (Sy.update mainGlobals f) (λa=>bX (iN T mainGlobals (f (IQ y))) a≠none) []:=
    ⟨λb o e q=>(hs.2 b λz=>q (.inl λy=>nJ hG y z)).trans e,λb o e q=>.inl (back b q),λY Y e=>e⟩
   have hm:=U'.m;exact⟨Sx,l,rfl,λq=>hm (back _ q),λz=>gb uL (z▸(ed.trans em.symm)),lA U'.dict λo UU ep ho r1 r2 r3 r4 r5=>⟨o,UU,ep,(hs.2 _ λz=>hm (by rw[z,hG];exact Option.some_ne_none _)).trans ho,r1,r2,r3,r4,r5⟩,bB.mono g _ U'.rel⟩
noncomputable def Sz(prog:Program)(w:World)(up:Addr->Bool)(Γ:Ctx)(env:Env)(C0:Pos->Stmt->OT->Nat->Nat->Option J6):Prop:=
 ∀p st T m i r (g:Array GenState) (d:Drawn) (os:OsState) (R:Result->Shared->Prop) h,C0 p st T m i=some r->dX h T m->(∀h',dX h' r.T r.m->Fr up T h r.T h'->R r.res ⟨h',g,d,r.i,os⟩)->
  wp (model prog w) Γ (execs [st] env) (λf Y s=>R (.ok f) s) (λe Y s=>R (.error e) s) p ⟨h,g,d,i,os⟩
theorem Km(Γ:Ctx):Γ.In ⟨Γ.handled,frameCount Γ.below+Γ.code.weight,none,none,Γ.units⟩:=⟨rfl,Nat.le_refl _,(λY e=>nomatch e),(λY e=>nomatch e),Nat.le_refl _⟩
noncomputable def DN(p:Pos)(ps:Nat->Pos):Nat->Pos
 |0=>p
 |j+1=>ps j
structure Fj where
 name:Str
 params:Arguments
 body:List Stmt
 scope:Scope
noncomputable def Yz:e7->Option (Fj×Addr×Addr)
 |.fn name params body scope a c=>some (⟨name,params,body,scope⟩,a,c)
 |_=>none
noncomputable def YA:e7->Option (Addr×V)
 |.cM a v=>some (a,v)
 |_=>none
noncomputable def uO(st:Stmt):Option Fj:=(lT st).map λd=>⟨d.name,d.params,d.body,d.scope⟩
noncomputable def MB(d:List String×List V):V:=.cM ((d.1.map V.str).zip d.2)
structure iE (CZ:List Stmt) (ds:List (List String×List V)) (acc je:List e7):Prop where
 fns:(je.filterMap Yz).map (·.1)=(CZ.filterMap uO).reverse++(acc.filterMap Yz).map (·.1)
 Xk:(je.filterMap YA).map (·.2)=(ds.map MB).reverse++(acc.filterMap YA).map (·.2)
theorem iE.def{ds acc je}{c:Addr}(e:lT st=some f)(q:iE CZ ds (.fn f.name f.params f.body f.scope a c::acc) je):iE (st::CZ) ds acc je:=by
 have hs:uO st=some ⟨f.name,f.params,f.body,f.scope⟩:=congrArg (Option.map _) e;exact⟨by rw[q.fns,List.filterMap_cons_some hs,List.reverse_cons,List.append_assoc];rfl,q.Xk⟩
theorem iE.YB{d ds acc je}(e:lT st=none)(q:iE CZ ds (.cM a (MB d)::acc) je):iE (st::CZ) (d::ds) acc je:=by
 have hs:uO st=none:=congrArg (Option.map _) e;exact⟨by rw[q.fns,List.filterMap_cons_none hs];rfl,by rw[q.Xk,List.map_cons,List.reverse_cons,List.append_assoc];rfl⟩
theorem iE.other{ds acc je}(e:lT st=none)(q:iE CZ ds acc je):iE (st::CZ) ds acc je:=by
 have hs:uO st=none:=congrArg (Option.map _) e;exact⟨by rw[q.fns,List.filterMap_cons_none hs],q.Xk⟩
noncomputable def qz(prog:Program)(w:World)(Γ:Ctx)(env:Env)(g:Array GenState)(d:Drawn)(os:OsState)(Q:Flow->Shared->Prop)(E:Value->Shared->Prop)(CZ:List Stmt)(p:Pos)(h:Heap)(i:Nat):Prop:=
 wp (model prog w) Γ (execs CZ env) (λf Y s=>Q f s) (λe Y s=>E e s) p ⟨h,g,d,i,os⟩
theorem qz.cons{w:World}{Γ:Ctx}{r:List Stmt}{i:Nat}
  (H:∀Q':Flow->Shared->Prop,(∀h' i',(∀p',qz prog w Γ env g d os Q E r p' h' i')->Q' .next ⟨h',g,d,i',os⟩)->wpAny (model prog w) ⟨Γ.handled,frameCount Γ.below+Γ.code.weight,none,none,Γ.units⟩ (exec st env) Q' E ⟨h,g,d,i,os⟩):qz prog w Γ env g d os Q E (st::r) p h i:=by
 unfold qz;rw[execs_cons,Sem.wp_bind'];refine Sem.wp_mono _ _ _ (λf p' s' z=>?_) (λY Y Y h=>h) _ _ (H (λf s=>f=.next/\∀p',wp (model prog w) Γ (execs r env) (λf Y s=>Q f s) (λe Y s=>E e s) p' s) (λh' i' z=>⟨rfl,z⟩) Γ p (Km Γ));obtain⟨rfl,z⟩:=z;exact z p'
theorem qz.ev{w:World}{up:Addr->Bool}{Γ:Ctx}(EV:Sz prog w up Γ env C0){r:List Stmt}{i:Nat}{er:J6}
  (hd:C0 p st T m i=some er)(hn:er.res=.ok .next)(D:dX h T m)(H:∀h' p',dX h' er.T er.m->Fr up T h er.T h'->qz prog w Γ env g d os Q E r p' h' er.i):qz prog w Γ env g d os Q E (st::r) p h i:=by
 unfold qz;rw[execs_cons,Sem.wp_bind'];have z:=EV p st T m i _ g d os (λr' s=>r'=.ok .next/\∀p',wp (model prog w) Γ (execs r env) (λf Y s=>Q f s) (λe Y s=>E e s) p' s) h hd D λh' D' fr=>⟨hn,λp'=>H h' p' D' fr⟩;rw[execs_cons,Sem.wp_bind']at z;refine Sem.wp_mono _ _ _ (λf p' s' z=>?_) (λY Y Y h=>by cases h.1) _ _ z;cases f with
 |next=>
  rw[show(execs [] env:Sem Flow)=pure .next from rfl]at z;exact z.2 p'
 |_=>exact Flow.noConfusion (Except.ok.inj z.1)
theorem BJ{w:World}{up:Addr->Bool}{Γ:Ctx}{c:Addr}(EV:Sz prog w up Γ (mainEnv prog c F) C0)(zF:prog.main.scope.kind=.module)(N:Nums c Pl bm)
  (upc:up c=false)(upb:up bm=false)(upP:up Pl=true)(upG:up mainGlobals=true){k:OT->Nat->Nat->List e7->Bool}(CZ:List Stmt):
  ∀(ds:List (List String×List V)) (T:OT) (m i:Nat) (acc:List e7) (h:Heap) (p:Pos),(∀ps,topGo w.params Pl bm C0 k CZ ds ps T m i acc=true)->(∀st∈CZ,Sw prog st=true)->(∀d∈ds,d.1.Nodup/\d.1.length<=1000/\d.1≠[])->
   dX h T m->Base h c Pl bm->(∀x∈acc,jW prog w h T x)->
   (∀h' T' m' i' je,k T' m' i' je=true->dX h' T' m'->Base h' c Pl bm->(∀x∈je,jW prog w h' T' x)->(∀b o,up b=false->h.get? b=some o->h'.get? b=some o)->iE CZ ds acc je->Q .next ⟨h',g,d,i',os⟩)->
   qz prog w Γ (mainEnv prog c F) g d os Q E CZ p h i:=by
 have nP:∀b,up b=false->b≠Pl:=λb u z=>dJ (u.symm.trans (z▸upP));have nG:∀b,up b=false->b≠mainGlobals:=λb u z=>dJ (u.symm.trans (z▸upG));induction CZ with
 |nil=>
  intro ds T m i acc h p H _ _ D B FA K;rcases ds with _|_
  ·exact K _ _ _ _ _ (H λY=>p) D B FA (λY Y Y e=>e) ⟨rfl,rfl⟩
  ·exact dJ (H λY=>p)
 |cons st r ih=>
  intro ds T m i acc h p H ok od D B FA K;have Kn:=an (ok st (.head _));have okr:∀st∈r,Sw prog st=true:=λs hs=>ok s (.tail _ hs);have cont:∀{T':OT} {m' i':Nat} {je:List e7} {h':Heap} {YC:List (List String×List V)} {p':Pos},(∀ps,topGo w.params Pl bm C0 k r YC ps T' m' i' je=true)->(∀d∈YC,d.1.Nodup/\d.1.length<=1000/\d.1≠[])->dX h' T' m'->(∀x∈je,jW prog w h' T' x)->
    (∀b o,up b=false->h.get? b=some o->h'.get? b=some o)->(∀xV,iE r YC je xV->iE (st::r) ds acc xV)->qz prog w Γ (mainEnv prog c F) g d os Q E r p' h' i':=λH' Q9 D' FA' YD ac=>
   ih _ _ _ _ _ _ _ H' okr Q9 D' (B.keep (λo=>YD _ o upc) λo=>YD _ o upb) FA' λzj Uz m'' i'' xV a1 a2 a3 a4 a5 a6=>K _ _ _ _ _ a1 a2 a3 a4 (λb o u e=>a5 b o u (YD b o u e)) (ac _ a6)
  clear ih ok K;have H1:=λps=>H (DN p ps);clear H;unfold topGo at H1;cases hk:lT st with
  |some f=>
   rw[hk]at Kn;have H1:∀ps:Nat->Pos,w5 (zK w.params Pl bm T m i f) (λs=>topGo w.params Pl bm C0 k r ds ps s.T s.m s.i (.fn f.name f.params f.body f.scope s.a s.c::acc))=true:=by rw[hk]at H1;exact H1
   obtain⟨sr,hd⟩:=pB (H1 λY=>p);rw[uM hk,dt (an Kn.1).1];refine qz.cons λQ' hQ=>w4 hd Kn.1 zF N D B λh' D' kp old fa=>hQ _ _ λp'=>?_;have H2:=λps=>pC hd (H1 ps);exact cont H2 od D' (λx hx=>(List.mem_cons.mp hx).elim (λq=>q▸fa) λq=>(FA x q).keep kp) (λb o u e=>old b o (nP b u) (nG b u) e) λxV q=>q.def hk
  |none=>
   cases hz:zL st with
   |some x=>
    rw[hz]at Kn;rcases ds with _|⟨dd,ds⟩
    ·rw[hk,hz]at H1;exact dJ (H1 λY=>p)
    have H1:∀ps:Nat->Pos,w5 (zM w.params T m i x dd.1 dd.2) (λs=>topGo w.params Pl bm C0 k r ds ps s.T s.m s.i (.cM s.a (.cM ((dd.1.map V.str).zip dd.2))::acc))=true:=by rw[hk,hz]at H1;exact H1
    obtain⟨n1,n2,n3⟩:=od dd (.head _);obtain⟨sr,hd⟩:=pB (H1 λY=>p);rw[Hz hz];refine qz.cons λQ' hQ=>w6 hd n1 n2 n3 (dt Kn.2) zF D λh' D' kp old fa=>hQ _ _ λp'=>?_;have H2:=λps=>pC hd (H1 ps);exact cont H2 (λx hx=>od x (.tail _ hx)) D' (λx hx=>(List.mem_cons.mp hx).elim (λq=>q▸fa) λq=>(FA x q).keep kp) (λb o u e=>old b o (nG b u) e) λxV q=>q.YB hk
   |none=>
    have H1:∀ps:Nat->Pos,w5 (C0 p st T m i) (λe=>DM e.res&&topGo w.params Pl bm C0 k r ds ps e.T e.m e.i acc)=true:=by rw[hk,hz]at H1;exact H1
    obtain⟨er,hd⟩:=pB (H1 λY=>p);have H3:=λps=>pC hd (H1 ps);have H2:=λps=>an (H3 ps);exact qz.ev EV hd (HE (H2 λY=>p).1) D λh' p' D' fr=>cont (λps=>(H2 ps).2) od D' (λx hx=>(FA x hx).keep fr.out) (λb o u e=>fr.kept b o u e) λxV q=>q.other hk
end Mine
namespace Mine
open PySem PySem.W
variable {p:Program}
noncomputable def cN:Nat:=13
noncomputable def FN:Nat:=14
noncomputable def N5:Nat:=12
noncomputable def HF:Nat:=4
noncomputable def IS(a:Addr):Bool:= @Bool.rec (λY=>Bool) (upA a) false (Nat.beq a cN)
noncomputable def zN:Env:=PySem.mainEnv PP cN FN
noncomputable def cu:List Stmt:=behindTheImports PP
noncomputable def GB(p0:Pos):Ctx:=G0.enter (.body cu zN) none p0
noncomputable def N6(w:World)(p0:Pos)(p:Pos)(st:Stmt)(T:OT)(m i:Nat):Option J6:=
 ev uH PP w.params IS 100000 (GB p0) (R.bindR (PySem.W.Fast.tw12563942051412417395 [st] zN) λf=>.pure (.done f)) p T m i
noncomputable def strOf:V->String
 |.str s=>s
 |_=>""
noncomputable def pairsOf:V->List String×List V
 |.cM kvs=>(kvs.map λp=>strOf p.1,kvs.map (·.2))
 |_=>([],[])
noncomputable def kP:List (List String×List V):=[pairsOf tS,pairsOf gY,pairsOf lz,pairsOf dZ]
noncomputable def YE(w:World):Option J6:=ev uH PP w.params IS 100000 G0 (moduleCode PP.main >>=λv=>.pure (.done (.ret v))) default (ZY w.params) (boot_heap w.params).objs.size boot_toks
noncomputable def YF(w:World)(p:Pos)(T:OT)(m i:Nat):Option J6:=ev uH PP w.params IS 100000 G0 (newBodyFrame (.ref cN) mainNs mainNs >>=λa=>.pure (.done (.ret (.ref a)))) p T m i
noncomputable def N7(n:String):Value->Bool
 |.type m=>decide (m=n)
 |_=>false
noncomputable def Ko:Value->Bool
 |.bool aR=>true
 |_=>false
noncomputable def N8(f:Value->Bool):Option Value->Bool
 |some v=>f v
 |none=>false
noncomputable def codeB:Option Obj->Bool
 |some o=>N7 "code" o.cls&&match o.data with
  |.fields vs=>jY N5 vs.toList[11]? &&(N8 zJ vs.toList[18]? &&(N8 jX vs.toList[7]? &&(N8 Ko vs.toList[9]? &&N8 jX vs.toList[10]?)))
  |_=>false
 |none=>false
noncomputable def SA:Option Obj->Bool
 |some o=>N7 "module" o.cls&&((match o.dict with
  |some d=>Nat.beq d 0
  |none=>false)&&match o.data with
  |.plain=>true
  |_=>false)
 |none=>false
noncomputable def Fo(b:Nat):Result->Bool
 |.ok f=>match f with
  |.ret v=>match v with
   |.ref a=>Nat.beq a b
   |_=>false
  |_=>false
 |.error aR=>false
set_option tactic.hygienic true in
theorem Kp{b:Nat}{r:Result}(h:Fo b r=true):r=.ok (.ret (.ref b)):=by
 rcases r with _|f
 ·exact dJ h
 rcases f<;>first|exact dJ h|skip
 rename_i v
 rcases v<;>first|exact dJ h|skip
 rw[Nat.eq_of_beq_eq_true h]
noncomputable def N9(n:Nat)(k:OT->Nat->Nat->List e7->Bool)(w:World)(ps:Nat->Pos):Bool:=
 w5 (YE w) λa=>Fo cN a.res&&w5 (YF w (ps 0) a.T a.m a.i) λb=>Fo FN b.res&&(codeB (bX b.T cN)&&(SA (bX b.T HF)&&topGo w.params N5 HF (N6 w (ps 1)) k (cu.take n) kP (λj=>ps (j+2)) b.T b.m b.i []))
noncomputable def lU(f:World->(Nat->Pos)->Bool):World×(Nat->Pos):= @Classical.epsilon (World×(Nat->Pos)) ⟨⟨aWorld 0,λY=>default⟩⟩ (λx=>f x.1 x.2=false)
theorem Fp{f:World->(Nat->Pos)->Bool}(h:f (lU f).1 (lU f).2=true):∀w ps,f w ps=true:=λw ps=>by
 cases e:f w ps with
 |true=>rfl
 |false=>
  have:= @Classical.epsilon_spec_aux (World×(Nat->Pos)) ⟨⟨aWorld 0,λY=>default⟩⟩ (λx=>f x.1 x.2=false) ⟨(w,ps),e⟩;exact absurd h (by rw[show f (lU f).1 (lU f).2=false from this];decide)
theorem w7{den:Code->Sem Fin}{w:World}{s s':Shared}{t:Thread}{f:Flow}(hc:t.calm=true)(h:step den p w s t=.halt (.done f) s'):through t=true/\s'=s:=by
 have hl:t.loud=false:=by
  rw[Thread.calm_eq]at hc;cases hq:t.loud with
  |false=>rfl
  |true=>rw[hq]at hc;cases hc
 have e:stepI den p w s t=.halt (.done f) s':=by
  rw[stepI_quiet _ _ _ hl];clear hl hc;obtain⟨cur,code,pos,stack⟩:=t;obtain⟨heap,gens,drawn,toks,os⟩:=s;cases cur with
  |pure fin=>cases fin with
   |done g=>exact h
   |again c=>exact nomatch (show Step.go _ _=Step.halt _ _ from h)
  |call c q g l k=>exact nomatch (show Step.go _ _=Step.halt _ _ from h)
  |_=>exact h
 obtain⟨e1,e2,e3,_⟩:=step_halt_result (M:=⟨den,p,w⟩) (r:=.ok f) (t:=t.cur) (c:=t.code) (p:=t.pos) (st:=t.stack) e;refine⟨?_,e3⟩;obtain⟨cur,code,pos,stack⟩:=t;have e1:cur=leafOf (.ok f):=e1;have e2:stack=[]:=e2;subst e1 e2;rfl
theorem ahead{den:Code->Sem Fin}{w:World}:∀{n:Nat} {s s':Shared} {t:Thread} {f:Flow},s.asleep->runN den p w n s t=.halted (.done f) s'->(∀k aQ uP,runN den p w k s t=.running aQ uP->uP.calm=true)->
  ∃m uP,schedN den p w m (.single s t)=.running (.single s' uP)/\through uP=true
 |0,s,s',t,f,aR,h,dm=>by simp[runN]at h
 |n+1,s,s',t,f,hz,h,hc=>by
  unfold runN at h;cases hs:step den p w s t with
  |halt o aQ=>
   rw[hs]at h
   injection h with h1 h2
   subst h1 h2;obtain⟨a,b⟩:=w7 (hc 0 s t rfl) hs;exact⟨0,t,by rw[b];rfl,a⟩
  |go aQ uP=>
   rw[hs]at h;have hl:=step_life den p w s aQ t uP hs;obtain⟨m,SD,hm,ht⟩:=ahead (Shared.asleep_of_life hl hz) h λk fQ SD hk=>hc (k+1) fQ SD (by simp only[runN,hs];exact hk);have e:sstep den p w (.single s t)=.go (.single aQ uP):=by
    rcases sstep_single den p w s t (hc 0 s t rfl) hz with e|e
    ·rw[e,hs];rfl
    ·rw[hs]at e;cases e
   exact⟨m+1,SD,by simp only[schedN,e];exact hm,ht⟩
theorem HG{w:World}{c:Code}{t:Sem Fin}{q:Pos}{cU:Shared}{R:Shared->Prop}(hz:cU.asleep)
  (h:Sem.wp (model p w) ⟨c,none,none,[],none⟩ t (λfin Y s'=>(∃v,fin=.done v)/\s'.gens=#[]/\R s') (λY Y Y=>False) q cU):
  ∃aQ,(∃n uP,schedN (denote table) p w n (.single cU ⟨t,c,q,[]⟩)=.running (.single aQ uP)/\through uP=true)/\aQ.heap.life=cU.heap.life/\R aQ:=by
 have h':Sem.wp (model p w) ⟨c,none,none,[],none⟩ t (Sem.finPost (model p w) ⟨c,none,none,[],none⟩ λr s'=>((∃v,r=.ok v)/\s'.gens=#[]/\R s')/\leftWithCleanup s'.gens=false)
   (λe Y s'=>((∃v,(Except.error e:Result)=.ok v)/\s'.gens=#[]/\R s')/\leftWithCleanup s'.gens=false) q cU:=
  Sem.wp_mono _ _ _ (λfin p' s' z=>by
   obtain⟨⟨v,rfl⟩,z2,z3⟩:=z;exact⟨⟨⟨v,rfl⟩,z2,z3⟩,by rw[z2];simp[leftWithCleanup]⟩) (λY Y Y z=>z.elim) _ _ h
 obtain⟨n,r,aQ,hn,⟨⟨v,rfl⟩,hg,hR⟩⟩:=(wp_iff_halts (M:=model p w) (R:=λr s'=>(∃v,r=.ok v)/\s'.gens=#[]/\R s') ..).mp h';obtain⟨fQ,hr,hf,hc⟩:=runNI_real _ _ _ hn rfl;obtain rfl:fQ=aQ:=Shared.eq_of_forget_eq hf hg;exact⟨fQ,ahead hz hr hc,runN_life _ _ _ hr,hR⟩
end Mine
namespace Mine
open PySem PySem.W PyProof.Rows
open Sem (wp)
variable {α:Type}{p:Pos}{o:Option Obj}{h:Heap}{T:OT}{m:Nat}{os:OsState}
theorem Kq:uH=denote table:=by
 unfold uH tT;rw[<-PySem.W.Fast.te14364793385576792824,<-PySem.W.Fast.te11892475500146522536,table_eq_tree]
theorem Oa: @PySem.W.Fast.tw12563942051412417395= @execs:=PySem.W.Fast.te12563942051412417395.symm
theorem Kr{prog:Program}{P:Params}{up:Addr->Bool}{n:Nat}:ev uH prog P up n=ev (denote table) prog P up n:=by rw[Kq]
theorem Fq{M:Model}{Γ:Ctx}{t:Sem α}{f:α->Flow}{R:Result->Shared->Prop}{s:Shared}
  (h:wp M Γ (t >>=λv=>Sem.pure (.done (f v))) (Sem.finPost M Γ R) (λe Y s'=>R (.error e) s') p s):wp M Γ t (λv Y s=>R (.ok (f v)) s) (λe Y s=>R (.error e) s) p s:=by
 rw[Sem.wp_bind']at h;exact h
theorem YG(w:World)(p0:Pos):Sz PP w IS (GB p0) zN (N6 w p0):=by
 intro p st T m i r g d os R h e D K;unfold N6 at e;rw[Kr,Oa,<-PySem.W.R.bindR_eq]at e;have z:=uG (prog:=PP) (w:=w) (up:=IS) 100000 _ _ _ _ _ _ _ g d os R h e D K;exact Fq (f:=id) z
theorem pD{vs:Array Value}{i:Nat}{v:Value}(h:vs.toList[i]?=some v):vs.getD i .none=v:=by
 rw[Array.getD_eq_getD_getElem?,<-Array.getElem?_toList,h];rfl
theorem zO{f:Value->Bool}{o:Option Value}(h:N8 f o=true):∃v,o=some v/\f v=true:=by
 rcases o with _|v
 ·exact dJ h
 ·exact⟨v,rfl,h⟩
theorem zP{n:String}{v:Value}(h:N7 n v=true):v=.type n:=by
 rcases v<;>first|exact dJ h|exact congrArg Value.type (dt h)
theorem Ks{v:Value}(h:Ko v=true):∃b,v=.bool b:=by rcases v<;>first|exact dJ h|exact⟨_,rfl⟩
theorem Ob(D:∀x,o=some x->h.get? cN=some x)(h1:codeB o=true):Kd h cN N5:=by
 rcases o with _|⟨c,d,dt,sl⟩
 ·exact dJ h1
 have h1:=an h1;rcases dt with _|v|⟨a,b⟩|⟨a,b⟩|⟨a,b,e⟩|⟨a,b⟩|v|f|f|vs|_<;>first|exact dJ h1.2|skip
 have h2:=an (show(jY N5 vs.toList[11]? &&(N8 zJ vs.toList[18]? &&(N8 jX vs.toList[7]? &&(N8 Ko vs.toList[9]? &&N8 jX vs.toList[10]?))))=true from h1.2);have h3:=an h2.2;have h4:=an h3.2;have h5:=an h4.2;have UA:=jz h2.1;exact(zO h3.1).elim λv1 q1=>(xU q1.2).elim λs e=>e.elim λt e1=>(zO h4.1).elim λv2 q2=>(mJ q2.2).elim λi e=>e.elim λu e2=>(zO h5.1).elim λv3 q3=>(Ks q3.2).elim λb e3=>(zO h5.2).elim λv4 q4=>(mJ q4.2).elim λj e=>e.elim λu' e4=>
  .mk _ vs s t i u b j u' (D _ rfl) (zP h1.1) rfl (Array.getElem?_toList.symm.trans UA) ⟨pD UA,pD (e1▸q1.1),pD (e2▸q2.1),pD (e3▸q3.1),pD (e4▸q4.1)⟩
theorem SE(D:∀x,o=some x->h.get? HF=some x)(h2:SA o=true):∃o,h.get? HF=some o/\o.cls=.type "module"/\o.dict=some builtinsNs/\o.data=.plain:=by
 rcases o with _|⟨c,d,dt,sl⟩
 ·exact dJ h2
 have h1:=an h2;have h2:=an h1.2;rcases d with _|d
 ·exact dJ h2.1
 rcases dt<;>first|exact dJ h2.2|skip
 exact⟨_,D _ rfl,zP h1.1,congrArg some (Nat.eq_of_beq_eq_true h2.1),rfl⟩
theorem Oc(D:dX h T m)(h1:codeB (bX T cN)=true)(h2:SA (bX T HF)=true):Base h cN N5 HF:=⟨Ob (λY e=>D.at_ _ _ e) h1,SE (λY e=>D.at_ _ _ e) h2⟩
theorem nums:Nums cN N5 HF:=⟨by decide,by decide,by decide,by decide,by decide,by decide⟩
theorem Ku:PP.main.scope.kind=.module:=by rfl
theorem SG:cu.all (Sw PP)=true:=by decide+kernel
noncomputable def codeS(s:String):Nat:=(Str.ofString s).cps.toList.foldl (λn c=>n*1114112+c) 1
noncomputable def YH(d:List String×List V):Bool:=decide (d.1.map codeS).Nodup&&Nat.ble d.1.length 1000&& !d.1.isEmpty
theorem VN:kP.all YH=true:=by decide+kernel
theorem xW:hasAnns cu=false/\docOf cu=none:=⟨by decide+kernel,by rfl⟩
theorem zQ{β:Type}(f:α->β){l:List α}:(l.map f).Nodup->l.Nodup:=by
 induction l with
 |nil=>exact λY=>List.nodup_nil
 |cons x l ih=>
  intro h;have h:=List.nodup_cons.mp h;exact List.nodup_cons.mpr ⟨λq=>h.1 (List.mem_map_of_mem q),ih h.2⟩
structure Left (w:World) (k:OT->Nat->Nat->List e7->Bool) (cU aQ:Shared) (T:OT) (m i:Nat) (acc:List e7):Prop where
 ok:k T m i acc=true
 rep:dX aQ.heap T m
 base:Base aQ.heap cN N5 HF
 facts:∀x∈acc,jW PP w aQ.heap T x
 kept:∀b o,IS b=false->cU.heap.get? b=some o->aQ.heap.get? b=some o
 acc:iE cu kP [] acc
 os:aQ.os=cU.os
noncomputable abbrev boot(w:World)(os:OsState):Shared:=⟨boot_heap w.params,#[],boot_drawn,boot_toks,os⟩
noncomputable def Ft(w:World)(k:OT->Nat->Nat->List e7->Bool)(os:OsState)(s':Shared):Prop:=s'.gens=#[]/\∃T m i acc,Left w k (boot w os) s' T m i acc
noncomputable def TopW(w:World)(k:OT->Nat->Nat->List e7->Bool)(os:OsState)(t:Sem Fin)(p:Pos)(s:Shared):Prop:=
 wp (model PP w) G0 t (λfin Y s'=>(∃v,fin=.done v)/\s'.gens=#[]/\Ft w k os s') (λY Y Y=>False) p s
theorem Od{w:World}{k:OT->Nat->Nat->List e7->Bool}{hC:Heap}{i:Nat}(H:∀ps:Nat->Pos,topGo w.params N5 HF (N6 w (ps 0)) k cu kP (λj=>ps (j+1)) T m i []=true)(D:dX hC T m)(B:Base hC cN N5 HF)
  (kept:∀b o,IS b=false->(boot_heap w.params).get? b=some o->hC.get? b=some o)(p:Pos):TopW w k os (run (.body cu zN) >>=λY=>ret .none) p ⟨hC,#[],boot_drawn,i,os⟩:=by
 unfold TopW;rw[Sem.wp_bind'];show wpCode (model PP w) (GB p) _ p _;rw[wpCode_iff_wp];show wp (model PP w) (GB p) ((blockStart cu zN >>=λY=>(execs cu zN).onRaise (leaving zN) >>=λf=>Sem.pure (Fin.done f)):Sem Fin) _ _ _ _;have hb:blockStart cu zN=pure ():=by
  unfold blockStart;rw[xW.1,xW.2];cases interactive zN<;>rfl
 rw[hb,pure_bind,Sem.wp_bind',Sem.wp_onRaise];have okd:∀d∈kP,d.1.Nodup/\d.1.length<=1000/\d.1≠[]:=λd hd=>by
  have:=an (List.all_eq_true.mp VN d hd);have h1:=an this.1;exact⟨zQ _ (dt h1.1),Nat.le_of_ble_eq_true h1.2,λz=>by rw[z]at this;exact dJ this.2⟩
 have z:=BJ (g:=#[]) (d:=boot_drawn) (os:=os) (YG w p) Ku nums (by decide+kernel) (by decide+kernel) (by decide+kernel) (by decide+kernel) (k:=k) (Q:=λf s=>f=.next/\Ft w k os s) (E:=λY Y=>False)
  cu kP T m i [] hC p (λps=>H (DN p ps)) (λst hs=>List.all_eq_true.mp SG st hs) okd D B (λx hx=>nomatch hx)
  λh' T' m' i' je a1 a2 a3 a4 a5 a6=>⟨rfl,rfl,T',m',i',je,a1,a2,a3,a4,λb o u e=>a5 b o u (kept b o u e),a6,rfl⟩
 refine Sem.wp_mono _ _ _ (λf p' s' z=>?_) (λY Y Y z=>z.elim) _ _ z;obtain⟨rfl,z2⟩:=z;exact⟨⟨_,rfl⟩,z2.1,z2⟩
theorem Kv{w:World}{k:OT->Nat->Nat->List e7->Bool}{t:Sem α}{f:α->Value}{n:α->Sem Fin}{i b:Nat}{a:α}{r:J6}(e:ev uH PP w.params IS 100000 G0 (t >>=λv=>.pure (.done (.ret (f v)))) p T m i=some r)(hr:Fo b r.res=true)(inj:∀v,f v=.ref b->v=a)(D:dX h T m)
  (H:∀h',dX h' r.T r.m->Fr IS T h r.T h'->∀p',TopW w k os (n a) p' ⟨h',#[],boot_drawn,r.i,os⟩):TopW w k os (t >>=n) p ⟨h,#[],boot_drawn,i,os⟩:=by
 rw[Kr]at e;have z:=Fq (f:=λv=>.ret (f v)) (uG (prog:=PP) (w:=w) (up:=IS) 100000 _ _ _ _ _ _ _ #[] boot_drawn os (λr s=>r=.ok (.ret (.ref b))/\∀p,TopW w k os (n a) p s) _ e D λh' D' F'=>⟨Kp hr,λp=>H h' D' F' p⟩);unfold TopW;rw[Sem.wp_bind'];refine Sem.wp_mono _ _ _ (λv p' s' z=>?_) (λY Y Y z=>by cases z.1) _ _ z;rw[inj v (Flow.ret.inj (Except.ok.inj z.1))];exact z.2 p'
theorem Kw{w:World}{k:OT->Nat->Nat->List e7->Bool}(H:∀ps,N9 1000 k w ps=true)(os:OsState)(hz:Shared.asleep ⟨boot_heap w.params,#[],boot_drawn,boot_toks,os⟩):
  ∃aQ,(∃n t,schedN (denote table) PP w n (.single ⟨boot_heap w.params,#[],boot_drawn,boot_toks,os⟩ (topStub PP))=.running (.single aQ t)/\through t=true)/\aQ.heap.life=(boot_heap w.params).life/\aQ.gens=#[]/\
   ∃T m i acc,Left w k ⟨boot_heap w.params,#[],boot_drawn,boot_toks,os⟩ aQ T m i acc:=by
 suffices W:TopW w k os (topStub PP).cur default (boot w os) from HG hz W
 have st:cu.take 1000=cu:=List.take_of_length_le (by decide+kernel);unfold N9 at H;rw[st]at H;obtain⟨rA,hA⟩:=pB (H λY=>default);have HA:=λps=>pC hA (H ps);have HA:=λps=>an (HA ps);show TopW w k os (moduleCode PP.main >>=λcode=>newBodyFrame code mainNs mainNs >>=λframe=>
  run (.body cu {scope:=PP.main.scope,locals:=mainNs,globals:=mainNs,cells:=[],code,frame:=some frame}) >>=λY=>ret .none) _ _
 refine Kv (f:=id) hA (HA λY=>default).1 (λY e=>e) (Ka w.params) λhB DB FB p1=>?_;have HA:=λps=>(HA (DN p1 ps)).2;obtain⟨rB,hB'⟩:=pB (HA λY=>default);have HB:=λps=>pC hB' (HA ps);have HB:=λps=>an (HB ps);refine Kv (f:=Value.ref) hB' (HB λY=>default).1 (λY e=>Value.ref.inj e) DB λhC DC FC p2=>?_;have HC:=λps=>an (HB ps).2;have HD:=λps=>an (HC ps).2;exact Od (λps=>(HD ps).2) DC (Oc DC (HC λY=>default).1 (HD λY=>default).1) (λb o u e=>FC.kept b o u (FB.kept b o u e)) p2
end Mine
namespace Mine
open PySem
variable {α β:Type}
theorem uQ:∀{ns:List Str} {vs:List α} {n:Str},n∈ns->ns.length<=vs.length->((ns.zip vs).lookup n).isSome=true
 |oR::ns,v::vs,n,h,l=>by
  rw[List.zip_cons_cons,List.lookup_cons];cases q:n==oR with
  |true=>rfl
  |false=>
   have mw:n≠oR:=by simpa using q
   exact uQ (List.mem_of_ne_of_mem mw h) (by simpa using l)
 |[],aR,dm,h,p8=>by cases h
 |aR::dm,[],p8,JW,l=>by simp at l
theorem BK{f g:α->Option β}:∀{l:List α},(∀x∈l,f x=g x)->l.filterMap f=l.filterMap g
 |[],aR=>rfl
 |x::l,h=>by
  rw[List.filterMap_cons,List.filterMap_cons,h x (by simp),BK λy hy=>h y (by simp[hy])]
theorem nK:∀{ns:List Str} {vs:List Value},ns.Nodup->ns.length=vs.length->(ns.filterMap λn=>((ns.zip vs).lookup n).map (n,·))=ns.zip vs
 |[],[],aR,dm=>rfl
 |oR::ns,v::vs,nd,l=>by
  obtain⟨h1,h2⟩:=List.nodup_cons.mp nd;have e1:(((oR::ns).zip (v::vs)).lookup oR).map (λx=>(oR,x))=some (oR,v):=by simp
  have e2:(ns.filterMap λn=>(((oR::ns).zip (v::vs)).lookup n).map (λx=>(n,x)))=ns.filterMap λn=>((ns.zip vs).lookup n).map (λx=>(n,x)):=by
   refine BK λn hn=>?_;have:n≠oR:=λz=>h1 (z▸hn);have q:(n==oR)=false:=by simpa using this
   rw[List.zip_cons_cons,List.lookup_cons,q]
  rw[List.filterMap_cons,e1,e2,nK h2 (by simpa using l)];rfl
 |[],aR::dm,p8,l=>by simp at l
 |aR::dm,[],p8,l=>by simp at l
theorem itn{c:Prop}[Decidable c]{a b x y:α}(e:x=ite c a b)(h:¬ c)(k:b=y):x=y:=e.trans ((if_neg h).trans k)
theorem zn{x:α}{f:β->α}{l l':β}(e:x=f l)(h:l=l'):x=f l':=h▸e
theorem uR{fd:FuncData}{as:List Arg}(hp:fd.params=⟨[],as,none,[],[],none,[]⟩)(hd:fd.defaults=.none)(nd:(as.map (·.arg)).Nodup){vals:List Value}(hl:vals.length=as.length):
  bindArgs fd ⟨vals,[]⟩=pure ((as.map (·.arg)).zip vals):=by
 have e1:((as.map (·.arg)).filter λn=>(((as.map (·.arg)).zip vals).lookup n).isNone)=[]:=by
  rw[List.filter_eq_nil_iff];intro n hn;have:=uQ (vs:=vals) hn (by simp[hl]);cases h:((as.map (·.arg)).zip vals).lookup n with
  |none=>rw[h]at this;cases this
  |some v=>simp
 have e2:=nK (ns:=as.map (·.arg)) (vs:=vals) nd (by simp[hl]);have e4:=(congrArg (List.filterMap λn=>Option.map (λx=>(n,x)) (List.lookup n ((as.map (·.arg)).zip vals))) (List.append_nil (as.map (·.arg)))).trans e2;have z1:¬ (decide (vals.length >(as.map (·.arg)).length)&&true)=true:=by simp[hl]
 have z2:¬ (!(((as.map (·.arg)).take ((as.map (·.arg)).length-(List.drop (0-(as.map (·.arg)).length) ([]:List Value)).length)).filter λn=>(((as.map (·.arg)).zip vals).lookup n).isNone).isEmpty)=true:=by rw[List.drop_nil,List.length_nil,Nat.sub_zero,List.take_length,e1];exact Bool.false_ne_true
 obtain⟨a1,a2,a3,a4,a5,a6,a7,a8,a9,Xl,a11⟩:=fd;cases hp;cases hd;refine itn rfl z1 (itn rfl z2 ?_);have z3:List.zip (List.drop ((as.map (·.arg)).length-(List.drop (0-(as.map (·.arg)).length) ([]:List Value)).length) (as.map (·.arg))) (List.drop (0-(as.map (·.arg)).length) ([]:List Value))=[]:=by rw[List.drop_nil,List.zip_nil_right]
 refine(zn (f:=λl=>Bind.bind (forIn l _ _) _) rfl z3).trans ?_;refine Eq.trans (b:=pure _) rfl ?_;exact(congrArg pure e4)
end Mine
namespace Mine
open PySem PySem.W PyProof.Rows
variable {h:Heap}{m a j:Nat}{α:Type}{ps:List Str}
noncomputable section
noncomputable def Qm(v:Value):Option (PLift (v=.none)):=if h:v.ctorIdx=0 then Value.none.elim v h (some ⟨rfl⟩) else none
noncomputable def vBool(v:Value):Option {b:Bool // v=.bool b}:=if h:v.ctorIdx=3 then Value.bool.elim v h λb=>some ⟨b,rfl⟩ else none
noncomputable def vInt(v:Value):Option {q:Int×Tok // v=.int q.1 q.2}:=if h:v.ctorIdx=4 then Value.int.elim v h λi t=>some ⟨(i,t),rfl⟩ else none
noncomputable def vStr(v:Value):Option {q:Str×Tok // v=.str q.1 q.2}:=if h:v.ctorIdx=6 then Value.str.elim v h λi t=>some ⟨(i,t),rfl⟩ else none
noncomputable def DO(v:Value):Option {a:Addr // v=.ref a}:=if h:v.ctorIdx=10 then Value.ref.elim v h λa=>some ⟨a,rfl⟩ else none
noncomputable def YI(d:Data):Option {q:List Value×Nat // d=.seq ⟨q.1⟩ q.2}:=if h:d.ctorIdx=2 then Data.seq.elim d h λa n=>some ⟨(a.toList,n),rfl⟩ else none
noncomputable def VO(d:Data):Option {q:List DictEntry×Nat // d=.dict ⟨q.1⟩ q.2}:=if h:d.ctorIdx=3 then Data.dict.elim d h λa n=>some ⟨(a.toList,n),rfl⟩ else none
noncomputable def VP(d:Data):Option {f:FuncData // d=.func f}:=if h:d.ctorIdx=7 then Data.func.elim d h λf=>some ⟨f,rfl⟩ else none
noncomputable def YJ(d:Data):Option ClassData:=if h:d.ctorIdx=8 then Data.cls.elim d h some else none
noncomputable def VQ(d:Data):Option {vs:Array Value // d=.fields vs}:=if h:d.ctorIdx=9 then Data.fields.elim d h λvs=>some ⟨vs,rfl⟩ else none
noncomputable def Qn{α:Type}:(l:List α)->Option {q:α×List α // l=q.1::q.2}|a::l=>some ⟨(a,l),rfl⟩|[]=>none
noncomputable def Oe{α:Type}:(o:Option α)->Option {x:α // o=some x}|some x=>some ⟨x,rfl⟩|none=>none
noncomputable def Kx(T:OT)(a:Nat):Option {q:List DictEntry×Nat // ∃o,bX T a=some o/\o.data=.dict ⟨q.1⟩ q.2}:=(Oe (bX T a)).bind λo=>(VO o.1.data).map λd=>⟨d.1,o.1,o.2,d.2⟩
noncomputable def fk(T:OT)(a:Nat):List DictEntry:=((Kx T a).map λq=>q.1.1).getD []
noncomputable def gw(T:OT)(a:Nat):Bool:=(Kx T a).isSome
end
theorem lV{T:OT}(D:dX h T m)(e:gw T a=true):∃o n,h.get? a=some o/\o.data=.dict ⟨fk T a⟩ n:=by
 unfold fk;unfold gw at e;generalize Kx T a=z at e ⊢;rcases z with _|⟨q,o,e1,e2⟩
 ·exact dJ e
 ·exact⟨o,q.2,D.at_ _ _ e1,e2⟩
noncomputable def VR:Option Value->Nat
 |some (.ref a)=>a
 |_=>0
noncomputable def kQ(T:OT)(a:Nat)(x:String):Option Value:=C1 (Str.ofString x).cps.toList (fk T a)
noncomputable def q9(T:OT)(c:String):Nat:=VR (kQ T mainGlobals c)
noncomputable def nsT(T:OT)(a:Nat):Nat:=(((bX T a).bind λo=>YJ o.data).map λc=>c.ns).getD 0
noncomputable def Fv(T:OT)(c:String):Nat:=VR (kQ T (nsT T (q9 T c)) "__init__")
noncomputable def fm(T:OT):Frag:=(iu.flatMap λp=>[q9 T p.1,nsT T (q9 T p.1),Fv T p.1]).filterMap λa=>(bX T a).map λo=>(a,o)
set_option tactic.hygienic true in
theorem lookup_mem{k:Nat}{v:α}:∀{l:List (Nat×α)},l.lookup k=some v->(k,v)∈l
 |(a,b)::l,h=>by
  rw[List.lookup_cons]at h
  split at h
  ·rename_i q
   have:k=a:=by simpa using q
   cases h;subst this;simp
  ·exact List.mem_cons_of_mem _ (lookup_mem h)
theorem Ky{T:OT}(D:dX h T m):(fm T).In h:=λa o e=>by
 have:=lookup_mem e;unfold fm at this;obtain⟨b,_,hb⟩:=List.mem_filterMap.mp this;obtain⟨o',ho,e'⟩:=Option.map_eq_some_iff.mp hb;cases e';exact D.at_ _ _ ho
noncomputable def UB(acc:List e7):List (Fj×Addr×Addr):=(acc.filterMap Yz).reverse
noncomputable def SH(acc:List e7):List (Addr×V):=(acc.filterMap YA).reverse
noncomputable def IT(acc:List e7):List Nat:=(UB acc).map (·.2.1)
noncomputable def IU(T:OT)(A:List Nat)(k:Nat):Nat:=match A[k]? with
 |some a=>a
 |none=>match iu[k-132]? with
  |some p=>Fv T p.1
  |none=>0
noncomputable def uS(w:World)(h:Heap)(T:OT)(acc:List e7):PV where
 prog:=PP
 w:=w
 h₀:=h
 K:=fm T
 fa:=IU T (IT acc)
 ca:=λc=>(iu.lookup c).map λY=>q9 T c
 gt:=aj
 mg:=nsFind ⟨fk T mainGlobals⟩
 mb:=(boot_heap w.params).nsMap builtinsNs
noncomputable def VS(T:OT)(n:String)(a:Nat):Option {ws:List Value // ∃o k,bX T a=some o/\o.cls=.type n/\o.data=.seq ⟨ws⟩ k}:=
 (Oe (bX T a)).bind λo=>(YI o.1.data).bind λd=>if h:N7 n o.1.cls=true then some ⟨d.1.1,o.1,d.1.2,o.2,zP h,d.2⟩ else none
mutual
noncomputable def SI(T:OT)(fa:Nat->Nat):V->Value->Bool
 |.none,w=>(Qm w).isSome
 |.bool b,w=>(vBool w).any λq=>b==q.1
 |.int i,w=>(vInt w).any λq=>decide (q.1.1=i)
 |.str s,w=>(vStr w).any λq=>Fast.sEq q.1.1 (Str.ofString s)
 |.af xs,w=>(DO w).any λq=>(VS T "tuple" q.1).any λws=>Fw T fa xs ws.1
 |.aC xs,w=>(DO w).any λq=>(VS T "list" q.1).any λws=>Fw T fa xs ws.1
 |.fn k,w=>(DO w).any λq=>Nat.beq q.1 (fa k)
 |aR,dm=>false
noncomputable def Fw(T:OT)(fa:Nat->Nat):List V->List Value->Bool
 |[],ws=>ws.isEmpty
 |x::xs,ws=>(Qn ws).any λq=>SI T fa x q.1.1&&Fw T fa xs q.1.2
end
section
variable {P:PV}{h:Heap}{T:OT}{m:Nat}
mutual
theorem Fx(D:dX h T m):∀(v:V) {w:Value},SI T P.fa v w=true->aK P h (λY=>False) [] v w
 |.none,w,e=>(aP (f:=λY=>true) (show(Qm w).any _=true from by rw[Option.any_true];exact e) λq Y=>q.1)
 |.bool b,w,e=>aP (show(vBool w).any _=true from e) λq h=>q.2.trans (congrArg Value.bool (eq_of_beq h).symm)
 |.int i,w,e=>aP (show(vInt w).any _=true from e) λq h=>⟨q.1.2,q.2.trans (congrArg (Value.int · _) (dt h))⟩
 |.str s,w,e=>aP (show(vStr w).any _=true from e) λq h=>⟨q.1.2,q.2.trans (congrArg (Value.str · _) (Fast.sEq_iff.mp h))⟩
 |.af xs,w,e=>aP (show(DO w).any _=true from e) λq h=>aP h λws h=>ws.2.elim λo r=>r.elim λk r=>⟨q.1,_,q.2,λq=>q,⟨o,D.at_ _ _ r.1,r.2.1,k,r.2.2⟩,uT D xs h⟩
 |.aC xs,w,e=>aP (show(DO w).any _=true from e) λq h=>aP h λws h=>ws.2.elim λo r=>r.elim λk r=>⟨q.1,_,q.2,λq=>q,⟨o,D.at_ _ _ r.1,r.2.1,k,r.2.2⟩,uT D xs h⟩
 |.fn k,w,e=>aP (show(DO w).any _=true from e) λq h=>q.2.trans (congrArg Value.ref (Nat.eq_of_beq_eq_true h))
 |.ah,aR,e=>dJ e
 |.cM aR,dm,e=>dJ e
 |.obj ..,aR,e=>dJ e
 |.k8 ..,aR,e=>dJ e
 |.ref aR,dm,e=>dJ e
theorem uT(D:dX h T m):∀(xs:List V) {ws:List Value},Fw T P.fa xs ws=true->aM P h (λY=>False) [] xs ws
 |[],ws,e=>List.isEmpty_iff.mp e
 |x::xs,ws,e=>aP (show(Qn ws).any _=true from e) λq h=>⟨q.1.1,q.1.2,q.2,Fx D x (aV h),uT D xs (cJ h)⟩
end
end
noncomputable def Fy(v:V):Bool:=(WY v).isSome
theorem Kz:rX.filter (λp=>Fy p.2)=[("SHAPES",MB (pairsOf tS)),("KEEPING",MB (pairsOf gY)),("PAD_KINDS",MB (pairsOf lz)),("_law_places",MB (pairsOf dZ))]:=by rfl
noncomputable def dIx:List (String×Nat):=[("SHAPES",0),("KEEPING",1),("PAD_KINDS",2),("_law_places",3)]
noncomputable def glB(T:OT)(A:List Nat)(D:List Nat):Bool:=R.allR rX λp=>bif Fy p.2
 then(dIx.lookup p.1).any λj=>(D[j]?).any λa=>jY a (kQ T mainGlobals p.1)
 else(kQ T mainGlobals p.1).any (SI T (IU T A) p.2)
noncomputable def VT(T:OT)(A:List Nat):Bool:=R.allR iu λp=>
 decide (findIn (fm T) (.ref (q9 T p.1)) "__getattribute__"=some (some (.builtin "object.__getattribute__")))&&
 (hasDictIn (fm T) (q9 T p.1)&&
 (R.allR I2 (λn=>decide (findIn (fm T) (.ref (q9 T p.1)) (Str.ofString n)=some none))&&
 (decide (findIn (fm T) (.ref (q9 T p.1)) "__setattr__"=some (some (.builtin "object.__setattr__")))&&
 (plainOver (fm T) (q9 T p.1)&&
 (jY (q9 T p.1) (kQ T mainGlobals p.1)&&
 (keepIn (fm T) (.ref (q9 T p.1))&&
 (makesIn (fm T) (q9 T p.1)&&
 (decide (findIn (fm T) (.ref (q9 T p.1)) "__init__"=some (some (.ref (IU T A p.2))))&&
 decide (typeIn (fm T) (.ref (IU T A p.2))=some (.type "function"))))))))))
noncomputable def BL(T:OT)(c:Value)(q:Str):Bool:=(DO c).any λr=>(Oe (bX T r.1)).any λo=>(VQ o.1.data).any λvs=>(Oe vs.1.toList[1]?).any λv=>(vStr v.1).any λs=>Fast.sEq s.1.1 q
noncomputable def YK(b:FuncBody):Option {l:List Stmt // b=.stmts l}:=if h:b.ctorIdx=0 then FuncBody.stmts.elim b h λl=>some ⟨l,rfl⟩ else none
noncomputable def SJ(T:OT)(f:Fn)(sl:List String)(o:Obj):Bool:=(VP o.data).any λq=>(YK q.1.body).any λb=>
 By uA f sl ⟨q.1.params,q.1.scope,b.1⟩&&(gT q.1.params&&(q.1.closure.isEmpty&&(Nat.beq q.1.globals mainGlobals&&(Nat.beq q.1.builtins builtinsNs&&(decide (q.1.defaults=.none)&&BL T q.1.code q.1.qualname)))))
noncomputable def Qo(T:OT):Bool:=R.allR iu λp=>(ao[p.2]?).any λf=>(EE[p.2]?).any λsl=>(bX T (Fv T p.1)).any (SJ T f sl)
noncomputable def nmL:List (List Nat):=(startupNames++PP.boundNames).map λs=>s.cps.toList
noncomputable def KA(T:OT):Bool:=R.allR (fk T mainGlobals) λe=>(vStr e.key).any λs=>R.anyR nmL (Fast.lEq s.1.1.cps.toList)
noncomputable def KC(T:OT):Bool:=R.allR (fk T cStatics) λe=>(vStr e.key).any λs=>s.1.1.opensWith "type.__subclasses__."
noncomputable def sM{α:Type}(o:Option α):Bool:=o.isNone
noncomputable def Qp(P:Params)(T:OT):Bool:=R.allR laidNames λx=>decide (C1 x.cps.toList (fk T mainGlobals)=(boot_heap P).nsMap mainGlobals x)
noncomputable def biB(P:Params)(T:OT):Bool:=R.allR Jx λp=>sM (kQ T mainGlobals p.1)&&decide ((boot_heap P).nsMap builtinsNs (Str.ofString p.1)=some p.2)
noncomputable def xX(P:Params)(T:OT)(_m _i:Nat)(acc:List e7):Bool:=
 uF (IT acc) λA=>uF ((SH acc).map (·.1)) λD=>
 gw T mainGlobals&&(gw T cStatics&&(fj (fk T mainGlobals)&&(KC T&&(sM (kQ T cStatics "sys.recursionlimit")&&(KA T&&(Qp P T&&(biB P T&&
 (jY HF (C1 NZ (fk T mainGlobals))&&(BI (bX T sysModules)&&(glB T A D&&(VT T A&&Qo T)))))))))))
noncomputable def Qq(k:Nat):Bool:=(ao[k]?).any λf=>(EE[k]?).any λsl=>((cu.filterMap uO)[k]?).any λr=>By uA f sl ⟨r.params,r.scope,r.body⟩&&gT r.params
theorem DP:(List.range 132).all Qq=true:=by decide+kernel
theorem BN:ao.length=135/\(cu.filterMap uO).length=132:=⟨by rfl,by decide+kernel⟩
noncomputable def VU(f:Params->Bool):Params:= @Classical.epsilon Params ⟨(aWorld 0).params⟩ (λx=>f x=false)
theorem VV{f:Params->Bool}(h:f (VU f)=true):∀P,f P=true:=λP=>by
 cases e:f P with
 |true=>rfl
 |false=>
  have:= @Classical.epsilon_spec_aux Params ⟨(aWorld 0).params⟩ (λx=>f x=false) ⟨P,e⟩;exact absurd h (by rw[show f (VU f)=false from this];decide)
noncomputable def KD(P:Params):Bool:=(boot_heap P).isNs builtinsNs&&(decide ((boot_heap P).bltView=bltViewBooted)&&((boot_heap P).isNs mainGlobals&&((boot_heap P).isNs cStatics&&((boot_heap P).nsKeys cStatics).isEmpty)))
theorem Fz:∀P,KD P=true:=VV (by decide+kernel)
theorem gU{a:Arguments}(h:gT a=true):∃as,a=⟨[],as,none,[],[],none,[]⟩/\gh a=some (as.map (·.arg)):=by
 obtain⟨as,rfl,_⟩:=nH h;exact⟨as,rfl,rfl⟩
theorem uU{T:Tab}{f:Fn}{names:List String}{fd:FD}(h:By T f names fd=true)(e:gh fd.args=some ps):ps.Nodup:=by
 unfold By at h;rw[e]at h;simp only[Bool.and_eq_true,decide_eq_true_eq]at h;exact h.1.1.1.1.1.1.1.2
theorem FE{fd:FuncData}(h:gT fd.params=true)(e:gh fd.params=some ps)(nd:ps.Nodup)(hd:fd.defaults=.none):∀vals:List Value,vals.length=ps.length->bindArgs fd ⟨vals,[]⟩=pure (ps.zip vals):=λvals hl=>by
 obtain⟨as,e1,e2⟩:=gU h;rw[e]at e2;cases e2;exact uR e1 hd nd (by simpa using hl)
section
variable {w:World}{k:OT->Nat->Nat->List e7->Bool}{cU aQ:Shared}{T:OT}{m i:Nat}{acc:List e7}
structure fS (w:World) (T:OT) (acc:List e7):Prop where
 d1:gw T mainGlobals=true
 d2:gw T cStatics=true
 sk:fj (fk T mainGlobals)=true
 st:KC T=true
 lim:sM (kQ T cStatics "sys.recursionlimit")=true
 nm:KA T=true
 laid:Qp w.params T=true
 bi:biB w.params T=true
 bm:jY HF (C1 NZ (fk T mainGlobals))=true
 sys:BI (bX T sysModules)=true
 gl:glB T (IT acc) ((SH acc).map (·.1))=true
 cls:VT T (IT acc)=true
 YL:Qo T=true
theorem BO(h:xX w.params T m i acc=true):fS w T acc:=by
 unfold xX at h;rw[jy,jy]at h;simp only[Bool.and_eq_true]at h;obtain⟨a1,a2,a3,a4,a5,a6,a7,a8,a9,Xl,a11,a12,a13⟩:=h;exact⟨a1,a2,a3,a4,a5,a6,a7,a8,a9,Xl,a11,a12,a13⟩
theorem fT{l:List α}{p:α->Bool}(h:R.allR l p=true):∀x∈l,p x=true:=by
 rw[<-R.allR_eq]at h;exact List.all_eq_true.mp h
theorem iF(x:String)(a:Nat):kQ T a x=nsFind ⟨fk T a⟩ (Str.ofString x):=uN _ _
theorem uV{o:Option α}(h:sM o=true):o=none:=Option.isNone_iff_eq_none.mp h
theorem HH(h:KC T=true):fj (fk T cStatics)=true:=by
 unfold fj;rw[<-R.allR_eq,List.all_eq_true];exact λe he=>aP (fT h e he) λq Y=>q.2▸rfl
theorem KH(D:dX h T m)(d:gw T a=true)(sk:fj (fk T a)=true):h.Ns a (nsFind ⟨fk T a⟩):=by
 obtain⟨o,n,e1,e2⟩:=lV D d;exact⟨o,_,_,e1,e2,gC sk,λY=>rfl⟩
theorem Qs(A:iE cu kP [] acc){r:Fj}(h:(cu.filterMap uO)[j]?=some r):∃a c,(IT acc)[j]?=some a/\e7.fn r.name r.params r.body r.scope a c∈acc:=by
 have e:(UB acc).map (·.1)=cu.filterMap uO:=by
  unfold UB;rw[List.map_reverse,A.fns];simp
 rw[<-e,List.getElem?_map]at h;obtain⟨⟨r',a,c⟩,hp,e'⟩:=Option.map_eq_some_iff.mp h;cases e';refine⟨a,c,by unfold IT;rw[List.getElem?_map,hp];rfl,?_⟩;have hm:=List.mem_of_getElem? hp;unfold UB at hm;obtain⟨d,hd,ed⟩:=List.mem_filterMap.mp (List.mem_reverse.mp hm);induction d with
 |fn name params body scope a' c'=>cases ed;exact hd
 |cM aR dm=>exact aN ed
theorem SK(A:iE cu kP [] acc){v:V}(h:(kP.map MB)[j]?=some v):∃a,((SH acc).map (·.1))[j]?=some a/\e7.cM a v∈acc:=by
 have e:(SH acc).map (·.2)=kP.map MB:=by
  unfold SH;rw[List.map_reverse,A.Xk];simp
 rw[<-e,List.getElem?_map]at h;obtain⟨⟨a,v'⟩,hp,e'⟩:=Option.map_eq_some_iff.mp h;cases e';refine⟨a,by rw[List.getElem?_map,hp];rfl,?_⟩;have hm:=List.mem_of_getElem? hp;unfold SH at hm;obtain⟨d,hd,ed⟩:=List.mem_filterMap.mp (List.mem_reverse.mp hm);induction d with
 |fn aR dm p8 JW VC qq6=>exact aN ed
 |cM a' v=>cases ed;exact hd
theorem Of:kP.all (λd=>BC (MB d))=true:=by decide+kernel
theorem Og(L:Left w k cU aQ T m i acc)(F:fS w T acc)(jA:cU.heap=boot_heap w.params):Good (uS w aQ.heap T acc) uA.gn:=by
 have hb:(aQ.heap).Ns builtinsNs ((boot_heap w.params).nsMap builtinsNs):=by
  have:=Fz w.params;unfold KD at this;simp only[Bool.and_eq_true]at this;exact(Heap.Ns.of_isNs this.1).at λo e=>L.kept _ _ (by decide+kernel) (by rw[jA];exact e)
 refine⟨Ky L.rep,⟨_,KH L.rep F.d2 (HH F.st),?_⟩,KH L.rep F.d1 F.sk,hb,λn v hm=>?_,λj n v h1 h2=>?_⟩
 ·rw[<-uV F.lim,iF]
 ·have:=fT F.bi _ hm
  simp only[Bool.and_eq_true,decide_eq_true_eq]at this;exact⟨by rw[<-uV this.1,iF];rfl,this.2⟩
 ·have e1:(rX.map λp=>Str.ofString p.1)[j]?=some n:=h1
  have e2:(rX.map (·.2))[j]?=some v:=h2;rw[List.getElem?_map]at e1 e2;obtain⟨p,hp,rfl⟩:=Option.map_eq_some_iff.mp e1;rw[hp]at e2;cases e2;have hm:=List.mem_of_getElem? hp;have c:=fT F.gl p hm;cases hd:Fy p.2 with
  |false=>
   rw[hd]at c;exact any_eq (show(kQ T mainGlobals p.1).any _=true from c) λw' hw c'=>⟨w',by rw[<-hw,iF];rfl,Fx (P:=uS w aQ.heap T acc) L.rep p.2 c'⟩
  |true=>
   have YM:p∈rX.filter (λp=>Fy p.2):=List.mem_filter.mpr ⟨hm,hd⟩;rw[Kz]at YM;have key:∃jj,dIx.lookup p.1=some jj/\(kP.map MB)[jj]?=some p.2:=by
    simp only[List.mem_cons,List.mem_nil_iff,or_false]at YM;rcases YM with rfl|rfl|rfl|rfl
    ·exact⟨0,by decide,rfl⟩
    ·exact⟨1,by decide,rfl⟩
    ·exact⟨2,by decide,rfl⟩
    ·exact⟨3,by decide,rfl⟩
   obtain⟨jj,j1,j2⟩:=key;obtain⟨a,a1,a2⟩:=SK L.acc j2;have c':jY a (kQ T mainGlobals p.1)=true:=by
    rw[hd,j1]at c;have c:(((SH acc).map (·.1))[jj]?).any _=true:=c;rw[a1]at c;exact c
   have f:=L.facts _ a2;refine⟨.ref a,?_,?_⟩
   ·rw[<-jz c',iF];rfl
   ·have YN:BC p.2=true:=by
     obtain⟨d,hd,e⟩:=List.mem_map.mp (List.mem_of_getElem? j2);rw[<-e];exact List.all_eq_true.mp Of d hd
    exact aK.mono ⟨λY Y e Y=>e,λY Y Y q=>q.elim,λY Y e=>e⟩ _ (aK.swap (P:=P0 PP w) (P':=uS w aQ.heap T acc) rfl rfl p.2 YN f)
end
section
variable {w:World}{k:OT->Nat->Nat->List e7->Bool}{cU aQ:Shared}{T:OT}{m i:Nat}{acc:List e7}
set_option tactic.hygienic true in
theorem HJ{c:String}{x:Addr}(h:(iu.lookup c).map (λY=>q9 T c)=some x):x=q9 T c/\∃k,(c,k)∈iu:=by
 obtain⟨j,e,rfl⟩:=Option.map_eq_some_iff.mp h;refine⟨rfl,j,?_⟩;have:∀{l:List (String×Nat)},l.lookup c=some j->(c,j)∈l:=by
  intro l;induction l with
  |nil=>intro h;exact aN h
  |cons p l ih=>
   intro h;rw[show p=(p.1,p.2) from rfl,List.lookup_cons]at h
   split at h
   ·rename_i q
    have:c=p.1:=by simpa using q
    cases h;subst this;simp
   ·exact List.mem_cons_of_mem _ (ih h)
 exact this e
theorem VW{c:String}(h:(c,j)∈iu):(iu.lookup c).map (λY=>q9 T c)=some (q9 T c):=by
 have:∀p∈iu,(iu.lookup p.1).isSome=true:=by decide
 have:=this _ h;obtain⟨v,hv⟩:=Option.isSome_iff_exists.mp this;rw[hv];rfl
structure KI (T:OT) (A:List Nat) (c:String) (j:Nat):Prop where
 get:findIn (fm T) (.ref (q9 T c)) "__getattribute__"=some (some (.builtin "object.__getattribute__"))
 dict:hasDictIn (fm T) (q9 T c)=true
 own:∀n∈I2,findIn (fm T) (.ref (q9 T c)) (Str.ofString n)=some none
 set:findIn (fm T) (.ref (q9 T c)) "__setattr__"=some (some (.builtin "object.__setattr__"))
 over:plainOver (fm T) (q9 T c)=true
 mg:kQ T mainGlobals c=some (.ref (q9 T c))
 keep:keepIn (fm T) (.ref (q9 T c))=true
 makes:makesIn (fm T) (q9 T c)=true
 init:findIn (fm T) (.ref (q9 T c)) "__init__"=some (some (.ref (IU T A j)))
 XM:typeIn (fm T) (.ref (IU T A j))=some (.type "function")
theorem BP(F:fS w T acc){c:String}(h:(c,j)∈iu):KI T (IT acc) c j:=by
 have:=fT F.cls _ h;simp only[Bool.and_eq_true,decide_eq_true_eq]at this;obtain⟨a1,a2,a3,a4,a5,a6,a7,a8,a9,Xl⟩:=this;exact⟨a1,a2,λn hn=>dt (fT a3 n hn),a4,a5,jz a6,a7,a8,a9,Xl⟩
theorem BQ(D:dX h T m){c:Value}{q:Str}(e:BL T c q=true):h.CodeRec c q:=
 aP e λr h=>aP h λo h=>aP h λvs h=>aP h λv h=>aP h λs h=>
  ⟨r.1,o.1,vs.1,s.1.2,r.2,D.at_ _ _ o.2,vs.2,(Array.getElem?_toList.symm.trans v.2).trans (congrArg some (s.2.trans (congrArg (Value.str · _) (Fast.sEq_iff.mp h))))⟩
theorem SM(L:Left w k cU aQ T m i acc)(F:fS w T acc):∀(j:Nat) (f:Fn),ao[j]?=some f->∃names fd ps o zD,By uA f names fd=true/\gh fd.args=some ps/\Sd (uS w aQ.heap T acc) j fd ps o zD:=by
 intro j f hf;have hj:j<135:=by rw[<-BN.1];exact(List.getElem?_eq_some_iff.mp hf).1
 by_cases qS:j<132
 ·have ck:=List.all_eq_true.mp DP j (List.mem_range.mpr qS)
  unfold Qq at ck;rw[hf]at ck;refine aP (show(EE[j]?).any _=true from ck) λsl ck=>any_eq ck λr e3 ck=>?_
  ·have c1:=(aV ck)
   have c2:=(cJ ck);obtain⟨as,pa,pe⟩:=gU c2;obtain⟨a,c,h1,h2⟩:=Qs L.acc e3;obtain⟨⟨t1,pm,ho⟩,t2,cr⟩:=L.facts _ h2;have fa:(uS w aQ.heap T acc).fa j=a:=by
    show IU T (IT acc) j=a;unfold IU;rw[h1]
   refine⟨sl,⟨r.params,r.scope,r.body⟩,as.map (·.arg),{cls:=.type "function",data:=.func (plainDef r.name r.params r.body r.scope pm (.ref c))},plainDef r.name r.params r.body r.scope pm (.ref c),c1,pe,?_⟩;exact⟨by rw[fa];exact ho,rfl,rfl,rfl,rfl,rfl,rfl,cr,FE c2 pe (uU c1 pe) rfl⟩
 ·have key:∃c,(c,j)∈iu/\iu[j-132]?=some (c,j):=by
   have:j=132\/j=133\/j=134:=by lia
   rcases this with rfl|rfl|rfl
   ·exact⟨"OpsCode",by decide,rfl⟩
   ·exact⟨"Gen",by decide,rfl⟩
   ·exact⟨"OpenLoop",by decide,rfl⟩
  obtain⟨c,hm,hc⟩:=key;have fa:(uS w aQ.heap T acc).fa j=Fv T c:=by
   show IU T (IT acc) j=_;unfold IU;have hn:(IT acc)[j]?=none:=by
    rw[List.getElem?_eq_none_iff];have e:((UB acc).map (·.1)).length=132:=by
     rw[<-BN.2];unfold UB;rw[List.map_reverse,L.acc.fns];simp
    unfold IT;rw[List.length_map]at e ⊢;lia
   rw[hn];dsimp only;rw[hc]
  have ck:=fT F.YL _ hm;rw[hf]at ck;refine aP (show(EE[j]?).any _=true from ck) λsl ck=>any_eq ck λo ho ck=>aP ck λq ck=>aP ck λb ck=>?_;have d2:=an (cJ ck);have d3:=an d2.2;have d4:=an d3.2;have d5:=an d4.2;have d6:=an d5.2;obtain⟨as,pa,pe⟩:=gU d2.1;exact⟨sl,⟨q.1.params,q.1.scope,b.1⟩,as.map (·.arg),o,q.1,(aV ck),pe,by rw[fa];exact L.rep.at_ _ _ ho,q.2,b.2,rfl,List.isEmpty_iff.mp d3.1,Nat.eq_of_beq_eq_true d4.1,Nat.eq_of_beq_eq_true d5.1,BQ L.rep d6.2,FE d2.1 pe (uU (aV ck) pe) (dt d6.1)⟩
theorem BR(L:Left w k cU aQ T m i acc)(F:fS w T acc)(jA:cU.heap=boot_heap w.params):Table uA (uS w aQ.heap T acc) ao:=by
 refine⟨Og L F jA,λc ca h=>?_,λc j h=>?_,SM L F⟩
 ·obtain⟨rfl,j,hm⟩:=HJ h
  have C:=BP F hm;exact⟨C.get,C.dict,C.own,C.set,C.over⟩
 ·have C:=BP F h
  exact⟨_,VW h,by rw[<-C.mg,iF];rfl,C.keep,C.makes,C.init,C.XM⟩
end
theorem KJ:∀s,fenceModules? PP s=some s:=λs=>by rfl
theorem w9:opening PP=plainProg PP.main.scope.names:=by rfl
section
variable {w:World}{k:OT->Nat->Nat->List e7->Bool}{cU aQ:Shared}{T:OT}{m i:Nat}{acc:List e7}
theorem jZ(D:dX h T m)(d:gw T mainGlobals=true)(x:Str):globalOf h x=C1 x.cps.toList (fk T mainGlobals):=by
 obtain⟨o,n,e1,e2⟩:=lV D d;rw[uN];unfold globalOf;rw[show h.get? mainNs=some o from e1];dsimp only;rw[e2];rfl
theorem uW(D:dX h T m)(d:gw T cStatics=true)(x:Str):staticOf h x=C1 x.cps.toList (fk T cStatics):=by
 obtain⟨o,n,e1,e2⟩:=lV D d;rw[uN];unfold staticOf;rw[e1];dsimp only;rw[e2];rfl
set_option tactic.hygienic true in
theorem zR{x:Str}{v:Value}:∀{l:List DictEntry},C1 x.cps.toList l=some v->∃e∈l,∃t,e.key=.str x t
 |[],h=>by exact aN h
 |e::l,h=>by
  have e1:C1 x.cps.toList (e::l)=(match e.key with
   |.str s aR=> @Bool.rec (λY=>Option Value) (C1 x.cps.toList l) (some e.val) (Fast.lEq s.cps.toList x.cps.toList)
   |_=>C1 x.cps.toList l):=rfl
  rw[e1]at h;have rest:C1 x.cps.toList l=some v->∃e'∈e::l,∃t,e'.key=.str x t:=λh=>by
   obtain⟨e',h1,h2⟩:=zR h;exact⟨e',List.mem_cons_of_mem _ h1,h2⟩
  split at h
  ·rename_i s t hk
   cases q:Fast.lEq s.cps.toList x.cps.toList with
   |true=>
    have:s=x:=by
     have:=Fast.lEq_iff.mp q;cases s;cases x
     simpa using Array.toList_inj.mp this
    subst this;exact⟨e,by simp,t,hk⟩
   |false=>rw[q]at h;exact rest h
  ·exact rest h
theorem pF(F:fS w T acc){x:Str}{v:Value}(h:C1 x.cps.toList (fk T cStatics)=some v):x.opensWith "type.__subclasses__."=true:=by
 obtain⟨e,he,t,hk⟩:=zR h;have:=fT F.st e he;rw[hk]at this;exact this
theorem DQ(P:Params):(boot_heap P).isNs builtinsNs=true/\(boot_heap P).bltView=bltViewBooted/\(boot_heap P).isNs mainGlobals=true/\(boot_heap P).isNs cStatics=true/\(boot_heap P).nsKeys cStatics=[]:=by
 have:=Fz P;unfold KD at this;simp only[Bool.and_eq_true,decide_eq_true_eq,List.isEmpty_iff]at this;obtain⟨a,b,c,d,e⟩:=this;exact⟨a,b,c,d,e⟩
theorem SN{b:Nat}(h1:b<11)(h2:b≠mainNs)(h3:b≠cStatics):IS b=false:=by
 have h:=List.all_eq_true.mp (show(List.range 11).all (λb=>Nat.beq b mainNs||(Nat.beq b cStatics|| !IS b))=true from by decide+kernel) b (List.mem_range.mpr h1);exact(Bool.or_eq_true_iff.mp h).elim (λq=>absurd (Nat.eq_of_beq_eq_true q) h2) λh=>(Bool.or_eq_true_iff.mp h).elim (λq=>absurd (Nat.eq_of_beq_eq_true q) h3) nb
theorem BS(P:Params):(boot_heap P).objs.size=11:=by rfl
theorem HK(L:Left w k cU aQ T m i acc)(F:fS w T acc)(jA:cU.heap=boot_heap w.params)(SO:∃n t,schedN (denote table) PP w n (.single cU (topStub PP))=.running (.single aQ t)/\through t=true)
  (FF:aQ.heap.life=cU.heap.life)(hg:aQ.gens=#[]):TopRan PP w cU aQ:=by
 obtain⟨b1,b2,b3,b4,b5⟩:=DQ w.params;have VX:∀o,(boot_heap w.params).get? builtinsNs=some o->aQ.heap.get? builtinsNs=some o:=λo e=>L.kept _ _ (by decide+kernel) (by rw[jA];exact e);have hm:=KH L.rep F.d1 F.sk;refine⟨SO,FF,Shared.rest_eq L.os,λb o e n=>?_,λkey v e=>?_,λkey=>?_,?_,λx hx=>?_,?_,λg h=>by rw[hg]at h;simp at h,λx v e=>?_,λx hx=>?_⟩
 ·refine L.kept b o (SN ?_ (λz=>n (.inl z)) λz=>n (.inr (.inl z))) e
  rw[<-BS w.params,<-jA];exact Heap.lt_size e
 ·rw[uW L.rep F.d2]at e
  have:=pF F e;refine .inr (.inl ?_);unfold runKey;rw[this];rfl
 ·cases e:staticOf aQ.heap key with
  |some v=>
   rw[uW L.rep F.d2]at e;exact .inr (.inr (.inl (pF F e)))
  |none=>
   refine .inl ?_;rw[jA,Pin.staticOf_eq b4];exact(Heap.nsMap_none (by rw[b5];simp)).symm
 ·refine cps λG g=>?_
  obtain⟨o,n,e1,e2⟩:=lV L.rep F.d1;refine g ?_;exact⟨o,_,n,e1,e2,λe he=>gC F.sk e he⟩
 ·have h1:(boot_heap w.params).nsMap builtinsNs x=bootBuiltins x:=Heap.of_bltView b1 b2 x hx
  rw[<-Pin.builtinOf_eq b1 x]at h1;refine Eq.trans ?_ h1;have hl:bV (boot_heap w.params) builtinsNs:=by
   obtain⟨o,_,_,e,_⟩:=Heap.Ns.of_isNs b1;exact⟨o,e⟩
  obtain⟨o,e⟩:=hl;unfold builtinOf;rw[e,VX o e]
 ·obtain⟨o,e1,e2,e3,_⟩:=L.base.bmod
  refine⟨HF,o,?_,e1,e2,e3⟩;rw[jZ L.rep F.d1,Fg];exact jz F.bm
 ·rw[jZ L.rep F.d1]at e
  obtain⟨en,he,t,hk⟩:=zR e;have:=fT F.nm en he;rw[hk]at this;have this:R.anyR nmL (Fast.lEq x.cps.toList)=true:=this;rw[<-R.anyR_eq]at this;obtain⟨l,hl,q⟩:=List.any_eq_true.mp this;obtain⟨y,hy,rfl⟩:=List.mem_map.mp hl;have:x=y:=by
   have:=Fast.lEq_iff.mp q;cases x;cases y
   simpa using Array.toList_inj.mp this
  subst this;exact List.mem_append.mp hy
 ·rw[jZ L.rep F.d1,jA,Pin.globalOf_eq b3]
  exact dt (fT F.laid x hx)
end
noncomputable def topC(b:Bool)(w:World)(ps:Nat->Pos):Bool:=N9 1000 (xX (w.withFollow "special-get-raises" b).params) (w.withFollow "special-get-raises" b) ps
noncomputable def BU:Prop:=∀b w ps,topC b w ps=true
theorem BU.of(H:BU)(w:World)(ps:Nat->Pos):N9 1000 (xX w.params) w ps=true:=by
 have e:=World.withFollow_self w "special-get-raises";have:=H (w.params.followText "special-get-raises") w ps;unfold topC at this;rw[e]at this;exact this
theorem FG(H:BU)(w:World):(∃s,AfterRun (opening PP) w s)/\∀s,AfterRun (opening PP) w s->∃cU,fenceModules? PP s=some cU/\cU.gens=#[]/\∃aQ,TopRan PP w cU aQ/\aQ.asleep/\aQ.gens=#[]/\
  cU.heap=boot_heap w.params/\∃T m i acc,Left w (xX w.params) cU aQ T m i acc/\fS w T acc:=by
 have h:=boot_open (p:=PP) (N:=600) w9 (by decide) KJ w;rw[<-table_eq_tree]at h;obtain⟨cU,h1,e⟩:=Option.map_eq_some_iff.mp h;obtain⟨s,h4,h5⟩:=Option.bind_eq_some_iff.mp h1;have A:=AfterImport.of_importEnds h4;refine⟨⟨s,A⟩,λs' k9=>?_⟩;obtain rfl:s'=s:=AfterImport.unique k9 A;have z:cU.asleep:=Shared.asleep_of_life (fence_lifeW h5) A.life;obtain⟨hh,g,dd,tk,os⟩:=cU;cases e;refine cps λG g=>?_;obtain⟨aQ,SO,FF,hg,T,m,i,acc,L⟩:=Kw (w:=w) (k:=xX w.params) (H.of w) os z;refine g ?_;exact⟨_,h5,rfl,aQ,HK L (BO L.ok) rfl SO FF hg,Shared.asleep_of_life FF z,hg,rfl,T,m,i,acc,L,BO L.ok⟩
end Mine
namespace Mine
open PySem PySem.W
theorem VY:topC false (lU (topC false)).1 (lU (topC false)).2=true:=by decide+kernel
theorem VZ:topC true (lU (topC true)).1 (lU (topC true)).2=true:=by decide+kernel
theorem SP:BU:=λb=>match b with
 |false=>Fp VY
 |true=>Fp VZ
end Mine
namespace Mine
open PySem PySem.W PyProof.Rows PySem.Calls
variable {ns:List Int}{vs:List Value}{as:List Addr}{m:Nat}
noncomputable abbrev RW:OpenLaw:=PySem.Challenge.rw_pc0235_01
theorem HL:(frees RW.row.toRowW&&RW.row.within.isEmpty)=true:=by decide+kernel
theorem pG:RW.row.toRowW.promised:=⟨[.list [.int 3]],by decide+kernel,by decide+kernel⟩
noncomputable def KL:Prop:=∃N,N<=170/\∀ns:List Int,ns.length<=63->aq ao aj N 131 [.aC (ns.map V.int)] (λv Y=>v=.bool true) []
theorem SQ{b:Bool}{c:WCtx}(h:WTm.holds [] (.and (.not (.lit (.bool b))) (.lit (.bool true))) c=true):b=false:=by
 cases b
 ·rfl
 ·exact absurd h Bool.false_ne_true
theorem HM{args:List WData}(h:RW.row.toRowW.claim.pre args=true):∃ns:List Int,args=[.list (ns.map .int)]/\ns.length<=63:=by
 obtain⟨h1,h2⟩:=pre_splitW (r:=RW.row.toRowW) h;obtain⟨d,r,rfl,hd,hr⟩:=hasAllW_cons (show WShape.hasAll [] args [.list .int]=true from h1);obtain rfl:=hasAllW_nil hr;obtain⟨xs,rfl,hi⟩:=hasW_list hd;obtain⟨ns,rfl⟩:=items_int hi;refine⟨ns,rfl,?_⟩;have e:decide ((63:Int)<(ns.map WData.int).length)=false:=SQ (c:={args:=[.list (ns.map .int)]}) h2;rw[List.length_map]at e;exact Int.ofNat_le.mp (Int.not_lt.mp (of_decide_eq_false e))
section
variable {P:PV}{h:Heap}{M:Addr->Prop}{φ:fz}
theorem DR{R:WRecords}{cl:Str->Option Addr}(ns:List Int):∀{vs:List Value} {as:List Addr},ReadsAllW R cl h vs (ns.map .int) as->aM P h M φ (ns.map V.int) vs:=by
 induction ns with
 |nil=>exact λr=>(readsAllW_nil_inv r).1
 |cons n ns ih=>
  intro _ _ r;obtain⟨v,vs,_,_,e,_,a,b⟩:=readsAllW_cons_inv r;obtain⟨t,e',_⟩:=readsW_int_inv a;exact⟨v,vs,e,⟨t,e'⟩,ih b⟩
theorem zS{R:WRecords}{cl:Str->Option Addr}(hM:∀a,¬ M a)(r:ReadsAllW R cl h vs [.list (ns.map .int)] as):aM P h M φ [.aC (ns.map V.int)] vs:=by
 obtain⟨v,vs,_,_,e,_,a,b⟩:=readsAllW_cons_inv r;obtain⟨c,ws,_,e',l,q,_⟩:=readsW_list_inv a;exact⟨v,vs,e,⟨c,ws,e',hM _,l,DR ns q⟩,(readsAllW_nil_inv b).1⟩
end
theorem FH:Str.ofString "law"=RW.row.name:=by rfl
theorem zT:rX[131]?=some ("law",V.fn 131):=by rfl
set_option tactic.hygienic true in
theorem KN{w:World}{k:OT->Nat->Nat->List e7->Bool}{cU s aQ:Shared}{T:OT}{i:Nat}{acc:List e7}(L:Left w k cU s T m i acc)(F:fS w T acc)(jA:cU.heap=boot_heap w.params)(YO:KL)
  (hk:∀b o,s.heap.get? b=some o->aQ.heap.get? b=some o)(hn:ns.length<=63){R:WRecords}{cl:Str->Option Addr}(rd:ReadsAllW R cl aQ.heap vs [.list (ns.map .int)] as){E:Value->Shared->Prop}{Q:Value->Shared->Prop}
  (hQ:∀h' tk,(∀b o,aQ.heap.get? b=some o->h'.get? b=some o)->Q (.bool true) {aQ with heap:=h',toks:=tk}):
  ∃f,aQ.heap.Ns mainGlobals (nsFind ⟨fk T mainGlobals⟩)/\nsFind ⟨fk T mainGlobals⟩ RW.row.name=some f/\wpAny (model PP w) callerA (PySem.call f vs) Q E aQ:=by
 have X:=BR L F jA;obtain⟨N,hN,YQ⟩:=YO;have C:=J4 X N;obtain⟨f,hf,rf⟩:=X.good.gl 131 (Str.ofString "law") (V.fn 131) (by show(rX.map λp=>Str.ofString p.1)[131]?=_;rw[List.getElem?_map,zT];rfl) (by show(rX.map (·.2))[131]?=_;rw[List.getElem?_map,zT];rfl);refine⟨f,(X.good.g).keeps hk,by rw[<-FH];exact hf,?_⟩;have rf:f=.ref ((uS w s.heap T acc).fa 131):=rf;subst rf;have inv:Inv (uS w s.heap T acc) [] [] (λY=>False) aQ:=by
  refine⟨?_,rfl,λn o c e=>by simp at e,by simp,λa q=>q.elim,λa q=>q.elim,λa q=>by simp at q,hk⟩;have:=F.sys;unfold BI at this
  split at this
  ·rename_i o e;exact⟨o,L.rep.at_ _ _ e⟩
  ·cases this
 refine wpAny_call (C.run (YQ ns hn) ⟨rfl,?_,?_⟩ inv (zS (λY q=>q) rd) λv w' Z' bF M' s' hv i' t' r'=>?_)
 ·show 1+claimMargin+4*N+1<=recursionLimit
  have:claimMargin=300:=rfl;have:recursionLimit=1000:=rfl;lia
 ·show 4+12*N+52<cLine
  unfold cLine;lia
 ·subst hv
  have e:w'=.bool true:=r';subst e;obtain⟨h',tk,rfl⟩:=t'.same;exact hQ h' tk λb o e=>t'.keep b o e λq=>q.1
noncomputable def KO(st:Stmt):Bool:=match st with
 |.FunctionDef n .. =>n==RW.row.name
 |_=>false
noncomputable def Qt(o:Option Stmt):Bool:=(o.bind lT).elim false λd=>decide (d.name=RW.row.name)&&gT d.params
theorem Oh:Qt cu.getLast?=true:=by decide+kernel
theorem Oi:(cu.dropLast.all λst=> !KO st)=true:=by decide+kernel
theorem BV:(cu.dropLast.filterMap uO).length=131:=by decide+kernel
theorem KP:PP.main.body=cu:=by rfl
theorem xY{α:Type}{l:List α}{x:α}(h:l.getLast?=some x):l.dropLast++[x]=l:=by
 obtain⟨ys,rfl⟩:=List.getLast?_eq_some_iff.mp h;exact congrArg (· ++[x]) (List.dropLast_concat)
theorem BW{l:List Stmt}{x:Stmt}{p:Stmt->Bool}(hl:l.getLast?=some x)(h:(l.dropLast.all λst=> !p st)=true)(hx:p x=true):l.filter p=[x]:=by
 have q:l.dropLast.filter p=[]:=List.filter_eq_nil_iff.mpr λa ha z=>dJ ((congrArg not z).symm.trans (List.all_eq_true.mp h a ha));rw[<-xY hl,List.filter_append,q,List.filter_cons_of_pos hx];rfl
noncomputable def Oj(l:List Stmt):Option (PySem.Arguments×List Stmt×Scope):=match l with
 |[.FunctionDef aR args body [] dm [] scope p8 JW VC]=>some (args,body,scope)
 |_=>none
theorem Ol:∃r,(cu.filterMap uO)[131]?=some r/\r.name=RW.row.name/\gT r.params=true/\PP.theDef RW.row.name=some (r.params,r.body,r.scope):=by
 have h:=Oh;unfold Qt at h;cases ho:cu.getLast? with
 |none=>rw[ho]at h;exact dJ h
 |some x=>
  rw[ho]at h;cases hd:lT x with
  |none=>rw[Option.bind_some,hd]at h;exact dJ h
  |some d=>
   rw[Option.bind_some,hd]at h;have h:=an h;have e:=dt h.1;refine⟨⟨d.name,d.params,d.body,d.scope⟩,?_,e,h.2,?_⟩
   ·rw[<-xY ho,List.filterMap_append,List.getElem?_append_right (Nat.le_of_eq BV),BV]
    have q:uO x=some ⟨d.name,d.params,d.body,d.scope⟩:=congrArg (Option.map _) hd;rw[List.filterMap_cons_some q];rfl
   ·have hx:KO x=true:=by rw[uM hd];exact decide_eq_true e
    show Oj (PP.main.body.filter KO)=_;rw[KP,BW ho Oi hx,uM hd];rfl
theorem Om{h:Heap}{T:OT}(D:dX h T m){a:Nat}(d:gw T a=true)(sk:fj (fk T a)=true):h.isNs a=true:=by
 obtain⟨o,n,e1,e2⟩:=lV D d;unfold Heap.isNs;rw[e1];dsimp only;rw[e2];dsimp only;rw[Array.all_eq_true'];intro e he;obtain⟨x,t,hk⟩:=gC sk e he;rw[hk]
theorem KQ(xs ys:List WData):RW.row.toRowW.claim.post xs (.bool true) ys=true:=by
 show(WShape.has [] (.bool true) .bool&&WTm.holds [] (.eq .res (.lit (.bool true))) {args:=xs,res:=some (.bool true),after:=ys})=true;have e1:WShape.has [] (.bool true) .bool=true:=by decide+kernel
 have e2:same (.bool true) (.bool true)=true:=by decide+kernel
 rw[e1];simp only[WTm.holds,WTm.value,Bool.true_and,e2]
theorem HN(H:BU)(YO:KL)(Oo:RW.row.wellSaid=true)(hb:RW.row.prog.bare)(ho:opensWell RW.row.prog=true):RW.row.Holds:=by
 obtain⟨k5,k6⟩:=an HL;obtain⟨V0,hu,ha,hap,hm⟩:=frees_parts k5;have hi:=ident_freeW hu ha hap;have hwi:RW.row.toRowW.claim.within=[]:=List.isEmpty_iff.mp k6;refine⟨Oo,pG,⟨hb,ho,rfl⟩,pG.witness,λw=>⟨(FG H w).1,λs' k9=>?_⟩⟩;obtain⟨cU,hf,hg0,s,hT,hz,Qu,jA,T,m,i,acc,L,F⟩:=(FG H w).2 s' k9;refine⟨cU,hf,hg0,s,hT,λn hn=>?_,λx hx=>(nomatch hx),λx hx=>(nomatch hx),?_⟩
 ·have hn:n=RW.row.name:=by
   have:n∈[RW.row.name]:=hn
   simpa using this
  subst hn;obtain⟨r,hr,en,hp,hd⟩:=Ol;obtain⟨a,c,h1,h2⟩:=Qs L.acc hr;obtain⟨⟨t1,pm,ho⟩,t2,cr⟩:=L.facts _ h2;obtain⟨as,pa,pe⟩:=gU hp;have X:=BR L F jA;obtain⟨f,hf',rf⟩:=X.good.gl 131 (Str.ofString "law") (V.fn 131) (by show(rX.map λp=>Str.ofString p.1)[131]?=_;rw[List.getElem?_map,zT];rfl) (by show(rX.map (·.2))[131]?=_;rw[List.getElem?_map,zT];rfl);have rf:f=.ref ((uS w s.heap T acc).fa 131):=rf;have fa:(uS w s.heap T acc).fa 131=a:=by
   show IU T (IT acc) 131=a;unfold IU;rw[h1]
  rw[fa]at rf;subst rf;refine⟨a,_,plainDef r.name r.params r.body r.scope pm (.ref c),r.params,r.body,r.scope,?_,ho,rfl,hd,en,en,rfl,rfl,rfl,rfl,rfl,rfl,.inl ⟨?_,rfl⟩,[],?_,.inl ⟨rfl,rfl⟩⟩
  ·rw[jZ L.rep F.d1,uN,<-FH];exact hf'
  ·rw[pa]
  ·rw[pa];rfl
 refine ClaimW.callFrom_of_specG (c:=RW.row.toRowW.claim) (tree:=λvs=>do match<-nsGet mainNs RW.row.name with
   |some f=>do ret (<-PySem.call f vs)
   |none=>unsupported "claim.caller:no-such-global") hz Qu λargs V1 YR ord V3=>?_
 obtain⟨⟨vs,aQ⟩,BY⟩:=Option.isSome_iff_exists.mp (layAllW_isSome (R:=RW.row.toRowW.claim.records) (cl:=classAt s.heap) (P:=w.params) (ord:=ord) (λc hc=>(nomatch hc)) args RW.row.args s (pre_splitW V1).1);have keeps:=layAllW_keeps _ _ _ BY;have Xm:=layAllW_rest _ _ _ BY;obtain⟨as,hrd,XS,hold⟩:=reads_layAllW V3 _ _ _ BY YR aQ.heap (λY Y e=>e);have LL:Laid RW.row.toRowW.claim.records w s aQ args vs as:=⟨⟨ord,V3,BY⟩,hrd,XS,hold,keeps,Xm.1.trans Qu,Xm.2.2.1⟩;obtain⟨ns,rfl,hn⟩:=HM V1;refine⟨vs,aQ,BY,?_⟩;obtain⟨f,Yx,hfn,V4⟩:=KN (E:=λe s'=>False) (Q:=λv s'=>v=.bool true/\GoodWG RW.row.toRowW.claim (classAt s.heap) (ExcName.means s.heap) [.list (ns.map .int)] aQ (.ok (.ret (.bool true))) s')
  L F jA YO keeps hn hrd λh' tk hk=>⟨rfl,.inl ⟨_,.bool true,[],rfl,λcls=>rfl,.bool true,KQ _ _,λY=>⟨.nil,λY ha=>nomatch ha⟩⟩,.of_keep hk,rfl,.of_eq LL.gens⟩
 refine wb (wpAny_nsGet Yx ?_);rw[hfn];refine wb (wpAny_mono V4 (λv s' g=>wq ⟨_,rfl,?_⟩) λY Y z=>z.elim);obtain⟨rfl,g⟩:=g;have z:=GoodWG.laid (c:=RW.row.toRowW.claim) V0 hwi hi LL g;exact⟨z.1,z.2.1,z.2.2,λq=>⟨namesKept_of hT (Om L.rep F.d1 F.sk) _ keeps g.2.1.old,λx hx=>(nomatch hx)⟩⟩
end Mine
open PySem PySem.W PyProof.Rows
theorem Mine.Oo:PySem.Challenge.rw_pc0235_01.wellSaid=true:=by
 unfold OpenLaw.wellSaid OpenRow.wellSaid OpenRow.partSaid looksOpen
 repeat' (with_reducible refine look_both ?_ ?_)
 all_goals (try unfold OpenLaw.reads)
 all_goals (try simp only[PySem.W.Fast.te8326940854005059898,PySem.W.Fast.te17119622794617984870,PySem.W.Fast.te8179353310426384613,PySem.W.Fast.te9558739934217749035,PySem.W.Fast.te16286561074155671207,PySem.W.Fast.te10501279942588096481,PySem.W.Fast.te13343964577679436407,PySem.W.Fast.te8377067652309620493,PySem.W.Fast.te11788848310118352699,PySem.W.Fast.named_eq])
 all_goals (decide+kernel)
namespace Mine
open PySem PySem.W PyProof.Rows
theorem Oq:PySem.Challenge.rw_pc0235_01.row.prog.bare:=⟨rfl,rfl,rfl,rfl,rfl,by decide+kernel⟩
theorem KR:opensWell PySem.Challenge.rw_pc0235_01.row.prog=true:=by decide+kernel
end Mine
namespace Mine
open PySem
variable {α:Type}{C A B:Prop}{Z Z' bA cD Z2:H}{g n F W W' j N F' Wt m1 m2 m3 W1 at':Nat}{kvs:List (String×V)}{r b rest:List S}{xs as:List X}{δ hh m:Int}{p:V->Prop}{js ts is:List Nat}{d e a it elt:X}{vs ks ρ' ρ ps ra rs ys:List V}{y z u x6 x8 x9 pH ng lq:V}{o:Ax}{single:Bool}{cf:CF}{Q:V->H->Prop}{f:V->V}{nm hd:String}{T:Nat->Prop}{pI:List Int}
local macro_rules |`(tactic|lia)=>return UD
structure f5 where
 h:Int
 s:Int
 b:Int
noncomputable def f5.up(d:f5)(k:Int):f5:=⟨d.h+k,d.s,d.b⟩
noncomputable def f5.nn(d:f5):Prop:=0<=d.h/\0<=d.s/\0<=d.b
structure bN where
 word:String
 args:List Int->List V
 t:Int
 l:Int
 nj:Nat
 go:Bool
 kp:Int
 ds:Int
 db:Int
 ab:Option (Int×Int)
noncomputable def bN.dep(K:bN)(s b:Int):Int×Int:=match K.ab with
 |some p=>p
 |none=>(s+K.ds,b+K.db)
noncomputable def bN.row(K:bN)(js:List Int):V:=.af (.str K.word::K.args js)
noncomputable def bN.hl(K:bN)(js:List Int):List V:=(if K.go then [.af [.int (-1),.int (K.l-K.t)]] else [])++js.map λp=>.af [.int p,.int (K.l-K.t+K.kp)]
noncomputable def bN.nd(K:bN)(d:f5):f5:=⟨d.h+(K.l-K.t),(K.dep d.s d.b).1,(K.dep d.s d.b).2⟩
noncomputable def bN.jd(K:bN)(d:f5):f5:=⟨d.h+(K.l-K.t+K.kp),(K.dep d.s d.b).1,(K.dep d.s d.b).2⟩
structure aF (K:bN):Prop where
 V5:∀js,js.length=K.nj->∀n,5<=n->∀Q Z,Q (.af [.int K.t,.int K.l]) Z->aq ao aj n 2 [K.row js] Q Z
 jm:∀js,js.length=K.nj->∀n,5<=n->∀Q Z,Q (.aC (js.map V.int)) Z->aq ao aj n 11 [K.row js] Q Z
 wj:∀js ps,js.length=K.nj->ps.length=K.nj->∀n,5<=n->∀Q Z,(∀c,Q (K.row ps) (Z++[c]))->aq ao aj n 4 [K.row js,.aC (ps.map V.int)] Q Z
 Xn:∀js,js.length=K.nj->∀n,5<=n->∀Q Z,Q (.af [.int K.t,.int K.l]) Z->aq ao aj n 127 [K.row js] Q Z
 YS:∀js,js.length=K.nj->∀n,5<=n->∀s b Q Z,Q (.af [.int (K.dep s b).1,.int (K.dep s b).2]) Z->aq ao aj n 128 [K.row js,.int s,.int b] Q Z
 Xo:∀js,js.length=K.nj->∀n,6<=n->∀Q Z,(∀c,Q (.aC (K.hl js)) (Z++[c]))->aq ao aj n 6 [K.row js] Q Z
 rr:∀js,js.length=K.nj->∀(size:Int),(∀p∈js,0<=p/\p<size)->∀n,7<=n->∀Q Z,(∀c,Q (.bool true) (Z++[c]))->aq ao aj n 129 [K.row js,.int size] Q Z
 Ot:K.word="return0"->K.t=0
 KU:K.word="return1"\/K.word="return2"->K.t=1
 V6:K.nj<=3
theorem e1(n:Nat)(h:autoParam (1<=n) bu):∃m,n=m+1:=⟨n-1,(Nat.sub_add_cancel h).symm⟩
theorem e2(n:Nat)(h:autoParam (2<=n) bu):∃m,n=m+2:=⟨n-2,(Nat.sub_add_cancel h).symm⟩
theorem YT{a:α}(h:none=some a):C:=nomatch h
theorem lW{c:String}{n:String}{v:V}{P:V->Prop}(h:Z[g]?=some (.inst c kvs))(e:sY kvs n=some v)(p:P v):aT (dQ Z (.ref g) n) P:=by
 have:dQ Z (.ref g) n=some v:=(eK h).trans e;rw[this];exact p
theorem qA{r:Nat}{xs:List V}{P:Prop}(h:Z[r]?=some (.list xs))(hl:xs.length<lim)(p:P):if kK Z (.ref r)=true then P else False:=by
 have:kK Z (.ref r)=true:=(Gw h).trans (decide_eq_true hl);rw[if_pos this];exact p
theorem BZ{r:Nat}{xs:List V}{v:V}{P:H->Prop}(h:Z[r]?=some (.list xs))(hl:xs.length<lim)(p:P (Z.set r (.list (xs++[v])))):aT (tu Z v (.ref r)) P:=by
 have:tu Z v (.ref r)=some (Z.set r (.list (xs++[v]))):=Gy h hl;rw[this];exact p
theorem xZ{c:String}{n:String}{v:V}{P:H->Prop}(h:Z[g]?=some (.inst c kvs))(hl:kvs.length<900)(p:P (Z.set g (.inst c (dS kvs n v)))):aT (ie Z (.ref g) n v) P:=by
 have:ie Z (.ref g) n v=some (Z.set g (.inst c (dS kvs n v))):=Gz h hl;rw[this];exact p
theorem V7{r:Nat}{xs:List V}{k:Int}{v:V}{P:H->Prop}(h:Z[r]?=some (.list xs))(h0:0<=k)(h1:k<xs.length)(hl:xs.length<lim)(p:P (Z.set r (.list (xs.set k.toNat v)))):aT (tw Z (.ref r) (.int k) v) P:=by
 have:tw Z (.ref r) (.int k) v=some (Z.set r (.list (xs.set k.toNat v))):=GA h ⟨h0,h1,hl⟩;rw[this];exact p
theorem FI{r:Nat}{xs:List V}{P:V->Prop}(h:Z[r]?=some (.list xs))(hl:xs.length<lim)(p:P (.int xs.length)):aT (ou (cH Z (.ref r))) P:=by
 have:cH Z (.ref r)=.aC xs:=jn h;rw[this];have:ou (.aC xs)=some (.int xs.length):=if_pos hl;rw[this];exact p
structure dB where
 label:String
 m1:Nat
 m2:Nat
 m3:Nat
 d:f5
noncomputable def dB.v(l:dB):V:=.obj "OpenLoop" [("label",.str l.label),("marks",.cM [(.str "next",.int l.m1),(.str "last",.int l.m2),(.str "redo",.int l.m3)]),("height",.int l.d.h),("scopes",.int l.d.s),("starts",.int l.d.b)]
structure GS where
 rows:List (bN×List Nat)
 marks:List Int
 D:Nat->f5
 E:Nat->f5
 re:f5
 loops:List dB
 subs:List V
variable {S0:GS}
noncomputable def GS.len(S:GS):Nat:=S.rows.length+S.marks.length+S.loops.length+S.subs.length
noncomputable def GS.cur(S:GS):f5:=S.D S.rows.length
structure GP where
 is:Bool
 ls:Bool
 d:Nat
 kn:List (Nat×f5)
variable {P P':GP}
noncomputable def k7(r:bN×List Nat):V:=r.1.row (r.2.map λ(m:Nat)=>(m:Int))
noncomputable def SR(S:GS)(l:dB):Prop:=l.m1<S.marks.length/\l.m2<S.marks.length/\l.m3<S.marks.length/\S.E l.m1=l.d/\S.E l.m2=l.d/\S.E l.m3=l.d/\l.d.nn
noncomputable def KV(S:GS)(i:Nat)(r:bN×List Nat):Prop:=aF r.1/\r.2.length=r.1.nj/\(S.D i).nn/\r.1.t<=(S.D i).h/\(∀m∈r.2,m<S.marks.length/\S.E m=r.1.jd (S.D i))/\(r.1.go=true->S.D (i+1)=r.1.nd (S.D i))
noncomputable def placed(S:GS)(m:Nat):Prop:=∃q:Nat,S.marks[m]?=some (q:Int)/\q<=S.rows.length/\S.D q=S.E m
structure Cert (rows:List (bN×List Int)) (D:Nat->f5):Prop where
 row:∀i K js,rows[i]?=some (K,js)->aF K/\js.length=K.nj/\(D i).nn/\K.t<=(D i).h/\(∀p:Int,p∈js->∃q:Nat,p=(q:Int)/\q<rows.length/\D q=K.jd (D i))/\(K.go=true->i+1<rows.length/\D (i+1)=K.nd (D i))
 start:D 0=⟨0,0,0⟩
 last:∃K,rows.getLast?=some (K,[])/\(K.word="return0"/\D (rows.length-1)=⟨0,0,0⟩\/(K.word="return1"\/K.word="return2")/\D (rows.length-1)=⟨1,0,0⟩)
noncomputable def gk:Nat->V->Prop
 |0,aR=>False
 |d+1,v=>∃(rows:List (bN×List Int)) (D:Nat->f5) (nm pd cp:V) (subs:List V),v=.obj "OpsCode" [("rows",.aC (rows.map λr=>r.1.row r.2)),("name",nm),("pad_size",pd),("captures",cp),("subs",.aC subs)]/\
   rows.length<3900000/\subs.length<lim/\Cert rows D/\∀s∈subs,gk d s
theorem gk.mono:∀{d d':Nat} {v:V},d<=d'->gk d v->gk d' v
 |0,aR,dm,p8,h=>h.elim
 |d+1,0,aR,l,dm=>by lia
 |d+1,d'+1,v,l,h=>by
  obtain⟨rows,D,nm,pd,cp,subs,e,h1,h2,c,q⟩:=h;exact⟨rows,D,nm,pd,cp,subs,e,h1,h2,c,λs hs=>gk.mono (by lia) (q s hs)⟩
structure WF (P:GP) (S:GS):Prop where
 mark:∀m p,S.marks[m]?=some p->p= -1\/placed S m
 row:∀i r,S.rows[i]?=some r->KV S i r
 loop:∀l∈S.loops,SR S l
 sub:∀v∈S.subs,gk P.d v
 kn:∀x∈P.kn,x.1<S.marks.length/\S.E x.1=x.2
 d0:S.D 0=⟨0,0,0⟩
noncomputable def dM:List (String×Nat):=[("undef",22),("num",21),("str",21),("interp",26),("stringify",27),("pads",23),("mys",23),("globs",24),("wantarray",25),("bin",28),("un",29),("and",31),("or",31),("dor",31),("xor",30),("cond",32),("list",33),("range",34),("repeat",35),("lslice",36),("pada",91),("globa",91),("mya",91),("rv2a",93),("padh",92),("globh",92),("myh",92),("rv2h",94),("rv2s",95),("lastidx",96),("elem",97),("helem",97),("aslice",98),("hslice",98),("refgen",101),("anona",102),("anonh",102),("assign",70),("opassign",71),("aassign",74),("local",77),("preinc",72),("predec",72),("postinc",72),("postdec",72),("call",80),("method",81),("anonsub",82),("return",83),("evalblock",85),("evalstr",86),("doblock",50),("next",113),("last",113),("redo",113)]
noncomputable def gV:List (String×Nat):=[("pads",57),("pada",57),("padh",57),("mys",58),("mya",58),("myh",58),("globs",59),("globa",59),("globh",59),("rv2s",61),("rv2a",61),("rv2h",61),("elem",62),("helem",62),("cond",63),("assign",64),("func",68),("opassign",65),("preinc",66),("predec",66),("local",67)]
noncomputable def lX:List (String×Nat):=[("expr",45),("if",46),("package",47),("nop",48),("sub",49),("while",107),("dowhile",108),("cfor",109),("foreach",110),("bare",111)]
noncomputable def kvsOf(l:List (String×Nat)):List (V×V):=l.map λp=>(.str p.1,.fn p.2)
noncomputable def gD:V:=.cM [(.str "nodes",.cM (kvsOf dM)),(.str "lvs",.cM (kvsOf gV)),(.str "statements",.cM (kvsOf lX))]
noncomputable def gI(tab:V)(g:Nat)(P:GP)(re:f5):List (String×V):=[("tables",tab),("is_sub",.bool P.is),("lays_subs",.bool P.ls),("rows",.ref (g+1)),("marks",.ref (g+2)),("height",.int re.h),("scopes",.int re.s),("starts",.int re.b),
 ("loops",.ref (g+3)),("subs",.ref (g+4))]
structure GI (Z:H) (g:Nat) (P:GP) (S:GS):Prop where
 inst:Z[g]?=some (.inst "Gen" (gI gD g P S.re))
 rows:Z[g+1]?=some (.list (S.rows.map k7))
 marks:Z[g+2]?=some (.list (S.marks.map V.int))
 loops:Z[g+3]?=some (.list (S.loops.map dB.v))
 subs:Z[g+4]?=some (.list S.subs)
 wf:WF P S
structure Off where
 x:Int
 y:Int
 z:Int
variable {U' U:List (Nat×Off)}{o':Off}
noncomputable def f5.at(d:f5)(o:Off):f5:=⟨d.h+o.x,d.s+o.y,d.b+o.z⟩
structure n6 (g:Nat) (P:GP) (F Wt:Nat) (bA:H) (S0:GS) (Z:H) (S:GS) (U:List (Nat×Off)) (Lp:List dB) (W:Nat):Prop where
 DT:S0.re.nn
 Ou:∀l∈S0.loops,l.d.h<=S0.re.h
 hh:S0.re.h+4*F<=700
 fd:F<=P.d
 bd:S0.len+Wt<16000000
 gi:GI Z g P S
 fl:bA.length<=Z.length
 fr:∀i,i<bA.length->(i<g\/g+5<=i)->Z[i]?=bA[i]?
 len:S.len<=S0.len+W
 loops:S.loops=S0.loops++Lp
 ml:S0.marks.length<=S.marks.length
 old:∀m,m<S0.marks.length->S.marks[m]?=S0.marks[m]? /\S.E m=S0.E m
 new:∀m,S0.marks.length<=m->m<S.marks.length->(∃e,(m,e)∈U)\/placed S m
 un:∀m e,(m,e)∈U->S0.marks.length<=m/\m<S.marks.length/\S.marks[m]?=some (-1)/\S.E m=S0.re.at e
 ud:(U.map (·.1)).Nodup
noncomputable def Run(g:Nat)(P:GP)(F Wt:Nat)(bA:H)(S0:GS)(Z:H)(U:List (Nat×Off))(Lp:List dB)(W:Nat)(o r:Off):Prop:=∃S,n6 g P F Wt bA S0 Z S U Lp W/\S.cur=S0.re.at o/\S.re=S0.re.at r
noncomputable def aO(n fn:Nat)(as:List V)(F W:Nat)(δ:Int):Prop:=∀(g:Nat) (P:GP) (Z:H) (S:GS) (Q:V->H->Prop),GI Z g P S->S.cur=S.re->S.re.nn->(∀l∈S.loops,l.d.h<=S.re.h)->S.re.h+4*F<=700->F<=P.d->S.len+W<16000000->
 (∀Z',Run g P F W Z S Z' [] [] W ⟨δ,0,0⟩ ⟨δ,0,0⟩->Q .none Z')->aq ao aj n fn (.ref g::as) Q Z
theorem GI.lt{S:GS}(h:GI Z g P S):g+5<=Z.length:=by
 have:=(List.getElem?_eq_some_iff.mp h.subs).1;lia
theorem FJ(d:f5):d.at ⟨0,0,0⟩=d:=by simp[f5.at]
theorem aO.intro{fn:Nat}{as:List V}(h:∀(g:Nat) (P:GP) (Z:H) (S:GS) (Q:V->H->Prop),Run g P F W Z S Z [] [] 0 ⟨0,0,0⟩ ⟨0,0,0⟩->(∀Z',Run g P F W Z S Z' [] [] W ⟨δ,0,0⟩ ⟨δ,0,0⟩->Q .none Z')->aq ao aj n fn (.ref g::as) Q Z):aO n fn as F W δ:=
 λg P Z S Q gi c0 DT Ou hh fd bd k=>h g P Z S Q ⟨S,⟨DT,Ou,hh,fd,bd,gi,Nat.le_refl _,λY Y Y=>rfl,by lia,(List.append_nil _).symm,Nat.le_refl _,λY Y=>⟨rfl,rfl⟩,λm a b=>by lia,(λm e q=>by cases q),List.nodup_nil⟩,by rw[FJ];exact c0,by rw[FJ]⟩ k
section
variable {g:Nat}{P:GP}{F Wt:Nat}{bA:H}{S0:GS}{Z:H}{U:List (Nat×Off)}{Lp:List dB}{W:Nat}{o r:Off}{n:Nat}{Q:V->H->Prop}
theorem Run.w(R:Run g P F Wt bA S0 Z U Lp W o r)(h:autoParam (W<=W') bu):Run g P F Wt bA S0 Z U Lp W' o r:=by
 obtain⟨S,R,a,b⟩:=R;exact⟨S,⟨R.DT,R.Ou,R.hh,R.fd,R.bd,R.gi,R.fl,R.fr,by have:=R.len;lia,R.loops,R.ml,R.old,R.new,R.un,R.ud⟩,a,b⟩
theorem Run.aZ(R:Run g P F Wt bA S0 Z U Lp W o r)(k:p (.int (S0.re.h+r.x))):aT (dQ Z (.ref g) "height") p:=by
 obtain⟨S,R,a,b⟩:=R;exact lW R.gi.inst (v:=.int S.re.h) rfl (by rw[b];exact k)
end
theorem cF{l:List α}{i:Nat}{x:α}(h:i≠j):(l.set i x)[j]?=l[j]? :=by
 rw[List.getElem?_set];rw[if_neg h]
theorem bW{l:List α}{i:Nat}{x y:α}(h:l[i]?=some y):(l.set i x)[i]?=some x:=by
 rw[List.getElem?_set_self (List.getElem?_eq_some_iff.mp h).1]
section
variable {g:Nat}{P:GP}{F Wt:Nat}{bA:H}{S0:GS}{Z:H}{U:List (Nat×Off)}{Lp:List dB}{W:Nat}{o r:Off}{n:Nat}{Q:V->H->Prop}{S:GS}
theorem n6.next(R:n6 g P F Wt bA S0 Z S U Lp W){S':GS}{Lp':List dB}(gi:GI Z' g P S')(fl:Z.length<=Z'.length)(fr:∀i,i<Z.length->(i<g\/g+5<=i)->Z'[i]?=Z[i]?)
  (len:S'.len<=S0.len+W')(loops:S'.loops=S0.loops++Lp')(ml:S.marks.length<=S'.marks.length)(old:∀m,m<S0.marks.length->S'.marks[m]?=S.marks[m]? /\S'.E m=S.E m)
  (new:∀m,S0.marks.length<=m->m<S'.marks.length->(∃e,(m,e)∈U')\/placed S' m)(un:∀m e,(m,e)∈U'->S0.marks.length<=m/\m<S'.marks.length/\S'.marks[m]?=some (-1)/\S'.E m=S0.re.at e)(ud:(U'.map (·.1)).Nodup):n6 g P F Wt bA S0 Z' S' U' Lp' W':=
 ⟨R.DT,R.Ou,R.hh,R.fd,R.bd,gi,Nat.le_trans R.fl fl,λi a b=>(fr i (Nat.lt_of_lt_of_le a R.fl) b).trans (R.fr i a b),len,loops,Nat.le_trans R.ml ml,λm hm=>⟨(old m hm).1.trans (R.old m hm).1,(old m hm).2.trans (R.old m hm).2⟩,new,un,ud⟩
theorem DU{S:GS}(h:S.len<N):S.rows.length<N/\S.marks.length<N/\S.subs.length<N/\S.loops.length<N:=
 ⟨Nat.lt_of_le_of_lt (Nat.le_trans (Nat.le_add_right _ _) (Nat.le_trans (Nat.le_add_right _ _) (Nat.le_add_right _ _))) h,Nat.lt_of_le_of_lt (Nat.le_trans (Nat.le_add_left _ _) (Nat.le_trans (Nat.le_add_right _ _) (Nat.le_add_right _ _))) h,Nat.lt_of_le_of_lt (Nat.le_add_left _ _) h,Nat.lt_of_le_of_lt (Nat.le_trans (Nat.le_add_left _ _) (Nat.le_add_right _ _)) h⟩
theorem n6.small(R:n6 g P F Wt bA S0 Z S U Lp W)(hw:W+1<=Wt):S.rows.length<lim/\S.marks.length<lim/\S.subs.length<lim/\S.loops.length<lim/\S.len+1<16000000:=by
 have hl:S.len+1<16000000:=Nat.lt_of_le_of_lt (Nat.le_trans (Nat.succ_le_succ R.len) (Nat.add_le_add_left hw _)) R.bd;exact(DU (Nat.lt_of_succ_lt hl)).imp id λq=>q.imp id λq=>⟨q.1,q.2,hl⟩
theorem pJ(R:n6 g P F Wt bA S0 Z S U Lp W){K:bN}(hK:aF K)(hj:js.length=K.nj)(hn:S.cur.nn)(ht:K.t<=S.cur.h)(hm:∀m∈js,m<S.marks.length/\S.E m=K.jd S.cur)(c:f5)(hc:K.go=true->c=K.nd S.cur)(hw:W+1<=Wt)(h6:6<=n)
  (k:∀Z',n6 g P F Wt bA S0 Z' {S with rows:=S.rows++[(K,js)],D:=λi=>if i=S.rows.length+1 then c else S.D i,re:=⟨S.re.h+(K.l-K.t),S.re.s,S.re.b⟩} U Lp (W+1)->Q .none Z'):
  aq ao aj n 7 [.ref g,k7 (K,js)] Q Z:=by
 obtain⟨m,rfl⟩:∃m,n=m+1:=⟨n-1,(Nat.sub_add_cancel (Nat.le_trans (by decide) h6)).symm⟩;obtain⟨l1,l2,l3,l4,l5⟩:=R.small hw;have gi:=R.gi;have Ov:=gi.lt;refine hK.V5 (js.map λ(m:Nat)=>(m:Int)) (by simp[hj]) m (by lia) _ _ ?_;have hl:(S.rows.map k7).length<lim:=by rw[List.length_map];exact l1
 refine lW gi.inst (v:=.ref (g+1)) rfl ?_;refine qA gi.rows hl ?_;refine BZ gi.rows hl ?_;have i1:(Z.set (g+1) (.list (S.rows.map k7++[k7 (K,js)])))[g]?=some (.inst "Gen" (gI gD g P S.re)):=by rw[cF (by lia)];exact gi.inst
 refine lW i1 (v:=.int S.re.h) rfl ?_;refine xZ i1 (by show 10<900;lia) ?_;refine k _ ?_;have e1:∀{x y:MO} {i:Nat},i≠g->i≠g+1->((Z.set (g+1) x).set g y)[i]?=Z[i]? :=λh1 h2=>by rw[cF (λq=>h1 q.symm),cF (λq=>h2 q.symm)]
 have wf:=gi.wf;have pl:∀m,placed S m->placed {S with rows:=S.rows++[(K,js)],D:=λi=>if i=S.rows.length+1 then c else S.D i,re:=⟨S.re.h+(K.l-K.t),S.re.s,S.re.b⟩} m:=λm hp=>by
  refine cps λG g=>?_;obtain⟨q,a,b,d⟩:=hp;refine g ?_;refine⟨q,a,by simp;lia,?_⟩;show(if q=S.rows.length+1 then c else S.D q)=S.E m;rw[if_neg (by lia)];exact d
 refine R.next ⟨?_,?_,?_,?_,?_,⟨?_,?_,?_,wf.sub,wf.kn,(if_neg (λz:(0:Nat)=S.rows.length+1=>by lia):(if (0:Nat)=S.rows.length+1 then c else S.D 0)=S.D 0).trans wf.d0⟩⟩ (by simp) ?_ ?_ R.loops (Nat.le_refl _) (λY Y=>⟨rfl,rfl⟩) (λm a b=>(R.new m a b).imp id (pl m)) R.un R.ud
 ·exact bW (by rw[cF (by lia)];exact gi.inst)
 ·rw[cF (by lia),bW gi.rows]
  simp;rfl
 ·rw[e1 (by lia) (by lia)];exact gi.marks
 ·rw[e1 (by lia) (by lia)];exact gi.loops
 ·rw[e1 (by lia) (by lia)];exact gi.subs
 ·exact λm p hp=>(wf.mark m p hp).imp id (pl m)
 ·intro i rr hi
  have hd:∀i,i<=S.rows.length->(if i=S.rows.length+1 then c else S.D i)=S.D i:=λi h=>if_neg (by lia);rcases Nat.lt_or_ge i S.rows.length with q|q
  ·have hi:S.rows[i]?=some rr:=by
    have:(S.rows++[(K,js)])[i]?=some rr:=hi
    rwa [List.getElem?_append_left q]at this
   obtain⟨a1,a2,a3,a4,a5,a6⟩:=wf.row i rr hi;unfold KV;dsimp only;rw[hd i (by lia),hd (i+1) (by lia)];exact⟨a1,a2,a3,a4,a5,a6⟩
  ·have hi:(S.rows++[(K,js)])[i]?=some rr:=hi
   rw[List.getElem?_append_right q]at hi;have:i-S.rows.length=0:=by
    rcases Nat.eq_zero_or_pos (i-S.rows.length)with z|z
    ·exact z
    ·rw[List.getElem?_eq_none (by simp;lia)]at hi;exact nomatch hi
   rw[this]at hi;have:rr=(K,js):=by simpa using hi.symm
   subst this;have:i=S.rows.length:=Nat.le_antisymm (Nat.le_of_sub_eq_zero (by assumption)) q;subst this;unfold KV;dsimp only;rw[hd S.rows.length (Nat.le_refl _),if_pos rfl];exact⟨hK,hj,hn,ht,hm,hc⟩
 ·intro l hl
  exact wf.loop l hl
 ·intro i a b
  exact e1 (by lia) (by lia)
 ·have:=R.len
  unfold GS.len at this ⊢;simp;lia
theorem B0{d:f5}(h:d.nn){o:Off}(ho:0<=o.x/\0<=o.y/\0<=o.z):(d.at o).nn:=by
 obtain⟨a,b,c⟩:=h;obtain⟨x,y,z⟩:=ho;exact⟨by show 0<=d.h+o.x;lia,by show 0<=d.s+o.y;lia,by show 0<=d.b+o.z;lia⟩
theorem Qv{K:bN}(EH:K.ab=none)(d:f5)(o:Off):K.nd (d.at o)=d.at ⟨o.x+(K.l-K.t),o.y+K.ds,o.z+K.db⟩:=by
 unfold bN.nd bN.dep f5.at;rw[EH];simp only[Int.add_assoc]
theorem KW{K:bN}(EH:K.ab=none)(d:f5)(o:Off):K.jd (d.at o)=d.at ⟨o.x+(K.l-K.t+K.kp),o.y+K.ds,o.z+K.db⟩:=by
 unfold bN.jd bN.dep f5.at;rw[EH];simp only[Int.add_assoc]
theorem zU(R:Run g P F Wt bA S0 Z U Lp W o r){K:bN}(hK:aF K)(hj:js.length=K.nj)(EH:K.ab=none)(ya:K.go=true)(hx:0<=o.x/\0<=o.y/\0<=o.z)(ht:K.t<=o.x)
  (hm:∀m∈js,(m,(⟨o.x+(K.l-K.t+K.kp),o.y+K.ds,o.z+K.db⟩:Off))∈U)(hw:W+1<=Wt)(h6:6<=n)
  (k:∀Z',Run g P F Wt bA S0 Z' U Lp (W+1) ⟨o.x+(K.l-K.t),o.y+K.ds,o.z+K.db⟩ ⟨r.x+(K.l-K.t),r.y,r.z⟩->Q .none Z'):aq ao aj n 7 [.ref g,k7 (K,js)] Q Z:=by
 obtain⟨S,R,c1,c2⟩:=R;refine pJ R hK hj (by rw[c1];exact B0 R.DT hx) (by rw[c1];show K.t<=S0.re.h+o.x;have:=R.DT.1;lia) (λm V8=>?_) (K.nd S.cur) (λY=>rfl) hw h6 λZ' R'=>k Z' ⟨_,R',?_,?_⟩
 ·obtain⟨a1,a2,a3,a4⟩:=R.un m _ (hm m V8)
  exact⟨a2,by rw[a4,c1,KW EH]⟩
 ·show(if (S.rows++[(K,js)]).length=S.rows.length+1 then _ else _)=_
  rw[if_pos (by simp),c1,Qv EH]
 ·show(⟨S.re.h+(K.l-K.t),S.re.s,S.re.b⟩:f5)=_
  rw[c2];simp only[f5.at,Int.add_assoc]
theorem KX(o':Off)(R:Run g P F Wt bA S0 Z U Lp W o r){K:bN}(hK:aF K)(hj:js.length=K.nj)(EH:K.ab=none)(ya:K.go=false)(hx:0<=o.x/\0<=o.y/\0<=o.z)(ht:K.t<=o.x)
  (hm:∀m∈js,(m,(⟨o.x+(K.l-K.t+K.kp),o.y+K.ds,o.z+K.db⟩:Off))∈U)(hw:W+1<=Wt)(h6:6<=n)
  (k:∀Z',Run g P F Wt bA S0 Z' U Lp (W+1) o' ⟨r.x+(K.l-K.t),r.y,r.z⟩->Q .none Z'):aq ao aj n 7 [.ref g,k7 (K,js)] Q Z:=by
 obtain⟨S,R,c1,c2⟩:=R;refine pJ R hK hj (by rw[c1];exact B0 R.DT hx) (by rw[c1];show K.t<=S0.re.h+o.x;have:=R.DT.1;lia) (λm V8=>?_) (S0.re.at o') (λz=>by rw[ya]at z;cases z) hw h6 λZ' R'=>k Z' ⟨_,R',?_,?_⟩
 ·obtain⟨a1,a2,a3,a4⟩:=R.un m _ (hm m V8)
  exact⟨a2,by rw[a4,c1,KW EH]⟩
 ·show(if (S.rows++[(K,js)]).length=S.rows.length+1 then _ else _)=_
  rw[if_pos (by simp)]
 ·show(⟨S.re.h+(K.l-K.t),S.re.s,S.re.b⟩:f5)=_
  rw[c2];simp only[f5.at,Int.add_assoc]
theorem mK(e:Off)(R:Run g P F Wt bA S0 Z U Lp W o r)(k:∀Z' (m:Nat),(∀i,(i<g\/g+5<=i)->Z'[i]?=Z[i]?)->Z'.length=Z.length->Run g P F Wt bA S0 Z' ((m,e)::U) Lp (W+1) o r->Q (.int (m:Int)) Z')(hw:autoParam (W+1<=Wt/\1<=n) bu):aq ao aj n 8 [.ref g] Q Z:=by
 obtain⟨hw,h1⟩:=hw;obtain⟨n,rfl⟩:=e1 n;obtain⟨S,R,c1,c2⟩:=R;obtain⟨l1,l2,l3,l4,l5⟩:=R.small hw;have gi:=R.gi;have Ov:=gi.lt;have wf:=gi.wf;have hl:(S.marks.map V.int).length<lim:=by rw[List.length_map];exact l2
 refine lW gi.inst (v:=.ref (g+2)) rfl ?_;refine qA gi.marks hl ?_;refine BZ gi.marks hl ?_;have i1:(Z.set (g+2) (.list (S.marks.map V.int++[.int (-1)])))[g]?=some (.inst "Gen" (gI gD g P S.re)):=by rw[cF (by lia)];exact gi.inst
 have i2:(Z.set (g+2) (.list (S.marks.map V.int++[.int (-1)])))[g+2]?=some (.list (S.marks.map V.int++[.int (-1)])):=bW gi.marks;refine lW i1 (v:=.ref (g+2)) rfl ?_;refine FI i2 (by simp;unfold lim GS.len at *;lia) ?_;have key:Q (.int (S.marks.length:Int)) (Z.set (g+2) (.list (S.marks.map V.int++[.int (-1)]))):=by
  refine k _ S.marks.length (λi hi=>cF (by lia)) (by simp) ⟨{S with marks:=S.marks++[-1],E:=λm=>if m=S.marks.length then S0.re.at e else S.E m},?_,c1,c2⟩;have hE:∀m,m<S.marks.length->(if m=S.marks.length then S0.re.at e else S.E m)=S.E m:=λm h=>if_neg (by lia);have hM:∀m,m<S.marks.length->(S.marks++[(-1:Int)])[m]?=S.marks[m]? :=λm h=>List.getElem?_append_left h;have pl:∀m,m<S.marks.length->placed S m->placed {S with marks:=S.marks++[-1],E:=λm=>if m=S.marks.length then S0.re.at e else S.E m} m:=λm h hp=>by
   obtain⟨q,a,b,d⟩:=hp;exact⟨q,by show(S.marks++[(-1:Int)])[m]?=_;rw[hM m h];exact a,b,by show S.D q=(if _ then _ else _);rw[hE m h];exact d⟩
  have e1:∀{i:Nat},i≠g+2->(Z.set (g+2) (.list (S.marks.map V.int++[.int (-1)])))[i]?=Z[i]? :=λh=>cF (λq=>h q.symm);refine R.next ⟨i1,by rw[e1 (by lia)];exact gi.rows,by rw[i2];simp,by rw[e1 (by lia)];exact gi.loops,by rw[e1 (by lia)];exact gi.subs,⟨?_,?_,?_,wf.sub,λx hx=>⟨by show _<(S.marks++[(-1:Int)]).length;simp;have:=(wf.kn x hx).1;lia,by show(if _ then _ else _)=_;rw[hE x.1 (wf.kn x hx).1];exact(wf.kn x hx).2⟩,wf.d0⟩⟩ (by simp) (λi a b=>e1 (by lia)) ?_ R.loops (by simp) ?_ ?_ ?_ ?_
  ·intro m p hp
   have hp:(S.marks++[(-1:Int)])[m]?=some p:=hp;rcases Nat.lt_or_ge m S.marks.length with q|q
   ·rw[hM m q]at hp
    exact(wf.mark m p hp).imp id (pl m q)
   ·rw[List.getElem?_append_right q]at hp
    rcases Nat.eq_zero_or_pos (m-S.marks.length)with z|z
    ·rw[z]at hp;exact .inl (by simpa using hp.symm)
    ·rw[List.getElem?_eq_none (by simp;lia)]at hp;exact nomatch hp
  ·intro i rr hi
   obtain⟨a1,a2,a3,a4,a5,a6⟩:=wf.row i rr hi;exact⟨a1,a2,a3,a4,λm hm=>⟨by show m<(S.marks++[(-1:Int)]).length;simp;have:=(a5 m hm).1;lia,by show(if _ then _ else _)=_;rw[hE m (a5 m hm).1];exact(a5 m hm).2⟩,a6⟩
  ·intro l hl
   obtain⟨a1,a2,a3,a4,a5,a6,a7⟩:=wf.loop l hl;refine⟨?_,?_,?_,?_,?_,?_,a7⟩
   ·show _<(S.marks++[(-1:Int)]).length;simp;lia
   ·show _<(S.marks++[(-1:Int)]).length;simp;lia
   ·show _<(S.marks++[(-1:Int)]).length;simp;lia
   ·show(if _ then _ else _)=_;rw[hE _ a1];exact a4
   ·show(if _ then _ else _)=_;rw[hE _ a2];exact a5
   ·show(if _ then _ else _)=_;rw[hE _ a3];exact a6
  ·have:=R.len
   unfold GS.len at this ⊢;simp;lia
  ·intro m hm
   have:m<S.marks.length:=Nat.lt_of_lt_of_le hm R.ml;exact⟨hM m this,hE m this⟩
  ·intro m a b
   have b:m<(S.marks++[(-1:Int)]).length:=b;rcases Nat.lt_or_ge m S.marks.length with q|q
   ·rcases R.new m a q with⟨e',h⟩|h
    ·exact .inl ⟨e',List.mem_cons_of_mem _ h⟩
    ·exact .inr (pl m q h)
   ·have:m=S.marks.length:=by simp at b;lia
    subst this;exact .inl ⟨e,by simp⟩
  ·intro m e' h
   rcases List.mem_cons.mp h with q|q
   ·cases q
    exact⟨R.ml,by show _<(S.marks++[(-1:Int)]).length;simp,by show(S.marks++[(-1:Int)])[_]?=_;simp,if_pos rfl⟩
   ·refine cps λG g=>?_
    obtain⟨a1,a2,a3,a4⟩:=R.un m e' q;refine g ?_;exact⟨a1,by show _<(S.marks++[(-1:Int)]).length;simp;lia,by show(S.marks++[(-1:Int)])[_]?=_;rw[hM m a2];exact a3,by show(if _ then _ else _)=_;rw[hE m a2];exact a4⟩
  ·refine List.nodup_cons.mpr ⟨λq=>?_,R.ud⟩
   obtain⟨⟨m,e'⟩,hp,hm⟩:=List.mem_map.mp q;have:=(R.un m e' hp).2.1;have hm:m=S.marks.length:=hm;lia
 have e2:(V.int ((S.marks.map V.int++[V.int (-1)]).length:Int))=V.int ((S.marks.length:Int)+1):=by simp
 rw[e2];have e3:((S.marks.length:Int)+1)-1=S.marks.length:=by lia
 show Q (.int (((S.marks.length:Int)+1)-1)) _;rw[e3];exact key
theorem aB(e:Off)(R:Run g P F Wt bA S0 Z U Lp W o r)(k:∀Z' (m:Nat),Run g P F Wt bA S0 Z' ((m,e)::U) Lp (W+1) o r->Q (.int (m:Int)) Z')(hw:autoParam (W+1<=Wt/\1<=n) bu):aq ao aj n 8 [.ref g] Q Z:=
 mK e R λZ' m Y Y R=>k Z' m R
theorem pK{x:Int}{m:Nat}{e:Off}(R:Run g P F Wt bA S0 Z U Lp W o r)(hp:U.Perm ((m,e)::U'))(he:e=o)(hx:hh=S0.re.h+x)(hw:W+1<=Wt)(h1:1<=n)
  (k:∀Z',Run g P F Wt bA S0 Z' U' Lp W o ⟨x,r.y,r.z⟩->Q .none Z'):aq ao aj n 9 [.ref g,.int m,.int hh] Q Z:=by
 obtain⟨n,rfl⟩:=e1 n;subst he;obtain⟨S,R,c1,c2⟩:=R;obtain⟨l1,l2,l3,l4,l5⟩:=R.small hw;have gi:=R.gi;have Ov:=gi.lt;have wf:=gi.wf;have hmu:(m,e)∈U:=hp.mem_iff.mpr (by simp);obtain⟨u1,u2,u3,u4⟩:=R.un m e hmu;have hlr:(S.rows.map k7).length<lim:=by rw[List.length_map];exact l1
 refine lW gi.inst (v:=.ref (g+1)) rfl ?_;refine FI gi.rows hlr ?_;refine lW gi.inst (v:=.ref (g+2)) rfl ?_;refine V7 gi.marks (by lia) (by simp;lia) (by simp;exact l2) ?_;have i1:(Z.set (g+2) (.list ((S.marks.map V.int).set (m:Int).toNat (.int ((S.rows.map k7).length:Int)))))[g]?=some (.inst "Gen" (gI gD g P S.re)):=by rw[cF (by lia)];exact gi.inst
 refine xZ i1 (by show 10<900;lia) ?_;refine k _ ⟨{S with marks:=S.marks.set m (S.rows.length:Int),re:=⟨hh,S.re.s,S.re.b⟩},?_,c1,?_⟩
 ·have e1:∀{x y:MO} {i:Nat},i≠g->i≠g+2->((Z.set (g+2) x).set g y)[i]?=Z[i]? :=λh1 h2=>by rw[cF (λq=>h1 q.symm),cF (λq=>h2 q.symm)]
  have mw:∀m',m'≠m->(S.marks.set m (S.rows.length:Int))[m']?=S.marks[m']? :=λm' h=>cF λq=>h q.symm;have V9:(S.marks.set m (S.rows.length:Int))[m]?=some (S.rows.length:Int):=bW u3;have YU:placed {S with marks:=S.marks.set m (S.rows.length:Int),re:=⟨hh,S.re.s,S.re.b⟩} m:=⟨S.rows.length,V9,Nat.le_refl _,by show S.cur=S.E m;rw[c1,u4]⟩;have pl:∀m',placed S m'->placed {S with marks:=S.marks.set m (S.rows.length:Int),re:=⟨hh,S.re.s,S.re.b⟩} m':=λm' hp=>by
   by_cases q:m'=m
   ·subst q;exact YU
   ·obtain⟨z,a,b,d⟩:=hp
    exact⟨z,(mw m' q).trans a,b,d⟩
  have ll:(S.marks.set m (S.rows.length:Int)).length=S.marks.length:=by simp
  have nd:=(hp.map (·.1)).nodup_iff.mp R.ud;obtain⟨UR,US⟩:=List.nodup_cons.mp nd;refine R.next ⟨bW i1,?_,?_,?_,?_,⟨?_,?_,?_,wf.sub,λx hx=>⟨by show _<(S.marks.set _ _).length;rw[ll];exact(wf.kn x hx).1,(wf.kn x hx).2⟩,wf.d0⟩⟩ (by simp) (λi a b=>e1 (by lia) (by lia)) ?_ R.loops (by rw[ll];exact Nat.le_refl _) ?_ ?_ ?_ US
  ·rw[e1 (by lia) (by lia)];exact gi.rows
  ·rw[cF (by lia),bW gi.marks]
   congr 1;congr 1;simp
  ·rw[e1 (by lia) (by lia)];exact gi.loops
  ·rw[e1 (by lia) (by lia)];exact gi.subs
  ·intro m' p Xp
   by_cases q:m'=m
   ·subst q;exact .inr YU
   ·have Xp:(S.marks.set m (S.rows.length:Int))[m']?=some p:=Xp
    rw[mw m' q]at Xp;exact(wf.mark m' p Xp).imp id (pl m')
  ·intro i rr hi
   obtain⟨a1,a2,a3,a4,a5,a6⟩:=wf.row i rr hi;exact⟨a1,a2,a3,a4,λm hm=>⟨by show m<(S.marks.set _ _).length;rw[ll];exact(a5 m hm).1,(a5 m hm).2⟩,a6⟩
  ·intro l hl
   obtain⟨a1,a2,a3,a4,a5,a6,a7⟩:=wf.loop l hl;exact⟨by show _<(S.marks.set _ _).length;rw[ll];exact a1,by show _<(S.marks.set _ _).length;rw[ll];exact a2,by show _<(S.marks.set _ _).length;rw[ll];exact a3,a4,a5,a6,a7⟩
  ·have:=R.len
   unfold GS.len at this ⊢;simp;lia
  ·intro m' hm'
   exact⟨mw m' (by lia),rfl⟩
  ·intro m' a b
   have b:m'<(S.marks.set m (S.rows.length:Int)).length:=b;rw[ll]at b;by_cases q:m'=m
   ·subst q;exact .inr YU
   ·rcases R.new m' a b with⟨e',h⟩|h
    ·rcases List.mem_cons.mp (hp.mem_iff.mp h)with z|z
     ·cases z;exact absurd rfl q
     ·exact .inl ⟨e',z⟩
    ·exact .inr (pl m' h)
  ·intro m' e' h
   have YV:m'≠m:=λq=>UR (by subst q;exact List.mem_map.mpr ⟨(_,e'),h,rfl⟩);refine cps λG g=>?_;obtain⟨a1,a2,a3,a4⟩:=R.un m' e' (hp.mem_iff.mpr (List.mem_cons_of_mem _ h));refine g ?_;exact⟨a1,by show _<(S.marks.set _ _).length;rw[ll];exact a2,(mw m' YV).trans a3,a4⟩
 ·show(⟨hh,S.re.s,S.re.b⟩:f5)=_
  rw[c2,hx];rfl
end
theorem kT{c:Prop}[Decidable c](h:c)(a:A):if c then A else B:=by rw[if_pos h];exact a
theorem KY{c:Prop}[Decidable c](h:¬ c)(b:B):if c then A else B:=by rw[if_neg h];exact b
theorem bk{o:Option α}{a:α}{P:α->Prop}(h:o=some a)(p:P a):aT o P:=by rw[h];exact p
theorem KZ(a:A):isBool (.bool true) (λt=>if t=true then A else B):=kT (c:=true=true) (A:=A) (B:=B) rfl a
theorem DV(b:B):isBool (.bool false) (λt=>if t=true then A else B):=KY (c:=false=true) (A:=A) (B:=B) (by decide) b
theorem zV{c:Bool}{B:Bool->Prop}(a:A):isBool (.bool c) (λb=>if b=c then A else B b):=kT (c:=c=c) (A:=A) (B:=B c) rfl a
theorem Ow{c d:Bool}{B:Bool->Prop}(h:¬ c=d)(b:B c):isBool (.bool c) (λb=>if b=d then A else B b):=KY (c:=c=d) (A:=A) (B:=B c) h b
structure Ev (cf:CF) (ρ:List V) (Z:H) (x:X) (v:V):Prop where
 to:∀Q:V->H->Prop,Q v Z->b8 cf aj x ρ Q Z
structure vR (cf:CF) (ρ:List V) (Z:H) (xs:List X) (vs:List V):Prop where
 to:∀Q:List V->H->Prop,Q vs Z->fN cf aj xs ρ Q Z
noncomputable def B3:V->Bool
 |.ah=>false
 |_=>true
section
variable {cf:CF}{ρ:List V}{Z:H}{Q:Fl->List V->H->Prop}
theorem ak{i:Nat}{v:V}(h:ρ[i]?=some v)(hv:B3 v=true):Ev cf ρ Z (.aa i) v:=by
 constructor;intro Q q;refine bk h ?_;cases v<;>first|exact q|cases hv
theorem au{v:V}:Ev cf ρ Z (.aI v) v:=⟨λQ q=>by exact q⟩
theorem aX{k:Nat}{v:V}(h:aj[k]?=some v):Ev cf ρ Z (.aA k) v:=⟨λQ q=>by exact bk h q⟩
theorem e9{k:Nat}{Q:V->H->Prop}(hg:aj[k]?=some (.fn j))(h:fN cf aj xs ρ (λvs Z=>cf j vs Q Z) Z):b8 cf aj (.call (.aA k) xs) ρ Q Z:=bk hg h
theorem az:vR cf ρ Z [] []:=⟨λQ q=>by exact q⟩
theorem ai{x:X}{v:V}(h:Ev cf ρ Z x v)(t:vR cf ρ Z xs vs):vR cf ρ Z (x::xs) (v::vs):=⟨λQ q=>by exact h.to _ (t.to _ q)⟩
theorem b9(h:vR cf ρ Z xs vs):Ev cf ρ Z (.af xs) (.af vs):=⟨λQ q=>by exact h.to _ q⟩
theorem bK(h:vR cf ρ Z xs vs):Ev cf ρ Z (.bJ xs) (.aC vs):=⟨λQ q=>by exact h.to _ q⟩
theorem aE{i:X}{x:V}(ha:Ev cf ρ Z a x)(hi:Ev cf ρ Z i y)(h:cQ (cH Z x) y=some z):Ev cf ρ Z (.sub a i) z:=⟨λQ q=>by exact ha.to _ (hi.to _ (bk h q))⟩
theorem cG{x:V}(ha:Ev cf ρ Z a x)(h:ou (cH Z x)=some z):Ev cf ρ Z (.len a) z:=⟨λQ q=>by exact ha.to _ (bk h q)⟩
theorem cX{b:X}{x:V}(ha:Ev cf ρ Z a x)(hb:Ev cf ρ Z b y)(h:binop o x y=some z):Ev cf ρ Z (.bin o a b) z:=⟨λQ q=>by exact ha.to _ (hb.to _ (bk h q))⟩
theorem aJ{o:Mw}{b:X}{x:V}{z:Bool}(ha:Ev cf ρ Z a x)(hb:Ev cf ρ Z b y)(h:iO o (cH Z x) (cH Z y)=some z):Ev cf ρ Z (.cmp o a b) (.bool z):=⟨λQ q=>by exact ha.to _ (hb.to _ (bk h q))⟩
theorem SS{b:Bool}(ha:Ev cf ρ Z a (.bool b)):Ev cf ρ Z (.not a) (.bool !b):=⟨λQ q=>by exact ha.to _ q⟩
theorem cg{n:String}{x:V}(ha:Ev cf ρ Z a x)(h:dQ Z x n=some z):Ev cf ρ Z (.attr a n) z:=⟨λQ q=>by exact ha.to _ (bk h q)⟩
theorem gE{c b:X}(hc:Ev cf ρ Z c (.bool true))(ha:Ev cf ρ Z a z):Ev cf ρ Z (.ite c a b) z:=⟨λQ q=>by exact hc.to _ (KZ (ha.to _ q))⟩
theorem fU{c b:X}(hc:Ev cf ρ Z c (.bool false))(hb:Ev cf ρ Z b z):Ev cf ρ Z (.ite c a b) z:=⟨λQ q=>by exact hc.to _ (DV (hb.to _ q))⟩
theorem uX{k:X}{x:V}{r:Option V}(hd:Ev cf ρ Z d x)(hq:nk Z x=true)(hk:Ev cf ρ Z k y)(he:Ev cf ρ Z e z)(h:nq (cH Z x) y=some r):Ev cf ρ Z (.get d k e) (r.getD z):=by
 constructor;intro Q q;exact hd.to _ (kT hq (hk.to _ (he.to _ (bk h q))))
theorem DW{b c:X}{o o':Mw}{x:V}{z:Bool}(ha:Ev cf ρ Z a x)(hb:Ev cf ρ Z b y)(h:iO o x y=some true)(hc:Ev cf ρ Z c u)(h':iO o' y u=some z):Ev cf ρ Z (.chain a o b o' c) (.bool z):=by
 constructor;intro Q q;exact ha.to _ (hb.to _ (bk h (kT rfl (hc.to _ (bk h' q)))))
theorem bS{b:Int}(ha:Ev cf ρ Z a (.int b)):Ev cf ρ Z (.range [a]) (.k8 0 b 1):=by
 constructor;intro Q q;refine(ai ha az).to _ ?_;exact q
theorem sN{b:X}(ha:Ev cf ρ Z a (.bool false))(hb:Ev cf ρ Z b (.bool false)):Ev cf ρ Z (.kI false [a,b]) (.bool false):=by
 constructor;intro Q q;refine ha.to _ (zV ?_);refine hb.to _ (zV ?_);exact q
theorem fq{r:List X}(ha:Ev cf ρ Z a (.bool false)):Ev cf ρ Z (.kI true (a::r)) (.bool false):=by
 constructor;intro Q q;exact ha.to _ (Ow (by decide) q)
theorem K0{b c:X}(ha:Ev cf ρ Z a (.bool false))(hb:Ev cf ρ Z b (.bool false))(hc:Ev cf ρ Z c (.bool false)):Ev cf ρ Z (.kI false [a,b,c]) (.bool false):=by
 constructor;intro Q q;refine ha.to _ (zV ?_);refine hb.to _ (zV ?_);refine hc.to _ (zV ?_);exact q
structure WS (cf:CF) (ss:List S) (ρ:List V) (Q:Fl->List V->H->Prop) (Z:H):Prop where
 to:dU cf aj ss ρ Q Z
structure FL (cf:CF) (b:List S) (single:Bool) (ts:List Nat) (vs:List V) (ρ:List V) (Q:Fl->List V->H->Prop) (Z:H):Prop where
 to:forL (λρ Q Z=>dU cf aj b ρ Q Z) single ts vs ρ Q Z
noncomputable abbrev fu(cf:CF)(r:List S)(Q:Fl->List V->H->Prop):Fl->List V->H->Prop:=kS (dU cf aj r) Q
noncomputable def B4(cf:CF)(b:List S)(single:Bool)(ts:List Nat)(vs:List V)(Q:Fl->List V->H->Prop):Fl->List V->H->Prop:=λfl ρ Z=>match fl with
 |.ret r=>Q (.ret r) ρ Z
 |_=>forL (λρ Q Z=>dU cf aj b ρ Q Z) single ts vs ρ Q Z
theorem lY(h:Q .next ρ Z):WS cf [] ρ Q Z:=⟨by exact h⟩
theorem K1{i:Nat}(h:b8 cf aj e ρ (λv Z=>dU cf aj r (ρ.set i v) Q Z) Z):WS cf (.cO i e::r) ρ Q Z:=⟨h⟩
theorem K2(h:b8 cf aj e ρ (λv Z=>Q (.ret v) ρ Z) Z):WS cf (.ret (some e)::r) ρ Q Z:=⟨h⟩
theorem Wa(h:b8 cf aj it ρ (λv Z=>aT (itemsOf v) λvs=>forL (λρ Q Z=>dU cf aj b ρ Q Z) single ts vs ρ (fu cf r Q) Z) Z):WS cf (.for single ts it b::r) ρ Q Z:=⟨h⟩
theorem Wb{Q:V->H->Prop}(h:fN cf aj xs ρ (λvs Z=>Q (.af vs) Z) Z):b8 cf aj (.af xs) ρ Q Z:=h
theorem SV{Q:V->H->Prop}(h:fN cf aj xs ρ (λvs Z=>Q (.cM (ks.zip vs)) Z) Z):b8 cf aj (.nQ ks xs) ρ Q Z:=h
theorem SW{Q:V->H->Prop}(h:fN cf aj xs ρ (λvs Z=>Q (.ref Z.length) (Z++[.dict (ks.zip vs)])) Z):b8 cf aj (.iZ ks xs) ρ Q Z:=h
theorem qB{x:X}{Q:List V->H->Prop}(h:b8 cf aj x ρ (λv Z=>fN cf aj xs ρ (λvs Z=>Q (v::vs) Z) Z) Z):fN cf aj (x::xs) ρ Q Z:=h
theorem FO{x:X}{Q:V->H->Prop}(h:b8 cf aj x ρ (λv Z=>aT (s9 Z v) λr=>Q r.1 r.2) Z):b8 cf aj (.r9 x) ρ Q Z:=h
theorem w_sub{i:X}{Q:V->H->Prop}(h:b8 cf aj a ρ (λx Z=>b8 cf aj i ρ (λy Z=>aT (cQ (cH Z x) y) λz=>Q z Z) Z) Z):b8 cf aj (.sub a i) ρ Q Z:=h
theorem K3{o:Mw}{b:X}{Q:V->H->Prop}(h:b8 cf aj a ρ (λx Z=>b8 cf aj b ρ (λy Z=>aT (iO o (cH Z x) (cH Z y)) λz=>Q (.bool z) Z) Z) Z):b8 cf aj (.cmp o a b) ρ Q Z:=h
theorem K4{b:X}{Q:V->H->Prop}(h:b8 cf aj a ρ (λx Z=>b8 cf aj b ρ (λy Z=>aT (binop o x y) λz=>Q z Z) Z) Z):b8 cf aj (.bin o a b) ρ Q Z:=h
theorem SY{n:String}(h:b8 cf aj e ρ (λv Z=>b8 cf aj a ρ (λx Z=>aT (ie Z x n v) λZ=>dU cf aj r ρ Q Z) Z) Z):WS cf (.eW a n e::r) ρ Q Z:=⟨h⟩
theorem w_ite{c:X}{t e:List S}(h:b8 cf aj c ρ (λb Z=>isBool b λb=>if b then dU cf aj t ρ (fu cf r Q) Z else dU cf aj e ρ (fu cf r Q) Z) Z):WS cf (.ite c t e::r) ρ Q Z:=⟨h⟩
theorem Qw{Q:List V->H->Prop}(h:Q [] Z):fN cf aj [] ρ Q Z:=h
theorem Ox{Q:V->H->Prop}(h:fN cf aj xs ρ (λvs Z=>aT (EA vs) λz=>Q z Z) Z):b8 cf aj (.range xs) ρ Q Z:=h
theorem YW{x:X}{Q:V->H->Prop}(h:b8 cf aj a ρ (λv Z=>b8 cf aj x ρ (λi Z=>isInt i λi=>aT (gr v Option.none (some i)) λz=>Q z Z) Z) Z):b8 cf aj (.slice a Option.none (some x)) ρ Q Z:=h
theorem mL(h:WS cf r ρ Q Z):WS cf [] ρ (fu cf r Q) Z:=⟨by exact h.to⟩
theorem cY(h:FL cf b single ts vs ρ Q Z):WS cf [] ρ (B4 cf b single ts vs Q) Z:=⟨by exact h.to⟩
theorem dG{i:Nat}{v:V}(he:Ev cf ρ Z e v)(h:WS cf r (ρ.set i v) Q Z):WS cf (.cO i e::r) ρ Q Z:=⟨by exact he.to _ h.to⟩
theorem zW{v:V}(he:Ev cf ρ Z e v)(hb:s8 false is ρ v=some ρ')(h:WS cf r ρ' Q Z):WS cf (.fM is e::r) ρ Q Z:=⟨by exact he.to _ (bk hb h.to)⟩
theorem qC{l:X}{a:Nat}{xs:List V}{v:V}(hl:Ev cf ρ Z l (.ref a))(hx:Z[a]?=some (.list xs))(hn:xs.length<lim)(he:Ev cf ρ Z e v)(h:WS cf r ρ Q (Z.set a (.list (xs++[v])))):
  WS cf (.expr (.append l e)::r) ρ Q Z:=by
 constructor;exact hl.to _ (qA hx hn (he.to _ (BZ hx hn h.to)))
theorem S1{i:Nat}{a:Int}{v:V}(h0:ρ[i]?=some (.int a))(he:Ev cf ρ Z e v)(hz:WX o a v=some z)(h:WS cf r (ρ.set i z) Q Z):WS cf (.aug i o e::r) ρ Q Z:=by
 constructor;exact bk h0 (he.to _ (bk hz h.to))
theorem bU{c:X}{t e:List S}(hc:Ev cf ρ Z c (.bool true))(h:WS cf t ρ (fu cf r Q) Z):WS cf (.ite c t e::r) ρ Q Z:=by
 constructor;exact hc.to _ (KZ h.to)
theorem fy{c:X}{t e:List S}(hc:Ev cf ρ Z c (.bool false))(h:WS cf e ρ (fu cf r Q) Z):WS cf (.ite c t e::r) ρ Q Z:=by
 constructor;exact hc.to _ (DV h.to)
theorem cE{c:X}{t:List S}(hc:Ev cf ρ Z c (.bool false))(h:WS cf r ρ Q Z):WS cf (.ite c t []::r) ρ Q Z:=fy hc (mL h)
theorem jf{v:V}(he:Ev cf ρ Z e v)(h:Q (.ret v) ρ Z):WS cf (.ret (some e)::r) ρ Q Z:=by
 constructor;exact he.to _ h
theorem cK{v:V}(he:Ev cf ρ Z it v)(hv:itemsOf v=some vs)(h:FL cf b single ts vs ρ (fu cf r Q) Z):WS cf (.for single ts it b::r) ρ Q Z:=by
 constructor;exact he.to _ (bk hv h.to)
theorem uY(h:Q .next ρ Z):FL cf b single ts [] ρ Q Z:=⟨h⟩
theorem j9(h:WS cf r ρ Q Z):FL cf b single ts [] ρ (fu cf r Q) Z:=⟨h.to⟩
theorem br{i:Nat}{v:V}(h:WS cf b (ρ.set i v) (B4 cf b true [i] vs Q) Z):FL cf b true [i] (v::vs) ρ Q Z:=⟨h.to⟩
theorem iW(h:WS cf r ρ Q Z):fu cf r Q .next ρ Z:=h.to
theorem uZ(h:FL cf b single ts vs ρ Q Z):B4 cf b single ts vs Q .next ρ Z:=h.to
theorem g4{b:Nat}(h:b<1000000):itemsOf (.k8 0 (b:Int) 1)=some (kJ 0 b):=by
 refine(if_pos (by lia)).trans ((if_pos rfl).trans ?_);simp
end
theorem dD{x:MO}:(Z++[x])[Z.length]?=some x:=by simp
theorem gF{x y:MO}:(Z++[x]).set Z.length y=Z++[y]:=by
 rw[List.set_append_right _ _ (Nat.le_refl _)];simp
theorem jg{xs:List α}{k:Nat}{a:α}(h:xs[k]?=some a)(hl:k<16000000):idx xs (k:Int)=some a:=by
 unfold idx;rw[if_pos (by lia),if_pos (by lia)]
 simpa using h
theorem mO(s:String)(i:Int):cQ (.str s) (.int i)=(idx s.toList i).map λc=>.str (String.ofList [c]):=rfl
theorem fK(s:List V)(i:Int):cQ (.aC s) (.int i)=idx s i:=rfl
theorem yb(s:List V)(i:Int):cQ (.af s) (.int i)=idx s i:=rfl
theorem B5(c:Char):(String.ofList [c]="j")↔c='j':=by
 constructor
 ·intro h
  have:(String.ofList [c]).toList="j".toList:=by rw[h]
  simpa using this
 ·rintro rfl;rfl
noncomputable def jh:List Char->List V->List Int->List V
 |[],aR,dm=>[]
 |c::p,as,ps=>if c='j' then(match ps with|q::qs=>V.int q::jh p (as.drop 1) qs|[]=>jh p (as.drop 1) []) else(match as with|a::r=>a::jh p r ps|[]=>jh p [] ps)
noncomputable def K5:List (V×V):=[(.str "const",.int 2),(.str "pad",.int 3),(.str "my",.int 3),(.str "glob",.int 3),(.str "loop",.int 5),(.str "unwind",.int 4),(.str "func",.int 4),(.str "match",.int 4),(.str "call",.int 2),(.str "bywant",.int 4),(.str "sort",.int 3),
 (.str "method",.int 3),(.str "trans",.int 4),(.str "evalblock",.int 3),(.str "evalstr",.int 4),(.str "drop",.int 1),(.str "elem",.int 1),(.str "bin",.int 2),(.str "split",.int 3)]
noncomputable def Qx:List V:=[.str "jump",.str "bywant",.str "return0",.str "return1",.str "return2",.str "subreturn",.str "loopleave",.str "refuse"]
noncomputable def Wc:List V:=[.str "orjump",.str "andjump",.str "dorjump"]
structure xd (K:bN) (t0 l0:Int) (p:String) (al:Nat) (is:List Int):Prop where
 V5:∀js,js.length=K.nj->∀n Q Z,aq ao aj (n+5) 2 [K.row js] Q Z=Q (.af [.int K.t,.int K.l]) Z
 jm:∀js,js.length=K.nj->∀n Q Z,aq ao aj (n+5) 11 [K.row js] Q Z=Q (.aC (js.map V.int)) Z
 Xn:∀js,js.length=K.nj->∀n Q Z,aq ao aj (n+5) 127 [K.row js] Q Z=Q (.af [.int K.t,.int K.l]) Z
 YS:∀js,js.length=K.nj->∀n s b Q Z,aq ao aj (n+5) 128 [K.row js,.int s,.int b] Q Z=Q (.af [.int (K.dep s b).1,.int (K.dep s b).2]) Z
 go:∀js,js.length=K.nj->∀n Q Z,aq ao aj (n+5) 5 [K.row js] Q Z=Q (.bool K.go) Z
 jo:∀js,js.length=K.nj->∀n Q Z,aq ao aj (n+5) 3 [K.row js] Q Z=Q (.aC (js.map V.int)) Z
 sh:∀js,js.length=K.nj->∀n Q Z,aq ao aj (n+4) 1 [K.row js] Q Z=Q (.af [.int t0,.int l0,.str p]) Z
 an:∀js,js.length=K.nj->(K.args js).length=al
 pal:p.toList.length=al/\al<100
 pj:(p.toList.filter λc=>c='j').length=K.nj
 su:∀js ps,js.length=K.nj->ps.length=K.nj->jh p.toList (K.args js) ps=K.args ps
 kp:nq gY (.str K.word)=some (if K.kp=0 then none else some (.int K.kp))
 pl:∃o,nq dZ (.str K.word)=some o/\o.getD (.aC [])=.aC (is.map V.int)
 ix:∀js,js.length=K.nj->is.map (λi=>idx (.str K.word::K.args js) i)=js.map λp=>some (.int p)
 ln:∃o,nq (.cM K5) (.str K.word)=some o/\o.getD (.int (al+1))=.int (al+1)
 en:sZ (.str K.word) (.af Qx)=some (!K.go)
 mo:sZ (.str K.word) (.af Wc)=some (decide (K.kp=1))
 nx:K.word="next"↔K.kp= -1
 kpv:K.kp=0\/K.kp=1\/K.kp= -1
 Ot:K.word="return0"->K.t=0
 KU:K.word="return1"\/K.word="return2"->K.t=1
theorem nil_of{js:List Int}(h:js.length=0):js=[]:=List.length_eq_zero_iff.mp h
theorem K6{js:List Int}(h:js.length=1):∃a,js=[a]:=List.length_eq_one_iff.mp h
theorem B6{js:List Int}(h:js.length=3):∃a b c,js=[a,b,c]:=by
 rcases js with _|⟨a,_|⟨b,_|⟨c,_|⟨d,t⟩⟩⟩⟩
 ·exact nomatch h
 ·exact nomatch h
 ·exact nomatch h
 ·exact⟨a,b,c,rfl⟩
 ·exact absurd h (by simp)
noncomputable def u0:List S:=[.ite (.cmp .eq (.sub (.aa 2) (.aa 5)) (.aI (V.str "j"))) [.expr (.append (.aa 3) (.sub (.aa 1) (.aa 4))),.aug 4 .add (.aI (V.int 1))] [.expr (.append (.aa 3) (.sub (.aa 0) (.bin .add (.aa 5) (.aI (V.int 1)))))]]
section
variable {cf:CF}{row places:List V}{p:String}{Z:H}{used k:Nat}{acc:List V}{c:Char}{Q:Fl->List V->H->Prop}
theorem HO(hc:p.toList[k]?=some c)(hk:k<1000)(cj:c='j'){q:V}(hq:places[used]?=some q)(hu:used<1000)(hl:acc.length<1000)(kk:Q .next [.af row,.aC places,.str p,.ref Z.length,.int ((used:Int)+1),.int (k:Int)] (Z++[.list (acc++[q])])):
  WS cf u0 [.af row,.aC places,.str p,.ref Z.length,.int (used:Int),.int (k:Int)] Q (Z++[.list acc]):=by
 have e1:cQ (.str p) (.int (k:Int))=some (.str (String.ofList [c])):=by rw[mO,jg hc (by lia)];rfl
 have e2:cQ (.aC places) (.int (used:Int))=some q:=by rw[fK];exact jg hq (by lia)
 have e3:iO .eq (.str (String.ofList [c])) (.str "j")=some true:=by show some (decide (String.ofList [c]="j"))=_;rw[decide_eq_true ((B5 c).mpr cj)]
 have a1:Ev cf [.af row,.aC places,.str p,.ref Z.length,.int (used:Int),.int (k:Int)] (Z++[.list acc]) (.aa 2) (.str p):=ak rfl rfl;have a2:Ev cf [.af row,.aC places,.str p,.ref Z.length,.int (used:Int),.int (k:Int)] (Z++[.list acc]) (.aa 5) (.int (k:Int)):=ak rfl rfl;have a3:Ev cf [.af row,.aC places,.str p,.ref Z.length,.int (used:Int),.int (k:Int)] (Z++[.list acc]) (.aa 1) (.aC places):=ak rfl rfl;have a4:Ev cf [.af row,.aC places,.str p,.ref Z.length,.int (used:Int),.int (k:Int)] (Z++[.list acc]) (.aa 4) (.int (used:Int)):=ak rfl rfl;have b1:=aJ (aE a1 a2 e1) (au (v:=.str "j")) e3;have b2:=aE a3 a4 e2;unfold u0;refine bU b1 ?_;refine qC (ak rfl rfl) dD (by unfold lim;lia) b2 ?_;rw[gF];exact S1 rfl (au (v:=.int 1)) rfl (mL (lY kk))
theorem HP(hc:p.toList[k]?=some c)(hk:k<1000)(cj:¬ c='j'){q:V}(hq:row[k+1]?=some q)(hl:acc.length<1000)(kk:Q .next [.af row,.aC places,.str p,.ref Z.length,u,.int (k:Int)] (Z++[.list (acc++[q])])):
  WS cf u0 [.af row,.aC places,.str p,.ref Z.length,u,.int (k:Int)] Q (Z++[.list acc]):=by
 have e1:cQ (.str p) (.int (k:Int))=some (.str (String.ofList [c])):=by rw[mO,jg hc (by lia)];rfl
 have e2:cQ (.af row) (.int ((k:Int)+1))=some q:=by rw[yb,show((k:Int)+1)=((k+1:Nat):Int) from rfl];exact jg hq (by lia)
 have e3:iO .eq (.str (String.ofList [c])) (.str "j")=some false:=by show some (decide (String.ofList [c]="j"))=_;rw[decide_eq_false λz=>cj ((B5 c).mp z)]
 have a0:Ev cf [.af row,.aC places,.str p,.ref Z.length,u,.int (k:Int)] (Z++[.list acc]) (.aa 0) (.af row):=ak rfl rfl;have a1:Ev cf [.af row,.aC places,.str p,.ref Z.length,u,.int (k:Int)] (Z++[.list acc]) (.aa 2) (.str p):=ak rfl rfl;have a2:Ev cf [.af row,.aC places,.str p,.ref Z.length,u,.int (k:Int)] (Z++[.list acc]) (.aa 5) (.int (k:Int)):=ak rfl rfl;have a3:binop .add (.int (k:Int)) (.int 1)=some (.int ((k:Int)+1)):=rfl;have b1:=aJ (aE a1 a2 e1) (au (v:=.str "j")) e3;have b2:=aE a0 (cX a2 (au (v:=.int 1)) a3) e2;unfold u0;refine fy b1 ?_;refine qC (ak rfl rfl) dD (by unfold lim;lia) b2 ?_;rw[gF];exact mL (lY kk)
end
theorem Oz(cf:CF)(w:String)(args:List V)(places:List Int)(p:String)(hp:p.toList.length<100)(ha:args.length=p.toList.length):∀(cnt k used:Nat) (acc:List V) (x:V) (Z:H) (Q:Fl->List V->H->Prop),k+cnt=p.toList.length->acc.length+cnt<200->used+cnt<200->
  ((p.toList.drop k).filter λc=>c='j').length+used=places.length->
  (∀x u,Q .next [.af (.str w::args),.aC (places.map V.int),.str p,.ref Z.length,u,x] (Z++[.list (acc++jh (p.toList.drop k) (args.drop k) (places.drop used))]))->
  FL cf u0 true [5] (kJ (k:Int) cnt) [.af (.str w::args),.aC (places.map V.int),.str p,.ref Z.length,.int (used:Int),x] Q (Z++[.list acc]):=by
 intro cnt;induction cnt with
 |zero=>
  intro k used acc x Z Q hk h2 h3 hj kk;have e:p.toList.drop k=[]:=List.drop_eq_nil_of_le (by lia);rw[e]at kk;have:=kk x (.int used);simp only[jh,List.append_nil]at this;exact uY this
 |succ cnt IH=>
  intro k used acc x Z Q hk h2 h3 hj kk;have qS:k<p.toList.length:=by lia
  have hla:k<args.length:=by lia
  have hc:=List.getElem?_eq_getElem qS;have ha':=List.getElem?_eq_getElem hla;have d1:=List.drop_eq_getElem_cons qS;have d2:=List.drop_eq_getElem_cons hla;generalize p.toList[k]=c at hc d1;generalize args[k]=a at ha' d2;have step:((k:Int)+1)=((k+1:Nat):Int):=rfl;have hr:kJ (k:Int) (cnt+1)=.int (k:Int)::kJ ((k:Int)+1) cnt:=rfl;rw[hr,step];refine br ?_;rw[d1]at hj kk;rw[d2]at kk;by_cases cj:c='j'
  ·rw[List.filter_cons_of_pos (by simpa using cj)]at hj
   simp only[List.length_cons]at hj;have hlu:used<places.length:=by lia
   have hq:=List.getElem?_eq_getElem hlu;have d3:=List.drop_eq_getElem_cons hlu;generalize places[used]=q at hq d3;rw[d3]at kk;refine HO hc (by lia) cj (q:=.int q) (by rw[List.getElem?_map,hq];rfl) (by lia) (by lia) ?_;have us:(used:Int)+1=(((used+1:Nat):Int)):=rfl;rw[us];refine uZ (IH (k+1) (used+1) (acc++[.int q]) (.int k) Z Q (by lia) (by simp;lia) (by lia) (by lia) λx u=>?_);have:=kk x u;simp only[jh,cj,if_true,List.drop_succ_cons,List.drop_zero]at this;rw[List.append_assoc];exact this
  ·rw[List.filter_cons_of_neg (by simpa using cj)]at hj
   refine HP hc (by lia) cj (q:=a) (by simpa using ha') (by lia) ?_;refine uZ (IH (k+1) used (acc++[a]) (.int k) Z Q (by lia) (by simp;lia) (by lia) hj λx u=>?_);have:=kk x u;simp only[jh,cj,if_false]at this;rw[List.append_assoc];exact this
theorem sO{Q:Fl->List V->H->Prop}{i:Nat}(he:vR cf ρ Z xs vs)(h:WS cf r (ρ.set i (.ref Z.length)) Q (Z++[.list vs])):WS cf (.cO i (.oj xs)::r) ρ Q Z:=by
 constructor;exact he.to _ h.to
theorem bG{k:Nat}{f:Fn}{args:List V}(hf:ao[k]?=some f)(ha:args.length=f.sX)
  (h:WS (aq ao aj n) f.body (args++List.replicate f.C2 .ah) (λfl Y Z=>match fl with
   |.next=>Q .none Z
   |.ret v=>Q v Z
   |.cont=>False) Z):aq ao aj (n+1) k args Q Z:=by
 unfold aq;refine bk hf ?_;unfold MF;rw[if_pos ha];exact h.to
section
variable {K:bN}{t0 l0:Int}{p:String}{al:Nat}{is:List Int}
theorem xd.wj(F:xd K t0 l0 p al is):∀js ps,js.length=K.nj->ps.length=K.nj->∀n,5<=n->∀Q Z,(∀c,Q (K.row ps) (Z++[c]))->aq ao aj n 4 [K.row js,.aC (ps.map V.int)] Q Z:=by
 intro js ps hj hp n hn Q Z k;obtain⟨m,rfl⟩:∃m,n=m+4+1:=⟨n-5,(Nat.sub_add_cancel (by assumption)).symm⟩;have al':=F.an js hj;obtain⟨pl,pa⟩:=F.pal;have e1:ou (.str p)=some (.int (al:Int)):=by
  refine(if_pos (by unfold lim;rw[<-String.length_toList];lia)).trans ?_;rw[<-String.length_toList,pl]
 refine bG (f:=nt) rfl rfl ?_;have e0:Ev (aq ao aj (m+4)) [K.row js,.aC (ps.map V.int),.ah,.ah,.ah,.ah] Z (.sub (.call (.aA 1) [(.aa 0)]) (.aI (V.int 2))) (.str p):=by
  constructor;intro Q q;refine w_sub (e9 (j:=1) rfl ?_);refine(ai (ak rfl rfl) az).to _ ?_;rw[F.sh js hj];exact au.to _ (bk (a:=.str p) rfl q)
 refine dG e0 ?_;have e4:vR (aq ao aj (m+4)) [K.row js,.aC (ps.map V.int),.str p,.ah,.ah,.ah] Z [(.sub (.aa 0) (.aI (V.int 0)))] [.str K.word]:=ai (aE (ak rfl rfl) au rfl) az;refine sO e4 ?_;refine dG au ?_;refine cK (bS (cG (ak rfl rfl) e1)) (g4 (by lia)) ?_;refine Oz (aq ao aj (m+4)) K.word (K.args js) ps p (by lia) (by lia) al 0 0 [.str K.word] .ah Z _ (by lia) (by simp;lia) (by lia) (by rw[List.drop_zero,F.pj,hp];rfl) λx u=>?_;rw[List.drop_zero,List.drop_zero,List.drop_zero,F.su js ps hj hp];have l2:=F.an ps hp;refine iW (jf (v:=K.row ps) ⟨λQ q=>(ak (cf:=aq ao aj (m+4)) (v:=.ref Z.length) rfl rfl).to (λx Z=>EB (cH Z x) λxs=>if xs.length<lim then Q (.af xs) Z else False) ?_⟩ (k _));have e5:cH (Z++[.list ([V.str K.word]++K.args ps)]) (.ref Z.length)=.aC ([V.str K.word]++K.args ps):=jn dD;rw[e5];exact kT (by simp;unfold lim;lia) q
end
section
variable {cf:CF}{ρ:List V}{Z:H}{Q:Fl->List V->H->Prop}
theorem fC{k:Nat}{v:V}(ha:vR cf ρ Z as vs)(hg:aj[k]?=some (.fn j))(h:∀Q,Q v Z->cf j vs Q Z):Ev cf ρ Z (.call (.aA k) as) v:=by
 constructor;intro Q q;exact e9 hg (ha.to _ (h Q q))
theorem yc{a:Nat}{xs:List V}(he:Ev cf ρ Z e (.ref a))(hx:Z[a]?=some (.list xs))(h:Q (.ret (.aC xs)) ρ (Z.set a .dead)):WS cf (.ret (some (.r9 e))::r) ρ Q Z:=by
 constructor;have:s9 Z (.ref a)=some (.aC xs,Z.set a .dead):=qd hx;exact he.to _ (bk this h)
theorem yd{i:Nat}{ρ:List V}:∀{vs:List V},(∀v∈vs,Ev cf (ρ.set i v) Z elt (f v))->∀{C:List V->(V->H->Prop)->H->Prop} {Q:List V->H->Prop},Q (vs.map f) Z->
  iP (λρ Q Z=>b8 cf aj elt ρ Q Z) C false true [i] ρ vs Q Z
 |[],aR,dm,p8,q=>q
 |v::vs,h,aR,dm,q=>by
  show b8 cf aj elt (ρ.set i v) _ Z;exact(h v (by simp)).to _ (yd (ρ:=ρ.set i v) (λw hw=>by rw[List.set_set];exact h w (List.mem_cons_of_mem _ hw)) q)
theorem zX{i:Nat}{v:V}(hi:Ev cf ρ Z it v)(hv:itemsOf v=some vs)(hl:vs.length<lim)(h:∀v∈vs,Ev cf ((ρ.set i .ah).set i v) Z elt (f v)):Ev cf ρ Z (.comp elt true [i] it none) (.aC (vs.map f)):=by
 constructor;intro Q q;exact hi.to _ (bk hv (kT hl (yd h q)))
theorem kg{c:X}{i:Nat}{p:V->Bool}{ρ:List V}:∀{vs:List V},(∀v∈vs,Ev cf (ρ.set i v) Z c (.bool (p v)))->(∀v∈vs,p v=true->Ev cf (ρ.set i v) Z elt (f v))->∀{Q:List V->H->Prop},Q ((vs.filter p).map f) Z->
  iP (λρ Q Z=>b8 cf aj elt ρ Q Z) (λρ Q Z=>Mx cf aj (some c) ρ Q Z) true true [i] ρ vs Q Z
 |[],aR,dm,p8,q=>q
 |v::vs,h,h2,aR,q=>by
  show Mx cf aj (some c) (ρ.set i v) _ Z;refine(h v (by simp)).to _ ?_;cases hp:p v with
  |true=>
   refine KZ ?_;rw[List.filter_cons_of_pos hp]at q;exact(h2 v (by simp) hp).to _ (kg (ρ:=ρ.set i v) (λw hw=>by rw[List.set_set];exact h w (List.mem_cons_of_mem _ hw)) (λw hw=>by rw[List.set_set];exact h2 w (List.mem_cons_of_mem _ hw)) q)
  |false=>
   refine DV ?_;rw[List.filter_cons_of_neg (by simp[hp])]at q;exact kg (ρ:=ρ.set i v) (λw hw=>by rw[List.set_set];exact h w (List.mem_cons_of_mem _ hw)) (λw hw=>by rw[List.set_set];exact h2 w (List.mem_cons_of_mem _ hw)) q
theorem ye{c:X}{i:Nat}{p:V->Bool}{v:V}(hi:Ev cf ρ Z it v)(hv:itemsOf v=some vs)(hl:vs.length<lim)(h:∀v∈vs,Ev cf ((ρ.set i .ah).set i v) Z c (.bool (p v)))
  (h2:∀v∈vs,p v=true->Ev cf ((ρ.set i .ah).set i v) Z elt (f v)):Ev cf ρ Z (.comp elt true [i] it (some c)) (.aC ((vs.filter p).map f)):=by
 constructor;intro Q q;exact hi.to _ (bk hv (kT hl (kg h h2 q)))
end
theorem kh{f:V->V->Option Bool}{xs:List V}:(∀x∈xs,f x x=some true)->allEq f xs xs=some true:=by
 induction xs with
 |nil=>exact λY=>rfl
 |cons x xs ih=>
  intro h;show((f x x).bind λa=>(allEq f xs xs).map (a&&·))=some true;rw[h x (.head _),ih λy hy=>h y (.tail _ hy)];rfl
theorem FP{xs:List V}(h:∀x∈xs,f6 5 x x=some true):eqv (.aC xs) (.aC xs)=some true:=by
 show(if xs.length=xs.length then allEq (f6 5) xs xs else some false)=some true;rw[if_pos rfl];exact kh h
theorem u5(i:Int):f6 5 (.int i) (.int i)=some true:=by
 show some (decide (i=i))=_;simp
theorem B7(i j:Int):f6 5 (.af [.int i,.int j]) (.af [.int i,.int j])=some true:=by
 show(if 2=2 then allEq (f6 4) [V.int i,V.int j] [V.int i,V.int j] else none)=some true;rw[if_pos rfl];refine kh λx hx=>?_;simp at hx;rcases hx with rfl|rfl
 ·show some (decide (i=i))=_;simp
 ·show some (decide (j=j))=_;simp
section
variable {K:bN}{t0 l0:Int}{p:String}{al:Nat}{is:List Int}
noncomputable def u6:List S:=[.expr (.append (.aa 4) (.af [(.aa 5),(.bin .add (.aa 3) (.get (.aA 136) (.sub (.aa 0) (.aI (V.int 0))) (.aI (V.int 0))))]))]
set_option tactic.hygienic true in
theorem FQ(F:xd K t0 l0 p al is){ps:List Int}{a b:V}{ch:Int}:∀(js:List Int) (acc:List V) (x:V) (Z:H) (Q:Fl->List V->H->Prop),acc.length+js.length<1000->
  (∀x,Q .next [K.row ps,a,b,.int ch,.ref Z.length,x] (Z++[.list (acc++js.map λp=>.af [.int p,.int (ch+K.kp)])]))->
  FL cf u6 true [5] (js.map V.int) [K.row ps,a,b,.int ch,.ref Z.length,x] Q (Z++[.list acc])
 |[],acc,x,Z,Q,aR,k=>uY (by simpa using k x)
 |j::js,acc,x,Z,Q,hl,k=>by
  simp only[List.length_cons]at hl;refine br ?_;show WS cf u6 [K.row ps,a,b,.int ch,.ref Z.length,.int j] _ _;have a0:Ev cf [K.row ps,a,b,.int ch,.ref Z.length,.int j] (Z++[.list acc]) (.aa 0) (K.row ps):=ak rfl rfl;have a3:Ev cf [K.row ps,a,b,.int ch,.ref Z.length,.int j] (Z++[.list acc]) (.aa 3) (.int ch):=ak rfl rfl;have a4:Ev cf [K.row ps,a,b,.int ch,.ref Z.length,.int j] (Z++[.list acc]) (.aa 4) (.ref Z.length):=ak rfl rfl;have a5:Ev cf [K.row ps,a,b,.int ch,.ref Z.length,.int j] (Z++[.list acc]) (.aa 5) (.int j):=ak rfl rfl;have g1:Ev cf [K.row ps,a,b,.int ch,.ref Z.length,.int j] (Z++[.list acc]) (.aA 136) gY:=aX rfl;have w0:=aE (z:=.str K.word) a0 (au (v:=.int 0)) rfl;have g2:=uX g1 rfl w0 (au (v:=.int 0)) F.kp;have e:(if K.kp=0 then none else some (V.int K.kp)).getD (.int 0)=.int K.kp:=by
   split
   ·rename_i q;rw[q];rfl
   ·rfl
  rw[e]at g2;have b1:=cX (o:=.add) (z:=.int (ch+K.kp)) a3 g2 rfl;unfold u6;refine qC a4 dD (by unfold lim;lia) (b9 (ai a5 (ai b1 az))) ?_;rw[gF];refine cY (FQ F js (acc++[V.af [V.int j,V.int (ch+K.kp)]]) (.int j) Z Q (by simp;lia) λx=>?_);have:=k x
  simpa[List.append_assoc]using this
theorem d8(xs:List V):itemsOf (.aC xs)=some xs:=rfl
theorem xd.Xo(F:xd K t0 l0 p al is)(Xq:K.nj<=10):∀js,js.length=K.nj->∀n,6<=n->∀Q Z,(∀c,Q (.aC (K.hl js)) (Z++[c]))->aq ao aj n 6 [K.row js] Q Z:=by
 intro js hj n hn Q Z k;obtain⟨m,rfl⟩:∃m,n=m+5+1:=⟨n-6,(Nat.sub_add_cancel (by assumption)).symm⟩;refine bG (f:=i6) rfl rfl ?_;show WS _ i6.body [K.row js,.ah,.ah,.ah,.ah,.ah] _ Z;have a0:vR (aq ao aj (m+5)) [K.row js,.ah,.ah,.ah,.ah,.ah] Z [.aa 0] [K.row js]:=ai (ak rfl rfl) az;have c2:=fC (k:=2) (v:=.af [.int K.t,.int K.l]) a0 rfl λQ q=>by rw[F.V5 js hj];exact q
 refine zW c2 rfl ?_;show WS _ _ [K.row js,.int K.t,.int K.l,.ah,.ah,.ah] _ Z;have b1:Ev (aq ao aj (m+5)) [K.row js,.int K.t,.int K.l,.ah,.ah,.ah] Z (.bin .sub (.aa 2) (.aa 1)) (.int (K.l-K.t)):=cX (x:=.int K.l) (y:=.int K.t) (ak rfl rfl) (ak rfl rfl) rfl;refine dG b1 ?_;refine sO az ?_;show WS _ _ [K.row js,.int K.t,.int K.l,.int (K.l-K.t),.ref Z.length,.ah] _ _;have a1:vR (aq ao aj (m+5)) [K.row js,.int K.t,.int K.l,.int (K.l-K.t),.ref Z.length,.ah] (Z++[.list []]) [.aa 0] [K.row js]:=ai (ak rfl rfl) az;have c5:=fC (k:=5) (v:=.bool K.go) a1 rfl λQ q=>by rw[F.go js hj];exact q
 have rest:∀acc:List V,acc.length<=1->acc++(js.map λp=>V.af [.int p,.int (K.l-K.t+K.kp)])=K.hl js->WS (aq ao aj (m+5)) [.for true [5] (.call (.aA 3) [(.aa 0)]) u6,.ret (some (.r9 (.aa 4)))] [K.row js,.int K.t,.int K.l,.int (K.l-K.t),.ref Z.length,.ah]
   (λfl Y Z=>match fl with
    |.next=>Q .none Z
    |.ret v=>Q v Z
    |.cont=>False) (Z++[.list acc]):=λacc abZ e=>by
  have a2:vR (aq ao aj (m+5)) [K.row js,.int K.t,.int K.l,.int (K.l-K.t),.ref Z.length,.ah] (Z++[.list acc]) [.aa 0] [K.row js]:=ai (ak rfl rfl) az;have c3:=fC (k:=3) (v:=.aC (js.map V.int)) a2 rfl λQ q=>by rw[F.jo js hj];exact q
  refine cK c3 (d8 _) (FQ F js acc .ah Z _ (by lia) λx=>iW ?_);rw[e];refine yc (ak (v:=.ref Z.length) rfl rfl) dD ?_;show Q _ _;rw[gF];exact k _
 show WS _ (.ite (.call (.aA 5) [(.aa 0)]) [.expr (.append (.aa 4) (.af [(.aI (V.int (-1))),(.aa 3)]))] []::[.for true [5] (.call (.aA 3) [(.aa 0)]) u6,.ret (some (.r9 (.aa 4)))]) _ _ _;cases ya:K.go with
 |true=>
  rw[ya]at c5;refine bU c5 ?_;refine qC (ak (v:=.ref Z.length) rfl rfl) dD (by unfold lim;simp) (b9 (ai (au (v:=.int (-1))) (ai (ak (v:=.int (K.l-K.t)) rfl rfl) az))) ?_;rw[gF];exact mL (rest _ (by simp) (by unfold bN.hl;rw[ya];rfl))
 |false=>
  rw[ya]at c5;exact cE c5 (rest _ (by simp) (by unfold bN.hl;rw[ya];rfl))
end
section
variable {K:bN}{t0 l0:Int}{p:String}{al:Nat}{is:List Int}
theorem pL{a b:V}{z:Bool}(h:eqv a b=some z):iO .ne a b=some (!z):=by
 show(eqv a b).map (! ·)=_;rw[h];rfl
theorem OA{row:List V}:∀{is js:List Int},is.map (λi=>idx row i)=js.map (λp=>some (V.int p))->(is.map V.int).map (λv=>match v with|.int i=>(idx row i).getD .none|_=>.none)=js.map V.int:=by
 intro is;induction is with
 |nil=>
  intro js h;rcases js with _|⟨j,js⟩
  ·rfl
  ·exact nomatch h
 |cons i is ih=>
  intro js h;rcases js with _|⟨j,js⟩
  ·exact nomatch h
  ·simp only[List.map_cons,List.cons.injEq]at h ⊢
   exact⟨by rw[h.1];rfl,ih h.2⟩
theorem K7{row:List V}:∀{is js:List Int},is.map (λi=>idx row i)=js.map (λp=>some (V.int p))->∀i∈is,∃p,idx row i=some (.int p)
 |[],aR,dm,p8,h=>by cases h
 |i::is,j::js,h,x,hx=>by
  simp only[List.map_cons,List.cons.injEq]at h;rcases List.mem_cons.mp hx with rfl|hx
  ·exact⟨j,h.1⟩
  ·exact K7 h.2 x hx
 |aR::dm,[],h,p8,JW=>by simp at h
theorem xd.rr(F:xd K t0 l0 p al is)(Xq:K.nj<=10):∀js,js.length=K.nj->∀(size:Int),(∀p∈js,0<=p/\p<size)->∀n,7<=n->∀Q Z,(∀c,Q (.bool true) (Z++[c]))->aq ao aj n 129 [K.row js,.int size] Q Z:=by
 intro js hj size hp n hn Q Z k;obtain⟨m,rfl⟩:∃m,n=m+6+1:=⟨n-7,(Nat.sub_add_cancel (by assumption)).symm⟩;have m5:m+6=(m+1)+5:=rfl;refine bG (f:=iS) rfl rfl ?_;obtain⟨o,po,pg⟩:=F.pl;obtain⟨lo,ll,lg⟩:=F.ln;have Xm:=F.an js hj;obtain⟨pl,pa⟩:=F.pal;have hil:is.length=js.length:=by have:=congrArg List.length (F.ix js hj);simpa using this
 have s1:Ev (aq ao aj (m+6)) [K.row js,.int size,.ah,.ah,.ah,.ah,.ah,.ah,.ah,.ah,.ah] Z (.comp (.sub (.aa 0) (.aa 8)) true [8] (.get (.aA 145) (.sub (.aa 0) (.aI (V.int 0))) (.bJ [])) none) (.aC (js.map V.int)):=by
  have g1:Ev (aq ao aj (m+6)) [K.row js,.int size,.ah,.ah,.ah,.ah,.ah,.ah,.ah,.ah,.ah] Z (.aA 145) dZ:=aX rfl;have a0:Ev (aq ao aj (m+6)) [K.row js,.int size,.ah,.ah,.ah,.ah,.ah,.ah,.ah,.ah,.ah] Z (.aa 0) (K.row js):=ak rfl rfl;have w0:=aE (z:=.str K.word) a0 (au (v:=.int 0)) rfl;have g2:=uX g1 rfl w0 (bK az) po;rw[pg]at g2;rw[<-OA (F.ix js hj)];refine zX g2 (d8 _) (by rw[List.length_map];unfold lim;lia) λv hv=>?_;obtain⟨i,hi,rfl⟩:=List.mem_map.mp hv;obtain⟨q,hq⟩:=K7 (F.ix js hj) i hi;have a1:Ev (aq ao aj (m+6)) [K.row js,.int size,.ah,.ah,.ah,.ah,.ah,.ah,.int i,.ah,.ah] Z (.aa 0) (K.row js):=ak rfl rfl;have a8:Ev (aq ao aj (m+6)) [K.row js,.int size,.ah,.ah,.ah,.ah,.ah,.ah,.int i,.ah,.ah] Z (.aa 8) (.int i):=ak rfl rfl;have e:cQ (K.row js) (.int i)=some ((idx (.str K.word::K.args js) i).getD .none):=by
   unfold bN.row;rw[yb,hq];rfl
  exact aE a1 a8 e
 refine dG s1 ?_;show WS _ _ [K.row js,.int size,.aC (js.map V.int),.ah,.ah,.ah,.ah,.ah,.ah,.ah,.ah] _ Z;have s2:Ev (aq ao aj (m+6)) [K.row js,.int size,.aC (js.map V.int),.ah,.ah,.ah,.ah,.ah,.ah,.ah,.ah] Z (.cmp .ne (.len (.aa 0)) (.get (.call (.aA 117) []) (.sub (.aa 0) (.aI (V.int 0))) (.len (.aa 0)))) (.bool false):=by
  have a0:Ev (aq ao aj (m+6)) [K.row js,.int size,.aC (js.map V.int),.ah,.ah,.ah,.ah,.ah,.ah,.ah,.ah] Z (.aa 0) (K.row js):=ak rfl rfl;have el:ou (K.row js)=some (.int ((al:Int)+1)):=by
   unfold bN.row;refine(if_pos (by simp;unfold lim;lia)).trans ?_;simp[Xm]
  have l0:=cG a0 el;have c:=fC (cf:=aq ao aj (m+6)) (ρ:=[K.row js,.int size,.aC (js.map V.int),.ah,.ah,.ah,.ah,.ah,.ah,.ah,.ah]) (Z:=Z) (k:=117) (v:=.cM K5) az rfl λQ q=>q;have w0:=aE (z:=.str K.word) a0 (au (v:=.int 0)) rfl;have g2:=uX c rfl w0 l0 ll;rw[lg]at g2;refine aJ (z:=false) l0 g2 (pL (z:=true) ?_);show some (decide _)=_;simp
 have s3:Ev (aq ao aj (m+6)) [K.row js,.int size,.aC (js.map V.int),.ah,.ah,.ah,.ah,.ah,.ah,.ah,.ah] Z (.cmp .ne (.comp (.aa 9) true [9] (.aa 2) (some (.not (.chain (.aI (V.int 0)) .le (.aa 9) .lt (.aa 1))))) (.bJ [])) (.bool false):=by
  have a2:Ev (aq ao aj (m+6)) [K.row js,.int size,.aC (js.map V.int),.ah,.ah,.ah,.ah,.ah,.ah,.ah,.ah] Z (.aa 2) (.aC (js.map V.int)):=ak rfl rfl;have c:=ye (f:=λv=>v) (p:=λY=>false) a2 (d8 _) (by rw[List.length_map];unfold lim;lia) (elt:=.aa 9) (c:=.not (.chain (.aI (V.int 0)) .le (.aa 9) .lt (.aa 1))) (i:=9) (λv hv=>by
   obtain⟨q,hq,rfl⟩:=List.mem_map.mp hv;obtain⟨h1,h2⟩:=hp q hq;have a1:Ev (aq ao aj (m+6)) [K.row js,.int size,.aC (js.map V.int),.ah,.ah,.ah,.ah,.ah,.ah,.int q,.ah] Z (.aa 1) (.int size):=ak rfl rfl;have a9:Ev (aq ao aj (m+6)) [K.row js,.int size,.aC (js.map V.int),.ah,.ah,.ah,.ah,.ah,.ah,.int q,.ah] Z (.aa 9) (.int q):=ak rfl rfl;have e1:iO .le (.int 0) (.int q)=some true:=by show some (decide _)=_;rw[decide_eq_true h1]
   have e2:iO .lt (.int q) (.int size)=some true:=by show some (decide _)=_;rw[decide_eq_true h2]
   exact SS (DW au a9 e1 a1 e2)) (λv hv h=>by cases h)
  refine aJ (z:=false) c (bK az) (pL (z:=true) ?_);rw[show((js.map V.int).filter λY=>false)=[] from by simp];rfl
 refine cE (sN s2 s3) ?_;have a0:vR (aq ao aj (m+6)) [K.row js,.int size,.aC (js.map V.int),.ah,.ah,.ah,.ah,.ah,.ah,.ah,.ah] Z [.aa 0] [K.row js]:=ai (ak rfl rfl) az;refine zW (fC (k:=127) (v:=.af [.int K.t,.int K.l]) a0 rfl λQ q=>by rw[m5,F.Xn js hj];exact q) rfl ?_;show WS _ _ [K.row js,.int size,.aC (js.map V.int),.int K.t,.int K.l,.ah,.ah,.ah,.ah,.ah,.ah] _ Z;have a1:Ev (aq ao aj (m+6)) [K.row js,.int size,.aC (js.map V.int),.int K.t,.int K.l,.ah,.ah,.ah,.ah,.ah,.ah] Z (.aa 0) (K.row js):=ak rfl rfl;have s4:Ev (aq ao aj (m+6)) [K.row js,.int size,.aC (js.map V.int),.int K.t,.int K.l,.ah,.ah,.ah,.ah,.ah,.ah] Z (.cmp .isin (.sub (.aa 0) (.aI (V.int 0))) (.af [(.aI (V.str "jump")),(.aI (V.str "bywant")),(.aI (V.str "return0")),(.aI (V.str "return1")),(.aI (V.str "return2")),(.aI (V.str "subreturn")),(.aI (V.str "loopleave")),(.aI (V.str "refuse"))])) (.bool !K.go):=
  aJ (aE (z:=.str K.word) a1 (au (v:=.int 0)) rfl) (b9 (ai au (ai au (ai au (ai au (ai au (ai au (ai au (ai au az))))))))) F.en
 refine dG s4 ?_;show WS _ _ [K.row js,.int size,.aC (js.map V.int),.int K.t,.int K.l,.bool !K.go,.ah,.ah,.ah,.ah,.ah] _ Z;have b0:vR (aq ao aj (m+6)) [K.row js,.int size,.aC (js.map V.int),.int K.t,.int K.l,.bool !K.go,.ah,.ah,.ah,.ah,.ah] Z [.aa 0] [K.row js]:=ai (ak rfl rfl) az;have b1:=aJ (o:=.ne) (z:=false) (fC (k:=2) (v:=.af [.int K.t,.int K.l]) b0 rfl λQ q=>by rw[m5,F.V5 js hj];exact q) (b9 (ai (ak (i:=3) (v:=.int K.t) rfl rfl) (ai (ak (i:=4) (v:=.int K.l) rfl rfl) az))) (pL (z:=true) (by
  show(if 2=2 then allEq (f6 5) [V.int K.t,V.int K.l] [V.int K.t,V.int K.l] else none)=some true;rw[if_pos rfl];exact kh λx hx=>by
   simp at hx;rcases hx with rfl|rfl<;>exact u5 _))
 have b2:=aJ (o:=.ne) (z:=false) (fC (k:=3) (v:=.aC (js.map V.int)) b0 rfl λQ q=>by rw[m5,F.jo js hj];exact q) (ak (i:=2) (v:=.aC (js.map V.int)) rfl rfl) (pL (z:=true) (FP λx hx=>by
  obtain⟨q,_,rfl⟩:=List.mem_map.mp hx;exact u5 q))
 have b3:=aJ (o:=.eq) (z:=false) (fC (k:=5) (v:=.bool K.go) b0 rfl λQ q=>by rw[m5,F.go js hj];exact q) (ak (i:=5) (v:=.bool !K.go) rfl rfl) (by
  show some (K.go== !K.go)=some false;cases K.go<;>rfl)
 refine cE (K0 b1 b2 b3) ?_;have c1:Ev (aq ao aj (m+6)) [K.row js,.int size,.aC (js.map V.int),.int K.t,.int K.l,.bool !K.go,.ah,.ah,.ah,.ah,.ah] Z (.aa 0) (K.row js):=ak rfl rfl;have w1:=aE (z:=.str K.word) c1 (au (v:=.int 0)) rfl;have d1:=aJ (o:=.isin) w1 (b9 (ai (au (v:=.str "orjump")) (ai (au (v:=.str "andjump")) (ai (au (v:=.str "dorjump")) az)))) F.mo;have d2:=aJ (o:=.eq) (z:=decide (K.word="next")) w1 (au (v:=.str "next")) rfl;have s6:Ev (aq ao aj (m+6)) [K.row js,.int size,.aC (js.map V.int),.int K.t,.int K.l,.bool !K.go,.ah,.ah,.ah,.ah,.ah] Z (.ite (.cmp .isin (.sub (.aa 0) (.aI (V.int 0))) (.af [(.aI (V.str "orjump")),(.aI (V.str "andjump")),(.aI (V.str "dorjump"))])) (.aI (V.int 1)) (.ite (.cmp .eq (.sub (.aa 0) (.aI (V.int 0))) (.aI (V.str "next"))) (.aI (V.int (-1))) (.aI (V.int 0)))) (.int K.kp):=by
  rcases F.kpv with h|h|h
  ·rw[show decide (K.kp=1)=false from by rw[h];rfl]at d1
   rw[decide_eq_false (λz=>by have:=F.nx.mp z;lia)]at d2;rw[h];exact fU d1 (fU d2 au)
  ·rw[decide_eq_true h]at d1
   rw[h];exact gE d1 au
  ·rw[show decide (K.kp=1)=false from by rw[h];rfl]at d1
   rw[decide_eq_true (F.nx.mpr h)]at d2;rw[h];exact fU d1 (gE d2 au)
 refine dG s6 ?_;show WS _ _ [K.row js,.int size,.aC (js.map V.int),.int K.t,.int K.l,.bool !K.go,.int K.kp,.ah,.ah,.ah,.ah] _ Z;have s7:Ev (aq ao aj (m+6)) [K.row js,.int size,.aC (js.map V.int),.int K.t,.int K.l,.bool !K.go,.int K.kp,.ah,.ah,.ah,.ah] Z
   (.bin .add (.ite (.aa 5) (.bJ []) (.bJ [(.af [(.aI (V.int (-1))),(.bin .sub (.aa 4) (.aa 3))])])) (.comp (.af [(.aa 10),(.bin .add (.bin .sub (.aa 4) (.aa 3)) (.aa 6))]) true [10] (.aa 2) none)) (.aC (K.hl js)):=by
  have f1:Ev (aq ao aj (m+6)) [K.row js,.int size,.aC (js.map V.int),.int K.t,.int K.l,.bool !K.go,.int K.kp,.ah,.ah,.ah,.ah] Z (.ite (.aa 5) (.bJ []) (.bJ [(.af [(.aI (V.int (-1))),(.bin .sub (.aa 4) (.aa 3))])])) (.aC (if K.go then [.af [.int (-1),.int (K.l-K.t)]] else [])):=by
   have e5:Ev (aq ao aj (m+6)) [K.row js,.int size,.aC (js.map V.int),.int K.t,.int K.l,.bool !K.go,.int K.kp,.ah,.ah,.ah,.ah] Z (.aa 5) (.bool !K.go):=ak rfl rfl;have e4:Ev (aq ao aj (m+6)) [K.row js,.int size,.aC (js.map V.int),.int K.t,.int K.l,.bool !K.go,.int K.kp,.ah,.ah,.ah,.ah] Z (.bin .sub (.aa 4) (.aa 3)) (.int (K.l-K.t)):=cX (x:=.int K.l) (y:=.int K.t) (ak rfl rfl) (ak rfl rfl) rfl;have g1:=bK (ai (b9 (ai (au (v:=.int (-1))) (ai e4 az))) az);cases ya:K.go with
   |true=>rw[ya]at e5 g1;exact fU e5 g1
   |false=>rw[ya]at e5;exact gE e5 (bK az)
  have f2:=zX (cf:=aq ao aj (m+6)) (Z:=Z) (ρ:=[K.row js,.int size,.aC (js.map V.int),.int K.t,.int K.l,.bool !K.go,.int K.kp,.ah,.ah,.ah,.ah]) (i:=10) (elt:=.af [(.aa 10),(.bin .add (.bin .sub (.aa 4) (.aa 3)) (.aa 6))])
   (f:=λv=>.af [v,.int (K.l-K.t+K.kp)]) (ak (i:=2) (v:=.aC (js.map V.int)) rfl rfl) (d8 _) (by rw[List.length_map];unfold lim;lia) (λv hv=>by
    obtain⟨q,_,rfl⟩:=List.mem_map.mp hv;have e4:Ev (aq ao aj (m+6)) [K.row js,.int size,.aC (js.map V.int),.int K.t,.int K.l,.bool !K.go,.int K.kp,.ah,.ah,.ah,.int q] Z (.bin .sub (.aa 4) (.aa 3)) (.int (K.l-K.t)):=cX (x:=.int K.l) (y:=.int K.t) (ak rfl rfl) (ak rfl rfl) rfl;have e6:=cX (o:=.add) (z:=.int (K.l-K.t+K.kp)) e4 (ak (i:=6) (v:=.int K.kp) rfl rfl) rfl;exact b9 (ai (ak rfl rfl) (ai e6 az)))
  refine cX f1 f2 ?_;refine(if_pos (by split<;>simp<;>lia)).trans ?_;unfold bN.hl;simp
 refine dG s7 ?_;show WS _ [.ret (some (.cmp .eq (.call (.aA 6) [(.aa 0)]) (.aa 7)))] [K.row js,.int size,.aC (js.map V.int),.int K.t,.int K.l,.bool !K.go,.int K.kp,.aC (K.hl js),.ah,.ah,.ah] _ Z;refine K2 (K3 (e9 (j:=6) rfl ?_));refine(ai (ak (v:=K.row js) rfl rfl) az).to _ ?_;refine F.Xo Xq js hj (m+6) (by lia) _ _ λc=>?_;refine(ak (v:=.aC (K.hl js)) rfl rfl).to _ ?_;refine bk (a:=true) ?_ (k c);refine FP λx hx=>?_;unfold bN.hl at hx;rcases List.mem_append.mp hx with h|h
 ·split at h
  ·simp at h;subst h;exact B7 _ _
  ·exact nomatch h
 ·obtain⟨q,_,rfl⟩:=List.mem_map.mp h
  exact B7 _ _
theorem xd.ok(F:xd K t0 l0 p al is)(Xq:K.nj<=3):aF K:=by
 have OB:∀{n:Nat},5<=n->∃m,n=m+5:=λh=>⟨_,(Nat.sub_add_cancel h).symm⟩;exact⟨λjs hj n hn Q Z q=>by obtain⟨m,rfl⟩:=OB hn;rw[F.V5 js hj];exact q,λjs hj n hn Q Z q=>by obtain⟨m,rfl⟩:=OB hn;rw[F.jm js hj];exact q,F.wj,
  λjs hj n hn Q Z q=>by obtain⟨m,rfl⟩:=OB hn;rw[F.Xn js hj];exact q,λjs hj n hn s b Q Z q=>by obtain⟨m,rfl⟩:=OB hn;rw[F.YS js hj];exact q,F.Xo (by lia),F.rr (by lia),F.Ot,F.KU,Xq⟩
end
structure Sp where
 w:String
 as:List V
 t:Int
 l:Int
 t0:Int
 l0:Int
 p:String
 al:Nat
 is:List Int
 go:Bool
 kp:Int
 ds:Int
 db:Int
 ab:Option (Int×Int)
noncomputable def KG(s:Sp):bN:=⟨s.w,λjs=>s.as++js.map V.int,s.t,s.l,s.is.length,s.go,s.kp,s.ds,s.db,s.ab⟩
noncomputable def KS(w:String)(as:List V)(t l:Int)(go:Bool:=true)(ds db:Int:=0)(ab:Option (Int×Int):=none):bN:=⟨w,λY=>as,t,l,0,go,0,ds,db,ab⟩
theorem all_nil{R:α->Prop}:∀w∈([]:List α),R w:=λw h=>by cases h
theorem all_cons{R:α->Prop}{v:α}{l:List α}(h:R v)(t:∀w∈l,R w):∀w∈v::l,R w:=λw hw=>by
 rcases List.mem_cons.mp hw with rfl|hw
 ·exact h
 ·exact t w hw
noncomputable def FT:=KS "empty" [] 0 1
noncomputable def B8:=KS "wanted" [] 0 1
noncomputable def gx(x:V):=KS "const" [x] 0 1
noncomputable def dY(x:V):=KS "refuse" [x] 0 1 false
noncomputable def u7(x:V):=KS "matchvar" [x] 0 1
noncomputable def yf(x:V):=KS "closure" [x] 0 1
noncomputable def yg(x:V):=KS "codefor" [x] 0 1
noncomputable def FU(x:V)(y:V):=KS "pad" [x,y] 0 1
noncomputable def Wd(x:V)(y:V):=KS "my" [x,y] 0 1
noncomputable def zY(x:V)(y:V):=KS "glob" [x,y] 0 1
noncomputable def rg(x:V)(y:V):=KS "localglob" [x,y] 0 1
noncomputable def gJ:=KS "drop" [] 1 0
noncomputable def u9:=KS "dup" [] 1 2
noncomputable def DX:=KS "swap" [] 2 2
noncomputable def cL:=KS "wrap" [] 1 1
noncomputable def DY:=KS "copy" [] 1 1
noncomputable def zZ:=KS "final" [] 1 1
noncomputable def pM:=KS "fetch" [] 1 1
noncomputable def gm:=KS "ascalar" [] 1 1
noncomputable def ri:=KS "newscalar" [] 1 1
noncomputable def FW:=KS "items" [] 1 1
noncomputable def DZ:=KS "size" [] 1 1
noncomputable def FY:=KS "pairs" [] 1 1
noncomputable def n7:=KS "keycount" [] 1 1
noncomputable def yh:=KS "lastidx" [] 1 1
noncomputable def FZ:=KS "poslv" [] 1 1
noncomputable def Qy:=KS "ref" [] 1 1
noncomputable def vc:=KS "refvalue" [] 1 1
noncomputable def vd:=KS "elemrefs" [] 1 1
noncomputable def F0:=KS "anonh" [] 1 1
noncomputable def yi:=KS "members" [] 1 1
noncomputable def pN:=KS "lasttarget" [] 1 1
noncomputable def B9:=KS "preinc" [] 1 1
noncomputable def yj:=KS "postdec" [] 1 1
noncomputable def n8:=KS "joinlist" [] 1 1
noncomputable def D0:=KS "iter" [] 1 1
noncomputable def lZ(x:V):=KS "vivify" [x] 1 1
noncomputable def kj(x:V):=KS "deref" [x] 1 1
noncomputable def K8:=KS "elem" [] 2 1
noncomputable def F1:=KS "helem" [] 2 1
noncomputable def Ca:=KS "elemat" [] 2 1
noncomputable def yk:=KS "helemat" [] 2 1
noncomputable def Cb:=KS "elemlv" [] 2 1
noncomputable def yl:=KS "helemlv" [] 2 1
noncomputable def Cd:=KS "aslice" [] 2 1
noncomputable def Ce:=KS "hslice" [] 2 1
noncomputable def Cf:=KS "lslice" [] 2 1
noncomputable def pO:=KS "assign" [] 2 1
noncomputable def Qz:=KS "xor" [] 2 1
noncomputable def Cg:=KS "repeat" [] 2 1
noncomputable def z0:=KS "range" [] 2 1
noncomputable def ve(x:V):=KS "opassign" [x] 2 1
noncomputable def vf(x:V):=KS "bin" [x] 2 1
noncomputable def F3:=KS "veclv" [] 3 1
noncomputable def qD:=KS "append" [.int 0] 0 1
noncomputable def mP:=KS "append" [.int 1] 1 1
noncomputable def jB:=KS "append" [.int 2] 2 1
noncomputable def ym:=KS "append" [.int 3] 3 1
noncomputable def rj:=KS "substrlv" [.int 2] 2 1
noncomputable def rm:=KS "substrlv" [.int 3] 3 1
noncomputable def l6(x:V):=KS "definesub" [x] 0 0
noncomputable def vh:=KS "aassign" [.int 0] 2 0
noncomputable def z7:=KS "call" [.int 0] 2 0
noncomputable def rq:=KS "callsame" [.int 0] 1 0
noncomputable def jC(x:V):=KS "method" [x,.int 0] 2 0
noncomputable def pP(x:V):=KS "evalblock" [x,.int 0] 0 0
noncomputable def vj(x:V)(y:V):=KS "evalstr" [x,y,.int 0] 1 0
noncomputable def kq:=KS "subreturn" [.int 0] 0 0 false
noncomputable def vm:=KS "aassign" [.int 1] 2 1
noncomputable def z8:=KS "call" [.int 1] 2 1
noncomputable def rt:=KS "callsame" [.int 1] 1 1
noncomputable def jD(x:V):=KS "method" [x,.int 1] 2 1
noncomputable def pQ(x:V):=KS "evalblock" [x,.int 1] 0 1
noncomputable def vn(x:V)(y:V):=KS "evalstr" [x,y,.int 1] 1 1
noncomputable def kr:=KS "subreturn" [.int 1] 1 0 false
noncomputable def vo:=KS "aassign" [.int 2] 2 1
noncomputable def z9:=KS "call" [.int 2] 2 1
noncomputable def rz:=KS "callsame" [.int 2] 1 1
noncomputable def jE(x:V):=KS "method" [x,.int 2] 2 1
noncomputable def pR(x:V):=KS "evalblock" [x,.int 2] 0 1
noncomputable def vq(x:V)(y:V):=KS "evalstr" [x,y,.int 2] 1 1
noncomputable def ku:=KS "subreturn" [.int 2] 1 0 false
noncomputable def bH:=KG ⟨"jump",[],0,0,0,0,"j",1,[1],false,0,0,0,none⟩
noncomputable def gG:=KG ⟨"bywant",[],0,0,0,0,"jjj",3,[1,2,3],false,0,0,0,none⟩
noncomputable def bw:=KG ⟨"iffalse",[],1,0,1,0,"j",1,[1],true,0,0,0,none⟩
noncomputable def jF:=KG ⟨"iftrue",[],1,0,1,0,"j",1,[1],true,0,0,0,none⟩
noncomputable def Aa:=KG ⟨"ifdef",[],1,0,1,0,"j",1,[1],true,0,0,0,none⟩
noncomputable def vt:=KG ⟨"orjump",[],1,0,1,0,"j",1,[1],true,1,0,0,none⟩
noncomputable def qE:=KG ⟨"andjump",[],1,0,1,0,"j",1,[1],true,1,0,0,none⟩
noncomputable def qF:=KG ⟨"dorjump",[],1,0,1,0,"j",1,[1],true,1,0,0,none⟩
noncomputable def D4:=KG ⟨"next",[],1,2,1,2,"j",1,[1],true,(-1),0,0,none⟩
noncomputable def yo(x:V):=KS "bindpad" [x] 1 0
noncomputable def vz(x:V):=KS "bindglob" [x] 1 0
noncomputable def g6:=KS "return0" [] 0 0 false
noncomputable def g7:=KS "return1" [] 1 0 false
noncomputable def qG:=KS "return2" [] 1 0 false
noncomputable def F4:=KS "enter" [] 0 0 true 1 0
noncomputable def iX:=KS "leave" [] 0 0 true (-1) 0
noncomputable def F5:=KS "begin" [] 0 0 true 0 1
noncomputable def Ci:=KS "settle" [] 0 0 true 0 (-1)
noncomputable def Cj:=KS "forget" [] 0 0 true 0 (-1)
noncomputable def bM:=KS "resettle" [] 0 0
noncomputable def jG:=KS "endloop" [] 0 0
noncomputable def K9(x:V):=KS "line" [x] 0 0
noncomputable def Ab(x:V):=KG ⟨"loop",[x],0,0,0,0,"-jjj",4,[2,3,4],true,0,0,0,none⟩
noncomputable def Ck(a:Int)(b:Int)(z:V):=KS "unwind" [.int a,.int b,z] 0 0 true 0 0 (some (a,b))
noncomputable def rC(x:V)(y:V):=KS "loopleave" [x,y] 0 0 false
noncomputable def D5(w:String)(t:Int)(nj:Nat)(go:Bool)(kp:Int)(p:String)(al:Nat):Bool:=decide (sZ (.str w) (.af Qx)=some (!go))&&(decide (sZ (.str w) (.af Wc)=some (decide (kp=1)))&&(decide (w="next"↔kp= -1)&&
 (decide (w="return0"->t=0)&&(decide (w="return1"\/w="return2"->t=1)&&(decide (p.toList.length=al/\al<100)&&(decide ((p.toList.filter λc=>c='j').length=nj)&&decide (kp=0\/kp=1\/kp= -1)))))))
noncomputable def HQ(K:bN)(p:String)(al:Nat)(is js ps:List Int):=λ(n:Nat) (s b:Int) (Q:V->H->Prop) (Z:H)=>(aq ao aj (n+5) 2 [K.row js] Q Z,aq ao aj (n+5) 11 [K.row js] Q Z,aq ao aj (n+5) 127 [K.row js] Q Z,aq ao aj (n+5) 128 [K.row js,.int s,.int b] Q Z,
 aq ao aj (n+5) 5 [K.row js] Q Z,aq ao aj (n+5) 3 [K.row js] Q Z,aq ao aj (n+4) 1 [K.row js] Q Z,(K.args js).length,jh p.toList (K.args js) ps,nq gY (.str K.word),(nq dZ (.str K.word)).map (·.getD (.aC [])),
 is.map (λi=>idx (.str K.word::K.args js) i),(nq (.cM K5) (.str K.word)).map (·.getD (.int (al+1))))
noncomputable def HR(K:bN)(t0 l0:Int)(p:String)(al:Nat)(is js ps:List Int):=λ(_:Nat) (s b:Int) (Q:V->H->Prop) (Z:H)=>(Q (.af [.int K.t,.int K.l]) Z,Q (.aC (js.map V.int)) Z,Q (.af [.int K.t,.int K.l]) Z,Q (.af [.int (K.dep s b).1,.int (K.dep s b).2]) Z,
 Q (.bool K.go) Z,Q (.aC (js.map V.int)) Z,Q (.af [.int t0,.int l0,.str p]) Z,al,K.args ps,some (if K.kp=0 then none else some (V.int K.kp)),some (V.aC (is.map V.int)),js.map (λp=>some (V.int p)),some (V.int (al+1)))
theorem La{β:Type}{o:Option α}{f:α->β}{b:β}(h:o.map f=some b):∃a,o=some a/\f a=b:=Option.map_eq_some_iff.mp h
theorem YX{K:bN}{t0 l0:Int}{p:String}{al:Nat}{is:List Int}(hj:K.nj<=3)(hb:D5 K.word K.t K.nj K.go K.kp p al=true)(h:∀js ps,js.length=K.nj->ps.length=K.nj->HQ K p al is js ps=HR K t0 l0 p al is js ps):aF K:=by
 have g:∀{js ps},js.length=K.nj->ps.length=K.nj->∀n s b Q Z,HQ K p al is js ps n s b Q Z=HR K t0 l0 p al is js ps n s b Q Z:=λa b n s c Q Z=>congrFun (congrFun (congrFun (congrFun (congrFun (h _ _ a b) n) s) c) Q) Z;have z:(List.replicate K.nj (0:Int)).length=K.nj:=List.length_replicate;have e:=congrArg (λx=>x.2.2.2.2.2.2.2.2.2) (g z z 0 0 0 (λY Y=>True) []);have b:=an hb;have b2:=an b.2;have b3:=an b2.2;have b4:=an b3.2;have b5:=an b4.2;have b6:=an b5.2;have b7:=an b6.2;exact xd.ok (t0:=t0) (l0:=l0) (p:=p) (al:=al) (is:=is) ⟨λY h n Q Z=>congrArg (·.1) (g h h n 0 0 Q Z),λY h n Q Z=>congrArg (·.2.1) (g h h n 0 0 Q Z),λY h n Q Z=>congrArg (·.2.2.1) (g h h n 0 0 Q Z),λY h n s b Q Z=>congrArg (·.2.2.2.1) (g h h n s b Q Z),
  λY h n Q Z=>congrArg (·.2.2.2.2.1) (g h h n 0 0 Q Z),λY h n Q Z=>congrArg (·.2.2.2.2.2.1) (g h h n 0 0 Q Z),λY h n Q Z=>congrArg (·.2.2.2.2.2.2.1) (g h h n 0 0 Q Z),λY h=>congrArg (·.2.2.2.2.2.2.2.1) (g h h 0 0 0 (λY Y=>True) []),
  dt b6.1,dt b7.1,λY Y h h'=>congrArg (·.2.2.2.2.2.2.2.2.1) (g h h' 0 0 0 (λY Y=>True) []),congrArg (·.1) e,La (congrArg (·.2.1) e),λY h=>congrArg (·.2.2.2.2.2.2.2.2.2.2.2.1) (g h h 0 0 0 (λY Y=>True) []),La (congrArg (·.2.2.2) e),
  dt b.1,dt b2.1,dt b3.1,dt b7.2,dt b4.1,dt b5.1⟩ hj
theorem cP{w:String}{as:List V}{t l:Int}{go:Bool}{ds db:Int}{ab:Option (Int×Int)}(t0 l0:Int)(p:String)(al:Nat)(h:HQ (KS w as t l go ds db ab) p al [] [] []=HR (KS w as t l go ds db ab) t0 l0 p al [] [] [])(hb:autoParam (D5 w t 0 go 0 p al=true) vU):aF (KS w as t l go ds db ab):=
 YX (Nat.zero_le _) hb λY Y a b=>by cases nil_of a;cases nil_of b;exact h
theorem JS{s:Sp}(hj:s.is.length=1)(h:∀a b,HQ (KG s) s.p s.al s.is [a] [b]=HR (KG s) s.t0 s.l0 s.p s.al s.is [a] [b])(hb:autoParam (D5 s.w s.t 1 s.go s.kp s.p s.al=true) vU):aF (KG s):=
 YX (Nat.le_trans (Nat.le_of_eq hj) (by decide)) (show D5 s.w s.t s.is.length s.go s.kp s.p s.al=true from hj▸hb) λY Y a b=>by
  obtain⟨_,rfl⟩:=K6 (a.trans hj);obtain⟨_,rfl⟩:=K6 (b.trans hj);exact h _ _
theorem ok3{s:Sp}(hj:s.is.length=3)(hb:D5 s.w s.t 3 s.go s.kp s.p s.al=true)(h:∀a b c a' b' c',HQ (KG s) s.p s.al s.is [a,b,c] [a',b',c']=HR (KG s) s.t0 s.l0 s.p s.al s.is [a,b,c] [a',b',c']):aF (KG s):=
 YX (Nat.le_trans (Nat.le_of_eq hj) (by decide)) (show D5 s.w s.t s.is.length s.go s.kp s.p s.al=true from hj▸hb) λY Y a b=>by
  obtain⟨_,_,_,rfl⟩:=B6 (a.trans hj);obtain⟨_,_,_,rfl⟩:=B6 (b.trans hj);exact h _ _ _ _ _ _
set_option smartUnfolding false
theorem OC:aF (FT):=cP 0 1 "" 0 rfl
theorem Lb:aF (B8):=cP 0 1 "" 0 rfl
theorem gW(x:V):aF (gx x):=cP 0 1 "-" 1 rfl
theorem eV(x:V):aF (dY x):=cP 0 1 "-" 1 rfl
theorem D6(x:V):aF (u7 x):=cP 0 1 "-" 1 rfl
theorem HS(x:V):aF (yf x):=cP 0 1 "-" 1 rfl
theorem HT(x:V):aF (yg x):=cP 0 1 "-" 1 rfl
theorem Lc(x:V)(y:V):aF (FU x y):=cP 0 1 "--" 2 rfl
theorem YY(x:V)(y:V):aF (Wd x y):=cP 0 1 "--" 2 rfl
theorem D7(x:V)(y:V):aF (zY x y):=cP 0 1 "--" 2 rfl
theorem Cm(x:V)(y:V):aF (rg x y):=cP 0 1 "--" 2 rfl
theorem iG:aF (gJ):=cP 1 0 "" 0 rfl
theorem yp:aF (u9):=cP 1 2 "" 0 rfl
theorem Ld:aF (DX):=cP 2 2 "" 0 rfl
theorem cZ:aF (cL):=cP 1 1 "" 0 rfl
theorem Le:aF (DY):=cP 1 1 "" 0 rfl
theorem F6:aF (zZ):=cP 1 1 "" 0 rfl
theorem sP:aF (pM):=cP 1 1 "" 0 rfl
theorem g8:aF (gm):=cP 1 1 "" 0 rfl
theorem Cn:aF (ri):=cP 1 1 "" 0 rfl
theorem OD:aF (FW):=cP 1 1 "" 0 rfl
theorem Lf:aF (DZ):=cP 1 1 "" 0 rfl
theorem OE:aF (FY):=cP 1 1 "" 0 rfl
theorem vA:aF (n7):=cP 1 1 "" 0 rfl
theorem HU:aF (yh):=cP 1 1 "" 0 rfl
theorem OF:aF (FZ):=cP 1 1 "" 0 rfl
theorem We:aF (Qy):=cP 1 1 "" 0 rfl
theorem D8:aF (vc):=cP 1 1 "" 0 rfl
theorem D9:aF (vd):=cP 1 1 "" 0 rfl
theorem OG:aF (F0):=cP 1 1 "" 0 rfl
theorem HV:aF (yi):=cP 1 1 "" 0 rfl
theorem Ac:aF (pN):=cP 1 1 "" 0 rfl
theorem Lg:aF (B9):=cP 1 1 "" 0 rfl
theorem HW:aF (yj):=cP 1 1 "" 0 rfl
theorem vB:aF (n8):=cP 1 1 "" 0 rfl
theorem Lh:aF (D0):=cP 1 1 "" 0 rfl
theorem pS(x:V):aF (lZ x):=cP 1 1 "-" 1 rfl
theorem mQ(x:V):aF (kj x):=cP 1 1 "-" 1 rfl
theorem S4:aF (K8):=cP 2 1 "" 0 rfl
theorem OH:aF (F1):=cP 2 1 "" 0 rfl
theorem Li:aF (Ca):=cP 2 1 "" 0 rfl
theorem HX:aF (yk):=cP 2 1 "" 0 rfl
theorem Lj:aF (Cb):=cP 2 1 "" 0 rfl
theorem HY:aF (yl):=cP 2 1 "" 0 rfl
theorem Lk:aF (Cd):=cP 2 1 "" 0 rfl
theorem Ll:aF (Ce):=cP 2 1 "" 0 rfl
theorem Lm:aF (Cf):=cP 2 1 "" 0 rfl
theorem vC:aF (pO):=cP 2 1 "" 0 rfl
theorem Wf:aF (Qz):=cP 2 1 "" 0 rfl
theorem Ln:aF (Cg):=cP 2 1 "" 0 rfl
theorem F7:aF (z0):=cP 2 1 "" 0 rfl
theorem Ea(x:V):aF (ve x):=cP 2 1 "-" 1 rfl
theorem yq(x:V):aF (vf x):=cP 2 1 "-" 1 rfl
theorem OI:aF (F3):=cP 3 1 "" 0 rfl
theorem yr:aF (qD):=cP 0 1 "n" 1 rfl
theorem qH:aF (mP):=cP 0 1 "n" 1 rfl
theorem mR:aF (jB):=cP 0 1 "n" 1 rfl
theorem HZ:aF (ym):=cP 0 1 "n" 1 rfl
theorem Co:aF (rj):=cP 0 1 "n" 1 rfl
theorem Cp:aF (rm):=cP 0 1 "n" 1 rfl
theorem rD(x:V):aF (l6 x):=cP 0 0 "-" 1 rfl
theorem Eb:aF (vh):=cP 2 1 "w" 1 rfl
theorem F8:aF (z7):=cP 2 1 "w" 1 rfl
theorem Cq:aF (rq):=cP 1 1 "w" 1 rfl
theorem mS(x:V):aF (jC x):=cP 2 1 "-w" 2 rfl
theorem Ad(x:V):aF (pP x):=cP 0 1 "-w" 2 rfl
theorem Ec(x:V)(y:V):aF (vj x y):=cP 1 1 "--w" 3 rfl
theorem pT:aF (kq):=cP 0 0 "s" 1 rfl
theorem Ed:aF (vm):=cP 2 1 "w" 1 rfl
theorem F9:aF (z8):=cP 2 1 "w" 1 rfl
theorem Cr:aF (rt):=cP 1 1 "w" 1 rfl
theorem mT(x:V):aF (jD x):=cP 2 1 "-w" 2 rfl
theorem Ae(x:V):aF (pQ x):=cP 0 1 "-w" 2 rfl
theorem Ef(x:V)(y:V):aF (vn x y):=cP 1 1 "--w" 3 rfl
theorem pU:aF (kr):=cP 0 0 "s" 1 rfl
theorem Eg:aF (vo):=cP 2 1 "w" 1 rfl
theorem Ga:aF (z9):=cP 2 1 "w" 1 rfl
theorem Cs:aF (rz):=cP 1 1 "w" 1 rfl
theorem mU(x:V):aF (jE x):=cP 2 1 "-w" 2 rfl
theorem Af(x:V):aF (pR x):=cP 0 1 "-w" 2 rfl
theorem Eh(x:V)(y:V):aF (vq x y):=cP 1 1 "--w" 3 rfl
theorem pV:aF (ku):=cP 0 0 "s" 1 rfl
theorem H6(x:V):aF (yo x):=cP 1 0 "-" 1 rfl
theorem Ei(x:V):aF (vz x):=cP 1 0 "-" 1 rfl
theorem gq:aF (g6):=cP 0 0 "" 0 rfl
theorem g9:aF (g7):=cP 1 0 "" 0 rfl
theorem ic:aF (qG):=cP 1 0 "" 0 rfl
theorem OJ:aF (F4):=cP 0 0 "" 0 rfl
theorem kB:aF (iX):=cP 0 0 "" 0 rfl
theorem OL:aF (F5):=cP 0 0 "" 0 rfl
theorem Lo:aF (Ci):=cP 0 0 "" 0 rfl
theorem Lq:aF (Cj):=cP 0 0 "" 0 rfl
theorem bR:aF (bM):=cP 0 0 "" 0 rfl
theorem mV:aF (jG):=cP 0 0 "" 0 rfl
theorem S6(x:V):aF (K9 x):=cP 0 0 "-" 1 rfl
theorem Lr(a:Int)(b:Int)(z:V):aF (Ck a b z):=cP 0 0 "---" 3 rfl
theorem Ct(x:V)(y:V):aF (rC x y):=cP 0 0 "--" 2 rfl
theorem bL:aF bH:=JS rfl λY Y=>rfl
theorem bz:aF bw:=JS rfl λY Y=>rfl
theorem l7:aF jF:=JS rfl λY Y=>rfl
theorem Gb:aF Aa:=JS rfl λY Y=>rfl
theorem Cu:aF vt:=JS rfl λY Y=>rfl
theorem yt:aF qE:=JS rfl λY Y=>rfl
theorem yu:aF qF:=JS rfl λY Y=>rfl
theorem Ls:aF D4:=JS rfl λY Y=>rfl
theorem iH:aF gG:=ok3 rfl (by decide+kernel) λY Y Y Y Y Y=>rfl
theorem S7(x:V):aF (Ab x):=ok3 rfl (show D5 "loop" 0 3 true 0 "-jjj" 4=true by decide+kernel) λa b c d e f=>(rfl:HQ (Ab x) "-jjj" 4 [2,3,4] [a,b,c] [d,e,f]=HR (Ab x) 0 0 "-jjj" 4 [2,3,4] [a,b,c] [d,e,f])
set_option smartUnfolding true
noncomputable def dl(w:Int):Int:=if w=0 then 0 else 1
theorem QA(d:f5)(a b:Off):(d.at a).at b=d.at ⟨a.x+b.x,a.y+b.y,a.z+b.z⟩:=by simp only[f5.at,Int.add_assoc]
theorem dH{a b:Off}(h:a.x=b.x/\a.y=b.y/\a.z=b.z):a=b:=by
 obtain⟨a1,a2,a3⟩:=a;obtain⟨b1,b2,b3⟩:=b;obtain⟨h1,h2,h3⟩:=h;simp only at h1 h2 h3;rw[h1,h2,h3]
section
variable {g:Nat}{P:GP}{F Wt:Nat}{bA:H}{S0:GS}{Z:H}{U:List (Nat×Off)}{Lp:List dB}{W:Nat}{o r:Off}{n:Nat}{Q:V->H->Prop}
noncomputable def Ag(o:Off):Bool:=decide (0<=o.x)&&decide (0<=o.y)&&decide (0<=o.z)
theorem fD{o:Off}(h:Ag o=true):0<=o.x/\0<=o.y/\0<=o.z:=by
 unfold Ag at h;simp only[Bool.and_eq_true,decide_eq_true_eq]at h;exact⟨h.1.1,h.1.2,h.2⟩
noncomputable def Lu(a b:Off):Bool:=decide (a.x=b.x)&&decide (a.y=b.y)&&decide (a.z=b.z)
theorem iY{a b:Off}(h:Lu a b=true):a=b:=by
 unfold Lu at h;simp only[Bool.and_eq_true,decide_eq_true_eq]at h;exact dH ⟨h.1.1,h.1.2,h.2⟩
theorem dc1{a x:Int}{f F:Nat}(h4:x<=4)(hF:f+1<=F)(b:a+4*F<=700):a+x+4*f<=700:=by
 rw[Int.add_assoc];exact Int.le_trans (Int.add_le_add_left (Int.le_trans (Int.add_le_add_right h4 _) (show((4+4*f:Nat):Int)<=((4*F:Nat):Int) from Int.ofNat_le.mpr (Nat.add_comm (4*f) 4▸Nat.mul_le_mul_left 4 hF))) a) b
theorem aO.calls{fn:Nat}{as:List V}(h:aO n fn as F' W' δ)(R:Run g P F Wt bA S0 Z U Lp W o o)(ho:o'=⟨o.x+δ,o.y,o.z⟩)(h0:0<=o.x/\0<=o.y/\0<=o.z)(h4:o.x<=4)(hF:F'+1<=F)(hW:W+W'<=Wt)
  (hL:∀l∈Lp,l.d.h<=S0.re.h+o.x)(k:∀Z',Run g P F Wt bA S0 Z' U Lp (W+W') o' o'->Q .none Z'):aq ao aj n fn (.ref g::as) Q Z:=by
 obtain⟨S,R,c1,c2⟩:=R;have YZ:S.re.h=S0.re.h+o.x:=by rw[c2];rfl
 have b1:=R.bd;have b2:=R.len;have b3:=R.hh;refine h g P Z S Q R.gi (c1.trans c2.symm) (by rw[c2];exact B0 R.DT h0) (λl hl=>?_) (by rw[YZ];exact dc1 h4 hF b3) (Nat.le_trans (Nat.le_of_succ_le hF) R.fd) (Nat.lt_of_le_of_lt (Nat.le_trans (Nat.add_le_add_right b2 W') (by rw[Nat.add_assoc];exact Nat.add_le_add_left hW _)) b1) λZ' X=>X.elim λS' X=>k Z' ⟨S',?_,?_,?_⟩
 ·rw[R.loops]at hl
  rcases List.mem_append.mp hl with q|q
  ·rw[YZ];exact Int.le_trans (R.Ou l q) (Int.le_add_of_nonneg_right h0.1)
  ·rw[YZ];exact hL l q
 ·have R':=X.1
  have wf':=R'.gi.wf;refine R.next R'.gi R'.fl R'.fr (Nat.le_trans R'.len (by rw[<-Nat.add_assoc];exact Nat.add_le_add_right b2 W')) (by rw[R'.loops,R.loops,List.append_nil]) R'.ml (λm hm=>R'.old m (Nat.lt_of_lt_of_le hm R.ml)) ?_ ?_ R.ud
  ·intro m a b
   rcases Nat.lt_or_ge m S.marks.length with q|q
   ·rcases R.new m a q with⟨e,he⟩|⟨p,hp,_,_⟩
    ·exact .inl ⟨e,he⟩
    ·refine .inr ?_
     rcases wf'.mark m p (by rw[(R'.old m q).1];exact hp)with z|z
     ·exact absurd z (by lia)
     ·exact z
   ·rcases R'.new m q b with⟨e,he⟩|h
    ·cases he
    ·exact .inr h
  ·intro m e he
   obtain⟨a1,a2,a3,a4⟩:=R.un m e he;obtain⟨e1,e2⟩:=R'.old m a2;exact⟨a1,Nat.lt_of_lt_of_le a2 R'.ml,by rw[e1];exact a3,by rw[e2];exact a4⟩
 ·rw[X.2.1,c2,QA,ho]
  congr 1;exact dH ⟨rfl,by simp,by simp⟩
 ·rw[X.2.2,c2,QA,ho]
  congr 1;exact dH ⟨rfl,by simp,by simp⟩
noncomputable def cB(o o':Off)(δ:Int):Bool:=Ag o&&decide (o.x<=4)&&Lu o' ⟨o.x+δ,o.y,o.z⟩
theorem aO.call{fn:Nat}{as:List V}(h:aO n fn as F' W' δ)(o':Off)(R:Run g P F Wt bA S0 Z U [] W o o)(hb:cB o o' δ=true)(k:∀Z',Run g P F Wt bA S0 Z' U [] (W+W') o' o'->Q .none Z')(hn:autoParam (F'+1<=F/\W+W'<=Wt) bu):
  aq ao aj n fn (.ref g::as) Q Z:=by
 have hb:=an hb;have hc:=an hb.1;exact h.calls R (iY hb.2) (fD hc.1) (dt hc.2) hn.1 hn.2 (λl q=>by cases q) k
noncomputable def layB(K:bN)(o o':Off):Bool:=K.ab.isNone&&K.go&&Ag o&&decide (K.t<=o.x)&&Lu o' ⟨o.x+(K.l-K.t),o.y+K.ds,o.z+K.db⟩
theorem vD{K:bN}{o:Off}(h:layB K o o'=true):K.ab=none/\K.go=true/\(0<=o.x/\0<=o.y/\0<=o.z)/\K.t<=o.x/\o'=⟨o.x+(K.l-K.t),o.y+K.ds,o.z+K.db⟩:=by
 unfold layB at h;simp only[Bool.and_eq_true,decide_eq_true_eq,Option.isNone_iff_eq_none]at h;exact⟨h.1.1.1.1,h.1.1.1.2,fD h.1.1.2,h.1.2,iY h.2⟩
noncomputable def Wg(K:bN)(k:Nat)(o o':Off):Bool:=layB K o o'&&decide (K.nj=k/\K.ds=0/\K.db=0)
theorem Gd{K:bN}{k:Nat}{o:Off}(h:Wg K k o o'=true):layB K o o'=true/\K.nj=k/\K.ds=0/\K.db=0:=by
 have:=an h;exact⟨this.1,dt this.2⟩
theorem Ej{K:bN}{k:Nat}{o:Off}(h:layB K o o'=true)(hj:K.nj=k/\K.ds=0/\K.db=0):Wg K k o o'=true:=by
 unfold Wg;rw[h,decide_eq_true hj];rfl
theorem LG(K:bN)(o':Off)(R:Run g P F Wt bA S0 Z U Lp W o o)(hK:aF K)(hb:Wg K 0 o o'=true)
  (k:∀Z',Run g P F Wt bA S0 Z' U Lp (W+1) o' o'->Q .none Z')(hw:autoParam (W+1<=Wt/\6<=n) bu):aq ao aj n 7 [.ref g,K.row []] Q Z:=by
 obtain⟨hw,h6⟩:=hw;obtain⟨hb,hj⟩:=Gd hb;obtain⟨b1,b2,b3,b4,rfl⟩:=vD hb;refine zU (K:=K) (js:=[]) R hK hj.1.symm b1 b2 b3 b4 (λm h=>by cases h) hw h6 λZ' R'=>k Z' ?_;have e:(⟨o.x+(K.l-K.t),o.y,o.z⟩:Off)=⟨o.x+(K.l-K.t),o.y+K.ds,o.z+K.db⟩:=dH ⟨rfl,by simp[hj.2.1],by simp[hj.2.2]⟩;rw[e]at R';exact R'
theorem LO(K:bN)(o':Off)(R:Run g P F Wt bA S0 Z U Lp W o r)(hK:aF K)(hj:K.nj=0)(hb:layB K o o'=true)
  (k:∀Z',Run g P F Wt bA S0 Z' U Lp (W+1) o' ⟨r.x+(K.l-K.t),r.y,r.z⟩->Q .none Z')(hw:autoParam (W+1<=Wt/\6<=n) bu):aq ao aj n 7 [.ref g,K.row []] Q Z:=by
 obtain⟨hw,h6⟩:=hw;obtain⟨b1,b2,b3,b4,rfl⟩:=vD hb;exact zU (K:=K) (js:=[]) R hK hj.symm b1 b2 b3 b4 (λm h=>by cases h) hw h6 k
theorem LJ(K:bN)(m:Nat)(o':Off)(R:Run g P F Wt bA S0 Z U Lp W o o)(hK:aF K)(hb:Wg K 1 o o'=true){e:Off}(hm:(m,e)∈U)(he:Lu e ⟨o'.x+K.kp,o'.y,o'.z⟩=true)
  (k:∀Z',Run g P F Wt bA S0 Z' U Lp (W+1) o' o'->Q .none Z')(hw:autoParam (W+1<=Wt/\6<=n) bu):aq ao aj n 7 [.ref g,K.row [(m:Int)]] Q Z:=by
 obtain⟨hw,h6⟩:=hw;obtain⟨hb,hj⟩:=Gd hb;obtain⟨b1,b2,b3,b4,rfl⟩:=vD hb;refine zU (K:=K) (js:=[m]) R hK hj.1.symm b1 b2 b3 b4 (λm' h=>?_) hw h6 λZ' R'=>k Z' ?_
 ·cases List.mem_singleton.mp h
  have:=iY he;subst this;simp only[<-Int.add_assoc]at hm ⊢;exact hm
 ·have e:(⟨o.x+(K.l-K.t),o.y,o.z⟩:Off)=⟨o.x+(K.l-K.t),o.y+K.ds,o.z+K.db⟩:=dH ⟨rfl,by simp[hj.2.1],by simp[hj.2.2]⟩
  rw[e]at R';exact R'
noncomputable def QB(K:bN)(o:Off):Bool:=K.ab.isNone&& !K.go&&Ag o&&decide (K.t<=o.x)&&decide (K.ds=0)&&decide (K.db=0)&&decide (K.kp=0)
theorem LE(K:bN)(js:List Nat)(o' r':Off)(R:Run g P F Wt bA S0 Z U Lp W o r)(hK:aF K)(hj:js.length=K.nj)(hb:QB K o=true)(hm:∀m∈js,(m,(⟨o.x+(K.l-K.t),o.y,o.z⟩:Off))∈U)(hr:Lu r' ⟨r.x+(K.l-K.t),r.y,r.z⟩=true)
  (k:∀Z',Run g P F Wt bA S0 Z' U Lp (W+1) o' r'->Q .none Z')(hw:autoParam (W+1<=Wt/\6<=n) bu):aq ao aj n 7 [.ref g,K.row (js.map λ(m:Nat)=>(m:Int))] Q Z:=by
 obtain⟨hw,h6⟩:=hw;unfold QB at hb;simp only[Bool.and_eq_true,decide_eq_true_eq,Option.isNone_iff_eq_none,Bool.not_eq_true']at hb;obtain⟨⟨⟨⟨⟨⟨b1,b2⟩,b3⟩,b4⟩,b5⟩,b6⟩,b7⟩:=hb;refine KX (K:=K) (js:=js) o' R hK hj b1 b2 (fD b3) b4 (λm h=>?_) hw h6 λZ' R'=>k Z' ?_
 ·have:=hm m h
  rw[b5,b6,b7]
  simpa using this
 ·rw[iY hr]
  exact R'
theorem Run.Y0{v:V}(r':Off)(R:Run g P F Wt bA S0 Z U Lp W o r)(h:∀re,re=S0.re.at r->dS (gI gD g P re) nm v=gI gD g P (S0.re.at r')){p:H->Prop}(k:∀Z',Run g P F Wt bA S0 Z' U Lp W o r'->p Z'):aT (ie Z (.ref g) nm v) p:=by
 obtain⟨S,R,c1,c2⟩:=R;have gi:=R.gi;have Ov:=gi.lt;refine xZ gi.inst (by show 10<900;lia) ?_;refine k _ ⟨{S with re:=S0.re.at r'},?_,c1,rfl⟩;have e:∀{y:MO} {i:Nat},i≠g->(Z.set g y)[i]?=Z[i]? :=λq=>cF λz=>q z.symm;refine R.next ⟨?_,?_,?_,?_,?_,⟨gi.wf.mark,gi.wf.row,gi.wf.loop,gi.wf.sub,gi.wf.kn,gi.wf.d0⟩⟩ (by simp) (λi a b=>e (by lia)) R.len R.loops (Nat.le_refl _) (λY Y=>⟨rfl,rfl⟩) R.new R.un R.ud
 ·rw[bW gi.inst,h _ c2]
 ·rw[e (by lia)];exact gi.rows
 ·rw[e (by lia)];exact gi.marks
 ·rw[e (by lia)];exact gi.loops
 ·rw[e (by lia)];exact gi.subs
theorem Run.attr{v:V}(R:Run g P F Wt bA S0 Z U Lp W o r)(h:∀re,re=S0.re.at r->sY (gI gD g P re) nm=some v)(k:p v):aT (dQ Z (.ref g) nm) p:=by
 obtain⟨S,R,c1,c2⟩:=R;exact lW R.gi.inst (h _ c2) k
theorem Run.Lv(x:Int)(R:Run g P F Wt bA S0 Z U Lp W o r)(h:hh=S0.re.h+x){p:H->Prop}(k:∀Z',Run g P F Wt bA S0 Z' U Lp W o ⟨x,r.y,r.z⟩->p Z'):aT (ie Z (.ref g) "height" (.int hh)) p:=
 R.Y0 ⟨x,r.y,r.z⟩ (λre e=>by subst e;subst h;rfl) k
theorem Run.S8(y:Int)(R:Run g P F Wt bA S0 Z U Lp W o r)(h:hh=S0.re.s+y){p:H->Prop}(k:∀Z',Run g P F Wt bA S0 Z' U Lp W o ⟨r.x,y,r.z⟩->p Z'):aT (ie Z (.ref g) "scopes" (.int hh)) p:=
 R.Y0 ⟨r.x,y,r.z⟩ (λre e=>by subst e;subst h;rfl) k
theorem Run.setB(z:Int)(R:Run g P F Wt bA S0 Z U Lp W o r)(h:hh=S0.re.b+z){p:H->Prop}(k:∀Z',Run g P F Wt bA S0 Z' U Lp W o ⟨r.x,r.y,z⟩->p Z'):aT (ie Z (.ref g) "starts" (.int hh)) p:=
 R.Y0 ⟨r.x,r.y,z⟩ (λre e=>by subst e;subst h;rfl) k
theorem Run.scopes(R:Run g P F Wt bA S0 Z U Lp W o r)(k:p (.int (S0.re.s+r.y))):aT (dQ Z (.ref g) "scopes") p:=R.attr (λre e=>by subst e;rfl) k
theorem Run.starts(R:Run g P F Wt bA S0 Z U Lp W o r)(k:p (.int (S0.re.b+r.z))):aT (dQ Z (.ref g) "starts") p:=R.attr (λre e=>by subst e;rfl) k
theorem Run.tab(R:Run g P F Wt bA S0 Z U Lp W o r)(k:p gD):aT (dQ Z (.ref g) "tables") p:=R.attr (λre e=>rfl) k
theorem Run.rY(R:Run g P F Wt bA S0 Z U Lp W o r)(k:p (.bool P.is)):aT (dQ Z (.ref g) "is_sub") p:=R.attr (λre e=>rfl) k
theorem Run.S9(R:Run g P F Wt bA S0 Z U Lp W o r)(k:p (.bool P.ls)):aT (dQ Z (.ref g) "lays_subs") p:=R.attr (λre e=>rfl) k
theorem PM{m:Nat}{e:Off}(U':List (Nat×Off))(x:Int)(R:Run g P F Wt bA S0 Z U Lp W o r)(hp:U.Perm ((m,e)::U'))(he:e=o)(hx:hh=S0.re.h+x)(hr:(⟨x,r.y,r.z⟩:Off)=o)
  (k:∀Z',Run g P F Wt bA S0 Z' U' Lp W o o->Q .none Z')(hw:autoParam (W+1<=Wt/\1<=n) bu):aq ao aj n 9 [.ref g,.int m,.int hh] Q Z:=
 have⟨hw,h1⟩:=hw
 pK R hp he hx hw h1 λZ' R'=>k Z' (by rw[hr]at R';exact R')
theorem Run.grow(R:Run g P F Wt bA S0 Z U Lp W o r)(hl:Z.length<=Z'.length)(h:∀i,i<Z.length->Z'[i]?=Z[i]?):Run g P F Wt bA S0 Z' U Lp W o r:=by
 obtain⟨S,R,c⟩:=R;have gi:=R.gi;have Ov:=gi.lt;refine⟨S,R.next ⟨?_,?_,?_,?_,?_,gi.wf⟩ hl (λi a Y=>h i a) R.len R.loops (Nat.le_refl _) (λY Y=>⟨rfl,rfl⟩) R.new R.un R.ud,c⟩
 ·rw[h _ (by lia)];exact gi.inst
 ·rw[h _ (by lia)];exact gi.rows
 ·rw[h _ (by lia)];exact gi.marks
 ·rw[h _ (by lia)];exact gi.loops
 ·rw[h _ (by lia)];exact gi.subs
end
noncomputable def Cv(w:Int):Prop:=w=0\/w=1\/w=2
section
variable {g:Nat}{P:GP}{F Wt:Nat}{bA:H}{S0:GS}{Z:H}{U:List (Nat×Off)}{Lp:List dB}{W:Nat}{o r:Off}{n:Nat}{Q:V->H->Prop}{w:Int}
theorem mW{K:bN}{o:Off}(h1:K.ab=none)(h2:K.go=true)(h3:Ag o=true)(h4:K.t<=o.x)(h5:o'=⟨o.x+(K.l-K.t),o.y+K.ds,o.z+K.db⟩):layB K o o'=true:=by
 subst h5;unfold layB Lu;simp[h1,h2,h3,h4]
theorem vg(hw:Cv w)(R:Run g P F Wt bA S0 Z U Lp W ⟨1,0,0⟩ ⟨1,0,0⟩)(k:∀Z',Run g P F Wt bA S0 Z' U Lp (W+1) ⟨dl w,0,0⟩ ⟨dl w,0,0⟩->Q .none Z')(hW:autoParam (W+1<=Wt/\7<=n) bu):aq ao aj n 17 [.ref g,.int w] Q Z:=by
 obtain⟨hW,hn⟩:=hW;obtain⟨n,rfl⟩:=e1 n;rcases hw with rfl|rfl|rfl
 ·refine LG gJ ⟨0,0,0⟩ R iG rfl k
 ·exact k _ R.w
 ·refine LG cL ⟨1,0,0⟩ R cZ rfl k
theorem sg(hw:Cv w)(R:Run g P F Wt bA S0 Z U Lp W ⟨1,0,0⟩ ⟨1,0,0⟩)(k:∀Z',Run g P F Wt bA S0 Z' U Lp (W+2) ⟨dl w,0,0⟩ ⟨dl w,0,0⟩->Q .none Z')(hW:autoParam (W+2<=Wt/\8<=n) bu):aq ao aj n 18 [.ref g,.int w] Q Z:=by
 obtain⟨hW,hn⟩:=hW;obtain⟨n,rfl⟩:=e1 n;rcases hw with rfl|rfl|rfl
 ·refine LG pM ⟨1,0,0⟩ R sP rfl λZ R=>?_
  exact vg (.inl rfl) R k
 ·refine LG pM ⟨1,0,0⟩ R sP rfl λZ R=>?_
  exact vg (.inr (.inl rfl)) R k
 ·refine LG cL ⟨1,0,0⟩ R cZ rfl λZ R=>?_
  exact k _ R.w
theorem lg(hw:Cv w)(R:Run g P F Wt bA S0 Z U Lp W ⟨1,0,0⟩ ⟨1,0,0⟩)(k:∀Z',Run g P F Wt bA S0 Z' U Lp (W+2) ⟨dl w,0,0⟩ ⟨dl w,0,0⟩->Q .none Z')(hW:autoParam (W+2<=Wt/\8<=n) bu):aq ao aj n 19 [.ref g,.int w] Q Z:=by
 obtain⟨hW,hn⟩:=hW;obtain⟨n,rfl⟩:=e1 n;rcases hw with rfl|rfl|rfl
 ·refine LG zZ ⟨1,0,0⟩ R F6 rfl λZ R=>?_
  exact vg (.inl rfl) R k
 ·refine LG zZ ⟨1,0,0⟩ R F6 rfl λZ R=>?_
  exact vg (.inr (.inl rfl)) R k
 ·exact k _ R.w
theorem ag(hw:Cv w)(R:Run g P F Wt bA S0 Z U Lp W ⟨1,0,0⟩ ⟨1,0,0⟩)(k:∀Z',Run g P F Wt bA S0 Z' U Lp (W+2) ⟨dl w,0,0⟩ ⟨dl w,0,0⟩->Q .none Z')(hW:autoParam (W+2<=Wt/\8<=n) bu):aq ao aj n 89 [.ref g,.int w] Q Z:=by
 obtain⟨hW,hn⟩:=hW;obtain⟨n,rfl⟩:=e1 n;rcases hw with rfl|rfl|rfl
 ·refine LG DZ ⟨1,0,0⟩ R Lf rfl λZ R=>?_
  exact vg (.inl rfl) R k
 ·refine LG DZ ⟨1,0,0⟩ R Lf rfl λZ R=>?_
  exact vg (.inr (.inl rfl)) R k
 ·refine LG FW ⟨1,0,0⟩ R OD rfl λZ R=>?_
  exact k _ R.w
theorem hg(hw:Cv w)(R:Run g P F Wt bA S0 Z U Lp W ⟨1,0,0⟩ ⟨1,0,0⟩)(k:∀Z',Run g P F Wt bA S0 Z' U Lp (W+2) ⟨dl w,0,0⟩ ⟨dl w,0,0⟩->Q .none Z')(hW:autoParam (W+2<=Wt/\8<=n) bu):aq ao aj n 90 [.ref g,.int w] Q Z:=by
 obtain⟨hW,hn⟩:=hW;obtain⟨n,rfl⟩:=e1 n;rcases hw with rfl|rfl|rfl
 ·refine LG n7 ⟨1,0,0⟩ R vA rfl λZ R=>?_
  exact vg (.inl rfl) R k
 ·refine LG n7 ⟨1,0,0⟩ R vA rfl λZ R=>?_
  exact vg (.inr (.inl rfl)) R k
 ·refine LG FY ⟨1,0,0⟩ R OE rfl λZ R=>?_
  exact k _ R.w
theorem bh(hw:Cv w)(R:Run g P F Wt bA S0 Z U Lp W o o)(ho:Ag o=true)(k:∀Z',Run g P F Wt bA S0 Z' U Lp (W+1) ⟨o.x+dl w,o.y,o.z⟩ ⟨o.x+dl w,o.y,o.z⟩->Q .none Z')(hW:autoParam (W+1<=Wt/\7<=n) bu):aq ao aj n 16 [.ref g,.int w] Q Z:=by
 obtain⟨hW,hn⟩:=hW;obtain⟨n,rfl⟩:=e1 n;have h0:=(fD ho).1;have e:∀{K:bN},K.ab=none->K.go=true->K.t=0->K.l=1->K.ds=0->K.db=0->layB K o ⟨o.x+1,o.y,o.z⟩=true:=λh1 h2 h3 h4 h5 h6=>mW h1 h2 ho (by rw[h3];exact h0) (dH ⟨by rw[h3,h4];simp,by rw[h5];simp,by rw[h6];simp⟩);rcases hw with rfl|rfl|rfl
 ·refine k _ ?_
  have e:(⟨o.x+dl 0,o.y,o.z⟩:Off)=o:=dH ⟨by simp[dl],rfl,rfl⟩;rw[e];exact R.w (by lia)
 ·exact LG (gx .none) ⟨o.x+1,o.y,o.z⟩ R (gW _) (Ej (e rfl rfl rfl rfl rfl rfl) ⟨rfl,rfl,rfl⟩) k
 ·exact LG FT ⟨o.x+1,o.y,o.z⟩ R OC (Ej (e rfl rfl rfl rfl rfl rfl) ⟨rfl,rfl,rfl⟩) k
theorem rh{t:String}(hw:Cv w)(R:Run g P F Wt bA S0 Z U Lp W ⟨0,0,0⟩ ⟨0,0,0⟩)(k:∀Z',Run g P F Wt bA S0 Z' U Lp (W+2) ⟨dl w,0,0⟩ ⟨dl w,0,0⟩->Q .none Z')(hW:autoParam (W+2<=Wt/\7<=n) bu):aq ao aj n 15 [.ref g,.str t,.int w] Q Z:=by
 obtain⟨hW,hn⟩:=hW;obtain⟨n,rfl⟩:=e1 n;refine LE (dY (.str t)) [] ⟨1,0,0⟩ ⟨1,0,0⟩ R (eV _) rfl rfl (λm h=>by cases h) rfl λZ R=>?_;rcases hw with rfl|rfl|rfl
 ·exact LG gJ ⟨0,0,0⟩ R iG rfl k
 ·exact k _ R.w
 ·exact k _ R.w
theorem H7(R:Run g P F Wt bA S0 Z U Lp W o o)(ho:Ag o=true)(k:∀Z',Run g P F Wt bA S0 Z' U Lp (W+1) ⟨o.x,o.y+1,o.z⟩ ⟨o.x,o.y+1,o.z⟩->Q .none Z')(hW:autoParam (W+1<=Wt/\7<=n) bu):aq ao aj n 38 [.ref g] Q Z:=by
 obtain⟨hW,hn⟩:=hW;obtain⟨n,rfl⟩:=e1 n;refine LO F4 ⟨o.x,o.y+1,o.z⟩ R OJ rfl (mW rfl rfl ho (fD ho).1 (dH ⟨by show o.x=o.x+(0-0);lia,rfl,by show o.z=o.z+0;lia⟩)) λZ R=>?_;refine R.scopes ?_;refine Run.S8 (o.y+1) R (by show S0.re.s+o.y+1=_;lia) λZ R=>k _ ?_;have e:(⟨o.x+(0-0),o.y+1,o.z⟩:Off)=⟨o.x,o.y+1,o.z⟩:=dH ⟨by simp,rfl,rfl⟩;rw[<-e];rw[<-e]at R;exact R
theorem vS(R:Run g P F Wt bA S0 Z U Lp W o o)(ho:Ag o=true)(k:∀Z',Run g P F Wt bA S0 Z' U Lp (W+1) ⟨o.x,o.y-1,o.z⟩ ⟨o.x,o.y-1,o.z⟩->Q .none Z')(hW:autoParam (W+1<=Wt/\7<=n) bu):aq ao aj n 39 [.ref g] Q Z:=by
 obtain⟨hW,hn⟩:=hW;obtain⟨n,rfl⟩:=e1 n;refine LO iX ⟨o.x,o.y-1,o.z⟩ R kB rfl (mW rfl rfl ho (fD ho).1 (dH ⟨by show o.x=o.x+(0-0);lia,rfl,by show o.z=o.z+0;lia⟩)) λZ R=>?_;refine R.scopes ?_;refine Run.S8 (o.y-1) R (by show S0.re.s+o.y-1=_;lia) λZ R=>k _ ?_;have e:(⟨o.x+(0-0),o.y-1,o.z⟩:Off)=⟨o.x,o.y-1,o.z⟩:=dH ⟨by simp,rfl,rfl⟩;rw[<-e];rw[<-e]at R;exact R
theorem Lw(R:Run g P F Wt bA S0 Z U Lp W o o)(ho:Ag o=true)(k:∀Z',Run g P F Wt bA S0 Z' U Lp (W+1) ⟨o.x,o.y,o.z+1⟩ ⟨o.x,o.y,o.z+1⟩->Q .none Z')(hW:autoParam (W+1<=Wt/\7<=n) bu):aq ao aj n 40 [.ref g] Q Z:=by
 obtain⟨hW,hn⟩:=hW;obtain⟨n,rfl⟩:=e1 n;refine LO F5 ⟨o.x,o.y,o.z+1⟩ R OL rfl (mW rfl rfl ho (fD ho).1 (dH ⟨by show o.x=o.x+(0-0);lia,by show o.y=o.y+0;lia,rfl⟩)) λZ R=>?_;refine R.starts ?_;refine Run.setB (o.z+1) R (by show S0.re.b+o.z+1=_;lia) λZ R=>k _ ?_;have e:(⟨o.x+(0-0),o.y,o.z+1⟩:Off)=⟨o.x,o.y,o.z+1⟩:=dH ⟨by simp,rfl,rfl⟩;rw[<-e];rw[<-e]at R;exact R
theorem Y3(R:Run g P F Wt bA S0 Z U Lp W o o)(ho:Ag o=true)(k:∀Z',Run g P F Wt bA S0 Z' U Lp (W+1) ⟨o.x,o.y,o.z-1⟩ ⟨o.x,o.y,o.z-1⟩->Q .none Z')(hW:autoParam (W+1<=Wt/\7<=n) bu):aq ao aj n 41 [.ref g,.str "settle"] Q Z:=by
 obtain⟨hW,hn⟩:=hW;obtain⟨n,rfl⟩:=e1 n;refine LO Ci ⟨o.x,o.y,o.z-1⟩ R Lo rfl (mW rfl rfl ho (fD ho).1 (dH ⟨by show o.x=o.x+(0-0);lia,by show o.y=o.y+0;lia,rfl⟩)) λZ R=>?_;refine R.starts ?_;refine Run.setB (o.z-1) R (by show S0.re.b+o.z-1=_;lia) λZ R=>k _ ?_;have e:(⟨o.x+(0-0),o.y,o.z-1⟩:Off)=⟨o.x,o.y,o.z-1⟩:=dH ⟨by simp,rfl,rfl⟩;rw[<-e];rw[<-e]at R;exact R
theorem xe(R:Run g P F Wt bA S0 Z U Lp W o o)(ho:Ag o=true)(k:∀Z',Run g P F Wt bA S0 Z' U Lp (W+1) ⟨o.x,o.y,o.z-1⟩ ⟨o.x,o.y,o.z-1⟩->Q .none Z')(hW:autoParam (W+1<=Wt/\7<=n) bu):aq ao aj n 41 [.ref g,.str "forget"] Q Z:=by
 obtain⟨hW,hn⟩:=hW;obtain⟨n,rfl⟩:=e1 n;refine LO Cj ⟨o.x,o.y,o.z-1⟩ R Lq rfl (mW rfl rfl ho (fD ho).1 (dH ⟨by show o.x=o.x+(0-0);lia,by show o.y=o.y+0;lia,rfl⟩)) λZ R=>?_;refine R.starts ?_;refine Run.setB (o.z-1) R (by show S0.re.b+o.z-1=_;lia) λZ R=>k _ ?_;have e:(⟨o.x+(0-0),o.y,o.z-1⟩:Off)=⟨o.x,o.y,o.z-1⟩:=dH ⟨by simp,rfl,rfl⟩;rw[<-e];rw[<-e]at R;exact R
end
noncomputable def dI:List (String×Nat)->String->Option Nat
 |[],aR=>none
 |(a,k)::r,x=>if a=x then some k else dI r x
theorem Cw(x:String)(l:List (String×Nat)):fY (kvsOf l) (.str x)=some ((dI l x).map V.fn):=by
 induction l with
 |nil=>rfl
 |cons p r ih=>
  show cond (decide (p.1=x)) (some (some (V.fn p.2))) (fY (kvsOf r) (.str x))=some ((if p.1=x then some p.2 else dI r x).map V.fn);by_cases h:p.1=x
  ·rw[if_pos h,decide_eq_true h];rfl
  ·rw[if_neg h,decide_eq_false h];exact ih
theorem l8(x:String)(l:List (String×Nat)):sZ (.str x) (.cM (kvsOf l))=some (dI l x).isSome:=by
 show(fY (kvsOf l) (.str x)).map Option.isSome=_;rw[Cw];cases dI l x<;>rfl
theorem sQ{x:String}{l:List (String×Nat)}{k:Nat}(h:dI l x=some k):cQ (.cM (kvsOf l)) (.str x)=some (.fn k):=by
 show(fY (kvsOf l) (.str x)).join=_;rw[Cw,h];rfl
theorem yv:cQ gD (.str "nodes")=some (.cM (kvsOf dM)):=rfl
theorem sR:cQ gD (.str "lvs")=some (.cM (kvsOf gV)):=by
 rfl
theorem OM:cQ gD (.str "statements")=some (.cM (kvsOf lX)):=by
 rfl
theorem bO{Q:Fl->List V->H->Prop}{f:X}{k:Nat}(hf:Ev cf ρ Z f (.fn k))(ha:vR cf ρ Z as vs)(h:cf k vs (λY Z=>dU cf aj r ρ Q Z) Z):WS cf (.expr (.call f as)::r) ρ Q Z:=by
 constructor;exact hf.to _ (ha.to _ h)
theorem n9{S:GS}(gi:GI Z g P S):dQ Z (.ref g) "tables"=some gD:=(eK gi.inst).trans rfl
section
variable {n:Nat}{F W:Nat}{δ:Int}{hd:String}{r:List V}{w:Int}
theorem aO.mono{fn:Nat}{as:List V}(D:aO n fn as F W δ)(hF:autoParam (F<=F') bu)(hW:autoParam (W<=W') bu):aO n fn as F' W' δ:=by
 intro g P Z S Q gi c0 nn lo hh fd bd k;refine D g P Z S Q gi c0 nn lo (by lia) (by lia) (by lia) λZ' R=>k Z' ?_;obtain⟨S',R,e⟩:=R;exact⟨S',⟨R.DT,R.Ou,hh,fd,bd,R.gi,R.fl,R.fr,by have:=R.len;lia,R.loops,R.ml,R.old,R.new,R.un,R.ud⟩,e⟩
theorem aO.code{k:Nat}(h:dI dM hd=some k)(D:aO n k [.af (.str hd::r),.int w] F W δ):aO (n+1) 12 [.af (.str hd::r),.int w] F W δ:=by
 intro g P Z S Q gi c0 nn lo hh fd bd kk;refine bG (f:=nR) rfl rfl ?_;refine dG (aE (cg (ak (v:=.ref g) rfl rfl) (n9 gi)) au yv) ?_;have e1:Ev (aq ao aj n) [.ref g,.af (.str hd::r),.int w,.cM (kvsOf dM)] Z (.sub (.aa 1) (.aI (.int 0))) (.str hd):=aE (x:=.af (.str hd::r)) (ak rfl rfl) au rfl;have e3:Ev (aq ao aj n) [.ref g,.af (.str hd::r),.int w,.cM (kvsOf dM)] Z (.aa 3) (.cM (kvsOf dM)):=ak rfl rfl;refine bU (aJ (z:=true) e1 e3 ((l8 hd dM).trans (by rw[h];rfl))) ?_;refine bO (aE e3 e1 (sQ h)) (ai (ak (v:=.ref g) rfl rfl) (ai (ak (v:=.af (.str hd::r)) rfl rfl) (ai (ak (v:=.int w) rfl rfl) az))) ?_;refine D g P Z S _ gi c0 nn lo hh fd bd λZ' R=>?_;exact kk Z' R
theorem ON(h:dI dM hd=none)(hn:8<=n)(hw:Cv w):aO (n+1) 12 [.af (.str hd::r),.int w] 1 2 (dl w):=by
 refine aO.intro λg P Z S Q R kk=>?_;obtain⟨S',R',e⟩:=id R;refine bG (f:=nR) rfl rfl ?_;refine dG (aE (cg (ak (v:=.ref g) rfl rfl) (n9 R'.gi)) au yv) ?_;have e1:Ev (aq ao aj n) [.ref g,.af (.str hd::r),.int w,.cM (kvsOf dM)] Z (.sub (.aa 1) (.aI (.int 0))) (.str hd):=aE (x:=.af (.str hd::r)) (ak rfl rfl) au rfl;have e3:Ev (aq ao aj n) [.ref g,.af (.str hd::r),.int w,.cM (kvsOf dM)] Z (.aa 3) (.cM (kvsOf dM)):=ak rfl rfl;refine fy (aJ (z:=false) e1 e3 ((l8 hd dM).trans (by rw[h];rfl))) ?_;refine bO (aX (v:=.fn 15) rfl) (ai (ak (v:=.ref g) rfl rfl) (ai au (ai (ak (v:=.int w) rfl rfl) az))) ?_;refine rh hw R λZ' R=>?_;exact kk Z' R.w
theorem aO.value{v:V}(D:aO n 12 [v,.int 1] F W 1)(hv:B3 v=true):aO (n+1) 13 [v] F W 1:=by
 intro g P Z S Q gi c0 nn lo hh fd bd kk;refine bG (f:=nu) rfl rfl ?_;refine bO (aX (v:=.fn 12) rfl) (ai (ak (v:=.ref g) rfl rfl) (ai (ak (v:=v) rfl hv) (ai (aX (v:=.int 1) rfl) az))) ?_;exact D g P Z S _ gi c0 nn lo hh fd bd λZ' R=>kk Z' R
theorem aO.list{v:V}(D:aO n 12 [v,.int 2] F W 1)(hv:B3 v=true):aO (n+1) 14 [v] F W 1:=by
 intro g P Z S Q gi c0 nn lo hh fd bd kk;refine bG (f:=ow) rfl rfl ?_;refine bO (aX (v:=.fn 12) rfl) (ai (ak (v:=.ref g) rfl rfl) (ai (ak (v:=v) rfl hv) (ai (aX (v:=.int 2) rfl) az))) ?_;exact D g P Z S _ gi c0 nn lo hh fd bd λZ' R=>kk Z' R
theorem aO.lv{k:Nat}(h:dI gV hd=some k)(D:aO n k [.af (.str hd::r)] F W δ):aO (n+1) 20 [.af (.str hd::r)] F W δ:=by
 intro g P Z S Q gi c0 nn lo hh fd bd kk;refine bG (f:=nS) rfl rfl ?_;refine dG (aE (cg (ak (v:=.ref g) rfl rfl) (n9 gi)) au sR) ?_;have e1:Ev (aq ao aj n) [.ref g,.af (.str hd::r),.cM (kvsOf gV)] Z (.sub (.aa 1) (.aI (.int 0))) (.str hd):=aE (x:=.af (.str hd::r)) (ak rfl rfl) au rfl;have e3:Ev (aq ao aj n) [.ref g,.af (.str hd::r),.cM (kvsOf gV)] Z (.aa 2) (.cM (kvsOf gV)):=ak rfl rfl;refine bU (aJ (z:=true) e1 e3 ((l8 hd gV).trans (by rw[h];rfl))) ?_;refine bO (aE e3 e1 (sQ h)) (ai (ak (v:=.ref g) rfl rfl) (ai (ak (v:=.af (.str hd::r)) rfl rfl) az)) ?_;refine D g P Z S _ gi c0 nn lo hh fd bd λZ' R=>?_;exact kk Z' R
theorem Wh(h:dI gV hd=none)(hn:8<=n):aO (n+1) 20 [.af (.str hd::r)] 1 1 1:=by
 refine aO.intro λg P Z S Q R kk=>?_;obtain⟨S',R',e⟩:=id R;refine bG (f:=nS) rfl rfl ?_;refine dG (aE (cg (ak (v:=.ref g) rfl rfl) (n9 R'.gi)) au sR) ?_;have e1:Ev (aq ao aj n) [.ref g,.af (.str hd::r),.cM (kvsOf gV)] Z (.sub (.aa 1) (.aI (.int 0))) (.str hd):=aE (x:=.af (.str hd::r)) (ak rfl rfl) au rfl;have e3:Ev (aq ao aj n) [.ref g,.af (.str hd::r),.cM (kvsOf gV)] Z (.aa 2) (.cM (kvsOf gV)):=ak rfl rfl;refine fy (aJ (z:=false) e1 e3 ((l8 hd gV).trans (by rw[h];rfl))) ?_;refine bO (aX (v:=.fn 7) rfl) (ai (ak (v:=.ref g) rfl rfl) (ai (b9 (ai au (ai au az))) az)) ?_;refine LE (dY (.str "Can't modify what stands here")) [] ⟨1,0,0⟩ ⟨1,0,0⟩ R (eV _) rfl rfl (λm h=>by cases h) rfl λZ' R=>?_;exact kk Z' R.w
end
noncomputable def bf(F W:Nat)(v:V):Prop:=∀n,F+12<=n->∀w,Cv w->aO n 12 [v,.int w] F W (dl w)
noncomputable def kD(F W:Nat)(v:V):Prop:=∀n,F+12<=n->aO n 20 [v] F W 1
noncomputable def Wi(v:V)(b:Bool):Prop:=∀n,3<=n->∀g P Z S (Q:V->H->Prop),GI Z g P S->Q (.bool b) Z->aq ao aj n 60 [.ref g,v] Q Z
noncomputable def Tc(v:V):Prop:=∃b:Bool,Wi v b
theorem vE{Lp:List dB}{o r:Off}{v:V}{b:Bool}(h:Wi v b)(R:Run g P F Wt bA S0 Z U Lp W o r)(hn:3<=n)(q:Q (.bool b) Z):aq ao aj n 60 [.ref g,v] Q Z:=by
 obtain⟨S,R,_⟩:=R;exact h n hn g P Z S Q R.gi q
structure ay (F W:Nat) (hd:String) (v:V):Prop where
 af:∃r,v=.af (.str hd::r)
 code:bf F W v
 lv:kD F W v
 set:Tc v
theorem ay.ok{v:V}(h:ay F W hd v):B3 v=true:=by
 obtain⟨r,rfl⟩:=h.af;rfl
section
variable {n:Nat}{F W:Nat}{hd:String}{v:V}{w:Int}
theorem ay.c(h:ay F W hd v)(hw:Cv w)(hn:F+12<=n):aO n 12 [v,.int w] F W (dl w):=h.code n hn w hw
theorem ay.v1(h:ay F W hd v)(hn:F+13<=n):aO n 13 [v] (F+1) W 1:=by
 obtain⟨n,rfl⟩:=e1 n;exact((h.code n (by lia) 1 (.inr (.inl rfl))).value h.ok).mono (by lia) (Nat.le_refl _)
theorem ay.v2(h:ay F W hd v)(hn:F+13<=n):aO n 14 [v] (F+1) W 1:=by
 obtain⟨n,rfl⟩:=e1 n;exact((h.code n (by lia) 2 (.inr (.inr rfl))).list h.ok).mono (by lia) (Nat.le_refl _)
theorem ay.l(h:ay F W hd v)(hn:F+12<=n):aO n 20 [v] F W 1:=h.lv n hn
theorem ay.mono(h:ay F W hd v)(hF:autoParam (F<=F') bu)(hW:autoParam (W<=W') bu):ay F' W' hd v:=
 ⟨h.af,λn hn w hw=>(h.code n (by lia) w hw).mono hF hW,λn hn=>(h.lv n (by lia)).mono hF hW,h.set⟩
theorem Ah{r:List V}(hf:hd≠"func"):Tc (.af (.str hd::r)):=by
 refine⟨(dI gV hd).isSome,λn hn g P Z S Q gi q=>?_⟩;obtain⟨n,rfl⟩:=e1 n;refine bG (f:=ig) rfl rfl ?_;have e1:Ev (aq ao aj n) [.ref g,.af (.str hd::r)] Z (.sub (.aa 1) (.aI (.int 0))) (.str hd):=aE (x:=.af (.str hd::r)) (ak rfl rfl) au rfl;refine cE (aJ (z:=false) e1 au (by show some (decide (hd="func"))=_;rw[decide_eq_false hf])) ?_;refine jf (aJ (z:=(dI gV hd).isSome) e1 (aE (cg (ak (v:=.ref g) rfl rfl) (n9 gi)) au sR) (l8 hd gV)) q
theorem Lx{x:V}:Tc (.af [.str "func",.str nm,x]):=by
 refine⟨decide (nm="substr")||(decide (nm="vec")||(decide (nm="pos")||false)),λn hn g P Z S Q gi q=>?_⟩;obtain⟨n,rfl⟩:=e1 n;refine bG (f:=ig) rfl rfl ?_;have e1:Ev (aq ao aj n) [.ref g,.af [.str "func",.str nm,x]] Z (.sub (.aa 1) (.aI (.int 0))) (.str "func"):=aE (x:=.af [.str "func",.str nm,x]) (ak rfl rfl) au rfl;refine bU (aJ (z:=true) e1 au (by decide+kernel:eqv (.str "func") (.str "func")=some true)) ?_;have e2:Ev (aq ao aj n) [.ref g,.af [.str "func",.str nm,x]] Z (.sub (.aa 1) (.aI (.int 1))) (.str nm):=aE (x:=.af [.str "func",.str nm,x]) (ak rfl rfl) au rfl;refine jf (aJ e2 (aX (v:=jt) rfl) ?_) q;show some _=some _;have c:∀{a b:String},decide (a=b)=decide (b=a):=λ{a b}=>by by_cases h:a=b<;>simp[h,eq_comm]
 rw[c (a:=nm) (b:="substr"),c (a:=nm) (b:="vec"),c (a:=nm) (b:="pos")]
theorem Ge{x:X}{v:V}{i:Int}(ha:Ev cf ρ Z x v)(h:gr v none (some i)=some z):Ev cf ρ Z (.slice x none (some (.aI (.int i)))) z:=by
 constructor;intro Q q;refine ha.to _ ?_;exact bk h q
theorem QC{x:X}{v:V}{i:Int}(ha:Ev cf ρ Z x v)(h:gr v (some i) none=some z):Ev cf ρ Z (.slice x (some (.aI (.int i))) none) z:=by
 constructor;intro Q q;refine ha.to _ ?_;exact bk h q
theorem gy{b:X}{z:Bool}(ha:Ev cf ρ Z a (.bool true))(hb:Ev cf ρ Z b (.bool z)):Ev cf ρ Z (.kI true [a,b]) (.bool z):=by
 constructor;intro Q q;refine ha.to _ (zV ?_);cases z with
 |true=>exact hb.to _ (zV (by exact q))
 |false=>exact hb.to _ (Ow (by decide) q)
theorem vF{s t:String}{a b:Option Int}(h:s.length<lim)(e:String.ofList (dj s.toList a b)=t):gr (.str s) a b=some (.str t):=by
 exact(if_pos h).trans (congrArg (λt=>some (V.str t)) e)
theorem Cy{s t:String}{z:Bool}(hn:1<=n)(h0:s.length<lim)(h1:String.ofList (dj s.toList none (some 6))="main::")(h2:String.ofList (dj s.toList (some 6) none)=t)(h3:sZ (.str t) i9=some false)
  (h4:eqv (.str t) (.str "")=some false){c:String}(h5:cQ (.str t) (.int 0)=some (.str c))(h6:sZ (.str c) (.str "123456789")=some z)(q:Q (.bool z) Z):aq ao aj n 0 [.str s] Q Z:=by
 obtain⟨n,rfl⟩:=e1 n;refine bG (f:=jr) rfl rfl ?_;refine cE (aJ (z:=false) (Ge (v:=.str s) (ak rfl rfl) (vF h0 h1)) au (by show(eqv (.str "main::") (.str "main::")).map (! ·)=some false;decide+kernel)) ?_;refine dG (QC (v:=.str s) (ak rfl rfl) (vF h0 h2)) ?_;have e1:Ev (aq ao aj n) [.str s,.str t] Z (.aa 1) (.str t):=ak rfl rfl;refine cE (aJ (z:=false) e1 (aX (v:=i9) rfl) h3) ?_;refine jf (gy (z:=z) (aJ (z:=true) e1 au (by show(eqv (.str t) (.str "")).map (! ·)=_;rw[h4];rfl)) (aJ (aE e1 au h5) au h6)) q
theorem Ek(hn:1<=n)(q:Q (.bool true) Z):aq ao aj n 0 [.str "main::1"] Q Z:=
 Cy (t:="1") (c:="1") hn (by decide+kernel) (by decide+kernel) (by decide+kernel) (by decide+kernel) (by decide+kernel) (by rw[mO];have:String.ofList ['1']="1":=(by decide+kernel);rw[<-this];rfl) (by decide+kernel) q
theorem El(hn:1<=n)(q:Q (.bool false) Z):aq ao aj n 0 [.str "main::x"] Q Z:=
 Cy (t:="x") (c:="x") hn (by decide+kernel) (by decide+kernel) (by decide+kernel) (by decide+kernel) (by decide+kernel) (by rw[mO];have:String.ofList ['x']="x":=(by decide+kernel);rw[<-this];rfl) (by decide+kernel) q
end
theorem gz{k:Nat}{r:List V}(H:∀n,F+12<=n+2->∀w,Cv w->∀(g:Nat) (P:GP) (Z:H) (S:GS) (Q:V->H->Prop),Run g P F W Z S Z [] [] 0 ⟨0,0,0⟩ ⟨0,0,0⟩->(∀Z',Run g P F W Z S Z' [] [] W ⟨dl w,0,0⟩ ⟨dl w,0,0⟩->Q .none Z')->aq ao aj (n+1) k [.ref g,.af (.str hd::r),.int w] Q Z)(h:autoParam (dI dM hd=some k) vU):bf F W (.af (.str hd::r)):=by
 intro n hn w hw;obtain⟨n,rfl⟩:=e2 n;exact aO.code h (aO.intro λg P Z S Q R k=>H n hn w hw g P Z S Q R k)
theorem fF{k:Nat}{r:List V}(H:∀n,F+12<=n+2->∀(g:Nat) (P:GP) (Z:H) (S:GS) (Q:V->H->Prop),Run g P F W Z S Z [] [] 0 ⟨0,0,0⟩ ⟨0,0,0⟩->(∀Z',Run g P F W Z S Z' [] [] W ⟨1,0,0⟩ ⟨1,0,0⟩->Q .none Z')->aq ao aj (n+1) k [.ref g,.af (.str hd::r)] Q Z)(h:autoParam (dI gV hd=some k) vU):kD F W (.af (.str hd::r)):=by
 intro n hn;obtain⟨n,rfl⟩:=e2 n;exact aO.lv h (aO.intro λg P Z S Q R k=>H n hn g P Z S Q R k)
noncomputable def xg(k F W:Nat)(v:V):Prop:=∀n,F+12<=n->∀w,Cv w->aO n k [v,.int w] F W (dl w)
theorem vG{k:Nat}{v:V}(H:∀n,F+12<=n+1->∀w,Cv w->∀(g:Nat) (P:GP) (Z:H) (S:GS) (Q:V->H->Prop),Run g P F W Z S Z [] [] 0 ⟨0,0,0⟩ ⟨0,0,0⟩->(∀Z',Run g P F W Z S Z' [] [] W ⟨dl w,0,0⟩ ⟨dl w,0,0⟩->Q .none Z')->aq ao aj (n+1) k [.ref g,v,.int w] Q Z):xg k F W v:=by
 intro n hn w hw;obtain⟨n,rfl⟩:=e1 n;exact aO.intro λg P Z S Q R k=>H n hn w hw g P Z S Q R k
section
variable {g:Nat}{P:GP}{F Wt:Nat}{bA:H}{S0:GS}{Z:H}{U:List (Nat×Off)}{W:Nat}{o:Off}{n:Nat}{Q:V->H->Prop}{F' W':Nat}{hd:String}{v:V}
theorem ay.w1(h:ay F' W' hd v)(o':Off)(R:Run g P F Wt bA S0 Z U [] W o o)(hb:cB o o' 1=true)(k:∀Z',Run g P F Wt bA S0 Z' U [] (W+W') o' o'->Q .none Z')(hn:autoParam (F'+13<=n/\F'+2<=F/\W+W'<=Wt) bu):aq ao aj n 13 [.ref g,v] Q Z:=
 (h.v1 hn.1).call o' R hb k
theorem ay.w2(h:ay F' W' hd v)(o':Off)(R:Run g P F Wt bA S0 Z U [] W o o)(hb:cB o o' 1=true)(k:∀Z',Run g P F Wt bA S0 Z' U [] (W+W') o' o'->Q .none Z')(hn:autoParam (F'+13<=n/\F'+2<=F/\W+W'<=Wt) bu):aq ao aj n 14 [.ref g,v] Q Z:=
 (h.v2 hn.1).call o' R hb k
theorem ay.w0(h:ay F' W' hd v)(o':Off)(R:Run g P F Wt bA S0 Z U [] W o o)(hb:cB o o' 1=true)(k:∀Z',Run g P F Wt bA S0 Z' U [] (W+W') o' o'->Q .none Z')(hn:autoParam (F'+12<=n/\F'+1<=F/\W+W'<=Wt) bu):aq ao aj n 20 [.ref g,v] Q Z:=
 (h.l hn.1).call o' R hb k
end
theorem cy{m:Nat}{e:Off}(h:(m,e)∈U):∀m'∈[m],(m',e)∈U:=λm' q=>by
 cases List.mem_singleton.mp q;exact h
theorem gH{e:Off}(h1:(m1,e)∈U)(h2:(m2,e)∈U)(h3:(m3,e)∈U):∀m'∈[m1,m2,m3],(m',e)∈U:=λm' q=>by
 simp only[List.mem_cons,List.not_mem_nil,or_false]at q;rcases q with rfl|rfl|rfl
 ·exact h1
 ·exact h2
 ·exact h3
section
variable {F W:Nat}{ha hb hc:String}{a b c x y:V}{n:Nat}{w:Int}
theorem OO{r:List V}(h:dI gV hd=none):kD 1 1 (.af (.str hd::r)):=by
 intro n hn;obtain⟨n,rfl⟩:=e1 n;exact Wh h (by lia)
theorem Wj{r:List V}(h:dI dM hd=none):bf 1 2 (.af (.str hd::r)):=by
 intro n hn w hw;obtain⟨n,rfl⟩:=e1 n;exact ON h (by lia) hw
theorem Wk:bf 2 2 (.af [.str "num",x]):=by
 refine gz (k:=21) λn hn w hw g P Z S Q R k=>?_;refine LG (gx x) ⟨1,0,0⟩ R (gW x) rfl λZ R=>?_;exact vg hw R λZ R=>k _ R.w
theorem Ly:bf 2 2 (.af [.str "str",x]):=by
 refine gz (k:=21) λn hn w hw g P Z S Q R k=>?_;refine LG (gx x) ⟨1,0,0⟩ R (gW x) rfl λZ R=>?_;exact vg hw R λZ R=>k _ R.w
theorem OP:bf 2 2 (.af [.str "undef"]):=by
 refine gz (k:=22) λn hn w hw g P Z S Q R k=>?_;refine LG (gx .none) ⟨1,0,0⟩ R (gW .none) rfl λZ R=>?_;exact vg hw R λZ R=>k _ R.w
theorem Cz:bf 2 2 (.af [.str "wantarray"]):=by
 refine gz (k:=25) λn hn w hw g P Z S Q R k=>?_;refine LG B8 ⟨1,0,0⟩ R (Lb) rfl λZ R=>?_;exact vg hw R λZ R=>k _ R.w
theorem QD(A:ay F W ha a)(B:ay F W hb b):bf (F+3) (2*W+2) (.af [.str "bin",x,a,b]):=by
 refine gz (k:=28) λn hn w hw g P Z S Q R k=>?_;refine A.w1 ⟨1,0,0⟩ R rfl λZ R=>?_;refine B.w1 ⟨2,0,0⟩ R rfl λZ R=>?_;refine LG (vf x) ⟨1,0,0⟩ R (yq x) rfl λZ R=>?_;exact vg hw R λZ R=>k _ R.w
theorem Wl(A:ay F W ha a)(B:ay F W hb b):bf (F+3) (2*W+2) (.af [.str "xor",a,b]):=by
 refine gz (k:=30) λn hn w hw g P Z S Q R k=>?_;refine A.w1 ⟨1,0,0⟩ R rfl λZ R=>?_;refine B.w1 ⟨2,0,0⟩ R rfl λZ R=>?_;refine LG Qz ⟨1,0,0⟩ R (Wf) rfl λZ R=>?_;exact vg hw R λZ R=>k _ R.w
theorem Td(A:ay F W ha a)(B:ay F W hb b)(C:ay F W hc c):bf (F+3) (3*W+6) (.af [.str "cond",a,b,c]):=by
 refine gz (k:=32) λn hn w hw g P Z S Q R k=>?_;refine aB ⟨0,0,0⟩ R λZ m1 R=>?_;rcases id hw with rfl|rfl|rfl
 ·refine aB ⟨0,0,0⟩ R λZ m2 R=>?_
  refine A.w1 ⟨1,0,0⟩ R rfl λZ R=>?_;refine LJ bw m1 ⟨0,0,0⟩ R bz rfl (.tail _ (.head _)) rfl λZ R=>?_;refine R.aZ ?_;refine(B.c (.inl rfl) (by lia)).call ⟨0,0,0⟩ R rfl λZ R=>?_;refine LE bH [m2] ⟨0,0,0⟩ ⟨0,0,0⟩ R (bL) rfl rfl (cy (.head _)) rfl λZ R=>?_;refine PM [(m2,⟨0,0,0⟩)] 0 R (.swap _ _ _) rfl rfl rfl λZ R=>?_;refine(C.c (.inl rfl) (by lia)).call ⟨0,0,0⟩ R rfl λZ R=>?_;refine R.aZ ?_;refine PM [] 0 R (.refl _) rfl rfl rfl λZ R=>?_;exact k _ R.w
 all_goals
  refine aB ⟨1,0,0⟩ R λZ m2 R=>?_;refine A.w1 ⟨1,0,0⟩ R rfl λZ R=>?_;refine LJ bw m1 ⟨0,0,0⟩ R bz rfl (.tail _ (.head _)) rfl λZ R=>?_;refine R.aZ ?_;refine(B.c hw (by lia)).call ⟨1,0,0⟩ R rfl λZ R=>?_;refine LE bH [m2] ⟨0,0,0⟩ ⟨1,0,0⟩ R (bL) rfl rfl (cy (.head _)) rfl λZ R=>?_;refine PM [(m2,⟨1,0,0⟩)] 0 R (.swap _ _ _) rfl rfl rfl λZ R=>?_;refine(C.c hw (by lia)).call ⟨1,0,0⟩ R rfl λZ R=>?_;refine R.aZ ?_;refine PM [] 1 R (.refl _) rfl rfl rfl λZ R=>?_;exact k _ R.w
theorem Te(A:ay F W ha a)(B:ay F W hb b)(C:ay F W hc c):kD (F+3) (3*W+6) (.af [.str "cond",a,b,c]):=by
 refine fF (k:=63) λn hn g P Z S Q R k=>?_;refine aB ⟨0,0,0⟩ R λZ m1 R=>?_;refine aB ⟨1,0,0⟩ R λZ m2 R=>?_;refine A.w1 ⟨1,0,0⟩ R rfl λZ R=>?_;refine LJ bw m1 ⟨0,0,0⟩ R bz rfl (.tail _ (.head _)) rfl λZ R=>?_;refine R.aZ ?_;refine B.w0 ⟨1,0,0⟩ R rfl λZ R=>?_;refine LE bH [m2] ⟨0,0,0⟩ ⟨1,0,0⟩ R (bL) rfl rfl (cy (.head _)) rfl λZ R=>?_;refine PM [(m2,⟨1,0,0⟩)] 0 R (.swap _ _ _) rfl rfl rfl λZ R=>?_;refine C.w0 ⟨1,0,0⟩ R rfl λZ R=>?_;refine R.aZ ?_;refine PM [] 1 R (.refl _) rfl rfl rfl λZ R=>?_;exact k _ R.w
theorem Wm(A:ay F W ha a)(B:ay F W hb b):bf (F+3) (2*W+6) (.af [.str "and",a,b]):=by
 refine gz (k:=31) λn hn w hw g P Z S Q R k=>?_;refine A.w1 ⟨1,0,0⟩ R rfl λZ R=>?_;rcases hw with rfl|rfl|rfl
 ·refine aB ⟨0,0,0⟩ R λZ m1 R=>?_
  refine LJ bw m1 ⟨0,0,0⟩ R bz rfl (.head _) rfl λZ R=>?_;refine(B.c (.inl rfl) (by lia)).call ⟨0,0,0⟩ R rfl λZ R=>?_;refine R.aZ ?_;refine PM [] 0 R (.refl _) rfl rfl rfl λZ R=>?_;exact k _ R.w
 ·refine aB ⟨1,0,0⟩ R λZ m1 R=>?_
  refine LJ qE m1 ⟨0,0,0⟩ R yt rfl (.head _) rfl λZ R=>?_;refine(B.c (.inr (.inl rfl)) (by lia)).call ⟨1,0,0⟩ R rfl λZ R=>?_;refine R.aZ ?_;refine PM [] 1 R (.refl _) rfl rfl rfl λZ R=>?_;exact k _ R.w
 ·refine aB ⟨1,0,0⟩ R λZ m1 R=>?_
  refine aB ⟨1,0,0⟩ R λZ m2 R=>?_;refine LJ qE m2 ⟨0,0,0⟩ R yt rfl (.head _) rfl λZ R=>?_;refine(B.c (.inr (.inr rfl)) (by lia)).call ⟨1,0,0⟩ R rfl λZ R=>?_;refine LE bH [m1] ⟨1,0,0⟩ ⟨1,0,0⟩ R (bL) rfl rfl (cy (.tail _ (.head _))) rfl λZ R=>?_;refine R.aZ ?_;refine PM [(m1,⟨1,0,0⟩)] 1 R (.refl _) rfl rfl rfl λZ R=>?_;refine LG cL ⟨1,0,0⟩ R (cZ) rfl λZ R=>?_;refine R.aZ ?_;refine PM [] 1 R (.refl _) rfl rfl rfl λZ R=>?_;exact k _ R.w
theorem Y5(A:ay F W ha a)(B:ay F W hb b):bf (F+3) (2*W+6) (.af [.str "or",a,b]):=by
 refine gz (k:=31) λn hn w hw g P Z S Q R k=>?_;refine A.w1 ⟨1,0,0⟩ R rfl λZ R=>?_;rcases hw with rfl|rfl|rfl
 ·refine aB ⟨0,0,0⟩ R λZ m1 R=>?_
  refine LJ jF m1 ⟨0,0,0⟩ R l7 rfl (.head _) rfl λZ R=>?_;refine(B.c (.inl rfl) (by lia)).call ⟨0,0,0⟩ R rfl λZ R=>?_;refine R.aZ ?_;refine PM [] 0 R (.refl _) rfl rfl rfl λZ R=>?_;exact k _ R.w
 ·refine aB ⟨1,0,0⟩ R λZ m1 R=>?_
  refine LJ vt m1 ⟨0,0,0⟩ R Cu rfl (.head _) rfl λZ R=>?_;refine(B.c (.inr (.inl rfl)) (by lia)).call ⟨1,0,0⟩ R rfl λZ R=>?_;refine R.aZ ?_;refine PM [] 1 R (.refl _) rfl rfl rfl λZ R=>?_;exact k _ R.w
 ·refine aB ⟨1,0,0⟩ R λZ m1 R=>?_
  refine aB ⟨1,0,0⟩ R λZ m2 R=>?_;refine LJ vt m2 ⟨0,0,0⟩ R Cu rfl (.head _) rfl λZ R=>?_;refine(B.c (.inr (.inr rfl)) (by lia)).call ⟨1,0,0⟩ R rfl λZ R=>?_;refine LE bH [m1] ⟨1,0,0⟩ ⟨1,0,0⟩ R (bL) rfl rfl (cy (.tail _ (.head _))) rfl λZ R=>?_;refine R.aZ ?_;refine PM [(m1,⟨1,0,0⟩)] 1 R (.refl _) rfl rfl rfl λZ R=>?_;refine LG cL ⟨1,0,0⟩ R (cZ) rfl λZ R=>?_;refine R.aZ ?_;refine PM [] 1 R (.refl _) rfl rfl rfl λZ R=>?_;exact k _ R.w
theorem Wo(A:ay F W ha a)(B:ay F W hb b):bf (F+3) (2*W+6) (.af [.str "dor",a,b]):=by
 refine gz (k:=31) λn hn w hw g P Z S Q R k=>?_;refine A.w1 ⟨1,0,0⟩ R rfl λZ R=>?_;rcases hw with rfl|rfl|rfl
 ·refine aB ⟨0,0,0⟩ R λZ m1 R=>?_
  refine LJ Aa m1 ⟨0,0,0⟩ R Gb rfl (.head _) rfl λZ R=>?_;refine(B.c (.inl rfl) (by lia)).call ⟨0,0,0⟩ R rfl λZ R=>?_;refine R.aZ ?_;refine PM [] 0 R (.refl _) rfl rfl rfl λZ R=>?_;exact k _ R.w
 ·refine aB ⟨1,0,0⟩ R λZ m1 R=>?_
  refine LJ qF m1 ⟨0,0,0⟩ R yu rfl (.head _) rfl λZ R=>?_;refine(B.c (.inr (.inl rfl)) (by lia)).call ⟨1,0,0⟩ R rfl λZ R=>?_;refine R.aZ ?_;refine PM [] 1 R (.refl _) rfl rfl rfl λZ R=>?_;exact k _ R.w
 ·refine aB ⟨1,0,0⟩ R λZ m1 R=>?_
  refine aB ⟨1,0,0⟩ R λZ m2 R=>?_;refine LJ qF m2 ⟨0,0,0⟩ R yu rfl (.head _) rfl λZ R=>?_;refine(B.c (.inr (.inr rfl)) (by lia)).call ⟨1,0,0⟩ R rfl λZ R=>?_;refine LE bH [m1] ⟨1,0,0⟩ ⟨1,0,0⟩ R (bL) rfl rfl (cy (.tail _ (.head _))) rfl λZ R=>?_;refine R.aZ ?_;refine PM [(m1,⟨1,0,0⟩)] 1 R (.refl _) rfl rfl rfl λZ R=>?_;refine LG cL ⟨1,0,0⟩ R (cZ) rfl λZ R=>?_;refine R.aZ ?_;refine PM [] 1 R (.refl _) rfl rfl rfl λZ R=>?_;exact k _ R.w
theorem Lz:kD 2 1 (.af [.str "pads",x]):=by
 refine fF (k:=57) λn hn g P Z S Q R k=>?_;refine LG (FU (.str "S") x) ⟨1,0,0⟩ R (Lc (.str "S") x) rfl λZ R=>?_;exact k _ R.w
theorem LA:kD 2 1 (.af [.str "pada",x]):=by
 refine fF (k:=57) λn hn g P Z S Q R k=>?_;refine LG (FU (.str "A") x) ⟨1,0,0⟩ R (Lc (.str "A") x) rfl λZ R=>?_;exact k _ R.w
theorem LC:kD 2 1 (.af [.str "padh",x]):=by
 refine fF (k:=57) λn hn g P Z S Q R k=>?_;refine LG (FU (.str "H") x) ⟨1,0,0⟩ R (Lc (.str "H") x) rfl λZ R=>?_;exact k _ R.w
theorem QE:kD 2 1 (.af [.str "mys",x]):=by
 refine fF (k:=58) λn hn g P Z S Q R k=>?_;refine LG (Wd (.str "S") x) ⟨1,0,0⟩ R (YY (.str "S") x) rfl λZ R=>?_;exact k _ R.w
theorem Ai:kD 2 1 (.af [.str "globs",x]):=by
 refine fF (k:=59) λn hn g P Z S Q R k=>?_;refine LG (zY (.str "S") x) ⟨1,0,0⟩ R (D7 (.str "S") x) rfl λZ R=>?_;exact k _ R.w
theorem Gf:kD 2 1 (.af [.str "globa",x]):=by
 refine fF (k:=59) λn hn g P Z S Q R k=>?_;refine LG (zY (.str "A") x) ⟨1,0,0⟩ R (D7 (.str "A") x) rfl λZ R=>?_;exact k _ R.w
theorem Gg:kD 2 1 (.af [.str "globh",x]):=by
 refine fF (k:=59) λn hn g P Z S Q R k=>?_;refine LG (zY (.str "H") x) ⟨1,0,0⟩ R (D7 (.str "H") x) rfl λZ R=>?_;exact k _ R.w
theorem Tf:bf 4 3 (.af [.str "pads",x]):=by
 refine gz (k:=23) λn hn w hw g P Z S Q R k=>?_;refine(Lz (x:=x) n (by lia)).call ⟨1,0,0⟩ R rfl λZ R=>?_;exact sg hw R λZ R=>k _ R.w
theorem Wq:bf 4 3 (.af [.str "mys",x]):=by
 refine gz (k:=23) λn hn w hw g P Z S Q R k=>?_;refine(QE (x:=x) n (by lia)).call ⟨1,0,0⟩ R rfl λZ R=>?_;exact sg hw R λZ R=>k _ R.w
theorem LD:bf 4 3 (.af [.str "globs",.str "main::1"]):=by
 refine gz (k:=24) λn hn w hw g P Z S Q R k=>?_;refine Ek (by lia) ?_;refine LG (u7 (.str "main::1")) ⟨1,0,0⟩ R (D6 (.str "main::1")) rfl λZ R=>?_;exact vg hw R λZ R=>k _ R.w
theorem LF:bf 5 3 (.af [.str "globs",.str "main::x"]):=by
 refine gz (k:=24) λn hn w hw g P Z S Q R k=>?_;refine El (by lia) ?_;obtain⟨n,rfl⟩:=e1 n;refine(Ai (x:=.str "main::x") n (by lia)).call ⟨1,0,0⟩ R rfl λZ R=>?_;exact sg hw R λZ R=>k _ R.w
theorem Tg:bf 4 3 (.af [.str "pada",x]):=by
 refine gz (k:=91) λn hn w hw g P Z S Q R k=>?_;refine(LA (x:=x) n (by lia)).call ⟨1,0,0⟩ R rfl λZ R=>?_;exact ag hw R λZ R=>k _ R.w
theorem OQ:bf 4 3 (.af [.str "globa",x]):=by
 refine gz (k:=91) λn hn w hw g P Z S Q R k=>?_;refine(Gf (x:=x) n (by lia)).call ⟨1,0,0⟩ R rfl λZ R=>?_;exact ag hw R λZ R=>k _ R.w
theorem Th:bf 4 3 (.af [.str "padh",x]):=by
 refine gz (k:=92) λn hn w hw g P Z S Q R k=>?_;refine(LC (x:=x) n (by lia)).call ⟨1,0,0⟩ R rfl λZ R=>?_;exact hg hw R λZ R=>k _ R.w
theorem OR:bf 4 3 (.af [.str "globh",x]):=by
 refine gz (k:=92) λn hn w hw g P Z S Q R k=>?_;refine(Gg (x:=x) n (by lia)).call ⟨1,0,0⟩ R rfl λZ R=>?_;exact hg hw R λZ R=>k _ R.w
theorem Ti(A:ay F W ha a):bf (F+3) (W+3) (.af [.str "rv2a",a]):=by
 refine gz (k:=93) λn hn w hw g P Z S Q R k=>?_;refine A.w1 ⟨1,0,0⟩ R rfl λZ R=>?_;refine LG (kj (.str "A")) ⟨1,0,0⟩ R (mQ (.str "A")) rfl λZ R=>?_;exact ag hw R λZ R=>k _ R.w
theorem Tj(A:ay F W ha a):bf (F+3) (W+3) (.af [.str "rv2h",a]):=by
 refine gz (k:=94) λn hn w hw g P Z S Q R k=>?_;refine A.w1 ⟨1,0,0⟩ R rfl λZ R=>?_;refine LG (kj (.str "H")) ⟨1,0,0⟩ R (mQ (.str "H")) rfl λZ R=>?_;exact hg hw R λZ R=>k _ R.w
theorem Tn(A:ay F W ha a):bf (F+3) (W+3) (.af [.str "rv2s",a]):=by
 refine gz (k:=95) λn hn w hw g P Z S Q R k=>?_;refine A.w1 ⟨1,0,0⟩ R rfl λZ R=>?_;refine LG (kj (.str "S")) ⟨1,0,0⟩ R (mQ (.str "S")) rfl λZ R=>?_;exact sg hw R λZ R=>k _ R.w
theorem To(A:ay F W ha a):kD (F+3) (W+3) (.af [.str "rv2s",a]):=by
 refine fF (k:=61) λn hn g P Z S Q R k=>?_;obtain⟨bb,sb⟩:=A.set;refine vE sb R (by lia) ?_;cases bb with
 |true=>
  refine A.w0 ⟨1,0,0⟩ R rfl λZ R=>?_;refine LG (lZ (.str "S")) ⟨1,0,0⟩ R (pS (.str "S")) rfl λZ R=>?_;exact k _ R.w
 |false=>
  refine A.w1 ⟨1,0,0⟩ R rfl λZ R=>?_;refine LG ri ⟨1,0,0⟩ R (Cn) rfl λZ R=>?_;refine LG (lZ (.str "S")) ⟨1,0,0⟩ R (pS (.str "S")) rfl λZ R=>?_;exact k _ R.w
theorem Tp(A:ay F W ha a):kD (F+3) (W+3) (.af [.str "rv2a",a]):=by
 refine fF (k:=61) λn hn g P Z S Q R k=>?_;obtain⟨bb,sb⟩:=A.set;refine vE sb R (by lia) ?_;cases bb with
 |true=>
  refine A.w0 ⟨1,0,0⟩ R rfl λZ R=>?_;refine LG (lZ (.str "A")) ⟨1,0,0⟩ R (pS (.str "A")) rfl λZ R=>?_;exact k _ R.w
 |false=>
  refine A.w1 ⟨1,0,0⟩ R rfl λZ R=>?_;refine LG (kj (.str "A")) ⟨1,0,0⟩ R (mQ (.str "A")) rfl λZ R=>?_;exact k _ R.w
theorem Tq(A:ay F W ha a):kD (F+3) (W+3) (.af [.str "rv2h",a]):=by
 refine fF (k:=61) λn hn g P Z S Q R k=>?_;obtain⟨bb,sb⟩:=A.set;refine vE sb R (by lia) ?_;cases bb with
 |true=>
  refine A.w0 ⟨1,0,0⟩ R rfl λZ R=>?_;refine LG (lZ (.str "H")) ⟨1,0,0⟩ R (pS (.str "H")) rfl λZ R=>?_;exact k _ R.w
 |false=>
  refine A.w1 ⟨1,0,0⟩ R rfl λZ R=>?_;refine LG (kj (.str "H")) ⟨1,0,0⟩ R (mQ (.str "H")) rfl λZ R=>?_;exact k _ R.w
theorem H8(A:ay F W ha a):bf (F+3) (W+3) (.af [.str "lastidx",a]):=by
 refine gz (k:=96) λn hn w hw g P Z S Q R k=>?_;refine A.w0 ⟨1,0,0⟩ R rfl λZ R=>?_;refine LG yh ⟨1,0,0⟩ R (HU) rfl λZ R=>?_;exact vg hw R λZ R=>k _ R.w
theorem Tr(A:ay F W ha a)(B:ay F W hb b):kD (F+3) (2*W+3) (.af [.str "elem",a,b]):=by
 refine fF (k:=62) λn hn g P Z S Q R k=>?_;refine A.w0 ⟨1,0,0⟩ R rfl λZ R=>?_;refine B.w1 ⟨2,0,0⟩ R rfl λZ R=>?_;refine LG Cb ⟨1,0,0⟩ R (Lj) rfl λZ R=>?_;exact k _ R.w
theorem Tt(A:ay F W ha a)(B:ay F W hb b):bf (F+3) (2*W+3) (.af [.str "elem",a,b]):=by
 refine gz (k:=97) λn hn w hw g P Z S Q R k=>?_;refine A.w0 ⟨1,0,0⟩ R rfl λZ R=>?_;refine B.w1 ⟨2,0,0⟩ R rfl λZ R=>?_;rcases id hw with rfl|rfl|rfl
 rotate_right
 ·refine LG Ca ⟨1,0,0⟩ R (Li) rfl λZ R=>?_
  refine LG cL ⟨1,0,0⟩ R (cZ) rfl λZ R=>?_;exact k _ R.w
 all_goals
  refine LG K8 ⟨1,0,0⟩ R (S4) rfl λZ R=>?_;exact vg hw R λZ R=>k _ R.w
theorem OS(A:ay F W ha a)(B:ay F W hb b):kD (F+3) (2*W+3) (.af [.str "helem",a,b]):=by
 refine fF (k:=62) λn hn g P Z S Q R k=>?_;refine A.w0 ⟨1,0,0⟩ R rfl λZ R=>?_;refine B.w1 ⟨2,0,0⟩ R rfl λZ R=>?_;refine LG yl ⟨1,0,0⟩ R (HY) rfl λZ R=>?_;exact k _ R.w
theorem OU(A:ay F W ha a)(B:ay F W hb b):bf (F+3) (2*W+3) (.af [.str "helem",a,b]):=by
 refine gz (k:=97) λn hn w hw g P Z S Q R k=>?_;refine A.w0 ⟨1,0,0⟩ R rfl λZ R=>?_;refine B.w1 ⟨2,0,0⟩ R rfl λZ R=>?_;rcases id hw with rfl|rfl|rfl
 rotate_right
 ·refine LG yk ⟨1,0,0⟩ R (HX) rfl λZ R=>?_
  refine LG cL ⟨1,0,0⟩ R (cZ) rfl λZ R=>?_;exact k _ R.w
 all_goals
  refine LG F1 ⟨1,0,0⟩ R (OH) rfl λZ R=>?_;exact vg hw R λZ R=>k _ R.w
theorem LH(A:ay F W ha a)(B:ay F W hb b):bf (F+3) (2*W+3) (.af [.str "aslice",a,b]):=by
 refine gz (k:=98) λn hn w hw g P Z S Q R k=>?_;refine A.w0 ⟨1,0,0⟩ R rfl λZ R=>?_;refine B.w2 ⟨2,0,0⟩ R rfl λZ R=>?_;refine LG Cd ⟨1,0,0⟩ R (Lk) rfl λZ R=>?_;exact lg hw R λZ R=>k _ R.w
theorem LI(A:ay F W ha a)(B:ay F W hb b):bf (F+3) (2*W+3) (.af [.str "hslice",a,b]):=by
 refine gz (k:=98) λn hn w hw g P Z S Q R k=>?_;refine A.w0 ⟨1,0,0⟩ R rfl λZ R=>?_;refine B.w2 ⟨2,0,0⟩ R rfl λZ R=>?_;refine LG Ce ⟨1,0,0⟩ R (Ll) rfl λZ R=>?_;exact lg hw R λZ R=>k _ R.w
theorem LK(A:ay F W ha a)(B:ay F W hb b):bf (F+3) (2*W+3) (.af [.str "lslice",a,b]):=by
 refine gz (k:=36) λn hn w hw g P Z S Q R k=>?_;refine A.w2 ⟨1,0,0⟩ R rfl λZ R=>?_;refine B.w2 ⟨2,0,0⟩ R rfl λZ R=>?_;refine LG Cf ⟨1,0,0⟩ R (Lm) rfl λZ R=>?_;exact lg hw R λZ R=>k _ R.w
theorem OV(A:ay F W ha a)(B:ay F W hb b):bf (F+3) (2*W+3) (.af [.str "range",a,b]):=by
 refine gz (k:=34) λn hn w hw g P Z S Q R k=>?_;refine A.w1 ⟨1,0,0⟩ R rfl λZ R=>?_;refine B.w1 ⟨2,0,0⟩ R rfl λZ R=>?_;rcases hw with rfl|rfl|rfl
 ·refine LG z0 ⟨1,0,0⟩ R (F7) rfl λZ R=>?_
  exact lg (.inl rfl) R λZ R=>k _ R.w
 ·refine LG gJ ⟨1,0,0⟩ R (iG) rfl λZ R=>?_
  refine LG gJ ⟨0,0,0⟩ R (iG) rfl λZ R=>?_;refine LE (dY (.str "a flip-flop is left out")) [] ⟨1,0,0⟩ ⟨1,0,0⟩ R (eV (.str "a flip-flop is left out")) rfl rfl (λm h=>by cases h) rfl λZ R=>?_;exact k _ R.w
 ·refine LG z0 ⟨1,0,0⟩ R (F7) rfl λZ R=>?_
  exact lg (.inr (.inr rfl)) R λZ R=>k _ R.w
theorem LM(A:ay F W ha a)(B:ay F W hb b):bf (F+3) (2*W+3) (.af [.str "repeat",a,b]):=by
 refine gz (k:=35) λn hn w hw g P Z S Q R k=>?_;rcases id hw with rfl|rfl|rfl
 rotate_right
 ·refine A.w2 ⟨1,0,0⟩ R rfl λZ R=>?_
  refine LG DY ⟨1,0,0⟩ R (Le) rfl λZ R=>?_;refine B.w1 ⟨2,0,0⟩ R rfl λZ R=>?_;refine LG Cg ⟨1,0,0⟩ R (Ln) rfl λZ R=>?_;exact k _ R.w
 all_goals
  refine A.w1 ⟨1,0,0⟩ R rfl λZ R=>?_;refine B.w1 ⟨2,0,0⟩ R rfl λZ R=>?_;refine LG (vf (.str "x")) ⟨1,0,0⟩ R (yq (.str "x")) rfl λZ R=>?_;exact vg hw R λZ R=>k _ R.w
theorem OW(A:ay F W ha a):bf (F+3) (W+3) (.af [.str "anonh",a]):=by
 refine gz (k:=102) λn hn w hw g P Z S Q R k=>?_;refine A.w2 ⟨1,0,0⟩ R rfl λZ R=>?_;refine LG F0 ⟨1,0,0⟩ R (OG) rfl λZ R=>?_;exact vg hw R λZ R=>k _ R.w
theorem OX:bf 3 3 (.af [.str "list",.aC []]):=by
 refine gz (k:=33) λn hn w hw g P Z S Q R k=>?_;rcases id hw with rfl|rfl|rfl
 rotate_right
 ·refine LG qD ⟨1,0,0⟩ R (yr) rfl λZ R=>?_
  exact k _ R.w
 all_goals exact bh hw R rfl λZ R=>k _ R.w
theorem OY(A:ay F W ha a):bf (F+3) (2*W+3) (.af [.str "list",.aC [a]]):=by
 refine gz (k:=33) λn hn w hw g P Z S Q R k=>?_;obtain⟨ra,rfl⟩:=A.af;rcases hw with rfl|rfl|rfl
 ·refine(A.c (.inl rfl) (by lia)).call ⟨0,0,0⟩ R rfl λZ R=>?_
  exact k _ R.w
 ·refine(A.c (.inr (.inl rfl)) (by lia)).call ⟨1,0,0⟩ R rfl λZ R=>?_
  exact k _ R.w
 ·refine A.w2 ⟨1,0,0⟩ R rfl λZ R=>?_
  refine LG mP ⟨1,0,0⟩ R (qH) rfl λZ R=>?_;exact k _ R.w
theorem OZ(A:ay F W ha a)(B:ay F W hb b):bf (F+3) (2*W+3) (.af [.str "list",.aC [a,b]]):=by
 refine gz (k:=33) λn hn w hw g P Z S Q R k=>?_;obtain⟨ra,rfl⟩:=A.af;obtain⟨rb,rfl⟩:=B.af;rcases hw with rfl|rfl|rfl
 ·refine(A.c (.inl rfl) (by lia)).call ⟨0,0,0⟩ R rfl λZ R=>?_
  refine(B.c (.inl rfl) (by lia)).call ⟨0,0,0⟩ R rfl λZ R=>?_;exact k _ R.w
 ·refine(A.c (.inl rfl) (by lia)).call ⟨0,0,0⟩ R rfl λZ R=>?_
  refine(B.c (.inr (.inl rfl)) (by lia)).call ⟨1,0,0⟩ R rfl λZ R=>?_;exact k _ R.w
 ·refine A.w2 ⟨1,0,0⟩ R rfl λZ R=>?_
  refine B.w2 ⟨2,0,0⟩ R rfl λZ R=>?_;refine LG jB ⟨1,0,0⟩ R (mR) rfl λZ R=>?_;exact k _ R.w
theorem CA(A:ay F W ha a)(B:ay F W hb b)(hn:F+14<=n):aO n 64 [.af [.str "assign",a,b]] (F+2) (2*W+2) 1:=by
 obtain⟨n,rfl⟩:=e1 n;refine aO.intro λg P Z S Q R k=>?_;refine B.w1 ⟨1,0,0⟩ R rfl λZ R=>?_;refine A.w0 ⟨2,0,0⟩ R rfl λZ R=>?_;refine LG gm ⟨2,0,0⟩ R (g8) rfl λZ R=>?_;refine LG pO ⟨1,0,0⟩ R (vC) rfl λZ R=>?_;exact k _ R.w
theorem LP(A:ay F W ha a)(B:ay F W hb b):kD (F+4) (2*W+2) (.af [.str "assign",a,b]):=by
 refine fF (k:=64) λn hn g P Z S Q R k=>?_;refine(CA A B (by lia)).call ⟨1,0,0⟩ R rfl λZ R=>?_;exact k _ R.w
theorem LQ(A:ay F W ha a)(B:ay F W hb b):bf (F+5) (2*W+4) (.af [.str "assign",a,b]):=by
 refine gz (k:=70) λn hn w hw g P Z S Q R k=>?_;refine(CA A B (by lia)).call ⟨1,0,0⟩ R rfl λZ R=>?_;exact sg hw R λZ R=>k _ R.w
theorem LR(A:ay F W ha a)(B:ay F W hb b)(hn:F+14<=n):aO n 65 [.af [.str "opassign",.str "+",a,b]] (F+2) (2*W+8) 1:=by
 obtain⟨n,rfl⟩:=e1 n;refine aO.intro λg P Z S Q R k=>?_;refine A.w0 ⟨1,0,0⟩ R rfl λZ R=>?_;refine LG gm ⟨1,0,0⟩ R (g8) rfl λZ R=>?_;refine B.w1 ⟨2,0,0⟩ R rfl λZ R=>?_;refine LG (ve (.str "+")) ⟨1,0,0⟩ R (Ea (.str "+")) rfl λZ R=>?_;exact k _ R.w
theorem Tu(A:ay F W ha a)(B:ay F W hb b):kD (F+4) (2*W+8) (.af [.str "opassign",.str "+",a,b]):=by
 refine fF (k:=65) λn hn g P Z S Q R k=>?_;refine(LR A B (by lia)).call ⟨1,0,0⟩ R rfl λZ R=>?_;exact k _ R.w
theorem Tv(A:ay F W ha a)(B:ay F W hb b):bf (F+5) (2*W+10) (.af [.str "opassign",.str "+",a,b]):=by
 refine gz (k:=71) λn hn w hw g P Z S Q R k=>?_;refine(LR A B (by lia)).call ⟨1,0,0⟩ R rfl λZ R=>?_;exact sg hw R λZ R=>k _ R.w
theorem LS(A:ay F W ha a)(B:ay F W hb b)(hn:F+14<=n):aO n 65 [.af [.str "opassign",.str "||",a,b]] (F+2) (2*W+8) 1:=by
 obtain⟨n,rfl⟩:=e1 n;refine aO.intro λg P Z S Q R k=>?_;refine A.w0 ⟨1,0,0⟩ R rfl λZ R=>?_;refine LG gm ⟨1,0,0⟩ R (g8) rfl λZ R=>?_;refine aB ⟨1,0,0⟩ R λZ m1 R=>?_;refine LG u9 ⟨2,0,0⟩ R (yp) rfl λZ R=>?_;refine LG pM ⟨2,0,0⟩ R (sP) rfl λZ R=>?_;refine LJ jF m1 ⟨1,0,0⟩ R l7 rfl (.head _) rfl λZ R=>?_;refine B.w1 ⟨2,0,0⟩ R rfl λZ R=>?_;refine LG DX ⟨2,0,0⟩ R (Ld) rfl λZ R=>?_;refine LG pO ⟨1,0,0⟩ R (vC) rfl λZ R=>?_;refine R.aZ ?_;refine PM [] 1 R (.refl _) rfl rfl rfl λZ R=>?_;exact k _ R.w
theorem Tw(A:ay F W ha a)(B:ay F W hb b):kD (F+4) (2*W+8) (.af [.str "opassign",.str "||",a,b]):=by
 refine fF (k:=65) λn hn g P Z S Q R k=>?_;refine(LS A B (by lia)).call ⟨1,0,0⟩ R rfl λZ R=>?_;exact k _ R.w
theorem Tz(A:ay F W ha a)(B:ay F W hb b):bf (F+5) (2*W+10) (.af [.str "opassign",.str "||",a,b]):=by
 refine gz (k:=71) λn hn w hw g P Z S Q R k=>?_;refine(LS A B (by lia)).call ⟨1,0,0⟩ R rfl λZ R=>?_;exact sg hw R λZ R=>k _ R.w
theorem LU(A:ay F W ha a)(B:ay F W hb b)(hn:F+14<=n):aO n 65 [.af [.str "opassign",.str "//",a,b]] (F+2) (2*W+8) 1:=by
 obtain⟨n,rfl⟩:=e1 n;refine aO.intro λg P Z S Q R k=>?_;refine A.w0 ⟨1,0,0⟩ R rfl λZ R=>?_;refine LG gm ⟨1,0,0⟩ R (g8) rfl λZ R=>?_;refine aB ⟨1,0,0⟩ R λZ m1 R=>?_;refine LG u9 ⟨2,0,0⟩ R (yp) rfl λZ R=>?_;refine LG pM ⟨2,0,0⟩ R (sP) rfl λZ R=>?_;refine LJ Aa m1 ⟨1,0,0⟩ R Gb rfl (.head _) rfl λZ R=>?_;refine B.w1 ⟨2,0,0⟩ R rfl λZ R=>?_;refine LG DX ⟨2,0,0⟩ R (Ld) rfl λZ R=>?_;refine LG pO ⟨1,0,0⟩ R (vC) rfl λZ R=>?_;refine R.aZ ?_;refine PM [] 1 R (.refl _) rfl rfl rfl λZ R=>?_;exact k _ R.w
theorem TA(A:ay F W ha a)(B:ay F W hb b):kD (F+4) (2*W+8) (.af [.str "opassign",.str "//",a,b]):=by
 refine fF (k:=65) λn hn g P Z S Q R k=>?_;refine(LU A B (by lia)).call ⟨1,0,0⟩ R rfl λZ R=>?_;exact k _ R.w
theorem TF(A:ay F W ha a)(B:ay F W hb b):bf (F+5) (2*W+10) (.af [.str "opassign",.str "//",a,b]):=by
 refine gz (k:=71) λn hn w hw g P Z S Q R k=>?_;refine(LU A B (by lia)).call ⟨1,0,0⟩ R rfl λZ R=>?_;exact sg hw R λZ R=>k _ R.w
theorem CB(A:ay F W ha a)(hn:F+14<=n):aO n 66 [.af [.str "preinc",a]] (F+2) (W+2) 1:=by
 obtain⟨n,rfl⟩:=e1 n;refine aO.intro λg P Z S Q R k=>?_;refine A.w0 ⟨1,0,0⟩ R rfl λZ R=>?_;refine LG gm ⟨1,0,0⟩ R (g8) rfl λZ R=>?_;refine LG B9 ⟨1,0,0⟩ R (Lg) rfl λZ R=>?_;exact k _ R.w
theorem LV(A:ay F W ha a):bf (F+5) (W+4) (.af [.str "preinc",a]):=by
 refine gz (k:=72) λn hn w hw g P Z S Q R k=>?_;refine(CB A (by lia)).call ⟨1,0,0⟩ R rfl λZ R=>?_;exact sg hw R λZ R=>k _ R.w
theorem H9(A:ay F W ha a)(hn:F+14<=n):aO n 66 [.af [.str "postdec",a]] (F+2) (W+2) 1:=by
 obtain⟨n,rfl⟩:=e1 n;refine aO.intro λg P Z S Q R k=>?_;refine A.w0 ⟨1,0,0⟩ R rfl λZ R=>?_;refine LG gm ⟨1,0,0⟩ R (g8) rfl λZ R=>?_;refine LG yj ⟨1,0,0⟩ R (HW) rfl λZ R=>?_;exact k _ R.w
theorem Ia(A:ay F W ha a):bf (F+5) (W+4) (.af [.str "postdec",a]):=by
 refine gz (k:=72) λn hn w hw g P Z S Q R k=>?_;refine(H9 A (by lia)).call ⟨1,0,0⟩ R rfl λZ R=>?_;exact vg hw R λZ R=>k _ R.w
theorem LW(A:ay F W ha a):kD (F+4) (W+2) (.af [.str "preinc",a]):=by
 refine fF (k:=66) λn hn g P Z S Q R k=>?_;refine(CB A (by lia)).call ⟨1,0,0⟩ R rfl λZ R=>?_;exact k _ R.w
theorem Gh(hn:12<=n):aO n 75 [.af [.str "globs",x]] 1 1 1:=by
 obtain⟨n,rfl⟩:=e1 n;refine aO.intro λg P Z S Q R k=>?_;refine LG (rg (.str "S") x) ⟨1,0,0⟩ R (Cm (.str "S") x) rfl λZ R=>?_;exact k _ R.w
theorem Gi:kD 3 1 (.af [.str "local",.af [.str "globs",x]]):=by
 refine fF (k:=67) λn hn g P Z S Q R k=>?_;refine(Gh (x:=x) (by lia)).call ⟨1,0,0⟩ R rfl λZ R=>?_;exact k _ R.w
theorem O0(hn:16<=n):aO n 73 [.af [.str "local",.af [.str "globs",x]]] 4 2 1:=by
 obtain⟨n,rfl⟩:=e1 n;refine aO.intro λg P Z S Q R k=>?_;refine(Gi (x:=x) n (by lia)).call ⟨1,0,0⟩ R rfl λZ R=>?_;refine LG cL ⟨1,0,0⟩ R (cZ) rfl λZ R=>?_;exact k _ R.w
theorem O1:bf 6 4 (.af [.str "local",.af [.str "globs",x]]):=by
 refine gz (k:=77) λn hn w hw g P Z S Q R k=>?_;refine(O0 (x:=x) (by lia)).call ⟨1,0,0⟩ R rfl λZ R=>?_;rcases id hw with rfl|rfl|rfl
 rotate_right
 ·refine LG yi ⟨1,0,0⟩ R (HV) rfl λZ R=>?_
  exact k _ R.w
 all_goals
  refine LG pN ⟨1,0,0⟩ R (Ac) rfl λZ R=>?_;exact vg hw R λZ R=>k _ R.w
theorem TG{r:List V}(A:ay F W "pads" (.af (.str "pads"::r)))(hn:F+13<=n):aO n 73 [.af (.str "pads"::r)] (F+1) (W+1) 1:=by
 obtain⟨n,rfl⟩:=e1 n;refine aO.intro λg P Z S Q R k=>?_;refine A.w0 ⟨1,0,0⟩ R rfl λZ R=>?_;refine LG cL ⟨1,0,0⟩ R (cZ) rfl λZ R=>?_;exact k _ R.w
theorem Wr{r:List V}(A:ay F W "mys" (.af (.str "mys"::r)))(hn:F+13<=n):aO n 73 [.af (.str "mys"::r)] (F+1) (W+1) 1:=by
 obtain⟨n,rfl⟩:=e1 n;refine aO.intro λg P Z S Q R k=>?_;refine A.w0 ⟨1,0,0⟩ R rfl λZ R=>?_;refine LG cL ⟨1,0,0⟩ R (cZ) rfl λZ R=>?_;exact k _ R.w
theorem O2{r:List V}(A:ay F W "globs" (.af (.str "globs"::r)))(hn:F+13<=n):aO n 73 [.af (.str "globs"::r)] (F+1) (W+1) 1:=by
 obtain⟨n,rfl⟩:=e1 n;refine aO.intro λg P Z S Q R k=>?_;refine A.w0 ⟨1,0,0⟩ R rfl λZ R=>?_;refine LG cL ⟨1,0,0⟩ R (cZ) rfl λZ R=>?_;exact k _ R.w
theorem TH{r:List V}(A:ay F W "pada" (.af (.str "pada"::r)))(hn:F+13<=n):aO n 73 [.af (.str "pada"::r)] (F+1) (W+1) 1:=by
 obtain⟨n,rfl⟩:=e1 n;refine aO.intro λg P Z S Q R k=>?_;refine A.w0 ⟨1,0,0⟩ R rfl λZ R=>?_;refine LG cL ⟨1,0,0⟩ R (cZ) rfl λZ R=>?_;exact k _ R.w
theorem O3{r:List V}(A:ay F W "globa" (.af (.str "globa"::r)))(hn:F+13<=n):aO n 73 [.af (.str "globa"::r)] (F+1) (W+1) 1:=by
 obtain⟨n,rfl⟩:=e1 n;refine aO.intro λg P Z S Q R k=>?_;refine A.w0 ⟨1,0,0⟩ R rfl λZ R=>?_;refine LG cL ⟨1,0,0⟩ R (cZ) rfl λZ R=>?_;exact k _ R.w
theorem TJ{r:List V}(A:ay F W "rv2a" (.af (.str "rv2a"::r)))(hn:F+13<=n):aO n 73 [.af (.str "rv2a"::r)] (F+1) (W+1) 1:=by
 obtain⟨n,rfl⟩:=e1 n;refine aO.intro λg P Z S Q R k=>?_;refine A.w0 ⟨1,0,0⟩ R rfl λZ R=>?_;refine LG cL ⟨1,0,0⟩ R (cZ) rfl λZ R=>?_;exact k _ R.w
theorem O4(hn:13<=n):aO n 73 [.af [.str "undef"]] 1 2 1:=by
 obtain⟨n,rfl⟩:=e1 n;refine aO.intro λg P Z S Q R k=>?_;refine LG (gx .none) ⟨1,0,0⟩ R (gW .none) rfl λZ R=>?_;refine LG cL ⟨1,0,0⟩ R (cZ) rfl λZ R=>?_;exact k _ R.w
theorem O5{rb rc:List V}(A:∀n,F+12<=n->aO n 73 [.af ra] F W 1)(B:∀n,F+12<=n->aO n 73 [.af rb] F W 1)(C:∀n,F+12<=n->aO n 73 [.af rc] F W 1)(hn:F+13<=n):aO n 73 [.af [.str "list",.aC [.af ra,.af rb,.af rc]]] (F+1) (3*W+1) 1:=by
 obtain⟨n,rfl⟩:=e1 n;refine aO.intro λg P Z S Q R k=>?_;refine(A n (by lia)).call ⟨1,0,0⟩ R rfl λZ R=>?_;refine(B n (by lia)).call ⟨2,0,0⟩ R rfl λZ R=>?_;refine(C n (by lia)).call ⟨3,0,0⟩ R rfl λZ R=>?_;refine LG ym ⟨1,0,0⟩ R (HZ) rfl λZ R=>?_;exact k _ R.w
theorem Ib(hn:13<=n):aO n 76 [.af [.str "list",.aC [.af [.str "globs",x]]]] 2 3 1:=by
 obtain⟨n,rfl⟩:=e1 n;refine aO.intro λg P Z S Q R k=>?_;refine(Gh (x:=x) (by lia)).call ⟨1,0,0⟩ R rfl λZ R=>?_;refine LG cL ⟨1,0,0⟩ R (cZ) rfl λZ R=>?_;refine LG mP ⟨1,0,0⟩ R (qH) rfl λZ R=>?_;exact k _ R.w
theorem Ic(hn:15<=n):aO n 73 [.af [.str "local",.af [.str "list",.aC [.af [.str "globs",x]]]]] 3 3 1:=by
 obtain⟨n,rfl⟩:=e1 n;refine aO.intro λg P Z S Q R k=>?_;refine(Ib (x:=x) (by lia)).call ⟨1,0,0⟩ R rfl λZ R=>?_;exact k _ R.w
theorem Ie(A:∀n,F+12<=n->aO n 73 [a] F W 1)(B:ay F W hb b):bf (F+3) (2*W+3) (.af [.str "aassign",a,b]):=by
 refine gz (k:=74) λn hn w hw g P Z S Q R k=>?_;refine B.w2 ⟨1,0,0⟩ R rfl λZ R=>?_;refine LG DY ⟨1,0,0⟩ R (Le) rfl λZ R=>?_;refine(A n (by lia)).call ⟨2,0,0⟩ R rfl λZ R=>?_;rcases hw with rfl|rfl|rfl
 ·refine LG vh ⟨0,0,0⟩ R (Eb) rfl λZ R=>?_
  exact k _ R.w
 ·refine LG vm ⟨1,0,0⟩ R (Ed) rfl λZ R=>?_
  exact k _ R.w
 ·refine LG vo ⟨1,0,0⟩ R (Eg) rfl λZ R=>?_
  exact k _ R.w
theorem Ig(A:ay F W ha a):kD (F+3) (3*W+3) (.af [.str "func",.str "substr",.aC [a]]):=by
 refine fF (k:=68) λn hn g P Z S Q R k=>?_;refine LE (dY (.str "Can't modify what stands here")) [] ⟨1,0,0⟩ ⟨1,0,0⟩ R (eV (.str "Can't modify what stands here")) rfl rfl (λm h=>by cases h) rfl λZ R=>?_;exact k _ R.w
theorem Ih(A:ay F W ha a)(B:ay F W hb b):kD (F+3) (3*W+3) (.af [.str "func",.str "substr",.aC [a,b]]):=by
 refine fF (k:=68) λn hn g P Z S Q R k=>?_;obtain⟨rb,rfl⟩:=B.af;refine A.w0 ⟨1,0,0⟩ R rfl λZ R=>?_;refine B.w1 ⟨2,0,0⟩ R rfl λZ R=>?_;refine LG rj ⟨1,0,0⟩ R (Co) rfl λZ R=>?_;exact k _ R.w
theorem Ii(A:ay F W ha a)(B:ay F W hb b)(C:ay F W hc c):kD (F+3) (3*W+3) (.af [.str "func",.str "substr",.aC [a,b,c]]):=by
 refine fF (k:=68) λn hn g P Z S Q R k=>?_;obtain⟨rb,rfl⟩:=B.af;obtain⟨rc,rfl⟩:=C.af;refine A.w0 ⟨1,0,0⟩ R rfl λZ R=>?_;refine B.w1 ⟨2,0,0⟩ R rfl λZ R=>?_;refine C.w1 ⟨3,0,0⟩ R rfl λZ R=>?_;refine LG rm ⟨1,0,0⟩ R (Cp) rfl λZ R=>?_;exact k _ R.w
theorem TL(A:ay F W ha a):kD (F+3) (3*W+3) (.af [.str "func",.str "vec",.aC [a]]):=by
 refine fF (k:=68) λn hn g P Z S Q R k=>?_;refine LE (dY (.str "Can't modify what stands here")) [] ⟨1,0,0⟩ ⟨1,0,0⟩ R (eV (.str "Can't modify what stands here")) rfl rfl (λm h=>by cases h) rfl λZ R=>?_;exact k _ R.w
theorem TM(A:ay F W ha a)(B:ay F W hb b):kD (F+3) (3*W+3) (.af [.str "func",.str "vec",.aC [a,b]]):=by
 refine fF (k:=68) λn hn g P Z S Q R k=>?_;obtain⟨rb,rfl⟩:=B.af;refine LE (dY (.str "Can't modify what stands here")) [] ⟨1,0,0⟩ ⟨1,0,0⟩ R (eV (.str "Can't modify what stands here")) rfl rfl (λm h=>by cases h) rfl λZ R=>?_;exact k _ R.w
theorem TN(A:ay F W ha a)(B:ay F W hb b)(C:ay F W hc c):kD (F+3) (3*W+3) (.af [.str "func",.str "vec",.aC [a,b,c]]):=by
 refine fF (k:=68) λn hn g P Z S Q R k=>?_;obtain⟨rb,rfl⟩:=B.af;obtain⟨rc,rfl⟩:=C.af;refine A.w0 ⟨1,0,0⟩ R rfl λZ R=>?_;refine B.w1 ⟨2,0,0⟩ R rfl λZ R=>?_;refine C.w1 ⟨3,0,0⟩ R rfl λZ R=>?_;refine LG F3 ⟨1,0,0⟩ R (OI) rfl λZ R=>?_;exact k _ R.w
theorem TP(A:ay F W ha a):kD (F+3) (3*W+3) (.af [.str "func",.str "pos",.aC [a]]):=by
 refine fF (k:=68) λn hn g P Z S Q R k=>?_;refine A.w0 ⟨1,0,0⟩ R rfl λZ R=>?_;refine LG FZ ⟨1,0,0⟩ R (OF) rfl λZ R=>?_;exact k _ R.w
theorem TQ(A:ay F W ha a)(B:ay F W hb b):kD (F+3) (3*W+3) (.af [.str "func",.str "pos",.aC [a,b]]):=by
 refine fF (k:=68) λn hn g P Z S Q R k=>?_;obtain⟨rb,rfl⟩:=B.af;refine LE (dY (.str "Can't modify what stands here")) [] ⟨1,0,0⟩ ⟨1,0,0⟩ R (eV (.str "Can't modify what stands here")) rfl rfl (λm h=>by cases h) rfl λZ R=>?_;exact k _ R.w
theorem TR(A:ay F W ha a)(B:ay F W hb b)(C:ay F W hc c):kD (F+3) (3*W+3) (.af [.str "func",.str "pos",.aC [a,b,c]]):=by
 refine fF (k:=68) λn hn g P Z S Q R k=>?_;obtain⟨rb,rfl⟩:=B.af;obtain⟨rc,rfl⟩:=C.af;refine LE (dY (.str "Can't modify what stands here")) [] ⟨1,0,0⟩ ⟨1,0,0⟩ R (eV (.str "Can't modify what stands here")) rfl rfl (λm h=>by cases h) rfl λZ R=>?_;exact k _ R.w
theorem Wu(A:ay F W ha a):kD (F+3) (3*W+3) (.af [.str "func",.str "lc",.aC [a]]):=by
 refine fF (k:=68) λn hn g P Z S Q R k=>?_;refine LE (dY (.str "Can't modify what stands here")) [] ⟨1,0,0⟩ ⟨1,0,0⟩ R (eV (.str "Can't modify what stands here")) rfl rfl (λm h=>by cases h) rfl λZ R=>?_;exact k _ R.w
theorem Wv(A:ay F W ha a)(B:ay F W hb b):kD (F+3) (3*W+3) (.af [.str "func",.str "lc",.aC [a,b]]):=by
 refine fF (k:=68) λn hn g P Z S Q R k=>?_;obtain⟨rb,rfl⟩:=B.af;refine LE (dY (.str "Can't modify what stands here")) [] ⟨1,0,0⟩ ⟨1,0,0⟩ R (eV (.str "Can't modify what stands here")) rfl rfl (λm h=>by cases h) rfl λZ R=>?_;exact k _ R.w
theorem Ww(A:ay F W ha a)(B:ay F W hb b)(C:ay F W hc c):kD (F+3) (3*W+3) (.af [.str "func",.str "lc",.aC [a,b,c]]):=by
 refine fF (k:=68) λn hn g P Z S Q R k=>?_;obtain⟨rb,rfl⟩:=B.af;obtain⟨rc,rfl⟩:=C.af;refine LE (dY (.str "Can't modify what stands here")) [] ⟨1,0,0⟩ ⟨1,0,0⟩ R (eV (.str "Can't modify what stands here")) rfl rfl (λm h=>by cases h) rfl λZ R=>?_;exact k _ R.w
theorem Gj(hn:13<=n):aO n 79 [.af [.str "globc",x]] 1 1 1:=by
 obtain⟨n,rfl⟩:=e1 n;refine aO.intro λg P Z S Q R k=>?_;refine LG (yg x) ⟨1,0,0⟩ R (HT x) rfl λZ R=>?_;exact k _ R.w
theorem TS(A:ay F W ha a)(hn:F+14<=n):aO n 79 [.af [.str "rv2c",a]] (F+2) (W+1) 1:=by
 obtain⟨n,rfl⟩:=e1 n;refine aO.intro λg P Z S Q R k=>?_;refine A.w1 ⟨1,0,0⟩ R rfl λZ R=>?_;refine LG (kj (.str "C")) ⟨1,0,0⟩ R (mQ (.str "C")) rfl λZ R=>?_;exact k _ R.w
theorem O6:bf 4 3 (.af [.str "call",.af [.str "globc",x],.none]):=by
 refine gz (k:=80) λn hn w hw g P Z S Q R k=>?_;refine(Gj (x:=x) (by lia)).call ⟨1,0,0⟩ R rfl λZ R=>?_;rcases hw with rfl|rfl|rfl
 ·refine LG rq ⟨0,0,0⟩ R (Cq) rfl λZ R=>?_
  exact k _ R.w
 ·refine LG rt ⟨1,0,0⟩ R (Cr) rfl λZ R=>?_
  exact k _ R.w
 ·refine LG rz ⟨1,0,0⟩ R (Cs) rfl λZ R=>?_
  exact k _ R.w
theorem O7(A:ay F W ha a):bf (F+5) (W+3) (.af [.str "call",.af [.str "globc",x],a]):=by
 refine gz (k:=80) λn hn w hw g P Z S Q R k=>?_;obtain⟨r,rfl⟩:=A.af;refine A.w2 ⟨1,0,0⟩ R rfl λZ R=>?_;refine(Gj (x:=x) (by lia)).call ⟨2,0,0⟩ R rfl λZ R=>?_;rcases hw with rfl|rfl|rfl
 ·refine LG z7 ⟨0,0,0⟩ R (F8) rfl λZ R=>?_
  exact k _ R.w
 ·refine LG z8 ⟨1,0,0⟩ R (F9) rfl λZ R=>?_
  exact k _ R.w
 ·refine LG z9 ⟨1,0,0⟩ R (Ga) rfl λZ R=>?_
  exact k _ R.w
theorem O8(A:ay F W ha a)(B:ay F W hb b):bf (F+5) (2*W+3) (.af [.str "call",.af [.str "rv2c",b],a]):=by
 refine gz (k:=80) λn hn w hw g P Z S Q R k=>?_;obtain⟨r,rfl⟩:=A.af;refine A.w2 ⟨1,0,0⟩ R rfl λZ R=>?_;refine(TS B (by lia)).call ⟨2,0,0⟩ R rfl λZ R=>?_;rcases hw with rfl|rfl|rfl
 ·refine LG z7 ⟨0,0,0⟩ R (F8) rfl λZ R=>?_
  exact k _ R.w
 ·refine LG z8 ⟨1,0,0⟩ R (F9) rfl λZ R=>?_
  exact k _ R.w
 ·refine LG z9 ⟨1,0,0⟩ R (Ga) rfl λZ R=>?_
  exact k _ R.w
theorem Em(A:ay F W ha a):bf (F+5) (3*W+4) (.af [.str "method",a,(.str ("m")),.none,y]):=by
 refine gz (k:=81) λn hn w hw g P Z S Q R k=>?_;refine A.w1 ⟨1,0,0⟩ R rfl λZ R=>?_;refine LG cL ⟨1,0,0⟩ R (cZ) rfl λZ R=>?_;refine LG (gx (.str "m")) ⟨2,0,0⟩ R (gW (.str "m")) rfl λZ R=>?_;rcases hw with rfl|rfl|rfl
 ·refine LG (jC y) ⟨0,0,0⟩ R (mS y) rfl λZ R=>?_
  exact k _ R.w
 ·refine LG (jD y) ⟨1,0,0⟩ R (mT y) rfl λZ R=>?_
  exact k _ R.w
 ·refine LG (jE y) ⟨1,0,0⟩ R (mU y) rfl λZ R=>?_
  exact k _ R.w
theorem En(A:ay F W ha a)(B:ay F W hb b):bf (F+5) (3*W+4) (.af [.str "method",a,(.str ("m")),b,y]):=by
 refine gz (k:=81) λn hn w hw g P Z S Q R k=>?_;obtain⟨rb,rfl⟩:=B.af;refine A.w1 ⟨1,0,0⟩ R rfl λZ R=>?_;refine LG cL ⟨1,0,0⟩ R (cZ) rfl λZ R=>?_;refine B.w2 ⟨2,0,0⟩ R rfl λZ R=>?_;refine LG jB ⟨1,0,0⟩ R (mR) rfl λZ R=>?_;refine LG (gx (.str "m")) ⟨2,0,0⟩ R (gW (.str "m")) rfl λZ R=>?_;rcases hw with rfl|rfl|rfl
 ·refine LG (jC y) ⟨0,0,0⟩ R (mS y) rfl λZ R=>?_
  exact k _ R.w
 ·refine LG (jD y) ⟨1,0,0⟩ R (mT y) rfl λZ R=>?_
  exact k _ R.w
 ·refine LG (jE y) ⟨1,0,0⟩ R (mU y) rfl λZ R=>?_
  exact k _ R.w
theorem Eo(A:ay F W ha a)(C:ay F W hc c):bf (F+5) (3*W+4) (.af [.str "method",a,c,.none,y]):=by
 refine gz (k:=81) λn hn w hw g P Z S Q R k=>?_;obtain⟨rc,rfl⟩:=C.af;refine A.w1 ⟨1,0,0⟩ R rfl λZ R=>?_;refine LG cL ⟨1,0,0⟩ R (cZ) rfl λZ R=>?_;refine C.w1 ⟨2,0,0⟩ R rfl λZ R=>?_;rcases hw with rfl|rfl|rfl
 ·refine LG (jC y) ⟨0,0,0⟩ R (mS y) rfl λZ R=>?_
  exact k _ R.w
 ·refine LG (jD y) ⟨1,0,0⟩ R (mT y) rfl λZ R=>?_
  exact k _ R.w
 ·refine LG (jE y) ⟨1,0,0⟩ R (mU y) rfl λZ R=>?_
  exact k _ R.w
theorem Ep(A:ay F W ha a)(B:ay F W hb b)(C:ay F W hc c):bf (F+5) (3*W+4) (.af [.str "method",a,c,b,y]):=by
 refine gz (k:=81) λn hn w hw g P Z S Q R k=>?_;obtain⟨rb,rfl⟩:=B.af;obtain⟨rc,rfl⟩:=C.af;refine A.w1 ⟨1,0,0⟩ R rfl λZ R=>?_;refine LG cL ⟨1,0,0⟩ R (cZ) rfl λZ R=>?_;refine B.w2 ⟨2,0,0⟩ R rfl λZ R=>?_;refine LG jB ⟨1,0,0⟩ R (mR) rfl λZ R=>?_;refine C.w1 ⟨2,0,0⟩ R rfl λZ R=>?_;rcases hw with rfl|rfl|rfl
 ·refine LG (jC y) ⟨0,0,0⟩ R (mS y) rfl λZ R=>?_
  exact k _ R.w
 ·refine LG (jD y) ⟨1,0,0⟩ R (mT y) rfl λZ R=>?_
  exact k _ R.w
 ·refine LG (jE y) ⟨1,0,0⟩ R (mU y) rfl λZ R=>?_
  exact k _ R.w
theorem Ij(A:ay F W ha a):bf (F+3) (W+3) (.af [.str "evalstr",a,x,y]):=by
 refine gz (k:=86) λn hn w hw g P Z S Q R k=>?_;refine A.w1 ⟨1,0,0⟩ R rfl λZ R=>?_;rcases hw with rfl|rfl|rfl
 ·refine LG (vj x y) ⟨0,0,0⟩ R (Ec x y) rfl λZ R=>?_
  exact k _ R.w
 ·refine LG (vn x y) ⟨1,0,0⟩ R (Ef x y) rfl λZ R=>?_
  exact k _ R.w
 ·refine LG (vq x y) ⟨1,0,0⟩ R (Eh x y) rfl λZ R=>?_
  exact k _ R.w
end
noncomputable def CC(F W:Nat)(xs:List V):Prop:=∀n,F+12<=n->aO n 100 [.aC xs] F W 1
structure nL (F W:Nat) (hd:String) (v:V):Prop where
 ok:ay F W hd v
 g:hd≠"globc"/\hd≠"rv2c"
 Y6:hd="list"->∃xs,v=.af [.str "list",.aC xs]/\CC F W xs
theorem nL.mono{v:V}(h:nL F W hd v)(hF:autoParam (F<=F') bu)(hW:autoParam (W<=W') bu):nL F' W' hd v:=
 ⟨h.ok.mono hF hW,h.g,λe=>by obtain⟨xs,a,b⟩:=h.Y6 e;exact⟨xs,a,λn hn=>(b n (by lia)).mono hF hW⟩⟩
section
variable {n:Nat}{F W:Nat}{hd:String}{v:V}{w:Int}
theorem yw{hd s:String}(h:hd≠s):eqv (.str hd) (.str s)=some false:=by show some (decide (hd=s))=_;rw[decide_eq_false h]
theorem LY(N:nL F W hd v)(hn:F+14<=n):aO n 99 [v] (F+2) (W+1) 1:=by
 obtain⟨n,rfl⟩:=e1 n;obtain⟨r,rfl⟩:=N.ok.af;refine aO.intro λg P Z S Q R k=>?_;obtain⟨S',R',_⟩:=id R;refine bG (f:=qO) rfl rfl ?_;have e0:Ev (aq ao aj n) [.ref g,.af (.str hd::r)] Z (.aa 1) (.af (.str hd::r)):=ak rfl rfl;have e1:Ev (aq ao aj n) [.ref g,.af (.str hd::r)] Z (.sub (.aa 1) (.aI (.int 0))) (.str hd):=aE e0 au rfl;refine fy (aJ (z:=false) e1 au (yw N.g.1)) ?_;refine fy (aJ (z:=false) e1 au (yw N.g.2)) ?_;have e2:=aJ (o:=.isin) (z:=(dI gV hd).isSome) e1 (aE (cg (ak (i:=0) (v:=.ref g) rfl rfl) (n9 R'.gi)) au sR) (l8 hd gV);have e3:Ev (aq ao aj n) [.ref g,.af (.str hd::r)] Z (.cmp .ne (.sub (.aa 1) (.aI (.int 0))) (.aI (.str "func"))) (.bool (!decide (hd="func"))):=aJ e1 au rfl;have yes:(dI gV hd).isSome=true->(!decide (hd="func"))=true->_:=λh1 h2=>by
  rw[h1]at e2;rw[h2]at e3;refine bU (t:=[.expr (.call (.aA 20) [(.aa 0),(.aa 1)]),.expr (.call (.aA 7) [(.aa 0),(.af [(.aI (V.str "ref"))])])]) (e:=[.expr (.call (.aA 13) [(.aa 0),(.aa 1)]),.expr (.call (.aA 7) [(.aa 0),(.af [(.aI (V.str "refvalue"))])])]) (r:=[]) (gy e2 e3)
   (Q:=fu (aq ao aj n) [] (fu (aq ao aj n) [] λfl Y Z=>match fl with
   |.next=>Q .none Z
   |.ret v=>Q v Z
   |.cont=>False)) ?_
  refine bO (aX (v:=.fn 20) rfl) (ai (ak (v:=.ref g) rfl rfl) (ai e0 az)) ?_;refine(N.ok.l (by lia)).call ⟨1,0,0⟩ R rfl λZ R=>?_;refine LG Qy ⟨1,0,0⟩ R We rfl λZ R=>?_;exact k _ R.w
 have no:Ev (aq ao aj n) [.ref g,.af (.str hd::r)] Z (.kI true [(.cmp .isin (.sub (.aa 1) (.aI (V.int 0))) (.sub (.attr (.aa 0) "tables") (.aI (V.str "lvs")))),(.cmp .ne (.sub (.aa 1) (.aI (V.int 0))) (.aI (V.str "func")))]) (.bool false)->_:=λh=>by
  refine fy (t:=[.expr (.call (.aA 20) [(.aa 0),(.aa 1)]),.expr (.call (.aA 7) [(.aa 0),(.af [(.aI (V.str "ref"))])])]) (e:=[.expr (.call (.aA 13) [(.aa 0),(.aa 1)]),.expr (.call (.aA 7) [(.aa 0),(.af [(.aI (V.str "refvalue"))])])]) (r:=[]) h
   (Q:=fu (aq ao aj n) [] (fu (aq ao aj n) [] λfl Y Z=>match fl with
   |.next=>Q .none Z
   |.ret v=>Q v Z
   |.cont=>False)) ?_
  refine bO (aX (v:=.fn 13) rfl) (ai (ak (v:=.ref g) rfl rfl) (ai e0 az)) ?_;refine(N.ok.v1 (by lia)).call ⟨1,0,0⟩ R rfl λZ R=>?_;refine LG vc ⟨1,0,0⟩ R D8 rfl λZ R=>?_;exact k _ R.w
 cases h1:(dI gV hd).isSome with
 |false=>rw[h1]at e2;exact no (fq e2)
 |true=>
  cases h2:(!decide (hd="func"))with
  |false=>rw[h1]at e2;rw[h2]at e3;exact no (gy e2 e3)
  |true=>exact yes h1 h2
noncomputable def LZ:List S:=[.ite (.cmp .eq (.sub (.aa 2) (.aI (V.int 0))) (.aI (V.str "list"))) [.expr (.call (.aA 100) [(.aa 0),(.sub (.aa 2) (.aI (V.int 1)))])] [.expr (.call (.aA 99) [(.aa 0),(.aa 2)]),.expr (.call (.aA 7) [(.aa 0),(.af [(.aI (V.str "wrap"))])])]]
theorem vH{o:Off}{Q:Fl->List V->H->Prop}(o':Off)(N:nL F W hd v)(hn:F+14<=n)(R:Run g P F' Wt bA S0 Z [] [] W1 o o)
  (hb:(Ag o&&decide (o.x<=4)&&Lu o' ⟨o.x+1,o.y,o.z⟩)=true)(hl:layB cL o' o'=true)(hF:F+3<=F')(hW:W1+(W+2)<=Wt)(h0:ρ[0]?=some (.ref g))(h2:ρ[2]?=some v)(k:∀Z',Run g P F' Wt bA S0 Z' [] [] (W1+(W+2)) o' o'->Q .next ρ Z'):WS (aq ao aj n) LZ ρ Q Z:=by
 obtain⟨r,e⟩:=N.ok.af;have a0:Ev (aq ao aj n) ρ Z (.aa 0) (.ref g):=ak h0 rfl;have a2:Ev (aq ao aj n) ρ Z (.aa 2) v:=ak h2 N.ok.ok;have e1:Ev (aq ao aj n) ρ Z (.sub (.aa 2) (.aI (.int 0))) (.str hd):=aE a2 au (by rw[e];rfl);by_cases h:hd="list"
 ·obtain⟨xs,ex,rx⟩:=N.Y6 h
  refine bU (aJ (z:=true) e1 au (by show some (decide (hd="list"))=_;rw[decide_eq_true h])) ?_;refine bO (aX (v:=.fn 100) rfl) (ai a0 (ai (aE (z:=.aC xs) a2 au (by rw[ex];rfl)) az)) ?_;refine(rx n (by lia)).call o' R hb λZ R=>?_;exact k _ R.w
 ·refine fy (aJ (z:=false) e1 au (yw h)) ?_
  refine bO (aX (v:=.fn 99) rfl) (ai a0 (ai a2 az)) ?_;refine(LY N (by lia)).call o' R hb λZ R=>?_;have a0:Ev (aq ao aj n) ρ Z (.aa 0) (.ref g):=ak h0 rfl;refine(bO (aX (v:=.fn 7) rfl) (ai a0 (ai (b9 (ai (au (v:=.str "wrap")) az)) az)) ?_).to;refine LG cL o' R cZ (Ej hl ⟨rfl,rfl,rfl⟩) λZ R=>?_;exact k _ R.w
theorem Wx:CC 3 3 []:=by
 intro n hn;obtain⟨n,rfl⟩:=e1 n;refine aO.intro λg P Z S Q R k=>?_;refine LG qD ⟨1,0,0⟩ R yr rfl λZ R=>?_;exact k _ R.w
theorem Wy(N:nL F W hd v):CC (F+4) (W+4) [v]:=by
 intro n hn;obtain⟨n,rfl⟩:=e1 n;refine aO.intro λg P Z S Q R k=>?_;refine bG (f:=jL) rfl rfl ?_;obtain⟨r,e⟩:=id N.ok.af;have a0:Ev (aq ao aj n) [.ref g,.aC [v],.ah] Z (.aa 0) (.ref g):=ak rfl rfl;have a1:Ev (aq ao aj n) [.ref g,.aC [v],.ah] Z (.aa 1) (.aC [v]):=ak rfl rfl;have b1:=aJ (o:=.eq) (z:=true) (cG (z:=.int 1) a1 (if_pos (by decide:1<lim):(if 1<lim then some (V.int 1) else Option.none)=_)) (au (v:=.int 1)) rfl;have a2:Ev (aq ao aj n) [.ref g,.aC [v],.ah] Z (.sub (.aa 1) (.aI (.int 0))) v:=aE a1 au rfl;have a3:Ev (aq ao aj n) [.ref g,.aC [v],.ah] Z (.sub (.sub (.aa 1) (.aI (.int 0))) (.aI (.int 0))) (.str hd):=aE a2 au (by rw[e];rfl);have b2:Ev (aq ao aj n) [.ref g,.aC [v],.ah] Z (.cmp .isin (.sub (.sub (.aa 1) (.aI (.int 0))) (.aI (.int 0))) (.aA 143)) (.bool (decide ("pada"=hd)||(decide ("globa"=hd)||(decide ("rv2a"=hd)||(decide ("mya"=hd)||false))))):=aJ a3 (aX (v:=nB) rfl) rfl;have b3:=gy b1 b2;cases hb:(decide ("pada"=hd)||(decide ("globa"=hd)||(decide ("rv2a"=hd)||(decide ("mya"=hd)||false))))with
 |true=>
  rw[hb]at b3;refine bU b3 ?_;refine bO (aX (v:=.fn 20) rfl) (ai a0 (ai a2 az)) ?_;refine(N.ok.l (by lia)).call ⟨1,0,0⟩ R rfl λZ R=>?_;refine LG vd ⟨1,0,0⟩ R D9 rfl λZ R=>?_;exact k _ R.w
 |false=>
  rw[hb]at b3;refine cE b3 ?_;refine cK a1 (vs:=[v]) rfl ?_;refine br ?_;refine vH ⟨1,0,0⟩ N (by lia) R rfl rfl (by lia) (by lia) rfl rfl λZ R=>?_;refine LG mP ⟨1,0,0⟩ R qH rfl λZ R=>?_;exact k _ R.w
theorem Wz{PN:String}{v':V}(N:nL F W hd v)(N':nL F W PN v'):CC (F+4) (2*W+6) [v,v']:=by
 intro n hn;obtain⟨n,rfl⟩:=e1 n;refine aO.intro λg P Z S Q R k=>?_;refine bG (f:=jL) rfl rfl ?_;have a1:Ev (aq ao aj n) [.ref g,.aC [v,v'],.ah] Z (.aa 1) (.aC [v,v']):=ak rfl rfl;have b1:=aJ (o:=.eq) (z:=false) (cG (z:=.int 2) a1 (if_pos (by decide:2<lim):(if 2<lim then some (V.int 2) else Option.none)=_)) (au (v:=.int 1)) rfl;refine cE (fq b1) ?_;refine cK a1 (vs:=[v,v']) rfl ?_;refine br ?_;refine vH ⟨1,0,0⟩ N (by lia) R rfl rfl (by lia) (by lia) rfl rfl λZ R=>?_;refine uZ (br ?_);refine vH ⟨2,0,0⟩ N' (by lia) R rfl rfl (by lia) (by lia) rfl rfl λZ R=>?_;refine LG jB ⟨1,0,0⟩ R mR rfl λZ R=>?_;exact k _ R.w
theorem L1(N:nL F W hd v):bf (F+5) (W+4) (.af [.str "refgen",v]):=by
 intro n hn w hw;obtain⟨n,rfl⟩:=e2 n;refine aO.code (k:=101) (by decide+kernel) ?_;refine aO.intro λg P Z S Q R k=>?_;refine bG (f:=ny) rfl rfl ?_;obtain⟨r,e⟩:=id N.ok.af;have a0:Ev (aq ao aj n) [.ref g,.af [.str "refgen",v],.int w] Z (.aa 0) (.ref g):=ak rfl rfl;have a1:Ev (aq ao aj n) [.ref g,.af [.str "refgen",v],.int w] Z (.sub (.aa 1) (.aI (.int 1))) v:=aE (x:=.af [.str "refgen",v]) (ak rfl rfl) au rfl;have a2:Ev (aq ao aj n) [.ref g,.af [.str "refgen",v],.int w] Z (.sub (.sub (.aa 1) (.aI (.int 1))) (.aI (.int 0))) (.str hd):=aE a1 au (by rw[e];rfl);by_cases h:hd="list"
 ·obtain⟨xs,ex,rx⟩:=N.Y6 h
  refine bU (aJ (z:=true) a2 au (by show some (decide (hd="list"))=_;rw[decide_eq_true h])) ?_;refine bO (aX (v:=.fn 100) rfl) (ai a0 (ai (aE (z:=.aC xs) a1 au (by rw[ex];rfl)) az)) ?_;refine(rx n (by lia)).call ⟨1,0,0⟩ R rfl λZ R=>?_;exact lg hw R λZ R=>k _ R.w
 ·refine fy (aJ (z:=false) a2 au (yw h)) ?_
  refine bO (aX (v:=.fn 99) rfl) (ai a0 (ai a1 az)) ?_;refine(LY N (by lia)).call ⟨1,0,0⟩ R rfl λZ R=>?_;exact vg hw R λZ R=>k _ R.w
end
theorem vI(a b c:α):[a,b,c].Perm [c,a,b]:=List.perm_append_comm (l₁:=[a,b]) (l₂:=[c])
section
variable {F W:Nat}{ha hb hc:String}{a b c x y:V}{n:Nat}{w:Int}
theorem xh{r:List V}(A:ay F W "pada" (.af (.str "pada"::r)))(hF:2<=F):bf (F+3) (W+8) (.af [.str "interp",.aC [.af [.str "str",x],.af (.str "pada"::r)]]):=by
 refine gz (k:=26) λn hn w hw g P Z S Q R k=>?_;refine LG (gx (.str "")) ⟨1,0,0⟩ R (gW (.str "")) rfl λZ R=>?_;refine((show ay 2 2 "str" (.af [.str "str",x]) from⟨⟨_,rfl⟩,Ly,λn hn=>(OO (by decide+kernel) n (by lia)).mono,Ah (by decide)⟩).v1 (by lia)).call ⟨2,0,0⟩ R rfl λZ R=>?_;refine LG (vf (.str ".")) ⟨1,0,0⟩ R (yq (.str ".")) rfl λZ R=>?_;refine A.w2 ⟨2,0,0⟩ R rfl λZ R=>?_;refine LG n8 ⟨2,0,0⟩ R (vB) rfl λZ R=>?_;refine LG (vf (.str ".")) ⟨1,0,0⟩ R (yq (.str ".")) rfl λZ R=>?_;exact vg hw R λZ R=>k _ R.w
theorem vJ{r:List V}(A:ay F W "globa" (.af (.str "globa"::r)))(hF:2<=F):bf (F+3) (W+8) (.af [.str "interp",.aC [.af [.str "str",x],.af (.str "globa"::r)]]):=by
 refine gz (k:=26) λn hn w hw g P Z S Q R k=>?_;refine LG (gx (.str "")) ⟨1,0,0⟩ R (gW (.str "")) rfl λZ R=>?_;refine((show ay 2 2 "str" (.af [.str "str",x]) from⟨⟨_,rfl⟩,Ly,λn hn=>(OO (by decide+kernel) n (by lia)).mono,Ah (by decide)⟩).v1 (by lia)).call ⟨2,0,0⟩ R rfl λZ R=>?_;refine LG (vf (.str ".")) ⟨1,0,0⟩ R (yq (.str ".")) rfl λZ R=>?_;refine A.w2 ⟨2,0,0⟩ R rfl λZ R=>?_;refine LG n8 ⟨2,0,0⟩ R (vB) rfl λZ R=>?_;refine LG (vf (.str ".")) ⟨1,0,0⟩ R (yq (.str ".")) rfl λZ R=>?_;exact vg hw R λZ R=>k _ R.w
theorem Ik:bf 3 14 (.af [.str "return",.none]):=by
 refine gz (k:=83) λn hn w hw g P Z S Q R k=>?_;rcases P with⟨pi,pl,pd,pk⟩
 cases pi
 ·refine R.aZ ?_
  refine aB ⟨0,0,0⟩ R λZ m0 R=>?_;refine aB ⟨0,0,0⟩ R λZ m1 R=>?_;refine aB ⟨0,0,0⟩ R λZ m2 R=>?_;refine LE gG [m0,m1,m2] ⟨0,0,0⟩ ⟨0,0,0⟩ R (iH) rfl rfl (gH (.tail _ (.tail _ (.head _))) (.tail _ (.head _)) (.head _)) rfl λZ R=>?_;refine PM [(m2,⟨0,0,0⟩),(m1,⟨0,0,0⟩)] 0 R (vI _ _ _) rfl rfl rfl λZ R=>?_;refine bh (.inl rfl) R rfl λZ R=>?_;refine R.rY ?_;refine LE kq [] ⟨0,0,0⟩ ⟨0,0,0⟩ R (pT) rfl rfl (λm h=>by cases h) rfl λZ R=>?_;refine PM [(m2,⟨0,0,0⟩)] 0 R (.swap _ _ _) rfl rfl rfl λZ R=>?_;refine bh (.inr (.inl rfl)) R rfl λZ R=>?_;refine R.rY ?_;refine LE kr [] ⟨0,0,0⟩ ⟨0,0,0⟩ R (pU) rfl rfl (λm h=>by cases h) rfl λZ R=>?_;refine PM [] 0 R (.refl _) rfl rfl rfl λZ R=>?_;refine bh (.inr (.inr rfl)) R rfl λZ R=>?_;refine R.rY ?_;refine LE ku [] ⟨0,0,0⟩ ⟨0,0,0⟩ R (pV) rfl rfl (λm h=>by cases h) rfl λZ R=>?_;refine Run.Lv 0 R rfl λZ R=>?_;rcases id hw with rfl|rfl|rfl
  all_goals exact bh hw R rfl λZ R=>k _ R.w
 ·refine R.aZ ?_
  refine aB ⟨0,0,0⟩ R λZ m0 R=>?_;refine aB ⟨0,0,0⟩ R λZ m1 R=>?_;refine aB ⟨0,0,0⟩ R λZ m2 R=>?_;refine LE gG [m0,m1,m2] ⟨0,0,0⟩ ⟨0,0,0⟩ R (iH) rfl rfl (gH (.tail _ (.tail _ (.head _))) (.tail _ (.head _)) (.head _)) rfl λZ R=>?_;refine PM [(m2,⟨0,0,0⟩),(m1,⟨0,0,0⟩)] 0 R (vI _ _ _) rfl rfl rfl λZ R=>?_;refine bh (.inl rfl) R rfl λZ R=>?_;refine R.rY ?_;refine LE g6 [] ⟨0,0,0⟩ ⟨0,0,0⟩ R (gq) rfl rfl (λm h=>by cases h) rfl λZ R=>?_;refine PM [(m2,⟨0,0,0⟩)] 0 R (.swap _ _ _) rfl rfl rfl λZ R=>?_;refine bh (.inr (.inl rfl)) R rfl λZ R=>?_;refine R.rY ?_;refine LE g7 [] ⟨0,0,0⟩ ⟨0,0,0⟩ R (g9) rfl rfl (λm h=>by cases h) rfl λZ R=>?_;refine PM [] 0 R (.refl _) rfl rfl rfl λZ R=>?_;refine bh (.inr (.inr rfl)) R rfl λZ R=>?_;refine R.rY ?_;refine LE qG [] ⟨0,0,0⟩ ⟨0,0,0⟩ R (ic) rfl rfl (λm h=>by cases h) rfl λZ R=>?_;refine Run.Lv 0 R rfl λZ R=>?_;rcases id hw with rfl|rfl|rfl
  all_goals exact bh hw R rfl λZ R=>k _ R.w
theorem Il(A:ay F W ha a):bf (F+3) (3*W+14) (.af [.str "return",a]):=by
 refine gz (k:=83) λn hn w hw g P Z S Q R k=>?_;rcases P with⟨pi,pl,pd,pk⟩
 obtain⟨ra,rfl⟩:=A.af;cases pi
 ·refine R.aZ ?_
  refine aB ⟨0,0,0⟩ R λZ m0 R=>?_;refine aB ⟨0,0,0⟩ R λZ m1 R=>?_;refine aB ⟨0,0,0⟩ R λZ m2 R=>?_;refine LE gG [m0,m1,m2] ⟨0,0,0⟩ ⟨0,0,0⟩ R (iH) rfl rfl (gH (.tail _ (.tail _ (.head _))) (.tail _ (.head _)) (.head _)) rfl λZ R=>?_;refine PM [(m2,⟨0,0,0⟩),(m1,⟨0,0,0⟩)] 0 R (vI _ _ _) rfl rfl rfl λZ R=>?_;refine(A.c (.inl rfl) (by lia)).calls (o':=⟨0,0,0⟩) R rfl (by decide) (by decide) (by lia) (by lia) (λl q=>by cases q) λZ R=>?_;refine R.rY ?_;refine LE kq [] ⟨0,0,0⟩ ⟨0,0,0⟩ R (pT) rfl rfl (λm h=>by cases h) rfl λZ R=>?_;refine PM [(m2,⟨0,0,0⟩)] 0 R (.swap _ _ _) rfl rfl rfl λZ R=>?_;refine(A.c (.inr (.inl rfl)) (by lia)).calls (o':=⟨1,0,0⟩) R rfl (by decide) (by decide) (by lia) (by lia) (λl q=>by cases q) λZ R=>?_;refine R.rY ?_;refine LE kr [] ⟨0,0,0⟩ ⟨0,0,0⟩ R (pU) rfl rfl (λm h=>by cases h) rfl λZ R=>?_;refine PM [] 0 R (.refl _) rfl rfl rfl λZ R=>?_;refine(A.c (.inr (.inr rfl)) (by lia)).calls (o':=⟨1,0,0⟩) R rfl (by decide) (by decide) (by lia) (by lia) (λl q=>by cases q) λZ R=>?_;refine R.rY ?_;refine LE ku [] ⟨0,0,0⟩ ⟨0,0,0⟩ R (pV) rfl rfl (λm h=>by cases h) rfl λZ R=>?_;refine Run.Lv 0 R rfl λZ R=>?_;rcases id hw with rfl|rfl|rfl
  all_goals exact bh hw R rfl λZ R=>k _ R.w
 ·refine R.aZ ?_
  refine aB ⟨0,0,0⟩ R λZ m0 R=>?_;refine aB ⟨0,0,0⟩ R λZ m1 R=>?_;refine aB ⟨0,0,0⟩ R λZ m2 R=>?_;refine LE gG [m0,m1,m2] ⟨0,0,0⟩ ⟨0,0,0⟩ R (iH) rfl rfl (gH (.tail _ (.tail _ (.head _))) (.tail _ (.head _)) (.head _)) rfl λZ R=>?_;refine PM [(m2,⟨0,0,0⟩),(m1,⟨0,0,0⟩)] 0 R (vI _ _ _) rfl rfl rfl λZ R=>?_;refine(A.c (.inl rfl) (by lia)).calls (o':=⟨0,0,0⟩) R rfl (by decide) (by decide) (by lia) (by lia) (λl q=>by cases q) λZ R=>?_;refine R.rY ?_;refine LE g6 [] ⟨0,0,0⟩ ⟨0,0,0⟩ R (gq) rfl rfl (λm h=>by cases h) rfl λZ R=>?_;refine PM [(m2,⟨0,0,0⟩)] 0 R (.swap _ _ _) rfl rfl rfl λZ R=>?_;refine(A.c (.inr (.inl rfl)) (by lia)).calls (o':=⟨1,0,0⟩) R rfl (by decide) (by decide) (by lia) (by lia) (λl q=>by cases q) λZ R=>?_;refine R.rY ?_;refine LE g7 [] ⟨0,0,0⟩ ⟨0,0,0⟩ R (g9) rfl rfl (λm h=>by cases h) rfl λZ R=>?_;refine PM [] 0 R (.refl _) rfl rfl rfl λZ R=>?_;refine(A.c (.inr (.inr rfl)) (by lia)).calls (o':=⟨1,0,0⟩) R rfl (by decide) (by decide) (by lia) (by lia) (λl q=>by cases q) λZ R=>?_;refine R.rY ?_;refine LE qG [] ⟨0,0,0⟩ ⟨0,0,0⟩ R (ic) rfl rfl (λm h=>by cases h) rfl λZ R=>?_;refine Run.Lv 0 R rfl λZ R=>?_;rcases id hw with rfl|rfl|rfl
  all_goals exact bh hw R rfl λZ R=>k _ R.w
end
theorem TU{b:X}{x y:Bool}(ha:Ev cf ρ Z a (.bool x))(hb:Ev cf ρ Z b (.bool y)):Ev cf ρ Z (.kI false [a,b]) (.bool (x||y)):=by
 constructor;intro Q q;induction x with
 |true=>exact ha.to _ (Ow (by decide) q)
 |false=>
  refine ha.to _ (zV ?_);induction y with
  |true=>exact hb.to _ (Ow (by decide) q)
  |false=>exact hb.to _ (zV (by exact q))
theorem Im{b c:X}{x y z:Int}{v:V}(ha:Ev cf ρ Z a (.int x))(hb:Ev cf ρ Z b (.int y))(hc:Ev cf ρ Z c (.int z))(h:EA [.int x,.int y,.int z]=some v):Ev cf ρ Z (.range [a,b,c]) v:=by
 constructor;intro Q q;refine(ai ha (ai hb (ai hc az))).to _ (bk h q)
section
variable {g:Nat}{P:GP}{F Wt:Nat}{bA:H}{S0:GS}{Z:H}{U:List (Nat×Off)}{Lp:List dB}{W:Nat}{o r:Off}{n:Nat}{Q:V->H->Prop}{S:GS}
theorem vK(gi:GI Z g P S):dQ Z (.ref g) "loops"=some (.ref (g+3)):=(eK gi.inst).trans rfl
theorem qI(gi:GI Z g P S):cH Z (.ref (g+3))=.aC (S.loops.map dB.v):=jn gi.loops
noncomputable def Io:List Mine.S:=[.ite (.kI false [(.cmp .eq (.aa 1) (.aI (V.str ""))),(.cmp .eq (.attr (.sub (.attr (.aa 0) "loops") (.aa 2)) "label") (.aa 1))]) [.ret (some (.bin .add (.aa 2) (.aI (V.int 1))))] []]
theorem CD(gi:GI Z g P S){l:String}(hs:S.loops.length<16000000){Q:Fl->List V->H->Prop}(k:∀ρ,∀c:Nat,1<=c->c<=S.loops.length->Q (.ret (.int c)) ρ Z):
  ∀(m:Nat) (x:V),m<=S.loops.length->(∀x,WS (aq ao aj n) [.ret (some (.aI (.int 0)))] [.ref g,.str l,x] Q Z)->FL (aq ao aj n) Io true [2] (jI ((m:Int)-1) m) [.ref g,.str l,x] (fu (aq ao aj n) [.ret (some (.aI (.int 0)))] Q) Z
 |0,x,aR,z=>j9 (z x)
 |m+1,x,hm,z=>by
  have e:(((m+1:Nat):Int)-1)=(m:Int):=Int.add_sub_cancel (m:Int) 1;rw[e];show FL _ _ _ _ (.int (m:Int)::jI ((m:Int)-1) m) _ _ _;refine br ?_;show WS _ _ [.ref g,.str l,.int (m:Int)] _ _;obtain⟨lp,hl⟩:∃lp,S.loops[m]?=some lp:=⟨S.loops[m]'hm,List.getElem?_eq_getElem hm⟩;have a0:Ev (aq ao aj n) [.ref g,.str l,.int (m:Int)] Z (.aa 0) (.ref g):=ak rfl rfl;have a1:Ev (aq ao aj n) [.ref g,.str l,.int (m:Int)] Z (.aa 1) (.str l):=ak rfl rfl;have a2:Ev (aq ao aj n) [.ref g,.str l,.int (m:Int)] Z (.aa 2) (.int m):=ak rfl rfl;have b1:Ev (aq ao aj n) [.ref g,.str l,.int (m:Int)] Z (.cmp .eq (.aa 1) (.aI (V.str ""))) (.bool (decide (l=""))):=aJ a1 au rfl;have s2:=aE (z:=lp.v) (cg a0 (vK gi)) a2 (by rw[qI gi,fK];exact jg (by rw[List.getElem?_map,hl];rfl) (by lia));have b2:Ev (aq ao aj n) [.ref g,.str l,.int (m:Int)] Z (.cmp .eq (.attr (.sub (.attr (.aa 0) "loops") (.aa 2)) "label") (.aa 1)) (.bool (decide (lp.label=l))):=aJ (cg (z:=.str lp.label) s2 rfl) a1 rfl;have b:=TU b1 b2;cases hb:(decide (l="")||decide (lp.label=l))with
  |true=>
   rw[hb]at b;refine bU b ?_;refine jf (v:=.int ((m+1:Nat):Int)) (cX a2 au (by show some (V.int ((m:Int)+1))=_;simp)) ?_;exact k _ (m+1) (by lia) hm
  |false=>
   rw[hb]at b;refine cE b (cY ?_);exact CD gi hs k m _ (Nat.le_of_succ_le hm) z
theorem meant(gi:GI Z g P S){l:String}(hs:S.loops.length<16000000)(hn:1<=n)(k:∀c:Nat,c<=S.loops.length->Q (.int c) Z):aq ao aj n 112 [.ref g,.str l] Q Z:=by
 obtain⟨n,rfl⟩:=e1 n;refine bG (f:=nA) rfl rfl ?_;have a0:Ev (aq ao aj n) [.ref g,.str l,.ah] Z (.aa 0) (.ref g):=ak rfl rfl;have e1:=cG (z:=.int (S.loops.length:Int)) (cg a0 (vK gi)) (by rw[qI gi];show(if _ then _ else _)=_;rw[if_pos (by rw[List.length_map];exact hs),List.length_map]);have e2:=cX (o:=.sub) (z:=.int ((S.loops.length:Int)-1)) e1 (au (v:=.int 1)) rfl;refine cK (v:=.k8 ((S.loops.length:Int)-1) (-1) (-1)) (vs:=jI ((S.loops.length:Int)-1) S.loops.length) (Im e2 au au ?_) ?_ ?_
 ·show(if _ then _ else _)=_
  rw[if_pos ⟨rfl,by lia,by lia,by lia,by lia⟩]
 ·show(if _ then _ else _)=_
  rw[if_pos ⟨by lia,by lia,by lia,by lia⟩,if_neg (by lia),if_pos rfl];have:((S.loops.length:Int)-1- -1).toNat=S.loops.length:=by rw[Int.sub_neg,Int.sub_add_cancel];rfl
  rw[this]
 ·refine CD gi hs (λρ c h1 h2=>k c h2) S.loops.length .ah (Nat.le_refl _) λx=>?_
  exact jf au (k 0 (Nat.zero_le _))
theorem Aj(o':Off)(R:Run g P F Wt bA S0 Z U Lp W o r){K:bN}(hK:aF K)(hj:js.length=K.nj)(hn:(S0.re.at o).nn)(ht:K.t<=(S0.re.at o).h)(hm:∀S,n6 g P F Wt bA S0 Z S U Lp W->∀m∈js,m<S.marks.length/\S.E m=K.jd (S0.re.at o))
  (hc:K.go=true->S0.re.at o'=K.nd (S0.re.at o))(hw:W+1<=Wt)(h6:6<=n)(k:∀Z',Run g P F Wt bA S0 Z' U Lp (W+1) o' ⟨r.x+(K.l-K.t),r.y,r.z⟩->Q .none Z'):aq ao aj n 7 [.ref g,k7 (K,js)] Q Z:=by
 obtain⟨S,R,c1,c2⟩:=R;refine pJ R hK hj (by rw[c1];exact hn) (by rw[c1];exact ht) (λm h=>by rw[c1];exact hm S R m h) (S0.re.at o') (λh=>by rw[c1];exact hc h) hw h6 λZ' R'=>k Z' ⟨_,R',?_,?_⟩
 ·show(if (S.rows++[(K,js)]).length=S.rows.length+1 then _ else _)=_
  rw[if_pos (by simp)]
 ·show(⟨S.re.h+(K.l-K.t),S.re.s,S.re.b⟩:f5)=_
  rw[c2];simp only[f5.at,Int.add_assoc]
theorem Ak{Z:H}{Q:Fl->List V->H->Prop}{i:Nat}{f:X}{r:List Mine.S}{k:Nat}(hf:Ev cf ρ Z f (.fn k))(ha:vR cf ρ Z as vs)(h:cf k vs (λv Z=>dU cf aj r (ρ.set i v) Q Z) Z):WS cf (.cO i (.call f as)::r) ρ Q Z:=by
 constructor;exact hf.to _ (ha.to _ h)
theorem CE{Z:H}{Q:Fl->List V->H->Prop}{c:X}{b r:List Mine.S}(k:Nat)(h:jJ (λρ Q Z=>b8 cf aj c ρ Q Z) (λρ Q Z=>dU cf aj b ρ Q Z) k ρ (fu cf r Q) Z):WS cf (.while c b::r) ρ Q Z:=by
 constructor;exact⟨k,h⟩
noncomputable def L2:X:=.cmp .gt (.attr (.aa 0) "height") (.attr (.aa 5) "height")
noncomputable def TV:List Mine.S:=[.expr (.call (.aA 7) [(.aa 0),(.af [(.aI (V.str "drop"))])])]
theorem Y7(a b:Int):a+(b-a)=b:=by rw[Int.add_comm,Int.sub_add_cancel]
theorem dr0{a i d:Int}(e:a-i-d=((0:Nat):Int)):¬ d<a+ -i:=λh=>Int.lt_irrefl d (show d<d from(Int.sub_eq_zero.mp e:a-i=d)▸h)
theorem dr1{a i d:Int}{n:Nat}(e:a-i-d=((n+1:Nat):Int)):d<a+ -i:=Int.lt_of_sub_pos (show 0<a-i-d from e▸Int.ofNat_lt.mpr (Nat.succ_pos n))
theorem dr2{a d:Int}{i n:Nat}(e:a-i-d=((n+1:Nat):Int)):a-((i+1:Nat):Int)-d=n:=by
 rw[show a-((i+1:Nat):Int)-d=a-i-d-1 by rw[Int.natCast_add,Int.sub_sub,Int.sub_sub,Int.sub_sub,Int.add_right_comm,Int.add_assoc];rfl,e];exact Int.add_sub_cancel (n:Int) 1
theorem drops{Q:Fl->List V->H->Prop}(lp:dB)(h0:ρ[0]?=some (.ref g))(h5:ρ[5]?=some lp.v)(hl:lp.d.nn)(hn:6<=n):∀(rem i:Nat) (Z:H),Run g P F Wt bA S0 Z [] [] i ⟨-(i:Int),0,0⟩ ⟨-(i:Int),0,0⟩->S0.re.nn->S0.re.h-i-lp.d.h=rem->i+rem<=Wt->
  (∀Z',Run g P F Wt bA S0 Z' [] [] (i+rem) ⟨-((i+rem:Nat):Int),0,0⟩ ⟨-((i+rem:Nat):Int),0,0⟩->Q .next ρ Z')->jJ (λρ Q Z=>b8 (aq ao aj n) aj L2 ρ Q Z) (λρ Q Z=>dU (aq ao aj n) aj TV ρ Q Z) (rem+1) ρ Q Z
 |rem,i,Z,R,nn,e,hw,k=>by
  have cond:Ev (aq ao aj n) ρ Z L2 (.bool (decide (lp.d.h<S0.re.h+ -(i:Int)))):=by
   refine aJ (x:=.int (S0.re.h+ -(i:Int))) (y:=.int lp.d.h) (cg (ak h0 rfl) ?_) (cg (ak h5 rfl) rfl) rfl;obtain⟨S,R,c1,c2⟩:=R;rw[eK R.gi.inst,c2];rfl
  show b8 _ _ _ _ _ _;refine cond.to _ ?_;show(if _ then _ else _)
  match rem,e,hw,k with
  |0,e,hw,k=>
   refine KY (by simp[dr0 e]) ?_;exact k _ R
  |rem+1,e,hw,k=>
   refine kT (by simp[dr1 e]) ?_;obtain⟨n0,n1,n2⟩:=nn;obtain⟨l0,l1,l2⟩:=hl;refine(bO (aX (v:=.fn 7) rfl) (ai (ak h0 rfl) (ai (b9 (ai (au (v:=.str "drop")) az)) az)) ?_:WS _ _ _ _ _).to;refine Aj (K:=gJ) (js:=[]) ⟨-((i+1:Nat):Int),0,0⟩ R iG rfl ⟨by show 0<=S0.re.h+ -(i:Int);lia,by show 0<=S0.re.s+0;lia,by show 0<=S0.re.b+0;lia⟩ (by show(1:Int)<=S0.re.h+ -(i:Int);lia) (λY Y m h=>by cases h) (λY=>?_) (by lia) hn λZ R=>?_
   ·show(⟨S0.re.h+ -((i+1:Nat):Int),S0.re.s+0,S0.re.b+0⟩:f5)=⟨S0.re.h+ -(i:Int)+(0-1),S0.re.s+0+0,S0.re.b+0+0⟩
    congr 1<;>lia
   ·have e1:(⟨-(i:Int)+(0-1),0,0⟩:Off)=⟨-((i+1:Nat):Int),0,0⟩:=dH ⟨by show -(i:Int)+(0-1)= -((i+1:Nat):Int);lia,rfl,rfl⟩
    have R:Run g P F Wt bA S0 Z [] [] (i+1) ⟨-((i+1:Nat):Int),0,0⟩ ⟨-((i+1:Nat):Int),0,0⟩:=by rw[<-e1];rw[<-e1]at R;exact R
    refine drops lp h0 h5 ⟨l0,l1,l2⟩ hn rem (i+1) Z R ⟨n0,n1,n2⟩ (dr2 e) (Nat.add_right_comm i 1 rem▸hw) λZ R=>k Z ?_;have e2:i+1+rem=i+(rem+1):=Nat.add_right_comm i 1 rem;rw[<-e2];exact R
theorem Al{l:String}(hk:dI dM hd=some 113)(hm:∀lp:dB,∃m:Nat,(m=lp.m1\/m=lp.m2\/m=lp.m3)/\cQ (.cM [(.str "next",.int lp.m1),(.str "last",.int lp.m2),(.str "redo",.int lp.m3)]) (.str hd)=some (.int m)):bf 2 710 (.af [.str hd,.str l]):=by
 intro n hn w hw;obtain⟨n,rfl⟩:=e2 n;refine aO.code hk ?_;refine aO.intro λg P bA S Q R k=>?_;obtain⟨S',R',c1,c2⟩:=id R;refine bG (f:=oF) rfl rfl ?_;refine dG (v:=.int (S.re.h+0)) (cg (ak (i:=0) (v:=.ref g) rfl rfl) (by rw[eK R'.gi.inst,c2];rfl)) ?_;refine Ak (aX (v:=.fn 112) rfl) (ai (ak (i:=0) (v:=.ref g) rfl rfl) (ai (aE (x:=.af [.str hd,.str l]) (z:=.str l) (ak (i:=1) rfl rfl) au rfl) az)) ?_;refine meant R'.gi (R'.small (by lia)).2.2.2.1 (by lia) λc hc=>?_;have tail:∀(x:Int) (Z:H) (lv:V),Run g P 2 710 bA S Z [] [] 709 ⟨0,0,0⟩ ⟨x,0,0⟩->WS (aq ao aj n) [.eW (.aa 0) "height" (.aa 3),.expr (.call (.aA 16) [(.aa 0),(.aa 2)])] [.ref g,.af [.str hd,.str l],.int w,.int (S.re.h+0),.int c,lv] (λfl Y Z=>match fl with
   |.next=>Q .none Z
   |.ret v=>Q v Z
   |.cont=>False) Z:=λx Z lv R=>by
  constructor;refine Run.Lv 0 R rfl λZ R=>?_;rcases hw with rfl|rfl|rfl
  ·exact bh (.inl rfl) R rfl λZ R=>k _ R.w
  ·exact bh (.inr (.inl rfl)) R rfl λZ R=>k _ R.w
  ·exact bh (.inr (.inr rfl)) R rfl λZ R=>k _ R.w
 have hd1:∀{lv:V} {Z:H},Ev (aq ao aj n) [.ref g,.af [.str hd,.str l],.int w,.int (S.re.h+0),.int c,lv] Z (.sub (.aa 1) (.aI (.int 0))) (.str hd):=λ{lv Z}=>aE (x:=.af [.str hd,.str l]) (ak (i:=1) rfl rfl) au rfl;have hd2:∀{lv:V} {Z:H},Ev (aq ao aj n) [.ref g,.af [.str hd,.str l],.int w,.int (S.re.h+0),.int c,lv] Z (.sub (.aa 1) (.aI (.int 1))) (.str l):=λ{lv Z}=>aE (x:=.af [.str hd,.str l]) (ak (i:=1) rfl rfl) au rfl;have hg:∀{lv:V} {Z:H},Ev (aq ao aj n) [.ref g,.af [.str hd,.str l],.int w,.int (S.re.h+0),.int c,lv] Z (.aa 0) (.ref g):=λ{lv Z}=>ak rfl rfl;refine(WS.to ?_:dU _ _ _ _ _ _);show WS (aq ao aj n) _ [.ref g,.af [.str hd,.str l],.int w,.int (S.re.h+0),.int c,.ah] _ bA;by_cases hc0:c=0
 ·refine bU (aJ (z:=true) (ak (i:=4) (v:=.int c) rfl rfl) au (by show some (decide ((c:Int)=0))=_;rw[decide_eq_true (by lia)])) ?_
  refine bO (aX (v:=.fn 7) rfl) (ai hg (ai (b9 (ai (au (v:=.str "loopleave")) (ai hd1 (ai hd2 az)))) az)) ?_;refine LE (rC (.str hd) (.str l)) [] ⟨0,0,0⟩ ⟨0,0,0⟩ R (Ct _ _) rfl rfl (λm h=>by cases h) rfl λZ R=>?_;exact(tail 0 Z .ah R.w).to
 ·refine fy (aJ (z:=false) (ak (i:=4) (v:=.int c) rfl rfl) au (by show some (decide ((c:Int)=0))=_;rw[decide_eq_false (by lia)])) ?_
  have hlen:S'.loops.length<16000000:=(R'.small (by lia)).2.2.2.1;have hp:1<=c:=Nat.pos_of_ne_zero hc0;have PO:c-1<S'.loops.length:=Nat.lt_of_lt_of_le (Nat.sub_lt hp Nat.one_pos) hc;obtain⟨lp,hl⟩:∃lp,S'.loops[c-1]?=some lp:=⟨S'.loops[c-1]'PO,List.getElem?_eq_getElem PO⟩;have WA:lp∈S'.loops:=List.mem_of_getElem? hl;have QF:lp∈S.loops:=by have:=R'.loops;rw[List.append_nil]at this;rw[<-this];exact WA
  obtain⟨q1,q2,q3,q4,q5,q6,lnn⟩:=R'.gi.wf.loop lp WA;have MX:=R'.Ou lp QF;have nn:=R'.DT;have hh:=R'.hh;obtain⟨l0,l1,l2⟩:=lnn;refine dG (v:=lp.v) (aE (cg hg (vK R'.gi)) (cX (z:=.int ((c-1:Nat):Int)) (ak (i:=4) (v:=.int c) rfl rfl) au (congrArg (λx=>some (V.int x)) (Int.ofNat_sub hp).symm)) (by rw[qI R'.gi,fK];exact jg (by rw[List.getElem?_map,hl];rfl) (Nat.lt_trans PO hlen))) ?_;show WS (aq ao aj n) _ [.ref g,.af [.str hd,.str l],.int w,.int (S.re.h+0),.int c,lp.v] _ bA;have Y8:∀{Z:H},Ev (aq ao aj n) [.ref g,.af [.str hd,.str l],.int w,.int (S.re.h+0),.int c,lp.v] Z (.aa 5) lp.v:=λ{Z}=>ak rfl rfl;obtain⟨dd,XQ⟩:∃dd:Nat,S.re.h-lp.d.h=dd:=⟨(S.re.h-lp.d.h).toNat,(Int.toNat_of_nonneg (Int.sub_nonneg_of_le (by assumption))).symm⟩;refine CE (dd+1) ?_;refine drops lp rfl rfl ⟨l0,l1,l2⟩ (by lia) dd 0 bA (show Run g P 2 710 bA S bA [] [] 0 ⟨-((0:Nat):Int),0,0⟩ ⟨-((0:Nat):Int),0,0⟩ from R) nn (by simpa using XQ) (by lia) λZ R=>iW ?_;refine bO (aX (v:=.fn 7) rfl) (ai hg (ai (b9 (ai (au (v:=.str "unwind")) (ai (cg (z:=.int lp.d.s) Y8 rfl) (ai (cg (z:=.int lp.d.b) Y8 rfl) (ai (ak (i:=4) (v:=.int c) rfl rfl) az))))) az)) ?_;have eo:(⟨-((0+dd:Nat):Int),0,0⟩:Off).x= -(dd:Int):=by simp
  have n0:=nn.1;have n1:=nn.2.1;have n2:=nn.2.2;refine Aj (K:=Ck lp.d.s lp.d.b (.int c)) (js:=[]) ⟨lp.d.h-S.re.h,lp.d.s-S.re.s,lp.d.b-S.re.b⟩ R (Lr _ _ _) rfl ⟨by show 0<=S.re.h+ -((0+dd:Nat):Int);lia,by show 0<=S.re.s+0;lia,by show 0<=S.re.b+0;lia⟩ (by show(0:Int)<=S.re.h+ -((0+dd:Nat):Int);lia) (λY Y m h=>by cases h) (λY=>?_) (by lia) (by lia) λZ R=>?_
  ·show(⟨S.re.h+(lp.d.h-S.re.h),S.re.s+(lp.d.s-S.re.s),S.re.b+(lp.d.b-S.re.b)⟩:f5)=⟨S.re.h+ -((0+dd:Nat):Int)+(0-0),lp.d.s,lp.d.b⟩
   congr 1<;>lia
  obtain⟨m,hm1,hm2⟩:=hm lp;refine(bO (r:=[]) (aX (v:=.fn 7) rfl) (ai hg (ai (b9 (ai (au (v:=.str "jump")) (ai (aE (z:=.int m) (cg (z:=.cM [(.str "next",.int lp.m1),(.str "last",.int lp.m2),(.str "redo",.int lp.m3)]) Y8 rfl) hd1 hm2) az))) az)) ?_:WS _ _ _ _ _).to;have ed:S.re.at ⟨lp.d.h-S.re.h,lp.d.s-S.re.s,lp.d.b-S.re.b⟩=lp.d:=by
   show(⟨S.re.h+(lp.d.h-S.re.h),S.re.s+(lp.d.s-S.re.s),S.re.b+(lp.d.b-S.re.b)⟩:f5)=⟨lp.d.h,lp.d.s,lp.d.b⟩;rw[Y7,Y7,Y7]
  refine Aj (K:=bH) (js:=[m]) ⟨0,0,0⟩ R bL rfl (by rw[ed];exact⟨l0,l1,l2⟩) (by rw[ed];exact l0) (λS'' R'' m' h=>?_) (λz=>by cases z) (by lia) (by lia) λZ R=>?_
  ·cases List.mem_singleton.mp h
   have:lp∈S''.loops:=by rw[R''.loops,List.append_nil];exact QF
   obtain⟨z1,z2,z3,z4,z5,z6,_⟩:=R''.gi.wf.loop lp this;rw[ed];have e:bH.jd lp.d=lp.d:=by
    show(⟨lp.d.h+0,lp.d.s+0,lp.d.b+0⟩:f5)=⟨lp.d.h,lp.d.s,lp.d.b⟩;rw[Int.add_zero,Int.add_zero,Int.add_zero]
   rw[e];rcases hm1 with rfl|rfl|rfl
   ·exact⟨z1,z4⟩
   ·exact⟨z2,z5⟩
   ·exact⟨z3,z6⟩
  ·exact(tail _ Z lp.v R.w).to
end
noncomputable def GP.add(P:GP)(m:Nat)(d:f5):GP:=⟨P.is,P.ls,P.d,(m,d)::P.kn⟩
section
variable {g:Nat}{P:GP}{F Wt:Nat}{bA:H}{S0:GS}{Z:H}{U:List (Nat×Off)}{Lp:List dB}{W:Nat}{o r:Off}{n:Nat}{Q:V->H->Prop}{S:GS}
theorem n6.param(R:n6 g P F Wt bA S0 Z S U Lp W)(h1:P'.is=P.is)(h2:P'.ls=P.ls)(h3:P'.d=P.d)(h:∀x∈P'.kn,x.1<S.marks.length/\S.E x.1=x.2):n6 g P' F Wt bA S0 Z S U Lp W:=by
 have gi:=R.gi;have e:∀re,gI gD g P' re=gI gD g P re:=λre=>by unfold gI;rw[h1,h2]
 exact⟨R.DT,R.Ou,R.hh,by rw[h3];exact R.fd,R.bd,⟨by rw[e];exact gi.inst,gi.rows,gi.marks,gi.loops,gi.subs,⟨gi.wf.mark,gi.wf.row,gi.wf.loop,by rw[h3];exact gi.wf.sub,h,gi.wf.d0⟩⟩,R.fl,R.fr,R.len,R.loops,R.ml,R.old,R.new,R.un,R.ud⟩
theorem Run.xj{m:Nat}{e:Off}(R:Run g P F Wt bA S0 Z U Lp W o r)(h:(m,e)∈U):Run g (P.add m (S0.re.at e)) F Wt bA S0 Z U Lp W o r:=by
 obtain⟨S,R,c⟩:=R;refine⟨S,R.param rfl rfl rfl λx hx=>?_,c⟩;rcases List.mem_cons.mp hx with rfl|hx
 ·refine cps λG g=>?_
  obtain⟨a1,a2,a3,a4⟩:=R.un m e h;refine g ?_;exact⟨a2,a4⟩
 ·exact R.gi.wf.kn x hx
theorem Run.ji{m:Nat}{d:f5}(R:Run g (P.add m d) F Wt bA S0 Z U Lp W o r):Run g P F Wt bA S0 Z U Lp W o r:=by
 obtain⟨S,R,c⟩:=R;exact⟨S,R.param rfl rfl rfl λx hx=>R.gi.wf.kn x (List.mem_cons_of_mem _ hx),c⟩
theorem LB(K:bN)(m:Nat)(e o' r':Off)(R:Run g (P.add m (S0.re.at e)) F Wt bA S0 Z U Lp W o r)(hK:aF K)(hj:K.nj=1/\K.ab=none/\K.ds=0/\K.db=0/\K.kp=0)(ho:Ag o=true)(ht:K.t<=o.x)(he:Lu e ⟨o.x+(K.l-K.t),o.y,o.z⟩=true)
  (hg:K.go=true->Lu o' e=true)(hr:Lu r' ⟨r.x+(K.l-K.t),r.y,r.z⟩=true)
  (k:∀Z',Run g (P.add m (S0.re.at e)) F Wt bA S0 Z' U Lp (W+1) o' r'->Q .none Z')(hw:autoParam (W+1<=Wt/\6<=n) bu):aq ao aj n 7 [.ref g,K.row [(m:Int)]] Q Z:=by
 obtain⟨hw,h6⟩:=hw;have nn:S0.re.nn:=by obtain⟨S,R,_⟩:=R;exact R.DT
 have hx:=fD ho;refine cps λG g=>?_;obtain⟨j1,j2,j3,j4,j5⟩:=hj;refine g ?_;have ej:K.jd (S0.re.at o)=S0.re.at e:=by
  rw[KW j2,j3,j4,j5,iY he];congr 1;exact dH ⟨by simp,by simp,by simp⟩
 refine Aj (K:=K) (js:=[m]) o' R hK j1.symm (B0 nn hx) (by show K.t<=S0.re.h+o.x;have:=nn.1;lia) (λS' R' m' h=>?_) (λya=>?_) hw h6 λZ' R'=>k Z' ?_
 ·cases List.mem_singleton.mp h
  have:=R'.gi.wf.kn (m,S0.re.at e) (by simp[GP.add]);exact⟨this.1,by rw[ej];exact this.2⟩
 ·rw[Qv j2,j3,j4,iY (hg ya),iY he]
  congr 1;exact dH ⟨by simp,by simp,by simp⟩
 ·rw[iY hr];exact R'
theorem Run.Ip{i:Nat}{x:MO}(R:Run g P F Wt bA S0 Z U Lp W o r)(h0:bA.length<=i)(h:g+5<=i):Run g P F Wt bA S0 (Z.set i x) U Lp W o r:=by
 refine cps λG g=>?_;obtain⟨S,R,c⟩:=R;refine g ?_;have gi:=R.gi;have e:∀{j:Nat},j≠i->(Z.set i x)[j]?=Z[j]? :=λq=>cF λz=>q z.symm;refine⟨S,⟨R.DT,R.Ou,R.hh,R.fd,R.bd,⟨?_,?_,?_,?_,?_,gi.wf⟩,by rw[List.length_set];exact R.fl,λj a b=>(e (by lia)).trans (R.fr j a b),R.len,R.loops,R.ml,R.old,R.new,R.un,R.ud⟩,c⟩
 ·rw[e (by lia)];exact gi.inst
 ·rw[e (by lia)];exact gi.rows
 ·rw[e (by lia)];exact gi.marks
 ·rw[e (by lia)];exact gi.loops
 ·rw[e (by lia)];exact gi.subs
theorem Run.base(R:Run g P F Wt bA S0 Z U Lp W o r):bA.length<=Z.length/\g+5<=Z.length:=by
 refine cps λG g=>?_;obtain⟨S,R,c⟩:=R;refine g ?_;exact⟨R.fl,R.gi.lt⟩
theorem Iq{i:Nat}{l:String}(R:Run g P F Wt bA S0 Z U Lp W o o)(h0:bA.length<=i)(hi:g+5<=i)(hc:Z[i]?=some (.inst "OpenLoop" []))(hw:W+3<=Wt)(hn:2<=n)
  (k:∀Z' m1 m2 m3,Run g P F Wt bA S0 Z' ((m3,o)::(m2,o)::(m1,o)::U) Lp (W+3) o o->
   Z'[i]?=some (.inst "OpenLoop" [("label",.str l),("marks",.cM [(.str "next",.int (m1:Nat)),(.str "last",.int (m2:Nat)),(.str "redo",.int (m3:Nat))]),("height",.int (S0.re.h+o.x)),("scopes",.int (S0.re.s+o.y)),("starts",.int (S0.re.b+o.z))])->Q .none Z'):
  aq ao aj n 134 [.ref i,.ref g,.str l] Q Z:=by
 obtain⟨n,rfl⟩:=e1 n;have sA:∀{Z:H} {kvs:List (String×V)} {nm:String} {v:V} {p:H->Prop},Z[i]?=some (.inst "OpenLoop" kvs)->kvs.length<900->p (Z.set i (.inst "OpenLoop" (dS kvs nm v)))->aT (ie Z (.ref i) nm v) p:=λh1 h2 h3=>xZ h1 h2 h3;refine sA hc (by show 0<900;lia) ?_;have R1:=R.Ip (x:=.inst "OpenLoop" [("label",.str l)]) h0 hi;have c1:(Z.set i (.inst "OpenLoop" [("label",.str l)]))[i]?=some (.inst "OpenLoop" [("label",.str l)]):=bW hc;refine mK o R1 λcD m1 f1 Y R1=>?_;refine mK o R1 λZ2 m2 f2 Y R2=>?_;refine mK o R2 λkY m3 f3 Y R3=>?_;have c3:kY[i]?=some (.inst "OpenLoop" [("label",.str l)]):=by rw[f3 i (.inr hi),f2 i (.inr hi),f1 i (.inr hi)];exact c1
 refine sA c3 (by show 1<900;lia) ?_;have R4:=R3.Ip (x:=.inst "OpenLoop" (dS [("label",.str l)] "marks" (.cM [(.str "next",.int (m1:Nat)),(.str "last",.int (m2:Nat)),(.str "redo",.int (m3:Nat))]))) h0 hi;have c4:=bW (x:=.inst "OpenLoop" (dS [("label",.str l)] "marks" (.cM [(.str "next",.int (m1:Nat)),(.str "last",.int (m2:Nat)),(.str "redo",.int (m3:Nat))]))) c3;refine R4.aZ ?_;refine sA c4 (by show 2<900;lia) ?_;have R5:=R4.Ip (x:=.inst "OpenLoop" (dS (dS [("label",.str l)] "marks" (.cM [(.str "next",.int (m1:Nat)),(.str "last",.int (m2:Nat)),(.str "redo",.int (m3:Nat))])) "height" (.int (S0.re.h+o.x)))) h0 hi;have c5:=bW (x:=.inst "OpenLoop" (dS (dS [("label",.str l)] "marks" (.cM [(.str "next",.int (m1:Nat)),(.str "last",.int (m2:Nat)),(.str "redo",.int (m3:Nat))])) "height" (.int (S0.re.h+o.x)))) c4;refine R5.scopes ?_;refine sA c5 (by show 3<900;lia) ?_;have R6:=R5.Ip (x:=.inst "OpenLoop" (dS (dS (dS [("label",.str l)] "marks" (.cM [(.str "next",.int (m1:Nat)),(.str "last",.int (m2:Nat)),(.str "redo",.int (m3:Nat))])) "height" (.int (S0.re.h+o.x))) "scopes" (.int (S0.re.s+o.y)))) h0 hi;have c6:=bW (x:=.inst "OpenLoop" (dS (dS (dS [("label",.str l)] "marks" (.cM [(.str "next",.int (m1:Nat)),(.str "last",.int (m2:Nat)),(.str "redo",.int (m3:Nat))])) "height" (.int (S0.re.h+o.x))) "scopes" (.int (S0.re.s+o.y)))) c5;refine R6.starts ?_;refine sA c6 (by show 4<900;lia) ?_;have R7:=R6.Ip (x:=.inst "OpenLoop" (dS (dS (dS (dS [("label",.str l)] "marks" (.cM [(.str "next",.int (m1:Nat)),(.str "last",.int (m2:Nat)),(.str "redo",.int (m3:Nat))])) "height" (.int (S0.re.h+o.x))) "scopes" (.int (S0.re.s+o.y))) "starts" (.int (S0.re.b+o.z)))) h0 hi;have c7:=bW (x:=.inst "OpenLoop" (dS (dS (dS (dS [("label",.str l)] "marks" (.cM [(.str "next",.int (m1:Nat)),(.str "last",.int (m2:Nat)),(.str "redo",.int (m3:Nat))])) "height" (.int (S0.re.h+o.x))) "scopes" (.int (S0.re.s+o.y))) "starts" (.int (S0.re.b+o.z)))) c6;exact k _ m1 m2 m3 R7 c7
theorem Run.push{l:dB}{p:H->Prop}(R:Run g P F Wt bA S0 Z U Lp W o r)(h1:(l.m1,o)∈U)(h2:(l.m2,o)∈U)(h3:(l.m3,o)∈U)(hd:l.d=S0.re.at o)(ho:Ag o=true)(hw:W+1<=Wt)(k:∀Z',Run g P F Wt bA S0 Z' U (Lp++[l]) (W+1) o r->p Z'):aT (tu Z l.v (.ref (g+3))) p:=by
 obtain⟨S,R,c⟩:=R;have gi:=R.gi;have Ov:=gi.lt;have sm:=R.small hw;refine BZ gi.loops (by rw[List.length_map];exact sm.2.2.2.1) (k _ ⟨{S with loops:=S.loops++[l]},?_,c⟩);have e:∀{y:MO} {j:Nat},j≠g+3->(Z.set (g+3) y)[j]?=Z[j]? :=λq=>cF λz=>q z.symm;refine R.next ⟨?_,?_,?_,?_,?_,⟨gi.wf.mark,gi.wf.row,?_,gi.wf.sub,gi.wf.kn,gi.wf.d0⟩⟩ (by simp) (λi a b=>e (by lia)) ?_ (by show S.loops++[l]=_;rw[R.loops,List.append_assoc]) (Nat.le_refl _) (λY Y=>⟨rfl,rfl⟩) R.new R.un R.ud
 ·rw[e (by lia)];exact gi.inst
 ·rw[e (by lia)];exact gi.rows
 ·rw[e (by lia)];exact gi.marks
 ·rw[bW gi.loops];simp
 ·rw[e (by lia)];exact gi.subs
 ·intro l' WB
  rcases List.mem_append.mp WB with q|q
  ·exact gi.wf.loop l' q
  ·cases List.mem_singleton.mp q
   obtain⟨_,a2,_,a4⟩:=R.un _ _ h1;obtain⟨_,b2,_,b4⟩:=R.un _ _ h2;obtain⟨_,c2,_,c4⟩:=R.un _ _ h3;exact⟨a2,b2,c2,by rw[hd];exact a4,by rw[hd];exact b4,by rw[hd];exact c4,by rw[hd];exact B0 R.DT (fD ho)⟩
 ·have:=R.len
  unfold GS.len at this ⊢;simp;lia
theorem Run.pop{l:dB}{p:V×H->Prop}(R:Run g P F Wt bA S0 Z U (Lp++[l]) W o r)(k:∀v Z',Run g P F Wt bA S0 Z' U Lp W o r->p (v,Z')):aT (xu Z (.ref (g+3))) p:=by
 obtain⟨S,R,c⟩:=R;have gi:=R.gi;have Ov:=gi.lt;have el:S.loops=(S0.loops++Lp)++[l]:=by rw[R.loops,List.append_assoc]
 have ev:S.loops.map dB.v=(S0.loops++Lp).map dB.v++[l.v]:=by rw[el,List.map_append];rfl
 have:xu Z (.ref (g+3))=some (l.v,Z.set (g+3) (.list ((S0.loops++Lp).map dB.v))):=by
  rw[xw gi.loops (v:=l.v) (by rw[ev,List.getLast?_concat]),ev,List.dropLast_concat]
 rw[this];refine k _ _ ⟨{S with loops:=S0.loops++Lp},?_,c⟩;have e:∀{y:MO} {j:Nat},j≠g+3->(Z.set (g+3) y)[j]?=Z[j]? :=λq=>cF λz=>q z.symm;refine R.next ⟨?_,?_,?_,?_,?_,⟨gi.wf.mark,gi.wf.row,?_,gi.wf.sub,gi.wf.kn,gi.wf.d0⟩⟩ (by simp) (λi a b=>e (by lia)) ?_ rfl (Nat.le_refl _) (λY Y=>⟨rfl,rfl⟩) R.new R.un R.ud
 ·rw[e (by lia)];exact gi.inst
 ·rw[e (by lia)];exact gi.rows
 ·rw[e (by lia)];exact gi.marks
 ·rw[bW gi.loops]
 ·rw[e (by lia)];exact gi.subs
 ·exact λl' WB=>gi.wf.loop l' (by rw[el];exact List.mem_append_left _ WB)
 ·have:=R.len
  unfold GS.len at this ⊢;rw[el]at this;simp at this ⊢;lia
theorem Run.WC(R:Run g P F Wt bA S0 Z U Lp W o r)(k:p (.ref (g+3))):aT (dQ Z (.ref g) "loops") p:=R.attr (λre e=>rfl) k
theorem Run.lis(R:Run g P F Wt bA S0 Z U Lp W o r)(hw:W+1<=Wt)(k:A):if kK Z (.ref (g+3))=true then A else False:=by
 obtain⟨S,R,c⟩:=R;exact qA R.gi.loops (by rw[List.length_map];exact(R.small hw).2.2.2.1) k
end
section
variable {g:Nat}{P:GP}{F Wt:Nat}{bA:H}{S0:GS}{Z:H}{U:List (Nat×Off)}{Lp:List dB}{W:Nat}{o r:Off}{n:Nat}{Q:V->H->Prop}{S:GS}
theorem LN(K:bN)(js:List Nat)(R:Run g P F Wt bA S0 Z U Lp W o r)(hK:aF K)(hj:js.length=K.nj/\K.ab=none/\K.go=true/\K.t=0/\K.l=0/\K.ds=0/\K.db=0/\K.kp=0)(ho:Ag o=true)(hm:∀m∈js,(m,o)∈U)
  (k:∀Z',Run g P F Wt bA S0 Z' U Lp (W+1) o r->Q .none Z')(hw:autoParam (W+1<=Wt/\6<=n) bu):aq ao aj n 7 [.ref g,K.row (js.map λ(m:Nat)=>(m:Int))] Q Z:=by
 obtain⟨hw,h6⟩:=hw;refine cps λG g=>?_;obtain⟨j1,j2,j3,j4,j5,j6,j7,j8⟩:=hj;refine g ?_;have hx:=fD ho;refine zU (K:=K) (js:=js) R hK j1 j2 j3 hx (by rw[j4];exact hx.1) (λm h=>?_) hw h6 λZ' R'=>k Z' ?_
 ·rw[j4,j5,j6,j7,j8]
  simpa using hm m h
 ·rw[j4,j5,j6,j7]at R'
  simpa using R'
theorem rb{l:String}(R:Run g P F Wt bA S0 Z U Lp W o o)(ho:Ag o=true)
  (k:∀Z' m1 m2 m3,Run g P F Wt bA S0 Z' ((m2,o)::(m1,o)::U) (Lp++[⟨l,m1,m2,m3,S0.re.at o⟩]) (W+5) o o->Q (dB.v ⟨l,m1,m2,m3,S0.re.at o⟩) Z')(hw:autoParam (W+6<=Wt/\7<=n) bu):aq ao aj n 104 [.ref g,.str l] Q Z:=by
 obtain⟨hw,hn⟩:=hw;obtain⟨n,rfl⟩:=e1 n;obtain⟨b1,b2⟩:=R.base;refine Iq (i:=Z.length) (l:=l) (R.grow (Z':=Z++[.inst "OpenLoop" []]) (by simp) λi hi=>List.getElem?_append_left hi) b1 b2 dD (by lia) (by lia) λcD m1 m2 m3 R1 c1=>?_;refine bk (a:=(_,cD.set Z.length .dead)) (xx c1) ?_;have R2:=R1.Ip (x:=.dead) b1 b2;refine LN (Ab (.str l)) [m1,m2,m3] R2 (S7 _) ⟨rfl,rfl,rfl,rfl,rfl,rfl,rfl,rfl⟩ ho (gH (.tail _ (.tail _ (.head _))) (.tail _ (.head _)) (.head _)) λZ2 R3=>?_;refine R3.WC ?_;refine R3.lis (by lia) ?_;refine R3.push (l:=⟨l,m1,m2,m3,S0.re.at o⟩) (.tail _ (.tail _ (.head _))) (.tail _ (.head _)) (.head _) rfl ho (by lia) λkY R4=>?_;refine R4.aZ ?_;exact pK (U':=(m2,o)::(m1,o)::U) (x:=o.x) R4 (.refl _) rfl rfl (by lia) (by lia) λPR R5=>k PR m1 m2 m3 R5
theorem nN{l:String}(R:Run g P F Wt bA S0 Z ((m2,o)::(m1,o)::U) (Lp++[⟨l,m1,m2,m3,S0.re.at o⟩]) W o r)(hr:r.y=o.y/\r.z=o.z)(ho:Ag o=true)
  (k:∀Z',Run g P F Wt bA S0 Z' ((m2,o)::U) Lp (W+2) o o->Q .none Z')(hw:autoParam (W+2<=Wt/\7<=n) bu):aq ao aj n 105 [.ref g,dB.v ⟨l,m1,m2,m3,S0.re.at o⟩] Q Z:=by
 obtain⟨hw,hn⟩:=hw;obtain⟨n,rfl⟩:=e1 n;refine pK (U':=(m2,o)::U) (x:=o.x) R (.swap _ _ _) rfl rfl (by lia) (by lia) λcD R1=>?_;rw[hr.1,hr.2]at R1;refine LN jG [] R1 mV ⟨rfl,rfl,rfl,rfl,rfl,rfl,rfl,rfl⟩ ho (λm h=>by cases h) λZ2 R2=>?_;refine R2.WC ?_;refine R2.lis (by lia) ?_;exact R2.pop λv kY R3=>k kY (R3.w (by lia))
theorem jk{l:String}(R:Run g P F Wt bA S0 Z ((m2,o)::U) Lp W o r)(ho:Ag o=true)
  (k:∀Z',Run g P F Wt bA S0 Z' U Lp (W+2) o o->Q .none Z')(hw:autoParam (W+2<=Wt/\7<=n) bu):aq ao aj n 106 [.ref g,dB.v ⟨l,m1,m2,m3,S0.re.at o⟩] Q Z:=by
 obtain⟨hw,hn⟩:=hw;obtain⟨n,rfl⟩:=e1 n;refine pK (U':=U) (x:=o.x) R (.refl _) rfl rfl (by lia) (by lia) λcD R1=>?_;refine Run.S8 o.y R1 rfl λZ2 R2=>?_;refine Run.setB o.z R2 rfl λkY R3=>?_;refine LN jG [] R3 mV ⟨rfl,rfl,rfl,rfl,rfl,rfl,rfl,rfl⟩ ho (λm h=>by cases h) λZ2 R2=>?_;exact k _ (R2.w (by lia))
end
noncomputable def kU(F W:Nat)(v:V):Prop:=∀n,F+12<=n->∀w,Cv w->aO n 42 [v,.int w] F W (dl w)
noncomputable def iI(F W:Nat)(v:V):Prop:=∀n,F+12<=n->∀w,Cv w->aO n 43 [v,.int w] F W (dl w)
noncomputable def cz(F W:Nat)(v:V):Prop:=∀n,F+12<=n->∀w,Cv w->aO n 44 [v,.int w] F W (dl w)
section
variable {F W:Nat}{a b c d:V}{n:Nat}{w:Int}
theorem O9{r:List V}{k:Nat}(h:dI lX hd=some k)(D:xg k F W (.af (.str hd::r))):kU (F+1) (W+2) (.af (.str hd::r)):=by
 intro n hn w hw;obtain⟨n,rfl⟩:=e1 n;refine aO.intro λg P Z S Q R kk=>?_;obtain⟨S',R',_⟩:=id R;refine bG (f:=iQ) rfl rfl ?_;refine dG (aE (cg (ak (v:=.ref g) rfl rfl) (n9 R'.gi)) au OM) ?_;show WS _ _ [.ref g,.af (.str hd::r),.int w,.cM (kvsOf lX)] _ _;have e0:∀{Z:H},Ev (aq ao aj n) [.ref g,.af (.str hd::r),.int w,.cM (kvsOf lX)] Z (.aa 0) (.ref g):=λ{Z}=>ak rfl rfl;have e1:∀{Z:H},Ev (aq ao aj n) [.ref g,.af (.str hd::r),.int w,.cM (kvsOf lX)] Z (.sub (.aa 1) (.aI (.int 0))) (.str hd):=λ{Z}=>aE (x:=.af (.str hd::r)) (ak rfl rfl) au rfl;have e3:∀{Z:H},Ev (aq ao aj n) [.ref g,.af (.str hd::r),.int w,.cM (kvsOf lX)] Z (.aa 3) (.cM (kvsOf lX)):=λ{Z}=>ak rfl rfl;have e2:∀{Z:H},Ev (aq ao aj n) [.ref g,.af (.str hd::r),.int w,.cM (kvsOf lX)] Z (.cmp .eq (.aa 2) (.aA 137)) (.bool (decide (w=0))):=λ{Z}=>aJ (ak (v:=.int w) rfl rfl) (aX (v:=.int 0) rfl) rfl;have eas:∀{Z:H},vR (aq ao aj n) [.ref g,.af (.str hd::r),.int w,.cM (kvsOf lX)] Z [.aa 0,.aa 1,.aa 2] [.ref g,.af (.str hd::r),.int w]:=λ{Z}=>ai e0 (ai (ak rfl rfl) (ai (ak rfl rfl) az));by_cases h0:w=0
 ·subst h0
  refine bU e2 ?_;refine bO (aX (v:=.fn 40) rfl) (ai e0 az) ?_;refine Lw R rfl λZ R=>?_;refine(bU (aJ (o:=.isin) (z:=true) e1 e3 ((l8 hd lX).trans (by rw[h];rfl))) ?_:WS _ _ _ _ _).to;refine bO (aE e3 e1 (sQ h)) eas ?_;refine(D n (by lia) 0 hw).call ⟨0,0,1⟩ R rfl λZ R=>?_;refine Y3 R rfl λZ R=>?_;exact kk _ R.w
 ·have e2':∀{Z:H},Ev (aq ao aj n) [.ref g,.af (.str hd::r),.int w,.cM (kvsOf lX)] Z (.cmp .eq (.aa 2) (.aA 137)) (.bool false):=λ{Z}=>by have:=e2 (Z:=Z);rw[decide_eq_false h0]at this;exact this
  refine cE e2' ?_;refine bU (aJ (o:=.isin) (z:=true) e1 e3 ((l8 hd lX).trans (by rw[h];rfl))) ?_;refine bO (aE e3 e1 (sQ h)) eas ?_;refine(D n (by lia) w hw).calls (o':=⟨dl w,0,0⟩) R (dH ⟨by simp,rfl,rfl⟩) (by decide) (by decide) (by lia) (by lia) (λl q=>by cases q) λZ R=>?_;rcases hw with rfl|rfl|rfl
  ·exact absurd rfl h0
  ·exact kk _ R.w
  ·exact kk _ R.w
theorem CG(D:iI F W a)(ha:B3 a=true):cz (F+2) (W+2) a:=by
 intro n hn w hw;obtain⟨n,rfl⟩:=e1 n;refine aO.intro λg P Z S Q R k=>?_;refine bG (f:=nv) rfl rfl ?_;have e0:∀{Z:H},Ev (aq ao aj n) [.ref g,a,.int w] Z (.aa 0) (.ref g):=λ{Z}=>ak rfl rfl;refine bO (aX (v:=.fn 38) rfl) (ai e0 az) ?_;refine H7 R rfl λZ R=>?_;refine(bO (aX (v:=.fn 43) rfl) (ai e0 (ai (ak (v:=a) rfl ha) (ai (ak (v:=.int w) rfl rfl) az))) ?_:WS _ _ _ _ _).to;rcases hw with rfl|rfl|rfl
 ·refine(D n (by lia) 0 (.inl rfl)).call ⟨0,1,0⟩ R rfl λZ R=>?_
  refine vS R rfl λZ R=>k _ R.w
 ·refine(D n (by lia) 1 (.inr (.inl rfl))).call ⟨1,1,0⟩ R rfl λZ R=>?_
  refine vS R rfl λZ R=>k _ R.w
 ·refine(D n (by lia) 2 (.inr (.inr rfl))).call ⟨1,1,0⟩ R rfl λZ R=>?_
  refine vS R rfl λZ R=>k _ R.w
end
theorem mX{Q:Fl->List V->H->Prop}{i:Nat}{f:X}{r:List Mine.S}{k:Nat}(hf:Ev cf ρ Z f (.fn k))(ha:vR cf ρ Z as vs)(h:cf k vs (λv Z=>WS cf r (ρ.set i v) Q Z) Z):WS cf (.cO i (.call f as)::r) ρ Q Z:=by
 have e:(λv Z=>WS cf r (ρ.set i v) Q Z)=λv Z=>dU cf aj r (ρ.set i v) Q Z:=by
  funext v Z
  exact propext ⟨WS.to,WS.mk⟩
 rw[e]at h;exact Ak hf ha h
theorem aO.fn{n fn:Nat}{as:List V}{F W:Nat}{δ:Int}{f:Fn}(hf:ao[fn]?=some f)(ha:as.length+1=f.sX)(h:∀(g:Nat) (P:GP) (Z:H) (S:GS) (Q:V->H->Prop),Run g P F W Z S Z [] [] 0 ⟨0,0,0⟩ ⟨0,0,0⟩->(∀Z',Run g P F W Z S Z' [] [] W ⟨δ,0,0⟩ ⟨δ,0,0⟩->Q .none Z')->
  WS (aq ao aj n) f.body ((.ref g::as)++List.replicate f.C2 .ah) (λfl Y Z=>match fl with
   |.next=>Q .none Z
   |.ret v=>Q v Z
   |.cont=>False) Z):aO (n+1) fn as F W δ:=
 aO.intro λg P Z S Q R k=>bG hf ha (h g P Z S Q R k)
theorem L3:itemsOf (.k8 0 0 1)=some []:=g4 (b:=0) (by decide)
theorem yx:itemsOf (.k8 0 1 1)=some [.int 0]:=g4 (b:=1) (by decide)
theorem vL:itemsOf (.k8 0 2 1)=some [.int 0,.int 1]:=by
 have:=g4 (b:=2) (by decide)
 simpa[kJ]using this
theorem WD:itemsOf (.k8 0 3 1)=some [.int 0,.int 1,.int 2]:=by
 have:=g4 (b:=3) (by decide)
 simpa[kJ]using this
section
variable {F W:Nat}{ha hb hc:String}{a b c x y:V}{ra fV rc rd re:List V}{n:Nat}{w:Int}{l:String}
theorem Gk:iI 3 3 (.af [.str "block",.aC []]):=by
 intro n hn w hw;obtain⟨n,rfl⟩:=e1 n;rcases hw with rfl|rfl|rfl
 ·have DD:= @aO.fn n 43 [.af [.str "block",.aC []],.int 0] 3 3 (dl 0) dR rfl rfl
  with_reducible refine DD ?_
  clear DD;intro g P Z S Q R k;have e1:Ev (aq ao aj n) [.ref g,.af [.str "block",.aC []],.int 0,.ah] Z (.sub (.aa 1) (.aI (.int 1))) (.aC []):=aE (x:=.af [.str "block",.aC []]) (ak rfl rfl) au rfl;refine bU (aJ (z:=true) e1 (bK az) rfl) ?_;refine bO (aX (v:=.fn 16) rfl) (ai (ak (v:=.ref g) rfl rfl) (ai (ak (v:=.int 0) rfl rfl) az)) ?_;refine bh (.inl rfl) R rfl λZ R=>?_;have e1:Ev (aq ao aj n) [.ref g,.af [.str "block",.aC []],.int 0,.ah] Z (.sub (.aa 1) (.aI (.int 1))) (.aC []):=aE (x:=.af [.str "block",.aC []]) (ak rfl rfl) au rfl;refine(cK (v:=.k8 0 0 1) (vs:=[]) (bS (b:=0) (cG e1 (if_pos (by decide:0<lim):(if 0<lim then some (V.int 0) else Option.none)=_))) L3 ?_:WS _ _ _ _ _).to;refine j9 (lY ?_);exact k _ R.w
 ·have DD:= @aO.fn n 43 [.af [.str "block",.aC []],.int 1] 3 3 (dl 1) dR rfl rfl
  with_reducible refine DD ?_
  clear DD;intro g P Z S Q R k;have e1:Ev (aq ao aj n) [.ref g,.af [.str "block",.aC []],.int 1,.ah] Z (.sub (.aa 1) (.aI (.int 1))) (.aC []):=aE (x:=.af [.str "block",.aC []]) (ak rfl rfl) au rfl;refine bU (aJ (z:=true) e1 (bK az) rfl) ?_;refine bO (aX (v:=.fn 16) rfl) (ai (ak (v:=.ref g) rfl rfl) (ai (ak (v:=.int 1) rfl rfl) az)) ?_;refine bh (.inr (.inl rfl)) R rfl λZ R=>?_;have e1:Ev (aq ao aj n) [.ref g,.af [.str "block",.aC []],.int 1,.ah] Z (.sub (.aa 1) (.aI (.int 1))) (.aC []):=aE (x:=.af [.str "block",.aC []]) (ak rfl rfl) au rfl;refine(cK (v:=.k8 0 0 1) (vs:=[]) (bS (b:=0) (cG e1 (if_pos (by decide:0<lim):(if 0<lim then some (V.int 0) else Option.none)=_))) L3 ?_:WS _ _ _ _ _).to;refine j9 (lY ?_);exact k _ R.w
 ·have DD:= @aO.fn n 43 [.af [.str "block",.aC []],.int 2] 3 3 (dl 2) dR rfl rfl
  with_reducible refine DD ?_
  clear DD;intro g P Z S Q R k;have e1:Ev (aq ao aj n) [.ref g,.af [.str "block",.aC []],.int 2,.ah] Z (.sub (.aa 1) (.aI (.int 1))) (.aC []):=aE (x:=.af [.str "block",.aC []]) (ak rfl rfl) au rfl;refine bU (aJ (z:=true) e1 (bK az) rfl) ?_;refine bO (aX (v:=.fn 16) rfl) (ai (ak (v:=.ref g) rfl rfl) (ai (ak (v:=.int 2) rfl rfl) az)) ?_;refine bh (.inr (.inr rfl)) R rfl λZ R=>?_;have e1:Ev (aq ao aj n) [.ref g,.af [.str "block",.aC []],.int 2,.ah] Z (.sub (.aa 1) (.aI (.int 1))) (.aC []):=aE (x:=.af [.str "block",.aC []]) (ak rfl rfl) au rfl;refine(cK (v:=.k8 0 0 1) (vs:=[]) (bS (b:=0) (cG e1 (if_pos (by decide:0<lim):(if 0<lim then some (V.int 0) else Option.none)=_))) L3 ?_:WS _ _ _ _ _).to;refine j9 (lY ?_);exact k _ R.w
theorem sS(A:kU F W a):iI (F+2) (1*W+2) (.af [.str "block",.aC [a]]):=by
 intro n hn w hw;obtain⟨n,rfl⟩:=e1 n;have DD:= @aO.fn n 43 [.af [.str "block",.aC [a]],.int w] (F+2) (1*W+2) (dl w) dR rfl rfl
 with_reducible refine DD ?_
 clear DD;intro g P Z S Q R k;have e1:Ev (aq ao aj n) [.ref g,.af [.str "block",.aC [a]],.int w,.ah] Z (.sub (.aa 1) (.aI (.int 1))) (.aC [a]):=aE (x:=.af [.str "block",.aC [a]]) (ak rfl rfl) au rfl;refine cE (aJ (z:=false) e1 (bK az) rfl) ?_;refine cK (v:=.k8 0 1 1) (vs:=[.int 0]) (bS (b:=1) (cG e1 (if_pos (by decide:1<lim):(if 1<lim then some (V.int 1) else Option.none)=_))) yx ?_;refine br (WS.mk ?_);rcases id hw with rfl|rfl|rfl
 ·refine(A n (by lia) 0 (.inl rfl)).call ⟨0,0,0⟩ R rfl λZ R=>?_
  exact k _ R.w
 all_goals
  refine(A n (by lia) _ hw).call ⟨1,0,0⟩ R rfl λZ R=>?_;exact k _ R.w
theorem Gl(A:kU F W a)(B:kU F W b):iI (F+2) (2*W+2) (.af [.str "block",.aC [a,b]]):=by
 intro n hn w hw;obtain⟨n,rfl⟩:=e1 n;have DD:= @aO.fn n 43 [.af [.str "block",.aC [a,b]],.int w] (F+2) (2*W+2) (dl w) dR rfl rfl
 with_reducible refine DD ?_
 clear DD;intro g P Z S Q R k;have e1:Ev (aq ao aj n) [.ref g,.af [.str "block",.aC [a,b]],.int w,.ah] Z (.sub (.aa 1) (.aI (.int 1))) (.aC [a,b]):=aE (x:=.af [.str "block",.aC [a,b]]) (ak rfl rfl) au rfl;refine cE (aJ (z:=false) e1 (bK az) rfl) ?_;refine cK (v:=.k8 0 2 1) (vs:=[.int 0,.int 1]) (bS (b:=2) (cG e1 (if_pos (by decide:2<lim):(if 2<lim then some (V.int 2) else Option.none)=_))) vL ?_;refine br (WS.mk ?_);refine(A n (by lia) 0 (.inl rfl)).call ⟨0,0,0⟩ R rfl λZ R=>?_;rcases id hw with rfl|rfl|rfl
 ·refine(B n (by lia) 0 (.inl rfl)).call ⟨0,0,0⟩ R rfl λZ R=>?_
  exact k _ R.w
 all_goals
  refine(B n (by lia) _ hw).call ⟨1,0,0⟩ R rfl λZ R=>?_;exact k _ R.w
theorem Pa(A:kU F W a)(B:kU F W b)(C:kU F W c):iI (F+2) (3*W+2) (.af [.str "block",.aC [a,b,c]]):=by
 intro n hn w hw;obtain⟨n,rfl⟩:=e1 n;have DD:= @aO.fn n 43 [.af [.str "block",.aC [a,b,c]],.int w] (F+2) (3*W+2) (dl w) dR rfl rfl
 with_reducible refine DD ?_
 clear DD;intro g P Z S Q R k;have e1:Ev (aq ao aj n) [.ref g,.af [.str "block",.aC [a,b,c]],.int w,.ah] Z (.sub (.aa 1) (.aI (.int 1))) (.aC [a,b,c]):=aE (x:=.af [.str "block",.aC [a,b,c]]) (ak rfl rfl) au rfl;refine cE (aJ (z:=false) e1 (bK az) rfl) ?_;refine cK (v:=.k8 0 3 1) (vs:=[.int 0,.int 1,.int 2]) (bS (b:=3) (cG e1 (if_pos (by decide:3<lim):(if 3<lim then some (V.int 3) else Option.none)=_))) WD ?_;refine br (WS.mk ?_);refine(A n (by lia) 0 (.inl rfl)).call ⟨0,0,0⟩ R rfl λZ R=>?_;refine(B n (by lia) 0 (.inl rfl)).call ⟨0,0,0⟩ R rfl λZ R=>?_;rcases id hw with rfl|rfl|rfl
 ·refine(C n (by lia) 0 (.inl rfl)).call ⟨0,0,0⟩ R rfl λZ R=>?_
  exact k _ R.w
 all_goals
  refine(C n (by lia) _ hw).call ⟨1,0,0⟩ R rfl λZ R=>?_;exact k _ R.w
theorem Y9(A:ay F W ha a):xg 45 (F+2) (W+1) (.af [.str "expr",x,a]):=by
 intro n hn w hw;obtain⟨n,rfl⟩:=e1 n;refine aO.intro ?_;intro g P Z S Q R k;refine LG (K9 x) ⟨0,0,0⟩ R (S6 x) rfl λZ R=>?_;rcases id hw with rfl|rfl|rfl
 ·refine(A.c (.inl rfl) (by lia)).call ⟨0,0,0⟩ R rfl λZ R=>?_
  exact k _ R.w
 all_goals
  refine(A.c hw (by lia)).call ⟨1,0,0⟩ R rfl λZ R=>?_;exact k _ R.w
theorem Ir(B:cz F W b):bf (F+3) W (.af [.str "doblock",b]):=by
 refine gz (k:=50) λn hn w hw g P Z S Q R k=>?_;rcases id hw with rfl|rfl|rfl
 ·refine(B n (by lia) 0 (.inl rfl)).call ⟨0,0,0⟩ R rfl λZ R=>?_
  exact k _ R.w
 all_goals
  refine(B n (by lia) _ hw).call ⟨1,0,0⟩ R rfl λZ R=>?_;exact k _ R.w
theorem TX(A:ay F W ha a)(B:cz F W (.af fV)):xg 46 (F+3) (5*W+22) (.af [.str "if",.aC [.af [a,.af fV]],.none]):=by
 intro n hn w hw;obtain⟨n,rfl⟩:=e1 n;refine aO.intro ?_;intro g P Z S Q R k;obtain⟨ra,rfl⟩:=A.af;refine H7 R rfl λZ R=>?_;refine R.aZ ?_;show dU _ _ _ _ _ _;refine(mX (aX (v:=.fn 8) rfl) (ai (ak (v:=.ref g) rfl rfl) az) ?_:WS _ _ _ _ _).to;rcases hw with rfl|rfl|rfl
 ·refine aB ⟨0,1,0⟩ R λZ mb R=>?_
  refine cK (v:=.k8 0 1 1) (vs:=[.int 0]) (bS (b:=1) (cG (x:=.aC [.af [.af (.str ha::ra),.af fV]]) (aE (x:=.af [.str "if",.aC [.af [.af (.str ha::ra),.af fV]],.none]) (ak (i:=1) rfl rfl) au rfl) (if_pos (by decide:1<lim):(if 1<lim then some (V.int 1) else Option.none)=_))) yx ?_;refine br (WS.mk ?_);refine aB ⟨0,1,0⟩ R λZ qJ R=>?_;refine A.w1 ⟨1,1,0⟩ R rfl λZ R=>?_;refine LJ bw qJ ⟨0,1,0⟩ R bz rfl (.head _) rfl λZ R=>?_;refine(B n (by lia) 0 (.inl rfl)).call ⟨0,1,0⟩ R rfl λZ R=>?_;refine LE bH [mb] ⟨0,1,0⟩ ⟨0,1,0⟩ R (bL) rfl rfl (cy (.tail _ (.head _))) rfl λZ R=>?_;refine PM [(mb,⟨0,1,0⟩)] 0 R (.refl _) rfl rfl rfl λZ R=>?_;refine PM [] 0 R (.refl _) rfl rfl rfl λZ R=>?_;refine vS R rfl λZ R=>?_;exact k _ R.w
 ·refine aB ⟨1,1,0⟩ R λZ mb R=>?_
  refine cK (v:=.k8 0 1 1) (vs:=[.int 0]) (bS (b:=1) (cG (x:=.aC [.af [.af (.str ha::ra),.af fV]]) (aE (x:=.af [.str "if",.aC [.af [.af (.str ha::ra),.af fV]],.none]) (ak (i:=1) rfl rfl) au rfl) (if_pos (by decide:1<lim):(if 1<lim then some (V.int 1) else Option.none)=_))) yx ?_;refine br (WS.mk ?_);refine aB ⟨1,1,0⟩ R λZ qJ R=>?_;refine A.w1 ⟨1,1,0⟩ R rfl λZ R=>?_;refine LG u9 ⟨2,1,0⟩ R (yp) rfl λZ R=>?_;refine LJ bw qJ ⟨1,1,0⟩ R bz rfl (.head _) rfl λZ R=>?_;refine LG gJ ⟨0,1,0⟩ R (iG) rfl λZ R=>?_;refine(B n (by lia) 1 (.inr (.inl rfl))).call ⟨1,1,0⟩ R rfl λZ R=>?_;refine LE bH [mb] ⟨1,1,0⟩ ⟨1,1,0⟩ R (bL) rfl rfl (cy (.tail _ (.head _))) rfl λZ R=>?_;refine PM [(mb,⟨1,1,0⟩)] 1 R (.refl _) rfl (by show S.re.h+0+1=S.re.h+1;lia) rfl λZ R=>?_;refine PM [] 1 R (.refl _) rfl (by show S.re.h+0+1=S.re.h+1;lia) rfl λZ R=>?_;refine vS R rfl λZ R=>?_;exact k _ R.w
 ·refine aB ⟨1,1,0⟩ R λZ mb R=>?_
  refine cK (v:=.k8 0 1 1) (vs:=[.int 0]) (bS (b:=1) (cG (x:=.aC [.af [.af (.str ha::ra),.af fV]]) (aE (x:=.af [.str "if",.aC [.af [.af (.str ha::ra),.af fV]],.none]) (ak (i:=1) rfl rfl) au rfl) (if_pos (by decide:1<lim):(if 1<lim then some (V.int 1) else Option.none)=_))) yx ?_;refine br (WS.mk ?_);refine aB ⟨1,1,0⟩ R λZ qJ R=>?_;refine A.w1 ⟨1,1,0⟩ R rfl λZ R=>?_;refine LG u9 ⟨2,1,0⟩ R (yp) rfl λZ R=>?_;refine LJ bw qJ ⟨1,1,0⟩ R bz rfl (.head _) rfl λZ R=>?_;refine LG gJ ⟨0,1,0⟩ R (iG) rfl λZ R=>?_;refine(B n (by lia) 2 (.inr (.inr rfl))).call ⟨1,1,0⟩ R rfl λZ R=>?_;refine LE bH [mb] ⟨1,1,0⟩ ⟨1,1,0⟩ R (bL) rfl rfl (cy (.tail _ (.head _))) rfl λZ R=>?_;refine PM [(mb,⟨1,1,0⟩)] 1 R (.refl _) rfl (by show S.re.h+0+1=S.re.h+1;lia) rfl λZ R=>?_;refine LG cL ⟨1,1,0⟩ R (cZ) rfl λZ R=>?_;refine PM [] 1 R (.refl _) rfl (by show S.re.h+0+1=S.re.h+1;lia) rfl λZ R=>?_;refine vS R rfl λZ R=>?_;exact k _ R.w
theorem TY(A:ay F W ha a)(B:cz F W (.af fV))(E:cz F W (.af re)):xg 46 (F+3) (5*W+22) (.af [.str "if",.aC [.af [a,.af fV]],.af re]):=by
 intro n hn w hw;obtain⟨n,rfl⟩:=e1 n;refine aO.intro ?_;intro g P Z S Q R k;obtain⟨ra,rfl⟩:=A.af;refine H7 R rfl λZ R=>?_;refine R.aZ ?_;show dU _ _ _ _ _ _;refine(mX (aX (v:=.fn 8) rfl) (ai (ak (v:=.ref g) rfl rfl) az) ?_:WS _ _ _ _ _).to;rcases id hw with rfl|rfl|rfl
 ·refine aB ⟨0,1,0⟩ R λZ mb R=>?_
  refine cK (v:=.k8 0 1 1) (vs:=[.int 0]) (bS (b:=1) (cG (x:=.aC [.af [.af (.str ha::ra),.af fV]]) (aE (x:=.af [.str "if",.aC [.af [.af (.str ha::ra),.af fV]],.af re]) (ak (i:=1) rfl rfl) au rfl) (if_pos (by decide:1<lim):(if 1<lim then some (V.int 1) else Option.none)=_))) yx ?_;refine br (WS.mk ?_);refine aB ⟨0,1,0⟩ R λZ qJ R=>?_;refine A.w1 ⟨1,1,0⟩ R rfl λZ R=>?_;refine LJ bw qJ ⟨0,1,0⟩ R bz rfl (.head _) rfl λZ R=>?_;refine(B n (by lia) 0 (.inl rfl)).call ⟨0,1,0⟩ R rfl λZ R=>?_;refine LE bH [mb] ⟨0,1,0⟩ ⟨0,1,0⟩ R (bL) rfl rfl (cy (.tail _ (.head _))) rfl λZ R=>?_;refine PM [(mb,⟨0,1,0⟩)] 0 R (.refl _) rfl rfl rfl λZ R=>?_;refine(E n (by lia) 0 (.inl rfl)).call ⟨0,1,0⟩ R rfl λZ R=>?_;refine PM [] 0 R (.refl _) rfl rfl rfl λZ R=>?_;refine vS R rfl λZ R=>?_;exact k _ R.w
 all_goals
  refine aB ⟨1,1,0⟩ R λZ mb R=>?_;refine cK (v:=.k8 0 1 1) (vs:=[.int 0]) (bS (b:=1) (cG (x:=.aC [.af [.af (.str ha::ra),.af fV]]) (aE (x:=.af [.str "if",.aC [.af [.af (.str ha::ra),.af fV]],.af re]) (ak (i:=1) rfl rfl) au rfl) (if_pos (by decide:1<lim):(if 1<lim then some (V.int 1) else Option.none)=_))) yx ?_;refine br (WS.mk ?_);refine aB ⟨0,1,0⟩ R λZ qJ R=>?_;refine A.w1 ⟨1,1,0⟩ R rfl λZ R=>?_;refine LJ bw qJ ⟨0,1,0⟩ R bz rfl (.head _) rfl λZ R=>?_;refine(B n (by lia) _ hw).call ⟨1,1,0⟩ R rfl λZ R=>?_;refine LE bH [mb] ⟨0,1,0⟩ ⟨1,1,0⟩ R (bL) rfl rfl (cy (.tail _ (.head _))) rfl λZ R=>?_;refine PM [(mb,⟨1,1,0⟩)] 0 R (.refl _) rfl rfl rfl λZ R=>?_;refine(E n (by lia) _ hw).call ⟨1,1,0⟩ R rfl λZ R=>?_;refine PM [] 1 R (.refl _) rfl (by show S.re.h+0+1=S.re.h+1;lia) rfl λZ R=>?_;refine vS R rfl λZ R=>?_;exact k _ R.w
theorem TZ(A:ay F W ha a)(B:cz F W (.af fV))(C:ay F W hc c)(DD:cz F W (.af rd)):xg 46 (F+3) (5*W+22) (.af [.str "if",.aC [.af [a,.af fV],.af [c,.af rd]],.none]):=by
 intro n hn w hw;obtain⟨n,rfl⟩:=e1 n;refine aO.intro ?_;intro g P Z S Q R k;obtain⟨ra,rfl⟩:=A.af;obtain⟨rc,rfl⟩:=C.af;refine H7 R rfl λZ R=>?_;refine R.aZ ?_;show dU _ _ _ _ _ _;refine(mX (aX (v:=.fn 8) rfl) (ai (ak (v:=.ref g) rfl rfl) az) ?_:WS _ _ _ _ _).to;rcases hw with rfl|rfl|rfl
 ·refine aB ⟨0,1,0⟩ R λZ mb R=>?_
  refine cK (v:=.k8 0 2 1) (vs:=[.int 0,.int 1]) (bS (b:=2) (cG (x:=.aC [.af [.af (.str ha::ra),.af fV],.af [.af (.str hc::rc),.af rd]]) (aE (x:=.af [.str "if",.aC [.af [.af (.str ha::ra),.af fV],.af [.af (.str hc::rc),.af rd]],.none]) (ak (i:=1) rfl rfl) au rfl) (if_pos (by decide:2<lim):(if 2<lim then some (V.int 2) else Option.none)=_))) vL ?_;refine br (WS.mk ?_);refine aB ⟨0,1,0⟩ R λZ qJ R=>?_;refine A.w1 ⟨1,1,0⟩ R rfl λZ R=>?_;refine LJ bw qJ ⟨0,1,0⟩ R bz rfl (.head _) rfl λZ R=>?_;refine(B n (by lia) 0 (.inl rfl)).call ⟨0,1,0⟩ R rfl λZ R=>?_;refine LE bH [mb] ⟨0,1,0⟩ ⟨0,1,0⟩ R (bL) rfl rfl (cy (.tail _ (.head _))) rfl λZ R=>?_;refine PM [(mb,⟨0,1,0⟩)] 0 R (.refl _) rfl rfl rfl λZ R=>?_;refine(FL.to (?_:FL (aq ao aj n) _ _ _ _ [.ref g,.af [.str "if",.aC [.af [.af (.str ha::ra),.af fV],.af [.af (.str hc::rc),.af rd]],.none],.int 0,.int (S.re.h+0),.int (mb:Nat),.int 0,.af (.str ha::ra),.af fV,.int (qJ:Nat),.bool false] _ _));refine br (WS.mk ?_);refine aB ⟨0,1,0⟩ R λZ L4 R=>?_;refine C.w1 ⟨1,1,0⟩ R rfl λZ R=>?_;refine LJ bw L4 ⟨0,1,0⟩ R bz rfl (.head _) rfl λZ R=>?_;refine(DD n (by lia) 0 (.inl rfl)).call ⟨0,1,0⟩ R rfl λZ R=>?_;refine LE bH [mb] ⟨0,1,0⟩ ⟨0,1,0⟩ R (bL) rfl rfl (cy (.tail _ (.head _))) rfl λZ R=>?_;refine PM [(mb,⟨0,1,0⟩)] 0 R (.refl _) rfl rfl rfl λZ R=>?_;refine PM [] 0 R (.refl _) rfl rfl rfl λZ R=>?_;refine vS R rfl λZ R=>?_;exact k _ R.w
 ·refine aB ⟨1,1,0⟩ R λZ mb R=>?_
  refine cK (v:=.k8 0 2 1) (vs:=[.int 0,.int 1]) (bS (b:=2) (cG (x:=.aC [.af [.af (.str ha::ra),.af fV],.af [.af (.str hc::rc),.af rd]]) (aE (x:=.af [.str "if",.aC [.af [.af (.str ha::ra),.af fV],.af [.af (.str hc::rc),.af rd]],.none]) (ak (i:=1) rfl rfl) au rfl) (if_pos (by decide:2<lim):(if 2<lim then some (V.int 2) else Option.none)=_))) vL ?_;refine br (WS.mk ?_);refine aB ⟨0,1,0⟩ R λZ qJ R=>?_;refine A.w1 ⟨1,1,0⟩ R rfl λZ R=>?_;refine LJ bw qJ ⟨0,1,0⟩ R bz rfl (.head _) rfl λZ R=>?_;refine(B n (by lia) 1 (.inr (.inl rfl))).call ⟨1,1,0⟩ R rfl λZ R=>?_;refine LE bH [mb] ⟨0,1,0⟩ ⟨1,1,0⟩ R (bL) rfl rfl (cy (.tail _ (.head _))) rfl λZ R=>?_;refine PM [(mb,⟨1,1,0⟩)] 0 R (.refl _) rfl rfl rfl λZ R=>?_;refine(FL.to (?_:FL (aq ao aj n) _ _ _ _ [.ref g,.af [.str "if",.aC [.af [.af (.str ha::ra),.af fV],.af [.af (.str hc::rc),.af rd]],.none],.int 1,.int (S.re.h+0),.int (mb:Nat),.int 0,.af (.str ha::ra),.af fV,.int (qJ:Nat),.bool false] _ _));refine br (WS.mk ?_);refine aB ⟨1,1,0⟩ R λZ L4 R=>?_;refine C.w1 ⟨1,1,0⟩ R rfl λZ R=>?_;refine LG u9 ⟨2,1,0⟩ R (yp) rfl λZ R=>?_;refine LJ bw L4 ⟨1,1,0⟩ R bz rfl (.head _) rfl λZ R=>?_;refine LG gJ ⟨0,1,0⟩ R (iG) rfl λZ R=>?_;refine(DD n (by lia) 1 (.inr (.inl rfl))).call ⟨1,1,0⟩ R rfl λZ R=>?_;refine LE bH [mb] ⟨1,1,0⟩ ⟨1,1,0⟩ R (bL) rfl rfl (cy (.tail _ (.head _))) rfl λZ R=>?_;refine PM [(mb,⟨1,1,0⟩)] 1 R (.refl _) rfl (by show S.re.h+0+1=S.re.h+1;lia) rfl λZ R=>?_;refine PM [] 1 R (.refl _) rfl (by show S.re.h+0+1=S.re.h+1;lia) rfl λZ R=>?_;refine vS R rfl λZ R=>?_;exact k _ R.w
 ·refine aB ⟨1,1,0⟩ R λZ mb R=>?_
  refine cK (v:=.k8 0 2 1) (vs:=[.int 0,.int 1]) (bS (b:=2) (cG (x:=.aC [.af [.af (.str ha::ra),.af fV],.af [.af (.str hc::rc),.af rd]]) (aE (x:=.af [.str "if",.aC [.af [.af (.str ha::ra),.af fV],.af [.af (.str hc::rc),.af rd]],.none]) (ak (i:=1) rfl rfl) au rfl) (if_pos (by decide:2<lim):(if 2<lim then some (V.int 2) else Option.none)=_))) vL ?_;refine br (WS.mk ?_);refine aB ⟨0,1,0⟩ R λZ qJ R=>?_;refine A.w1 ⟨1,1,0⟩ R rfl λZ R=>?_;refine LJ bw qJ ⟨0,1,0⟩ R bz rfl (.head _) rfl λZ R=>?_;refine(B n (by lia) 2 (.inr (.inr rfl))).call ⟨1,1,0⟩ R rfl λZ R=>?_;refine LE bH [mb] ⟨0,1,0⟩ ⟨1,1,0⟩ R (bL) rfl rfl (cy (.tail _ (.head _))) rfl λZ R=>?_;refine PM [(mb,⟨1,1,0⟩)] 0 R (.refl _) rfl rfl rfl λZ R=>?_;refine(FL.to (?_:FL (aq ao aj n) _ _ _ _ [.ref g,.af [.str "if",.aC [.af [.af (.str ha::ra),.af fV],.af [.af (.str hc::rc),.af rd]],.none],.int 2,.int (S.re.h+0),.int (mb:Nat),.int 0,.af (.str ha::ra),.af fV,.int (qJ:Nat),.bool false] _ _));refine br (WS.mk ?_);refine aB ⟨1,1,0⟩ R λZ L4 R=>?_;refine C.w1 ⟨1,1,0⟩ R rfl λZ R=>?_;refine LG u9 ⟨2,1,0⟩ R (yp) rfl λZ R=>?_;refine LJ bw L4 ⟨1,1,0⟩ R bz rfl (.head _) rfl λZ R=>?_;refine LG gJ ⟨0,1,0⟩ R (iG) rfl λZ R=>?_;refine(DD n (by lia) 2 (.inr (.inr rfl))).call ⟨1,1,0⟩ R rfl λZ R=>?_;refine LE bH [mb] ⟨1,1,0⟩ ⟨1,1,0⟩ R (bL) rfl rfl (cy (.tail _ (.head _))) rfl λZ R=>?_;refine PM [(mb,⟨1,1,0⟩)] 1 R (.refl _) rfl (by show S.re.h+0+1=S.re.h+1;lia) rfl λZ R=>?_;refine LG cL ⟨1,1,0⟩ R (cZ) rfl λZ R=>?_;refine PM [] 1 R (.refl _) rfl (by show S.re.h+0+1=S.re.h+1;lia) rfl λZ R=>?_;refine vS R rfl λZ R=>?_;exact k _ R.w
theorem T3(A:ay F W ha a)(B:cz F W (.af fV))(C:ay F W hc c)(DD:cz F W (.af rd))(E:cz F W (.af re)):xg 46 (F+3) (5*W+22) (.af [.str "if",.aC [.af [a,.af fV],.af [c,.af rd]],.af re]):=by
 intro n hn w hw;obtain⟨n,rfl⟩:=e1 n;refine aO.intro ?_;intro g P Z S Q R k;obtain⟨ra,rfl⟩:=A.af;obtain⟨rc,rfl⟩:=C.af;refine H7 R rfl λZ R=>?_;refine R.aZ ?_;show dU _ _ _ _ _ _;refine(mX (aX (v:=.fn 8) rfl) (ai (ak (v:=.ref g) rfl rfl) az) ?_:WS _ _ _ _ _).to;rcases hw with rfl|rfl|rfl
 ·refine aB ⟨0,1,0⟩ R λZ mb R=>?_
  refine cK (v:=.k8 0 2 1) (vs:=[.int 0,.int 1]) (bS (b:=2) (cG (x:=.aC [.af [.af (.str ha::ra),.af fV],.af [.af (.str hc::rc),.af rd]]) (aE (x:=.af [.str "if",.aC [.af [.af (.str ha::ra),.af fV],.af [.af (.str hc::rc),.af rd]],.af re]) (ak (i:=1) rfl rfl) au rfl) (if_pos (by decide:2<lim):(if 2<lim then some (V.int 2) else Option.none)=_))) vL ?_;refine br (WS.mk ?_);refine aB ⟨0,1,0⟩ R λZ qJ R=>?_;refine A.w1 ⟨1,1,0⟩ R rfl λZ R=>?_;refine LJ bw qJ ⟨0,1,0⟩ R bz rfl (.head _) rfl λZ R=>?_;refine(B n (by lia) 0 (.inl rfl)).call ⟨0,1,0⟩ R rfl λZ R=>?_;refine LE bH [mb] ⟨0,1,0⟩ ⟨0,1,0⟩ R (bL) rfl rfl (cy (.tail _ (.head _))) rfl λZ R=>?_;refine PM [(mb,⟨0,1,0⟩)] 0 R (.refl _) rfl rfl rfl λZ R=>?_;refine(FL.to (?_:FL (aq ao aj n) _ _ _ _ [.ref g,.af [.str "if",.aC [.af [.af (.str ha::ra),.af fV],.af [.af (.str hc::rc),.af rd]],.af re],.int 0,.int (S.re.h+0),.int (mb:Nat),.int 0,.af (.str ha::ra),.af fV,.int (qJ:Nat),.bool false] _ _));refine br (WS.mk ?_);refine aB ⟨0,1,0⟩ R λZ L4 R=>?_;refine C.w1 ⟨1,1,0⟩ R rfl λZ R=>?_;refine LJ bw L4 ⟨0,1,0⟩ R bz rfl (.head _) rfl λZ R=>?_;refine(DD n (by lia) 0 (.inl rfl)).call ⟨0,1,0⟩ R rfl λZ R=>?_;refine LE bH [mb] ⟨0,1,0⟩ ⟨0,1,0⟩ R (bL) rfl rfl (cy (.tail _ (.head _))) rfl λZ R=>?_;refine PM [(mb,⟨0,1,0⟩)] 0 R (.refl _) rfl rfl rfl λZ R=>?_;refine(E n (by lia) 0 (.inl rfl)).call ⟨0,1,0⟩ R rfl λZ R=>?_;refine PM [] 0 R (.refl _) rfl rfl rfl λZ R=>?_;refine vS R rfl λZ R=>?_;exact k _ R.w
 ·refine aB ⟨1,1,0⟩ R λZ mb R=>?_
  refine cK (v:=.k8 0 2 1) (vs:=[.int 0,.int 1]) (bS (b:=2) (cG (x:=.aC [.af [.af (.str ha::ra),.af fV],.af [.af (.str hc::rc),.af rd]]) (aE (x:=.af [.str "if",.aC [.af [.af (.str ha::ra),.af fV],.af [.af (.str hc::rc),.af rd]],.af re]) (ak (i:=1) rfl rfl) au rfl) (if_pos (by decide:2<lim):(if 2<lim then some (V.int 2) else Option.none)=_))) vL ?_;refine br (WS.mk ?_);refine aB ⟨0,1,0⟩ R λZ qJ R=>?_;refine A.w1 ⟨1,1,0⟩ R rfl λZ R=>?_;refine LJ bw qJ ⟨0,1,0⟩ R bz rfl (.head _) rfl λZ R=>?_;refine(B n (by lia) 1 (.inr (.inl rfl))).call ⟨1,1,0⟩ R rfl λZ R=>?_;refine LE bH [mb] ⟨0,1,0⟩ ⟨1,1,0⟩ R (bL) rfl rfl (cy (.tail _ (.head _))) rfl λZ R=>?_;refine PM [(mb,⟨1,1,0⟩)] 0 R (.refl _) rfl rfl rfl λZ R=>?_;refine(FL.to (?_:FL (aq ao aj n) _ _ _ _ [.ref g,.af [.str "if",.aC [.af [.af (.str ha::ra),.af fV],.af [.af (.str hc::rc),.af rd]],.af re],.int 1,.int (S.re.h+0),.int (mb:Nat),.int 0,.af (.str ha::ra),.af fV,.int (qJ:Nat),.bool false] _ _));refine br (WS.mk ?_);refine aB ⟨0,1,0⟩ R λZ L4 R=>?_;refine C.w1 ⟨1,1,0⟩ R rfl λZ R=>?_;refine LJ bw L4 ⟨0,1,0⟩ R bz rfl (.head _) rfl λZ R=>?_;refine(DD n (by lia) 1 (.inr (.inl rfl))).call ⟨1,1,0⟩ R rfl λZ R=>?_;refine LE bH [mb] ⟨0,1,0⟩ ⟨1,1,0⟩ R (bL) rfl rfl (cy (.tail _ (.head _))) rfl λZ R=>?_;refine PM [(mb,⟨1,1,0⟩)] 0 R (.refl _) rfl rfl rfl λZ R=>?_;refine(E n (by lia) 1 (.inr (.inl rfl))).call ⟨1,1,0⟩ R rfl λZ R=>?_;refine PM [] 1 R (.refl _) rfl (by show S.re.h+0+1=S.re.h+1;lia) rfl λZ R=>?_;refine vS R rfl λZ R=>?_;exact k _ R.w
 ·refine aB ⟨1,1,0⟩ R λZ mb R=>?_
  refine cK (v:=.k8 0 2 1) (vs:=[.int 0,.int 1]) (bS (b:=2) (cG (x:=.aC [.af [.af (.str ha::ra),.af fV],.af [.af (.str hc::rc),.af rd]]) (aE (x:=.af [.str "if",.aC [.af [.af (.str ha::ra),.af fV],.af [.af (.str hc::rc),.af rd]],.af re]) (ak (i:=1) rfl rfl) au rfl) (if_pos (by decide:2<lim):(if 2<lim then some (V.int 2) else Option.none)=_))) vL ?_;refine br (WS.mk ?_);refine aB ⟨0,1,0⟩ R λZ qJ R=>?_;refine A.w1 ⟨1,1,0⟩ R rfl λZ R=>?_;refine LJ bw qJ ⟨0,1,0⟩ R bz rfl (.head _) rfl λZ R=>?_;refine(B n (by lia) 2 (.inr (.inr rfl))).call ⟨1,1,0⟩ R rfl λZ R=>?_;refine LE bH [mb] ⟨0,1,0⟩ ⟨1,1,0⟩ R (bL) rfl rfl (cy (.tail _ (.head _))) rfl λZ R=>?_;refine PM [(mb,⟨1,1,0⟩)] 0 R (.refl _) rfl rfl rfl λZ R=>?_;refine(FL.to (?_:FL (aq ao aj n) _ _ _ _ [.ref g,.af [.str "if",.aC [.af [.af (.str ha::ra),.af fV],.af [.af (.str hc::rc),.af rd]],.af re],.int 2,.int (S.re.h+0),.int (mb:Nat),.int 0,.af (.str ha::ra),.af fV,.int (qJ:Nat),.bool false] _ _));refine br (WS.mk ?_);refine aB ⟨0,1,0⟩ R λZ L4 R=>?_;refine C.w1 ⟨1,1,0⟩ R rfl λZ R=>?_;refine LJ bw L4 ⟨0,1,0⟩ R bz rfl (.head _) rfl λZ R=>?_;refine(DD n (by lia) 2 (.inr (.inr rfl))).call ⟨1,1,0⟩ R rfl λZ R=>?_;refine LE bH [mb] ⟨0,1,0⟩ ⟨1,1,0⟩ R (bL) rfl rfl (cy (.tail _ (.head _))) rfl λZ R=>?_;refine PM [(mb,⟨1,1,0⟩)] 0 R (.refl _) rfl rfl rfl λZ R=>?_;refine(E n (by lia) 2 (.inr (.inr rfl))).call ⟨1,1,0⟩ R rfl λZ R=>?_;refine PM [] 1 R (.refl _) rfl (by show S.re.h+0+1=S.re.h+1;lia) rfl λZ R=>?_;refine vS R rfl λZ R=>?_;exact k _ R.w
end
section
variable {F W:Nat}{ha hb hc:String}{a b c x y:V}{ra fV rc rd re:List V}{n:Nat}{w:Int}{l:String}
theorem Iu(A:ay F W ha a)(B:cz F W (.af fV)):xg 107 (F+3) (3*W+32) (.af [.str "while",.str l,a,.af fV,.none,.bool false]):=by
 refine vG λn hn w hw g P Z S Q R k=>?_;obtain⟨ra,rfl⟩:=A.af;refine aB ⟨0,0,1⟩ R λZ mt R=>?_;refine aB ⟨0,1,1⟩ R λZ md R=>?_;refine Lw R rfl λZ R=>?_;refine R.aZ ?_
 replace R:=R.xj (m:=mt) (e:=⟨0,0,1⟩) (.tail _ (.head _))
 refine PM [(md,⟨0,1,1⟩)] 0 R (.swap _ _ _) rfl rfl rfl λZ R=>?_;refine H7 R rfl λZ R=>?_
 replace R:Run g _ _ _ _ S Z _ _ _ ⟨0,1,1⟩ ⟨0,1,1⟩:=R
 refine A.w1 ⟨1,1,1⟩ R rfl λZ R=>?_;refine LJ bw md ⟨0,1,1⟩ R bz rfl (.head _) rfl λZ R=>?_;refine rb R rfl λZ m1 m2 m3 R=>?_;refine(B n (by lia) 0 (.inl rfl)).calls (o':=⟨0,1,1⟩) R rfl (by decide) (by decide) (by lia) (by lia) (λl q=>by cases List.mem_singleton.mp q;exact Int.le_refl _) λZ R=>?_;refine nN R ⟨rfl,rfl⟩ rfl λZ R=>?_;refine LO iX ⟨0,0,1⟩ R kB rfl rfl λZ R=>?_;refine LN bM [] R bR ⟨rfl,rfl,rfl,rfl,rfl,rfl,rfl,rfl⟩ rfl (λm h=>by cases h) λZ R=>?_;refine LB bH mt ⟨0,0,1⟩ ⟨0,1,1⟩ ⟨0,1,1⟩ R bL ⟨rfl,rfl,rfl,rfl,rfl⟩ rfl (by decide) rfl (λz=>by cases z) rfl λZ R=>?_;refine jk R rfl λZ R=>?_;refine R.aZ ?_;refine PM [] 0 R (.refl _) rfl rfl rfl λZ R=>?_;refine vS R rfl λZ R=>?_;refine LG bM ⟨0,0,1⟩ R (bR) rfl λZ R=>?_;refine xe R rfl λZ R=>?_
 replace R:=R.ji
 rcases id hw with rfl|rfl|rfl
 all_goals exact bh hw R rfl λZ R=>k _ R.w
theorem Iv(A:ay F W ha a)(B:cz F W (.af fV)):xg 107 (F+3) (3*W+32) (.af [.str "while",.str l,a,.af fV,.none,.bool true]):=by
 refine vG λn hn w hw g P Z S Q R k=>?_;obtain⟨ra,rfl⟩:=A.af;refine aB ⟨0,0,1⟩ R λZ mt R=>?_;refine aB ⟨0,1,1⟩ R λZ md R=>?_;refine Lw R rfl λZ R=>?_;refine R.aZ ?_
 replace R:=R.xj (m:=mt) (e:=⟨0,0,1⟩) (.tail _ (.head _))
 refine PM [(md,⟨0,1,1⟩)] 0 R (.swap _ _ _) rfl rfl rfl λZ R=>?_;refine H7 R rfl λZ R=>?_
 replace R:Run g _ _ _ _ S Z _ _ _ ⟨0,1,1⟩ ⟨0,1,1⟩:=R
 refine A.w1 ⟨1,1,1⟩ R rfl λZ R=>?_;refine LJ jF md ⟨0,1,1⟩ R l7 rfl (.head _) rfl λZ R=>?_;refine rb R rfl λZ m1 m2 m3 R=>?_;refine(B n (by lia) 0 (.inl rfl)).calls (o':=⟨0,1,1⟩) R rfl (by decide) (by decide) (by lia) (by lia) (λl q=>by cases List.mem_singleton.mp q;exact Int.le_refl _) λZ R=>?_;refine nN R ⟨rfl,rfl⟩ rfl λZ R=>?_;refine LO iX ⟨0,0,1⟩ R kB rfl rfl λZ R=>?_;refine LN bM [] R bR ⟨rfl,rfl,rfl,rfl,rfl,rfl,rfl,rfl⟩ rfl (λm h=>by cases h) λZ R=>?_;refine LB bH mt ⟨0,0,1⟩ ⟨0,1,1⟩ ⟨0,1,1⟩ R bL ⟨rfl,rfl,rfl,rfl,rfl⟩ rfl (by decide) rfl (λz=>by cases z) rfl λZ R=>?_;refine jk R rfl λZ R=>?_;refine R.aZ ?_;refine PM [] 0 R (.refl _) rfl rfl rfl λZ R=>?_;refine vS R rfl λZ R=>?_;refine LG bM ⟨0,0,1⟩ R (bR) rfl λZ R=>?_;refine xe R rfl λZ R=>?_
 replace R:=R.ji
 rcases id hw with rfl|rfl|rfl
 all_goals exact bh hw R rfl λZ R=>k _ R.w
theorem Iw(A:ay F W ha a)(B:cz F W (.af fV))(C:cz F W (.af rc)):xg 107 (F+3) (3*W+32) (.af [.str "while",.str l,a,.af fV,.af rc,.bool false]):=by
 refine vG λn hn w hw g P Z S Q R k=>?_;obtain⟨ra,rfl⟩:=A.af;refine aB ⟨0,0,1⟩ R λZ mt R=>?_;refine aB ⟨0,1,1⟩ R λZ md R=>?_;refine Lw R rfl λZ R=>?_;refine R.aZ ?_
 replace R:=R.xj (m:=mt) (e:=⟨0,0,1⟩) (.tail _ (.head _))
 refine PM [(md,⟨0,1,1⟩)] 0 R (.swap _ _ _) rfl rfl rfl λZ R=>?_;refine H7 R rfl λZ R=>?_
 replace R:Run g _ _ _ _ S Z _ _ _ ⟨0,1,1⟩ ⟨0,1,1⟩:=R
 refine A.w1 ⟨1,1,1⟩ R rfl λZ R=>?_;refine LJ bw md ⟨0,1,1⟩ R bz rfl (.head _) rfl λZ R=>?_;refine rb R rfl λZ m1 m2 m3 R=>?_;refine(B n (by lia) 0 (.inl rfl)).calls (o':=⟨0,1,1⟩) R rfl (by decide) (by decide) (by lia) (by lia) (λl q=>by cases List.mem_singleton.mp q;exact Int.le_refl _) λZ R=>?_;refine nN R ⟨rfl,rfl⟩ rfl λZ R=>?_;refine(C n (by lia) 0 (.inl rfl)).call ⟨0,1,1⟩ R rfl λZ R=>?_;refine LO iX ⟨0,0,1⟩ R kB rfl rfl λZ R=>?_;refine LN bM [] R bR ⟨rfl,rfl,rfl,rfl,rfl,rfl,rfl,rfl⟩ rfl (λm h=>by cases h) λZ R=>?_;refine LB bH mt ⟨0,0,1⟩ ⟨0,1,1⟩ ⟨0,1,1⟩ R bL ⟨rfl,rfl,rfl,rfl,rfl⟩ rfl (by decide) rfl (λz=>by cases z) rfl λZ R=>?_;refine jk R rfl λZ R=>?_;refine R.aZ ?_;refine PM [] 0 R (.refl _) rfl rfl rfl λZ R=>?_;refine vS R rfl λZ R=>?_;refine LG bM ⟨0,0,1⟩ R (bR) rfl λZ R=>?_;refine xe R rfl λZ R=>?_
 replace R:=R.ji
 rcases id hw with rfl|rfl|rfl
 all_goals exact bh hw R rfl λZ R=>k _ R.w
theorem Iz(A:ay F W ha a)(B:cz F W (.af fV))(C:cz F W (.af rc)):xg 107 (F+3) (3*W+32) (.af [.str "while",.str l,a,.af fV,.af rc,.bool true]):=by
 refine vG λn hn w hw g P Z S Q R k=>?_;obtain⟨ra,rfl⟩:=A.af;refine aB ⟨0,0,1⟩ R λZ mt R=>?_;refine aB ⟨0,1,1⟩ R λZ md R=>?_;refine Lw R rfl λZ R=>?_;refine R.aZ ?_
 replace R:=R.xj (m:=mt) (e:=⟨0,0,1⟩) (.tail _ (.head _))
 refine PM [(md,⟨0,1,1⟩)] 0 R (.swap _ _ _) rfl rfl rfl λZ R=>?_;refine H7 R rfl λZ R=>?_
 replace R:Run g _ _ _ _ S Z _ _ _ ⟨0,1,1⟩ ⟨0,1,1⟩:=R
 refine A.w1 ⟨1,1,1⟩ R rfl λZ R=>?_;refine LJ jF md ⟨0,1,1⟩ R l7 rfl (.head _) rfl λZ R=>?_;refine rb R rfl λZ m1 m2 m3 R=>?_;refine(B n (by lia) 0 (.inl rfl)).calls (o':=⟨0,1,1⟩) R rfl (by decide) (by decide) (by lia) (by lia) (λl q=>by cases List.mem_singleton.mp q;exact Int.le_refl _) λZ R=>?_;refine nN R ⟨rfl,rfl⟩ rfl λZ R=>?_;refine(C n (by lia) 0 (.inl rfl)).call ⟨0,1,1⟩ R rfl λZ R=>?_;refine LO iX ⟨0,0,1⟩ R kB rfl rfl λZ R=>?_;refine LN bM [] R bR ⟨rfl,rfl,rfl,rfl,rfl,rfl,rfl,rfl⟩ rfl (λm h=>by cases h) λZ R=>?_;refine LB bH mt ⟨0,0,1⟩ ⟨0,1,1⟩ ⟨0,1,1⟩ R bL ⟨rfl,rfl,rfl,rfl,rfl⟩ rfl (by decide) rfl (λz=>by cases z) rfl λZ R=>?_;refine jk R rfl λZ R=>?_;refine R.aZ ?_;refine PM [] 0 R (.refl _) rfl rfl rfl λZ R=>?_;refine vS R rfl λZ R=>?_;refine LG bM ⟨0,0,1⟩ R (bR) rfl λZ R=>?_;refine xe R rfl λZ R=>?_
 replace R:=R.ji
 rcases id hw with rfl|rfl|rfl
 all_goals exact bh hw R rfl λZ R=>k _ R.w
theorem Er(A:ay F W ha a)(B:cz F W b):xg 108 (F+3) (2*W+14) (.af [.str "dowhile",b,a,.bool false]):=by
 refine vG λn hn w hw g P Z S Q R k=>?_;refine aB ⟨0,0,1⟩ R λZ mt R=>?_;refine Lw R rfl λZ R=>?_;refine R.aZ ?_
 replace R:=R.xj (m:=mt) (e:=⟨0,0,1⟩) (.head _)
 refine PM [] 0 R (.refl _) rfl rfl rfl λZ R=>?_;refine(B n (by lia) 0 (.inl rfl)).call ⟨0,0,1⟩ R rfl λZ R=>?_;refine A.w1 ⟨1,0,1⟩ R rfl λZ R=>?_;refine LG bM ⟨1,0,1⟩ R (bR) rfl λZ R=>?_;refine LB jF mt ⟨0,0,1⟩ ⟨0,0,1⟩ ⟨0,0,1⟩ R l7 ⟨rfl,rfl,rfl,rfl,rfl⟩ rfl (by decide) rfl (λY=>rfl) rfl λZ R=>?_;refine xe R rfl λZ R=>?_
 replace R:=R.ji
 rcases id hw with rfl|rfl|rfl
 all_goals exact bh hw R rfl λZ R=>k _ R.w
theorem Es(A:ay F W ha a)(B:cz F W b):xg 108 (F+3) (2*W+14) (.af [.str "dowhile",b,a,.bool true]):=by
 refine vG λn hn w hw g P Z S Q R k=>?_;refine aB ⟨0,0,1⟩ R λZ mt R=>?_;refine Lw R rfl λZ R=>?_;refine R.aZ ?_
 replace R:=R.xj (m:=mt) (e:=⟨0,0,1⟩) (.head _)
 refine PM [] 0 R (.refl _) rfl rfl rfl λZ R=>?_;refine(B n (by lia) 0 (.inl rfl)).call ⟨0,0,1⟩ R rfl λZ R=>?_;refine A.w1 ⟨1,0,1⟩ R rfl λZ R=>?_;refine LG bM ⟨1,0,1⟩ R (bR) rfl λZ R=>?_;refine LB bw mt ⟨0,0,1⟩ ⟨0,0,1⟩ ⟨0,0,1⟩ R bz ⟨rfl,rfl,rfl,rfl,rfl⟩ rfl (by decide) rfl (λY=>rfl) rfl λZ R=>?_;refine xe R rfl λZ R=>?_
 replace R:=R.ji
 rcases id hw with rfl|rfl|rfl
 all_goals exact bh hw R rfl λZ R=>k _ R.w
theorem Pb(B:cz F W (.af fV))(C:ay F W hc c):xg 109 (F+3) (3*W+32) (.af [.str "cfor",.str l,.none,.none,c,.af fV]):=by
 refine vG λn hn w hw g P Z S Q R k=>?_;obtain⟨rc,rfl⟩:=C.af;refine aB ⟨0,1,1⟩ R λZ mt R=>?_;refine aB ⟨0,1,1⟩ R λZ md R=>?_;refine Lw R rfl λZ R=>?_;refine H7 R rfl λZ R=>?_
 replace R:Run g _ _ _ _ S Z _ _ _ ⟨0,1,1⟩ ⟨0,1,1⟩:=R
 refine R.aZ ?_
 replace R:=R.xj (m:=mt) (e:=⟨0,1,1⟩) (.tail _ (.head _))
 refine PM [(md,⟨0,1,1⟩)] 0 R (.swap _ _ _) rfl rfl rfl λZ R=>?_;refine rb R rfl λZ m1 m2 m3 R=>?_;refine(B n (by lia) 0 (.inl rfl)).calls (o':=⟨0,1,1⟩) R rfl (by decide) (by decide) (by lia) (by lia) (λl q=>by cases List.mem_singleton.mp q;exact Int.le_refl _) λZ R=>?_;refine nN R ⟨rfl,rfl⟩ rfl λZ R=>?_;refine(C.c (.inl rfl) (by lia)).call ⟨0,1,1⟩ R rfl λZ R=>?_;refine LG bM ⟨0,1,1⟩ R (bR) rfl λZ R=>?_;refine LB bH mt ⟨0,1,1⟩ ⟨0,1,1⟩ ⟨0,1,1⟩ R bL ⟨rfl,rfl,rfl,rfl,rfl⟩ rfl (by decide) rfl (λz=>by cases z) rfl λZ R=>?_;refine jk R rfl λZ R=>?_;refine R.aZ ?_;refine PM [] 0 R (.refl _) rfl rfl rfl λZ R=>?_;refine vS R rfl λZ R=>?_;refine xe R rfl λZ R=>?_
 replace R:=R.ji
 rcases id hw with rfl|rfl|rfl
 all_goals exact bh hw R rfl λZ R=>k _ R.w
theorem Pc(A:ay F W ha a)(B:cz F W (.af fV))(C:ay F W hc c):xg 109 (F+3) (3*W+32) (.af [.str "cfor",.str l,.none,a,c,.af fV]):=by
 refine vG λn hn w hw g P Z S Q R k=>?_;obtain⟨ra,rfl⟩:=A.af;obtain⟨rc,rfl⟩:=C.af;refine aB ⟨0,1,1⟩ R λZ mt R=>?_;refine aB ⟨0,1,1⟩ R λZ md R=>?_;refine Lw R rfl λZ R=>?_;refine H7 R rfl λZ R=>?_
 replace R:Run g _ _ _ _ S Z _ _ _ ⟨0,1,1⟩ ⟨0,1,1⟩:=R
 refine R.aZ ?_
 replace R:=R.xj (m:=mt) (e:=⟨0,1,1⟩) (.tail _ (.head _))
 refine PM [(md,⟨0,1,1⟩)] 0 R (.swap _ _ _) rfl rfl rfl λZ R=>?_;refine A.w1 ⟨1,1,1⟩ R rfl λZ R=>?_;refine LJ bw md ⟨0,1,1⟩ R bz rfl (.head _) rfl λZ R=>?_;refine rb R rfl λZ m1 m2 m3 R=>?_;refine(B n (by lia) 0 (.inl rfl)).calls (o':=⟨0,1,1⟩) R rfl (by decide) (by decide) (by lia) (by lia) (λl q=>by cases List.mem_singleton.mp q;exact Int.le_refl _) λZ R=>?_;refine nN R ⟨rfl,rfl⟩ rfl λZ R=>?_;refine(C.c (.inl rfl) (by lia)).call ⟨0,1,1⟩ R rfl λZ R=>?_;refine LG bM ⟨0,1,1⟩ R (bR) rfl λZ R=>?_;refine LB bH mt ⟨0,1,1⟩ ⟨0,1,1⟩ ⟨0,1,1⟩ R bL ⟨rfl,rfl,rfl,rfl,rfl⟩ rfl (by decide) rfl (λz=>by cases z) rfl λZ R=>?_;refine jk R rfl λZ R=>?_;refine R.aZ ?_;refine PM [] 0 R (.refl _) rfl rfl rfl λZ R=>?_;refine vS R rfl λZ R=>?_;refine xe R rfl λZ R=>?_
 replace R:=R.ji
 rcases id hw with rfl|rfl|rfl
 all_goals exact bh hw R rfl λZ R=>k _ R.w
theorem xm(A:ay F W ha a)(B:cz F W (.af fV)):xg 110 (F+3) (2*W+36) (.af [.str "foreach",.str l,.af [.str "mys",x],a,.af fV]):=by
 refine vG λn hn w hw g P Z S Q R k=>?_;obtain⟨ra,rfl⟩:=A.af;refine aB ⟨1,0,1⟩ R λZ mt R=>?_;refine aB ⟨1,0,1⟩ R λZ md R=>?_;refine A.w2 ⟨1,0,0⟩ R rfl λZ R=>?_;refine LG D0 ⟨1,0,0⟩ R (Lh) rfl λZ R=>?_;refine Lw R rfl λZ R=>?_;refine R.aZ ?_
 replace R:=R.xj (m:=mt) (e:=⟨1,0,1⟩) (.tail _ (.head _))
 refine PM [(md,⟨1,0,1⟩)] 1 R (.swap _ _ _) rfl rfl rfl λZ R=>?_;refine LJ D4 md ⟨2,0,1⟩ R Ls rfl (.head _) rfl λZ R=>?_;refine R.aZ ?_;refine H7 R rfl λZ R=>?_
 replace R:Run g _ _ _ _ S Z _ _ _ ⟨2,1,1⟩ ⟨2,1,1⟩:=R
 refine LG (yo x) ⟨1,1,1⟩ R (H6 x) rfl λZ R=>?_;refine rb R rfl λZ m1 m2 m3 R=>?_;refine(B n (by lia) 0 (.inl rfl)).calls (o':=⟨1,1,1⟩) R rfl (by decide) (by decide) (by lia) (by lia) (λl q=>by cases List.mem_singleton.mp q;exact Int.le_refl _) λZ R=>?_;refine nN R ⟨rfl,rfl⟩ rfl λZ R=>?_;refine LO iX ⟨1,0,1⟩ R kB rfl rfl λZ R=>?_;refine LN bM [] R bR ⟨rfl,rfl,rfl,rfl,rfl,rfl,rfl,rfl⟩ rfl (λm h=>by cases h) λZ R=>?_;refine LB bH mt ⟨1,0,1⟩ ⟨1,1,1⟩ ⟨1,1,1⟩ R bL ⟨rfl,rfl,rfl,rfl,rfl⟩ rfl (by decide) rfl (λz=>by cases z) rfl λZ R=>?_;refine jk R rfl λZ R=>?_;refine vS R rfl λZ R=>?_;refine LG bM ⟨1,0,1⟩ R (bR) rfl λZ R=>?_;refine PM [] 1 R (.refl _) rfl (by show S.re.h+2-1=S.re.h+1;lia) rfl λZ R=>?_;refine xe R rfl λZ R=>?_;refine LG gJ ⟨0,0,0⟩ R (iG) rfl λZ R=>?_
 replace R:=R.ji
 rcases id hw with rfl|rfl|rfl
 all_goals exact bh hw R rfl λZ R=>k _ R.w
theorem rZ(A:ay F W ha a)(B:cz F W (.af fV)):xg 110 (F+3) (2*W+36) (.af [.str "foreach",.str l,.af [.str "globs",x],a,.af fV]):=by
 refine vG λn hn w hw g P Z S Q R k=>?_;obtain⟨ra,rfl⟩:=A.af;refine aB ⟨1,0,1⟩ R λZ mt R=>?_;refine aB ⟨1,0,1⟩ R λZ md R=>?_;refine A.w2 ⟨1,0,0⟩ R rfl λZ R=>?_;refine LG D0 ⟨1,0,0⟩ R (Lh) rfl λZ R=>?_;refine Lw R rfl λZ R=>?_;refine R.aZ ?_
 replace R:=R.xj (m:=mt) (e:=⟨1,0,1⟩) (.tail _ (.head _))
 refine PM [(md,⟨1,0,1⟩)] 1 R (.swap _ _ _) rfl rfl rfl λZ R=>?_;refine LJ D4 md ⟨2,0,1⟩ R Ls rfl (.head _) rfl λZ R=>?_;refine R.aZ ?_;refine H7 R rfl λZ R=>?_
 replace R:Run g _ _ _ _ S Z _ _ _ ⟨2,1,1⟩ ⟨2,1,1⟩:=R
 refine LG (vz x) ⟨1,1,1⟩ R (Ei x) rfl λZ R=>?_;refine rb R rfl λZ m1 m2 m3 R=>?_;refine(B n (by lia) 0 (.inl rfl)).calls (o':=⟨1,1,1⟩) R rfl (by decide) (by decide) (by lia) (by lia) (λl q=>by cases List.mem_singleton.mp q;exact Int.le_refl _) λZ R=>?_;refine nN R ⟨rfl,rfl⟩ rfl λZ R=>?_;refine LO iX ⟨1,0,1⟩ R kB rfl rfl λZ R=>?_;refine LN bM [] R bR ⟨rfl,rfl,rfl,rfl,rfl,rfl,rfl,rfl⟩ rfl (λm h=>by cases h) λZ R=>?_;refine LB bH mt ⟨1,0,1⟩ ⟨1,1,1⟩ ⟨1,1,1⟩ R bL ⟨rfl,rfl,rfl,rfl,rfl⟩ rfl (by decide) rfl (λz=>by cases z) rfl λZ R=>?_;refine jk R rfl λZ R=>?_;refine vS R rfl λZ R=>?_;refine LG bM ⟨1,0,1⟩ R (bR) rfl λZ R=>?_;refine PM [] 1 R (.refl _) rfl (by show S.re.h+2-1=S.re.h+1;lia) rfl λZ R=>?_;refine xe R rfl λZ R=>?_;refine LG gJ ⟨0,0,0⟩ R (iG) rfl λZ R=>?_
 replace R:=R.ji
 rcases id hw with rfl|rfl|rfl
 all_goals exact bh hw R rfl λZ R=>k _ R.w
theorem T4(B:cz F W b):xg 111 (F+3) (W+22) (.af [.str "bare",.str l,b]):=by
 refine vG λn hn w hw g P Z S Q R k=>?_;rcases id hw with rfl|rfl|rfl
 ·refine aB ⟨0,0,0⟩ R λZ mb R=>?_
  refine rb R rfl λZ m1 m2 m3 R=>?_;refine(B n (by lia) 0 (.inl rfl)).calls (o':=⟨0,0,0⟩) R rfl (by decide) (by decide) (by lia) (by lia) (λl q=>by cases List.mem_singleton.mp q;exact Int.le_refl _) λZ R=>?_;refine LG jG ⟨0,0,0⟩ R (mV) rfl λZ R=>?_;refine LE bH [mb] ⟨0,0,0⟩ ⟨0,0,0⟩ R (bL) rfl rfl (cy (.tail _ (.tail _ (.head _)))) rfl λZ R=>?_;refine nN R ⟨rfl,rfl⟩ rfl λZ R=>?_;refine bh (.inl rfl) R rfl λZ R=>?_
  replace R:Run g _ _ _ _ S Z _ _ _ ⟨0,0,0⟩ ⟨0,0,0⟩:=R
  refine LE bH [mb] ⟨0,0,0⟩ ⟨0,0,0⟩ R (bL) rfl rfl (cy (.tail _ (.head _))) rfl λZ R=>?_;refine jk R rfl λZ R=>?_;refine bh (.inl rfl) R rfl λZ R=>?_
  replace R:Run g _ _ _ _ S Z _ _ _ ⟨0,0,0⟩ ⟨0,0,0⟩:=R
  refine R.aZ ?_;refine PM [] 0 R (.refl _) rfl rfl rfl λZ R=>?_;exact k _ R.w
 all_goals
  refine aB ⟨1,0,0⟩ R λZ mb R=>?_;refine rb R rfl λZ m1 m2 m3 R=>?_;refine(B n (by lia) _ hw).calls (o':=⟨1,0,0⟩) R rfl (by decide) (by decide) (by lia) (by lia) (λl q=>by cases List.mem_singleton.mp q;exact Int.le_refl _) λZ R=>?_;refine LG jG ⟨1,0,0⟩ R (mV) rfl λZ R=>?_;refine LE bH [mb] ⟨0,0,0⟩ ⟨1,0,0⟩ R (bL) rfl rfl (cy (.tail _ (.tail _ (.head _)))) rfl λZ R=>?_;refine nN R ⟨rfl,rfl⟩ rfl λZ R=>?_;refine bh hw R rfl λZ R=>?_
  replace R:Run g _ _ _ _ S Z _ _ _ ⟨1,0,0⟩ ⟨1,0,0⟩:=R
  refine LE bH [mb] ⟨0,0,0⟩ ⟨1,0,0⟩ R (bL) rfl rfl (cy (.tail _ (.head _))) rfl λZ R=>?_;refine jk R rfl λZ R=>?_;refine bh hw R rfl λZ R=>?_
  replace R:Run g _ _ _ _ S Z _ _ _ ⟨1,0,0⟩ ⟨1,0,0⟩:=R
  refine R.aZ ?_;refine PM [] 1 R (.refl _) rfl rfl rfl λZ R=>?_;exact k _ R.w
end
noncomputable def MC:GS:=⟨[],[],λY=>⟨0,0,0⟩,λY=>⟨0,0,0⟩,⟨0,0,0⟩,[],[]⟩
section
variable {n:Nat}{Q:V->H->Prop}{Z:H}{is ls:Bool}
theorem pW(hn:1<=n)(k:∀Z',Z'.length=Z.length+5->(∀i,i<Z.length->Z'[i]?=Z[i]?)->(∀d,GI Z' Z.length ⟨is,ls,d,[]⟩ MC)->Q .none Z'):aq ao aj n 133 [.ref Z.length,gD,.bool is,.bool ls] Q (Z++[.inst "Gen" []]):=by
 obtain⟨n,rfl⟩:=e1 n;have sA:∀{τ:H} {kvs:List (String×V)} {nm:String} {v:V} {p:H->Prop},kvs.length<900->p (Z++ .inst "Gen" (dS kvs nm v)::τ)->aT (ie (Z++ .inst "Gen" kvs::τ) (.ref Z.length) nm v) p:=λ{τ kvs nm v p} h1 h2=>by
  refine xZ (c:="Gen") (kvs:=kvs) (by simp) h1 ?_;have:(Z++ .inst "Gen" kvs::τ).set Z.length (.inst "Gen" (dS kvs nm v))=Z++ .inst "Gen" (dS kvs nm v)::τ:=by
   rw[List.set_append_right _ _ (Nat.le_refl _)];simp
  rw[this];exact h2
 have sL:∀{τ:H} {kvs:List (String×V)} {nm:String} {p:H->Prop},kvs.length<900->p (Z++ .inst "Gen" (dS kvs nm (.ref (Z.length+(τ.length+1))))::(τ++[.list []]))->aT (ie ((Z++ .inst "Gen" kvs::τ)++[.list []]) (.ref Z.length) nm (.ref (Z++ .inst "Gen" kvs::τ).length)) p:=λ{τ kvs nm p} h1 h2=>by
  have e1:(Z++ .inst "Gen" kvs::τ)++[.list []]=Z++ .inst "Gen" kvs::(τ++[.list []]):=by simp
  have e2:(Z++MO.inst "Gen" kvs::τ).length=Z.length+(τ.length+1):=by simp
  rw[e1,e2];exact sA h1 h2
 refine sA (τ:=[]) (by show 0<900;lia) ?_;refine sA (τ:=[]) (by show 1<900;lia) ?_;refine sA (τ:=[]) (by show 2<900;lia) ?_;refine sL (τ:=[]) (by show 3<900;lia) ?_;refine sL (τ:=[.list []]) (by show 4<900;lia) ?_;refine sA (τ:=[.list [],.list []]) (by show 5<900;lia) ?_;refine sA (τ:=[.list [],.list []]) (by show 6<900;lia) ?_;refine sA (τ:=[.list [],.list []]) (by show 7<900;lia) ?_;refine sL (τ:=[.list [],.list []]) (by show 8<900;lia) ?_;refine sL (τ:=[.list [],.list [],.list []]) (by show 9<900;lia) ?_;have g:∀{x:MO} {τ:H} {i:Nat},(Z++x::τ)[Z.length+(i+1)]?=τ[i]? :=λ{x τ i}=>by
  rw[List.getElem?_append_right (Nat.le_add_right _ _),Nat.add_sub_cancel_left];rfl
 refine k _ (by simp) (λi hi=>List.getElem?_append_left hi) λd=>⟨?_,g (i:=0),g (i:=1),g (i:=2),g (i:=3),⟨?_,?_,?_,?_,?_,rfl⟩⟩
 ·rw[List.getElem?_append_right (Nat.le_refl _),Nat.sub_self];rfl
 ·intro m p h;cases h
 ·intro i r h;cases h
 ·intro l h;cases h
 ·intro v h;cases h
 ·intro x h;cases h
theorem pX(gi:GI Z' g P MC)(hF:4*F<=700)(fd:F<=P.d)(hW:Wt<16000000):Run g P F Wt Z' MC Z' [] [] 0 ⟨0,0,0⟩ ⟨0,0,0⟩:=by
 refine⟨MC,⟨⟨Int.le_refl _,Int.le_refl _,Int.le_refl _⟩,(λl h=>by cases h),?_,fd,?_,gi,Nat.le_refl _,λY Y Y=>rfl,Nat.le_refl _,rfl,Nat.le_refl _,λY Y=>⟨rfl,rfl⟩,λm a b=>absurd b (Nat.not_lt_zero _),(λm e q=>by cases q),List.nodup_nil⟩,rfl,rfl⟩
 ·show(0:Int)+4*(F:Int)<=700;lia
 ·show 0+0+0+0+Wt<16000000;lia
end
theorem IA{Q:Fl->List V->H->Prop}{a:Nat}{xs:List V}(he:Ev cf ρ Z e (.ref a))(hx:Z[a]?=some (.list xs))(h:FL cf b single ts xs ρ (fu cf r Q) (Z.set a .dead)):WS cf (.for single ts (.r9 e) b::r) ρ Q Z:=by
 constructor;refine he.to _ ?_;have:s9 Z (.ref a)=some (.aC xs,Z.set a .dead):=qd hx;exact bk this (bk (d8 xs) h.to)
noncomputable def Pd:List S:=[.cO 3 (.call (.aA 4) [(.aa 2),(.comp (.sub (.attr (.aa 0) "marks") (.aa 4)) true [4] (.call (.aA 11) [(.aa 2)]) none)]),.expr (.append (.aa 1) (.aa 3))]
noncomputable def L5:List S:=[.ret (some (.r9 (.aa 1)))]
noncomputable def CH(marks:List Int)(ms:List Nat):List Int:=ms.map λm=>marks.getD m 0
noncomputable def IB(marks:List Int)(r:bN×List Nat):V:=r.1.row (CH marks r.2)
section
variable {n g a:Nat}{marks:List Int}{kvs:List (String×V)}{Q:Fl->List V->H->Prop}
theorem T5(hn:7<=n)(hg:sY kvs "marks"=some (.ref (g+2)))(ha:g+5<=a)(hml:marks.length<lim):∀(rs:List (bN×List Nat)) (dn:List V) (Z:H) (x2 x3 x4:V),Z[g]?=some (.inst "Gen" kvs)->Z[g+2]?=some (.list (marks.map V.int))->Z[a]?=some (.list dn)->
  dn.length+rs.length<lim->(∀r∈rs,aF r.1/\r.2.length=r.1.nj/\∀m∈r.2,m<marks.length)->
  (∀(Z':H) (x2 x3 x4:V),Z'[a]?=some (.list (dn++rs.map (IB marks)))->Z.length<=Z'.length->(∀i,i<Z.length->i≠a->Z'[i]?=Z[i]?)->WS (aq ao aj n) L5 [.ref g,.ref a,x2,x3,x4] Q Z')->
  FL (aq ao aj n) Pd true [2] (rs.map k7) [.ref g,.ref a,x2,x3,x4] (fu (aq ao aj n) L5 Q) Z:=by
 intro rs;induction rs with
 |nil=>
  intro dn Z x2 x3 x4 h1 h2 h3 hl hr k;exact j9 (k Z x2 x3 x4 (by simpa using h3) (Nat.le_refl _) λY Y Y=>rfl)
 |cons r rs ih=>
  intro dn Z x2 x3 x4 h1 h2 h3 hl hr k;obtain⟨K,js⟩:=r;obtain⟨hK,hj,hm⟩:=hr (K,js) (by simp);refine br ?_;show WS _ _ [.ref g,.ref a,k7 (K,js),x3,x4] _ _;have hjs:(js.map λ(m:Nat)=>(m:Int)).length=K.nj:=by simp only[List.length_map];exact hj
  have e2:∀{x:V},Ev (aq ao aj n) [.ref g,.ref a,k7 (K,js),x3,x] Z (.aa 2) (k7 (K,js)):=λ{x}=>ak rfl rfl;have e11:Ev (aq ao aj n) [.ref g,.ref a,k7 (K,js),x3,x4] Z (.call (.aA 11) [.aa 2]) (.aC ((js.map λ(m:Nat)=>(m:Int)).map V.int)):=
   fC (ai e2 az) (j:=11) rfl λQ q=>hK.jm _ hjs n (by lia) Q Z q
  have ec:Ev (aq ao aj n) [.ref g,.ref a,k7 (K,js),x3,x4] Z (.comp (.sub (.attr (.aa 0) "marks") (.aa 4)) true [4] (.call (.aA 11) [(.aa 2)]) none) (.aC ((CH marks js).map V.int)):=by
   have:=zX (elt:=.sub (.attr (.aa 0) "marks") (.aa 4)) (i:=4) (f:=λv=>match v with|.int i=>.int (marks.getD i.toNat 0)|v=>v) e11 (d8 _) (by simp only[List.length_map];rw[hj];have:=hK.V6;unfold lim;lia) (λv hv=>by
    obtain⟨i,hi,rfl⟩:=List.mem_map.mp hv;obtain⟨m,V8,rfl⟩:=List.mem_map.mp hi;have qS:=hm m V8;refine aE (x:=.ref (g+2)) (y:=.int (m:Int)) (cg (ak (v:=.ref g) rfl rfl) ((eK h1).trans hg)) (ak rfl rfl) ?_;have:cH Z (.ref (g+2))=.aC (marks.map V.int):=jn h2;rw[this,fK];refine jg ?_ (by unfold lim at hml;lia);rw[List.getElem?_map,List.getElem?_eq_getElem qS];simp[List.getD,List.getElem?_eq_getElem qS])
   have e:((js.map λ(m:Nat)=>(m:Int)).map V.int).map (λv=>match v with|.int i=>.int (marks.getD i.toNat 0)|v=>v)=(CH marks js).map V.int:=by
    unfold CH;simp[List.map_map,Function.comp_def]
   rw[e]at this;exact this
  refine Ak (aX (v:=.fn 4) rfl) (ai e2 (ai ec az)) ?_;refine hK.wj _ (CH marks js) hjs (by unfold CH;rw[List.length_map];exact hj) n (by lia) _ _ λc=>?_;have al:a<Z.length:=(List.getElem?_eq_some_iff.mp h3).1;have gl:g+2<Z.length:=(List.getElem?_eq_some_iff.mp h2).1;have f1:∀i,i<Z.length->(Z++[c])[i]?=Z[i]? :=λi hi=>List.getElem?_append_left hi;refine(qC (a:=a) (xs:=dn) (ak (v:=.ref a) rfl rfl) (by rw[f1 a al];exact h3) (by simp at hl;lia) (ak (v:=IB marks (K,js)) rfl rfl) (cY ?_):WS _ _ [.ref g,.ref a,k7 (K,js),IB marks (K,js),x4] _ _).to;have f2:∀i,i<Z.length->i≠a->((Z++[c]).set a (.list (dn++[IB marks (K,js)])))[i]?=Z[i]? :=λi hi q=>by rw[cF (λz=>q z.symm)];exact f1 i hi
  refine ih (dn++[IB marks (K,js)]) _ _ _ _ (by rw[f2 g (by lia) (by lia)];exact h1) (by rw[f2 (g+2) gl (by lia)];exact h2) (bW (by rw[f1 a al];exact h3)) (by simp at hl ⊢;lia) (λr hr'=>hr r (List.mem_cons_of_mem _ hr')) λZ' y2 y3 y4 q1 q2 q3=>?_;refine k Z' y2 y3 y4 (by rw[q1];simp) (by simp at q2;lia) λi hi q=>?_;rw[q3 i (by simp;lia) q,f2 i hi q]
end
section
variable {n g:Nat}{P:GP}{S:GS}{Z:H}{Q:V->H->Prop}
theorem Et(gi:GI Z g P S)(hr:S.rows.length<lim)(hm:S.marks.length<lim)(hn:8<=n)(k:∀Z',Z.length<=Z'.length->(∀i,i<Z.length->i≠g+1->Z'[i]?=Z[i]?)->Q (.aC (S.rows.map (IB S.marks))) Z'):aq ao aj n 10 [.ref g] Q Z:=by
 obtain⟨n,rfl⟩:=e1 n;have Ov:=gi.lt;refine bG (f:=gK) rfl rfl ?_;refine sO az ?_;show WS _ _ [.ref g,.ref Z.length,.ah,.ah,.ah] _ _;have f1:∀i,i<Z.length->(Z++[MO.list []])[i]?=Z[i]? :=λi hi=>List.getElem?_append_left hi;have f2:∀i,i<Z.length->i≠g+1->((Z++[MO.list []]).set (g+1) .dead)[i]?=Z[i]? :=λi hi q=>by rw[cF (λz=>q z.symm)];exact f1 i hi
 refine IA (a:=g+1) (xs:=S.rows.map k7) (cg (ak (v:=.ref g) rfl rfl) ((eK ((f1 g (by lia)).trans gi.inst)).trans rfl)) (by rw[f1 (g+1) (by lia)];exact gi.rows) ?_;refine T5 (a:=Z.length) (kvs:=gI gD g P S.re) (marks:=S.marks) (by lia) rfl (by lia) hm S.rows [] _ .ah .ah .ah (by rw[f2 g (by lia) (by lia)];exact gi.inst) (by rw[f2 (g+2) (by lia) (by lia)];exact gi.marks) ?_ (by simpa using hr) ?_ λZ' x2 x3 x4 q1 q2 q3=>?_
 ·rw[cF (by lia)];exact dD
 ·intro r hrr
  obtain⟨i,hi⟩:=List.getElem?_of_mem hrr;obtain⟨a1,a2,a3,a4,a5,a6⟩:=gi.wf.row i r hi;exact⟨a1,a2,λm hm=>(a5 m hm).1⟩
 ·have ql:Z.length+1<=Z'.length:=by simpa using q2
  refine yc (a:=Z.length) (ak (v:=.ref Z.length) rfl rfl) q1 ?_;refine k _ (by rw[List.length_set];lia) λi hi q=>?_;rw[cF (by lia),q3 i (by simp;lia) (by lia),f2 i hi q]
theorem Pe(wf:WF P S)(pl:∀m,m<S.marks.length->placed S m){K:bN}(hK:aF K)(nj:K.nj=0)(go:K.go=false)(hl:K.word="return0"/\S.cur=⟨0,0,0⟩\/(K.word="return1"\/K.word="return2")/\S.cur=⟨1,0,0⟩):Cert ((S.rows++[(K,[])]).map λ(r:bN×List Nat)=>(r.1,CH S.marks r.2)) S.D:=by
 have ll:((S.rows++[(K,[])]).map λ(r:bN×List Nat)=>(r.1,CH S.marks r.2)).length=S.rows.length+1:=by simp
 refine⟨?_,wf.d0,⟨K,by simp[CH],?_⟩⟩
 ·intro i K' js hi
  rw[List.getElem?_map]at hi;cases hq:(S.rows++[(K,[])])[i]? with
  |none=>rw[hq]at hi;cases hi
  |some r=>
   rw[hq]at hi;obtain⟨e1,e2⟩:r.1=K'/\CH S.marks r.2=js:=by simpa using hi
   subst e1;subst e2;rcases Nat.lt_or_ge i S.rows.length with q|q
   ·rw[List.getElem?_append_left q]at hq
    obtain⟨a1,a2,a3,a4,a5,a6⟩:=wf.row i r hq;refine⟨a1,by unfold CH;rw[List.length_map];exact a2,a3,a4,λp hp=>?_,λhg=>⟨by rw[ll];lia,a6 hg⟩⟩;obtain⟨m,hm,rfl⟩:=List.mem_map.mp hp;obtain⟨b1,b2⟩:=a5 m hm;obtain⟨z,c1,c2,c3⟩:=pl m b1;exact⟨z,by rw[List.getD_eq_getElem?_getD,c1];rfl,by rw[ll];lia,c3.trans b2⟩
   ·have UC:i=S.rows.length:=by
     have:=(List.getElem?_eq_some_iff.mp hq).1;simp at this;lia
    subst UC;rw[List.getElem?_append_right (Nat.le_refl _),Nat.sub_self]at hq;have e:r=(K,[]):=by simpa using hq.symm
    subst e;have hc:S.D S.rows.length=S.cur:=rfl;refine⟨hK,by simp[CH,nj],?_,?_,λp hp=>by simp[CH]at hp,λhg=>by rw[go]at hg;cases hg⟩
    ·rw[hc]
     rcases hl with⟨_,e⟩|⟨_,e⟩<;>rw[e]<;>exact⟨by decide,by decide,by decide⟩
    ·rw[hc]
     rcases hl with⟨e',e⟩|⟨e',e⟩
     ·rw[e,hK.Ot e'];decide
     ·rw[e,hK.KU e'];decide
 ·rw[ll]
  rcases hl with⟨e',e⟩|⟨e',e⟩
  ·exact .inl ⟨e',e⟩
  ·exact .inr ⟨e',e⟩
end
section
variable {n:Nat}{Z:H}{Q:V->H->Prop}
theorem L6{v1 v2 v3 v4 v5:V}(o1:B3 v1=true)(o2:B3 v2=true)(o3:B3 v3=true)(o4:B3 v4=true)(o5:B3 v5=true)(hn:1<=n)(k:Q (.obj "OpsCode" [("rows",v1),("name",v2),("pad_size",v3),("captures",v4),("subs",v5)]) (Z++[.dead])):
  aq ao aj n 132 [.ref Z.length,v1,v2,v3,v4,v5] (λr Z'=>EC r (aT (IZ true Z.length Z') λr=>Q r.1 r.2)) (Z++[.inst "OpsCode" []]):=by
 obtain⟨n,rfl⟩:=e1 n;have sA:∀{kvs:List (String×V)} {nm:String} {v:V} {p:H->Prop},kvs.length<900->p (Z++[.inst "OpsCode" (dS kvs nm v)])->aT (ie (Z++[.inst "OpsCode" kvs]) (.ref Z.length) nm v) p:=λ{kvs nm v p} h1 h2=>by
  refine xZ (c:="OpsCode") (kvs:=kvs) dD h1 ?_;rw[gF];exact h2
 have st:∀{kvs:List (String×V)} {nm:String} {v:V} {j:Nat} {ρ:List V} {r:List S} {Q':Fl->List V->H->Prop},kvs.length<900->ρ[0]?=some (.ref Z.length)->ρ[j]?=some v->B3 v=true->WS (aq ao aj n) r ρ Q' (Z++[.inst "OpsCode" (dS kvs nm v)])->
   WS (aq ao aj n) (.eW (.aa 0) nm (.aa j)::r) ρ Q' (Z++[.inst "OpsCode" kvs]):=λ{kvs nm v j ρ r Q'} h1 h2 h3 h4 h5=>by
  exact SY ((ak h3 h4).to _ ((ak (v:=.ref Z.length) h2 rfl).to _ (sA h1 h5.to)))
 refine bG (f:=kL) rfl rfl ?_;refine st (by show 0<900;lia) rfl rfl o1 ?_;refine st (by show 1<900;lia) rfl rfl o2 ?_;refine st (by show 2<900;lia) rfl rfl o3 ?_;refine st (by show 3<900;lia) rfl rfl o4 ?_;refine st (by show 4<900;lia) rfl rfl o5 ?_;refine lY ?_;refine bk (a:=(.obj "OpsCode" [("rows",v1),("name",v2),("pad_size",v3),("captures",v4),("subs",v5)],Z++[.dead])) ?_ k;rw[xx dD,gF];rfl
theorem iJ{o r:Off}{K:bN}(R:Run g P F Wt bA MC Z [] [] W o r)(hK:aF K)(nj:K.nj=0)(go:K.go=false)(hl:K.word="return0"/\o=⟨0,0,0⟩\/(K.word="return1"\/K.word="return2")/\o=⟨1,0,0⟩)
  (k:∀Z' S',n6 g P F Wt bA MC Z' S' [] [] (W+1)->(∃D,Cert (S'.rows.map λ(r:bN×List Nat)=>(r.1,CH S'.marks r.2)) D)->Q .none Z')(hw:autoParam (W+1<=Wt/\6<=n) bu):aq ao aj n 7 [.ref g,K.row []] Q Z:=by
 obtain⟨hw,hn⟩:=hw;obtain⟨S,R,c1,c2⟩:=R;have hc:K.word="return0"/\S.cur=⟨0,0,0⟩\/(K.word="return1"\/K.word="return2")/\S.cur=⟨1,0,0⟩:=by
  rcases hl with⟨a,rfl⟩|⟨a,rfl⟩
  ·exact .inl ⟨a,c1⟩
  ·exact .inr ⟨a,c1⟩
 have pl:∀m,m<S.marks.length->placed S m:=λm hm=>by
  rcases R.new m (Nat.zero_le _) hm with⟨e,h⟩|h
  ·cases h
  ·exact h
 have ct:=Pe R.gi.wf pl hK nj go hc;have hnn:S.cur.nn/\K.t<=S.cur.h:=by
  rcases hc with⟨a,e⟩|⟨a,e⟩
  ·rw[e,hK.Ot a];exact⟨⟨by decide,by decide,by decide⟩,by decide⟩
  ·rw[e,hK.KU a];exact⟨⟨by decide,by decide,by decide⟩,by decide⟩
 refine pJ (K:=K) (js:=[]) R hK nj.symm hnn.1 hnn.2 (λm h=>by cases h) S.cur (λz=>by rw[go]at z;cases z) hw hn λZ' R'=>k Z' _ R' ⟨S.D,ct⟩
end
theorem l9{S2:GS}{D:Nat->f5}{nm pd cp:V}{e2 e3 e4:X}(R:n6 bA.length P F Wt cD MC Z2 S2 [] [] W)(l1:cD.length=bA.length+5)(f1:∀i,i<bA.length->cD[i]?=bA[i]?)
  (ct:Cert (S2.rows.map λ(r:bN×List Nat)=>(r.1,CH S2.marks r.2)) D)(hw:W<3900000)(hn:8<=n)(h2:∀Z,Ev (aq ao aj n) ρ Z e2 nm)(h3:∀Z,Ev (aq ao aj n) ρ Z e3 pd)(h4:∀Z,Ev (aq ao aj n) ρ Z e4 cp)(o2:B3 nm=true)(o3:B3 pd=true)(o4:B3 cp=true)
  (hg:ρ[j]?=some (.ref bA.length))
  (k:∀Z' c,bA.length<=Z'.length->(∀i,i<bA.length->Z'[i]?=bA[i]?)->gk (P.d+1) c->Q c Z'):b8 (aq ao aj n) aj (.new true "OpsCode" 132 [(.call (.aA 10) [(.aa j)]),e2,e3,e4,(.r9 (.attr (.aa j) "subs"))]) ρ Q Z2:=by
 have gi:=R.gi;have Ov:=gi.lt;have b1:=R.bd;have b2:=R.len;have b3:MC.len=0:=rfl;have r0:=DU (S:=S2) (N:=3900000) (Nat.lt_of_le_of_lt (Nat.zero_add W▸b2) (by assumption));have r39:=r0.1;have small:S2.rows.length<lim/\S2.marks.length<lim/\S2.subs.length<lim:=⟨Nat.lt_trans r39 (by decide),Nat.lt_trans r0.2.1 (by decide),Nat.lt_trans r0.2.2.1 (by decide)⟩;refine e9 (j:=10) rfl ?_;refine(ai (ak hg rfl) az).to _ ?_;refine Et gi small.1 small.2.1 (by lia) λkY l3 f3=>?_;refine(h2 kY).to _ ?_;refine(h3 kY).to _ ?_;refine(h4 kY).to _ ?_;have i3:kY[bA.length]?=some (.inst "Gen" (gI gD bA.length P S2.re)):=by rw[f3 _ (by lia) (by lia)];exact gi.inst
 have s3:kY[bA.length+4]?=some (.list S2.subs):=by rw[f3 _ (by lia) (by lia)];exact gi.subs
 refine FO ((cg (z:=.ref (bA.length+4)) (ak hg rfl) ((eK i3).trans rfl)).to _ ?_);refine bk (a:=(.aC S2.subs,kY.set (bA.length+4) .dead)) (qd s3) ?_;refine L6 rfl o2 o3 o4 rfl (by lia) (k _ _ (by simp;lia) (λi hi=>?_) ⟨S2.rows.map λ(r:bN×List Nat)=>(r.1,CH S2.marks r.2),D,nm,pd,cp,S2.subs,?_,by rw[List.length_map];exact r39,small.2.2,ct,gi.wf.sub⟩)
 ·rw[List.getElem?_append_left (by rw[List.length_set];lia),cF (by lia),f3 i (by lia) (by lia),R.fr i (by lia) (.inl hi),f1 i hi]
 ·rw[List.map_map];rfl
noncomputable def r8(F:Nat)(v:V):Prop:=∀n,F+12<=n->∀(Z:H) (Q:V->H->Prop),(∀Z' c,Z.length<=Z'.length->(∀i,i<Z.length->Z'[i]?=Z[i]?)->gk (F+1) c->Q c Z')->aq ao aj n 53 [gD,v] Q Z
section
variable {F W:Nat}{a b:V}{x y:V}{nm:String}
theorem T6(B:iI F W (.af [.str "block",.aC []]))(hF:4*(F+3)<=700)(hW:4*W+20<3900000):r8 (F+3) (.af [.str "subdef",.str nm,.af [.str "block",.aC []],.int 6,.aC []]):=by
 intro n hn bA Q k;obtain⟨n,rfl⟩:=e1 n;refine pW (by lia) λcD l1 f1 gi=>?_;have R:=pX (F:=F+3) (Wt:=4*W+20) (gi (F+3)) hF (Nat.le_refl _) (Nat.lt_trans hW (by decide));refine aB ⟨0,0,0⟩ R λZ m0 R=>?_;refine aB ⟨0,0,0⟩ R λZ m1 R=>?_;refine aB ⟨0,0,0⟩ R λZ m2 R=>?_;refine LE gG [m0,m1,m2] ⟨0,0,0⟩ ⟨0,0,0⟩ R iH rfl rfl (gH (.tail _ (.tail _ (.head _))) (.tail _ (.head _)) (.head _)) rfl λZ R=>?_;refine PM [(m2,⟨0,0,0⟩),(m1,⟨0,0,0⟩)] 0 R (vI _ _ _) rfl rfl rfl λZ R=>?_;refine(B n (by lia) 0 (.inl rfl)).call ⟨0,0,0⟩ R rfl λZ R=>?_;refine LE g6 [] ⟨0,0,0⟩ ⟨0,0,0⟩ R gq rfl rfl (λm h=>by cases h) rfl λZ R=>?_;refine PM [(m2,⟨0,0,0⟩)] 0 R (.swap _ _ _) rfl rfl rfl λZ R=>?_;refine(B n (by lia) 1 (.inr (.inl rfl))).call ⟨1,0,0⟩ R rfl λZ R=>?_;refine LE g7 [] ⟨0,0,0⟩ ⟨0,0,0⟩ R g9 rfl rfl (λm h=>by cases h) rfl λZ R=>?_;refine PM [] 0 R (.refl _) rfl rfl rfl λZ R=>?_;refine(B n (by lia) 2 (.inr (.inr rfl))).call ⟨1,0,0⟩ R rfl λZ R=>?_;refine iJ R ic rfl rfl (.inr ⟨.inr rfl,rfl⟩) λZ2 S2 R2 ⟨D,ct⟩=>?_;exact l9 (n:=n) (j:=2) (ρ:=[gD,.af [.str "subdef",.str nm,.af [.str "block",.aC []],.int 6,.aC []],.ref bA.length,.af [.str "block",.aC []],.ah,.aC [.int (m0:Nat),.int (m1:Nat),.int (m2:Nat)],.int 2,.ah]) R2 l1 f1 ct (Nat.lt_of_le_of_lt (by simp+arith only) hW) (by lia) (λZ=>aE (x:=_) (z:=.str nm) (ak (i:=1) rfl rfl) au rfl) (λZ=>aE (z:=.int 6) (ak (i:=1) rfl rfl) au rfl) (λZ=>aE (z:=.aC []) (ak (i:=1) rfl rfl) au rfl) rfl rfl rfl rfl k
theorem T7(B:iI F W (.af [.str "block",.aC [a]]))(hF:4*(F+3)<=700)(hW:4*W+20<3900000):r8 (F+3) (.af [.str "subdef",.str nm,.af [.str "block",.aC [a]],.int 6,.aC []]):=by
 intro n hn bA Q k;obtain⟨n,rfl⟩:=e1 n;refine pW (by lia) λcD l1 f1 gi=>?_;have R:=pX (F:=F+3) (Wt:=4*W+20) (gi (F+3)) hF (Nat.le_refl _) (Nat.lt_trans hW (by decide));refine aB ⟨0,0,0⟩ R λZ m0 R=>?_;refine aB ⟨0,0,0⟩ R λZ m1 R=>?_;refine aB ⟨0,0,0⟩ R λZ m2 R=>?_;refine LE gG [m0,m1,m2] ⟨0,0,0⟩ ⟨0,0,0⟩ R iH rfl rfl (gH (.tail _ (.tail _ (.head _))) (.tail _ (.head _)) (.head _)) rfl λZ R=>?_;refine PM [(m2,⟨0,0,0⟩),(m1,⟨0,0,0⟩)] 0 R (vI _ _ _) rfl rfl rfl λZ R=>?_;refine(B n (by lia) 0 (.inl rfl)).call ⟨0,0,0⟩ R rfl λZ R=>?_;refine LE g6 [] ⟨0,0,0⟩ ⟨0,0,0⟩ R gq rfl rfl (λm h=>by cases h) rfl λZ R=>?_;refine PM [(m2,⟨0,0,0⟩)] 0 R (.swap _ _ _) rfl rfl rfl λZ R=>?_;refine(B n (by lia) 1 (.inr (.inl rfl))).call ⟨1,0,0⟩ R rfl λZ R=>?_;refine LE g7 [] ⟨0,0,0⟩ ⟨0,0,0⟩ R g9 rfl rfl (λm h=>by cases h) rfl λZ R=>?_;refine PM [] 0 R (.refl _) rfl rfl rfl λZ R=>?_;refine(B n (by lia) 2 (.inr (.inr rfl))).call ⟨1,0,0⟩ R rfl λZ R=>?_;refine iJ R ic rfl rfl (.inr ⟨.inr rfl,rfl⟩) λZ2 S2 R2 ⟨D,ct⟩=>?_;exact l9 (n:=n) (j:=2) (ρ:=[gD,.af [.str "subdef",.str nm,.af [.str "block",.aC [a]],.int 6,.aC []],.ref bA.length,.af [.str "block",.aC [a]],.ah,.aC [.int (m0:Nat),.int (m1:Nat),.int (m2:Nat)],.int 2,.ah]) R2 l1 f1 ct (Nat.lt_of_le_of_lt (by simp+arith only) hW) (by lia) (λZ=>aE (x:=_) (z:=.str nm) (ak (i:=1) rfl rfl) au rfl) (λZ=>aE (z:=.int 6) (ak (i:=1) rfl rfl) au rfl) (λZ=>aE (z:=.aC []) (ak (i:=1) rfl rfl) au rfl) rfl rfl rfl rfl k
theorem T8(A:kU F W (.af ra))(B:iI F W (.af [.str "block",.aC [b]]))(hF:4*(F+3)<=700)(hW:4*W+20<3900000):r8 (F+3) (.af [.str "subdef",.str nm,.af [.str "block",.aC [.af ra,b]],.int 6,.aC []]):=by
 intro n hn bA Q k;obtain⟨n,rfl⟩:=e1 n;refine pW (by lia) λcD l1 f1 gi=>?_;have R:=pX (F:=F+3) (Wt:=4*W+20) (gi (F+3)) hF (Nat.le_refl _) (Nat.lt_trans hW (by decide));refine(A n (by lia) 0 (.inl rfl)).call ⟨0,0,0⟩ R rfl λZ R=>?_;refine aB ⟨0,0,0⟩ R λZ m0 R=>?_;refine aB ⟨0,0,0⟩ R λZ m1 R=>?_;refine aB ⟨0,0,0⟩ R λZ m2 R=>?_;refine LE gG [m0,m1,m2] ⟨0,0,0⟩ ⟨0,0,0⟩ R iH rfl rfl (gH (.tail _ (.tail _ (.head _))) (.tail _ (.head _)) (.head _)) rfl λZ R=>?_;refine PM [(m2,⟨0,0,0⟩),(m1,⟨0,0,0⟩)] 0 R (vI _ _ _) rfl rfl rfl λZ R=>?_;refine(B n (by lia) 0 (.inl rfl)).call ⟨0,0,0⟩ R rfl λZ R=>?_;refine LE g6 [] ⟨0,0,0⟩ ⟨0,0,0⟩ R gq rfl rfl (λm h=>by cases h) rfl λZ R=>?_;refine PM [(m2,⟨0,0,0⟩)] 0 R (.swap _ _ _) rfl rfl rfl λZ R=>?_;refine(B n (by lia) 1 (.inr (.inl rfl))).call ⟨1,0,0⟩ R rfl λZ R=>?_;refine LE g7 [] ⟨0,0,0⟩ ⟨0,0,0⟩ R g9 rfl rfl (λm h=>by cases h) rfl λZ R=>?_;refine PM [] 0 R (.refl _) rfl rfl rfl λZ R=>?_;refine(B n (by lia) 2 (.inr (.inr rfl))).call ⟨1,0,0⟩ R rfl λZ R=>?_;refine iJ R ic rfl rfl (.inr ⟨.inr rfl,rfl⟩) λZ2 S2 R2 ⟨D,ct⟩=>?_;exact l9 (n:=n) (j:=2) (ρ:=[gD,.af [.str "subdef",.str nm,.af [.str "block",.aC [.af ra,b]],.int 6,.aC []],.ref bA.length,.af [.str "block",.aC [.af ra,b]],.af ra,.aC [.int (m0:Nat),.int (m1:Nat),.int (m2:Nat)],.int 2,.ah]) R2 l1 f1 ct (Nat.lt_of_le_of_lt (by simp+arith only) hW) (by lia) (λZ=>aE (x:=_) (z:=.str nm) (ak (i:=1) rfl rfl) au rfl) (λZ=>aE (z:=.int 6) (ak (i:=1) rfl rfl) au rfl) (λZ=>aE (z:=.aC []) (ak (i:=1) rfl rfl) au rfl) rfl rfl rfl rfl k
end
section
variable {g:Nat}{P:GP}{F Wt:Nat}{bA:H}{S0:GS}{Z:H}{U:List (Nat×Off)}{Lp:List dB}{W:Nat}{o r:Off}{n:Nat}{Q:V->H->Prop}{S:GS}
theorem Run.sub{c:V}{p:H->Prop}(R:Run g P F Wt bA S0 Z U Lp W o r)(hc:gk P.d c)(hw:W+1<=Wt)(k:∀Z',Run g P F Wt bA S0 Z' U Lp (W+1) o r->p Z'):aT (tu Z c (.ref (g+4))) p:=by
 obtain⟨S,R,c'⟩:=R;have gi:=R.gi;have Ov:=gi.lt;have sm:=R.small hw;refine BZ gi.subs sm.2.2.1 (k _ ⟨{S with subs:=S.subs++[c]},?_,c'⟩);have e:∀{y:MO} {j:Nat},j≠g+4->(Z.set (g+4) y)[j]?=Z[j]? :=λq=>cF λz=>q z.symm;refine R.next ⟨?_,?_,?_,?_,?_,⟨gi.wf.mark,gi.wf.row,gi.wf.loop,?_,gi.wf.kn,gi.wf.d0⟩⟩ (by simp) (λi a b=>e (by lia)) ?_ R.loops (Nat.le_refl _) (λY Y=>⟨rfl,rfl⟩) R.new R.un R.ud
 ·rw[e (by lia)];exact gi.inst
 ·rw[e (by lia)];exact gi.rows
 ·rw[e (by lia)];exact gi.marks
 ·rw[e (by lia)];exact gi.loops
 ·rw[bW gi.subs]
 ·intro v hv
  rcases List.mem_append.mp hv with q|q
  ·exact gi.wf.sub v q
  ·cases List.mem_singleton.mp q;exact hc
 ·have:=R.len
  unfold GS.len at this ⊢;simp;lia
theorem Run.CJ(R:Run g P F Wt bA S0 Z U Lp W o r)(k:p (.ref (g+4))):aT (dQ Z (.ref g) "subs") p:=R.attr (λre e=>rfl) k
theorem Run.Xr(R:Run g P F Wt bA S0 Z U Lp W o r)(hw:W+1<=Wt)(k:A):if kK Z (.ref (g+4))=true then A else False:=by
 obtain⟨S,R,c⟩:=R;exact qA R.gi.subs (R.small hw).2.2.1 k
theorem Run.T9(R:Run g P F Wt bA S0 Z U Lp W o r)(hw:W+1<=Wt)(k:∀m:Nat,p (.int m)):aT (ou (cH Z (.ref (g+4)))) p:=by
 obtain⟨S,R,c⟩:=R;exact FI R.gi.subs (R.small hw).2.2.1 (k _)
theorem Run.fd(R:Run g P F Wt bA S0 Z U Lp W o r):F<=P.d:=by
 obtain⟨S,R,c⟩:=R;exact R.fd
theorem ID(D:r8 F (.af rs)):bf (F+3) 4 (.af [.str "anonsub",.af rs]):=by
 intro n hn w hw;obtain⟨n,rfl⟩:=e2 n;refine aO.code (k:=82) (by decide+kernel) ?_;refine aO.intro λg P Z S Q R k=>?_;refine R.CJ ?_;refine R.Xr (by lia) ?_;refine R.tab ?_;refine D n (by lia) _ _ λcD c l1 f1 hc=>?_;have R:=R.grow l1 f1;refine R.sub (hc.mono (by have:=R.fd;lia)) (by lia) λZ R=>?_;refine R.CJ ?_;refine R.T9 (by lia) λm=>?_;refine LG (yf (.int ((m:Int)-1))) ⟨1,0,0⟩ R (HS _) rfl λZ R=>?_;exact vg hw R λZ R=>k _ R.w
theorem WE(D:r8 F (.af rs)):xg 49 (F+3) 4 (.af [.str "sub",.af rs]):=by
 intro n hn w hw;obtain⟨n,rfl⟩:=e1 n;refine aO.intro ?_;intro g P Z S Q R k;rcases P with⟨pi,pl,pd,pk⟩
 cases pl
 ·refine R.S9 ?_
  rcases hw with rfl|rfl|rfl
  ·exact bh (.inl rfl) R rfl λZ R=>k _ R.w
  ·exact bh (.inr (.inl rfl)) R rfl λZ R=>k _ R.w
  ·exact bh (.inr (.inr rfl)) R rfl λZ R=>k _ R.w
 ·refine R.S9 ?_
  refine R.CJ ?_;refine R.Xr (by lia) ?_;refine R.tab ?_;refine D n (by lia) _ _ λcD c l1 f1 hc=>?_;have R:=R.grow l1 f1;refine R.sub (hc.mono (by have:=R.fd;lia)) (by lia) λZ R=>?_;refine R.CJ ?_;refine R.T9 (by lia) λm=>?_;refine LG (l6 (.int ((m:Int)-1))) ⟨0,0,0⟩ R (rD _) rfl λZ R=>?_;rcases hw with rfl|rfl|rfl
  ·exact bh (.inl rfl) R rfl λZ R=>k _ R.w
  ·exact bh (.inr (.inl rfl)) R rfl λZ R=>k _ R.w
  ·exact bh (.inr (.inr rfl)) R rfl λZ R=>k _ R.w
end
section
variable {g:Nat}{P:GP}{F Wt:Nat}{bA:H}{S0:GS}{Z:H}{U:List (Nat×Off)}{Lp:List dB}{W:Nat}{o r:Off}{n:Nat}{Q:V->H->Prop}{w:Int}
theorem closed{Za:Nat}(hw:Cv w)(R:Run g P F Wt bA S0 Z U Lp W o r)(R':Run Z.length P' F' Za cD MC Z2 [] [] W' ⟨dl w,0,0⟩ ⟨dl w,0,0⟩)(l1:cD.length=Z.length+5)(f1:∀i,i<Z.length->cD[i]?=Z[i]?)(hd:P'.d+1<=P.d)(hW:W+1<=Wt)(hW':W'+1<=Za)(h39:W'+1<3900000)(hn:10<=n)
  (k:∀Z' (m:Nat),Run g P F Wt bA S0 Z' U Lp (W+1) o r->Q (.int ((m:Int)-1)) Z'):aq ao aj n 84 [.ref g,.ref Z.length,.int w] Q Z2:=by
 obtain⟨n,rfl⟩:=e1 n;have fin:∀{kY:H} {S3:GS} {D:Nat->f5},n6 Z.length P' F' Za cD MC kY S3 [] [] (W'+1)->Cert (S3.rows.map λ(r:bN×List Nat)=>(r.1,CH S3.marks r.2)) D->
   WS (aq ao aj n) [.expr (.append (.attr (.aa 0) "subs") (.new true "OpsCode" 132 [(.call (.aA 10) [(.aa 1)]),(.aI (V.str "")),(.aI (V.int 0)),(.bJ []),(.r9 (.attr (.aa 1) "subs"))])),.ret (some (.bin .sub (.len (.attr (.aa 0) "subs")) (.aI (V.int 1))))] [.ref g,.ref Z.length,.int w] (λfl Y Z=>match fl with
    |.next=>Q .none Z
    |.ret v=>Q v Z
    |.cont=>False) kY:=λ{kY S3 D} R3 ct=>by
  constructor;have Ro:=R.grow (Z':=kY) (by have:=R3.fl;lia) (λi hi=>(R3.fr i (by lia) (.inl hi)).trans (f1 i hi));refine Ro.CJ ?_;refine Ro.Xr (by lia) ?_;refine l9 (n:=n) (j:=1) (ρ:=[.ref g,.ref Z.length,.int w]) (nm:=.str "") (pd:=.int 0) (cp:=.aC []) R3 l1 f1 ct (by lia) (by lia) (λZ=>au) (λZ=>au) (λZ=>bK az) rfl rfl rfl rfl λPR c q1 q2 q3=>?_;refine(R.grow q1 q2).sub (q3.mono hd) (by lia) λVo R5=>?_;refine R5.CJ ?_;obtain⟨S5,Zb,c5⟩:=id R5;refine FI Zb.gi.subs ?_ ?_
  ·exact(DU (Nat.lt_of_le_of_lt (Nat.le_trans Zb.len (Nat.add_le_add_left (by lia) _)) Zb.bd)).2.2.1
  ·exact k Vo _ R5
 rcases hw with rfl|rfl|rfl
 ·refine iJ R' gq rfl rfl (.inl ⟨rfl,rfl⟩) λkY S3 R3 ⟨D,ct⟩=>(fin R3 ct).to
 ·refine iJ R' g9 rfl rfl (.inr ⟨.inl rfl,rfl⟩) λkY S3 R3 ⟨D,ct⟩=>(fin R3 ct).to
 ·refine iJ R' ic rfl rfl (.inr ⟨.inr rfl,rfl⟩) λkY S3 R3 ⟨D,ct⟩=>(fin R3 ct).to
theorem CK{rb:List V}(B:iI F W (.af rb))(hF:4*(F+2)<=700)(hB:W+10<3900000):bf (F+5) 4 (.af [.str "evalblock",.af rb]):=by
 intro n hn w hw;obtain⟨n,rfl⟩:=e2 n;refine aO.code (k:=85) (by decide+kernel) ?_;refine aO.intro λg P Z S Q R k=>?_;refine R.tab ?_;refine R.S9 ?_;refine pW (by lia) λcD l1 f1 gi=>?_;have R':=pX (F:=F+1) (Wt:=W+2) (gi (F+1)) (by lia) (Nat.le_refl _) (by lia);have hfd:=R.fd;rcases hw with rfl|rfl|rfl
 ·refine(B n (by lia) 0 (.inl rfl)).call ⟨0,0,0⟩ R' rfl λZ2 R'=>?_
  refine closed (.inl rfl) R R' l1 f1 (by show F+1+1<=P.d;lia) (by lia) (by lia) (by lia) (by lia) λkY m R=>?_;refine LG (pP (.int ((m:Int)-1))) ⟨0,0,0⟩ R (Ad _) rfl λZ R=>?_;exact k _ R.w
 ·refine(B n (by lia) 1 (.inr (.inl rfl))).call ⟨1,0,0⟩ R' rfl λZ2 R'=>?_
  refine closed (.inr (.inl rfl)) R R' l1 f1 (by show F+1+1<=P.d;lia) (by lia) (by lia) (by lia) (by lia) λkY m R=>?_;refine LG (pQ (.int ((m:Int)-1))) ⟨1,0,0⟩ R (Ae _) rfl λZ R=>?_;exact k _ R.w
 ·refine(B n (by lia) 2 (.inr (.inr rfl))).call ⟨1,0,0⟩ R' rfl λZ2 R'=>?_
  refine closed (.inr (.inr rfl)) R R' l1 f1 (by show F+1+1<=P.d;lia) (by lia) (by lia) (by lia) (by lia) λkY m R=>?_;refine LG (pR (.int ((m:Int)-1))) ⟨1,0,0⟩ R (Af _) rfl λZ R=>?_;exact k _ R.w
end
noncomputable def gM:V->Bool
 |.af (.str h::aR)=>decide (h="block")
 |_=>false
noncomputable def oh:V->Prop
 |.str aR=>True
 |.int aR=>True
 |.none=>True
 |.bool aR=>True
 |.af (.str aR::r)=>r.length<=10
 |_=>False
noncomputable def QG:X:=.kI true [(.PD false (.aa 2)),(.cmp .eq (.slice (.aa 2) none (some (.aI (V.int 1)))) (.af [(.aI (V.str "block"))]))]
theorem vM{s b:Bool}{v:V}(ha:Ev cf ρ Z a v)(h:ED s v=some b):Ev cf ρ Z (.PD s a) (.bool b):=⟨λQ q=>by exact ha.to _ (bk h q)⟩
theorem Zc(x:V){r:List V}(h:oh (.af (x::r)))(k:∀s,x=.str s->C):C:=by
 cases x with
 |str s=>exact k s rfl
 |_=>exact False.elim h
theorem IE{v:V}(h:oh v)(QH:ρ[2]?=some v):Ev cf ρ Z QG (.bool (gM v)):=by
 cases v with
 |str s=>exact fq (vM (ak QH rfl) rfl)
 |int s=>exact fq (vM (ak QH rfl) rfl)
 |none=>exact fq (vM (ak QH rfl) rfl)
 |bool s=>exact fq (vM (ak QH rfl) rfl)
 |ah=>exact False.elim h
 |aC=>exact False.elim h
 |cM=>exact False.elim h
 |obj=>exact False.elim h
 |k8=>exact False.elim h
 |ref=>exact False.elim h
 |fn=>exact False.elim h
 |af xs=>
  rcases xs with _|⟨x,r⟩
  ·exact False.elim h
  refine Zc x h λs e=>?_;subst e;have h:r.length<=10:=h;refine gy (vM (b:=true) (ak QH rfl) rfl) (aJ (x:=.af [.str s]) (y:=.af [.str "block"]) (Ge (ak QH rfl) ?_) (b9 (ai au az)) ?_)
  ·show(if _ then _ else _)=_
   exact if_pos ⟨rfl,by simp,by simp;unfold lim;lia⟩
  ·show some (decide (s="block")&&true)=some (decide (s="block"))
   rw[Bool.and_true]
section
variable {n:Nat}{Z:H}{Q:V->H->Prop}
theorem pY(hh:hd≠"if")(hp:∀v∈ps,oh v)(hl:ps.length<=20)(hn:1<=n)(k:Q (.aC (ps.filter gM)) Z):aq ao aj n 54 [.af (.str hd::ps)] Q Z:=by
 obtain⟨n,rfl⟩:=e1 n;refine bG (f:=jK) rfl rfl ?_;have e0:Ev (aq ao aj n) [.af (.str hd::ps),.ah,.ah] Z (.aa 0) (.af (.str hd::ps)):=ak rfl rfl;refine cE (aJ (z:=false) (aE (z:=.str hd) e0 au rfl) au (yw hh)) ?_;have sl:gr (.af (.str hd::ps)) (some 1) none=some (.af ps):=by
  show(if _ then _ else _)=_;exact if_pos ⟨by lia,by simp only[List.length_cons];lia,by simp;unfold lim;lia⟩
 have f:=ye (c:=QG) (elt:=.aa 2) (i:=2) (f:=λv=>v) (p:=gM) (QC e0 sl) (rfl:itemsOf (.af ps)=some ps) (by unfold lim;lia) (λv hv=>IE (hp v hv) rfl) (λv hv hb=>ak rfl (by cases v<;>first|rfl|cases hb));rw[List.map_id']at f;exact jf f k
end
noncomputable def fW(F W:Nat)(v:V):Prop:=∀n,F+12<=n->aO n 55 [v] F W 0
structure nh (F W:Nat) (v:V):Prop where
 ex:∃hd ps,v=.af (.str hd::ps)/\(hd="sub"->∃rs qs,ps=.af rs::qs/\r8 F (.af rs))
 bl:∃bs:List V,bs.length<=3/\(∀b∈bs,B3 b=true/\fW F W b)/\∀n,2<=n->∀Z Q,Q (.aC bs) Z->aq ao aj n 54 [v] Q Z
noncomputable def oi:List S:=[.expr (.call (.aA 55) [(.aa 0),(.aa 3)])]
noncomputable def CL:List S:=[.expr (.append (.attr (.aa 0) "subs") (.call (.aA 53) [(.attr (.aa 0) "tables"),(.sub (.aa 2) (.aI (V.int 1)))])),.expr (.call (.aA 7) [(.aa 0),(.af [(.aI (V.str "definesub")),(.bin .sub (.len (.attr (.aa 0) "subs")) (.aI (V.int 1)))])])]
noncomputable def CM:List S:=[.for true [3] (.call (.aA 54) [(.aa 2)]) oi]
noncomputable def mY:List S:=.ite (.cmp .eq (.sub (.aa 2) (.aI (V.int 0))) (.aI (V.str "sub"))) CL []::CM
theorem fW.mono{v:V}(h:fW F W v)(hF:autoParam (F<=F') bu)(hW:autoParam (W<=W') bu):fW F' W' v:=λn hn=>(h n (by lia)).mono hF hW
theorem r8.mono{v:V}(h:r8 F v)(hF:autoParam (F<=F') bu):r8 F' v:=λn hn Z Q k=>h n (by lia) Z Q λZ' c a b d=>k Z' c a b (d.mono (by lia))
theorem nh.mono{v:V}(h:nh F W v)(hF:autoParam (F<=F') bu)(hW:autoParam (W<=W') bu):nh F' W' v:=by
 obtain⟨⟨hd,ps,e,q⟩,⟨bs,l,a,b⟩⟩:=h;refine⟨⟨hd,ps,e,λz=>?_⟩,⟨bs,l,λx hx=>⟨(a x hx).1,(a x hx).2.mono hF hW⟩,b⟩⟩;obtain⟨rs,qs,e1,s⟩:=q z;exact⟨rs,qs,e1,s.mono hF⟩
section
variable {g:Nat}{P:GP}{F F' W Wt:Nat}{bA:H}{S0:GS}{n:Nat}{Q:Fl->List V->H->Prop}{L7 st:V}
theorem L8(hF:F+1<=F')(hn:F+12<=n):∀(bs:List V) (Z:H) (W1:Nat) (x3:V),(∀b∈bs,B3 b=true/\fW F W b)->Run g P F' Wt bA S0 Z [] [] W1 ⟨0,0,0⟩ ⟨0,0,0⟩->W1+bs.length*W<=Wt->
  (∀Z' x3,Run g P F' Wt bA S0 Z' [] [] (W1+bs.length*W) ⟨0,0,0⟩ ⟨0,0,0⟩->Q .next [.ref g,L7,st,x3] Z')->FL (aq ao aj n) oi true [3] bs [.ref g,L7,st,x3] Q Z:=by
 intro bs;induction bs with
 |nil=>
  intro Z W1 x3 hb R hw k;exact uY (k Z x3 R.w)
 |cons b bs ih=>
  intro Z W1 x3 hb R hw k;obtain⟨ob,nb⟩:=hb b (by simp);have e1:(b::bs).length*W=bs.length*W+W:=by rw[List.length_cons,Nat.add_mul,Nat.one_mul]
  rw[e1]at hw k;refine br ?_;show WS _ oi [.ref g,L7,st,b] _ _;refine bO (aX (v:=.fn 55) rfl) (ai (ak (v:=.ref g) rfl rfl) (ai (ak (v:=b) rfl ob) az)) ?_;refine(nb n hn).call ⟨0,0,0⟩ R rfl λZ R=>?_;refine(cY ?_:WS _ [] [.ref g,L7,st,b] _ _).to;refine ih Z (W1+W) b (λx hx=>hb x (List.mem_cons_of_mem _ hx)) R (by lia) λZ' x R=>k Z' x R.w
theorem Pf{qs:List V}{x3:V}(D:r8 F (.af rs))(hF:F+2<=F')(hn:F+12<=n)(R:Run g P F' Wt bA S0 Z [] [] W1 ⟨0,0,0⟩ ⟨0,0,0⟩)(hw:W1+2<=Wt)
  (k:∀Z',Run g P F' Wt bA S0 Z' [] [] (W1+2) ⟨0,0,0⟩ ⟨0,0,0⟩->WS (aq ao aj n) r [.ref g,L7,.af (.str "sub":: .af rs::qs),x3] Q Z'):WS (aq ao aj n) CL [.ref g,L7,.af (.str "sub":: .af rs::qs),x3] (fu (aq ao aj n) r Q) Z:=by
 constructor;refine R.CJ ?_;refine R.Xr (by lia) ?_;refine R.tab ?_;refine D n (by lia) _ _ λcD c l1 f1 hc=>?_;have R:=R.grow l1 f1;refine R.sub (hc.mono (by have:=R.fd;lia)) (by lia) λZ R=>?_;refine R.CJ ?_;refine R.T9 (by lia) λm=>?_;refine LG (l6 (.int ((m:Int)-1))) ⟨0,0,0⟩ R (rD _) rfl λZ R=>?_;exact iW (r:=[]) (mL (k Z R))
theorem Ma(hF:F+2<=F')(hn:F+12<=n):∀(ss:List V) (Z:H) (W1:Nat) (x2 x3:V),(∀s∈ss,nh F W s)->Run g P F' Wt bA S0 Z [] [] W1 ⟨0,0,0⟩ ⟨0,0,0⟩->W1+ss.length*(3*W+2)<=Wt->
  (∀Z' x2 x3,Run g P F' Wt bA S0 Z' [] [] (W1+ss.length*(3*W+2)) ⟨0,0,0⟩ ⟨0,0,0⟩->Q .next [.ref g,L7,x2,x3] Z')->FL (aq ao aj n) mY true [2] ss [.ref g,L7,x2,x3] Q Z:=by
 intro ss;induction ss with
 |nil=>
  intro Z W1 x2 x3 hb R hw k;exact uY (k Z x2 x3 R.w)
 |cons s ss ih=>
  intro Z W1 x2 x3 hb R hw k;obtain⟨⟨hd,ps,es,hs⟩,⟨bs,lb,ab,cb⟩⟩:=hb s (by simp);have e1:(s::ss).length*(3*W+2)=ss.length*(3*W+2)+(3*W+2):=by rw[List.length_cons,Nat.add_mul,Nat.one_mul]
  rw[e1]at hw k;have hbw:bs.length*W<=3*W:=Nat.mul_le_mul_right _ lb;have fin:∀Z,Run g P F' Wt bA S0 Z [] [] (W1+2) ⟨0,0,0⟩ ⟨0,0,0⟩->WS (aq ao aj n) CM [.ref g,L7,s,x3] (B4 (aq ao aj n) mY true [2] ss Q) Z:=λZ R=>by
   refine cK (fC (j:=54) (v:=.aC bs) (ai (ak (v:=s) rfl (by subst es;rfl)) az) rfl λQ q=>cb n (by lia) Z Q q) (d8 bs) ?_;refine L8 (by lia) hn bs Z (W1+2) x3 ab R (by lia) λZ x R=>?_;refine iW (cY ?_);refine(ih Z (W1+(3*W+2)) s x (λy hy=>hb y (List.mem_cons_of_mem _ hy)) R.w (by lia) λZ' y z R=>k Z' y z R.w)
  refine br ?_;show WS _ mY [.ref g,L7,s,x3] _ _;subst es;have c1:Ev (aq ao aj n) [.ref g,L7,.af (.str hd::ps),x3] Z (.sub (.aa 2) (.aI (V.int 0))) (.str hd):=aE (x:=.af (.str hd::ps)) (ak rfl rfl) au rfl;by_cases h:hd="sub"
  ·obtain⟨rs,qs,e2,D⟩:=hs h
   subst h;subst e2;refine bU (aJ (z:=true) c1 au (by decide+kernel:eqv (.str "sub") (.str "sub")=some true)) ?_;exact Pf D hF (by lia) R (by lia) fin
  ·refine cE (aJ (z:=false) c1 au (yw h)) ?_
   exact fin Z R.w
theorem CN{ss:List V}(h:∀s∈ss,nh F W s):fW (F+2) (ss.length*(3*W+2)) (.af [.str "block",.aC ss]):=by
 intro n hn;obtain⟨n,rfl⟩:=e1 n;refine aO.intro λg P Z S Q R k=>bG (f:=iR) rfl rfl ?_;refine(cK (aE (x:=.af [.str "block",.aC ss]) (z:=.aC ss) (ak rfl rfl) au rfl) (d8 ss) ?_:WS _ [.for true [2] (.sub (.aa 1) (.aI (V.int 1))) mY] [.ref g,.af [.str "block",.aC ss],.ah,.ah] _ _);refine Ma (Nat.le_refl _) (by lia) ss Z 0 .ah .ah h R (by lia) λZ' x y R=>?_;exact iW (lY (k Z' R.w))
theorem Mb(hh:hd≠"if")(hs:hd≠"sub")(hp:∀v∈ps,oh v)(hl:ps.length<=20)(hb:(ps.filter gM).length<=3)(ha:∀b∈ps.filter gM,fW F W b):nh F W (.af (.str hd::ps)):=
 ⟨⟨hd,ps,rfl,λh=>absurd h hs⟩,⟨ps.filter gM,hb,λb h=>⟨(by have:=(List.mem_filter.mp h).2;cases b<;>first|rfl|cases this),ha b h⟩,λn hn Z Q q=>pY hh hp hl (by lia) q⟩⟩
theorem Ua(D:r8 F (.af (.str hd::rs)))(hh:hd≠"block")(hr:rs.length<=10):nh F W (.af [.str "sub",.af (.str hd::rs)]):=by
 have e:([.af (.str hd::rs)]:List V).filter gM=[]:=by
  rw[List.filter_cons];have:gM (.af (.str hd::rs))=false:=decide_eq_false hh;rw[this];rfl
 refine⟨⟨"sub",_,rfl,λY=>⟨_,[],rfl,D⟩⟩,⟨[],by simp,(λb h=>by cases h),λn hn Z Q q=>pY (by decide) ?_ (by simp) (by lia) (by rw[e];exact q)⟩⟩;intro v hv;cases List.mem_singleton.mp hv;exact hr
theorem QI{nX:List (V×V)}{ot:V}{os:List V}(ho:ot=.none/\os=[]\/(∃r,ot=.af r)/\os=[ot])(hl:nX.length<=2)(hb:∀p∈nX,(∃r,p.2=.af r)/\fW F W p.2)(Q6:∀b∈os,fW F W b):nh F W (.af [.str "if",.aC (nX.map λp=>.af [p.1,p.2]),ot]):=by
 refine⟨⟨"if",_,rfl,λh=>absurd h (by decide)⟩,⟨nX.map (·.2)++os,?_,?_,?_⟩⟩
 ·rcases ho with⟨_,e⟩|⟨_,e⟩<;>subst e<;>simp<;>lia
 ·intro b h
  rcases List.mem_append.mp h with h|h
  ·obtain⟨p,hp,rfl⟩:=List.mem_map.mp h
   obtain⟨⟨r,e⟩,nn⟩:=hb p hp;exact⟨by rw[e];rfl,nn⟩
  ·refine⟨?_,Q6 b h⟩
   rcases ho with⟨_,e⟩|⟨⟨r,e1⟩,e⟩
   ·subst e;cases h
   ·subst e;cases List.mem_singleton.mp h;rw[e1];rfl
 ·intro n hn Z Q q
  obtain⟨n,rfl⟩:=e1 n;refine bG (f:=jK) rfl rfl ?_;have e0:∀{x y:V},Ev (aq ao aj n) [.af [.str "if",.aC (nX.map λp=>.af [p.1,p.2]),ot],x,y] Z (.aa 0) (.af [.str "if",.aC (nX.map λp=>.af [p.1,p.2]),ot]):=λ{x y}=>ak rfl rfl;refine bU (aJ (z:=true) (aE (z:=.str "if") e0 au rfl) au (by decide+kernel:eqv (.str "if") (.str "if")=some true)) ?_;have m:=zX (cf:=aq ao aj n) (ρ:=[.af [.str "if",.aC (nX.map λp=>.af [p.1,p.2]),ot],.ah,.ah]) (Z:=Z) (elt:=.sub (.aa 1) (.aI (V.int 1))) (i:=1) (f:=λv=>(MD v).elim v λxs=>(xs[1]?).getD v) (aE (z:=.aC (nX.map λp=>.af [p.1,p.2])) e0 (au (v:=.int 1)) rfl) (d8 _) (by simp;unfold lim;lia) (λv hv=>by
   obtain⟨p,hp,rfl⟩:=List.mem_map.mp hv;exact aE (x:=.af [p.1,p.2]) (z:=p.2) (ak rfl rfl) au rfl)
  rw[List.map_map]at m;have e2:((λv=>(MD v).elim v λxs=>(xs[1]?).getD v) ∘ λ(p:V×V)=>V.af [p.1,p.2])=λp=>p.2:=rfl;rw[e2]at m;have hlen:os.length<=1:=by rcases ho with⟨_,e⟩|⟨_,e⟩<;>subst e<;>simp
  refine jf (cX (z:=.aC (nX.map (·.2)++os)) m (y:=.aC os) ?_ ?_) q
  ·rcases ho with⟨e1,e⟩|⟨⟨r,e1⟩,e⟩
   ·subst e1;subst e
    exact gE (aJ (z:=true) (aE (z:=.none) e0 au rfl) au rfl) (bK az)
   ·subst e1;subst e
    exact fU (aJ (z:=false) (aE (z:=.af r) e0 au rfl) au rfl) (bK (ai (aE (z:=.af r) e0 au rfl) az))
  ·show(if _ then _ else _)=_
   exact if_pos (by simp;lia)
end
theorem IF{Wn:Nat}{rb:List V}(N:fW F Wn (.af rb))(B:iI F W (.af rb))(hF:4*(F+3)<=700)(hW:Wn+W+5<3900000)(hn:F+13<=n)(k:∀Z' c,gk (F+4) c->Q c Z'):
  aq ao aj n 56 [gD,.af [.str "program",.af rb,.int 6]] Q bA:=by
 obtain⟨n,rfl⟩:=e1 n;refine pW (by lia) λcD l1 f1 gi=>?_;have R:=pX (F:=F+3) (Wt:=Wn+W+5) (gi (F+3)) hF (Nat.le_refl _) (by lia);refine(N n (by lia)).call ⟨0,0,0⟩ R rfl λZ R=>?_;refine(B n (by lia) 0 (.inl rfl)).call ⟨0,0,0⟩ R rfl λZ R=>?_;refine iJ R gq rfl rfl (.inl ⟨rfl,rfl⟩) λZ2 S2 R2 ⟨D,ct⟩=>?_;exact l9 (n:=n) (j:=2) (ρ:=[gD,.af [.str "program",.af rb,.int 6],.ref bA.length]) R2 l1 f1 ct (by lia) (by lia) (λZ=>au (v:=.str "")) (λZ=>aE (z:=.int 6) (ak (i:=1) rfl rfl) au rfl) (λZ=>bK az) rfl rfl rfl rfl λZ' c Y Y h=>k Z' c h
noncomputable def dc(d:f5):V:=.af [.int d.h,.int d.s,.int d.b]
noncomputable def fL(D:Nat->f5)(is:List Nat):List (V×V):=is.map λ(i:Nat)=>(V.int (i:Int),dc (D i))
noncomputable def dN(D:Nat->f5)(ls:List Nat):List V:=ls.map λ(i:Nat)=>.af [.int (i:Int),dc (D i)]
theorem Xs(a b:Int):eqv (.int a) (.int b)=some (decide (a=b)):=rfl
theorem Gm(d:f5):eqv (dc d) (dc d)=some true:=by
 show(if 3=3 then allEq (f6 5) [V.int d.h,V.int d.s,V.int d.b] [V.int d.h,V.int d.s,V.int d.b] else none)=some true;rw[if_pos rfl];refine kh λx hx=>?_;simp at hx;rcases hx with rfl|rfl|rfl<;>exact u5 _
theorem qK(D:Nat->f5)(j:Nat)(is:List Nat):fY (fL D is) (.int (j:Int))=some (if j∈is then some (dc (D j)) else none):=by
 induction is with
 |nil=>rfl
 |cons i is ih=>
  show cond (decide ((i:Int)=j)) (some (some (dc (D i)))) (fY (fL D is) (.int (j:Int)))=_;by_cases h:i=j
  ·rw[decide_eq_true (congrArg _ h),if_pos (h▸.head _),h];rfl
  ·rw[decide_eq_false (p:=(i:Int)=j) λe=>h (Int.ofNat.inj e)]
   refine ih.trans (congrArg some ?_);by_cases q:j∈is
   ·rw[if_pos q,if_pos (.tail _ q)]
   ·rw[if_neg q,if_neg λz=>(List.mem_cons.mp z).elim (λe=>h e.symm) q]
theorem Mc(D:Nat->f5)(j:Nat)(is:List Nat):j∉is->putK (fL D is) (.int (j:Int)) (dc (D j))=some (fL D (is++[j])):=by
 induction is with
 |nil=>exact λY=>rfl
 |cons i is ih=>
  intro h;show cond (decide ((i:Int)=j)) (some ((V.int (i:Int),dc (D j))::fL D is)) ((putK (fL D is) (.int (j:Int)) (dc (D j))).map ((V.int (i:Int),dc (D i))::·))=_;rw[decide_eq_false (p:=(i:Int)=j) λe=>h ((show i=j from Int.ofNat.inj e)▸.head _),ih λq=>h (.tail _ q)];rfl
section
variable {cf:CF}{ρ:List V}{Z:H}{Q:Fl->List V->H->Prop}
theorem vN{c:X}{i:Nat}{ρ:List V}{b:Bool->Prop}:∀{vs:List V} {Z:H},(∀v∈vs,∀Z (Q:V->H->Prop),(∀Z',Q (.bool false) Z')->b8 cf aj c (ρ.set i v) Q Z)->∀{Q:List V->H->Prop},(∀Z',Q [] Z')->
  iP (λρ Q Z=>b8 cf aj elt ρ Q Z) (λρ Q Z=>Mx cf aj (some c) ρ Q Z) true true [i] ρ vs Q Z
 |[],Z,aR,dm,q=>q Z
 |v::vs,Z,h,aR,q=>by
  show Mx cf aj (some c) (ρ.set i v) _ Z;refine h v (by simp) Z _ λZ'=>?_;refine DV ?_;exact vN (b:=b) (ρ:=ρ.set i v) (λw hw=>by rw[List.set_set];exact h w (List.mem_cons_of_mem _ hw)) q
theorem yy{c:X}{i:Nat}{v:V}{Q:V->H->Prop}(hi:Ev cf ρ Z it v)(hv:itemsOf v=some vs)(hl:vs.length<lim)(h:∀v∈vs,∀Z (Q:V->H->Prop),(∀Z',Q (.bool false) Z')->b8 cf aj c ((ρ.set i .ah).set i v) Q Z)(q:∀Z',Q (.aC []) Z'):
  b8 cf aj (.comp elt true [i] it (some c)) ρ Q Z:=by
 exact hi.to _ (bk hv (kT hl (vN (b:=λY=>True) h q)))
theorem CO{k:Nat}{Q:V->H->Prop}(ha:vR cf ρ Z as vs)(hg:aj[k]?=some (.fn j))(h:∀Q:V->H->Prop,(∀Z',Q (.bool true) Z')->cf j vs Q Z)(q:∀Z',Q (.bool false) Z'):b8 cf aj (.not (.call (.aA k) as)) ρ Q Z:=by
 exact e9 hg (ha.to _ (h _ λZ'=>q Z'))
structure WL (cf:CF) (c:X) (b:List S) (k:Nat) (ρ:List V) (Q:Fl->List V->H->Prop) (Z:H):Prop where
 to:jJ (λρ Q Z=>b8 cf aj c ρ Q Z) (λρ Q Z=>dU cf aj b ρ Q Z) k ρ Q Z
noncomputable def Me(cf:CF)(c:X)(b:List S)(k:Nat)(Q:Fl->List V->H->Prop):Fl->List V->H->Prop:=λfl ρ Z=>match fl with
 |.ret r=>Q (.ret r) ρ Z
 |_=>jJ (λρ Q Z=>b8 cf aj c ρ Q Z) (λρ Q Z=>dU cf aj b ρ Q Z) k ρ Q Z
theorem Pg{c:X}{k:Nat}(h:Ev cf ρ Z c (.bool false))(q:Q .next ρ Z):WL cf c b (k+1) ρ Q Z:=⟨by
 show b8 _ _ _ _ _ _;exact h.to _ (DV q)⟩
theorem Ph{c:X}{k:Nat}(h:Ev cf ρ Z c (.bool true))(q:WS cf b ρ (Me cf c b k Q) Z):WL cf c b (k+1) ρ Q Z:=⟨by
 show b8 _ _ _ _ _ _;exact h.to _ (KZ q.to)⟩
theorem Mf{c:X}{k:Nat}(h:WL cf c b k ρ Q Z):Me cf c b k Q .next ρ Z:=h.to
theorem Mg{c:X}{k:Nat}(h:WL cf c b k ρ Q Z):Me cf c b k Q .cont ρ Z:=h.to
theorem WG{c:X}(k:Nat)(h:WL cf c b k ρ (fu cf r Q) Z):WS cf (.while c b::r) ρ Q Z:=CE k h.to
theorem Pj(h:Q .cont ρ Z):WS cf (.cont::r) ρ Q Z:=⟨by exact h⟩
theorem Ub{l:X}{a:Nat}{xs:List V}{v:V}(hl:Ev cf ρ Z l (.ref a))(hx:Z[a]?=some (.list (xs++[v])))(hn:(xs++[v]).length<lim)(hb:s8 false is ρ v=some ρ')(h:WS cf r ρ' Q (Z.set a (.list xs))):WS cf (.fM is (.pop l)::r) ρ Q Z:=by
 constructor;refine hl.to _ (qA hx hn ?_);have:xu Z (.ref a)=some (v,Z.set a (.list xs)):=by
  rw[xw hx (v:=v) List.getLast?_concat,List.dropLast_concat]
 exact bk this (bk hb h.to)
theorem Eu{i:X}{a:Nat}{kvs kvs':List (V×V)}{k v:V}(he:Ev cf ρ Z e v)(hd:Ev cf ρ Z d (.ref a))(hk:Ev cf ρ Z i k)(hx:Z[a]?=some (.dict kvs))(hn:kvs.length<lim)(ik:isKey k=true)(hp:putK kvs k v=some kvs')(h:WS cf r ρ Q (Z.set a (.dict kvs'))):WS cf (.om d i e::r) ρ Q Z:=by
 constructor;refine he.to _ (hd.to _ (hk.to _ ?_));have:tw Z (.ref a) k v=some (Z.set a (.dict kvs')):=GC hx ⟨hn,ik⟩ hp;exact bk this h.to
theorem Pk{i:Nat}(h:WS cf r (ρ.set i (.ref Z.length)) Q (Z++[.dict []])):WS cf (.cO i (.iZ [] [])::r) ρ Q Z:=by
 constructor;exact h.to
theorem Po{k:Nat}(ha:vR cf ρ Z as vs)(hg:aj[k]?=some (.fn j))(h:cf j vs (λv Z=>aT (itemsOf v) λvs=>forL (λρ Q Z=>dU cf aj b ρ Q Z) single ts vs ρ (fu cf r Q) Z) Z):WS cf (.for single ts (.call (.aA k) as) b::r) ρ Q Z:=by
 constructor;exact e9 hg (ha.to _ h)
theorem Mh{i:Nat}{v w:V}(h:WS cf b ((ρ.set i v).set j w) (B4 cf b false [i,j] vs Q) Z):FL cf b false [i,j] (.af [v,w]::vs) ρ Q Z:=⟨h.to⟩
theorem Uc{xs:List V}{z:Int}(ha:Ev cf ρ Z a (.af xs))(h:AE xs=some z):Ev cf ρ Z (.min a) (.int z):=⟨λQ q=>by exact ha.to _ (bk h q)⟩
end
noncomputable def crC:X:=.cmp .ne (.aa 3) (.bJ [])
noncomputable def Zd:List S:=[.expr (.append (.aa 3) (.af [(.ite (.cmp .lt (.aa 11) (.aI (V.int 0))) (.bin .add (.aa 4) (.aI (V.int 1))) (.aa 11)),(.bin .add (.af [(.bin .add (.aa 7) (.aa 12))]) (.aa 10))]))]
noncomputable def Ze:List S:=[.cO 10 (.call (.aA 128) [(.aa 6),(.aa 8),(.aa 9)]),.for false [11,12] (.call (.aA 6) [(.aa 6)]) Zd]
noncomputable def WH:List S:=.cO 6 (.sub (.aa 1) (.aa 4)):: .fM [7,8,9] (.aa 5):: .ite (.kI false [(.cmp .lt (.aa 7) (.sub (.call (.aA 127) [(.aa 6)]) (.aI (V.int 0)))),(.cmp .lt (.min (.aa 5)) (.aI (V.int 0)))]) [.ret (some (.aI (V.bool false)))] []::
 .ite (.kI true [(.cmp .isin (.sub (.aa 6) (.aI (V.int 0))) (.af [(.aI (V.str "return0")),(.aI (V.str "return1")),(.aI (V.str "return2"))])),(.cmp .lt (.aa 7) (.ite (.cmp .eq (.sub (.aa 6) (.aI (V.int 0))) (.aI (V.str "return0"))) (.aI (V.int 0)) (.aI (V.int 1))))]) [.ret (some (.aI (V.bool false)))] []::Ze
noncomputable def crB:List S:=.fM [4,5] (.pop (.aa 3)):: .ite (.kI false [(.cmp .ge (.aa 4) (.len (.aa 1))),(.cmp .ne (.get (.aa 2) (.aa 4) (.aa 5)) (.aa 5))]) [.ret (some (.aI (V.bool false)))] []:: .ite (.cmp .isin (.aa 4) (.aa 2)) [.cont] []:: .om (.aa 2) (.aa 4) (.aa 5)::WH
section
variable {n a:Nat}{v rv:V}{D:Nat->f5}{Q:Fl->List V->H->Prop}
theorem Pp{p:Nat}{h s b:Int}{x5:V}:∀(es:List (Int×Int×Nat)) (ls:List Nat) (Z:H) (ng lq:V),Z[a+1]?=some (.list (dN D ls))->ls.length+es.length<lim->
  (∀e∈es,(if e.1<0 then(p:Int)+1 else e.1)=(e.2.2:Int)/\D e.2.2=⟨h+e.2.1,s,b⟩)->
  (∀Z' ng lq,Z'[a+1]?=some (.list (dN D (ls++es.map (·.2.2))))->Z'[a]?=Z[a]? ->Q .next [v,rv,.ref a,.ref (a+1),.int p,x5,x6,.int h,x8,x9,.af [.int s,.int b],ng,lq,.ah,.ah,.ah] Z')->
  FL (aq ao aj n) Zd false [11,12] (es.map λe=>.af [.int e.1,.int e.2.1]) [v,rv,.ref a,.ref (a+1),.int p,x5,x6,.int h,x8,x9,.af [.int s,.int b],ng,lq,.ah,.ah,.ah] Q Z:=by
 intro es;induction es with
 |nil=>
  intro ls Z ng lq hl hn he k;exact uY (k Z ng lq (by simpa using hl) rfl)
 |cons e es ih=>
  intro ls Z ng lq hl hn he k;obtain⟨q,ch,t⟩:=e;obtain⟨h1,h2⟩:=he (q,ch,t) (by simp);have h1:(if q<0 then(p:Int)+1 else q)=(t:Int):=h1;have h2:D t=⟨h+ch,s,b⟩:=h2;refine Mh ?_;show WS _ Zd [v,rv,.ref a,.ref (a+1),.int p,x5,x6,.int h,x8,x9,.af [.int s,.int b],.int q,.int ch,.ah,.ah,.ah] _ _;have hL:(dN D ls).length=ls.length:=by unfold dN;rw[List.length_map]
  simp only[List.length_cons]at hn;have c1:Ev (aq ao aj n) [v,rv,.ref a,.ref (a+1),.int p,x5,x6,.int h,x8,x9,.af [.int s,.int b],.int q,.int ch,.ah,.ah,.ah] Z (.ite (.cmp .lt (.aa 11) (.aI (V.int 0))) (.bin .add (.aa 4) (.aI (V.int 1))) (.aa 11)) (.int (t:Int)):=by
   by_cases hq:q<0
   ·rw[if_pos hq]at h1
    refine gE (aJ (z:=true) (ak (v:=.int q) rfl rfl) au ?_) (cX (ak (v:=.int p) rfl rfl) au ?_)
    ·show some (decide (q<0))=_;rw[decide_eq_true hq]
    ·show some (V.int ((p:Int)+1))=_;rw[h1]
   ·rw[if_neg hq]at h1
    refine fU (aJ (z:=false) (ak (v:=.int q) rfl rfl) au ?_) ?_
    ·show some (decide (q<0))=_;rw[decide_eq_false hq]
    ·rw[<-h1];exact ak rfl rfl
  have c2:Ev (aq ao aj n) [v,rv,.ref a,.ref (a+1),.int p,x5,x6,.int h,x8,x9,.af [.int s,.int b],.int q,.int ch,.ah,.ah,.ah] Z (.bin .add (.af [(.bin .add (.aa 7) (.aa 12))]) (.aa 10)) (dc (D t)):=by
   refine cX (b9 (ai (cX (z:=.int (h+ch)) (ak (v:=.int h) rfl rfl) (ak (v:=.int ch) rfl rfl) rfl) az)) (ak (v:=.af [.int s,.int b]) rfl rfl) ?_;rw[h2];rfl
  refine qC (a:=a+1) (ak (v:=.ref (a+1)) rfl rfl) hl (by rw[hL];lia) (b9 (ai c1 (ai c2 az))) (cY ?_);have e:dN D ls++[.af [.int (t:Int),dc (D t)]]=dN D (ls++[t]):=by unfold dN;rw[List.map_append];rfl
  refine ih (ls++[t]) _ _ _ ?_ (by simp;lia) (λe' hm=>he e' (List.mem_cons_of_mem _ hm)) λZ' x y g1 g2=>k Z' x y ?_ ?_
  ·rw[bW hl,e]
  ·rw[g1];simp
  ·rw[g2,cF (by lia)]
variable {rows:List (bN×List Int)}
structure CI (D:Nat->f5) (N a:Nat) (is ls:List Nat) (Z:H):Prop where
 sn:Z[a]?=some (.dict (fL D is))
 ln:Z[a+1]?=some (.list (dN D ls))
 nd:is.Nodup
 ib:∀i∈is,i<N
 lb:∀i∈ls,i<N
 bd:4*(N-is.length)+ls.length<=4*N+1
theorem CP(nd:is.Nodup)(ib:∀i∈is,i<N):is.length<=N:=by
 induction N generalizing is with
 |zero=>induction is with
  |nil=>exact Nat.le_refl _
  |cons x r=>exact absurd (ib x (by simp)) (Nat.not_lt_zero _)
 |succ N IH=>
  have h:=IH (is:=is.erase N) (nd.erase N) λi hi=>by
   have h1:=ib i (List.mem_of_mem_erase hi);have h2:i≠N:=(nd.mem_erase_iff.mp hi).1;exact Nat.lt_of_le_of_ne (Nat.le_of_lt_succ h1) h2
  have:is.length<=(is.erase N).length+1:=by
   rw[List.length_erase];split
   ·exact Nat.le_add_of_sub_le (Nat.le_refl _)
   ·exact Nat.le_succ _
  exact Nat.le_trans this (Nat.succ_le_succ h)
theorem Pq(w:String):sZ (.str w) (.af [.str "return0",.str "return1",.str "return2"])=some (decide ("return0"=w)||(decide ("return1"=w)||(decide ("return2"=w)||false))):=rfl
theorem WI{rows:List (bN×List Int)}{D:Nat->f5}(ct:Cert rows D)(hN:rows.length<3900000)(hn:6<=n){i:Nat}{ls:List Nat}{x7:V}(hi:i<rows.length)(hs:Z[a]?=some (.dict (fL D is)))(hl:Z[a+1]?=some (.list (dN D ls)))(hll:ls.length+4<lim)
  (k:∀Z' (js:List Nat) x6 x7 x8 x9 pH ng lq,js.length<=4->(∀j∈js,j<rows.length)->Z'[a]?=some (.dict (fL D is))->Z'[a+1]?=some (.list (dN D (ls++js)))->Q .next [v,.aC (rows.map λr=>r.1.row r.2),.ref a,.ref (a+1),.int i,dc (D i),x6,x7,x8,x9,pH,ng,lq,.ah,.ah,.ah] Z'):
  WS (aq ao aj n) WH [v,.aC (rows.map λr=>r.1.row r.2),.ref a,.ref (a+1),.int i,dc (D i),x6,x7,x8,x9,pH,ng,lq,.ah,.ah,.ah] Q Z:=by
 obtain⟨K,js,hr⟩:∃K js,rows[i]?=some (K,js):=⟨rows[i].1,rows[i].2,List.getElem?_eq_getElem hi⟩;refine cps λG g=>?_;obtain⟨hK,hj,⟨n1,n2,n3⟩,ht,hp,hg⟩:=ct.row i K js hr;refine g ?_;have e1:Ev (aq ao aj n) [v,.aC (rows.map λr=>r.1.row r.2),.ref a,.ref (a+1),.int i,dc (D i),x6,x7,x8,x9,pH,ng,lq,.ah,.ah,.ah] Z (.sub (.aa 1) (.aa 4)) (K.row js):=by
  refine aE (x:=.aC (rows.map λr=>r.1.row r.2)) (y:=.int (i:Int)) (ak rfl rfl) (ak rfl rfl) ?_;show cQ (.aC _) _=_;rw[fK];exact jg (by rw[List.getElem?_map,hr];rfl) (by lia)
 refine dG e1 ?_;refine zW (v:=dc (D i)) (ρ':=[v,.aC (rows.map λr=>r.1.row r.2),.ref a,.ref (a+1),.int i,dc (D i),K.row js,.int (D i).h,.int (D i).s,.int (D i).b,pH,ng,lq,.ah,.ah,.ah]) (ak rfl rfl) rfl ?_;have r6:∀{Z pH},Ev (aq ao aj n) [v,.aC (rows.map λr=>r.1.row r.2),.ref a,.ref (a+1),.int i,dc (D i),K.row js,.int (D i).h,.int (D i).s,.int (D i).b,pH,ng,lq,.ah,.ah,.ah] Z (.aa 6) (K.row js):=λ{Z pH}=>ak rfl rfl;have r7:Ev (aq ao aj n) [v,.aC (rows.map λr=>r.1.row r.2),.ref a,.ref (a+1),.int i,dc (D i),K.row js,.int (D i).h,.int (D i).s,.int (D i).b,pH,ng,lq,.ah,.ah,.ah] Z (.aa 7) (.int (D i).h):=ak rfl rfl;have w0:=aE (z:=.str K.word) (r6 (Z:=Z) (pH:=pH)) (au (v:=.int 0)) rfl;refine cE (sN (aJ (z:=false) r7 (aE (x:=.af [.int K.t,.int K.l]) (z:=.int K.t) (fC (j:=127) (ai r6 az) rfl λQ q=>hK.Xn js hj n (by lia) Q Z q) au rfl) ?_) (aJ (x:=.int (min (D i).h (min (D i).s (D i).b))) (z:=false) (Uc (xs:=[.int (D i).h,.int (D i).s,.int (D i).b]) (ak rfl rfl) rfl) au ?_)) ?_
 ·show some (decide ((D i).h<K.t))=_
  rw[decide_eq_false (by lia)]
 ·show some (decide (min (D i).h (min (D i).s (D i).b)<0))=_
  rw[decide_eq_false (by lia)]
 have ew:Ev (aq ao aj n) [v,.aC (rows.map λr=>r.1.row r.2),.ref a,.ref (a+1),.int i,dc (D i),K.row js,.int (D i).h,.int (D i).s,.int (D i).b,pH,ng,lq,.ah,.ah,.ah] Z (.kI true [(.cmp .isin (.sub (.aa 6) (.aI (V.int 0))) (.af [(.aI (V.str "return0")),(.aI (V.str "return1")),(.aI (V.str "return2"))])),(.cmp .lt (.aa 7) (.ite (.cmp .eq (.sub (.aa 6) (.aI (V.int 0))) (.aI (V.str "return0"))) (.aI (V.int 0)) (.aI (V.int 1))))]) (.bool false):=by
  have ei:=aJ (o:=.isin) w0 (b9 (ai (au (v:=.str "return0")) (ai (au (v:=.str "return1")) (ai (au (v:=.str "return2")) az)))) (Pq K.word);by_cases q0:"return0"=K.word
  ·rw[decide_eq_true q0,Bool.true_or]at ei
   refine gy ei (aJ r7 (gE (aJ (z:=true) w0 au ?_) (au (v:=.int 0))) ?_)
   ·show some (decide (K.word="return0"))=_;rw[decide_eq_true q0.symm]
   ·show some (decide ((D i).h<0))=_;rw[decide_eq_false (by lia)]
  ·rw[decide_eq_false q0,Bool.false_or]at ei
   by_cases q1:"return1"=K.word\/"return2"=K.word
   ·have t1:=hK.KU (q1.imp Eq.symm Eq.symm)
    have:(decide ("return1"=K.word)||(decide ("return2"=K.word)||false))=true:=by
     rcases q1 with q|q
     ·rw[decide_eq_true q];rfl
     ·rw[decide_eq_true q];simp
    rw[this]at ei;refine gy ei (aJ r7 (fU (aJ (z:=false) w0 au ?_) (au (v:=.int 1))) ?_)
    ·show some (decide (K.word="return0"))=_;rw[decide_eq_false λz=>q0 z.symm]
    ·show some (decide ((D i).h<1))=_;rw[decide_eq_false (by lia)]
   ·have:(decide ("return1"=K.word)||(decide ("return2"=K.word)||false))=false:=by
     rw[decide_eq_false λz=>q1 (.inl z),decide_eq_false λz=>q1 (.inr z)];rfl
    rw[this]at ei;exact fq ei
 refine cE ew ?_;have e10:Ev (aq ao aj n) [v,.aC (rows.map λr=>r.1.row r.2),.ref a,.ref (a+1),.int i,dc (D i),K.row js,.int (D i).h,.int (D i).s,.int (D i).b,pH,ng,lq,.ah,.ah,.ah] Z (.call (.aA 128) [(.aa 6),(.aa 8),(.aa 9)]) (.af [.int (K.dep (D i).s (D i).b).1,.int (K.dep (D i).s (D i).b).2]):=
  fC (j:=128) (vs:=[K.row js,.int (D i).s,.int (D i).b]) (ai r6 (ai (ak rfl rfl) (ai (ak rfl rfl) az))) rfl λQ q=>hK.YS js hj n (by lia) _ _ Q Z q
 refine dG e10 ?_;refine Po (ai r6 az) (rfl:aj[6]?=some (.fn 6)) ?_;refine hK.Xo js hj n hn _ Z λc=>?_;refine bk (d8 _) ?_;have al:a+1<Z.length:=(List.getElem?_eq_some_iff.mp hl).1;obtain⟨es,he,hs2,JJ,hs4⟩:∃es:List (Int×Int×Nat),K.hl js=(es.map λe=>.af [.int e.1,.int e.2.1])/\es.length<=4/\(∀e∈es,(if e.1<0 then(i:Int)+1 else e.1)=(e.2.2:Int)/\D e.2.2=⟨(D i).h+e.2.1,(K.dep (D i).s (D i).b).1,(K.dep (D i).s (D i).b).2⟩)/\(∀e∈es,e.2.2<rows.length):=by
  refine⟨(if K.go then [(-1,K.l-K.t,i+1)] else [])++js.map λp=>(p,K.l-K.t+K.kp,p.toNat),?_,?_,?_,?_⟩
  ·unfold bN.hl
   rw[List.map_append,List.map_map];congr 1;cases K.go<;>rfl
  ·have:=hK.V6
   cases K.go<;>simp<;>lia
  ·intro e hm
   rcases List.mem_append.mp hm with q|q
   ·cases ya:K.go with
    |false=>rw[ya]at q;cases q
    |true=>
     rw[ya]at q;cases List.mem_singleton.mp q;exact⟨by show(if (-1:Int)<0 then(i:Int)+1 else -1)=((i+1:Nat):Int);simp,(hg ya).2⟩
   ·obtain⟨p,WJ,rfl⟩:=List.mem_map.mp q
    obtain⟨m,rfl,_,em⟩:=hp p WJ;refine⟨?_,?_⟩
    ·show(if (m:Int)<0 then(i:Int)+1 else(m:Int))=(((m:Int).toNat:Nat):Int)
     rw[if_neg (by lia)];simp
    ·show D ((m:Int).toNat)=_
     rw[Int.toNat_natCast,em];rfl
  ·intro e hm
   rcases List.mem_append.mp hm with q|q
   ·cases ya:K.go with
    |false=>rw[ya]at q;cases q
    |true=>
     rw[ya]at q;cases List.mem_singleton.mp q;exact(hg ya).1
   ·obtain⟨p,WJ,rfl⟩:=List.mem_map.mp q
    obtain⟨m,rfl,hm,_⟩:=hp p WJ;show(m:Int).toNat<_;rw[Int.toNat_natCast];exact hm
 rw[he];refine(Pp (p:=i) (h:=(D i).h) (s:=(K.dep (D i).s (D i).b).1) (b:=(K.dep (D i).s (D i).b).2) es ls (Z++[c]) ng lq (by rw[List.getElem?_append_left al];exact hl) (by lia) JJ λZ' y11 y12 g1 g2=>?_).to;refine iW (lY ?_);exact k Z' (es.map (·.2.2)) _ _ _ _ _ _ _ (by rw[List.length_map];exact hs2) (λj hj=>by obtain⟨e,hm,rfl⟩:=List.mem_map.mp hj;exact hs4 e hm) (by rw[g2,List.getElem?_append_left (by lia)];exact hs) g1
end
section
variable {n a:Nat}{v:V}{D:Nat->f5}{Q:Fl->List V->H->Prop}{rows:List (bN×List Int)}
theorem lr1{r i l k:Nat}(h1:4*(r-i)+(l+(0+1))<=k)(h2:i+(0+1)<=r)(h3:j<=4):4*(r-(i+(0+1)))+(l+j)+1<=k:=by
 rw[QT h2]at h1;exact Nat.le_trans (by simp+arith only[h3]) h1
theorem lr2{x l r:Nat}(h:x+(l+(0+1))<=4*r+1)(h2:r<3900000):l+4<16000000:=
 Nat.lt_of_le_of_lt (Nat.add_le_add_right (Nat.le_trans (Nat.le_of_succ_le_succ (Nat.le_trans (Nat.le_add_left _ x) h)) (Nat.mul_le_mul_left 4 (Nat.le_of_lt_succ (show r<3899999+1 from h2)))) 4) (by decide:4*3899999+4<16000000)
theorem tn1{n:Nat}(h:0<n):((-1:Int)+(n:Int)).toNat=n-1:=by
 rw[Int.add_comm,show(n:Int)+ -1=((n-1:Nat):Int) from(Int.ofNat_sub h).symm];rfl
theorem vO(ct:Cert rows D)(hN:rows.length<3900000)(hn:6<=n):∀(k:Nat) (is ls:List Nat) (Z:H) (x4 x5 x6 x7 x8 x9 pH ng lq:V),CI D rows.length a is ls Z->4*(rows.length-is.length)+ls.length+1<=k->
  (∀Z' is x4 x5 x6 x7 x8 x9 pH ng lq,Z'[a]?=some (.dict (fL D is))->Q .next [v,.aC (rows.map λr=>r.1.row r.2),.ref a,.ref (a+1),x4,x5,x6,x7,x8,x9,pH,ng,lq,.ah,.ah,.ah] Z')->
  WL (aq ao aj n) crC crB k [v,.aC (rows.map λr=>r.1.row r.2),.ref a,.ref (a+1),x4,x5,x6,x7,x8,x9,pH,ng,lq,.ah,.ah,.ah] Q Z
 |0,is,ls,Z,aR,dm,p8,JW,VC,qq6,qq7,qq8,qq9,ci,hk,q=>by lia
 |k+1,is,ls,Z,x4,x5,x6,x7,x8,x9,pH,ng,lq,ci,hk,q=>by
  obtain⟨sn,ln,nd,ib,lb,bd⟩:=ci;have il:=CP nd ib;have dl:cH Z (.ref (a+1))=.aC (dN D ls):=jn ln;have hL:∀l,(dN D l).length=l.length:=λl=>by unfold dN;rw[List.length_map]
  rcases List.eq_nil_or_concat ls with e|⟨l',i,e⟩
  ·subst e
   refine Pg (aJ (x:=.ref (a+1)) (y:=.aC []) (ak rfl rfl) (bK az) ?_) (q Z is _ _ _ _ _ _ _ _ _ sn);rw[dl];rfl
  ·rw[List.concat_eq_append]at e
   subst e;have eL:dN D (l'++[i])=dN D l'++[.af [.int (i:Int),dc (D i)]]:=by unfold dN;rw[List.map_append];rfl
   refine Ph (aJ (x:=.ref (a+1)) (y:=.aC []) (ak rfl rfl) (bK az) ?_) ?_
   ·rw[dl]
    show(eqv (.aC (dN D (l'++[i]))) (.aC [])).map (! ·)=some true;have:eqv (.aC (dN D (l'++[i]))) (.aC [])=some false:=by
     show(if (dN D (l'++[i])).length=([]:List V).length then _ else some false)=_;rw[if_neg (by rw[hL];simp)]
    rw[this];rfl
   have hi:i<rows.length:=lb i (by simp);simp only[List.length_append,List.length_cons,List.length_nil]at hk bd;refine Ub (a:=a+1) (xs:=dN D l') (v:=.af [.int (i:Int),dc (D i)]) (ρ':=[v,.aC (rows.map λr=>r.1.row r.2),.ref a,.ref (a+1),.int i,dc (D i),x6,x7,x8,x9,pH,ng,lq,.ah,.ah,.ah]) (ak rfl rfl) (by rw[ln,eL]) (by simp[hL];unfold lim;lia) rfl ?_;have WK:(Z.set (a+1) (.list (dN D l')))[a]?=some (.dict (fL D is)):=by rw[cF (by lia)];exact sn
   have Zf:(Z.set (a+1) (.list (dN D l')))[a+1]?=some (.list (dN D l')):=bW ln;generalize Z.set (a+1) (.list (dN D l'))=cD at WK Zf ⊢;have d2:cH cD (.ref a)=.cM (fL D is):=gX WK;have e4:Ev (aq ao aj n) [v,.aC (rows.map λr=>r.1.row r.2),.ref a,.ref (a+1),.int i,dc (D i),x6,x7,x8,x9,pH,ng,lq,.ah,.ah,.ah] cD (.aa 4) (.int i):=ak rfl rfl;have e5:Ev (aq ao aj n) [v,.aC (rows.map λr=>r.1.row r.2),.ref a,.ref (a+1),.int i,dc (D i),x6,x7,x8,x9,pH,ng,lq,.ah,.ah,.ah] cD (.aa 5) (dc (D i)):=ak rfl rfl;have e2:Ev (aq ao aj n) [v,.aC (rows.map λr=>r.1.row r.2),.ref a,.ref (a+1),.int i,dc (D i),x6,x7,x8,x9,pH,ng,lq,.ah,.ah,.ah] cD (.aa 2) (.ref a):=ak rfl rfl;have Zg:Ev (aq ao aj n) [v,.aC (rows.map λr=>r.1.row r.2),.ref a,.ref (a+1),.int i,dc (D i),x6,x7,x8,x9,pH,ng,lq,.ah,.ah,.ah] cD (.len (.aa 1)) (.int rows.length):=by
    refine cG (x:=.aC (rows.map λr=>r.1.row r.2)) (ak rfl rfl) ?_;show(if _ then _ else _)=_;rw[if_pos (by rw[List.length_map];unfold lim;lia),List.length_map]
   have dq:nk cD (.ref a)=true:=mq d2;have eg:=uX e2 dq e4 e5 (r:=if i∈is then some (dc (D i)) else none) (by rw[d2];exact qK D i is);have er:(if i∈is then some (dc (D i)) else none).getD (dc (D i))=dc (D i):=by split<;>rfl
   rw[er]at eg;refine cE (sN (aJ (z:=false) e4 Zg ?_) (aJ (z:=false) eg e5 ?_)) ?_
   ·show some (decide ((rows.length:Int)<=(i:Int)))=_
    rw[decide_eq_false (by lia)]
   ·show(eqv (dc (D i)) (dc (D i))).map (! ·)=_
    rw[Gm];rfl
   have Xu:Ev (aq ao aj n) [v,.aC (rows.map λr=>r.1.row r.2),.ref a,.ref (a+1),.int i,dc (D i),x6,x7,x8,x9,pH,ng,lq,.ah,.ah,.ah] cD (.cmp .isin (.aa 4) (.aa 2)) (.bool (if i∈is then some (dc (D i)) else none).isSome):=by
    refine aJ e4 e2 ?_;rw[d2];show(fY (fL D is) (.int (i:Int))).map Option.isSome=_;rw[qK];rfl
   by_cases hm:i∈is
   ·rw[if_pos hm]at Xu
    refine bU Xu (Pj (Mg ?_));exact vO ct hN hn k is l' cD _ _ _ _ _ _ _ _ _ ⟨WK,Zf,nd,ib,λj hj=>lb j (by simp[hj]),Nat.le_trans (Nat.add_le_add_left (Nat.le_add_right _ _) _) bd⟩ (Nat.le_of_succ_le_succ hk) q
   ·rw[if_neg hm]at Xu
    refine cE Xu ?_;have hS:(fL D is).length=is.length:=by unfold fL;rw[List.length_map]
    have MA:(is++[i]).Nodup:=by
     rw[List.nodup_append];refine⟨nd,by simp,λx hx y hy=>?_⟩;cases List.mem_singleton.mp hy;intro e;subst e;exact hm hx
    have ib':∀j∈is++[i],j<rows.length:=λj hj=>by
     rcases List.mem_append.mp hj with q|q
     ·exact ib j q
     ·cases List.mem_singleton.mp q;exact hi
    have Zh:=CP MA ib';simp only[List.length_append,List.length_cons,List.length_nil]at Zh;refine Eu (a:=a) e5 e2 e4 WK (by rw[hS];exact Nat.lt_of_le_of_lt il (Nat.lt_trans hN (by decide))) rfl (Mc D i is hm) ?_;have sn2:(cD.set a (.dict (fL D (is++[i]))))[a]?=some (.dict (fL D (is++[i]))):=bW WK;have ln2:(cD.set a (.dict (fL D (is++[i]))))[a+1]?=some (.list (dN D l')):=by rw[cF (by lia)];exact Zf
    refine WI ct hN hn hi sn2 ln2 (lr2 bd hN) λZ2 js y6 y7 y8 y9 y10 y11 y12 q1 q2 q3 q4=>?_;refine Mf ?_;refine vO ct hN hn k (is++[i]) (l'++js) Z2 _ _ _ _ _ _ _ _ _ ⟨q3,q4,MA,ib',λj hj=>?_,?_⟩ ?_ q
    ·rcases List.mem_append.mp hj with z|z
     ·exact lb j (by simp[z])
     ·exact q2 j z
    ·simp only[List.length_append,List.length_cons,List.length_nil];exact Nat.le_trans (Nat.le_succ _) (lr1 bd Zh q1)
    ·simp only[List.length_append,List.length_cons,List.length_nil];exact lr1 (Nat.le_of_succ_le_succ hk) Zh q1
noncomputable def QJ:List S:=[.cO 13 (.get (.aa 2) (.bin .sub (.len (.aa 1)) (.aI (V.int 1))) (.af [(.ite (.cmp .eq (.sub (.sub (.aa 1) (.aI (V.int (-1)))) (.aI (V.int 0))) (.aI (V.str "return0"))) (.aI (V.int 0)) (.aI (V.int 1))),(.aI (V.int 0)),(.aI (V.int 0))])),.ite (.kI false [(.cmp .ne (.slice (.sub (.sub (.aa 1) (.aI (V.int (-1)))) (.aI (V.int 0))) none (some (.aI (V.int 6)))) (.aI (V.str "return"))),(.cmp .ne (.aa 13) (.af [(.ite (.cmp .eq (.sub (.sub (.aa 1) (.aI (V.int (-1)))) (.aI (V.int 0))) (.aI (V.str "return0"))) (.aI (V.int 0)) (.aI (V.int 1))),(.aI (V.int 0)),(.aI (V.int 0))]))]) [.ret (some (.aI (V.bool false)))] [],.ret (some (.cmp .eq (.comp (.aa 15) true [15] (.attr (.aa 0) "subs") (some (.not (.call (.aA 130) [(.aa 15)])))) (.bJ [])))]
theorem IG{w:String}(h:w="return0"\/w="return1"\/w="return2"):gr (.str w) none (some 6)=some (.str "return"):=by
 rcases h with rfl|rfl|rfl
 ·exact vF (by decide+kernel) (by decide+kernel)
 ·exact vF (by decide+kernel) (by decide+kernel)
 ·exact vF (by decide+kernel) (by decide+kernel)
theorem Pr{nm pd cp:V}{subs:List V}(ct:Cert rows D)(hN:rows.length<3900000)(hs:subs.length<lim)(IH:∀s∈subs,B3 s=true/\∀Z (Q:V->H->Prop),(∀Z',Q (.bool true) Z')->aq ao aj n 130 [s] Q Z)
  {x4 x5 x7:V}(sn:Z[a]?=some (.dict (fL D is)))(k:∀ρ Z',Q (.ret (.bool true)) ρ Z'):
  WS (aq ao aj n) QJ [.obj "OpsCode" [("rows",.aC (rows.map λr=>r.1.row r.2)),("name",nm),("pad_size",pd),("captures",cp),("subs",.aC subs)],.aC (rows.map λr=>r.1.row r.2),.ref a,.ref (a+1),x4,x5,x6,x7,x8,x9,pH,ng,lq,.ah,.ah,.ah] Q Z:=by
 obtain⟨K,hl,hw⟩:=ct.last;have d2:cH Z (.ref a)=.cM (fL D is):=gX sn;have dq:nk Z (.ref a)=true:=mq d2;have Pu:0<rows.length:=by
  rcases rows with _|⟨x,r⟩
  ·cases hl
  ·simp
 have WB:rows[rows.length-1]?=some (K,[]):=by rw[List.getLast?_eq_getElem?]at hl;exact hl
 generalize hv:(V.obj "OpsCode" [("rows",.aC (rows.map λr=>r.1.row r.2)),("name",nm),("pad_size",pd),("captures",cp),("subs",.aC subs)])=v at *;have w0:∀{x},Ev (aq ao aj n) [v,.aC (rows.map λr=>r.1.row r.2),.ref a,.ref (a+1),x4,x5,x6,x7,x8,x9,pH,ng,lq,x,.ah,.ah] Z (.sub (.sub (.aa 1) (.aI (V.int (-1)))) (.aI (V.int 0))) (.str K.word):=λ{x}=>by
  refine aE (x:=K.row []) (y:=.int 0) (aE (x:=.aC (rows.map λr=>r.1.row r.2)) (y:=.int (-1)) (ak rfl rfl) au ?_) au rfl;show cQ (.aC _) _=_;rw[fK];unfold idx;rw[if_neg (by lia),if_pos ⟨by lia,by simp;lia⟩];have e:((-1:Int)+((rows.map λr=>r.1.row r.2).length:Int)).toNat=rows.length-1:=by rw[List.length_map];exact tn1 Pu
  rw[e,List.getElem?_map,WB];rfl
 have hd:∃c:Int,D (rows.length-1)=⟨c,0,0⟩/\(∀{x},Ev (aq ao aj n) [v,.aC (rows.map λr=>r.1.row r.2),.ref a,.ref (a+1),x4,x5,x6,x7,x8,x9,pH,ng,lq,x,.ah,.ah] Z (.af [(.ite (.cmp .eq (.sub (.sub (.aa 1) (.aI (V.int (-1)))) (.aI (V.int 0))) (.aI (V.str "return0"))) (.aI (V.int 0)) (.aI (V.int 1))),(.aI (V.int 0)),(.aI (V.int 0))]) (dc ⟨c,0,0⟩))/\(K.word="return0"\/K.word="return1"\/K.word="return2"):=by
  rcases hw with⟨w,e⟩|⟨w,e⟩
  ·refine⟨0,e,λ{x}=>b9 (ai (gE (aJ (z:=true) w0 au ?_) au) (ai au (ai au az))),.inl w⟩
   show some (decide (K.word="return0"))=_;rw[decide_eq_true w]
  ·refine⟨1,e,λ{x}=>b9 (ai (fU (aJ (z:=false) w0 au ?_) au) (ai au (ai au az))),.inr w⟩
   show some (decide (K.word="return0"))=_;rw[decide_eq_false];rcases w with w|w<;>rw[w]<;>decide
 obtain⟨c,hc,ec,hrw⟩:=hd;have e13:=uX (k:=.bin .sub (.len (.aa 1)) (.aI (V.int 1))) (y:=.int ((rows.length-1:Nat):Int)) (ak (cf:=aq ao aj n) (ρ:=[v,.aC (rows.map λr=>r.1.row r.2),.ref a,.ref (a+1),x4,x5,x6,x7,x8,x9,pH,ng,lq,.ah,.ah,.ah]) (Z:=Z) (i:=2) (v:=.ref a) rfl rfl) dq (by
  refine cX (y:=.int 1) (cG (x:=.aC (rows.map λr=>r.1.row r.2)) (z:=.int rows.length) (ak rfl rfl) ?_) au ?_
  ·show(if _ then _ else _)=_
   rw[if_pos (by rw[List.length_map];unfold lim;lia),List.length_map]
  ·show some (V.int ((rows.length:Int)-1))=_
   exact congrArg (λx=>some (V.int x)) (Int.ofNat_sub Pu).symm) ec (r:=if rows.length-1∈is then some (dc (D (rows.length-1))) else none) (by rw[d2];exact qK D _ is)
 have er:(if rows.length-1∈is then some (dc (D (rows.length-1))) else none).getD (dc ⟨c,0,0⟩)=dc ⟨c,0,0⟩:=by split<;>simp[hc]
 rw[er]at e13;refine dG e13 ?_;show WS _ _ [v,.aC (rows.map λr=>r.1.row r.2),.ref a,.ref (a+1),x4,x5,x6,x7,x8,x9,pH,ng,lq,dc ⟨c,0,0⟩,.ah,.ah] _ _;refine cE (sN (aJ (x:=.str "return") (y:=.str "return") (z:=false) (Ge w0 (IG hrw)) au (by decide+kernel:iO .ne (.str "return") (.str "return")=some false)) (aJ (x:=dc ⟨c,0,0⟩) (z:=false) (ak rfl rfl) ec ?_)) ?_
 ·show(eqv (dc ⟨c,0,0⟩) (dc ⟨c,0,0⟩)).map (! ·)=_
  rw[Gm];rfl
 subst hv;refine K2 (K3 ?_);refine yy (v:=.aC subs) (vs:=subs) (cg (x:=.obj "OpsCode" [("rows",.aC (rows.map λr=>r.1.row r.2)),("name",nm),("pad_size",pd),("captures",cp),("subs",.aC subs)]) (ak rfl rfl) rfl) rfl hs (λs k9 cD Q q=>?_) λcD=>?_
 ·obtain⟨os,h⟩:=IH s k9
  exact CO (vs:=[s]) (ai (ak rfl os) az) rfl (λQ q=>h cD Q q) q
 ·refine(bK (xs:=[]) (vs:=[]) az).to _ ?_
  exact bk (a:=true) rfl (k _ _)
theorem vP:∀(d:Nat) (v:V),gk d v->∀n,d+8<=n->∀(Z:H) (Q:V->H->Prop),(∀Z',Q (.bool true) Z')->aq ao aj n 130 [v] Q Z
 |0,aR,h,dm,p8,JW,VC,qq6=>h.elim
 |d+1,v,h,n,hn,Z,Q,k=>by
  obtain⟨n,rfl⟩:=e1 n;obtain⟨rows,D,nm,pd,cp,subs,e,hN,hs,ct,IH⟩:=h;subst e;refine bG (f:=ir) rfl rfl ?_;refine dG (v:=.aC (rows.map λr=>r.1.row r.2)) (cg (x:=.obj "OpsCode" [("rows",.aC (rows.map λr=>r.1.row r.2)),("name",nm),("pad_size",pd),("captures",cp),("subs",.aC subs)]) (ak rfl rfl) rfl) ?_;have fin:∀Z,WS (aq ao aj n) (.cO 2 (.iZ [] []):: .cO 3 (.oj [(.af [(.aI (V.int 0)),(.af [(.aI (V.int 0)),(.aI (V.int 0)),(.aI (V.int 0))])])]):: .while crC crB::QJ) [.obj "OpsCode" [("rows",.aC (rows.map λr=>r.1.row r.2)),("name",nm),("pad_size",pd),("captures",cp),("subs",.aC subs)],.aC (rows.map λr=>r.1.row r.2),.ah,.ah,.ah,.ah,.ah,.ah,.ah,.ah,.ah,.ah,.ah,.ah,.ah,.ah] (λfl Y Z=>match fl with
    |.next=>Q .none Z
    |.ret v=>Q v Z
    |.cont=>False) Z:=λZ=>by
   refine Pk ?_;refine sO (ai (b9 (ai au (ai (b9 (ai au (ai au (ai au az)))) az))) az) ?_;have l1:(Z++[MO.dict []]).length=Z.length+1:=by simp
   rw[l1];show WS _ _ [.obj "OpsCode" [("rows",.aC (rows.map λr=>r.1.row r.2)),("name",nm),("pad_size",pd),("captures",cp),("subs",.aC subs)],.aC (rows.map λr=>r.1.row r.2),.ref Z.length,.ref (Z.length+1),.ah,.ah,.ah,.ah,.ah,.ah,.ah,.ah,.ah,.ah,.ah,.ah] _ _;have h0:D 0=⟨0,0,0⟩:=ct.start;have Pu:0<rows.length:=by
    obtain⟨K,hl,_⟩:=ct.last;rcases rows with _|⟨x,r⟩
    ·cases hl
    ·simp
   refine WG (4*rows.length+2) (vO ct hN (by lia) _ [] [0] _ _ _ _ _ _ _ _ _ _ ⟨?_,?_,List.nodup_nil,(λi h=>by cases h),(λi h=>by cases List.mem_singleton.mp h;exact Pu),by simp⟩ (by simp) λZ' is y4 y5 y6 y7 y8 y9 y10 y11 y12 g=>?_)
   ·show(Z++[MO.dict []]++[_])[Z.length]?=some (.dict [])
    rw[List.getElem?_append_left (by simp)];exact dD
   ·have:=dD (Z:=Z++[MO.dict []]) (x:=.list (dN D [0]))
    rw[l1]at this;rw[<-this];unfold dN;show _=(Z++[MO.dict []]++[MO.list [.af [.int 0,dc (D 0)]]])[Z.length+1]?;rw[h0];rfl
   ·refine iW (Pr ct hN hs (λs k9=>⟨?_,λZ Q q=>vP d s (IH s k9) n (by lia) Z Q q⟩) g λρ Z'=>k Z')
    have h:=IH s k9
    match d,h with
    |d+1,h=>
     refine cps λG g=>?_;obtain⟨_,_,_,_,_,_,e,_⟩:=h;refine g ?_;rw[e];rfl
  refine w_ite (K3 ?_);refine yy (cf:=aq ao aj n) (v:=.aC (rows.map λr=>r.1.row r.2)) (vs:=rows.map λr=>r.1.row r.2) (ak rfl rfl) rfl (by rw[List.length_map];unfold lim;lia) (λs k9 cD Q1 q=>?_) λcD=>?_
  ·obtain⟨r,hr,rfl⟩:=List.mem_map.mp k9
   obtain⟨i,hi⟩:=List.getElem?_of_mem hr;refine cps λG g=>?_;obtain⟨hK,hj,_,_,hp,_⟩:=ct.row i r.1 r.2 hi;refine g ?_;refine CO (vs:=[r.1.row r.2,.int rows.length]) (ai (ak rfl rfl) (ai (cG (x:=.aC (rows.map λr=>r.1.row r.2)) (ak rfl rfl) ?_) az)) rfl (λQ q=>hK.rr r.2 hj rows.length (λp WJ=>?_) n (by lia) Q cD λc=>q _) q
   ·show(if _ then _ else _)=_
    rw[if_pos (by rw[List.length_map];unfold lim;lia),List.length_map]
   ·obtain⟨q,e,h1,_⟩:=hp p WJ
    lia
  ·refine(bK (xs:=[]) (vs:=[]) az).to _ ?_
   exact bk (a:=false) rfl (DV ((mL (fin cD)).to))
end
noncomputable def iK(pI:List Int)(at':Nat):List (V×V):=[(.str "script",.aC (pI.map V.int)),(.str "at",.int at')]
noncomputable def Mi(a:Nat)(Z:H):Prop:=∃(pI:List Int) (at':Nat),Z[a]?=some (.dict (iK pI at'))/\pI.length<=63
noncomputable def dP(n k a:Nat)(vs:List V)(P:V->Prop):Prop:=∀Z (Q:V->H->Prop),Mi a Z->(∀v Z',Mi a Z'->P v->Q v Z')->aq ao aj n k vs Q Z
structure Dr (n a:Nat) (ρ:List V) (x:X) (P:V->Prop):Prop where
 to:∀Z (Q:V->H->Prop),Mi a Z->(∀v Z',Mi a Z'->P v->Q v Z')->b8 (aq ao aj n) aj x ρ Q Z
structure II (n a:Nat) (ρ:List V) (xs:List X) (P:List V->Prop):Prop where
 to:∀Z (Q:List V->H->Prop),Mi a Z->(∀v Z',Mi a Z'->P v->Q v Z')->fN (aq ao aj n) aj xs ρ Q Z
structure DS (n a:Nat) (ρ:List V) (ss:List S) (P:V->Prop):Prop where
 to:∀Z (Q:Fl->List V->H->Prop),Mi a Z->(∀v ρ' Z',Mi a Z'->P v->Q (.ret v) ρ' Z')->WS (aq ao aj n) ss ρ Q Z
structure PE (n:Nat) (ρ:List V) (x:X) (v:V):Prop where
 to:∀Z,Ev (aq ao aj n) ρ Z x v
structure WM (n:Nat) (ρ:List V) (xs:List X) (vs:List V):Prop where
 to:∀Z,vR (aq ao aj n) ρ Z xs vs
section
variable {n a:Nat}{ρ:List V}{P R:V->Prop}{RL:List V->Prop}{x c t e:X}{xs:List X}
theorem Dr.mono(h:Dr n a ρ x P)(f:∀v,P v->R v):Dr n a ρ x R:=⟨λZ Q s k=>h.to Z Q s λv Z' s' p=>k v Z' s' (f v p)⟩
theorem dP.mono{k:Nat}(h:dP n k a vs P)(f:∀v,P v->R v):dP n k a vs R:=λZ Q s k=>h Z Q s λv Z' s' p=>k v Z' s' (f v p)
theorem nO{v:V}(h:PE n ρ x v)(p:R v):Dr n a ρ x R:=⟨λZ Q s k=>(h.to Z).to Q (k v Z s p)⟩
theorem kG{v:V}(p:R v):Dr n a ρ (.aI v) R:=nO ⟨λZ=>au⟩ p
theorem aG(p:RL []):II n a ρ [] RL:=⟨λZ Q s k=>by exact k [] Z s p⟩
theorem av(h:Dr n a ρ x P)(t:∀v,P v->II n a ρ xs λws=>RL (v::ws)):II n a ρ (x::xs) RL:=⟨λZ Q s k=>by
 exact h.to Z _ s λv Z' s' p=>(t v p).to Z' _ s' λws Z2 s2 q=>k (v::ws) Z2 s2 q⟩
theorem aD{v:V}(t:II n a ρ xs λws=>RL (v::ws)):II n a ρ (.aI v::xs) RL:=av (P:=λw=>w=v) (kG rfl) λw e=>by subst e;exact t
theorem cA{v:V}(h:PE n ρ x v)(t:II n a ρ xs λws=>RL (v::ws)):II n a ρ (x::xs) RL:=av (P:=λw=>w=v) (nO h rfl) λw e=>by subst e;exact t
theorem aU(h:II n a ρ xs λvs=>R (.af vs)):Dr n a ρ (.af xs) R:=⟨λZ Q s k=>by
 exact h.to Z _ s λvs Z' s' p=>k _ Z' s' p⟩
theorem pZ(h:II n a ρ xs λvs=>R (.aC vs)):Dr n a ρ (.bJ xs) R:=⟨λZ Q s k=>by
 exact h.to Z _ s λvs Z' s' p=>k _ Z' s' p⟩
theorem bP{k:Nat}(ha:WM n ρ xs vs)(hg:aj[k]?=some (.fn j))(h:dP n j a vs R):Dr n a ρ (.call (.aA k) xs) R:=⟨λZ Q s k=>by
 exact e9 hg ((ha.to Z).to _ (h Z Q s k))⟩
theorem fc{b:Bool}(h:PE n ρ c (.bool b))(ht:b=true->Dr n a ρ t R)(he:b=false->Dr n a ρ e R):Dr n a ρ (.ite c t e) R:=⟨λZ Q s k=>by
 cases b with
 |true=>exact(h.to Z).to _ (KZ ((ht rfl).to Z Q s k))
 |false=>exact(h.to Z).to _ (DV ((he rfl).to Z Q s k))⟩
theorem CQ{i:Nat}(he:∀v,Dr n a (ρ.set i v) x P){C:List V->(V->H->Prop)->H->Prop}:∀(vs:List V) (ρ':List V),(∀v,ρ'.set i v=ρ.set i v)->∀Z (Q:List V->H->Prop),Mi a Z->(∀ys Z',Mi a Z'->ys.length=vs.length->(∀y∈ys,P y)->Q ys Z')->
  iP (λρ Q Z=>b8 (aq ao aj n) aj x ρ Q Z) C false true [i] ρ' vs Q Z
 |[],ρ',aR,Z,Q,s,k=>k [] Z s rfl λy h=>by cases h
 |v::vs,ρ',QH,Z,Q,s,k=>by
  show b8 _ aj x (ρ'.set i v) _ Z;rw[QH v];refine(he v).to Z _ s λy cD s1 p=>?_;refine CQ he vs (ρ.set i v) (λw=>by rw[List.set_set]) cD _ s1 λys Z2 s2 l q=>k (y::ys) Z2 s2 (by simp[l]) λz hz=>?_;rcases List.mem_cons.mp hz with rfl|hz
  ·exact p
  ·exact q z hz
theorem Am:∀(m:Nat) (z:Int),(kJ z m).length=m
 |0,aR=>rfl
 |m+1,z=>by simp[kJ,Am m]
theorem p5{i:Nat}(hi:Dr n a ρ it λv=>∃k:Nat,v=.k8 0 (k:Int) 1/\k<=3/\T k)(he:∀v,Dr n a (ρ.set i v) x P):Dr n a ρ (.comp x true [i] it none) λv=>∃ys,v=.aC ys/\ys.length<=3/\T ys.length/\∀y∈ys,P y:=⟨λZ Q s k=>by
 refine hi.to Z _ s λv cD s1 ⟨m,e,h3,tm⟩=>?_;subst e;refine bk (g4 (by lia)) (kT (by rw[Am];unfold lim;lia) ?_);refine CQ he _ _ (λw=>by show(ρ.set i V.ah).set i w=_;rw[List.set_set]) cD _ s1 λys Z2 s2 l q=>?_;rw[Am]at l;exact k _ Z2 s2 ⟨ys,rfl,by lia,by rw[l];exact tm,q⟩⟩
theorem mh(h:Dr n a ρ x λv=>∃k:Nat,v=.int k/\T k):Dr n a ρ (.range [x]) λv=>∃k:Nat,v=.k8 0 (k:Int) 1/\T k:=⟨λZ Q s k=>by
 refine Ox (qB (h.to Z _ s λv cD s1 ⟨m,e,tm⟩=>?_));subst e;exact Qw (bk (a:=V.k8 0 (m:Int) 1) rfl (k _ cD s1 ⟨m,rfl,tm⟩))⟩
theorem fG{i:Nat}(h:Dr n a ρ x P)(t:∀v,P v->DS n a (ρ.set i v) r R):DS n a ρ (.cO i x::r) R:=⟨λZ Q s k=>⟨by
 exact h.to Z _ s λv Z' s' p=>((t v p).to Z' Q s' k).to⟩⟩
theorem bE{b:Bool}{ss:List S}(h:PE n ρ c (.bool b))(ht:b=true->DS n a ρ ss R)(hr:b=false->DS n a ρ r R):DS n a ρ (.ite c ss []::r) R:=⟨λZ Q s k=>by
 cases b with
 |true=>exact bU (h.to Z) ((ht rfl).to Z _ s k)
 |false=>exact cE (h.to Z) ((hr rfl).to Z _ s k)⟩
theorem bx(h:Dr n a ρ x R):DS n a ρ (.ret (some x)::r) R:=⟨λZ Q s k=>⟨by
 exact h.to Z _ s λv Z' s' p=>k v ρ Z' s' p⟩⟩
theorem eH{k:Nat}{f:Fn}(hf:ao[k]?=some f)(ha:vs.length=f.sX)(h:DS n a (vs++List.replicate f.C2 .ah) f.body R):dP (n+1) k a vs R:=λZ Q s k=>bG hf ha (h.to Z _ s λv ρ' Z' s' p=>k v Z' s' p)
theorem kW{z:Int}(h1:ρ[1]?=some (.int z)):PE n ρ (.cmp .gt (.aa 1) (.aI (V.int 0))) (.bool (decide (0<z))):=⟨λZ=>aJ (ak h1 rfl) au rfl⟩
theorem bY{i:Nat}{k:Int}(h:ρ[i]?=some (.int k)):PE n ρ (.cmp .eq (.aa i) (.aI (V.int m))) (.bool (decide (k=m))):=⟨λZ=>aJ (ak h rfl) au rfl⟩
theorem QK{i:Nat}{k:Int}(h:ρ[i]?=some (.int k)):PE n ρ (.cmp .lt (.aa i) (.aI (V.int m))) (.bool (decide (k<m))):=⟨λZ=>aJ (ak h rfl) au rfl⟩
theorem Mj{i:Nat}{k:Int}(h:ρ[i]?=some (.int k)):PE n ρ (.cmp .gt (.aa i) (.aI (V.int m))) (.bool (decide (m<k))):=⟨λZ=>aJ (ak h rfl) au rfl⟩
theorem Ew{i:Nat}{k l:Int}(h:ρ[i]?=some (.int k)):PE n ρ (.cmp .isin (.aa i) (.af [(.aI (V.int m)),(.aI (V.int l))])) (.bool (decide (m=k)||(decide (l=k)||false))):=⟨λZ=>aJ (ak h rfl) (b9 (ai au (ai au az))) rfl⟩
theorem kH(h0:ρ[0]?=some (.ref a)):WM n ρ [(.aa 0),(.aI (V.int m))] [.ref a,.int m]:=⟨λZ=>ai (ak h0 rfl) (ai au az)⟩
theorem jl{z:Int}(h0:ρ[0]?=some (.ref a))(h1:ρ[1]?=some (.int z)):WM n ρ [(.aa 0),(.aa 1)] [.ref a,.int z]:=⟨λZ=>ai (ak h0 rfl) (ai (ak h1 rfl) az)⟩
theorem qL{z:Int}(h0:ρ[0]?=some (.ref a))(h1:ρ[1]?=some (.int z)):WM n ρ [(.aa 0),(.bin .sub (.aa 1) (.aI (V.int m)))] [.ref a,.int (z-m)]:=⟨λZ=>ai (ak h0 rfl) (ai (cX (ak h1 rfl) au rfl) az)⟩
end
theorem Pw:cQ (.cM (iK pI at')) (.str "at")=some (.int at'):=by
 rfl
theorem Mk:cQ (.cM (iK pI at')) (.str "script")=some (.aC (pI.map V.int)):=by
 rfl
theorem Ud{b:Nat}:putK (iK pI at') (.str "at") (.int b)=some (iK pI b):=by
 rfl
theorem pull{a:Nat}(hm:0<m)(hn:1<=n):dP n 118 a [.ref a,.int m] λv=>∃k:Nat,v=.int k/\(k:Int)<m:=by
 obtain⟨n,rfl⟩:=e1 n;intro Z Q ⟨pI,at',hs,hl⟩ k;have d:cH Z (.ref a)=.cM (iK pI at'):=gX hs;refine bG (f:=oG) rfl rfl ?_;refine dG (v:=.int at') (aE (x:=.ref a) (y:=.str "at") (ak rfl rfl) au (by rw[d];exact Pw)) ?_;have e2:∀{Z x},Ev (aq ao aj n) [.ref a,.int m,.int at',x] Z (.aa 2) (.int at'):=λ{Z x}=>ak rfl rfl;refine Eu (a:=a) (kvs:=iK pI at') (kvs':=iK pI (at'+1)) (k:=.str "at") (v:=.int ((at'+1:Nat):Int)) (cX e2 (au (v:=.int 1)) rfl) (ak rfl rfl) au hs (by show 2<lim;unfold lim;lia) rfl Ud ?_;have Zi:(Z.set a (.dict (iK pI (at'+1))))[a]?=some (.dict (iK pI (at'+1))):=bW hs;generalize Z.set a (.dict (iK pI (at'+1)))=cD at Zi ⊢;have d1:cH cD (.ref a)=.cM (iK pI (at'+1)):=gX Zi;refine dG (v:=.aC (pI.map V.int)) (aE (x:=.ref a) (y:=.str "script") (ak rfl rfl) au (by rw[d1];exact Mk)) ?_;have e3:Ev (aq ao aj n) [.ref a,.int m,.int at',.aC (pI.map V.int)] cD (.aa 3) (.aC (pI.map V.int)):=ak rfl rfl;have el:Ev (aq ao aj n) [.ref a,.int m,.int at',.aC (pI.map V.int)] cD (.len (.aa 3)) (.int pI.length):=by
  refine cG e3 ?_;show(if _ then _ else _)=_;rw[if_pos (by rw[List.length_map];unfold lim;lia),List.length_map]
 obtain⟨y,ey⟩:∃y:Int,Ev (aq ao aj n) [.ref a,.int m,.int at',.aC (pI.map V.int)] cD (.ite (.cmp .lt (.aa 2) (.len (.aa 3))) (.sub (.aa 3) (.aa 2)) (.bin .add (.bin .add (.bin .mul (.aI (V.int 7)) (.aa 2)) (.bin .div (.aa 2) (.aI (V.int 3)))) (.aI (V.int 5)))) (.int y):=by
  by_cases h:at'<pI.length
  ·refine⟨pI[at'],gE (aJ (z:=true) e2 el ?_) (aE e3 e2 ?_)⟩
   ·show some (decide ((at':Int)<(pI.length:Int)))=_
    rw[decide_eq_true (by lia)]
   ·show cQ (.aC _) _=_
    rw[fK];exact jg (by rw[List.getElem?_map,List.getElem?_eq_getElem h];rfl) (by lia)
  ·refine⟨7*at'+at' / 3+5,fU (aJ (z:=false) e2 el ?_) (cX (x:=.int (7*at'+at' / 3)) (cX (x:=.int (7*at')) (y:=.int (at' / 3)) (cX (au (v:=.int 7)) e2 ?_) (cX e2 (au (v:=.int 3)) ?_) rfl) (au (v:=.int 5)) rfl)⟩
   ·show some (decide ((at':Int)<(pI.length:Int)))=_
    rw[decide_eq_false (by lia)]
   ·show(if (0:Int)<=7/\(7:Int)<1000 then some (V.int (7*(at':Int))) else none)=_
    exact if_pos (by decide)
   ·show(if (0:Int)<3/\(3:Int)<1000000 then some (V.int ((at':Int) / 3)) else none)=_
    exact if_pos (by decide)
 refine jf (v:=.int (y % m)) (cX ey (ak (v:=.int m) rfl rfl) ?_) ?_
 ·show(if 0<m then some (V.int (y % m)) else none)=_
  rw[if_pos hm]
 ·have h0:=Int.emod_nonneg y (by lia:m≠0)
  have h1:=Int.emod_lt_of_pos y hm;refine k _ _ ⟨pI,at'+1,Zi,hl⟩ ⟨(y % m).toNat,by rw[Int.toNat_of_nonneg h0],by rw[Int.toNat_of_nonneg h0];exact h1⟩
section
variable {n a:Nat}{ρ:List V}{P R:V->Prop}{RL:List V->Prop}{x c t e:X}{xs:List X}
theorem dF(h0:ρ[0]?=some (.ref a))(hm:autoParam (0<m) vU)(hn:autoParam (1<=n) bu):Dr n a ρ (.call (.aA 118) [(.aa 0),(.aI (V.int m))]) λv=>∃k:Nat,v=.int k/\(k:Int)<m:=
 bP (kH h0) rfl (pull hm hn)
theorem bQ(h0:ρ[0]?=some (.ref a))(h:II n a ρ xs λvs=>(vs.length:Int)=m/\∀v∈vs,R v)(hm:autoParam (0<m/\m<100) vU)(hn:autoParam (1<=n) bu):Dr n a ρ (.sub (.bJ xs) (.call (.aA 118) [(.aa 0),(.aI (V.int m))])) R:=⟨λZ Q s k=>by
 refine w_sub ((pZ (R:=λv=>∃vs,v=.aC vs/\(vs.length:Int)=m/\∀v∈vs,R v) (II.mk λZ Q s k=>h.to Z Q s λvs Z' s' p=>k vs Z' s' ⟨vs,rfl,p⟩)).to Z _ s λv cD s1 ⟨vs,e,l,p⟩=>?_);subst e;refine(dF h0 hm.1).to cD _ s1 λw Z2 s2 ⟨j,e,hj⟩=>?_;subst e;have hj':j<vs.length:=by lia
 have e:cQ (cH Z2 (.aC vs)) (.int (j:Int))=some vs[j]:=by
  show cQ (.aC vs) _=_;rw[fK];exact jg (List.getElem?_eq_getElem hj') (by lia)
 show aT (cQ (cH Z2 (.aC vs)) (.int (j:Int))) (λz=>Q z Z2);rw[e];exact k _ Z2 s2 (p _ (List.getElem_mem hj'))⟩
end
noncomputable def shp:V->Bool
 |.af (.str h::r)=>decide (h≠"block")&&decide (r.length<=10)
 |_=>false
structure dh (F W:Nat) (hd:String) (v:V):Prop extends nL F W hd v where
 sh:shp v=true
theorem dh.mono{v:V}(h:dh F W hd v)(hF:autoParam (F<=F') bu)(hW:autoParam (W<=W') bu):dh F' W' hd v:=⟨h.tonL.mono hF hW,h.sh⟩
theorem ln{k m:Nat}(h:Nat.ble k m=true):k<=m:=Nat.le_of_ble_eq_true h
noncomputable def NX(F W:Nat)(v:V):Prop:=∃hd,dh F W hd v
noncomputable def Px(F W:Nat)(v:V):Prop:=∀n,F+12<=n->aO n 73 [v] F W 1
noncomputable def AX(F W:Nat)(v:V):Prop:=NX F W v/\Px F W v/\∃r,v=.af r
noncomputable def LX(F W:Nat)(v:V):Prop:=dh F W "list" v
noncomputable def A0(v:V):Prop:=v=.af [.str "pada",.int 4]\/v=.af [.str "globa",.str "main::a"]
noncomputable def L0(v:V):Prop:=v=.af [.str "pads",.int 0]\/v=.af [.str "mys",.int 1]\/v=.af [.str "globs",.str "main::x"]
section
variable {F W F' W' F2 W2:Nat}{hd:String}{r:List V}{v:V}
theorem bf.mono(h:bf F W v)(hF:autoParam (F<=F') bu)(hW:autoParam (W<=W') bu):bf F' W' v:=λn hn w hw=>(h n (by lia) w hw).mono hF hW
theorem kD.mono(h:kD F W v)(hF:autoParam (F<=F') bu)(hW:autoParam (W<=W') bu):kD F' W' v:=λn hn=>(h n (by lia)).mono hF hW
theorem Px.mono(h:Px F W v)(hF:autoParam (F<=F') bu)(hW:autoParam (W<=W') bu):Px F' W' v:=λn hn=>(h n (by lia)).mono hF hW
theorem NX.mono(h:NX F W v)(hF:autoParam (F<=F') bu)(hW:autoParam (W<=W') bu):NX F' W' v:=by
 obtain⟨hd,h⟩:=h;exact⟨hd,h.mono hF hW⟩
theorem AX.mono(h:AX F W v)(hF:autoParam (F<=F') bu)(hW:autoParam (W<=W') bu):AX F' W' v:=⟨h.1.mono hF hW,h.2.1.mono hF hW,h.2.2⟩
noncomputable def plain(hd:String):Bool:=decide (hd≠"func"/\hd≠"globc"/\hd≠"rv2c"/\hd≠"list"/\hd≠"block")
theorem xo(c:bf F W (.af (.str hd::r)))(l:kD F2 W2 (.af (.str hd::r)))(h:autoParam (plain hd=true) vU)(b:autoParam (F<=F'/\W<=W'/\F2<=F'/\W2<=W') bu)(hr:autoParam (r.length<=10) Zt):dh F' W' hd (.af (.str hd::r)):=by
 have h:=dt h;exact⟨⟨⟨⟨r,rfl⟩,c.mono b.1 b.2.1,l.mono b.2.2.1 b.2.2.2,Ah h.1⟩,⟨h.2.1,h.2.2.1⟩,λe=>absurd e h.2.2.2.1⟩,by show(decide (hd≠"block")&&decide (r.length<=10))=true;rw[decide_eq_true h.2.2.2.2,decide_eq_true hr];rfl⟩
theorem nx(c:bf F W (.af (.str hd::r)))(l:autoParam (dI gV hd=none) vU)(h:autoParam (plain hd=true) vU)(b:autoParam (F<=F'/\W<=W'/\1<=F'/\1<=W') bu)(hr:autoParam (r.length<=10) Zt):dh F' W' hd (.af (.str hd::r)):=xo c (OO l) h b hr
theorem fE{x:V}(l:kD F W (.af [.str "func",.str nm,x]))(b:autoParam (F<=F'/\W<=W'/\1<=F'/\2<=W') bu):dh F' W' "func" (.af [.str "func",.str nm,x]):=
 ⟨⟨⟨⟨_,rfl⟩,(Wj (by decide+kernel)).mono b.2.2.1 b.2.2.2,l.mono b.1 b.2.1,Lx⟩,by decide,λe=>absurd e (by decide)⟩,rfl⟩
theorem Ml{x:V}:dh 2 2 "num" (.af [.str "num",x]):=nx Wk
theorem WN{x:V}:dh 2 2 "str" (.af [.str "str",x]):=nx Ly
theorem Py:dh 2 2 "undef" (.af [.str "undef"]):=nx OP
theorem CR:dh 2 2 "wantarray" (.af [.str "wantarray"]):=nx Cz
theorem WO:dh 2 2 "odd" (.af [.str "odd"]):=nx (Wj (by decide+kernel))
theorem Mm:dh 5 3 "globs" (.af [.str "globs",.str "main::1"]):=xo LD Ai
theorem p6:dh 5 3 "globs" (.af [.str "globs",.str "main::x"]):=xo LF Ai
theorem An{x:V}:dh 5 3 "pads" (.af [.str "pads",x]):=xo Tf Lz
theorem Gn{x:V}:dh 5 3 "mys" (.af [.str "mys",x]):=xo Wq QE
theorem Ex{x:V}:dh 5 3 "pada" (.af [.str "pada",x]):=xo Tg LA
theorem Ao{x:V}:dh 5 3 "globa" (.af [.str "globa",x]):=xo OQ Gf
theorem Mn{x:V}:dh 5 3 "padh" (.af [.str "padh",x]):=xo Th LC
theorem Gp{x:V}:dh 5 3 "globh" (.af [.str "globh",x]):=xo OR Gg
theorem L0.x(h:L0 v):NX 5 3 v:=by
 rcases h with rfl|rfl|rfl
 ·exact⟨_,An⟩
 ·exact⟨_,Gn⟩
 ·exact⟨_,p6⟩
theorem L0.t(h:L0 v):Px 6 4 v:=by
 rcases h with rfl|rfl|rfl
 ·exact λn hn=>TG An.ok (by lia)
 ·exact λn hn=>Wr Gn.ok (by lia)
 ·exact λn hn=>O2 p6.ok (by lia)
theorem L0.af(h:L0 v):∃r,v=.af r:=by
 rcases h with rfl|rfl|rfl<;>exact⟨_,rfl⟩
theorem A0.x(h:A0 v):AX 6 4 v:=by
 rcases h with rfl|rfl
 ·exact⟨NX.mono ⟨_,Ex⟩ (by lia) (by lia),λn hn=>TH Ex.ok (by lia),_,rfl⟩
 ·exact⟨NX.mono ⟨_,Ao⟩ (by lia) (by lia),λn hn=>O3 Ao.ok (by lia),_,rfl⟩
theorem Pz(hl:ys.length<=2)(h:∀y∈ys,NX F W y):LX (F+4) (2*W+6) (.af [.str "list",.aC ys]):=by
 have key:∀{G V':Nat},bf G V' (.af [.str "list",.aC ys])->G<=F+4->V'<=2*W+6->∀{G2 V2},CC G2 V2 ys->G2<=F+4->V2<=2*W+6->LX (F+4) (2*W+6) (.af [.str "list",.aC ys]):=λ{G V'} c h1 h2 {G2 V2} rf h3 h4=>
  ⟨⟨⟨⟨_,rfl⟩,c.mono h1 h2,(OO (by decide+kernel)).mono,Ah (by decide)⟩,by decide,λY=>⟨ys,rfl,λn hn=>(rf n (by lia)).mono h3 h4⟩⟩,rfl⟩
 rcases ys with _|⟨x,_|⟨y,_|⟨_,_⟩⟩⟩
 ·exact key OX (by lia) (by lia) Wx (by lia) (by lia)
 ·obtain⟨_,X⟩:=h x (by simp)
  exact key (OY X.ok) (by lia) (by lia) (Wy X.tonL) (by lia) (by lia)
 ·obtain⟨_,X⟩:=h x (by simp)
  obtain⟨_,Yy⟩:=h y (by simp);exact key (OZ X.ok Yy.ok) (by lia) (by lia) (Wz X.tonL Yy.tonL) (by lia) (by lia)
 ·simp at hl
end
section
variable {n a:Nat}{ρ:List V}{x y:V}{z:Int}
theorem Xv:PE n ρ (.af [.aI x]) (.af [x]):=⟨λZ=>b9 (ai au az)⟩
theorem p9:PE n ρ (.af [.aI x,.aI y]) (.af [x,y]):=⟨λZ=>b9 (ai au (ai au az))⟩
theorem sV{k:Nat}{R:V->Prop}{w:V}(h2:ρ[2]?=some (.int (k:Int)))(hx:WM n ρ xs [u,w])(p:R u/\R w):Dr n a ρ (.sub (.bJ xs) (.bin .mod (.aa 2) (.aI (V.int 2)))) R:=by
 have e:(k:Int) % 2=0\/(k:Int) % 2=1:=by lia
 have hm:∀Z,Ev (aq ao aj n) ρ Z (.bin .mod (.aa 2) (.aI (V.int 2))) (.int ((k:Int) % 2)):=λZ=>cX (ak h2 rfl) au (by show(if (0:Int)<2 then some (V.int ((k:Int) % 2)) else none)=_;exact if_pos (by decide));rcases e with e|e
 ·refine nO (v:=u) ⟨λZ=>aE (x:=.aC [u,w]) (bK (hx.to Z)) (hm Z) ?_⟩ p.1
  rw[e];rfl
 ·refine nO (v:=w) ⟨λZ=>aE (x:=.aC [u,w]) (bK (hx.to Z)) (hm Z) ?_⟩ p.2
  rw[e];rfl
theorem Ue(hz:z<=0)(hn:2<=n):dP n 119 a [.ref a,.int z] A0:=by
 obtain⟨n,rfl⟩:=e1 n;refine eH (f:=i7) rfl rfl ?_;refine fG (dF rfl) ?_;rintro v ⟨k,rfl,hk⟩;refine bx (fc (b:=false) ⟨λZ=>?_⟩ (λh=>absurd h (by decide)) λY=>?_)
 ·have e2:Ev (aq ao aj n) [.ref a,.int z,.int (k:Int)] Z (.cmp .eq (.aa 2) (.aI (V.int 2))) (.bool (decide ((k:Int)=2))):=(bY rfl).to Z
  have e1:Ev (aq ao aj n) [.ref a,.int z,.int (k:Int)] Z (.cmp .gt (.aa 1) (.aI (V.int 0))) (.bool false):=by
   have:=(kW (n:=n) (ρ:=[.ref a,.int z,.int (k:Int)]) (z:=z) rfl).to Z;rw[decide_eq_false (by lia)]at this;exact this
  cases hd:decide ((k:Int)=2)with
  |true=>rw[hd]at e2;exact gy e2 e1
  |false=>rw[hd]at e2;exact fq e2
 ·exact sV rfl ⟨λZ=>ai (p9.to Z) (ai (p9.to Z) az)⟩ ⟨.inl rfl,.inr rfl⟩
theorem Xw(hz:z<=0)(hn:2<=n):dP n 121 a [.ref a,.int z] L0:=by
 obtain⟨n,rfl⟩:=e1 n;refine eH (f:=nV) rfl rfl ?_;refine fG (P:=λv=>∃k:Nat,v=.int k/\(k:Int)<3) (fc (kW rfl) (λh=>absurd (dt h) (by lia)) λY=>dF rfl) ?_;rintro v ⟨k,rfl,hk⟩;refine bE (QK rfl) (λY=>bx ?_) λh=>absurd hk (of_decide_eq_false h);have hx:∀Z,vR (aq ao aj n) [.ref a,.int z,.int (k:Int)] Z [(.af [(.aI (V.str "pads")),(.aI (V.int 0))]),(.af [(.aI (V.str "mys")),(.aI (V.int 1))]),(.af [(.aI (V.str "globs")),(.aI (V.str "main::x"))])] [.af [.str "pads",.int 0],.af [.str "mys",.int 1],.af [.str "globs",.str "main::x"]]:=λZ=>ai (p9.to Z) (ai (p9.to Z) (ai (p9.to Z) az))
 match k,hk with
 |0,aR=>exact nO ⟨λZ=>aE (bK (hx Z)) (ak (v:=.int ((0:Nat):Int)) rfl rfl) rfl⟩ (.inl rfl)
 |1,aR=>exact nO ⟨λZ=>aE (bK (hx Z)) (ak (v:=.int ((1:Nat):Int)) rfl rfl) rfl⟩ (.inr (.inl rfl))
 |2,aR=>exact nO ⟨λZ=>aE (bK (hx Z)) (ak (v:=.int ((2:Nat):Int)) rfl rfl) rfl⟩ (.inr (.inr rfl))
 |k+3,hk=>lia
theorem WQ(hz:z<=0)(hn:2<=n):dP n 120 a [.ref a,.int z] (NX 5 3):=by
 obtain⟨n,rfl⟩:=e1 n;refine eH (f:=jM) rfl rfl ?_;refine fG (dF rfl) ?_;rintro v ⟨k,rfl,hk⟩;refine bx (fc (b:=false) ⟨λZ=>?_⟩ (λh=>absurd h (by decide)) λY=>?_)
 ·have e2:Ev (aq ao aj n) [.ref a,.int z,.int (k:Int)] Z (.cmp .eq (.aa 2) (.aI (V.int 2))) (.bool (decide ((k:Int)=2))):=(bY rfl).to Z
  have e1:Ev (aq ao aj n) [.ref a,.int z,.int (k:Int)] Z (.cmp .gt (.aa 1) (.aI (V.int 0))) (.bool false):=by
   have:=(kW (n:=n) (ρ:=[.ref a,.int z,.int (k:Int)]) (z:=z) rfl).to Z;rw[decide_eq_false (by lia)]at this;exact this
  cases hd:decide ((k:Int)=2)with
  |true=>rw[hd]at e2;exact gy e2 e1
  |false=>rw[hd]at e2;exact fq e2
 ·exact sV rfl ⟨λZ=>ai (p9.to Z) (ai (p9.to Z) az)⟩ ⟨⟨_,Mn⟩,⟨_,Gp⟩⟩
theorem Gq(h0:ρ[0]?=some (.ref a))(hn:1<=n):Dr n a ρ (.sub (.bJ [(.af [(.aI (V.str "num")),(.aI (V.int 1))]),(.af [(.aI (V.str "str")),(.aI (V.str "a"))]),(.af [(.aI (V.str "undef"))]),(.af [(.aI (V.str "globs")),(.aI (V.str "main::1"))]),(.af [(.aI (V.str "wantarray"))]),(.af [(.aI (V.str "odd"))])]) (.call (.aA 118) [(.aa 0),(.aI (V.int 6))])) (NX 5 3):=
 bQ h0 (cA p9 (cA p9 (cA Xv (cA p9 (cA Xv (cA Xv (aG ⟨rfl,all_cons ⟨_,Ml.mono⟩ (all_cons ⟨_,WN.mono⟩ (all_cons ⟨_,Py.mono⟩ (all_cons ⟨_,Mm⟩ (all_cons ⟨_,CR.mono⟩ (all_cons ⟨_,WO.mono⟩ all_nil)))))⟩)))))))
theorem QL(hz:z<=0)(hn:2<=n):dP n 125 a [.ref a,.int z] (NX 5 3):=by
 obtain⟨n,rfl⟩:=e1 n;refine eH (f:=jN) rfl rfl ?_;refine fG (P:=λv=>v=.int 0) (fc (kW rfl) (λh=>absurd (dt h) (by lia)) λY=>kG rfl) ?_;rintro v rfl;refine bE (bY rfl) (λY=>bx (Gq rfl (by lia))) λh=>absurd (of_decide_eq_false h) (by decide)
end
noncomputable def SX(F W:Nat)(v:V):Prop:=(∃r,v=.af r)/\kU (F+4) (W+40) v/\nh (F+4) W v
noncomputable def BX(F W:Nat)(v:V):Prop:=(∃ss,v=.af [.str "block",.aC ss])/\iI (F+6) (2*W+90) v/\fW (F+6) (6*W+4) v/\∀nm,r8 (F+9) (.af [.str "subdef",.str nm,v,.int 6,.aC []])
structure qa (d:Int) (c F W:Nat):Prop where
 node:∀{n a:Nat} {z:Int},c<=n->z<=d->dP n 125 a [.ref a,.int z] (NX F W)
 arr:∀{n a:Nat} {z:Int},c<=n->z<=d->dP n 119 a [.ref a,.int z] (AX F W)
 hash:∀{n a:Nat} {z:Int},c<=n->z<=d->dP n 120 a [.ref a,.int z] (NX F W)
 lv:∀{n a:Nat} {z:Int},c<=n->z<=d->dP n 121 a [.ref a,.int z] (NX F W)
 block:∀{n a:Nat} {z:Int},c<=n->z<=d->dP n 123 a [.ref a,.int z] (BX F W)
 stmt:∀{n a:Nat} {z:Int},c<=n->z<=d->dP n 126 a [.ref a,.int z] (SX F W)
 hd:0<=d
 hc:6<=c
 hF:10<=F/\F<=60
 hW:20<=W/\W<=200000
theorem Mp{a:Nat}{x:V}(h0:ρ[0]?=some (.ref a))(hn:1<=n)(hx:II n a ρ xs λvs=>∃u,L0 u/\vs=[u,x,y]):
  Dr n a ρ (.slice (.bJ xs) none (some (.bin .add (.aI (V.int 1)) (.call (.aA 118) [(.aa 0),(.aI (V.int 3))])))) λv=>∃u,L0 u/\(v=.aC [u]\/v=.aC [u,x]\/v=.aC [u,x,y]):=⟨λZ Q s k=>by
 refine YW ((pZ (R:=λv=>∃u,L0 u/\v=.aC [u,x,y]) (II.mk λZ Q s k=>hx.to Z Q s λvs Z' s' ⟨u,p,e⟩=>k vs Z' s' ⟨u,p,by rw[e]⟩)).to Z _ s λv cD s1 ⟨u,hu,e⟩=>?_);subst e;refine K4 (au.to _ ?_);refine(dF h0).to cD _ s1 λw Z2 s2 ⟨j,e,hj⟩=>?_;subst e
 match j,hj with
 |0,aR=>exact k _ Z2 s2 ⟨u,hu,.inl rfl⟩
 |1,aR=>exact k _ Z2 s2 ⟨u,hu,.inr (.inl rfl)⟩
 |2,aR=>exact k _ Z2 s2 ⟨u,hu,.inr (.inr rfl)⟩
 |j+3,hj=>lia⟩
section
variable {d:Int}{c F W:Nat}(L:qa d c F W){n a:Nat}{ρ:List V}{z:Int}
include L
theorem qa.nd(h0:ρ[0]?=some (.ref a))(h1:ρ[1]?=some (.int z))(hz:autoParam (z<=d+1) bu)(hn:autoParam (c<=n) bu):Dr n a ρ (.call (.aA 125) [(.aa 0),(.bin .sub (.aa 1) (.aI (V.int 1)))]) (NX F W):=bP (qL h0 h1) rfl (L.node hn (by lia))
theorem qa.ar(h0:ρ[0]?=some (.ref a))(h1:ρ[1]?=some (.int z))(hz:autoParam (z<=d+1) bu)(hn:autoParam (c<=n) bu):Dr n a ρ (.call (.aA 119) [(.aa 0),(.bin .sub (.aa 1) (.aI (V.int 1)))]) (AX F W):=bP (qL h0 h1) rfl (L.arr hn (by lia))
theorem qa.hs(h0:ρ[0]?=some (.ref a))(h1:ρ[1]?=some (.int z))(hz:autoParam (z<=d+1) bu)(hn:autoParam (c<=n) bu):Dr n a ρ (.call (.aA 120) [(.aa 0),(.bin .sub (.aa 1) (.aI (V.int 1)))]) (NX F W):=bP (qL h0 h1) rfl (L.hash hn (by lia))
theorem qa.ll(h0:ρ[0]?=some (.ref a))(h1:ρ[1]?=some (.int z))(hz:autoParam (z<=d+1) bu)(hn:autoParam (c<=n) bu):Dr n a ρ (.call (.aA 121) [(.aa 0),(.bin .sub (.aa 1) (.aI (V.int 1)))]) (NX F W):=bP (qL h0 h1) rfl (L.lv hn (by lia))
theorem qa.bl(h0:ρ[0]?=some (.ref a))(h1:ρ[1]?=some (.int z))(hz:autoParam (z<=d+1) bu)(hn:autoParam (c<=n) bu):Dr n a ρ (.call (.aA 123) [(.aa 0),(.bin .sub (.aa 1) (.aI (V.int 1)))]) (BX F W):=bP (qL h0 h1) rfl (L.block hn (by lia))
theorem qa.bl2(h0:ρ[0]?=some (.ref a))(h1:ρ[1]?=some (.int z))(hz:autoParam (z<=d+1) bu)(hn:autoParam (c<=n) bu):Dr n a ρ (.call (.aA 123) [(.aa 0),(.bin .sub (.aa 1) (.aI (V.int 2)))]) (BX F W):=bP (qL h0 h1) rfl (L.block hn (by lia))
theorem qa.list(hz:z<=d+1)(hn:c+1<=n):dP n 122 a [.ref a,.int z] (LX (F+4) (2*W+6)):=by
 obtain⟨n,rfl⟩:=e1 n;have hc:=L.hc;refine eH (f:=oH) rfl rfl (bx (aU (aD (av (P:=λv=>∃ys,v=.aC ys/\ys.length<=2/\∀y∈ys,NX F W y) (fc (kW rfl) (λY=>?_) λY=>?_) λv hv=>aG ?_))))
 ·refine(p5 (P:=NX F W) (T:=λk=>k<=2) (mh (T:=λk=>k<=3/\k<=2) ((dF rfl).mono λv ⟨k,e,hk⟩=>⟨k,e,by lia,by lia⟩)) λv=>L.nd rfl rfl).mono λv ⟨ys,e,_,l,h⟩=>⟨ys,e,l,h⟩
 ·exact pZ (aG ⟨[],rfl,by simp,all_nil⟩)
 ·obtain⟨ys,rfl,l,h⟩:=hv
  exact Pz l h
theorem qa.ls(h0:ρ[0]?=some (.ref a))(h1:ρ[1]?=some (.int z))(hz:autoParam (z<=d+1) bu)(hn:autoParam (c+1<=n) bu):Dr n a ρ (.call (.aA 122) [(.aa 0),(.aa 1)]) (LX (F+4) (2*W+6)):=bP (jl h0 h1) rfl (L.list hz hn)
theorem Mq{k:Int}(h1:ρ[1]?=some (.int z))(h2:ρ[2]?=some (.int k)):PE n ρ (.kI true [(.cmp .eq (.aa 2) (.aI (V.int 2))),(.cmp .gt (.aa 1) (.aI (V.int 0)))]) (.bool (decide (k=2)&&decide (0<z))):=⟨λZ=>by
 have e2:=(bY (n:=n) (ρ:=ρ) (i:=2) (m:=2) h2).to Z;have e1:=(kW (n:=n) h1).to Z;cases hd:decide (k=2)with
 |true=>rw[hd]at e2;exact gy e2 e1
 |false=>rw[hd]at e2;exact fq e2⟩
theorem qa.WR(hz:z<=d+1)(hn:c+1<=n):dP n 119 a [.ref a,.int z] (AX (F+4) (W+4)):=by
 obtain⟨n,rfl⟩:=e1 n;have hc:=L.hc;have hF:=L.hF;have hW:=L.hW;refine eH (f:=i7) rfl rfl ?_;refine fG (dF rfl) ?_;rintro v ⟨k,rfl,hk⟩;refine bx (fc (Mq L rfl rfl) (λY=>aU (aD (av (L.nd rfl rfl) λv hv=>aG ?_))) λY=>?_)
 ·obtain⟨ha,A⟩:=hv
  have N:dh (F+3) (W+3) "rv2a" (.af [.str "rv2a",v]):=xo (Ti A.ok) (Tp A.ok);exact⟨⟨_,N.mono⟩,λn hn=>TJ N.ok (by lia),_,rfl⟩
 ·exact sV rfl ⟨λZ=>ai (p9.to Z) (ai (p9.to Z) az)⟩ ⟨(A0.x (.inl rfl)).mono,(A0.x (.inr rfl)).mono⟩
theorem qa.hash'(hz:z<=d+1)(hn:c+1<=n):dP n 120 a [.ref a,.int z] (NX (F+4) (W+4)):=by
 obtain⟨n,rfl⟩:=e1 n;have hc:=L.hc;have hF:=L.hF;have hW:=L.hW;refine eH (f:=jM) rfl rfl ?_;refine fG (dF rfl) ?_;rintro v ⟨k,rfl,hk⟩;refine bx (fc (Mq L rfl rfl) (λY=>aU (aD (av (L.nd rfl rfl) λv hv=>aG ?_))) λY=>?_)
 ·obtain⟨ha,A⟩:=hv
  exact⟨_,xo (Tj A.ok) (Tq A.ok)⟩
 ·exact sV rfl ⟨λZ=>ai (p9.to Z) (ai (p9.to Z) az)⟩ ⟨⟨_,Mn.mono⟩,⟨_,Gp.mono⟩⟩
theorem Ug{nm v:V}(hu:L0 u)(hn:nm∈[V.str "substr",.str "vec",.str "pos",.str "lc"])(hv:v=.aC [u]\/v=.aC [u,.af [.str "num",.int 1]]\/v=.aC [u,.af [.str "num",.int 1],.af [.str "num",.int 8]]):NX (F+4) (2*W+10) (.af [.str "func",nm,v]):=by
 have hF:=L.hF;have hW:=L.hW;obtain⟨_,A⟩:=hu.x;have B:∀{x},dh 5 3 "num" (.af [.str "num",x]):=λ{x}=>Ml.mono;simp only[List.mem_cons,List.not_mem_nil,or_false]at hn;rcases hn with rfl|rfl|rfl|rfl<;>rcases hv with rfl|rfl|rfl
 ·exact⟨_,fE (Ig A.ok)⟩
 ·exact⟨_,fE (Ih A.ok B.ok)⟩
 ·exact⟨_,fE (Ii A.ok B.ok B.ok)⟩
 ·exact⟨_,fE (TL A.ok)⟩
 ·exact⟨_,fE (TM A.ok B.ok)⟩
 ·exact⟨_,fE (TN A.ok B.ok B.ok)⟩
 ·exact⟨_,fE (TP A.ok)⟩
 ·exact⟨_,fE (TQ A.ok B.ok)⟩
 ·exact⟨_,fE (TR A.ok B.ok B.ok)⟩
 ·exact⟨_,fE (Wu A.ok)⟩
 ·exact⟨_,fE (Wv A.ok B.ok)⟩
 ·exact⟨_,fE (Ww A.ok B.ok B.ok)⟩
theorem qa.lv'(hz:z<=d+1)(hn:c+1<=n):dP n 121 a [.ref a,.int z] (NX (F+4) (2*W+10)):=by
 obtain⟨n,rfl⟩:=e1 n;have hc:=L.hc;have hF:=L.hF;have hW:=L.hW;refine eH (f:=nV) rfl rfl ?_;refine fG (P:=λv=>∃k:Nat,v=.int k) (fc (kW rfl) (λh=>(dF rfl).mono λv ⟨k,e,_⟩=>⟨k,e⟩) λY=>(dF rfl).mono λv ⟨k,e,_⟩=>⟨k,e⟩) ?_;rintro v ⟨k,rfl⟩;refine bE (QK rfl) (λh=>bx ?_) λY=>?_
 ·have hx:∀k:Nat,∀Z,vR (aq ao aj n) [.ref a,.int z,.int (k:Int)] Z [(.af [(.aI (V.str "pads")),(.aI (V.int 0))]),(.af [(.aI (V.str "mys")),(.aI (V.int 1))]),(.af [(.aI (V.str "globs")),(.aI (V.str "main::x"))])] [.af [.str "pads",.int 0],.af [.str "mys",.int 1],.af [.str "globs",.str "main::x"]]:=λk Z=>ai (p9.to Z) (ai (p9.to Z) (ai (p9.to Z) az))
  have hk:=dt h
  match k,hk with
  |0,aR=>exact nO ⟨λZ=>aE (bK (hx 0 Z)) (ak (v:=.int ((0:Nat):Int)) rfl rfl) rfl⟩ ⟨_,An.mono⟩
  |1,aR=>exact nO ⟨λZ=>aE (bK (hx 1 Z)) (ak (v:=.int ((1:Nat):Int)) rfl rfl) rfl⟩ ⟨_,Gn.mono⟩
  |2,aR=>exact nO ⟨λZ=>aE (bK (hx 2 Z)) (ak (v:=.int ((2:Nat):Int)) rfl rfl) rfl⟩ ⟨_,p6.mono⟩
  |k+3,hk=>lia
 refine bE (bY rfl) (λY=>bx (aU (aD (av (L.ar rfl rfl) λu hu=>av (L.nd rfl rfl) λw hw=>aG ?_)))) λY=>?_
 ·obtain⟨⟨_,A⟩,_⟩:=hu
  obtain⟨_,B⟩:=hw;exact⟨_,xo (Tt A.ok B.ok) (Tr A.ok B.ok)⟩
 refine bE (bY rfl) (λY=>bx (aU (aD (av (L.hs rfl rfl) λu hu=>av (L.nd rfl rfl) λw hw=>aG ?_)))) λY=>?_
 ·obtain⟨_,A⟩:=hu
  obtain⟨_,B⟩:=hw;exact⟨_,xo (OU A.ok B.ok) (OS A.ok B.ok)⟩
 refine bE (bY rfl) (λY=>bx (aU (aD (av (P:=λv=>v∈[V.str "substr",.str "vec",.str "pos",.str "lc"]) (bQ rfl (aD (aD (aD (aD (aG ⟨rfl,λv h=>h⟩)))))) λu hu=>av (Mp (x:=.af [.str "num",.int 1]) (y:=.af [.str "num",.int 8]) rfl (by lia) (av (bP (kH rfl) rfl (Xw (by decide) (by lia))) λw hw=>cA p9 (cA p9 (aG ⟨w,hw,rfl⟩)))) λw hw=>aG ?_)))) λY=>?_
 ·obtain⟨u',h1,h2⟩:=hw
  exact Ug L h1 hu h2
 refine bx (fc (bY rfl) (λY=>aU (aD (av (L.nd rfl rfl) λw hw=>aG ?_))) λY=>aU (aD (cA p9 (aG ?_))))
 ·obtain⟨_,A⟩:=hw
  exact⟨_,xo (Tn A.ok) (To A.ok)⟩
 ·exact⟨_,xo O1 Gi⟩
end
theorem yz{x w:V}(h:hd="next"/\w=x\/hd="last"/\w=y):cQ (.cM [(.str "next",x),(.str "last",y),(.str "redo",u)]) (.str hd)=some w:=by
 rcases h with⟨rfl,rfl⟩|⟨rfl,rfl⟩
 ·rfl
 ·rfl
theorem Ey{x:V}:cQ (.cM [(.str "next",x),(.str "last",y),(.str "redo",u)]) (.str "redo")=some u:=by
 rfl
theorem Uh{l:String}:dh 2 710 "next" (.af [.str "next",.str l]):=nx (Al (by decide+kernel) λlp=>⟨lp.m1,.inl rfl,yz (.inl ⟨rfl,rfl⟩)⟩)
theorem Ui{l:String}:dh 2 710 "last" (.af [.str "last",.str l]):=nx (Al (by decide+kernel) λlp=>⟨lp.m2,.inr (.inl rfl),yz (.inr ⟨rfl,rfl⟩)⟩)
theorem Uj{l:String}:dh 2 710 "redo" (.af [.str "redo",.str l]):=nx (Al (by decide+kernel) λlp=>⟨lp.m3,.inr (.inr rfl),Ey⟩)
section
variable {d:Int}{c F W:Nat}(L:qa d c F W){n a:Nat}{ρ:List V}{z:Int}
include L
theorem qa.ols(h0:ρ[0]?=some (.ref a))(h1:ρ[1]?=some (.int z))(hz:autoParam (z<=d+1) bu)(hn:autoParam (c+1<=n) bu):Dr n a ρ (.sub (.bJ [(.aI V.none),(.call (.aA 122) [(.aa 0),(.aa 1)])]) (.call (.aA 118) [(.aa 0),(.aI (V.int 2))])) (λv=>v=.none\/LX (F+4) (2*W+6) v):=
 bQ h0 (aD (av (L.ls h0 h1) λv hv=>aG ⟨rfl,all_cons (.inl rfl) (all_cons (.inr hv) all_nil)⟩))
theorem qa.ond(h0:ρ[0]?=some (.ref a))(h1:ρ[1]?=some (.int z))(hz:autoParam (z<=d+1) bu)(hn:autoParam (c+1<=n) bu):Dr n a ρ (.sub (.bJ [(.aI V.none),(.call (.aA 125) [(.aa 0),(.bin .sub (.aa 1) (.aI (V.int 1)))])]) (.call (.aA 118) [(.aa 0),(.aI (V.int 2))])) (λv=>v=.none\/NX F W v):=
 bQ h0 (aD (av (L.nd h0 h1) λv hv=>aG ⟨rfl,all_cons (.inl rfl) (all_cons (.inr hv) all_nil)⟩))
theorem Mr{nm l:V}(hu:NX F W u)(hn:nm=.str "m"\/nm=.af [.str "pads",.int 0])(hl:l=.none\/LX (F+4) (2*W+6) l):NX (F+12) (6*W+22) (.af [.str "method",u,nm,l,.none]):=by
 have hF:=L.hF;have hW:=L.hW;obtain⟨_,A⟩:=hu.mono (F':=F+4) (W':=2*W+6);have C:dh (F+4) (2*W+6) "pads" (.af [.str "pads",.int 0]):=An.mono;rcases hn with rfl|rfl<;>rcases hl with rfl|hl
 ·exact⟨_,nx (Em A.ok)⟩
 ·exact⟨_,nx (En A.ok hl.ok)⟩
 ·exact⟨_,nx (Eo A.ok C.ok)⟩
 ·exact⟨_,nx (Ep A.ok hl.ok C.ok)⟩
theorem qa.call(hz:z<=d+1)(hn:c+2<=n):dP n 124 a [.ref a,.int z] (NX (F+12) (6*W+22)):=by
 obtain⟨n,rfl⟩:=e1 n;have hc:=L.hc;have hF:=L.hF;have hW:=L.hW;refine eH (f:=oJ) rfl rfl ?_;refine fG (dF rfl) ?_;rintro v ⟨k,rfl,hk⟩;refine bE (bY rfl) (λY=>bx (aU (aD (cA p9 (av (L.ols rfl rfl) λl hl=>aG ?_))))) λY=>?_
 ·rcases hl with rfl|hl
  ·exact⟨_,nx O6⟩
  ·exact⟨_,nx (O7 hl.ok)⟩
 refine bE (bY rfl) (λY=>bx (aU (aD (av (P:=λv=>∃u,NX F W u/\v=.af [.str "rv2c",u]) (aU (aD (av (L.nd rfl rfl) λu hu=>aG ⟨u,hu,rfl⟩))) λu hu=>av (L.ls rfl rfl) λl hl=>aG ?_)))) λY=>?_
 ·obtain⟨u,hu,rfl⟩:=hu
  obtain⟨_,B⟩:=hu.mono (F':=F+4) (W':=2*W+6);exact⟨_,nx (O8 hl.ok B.ok)⟩
 refine bE (bY rfl) (λY=>bx (aU (aD (av (L.nd rfl rfl) λu hu=>av (P:=λv=>v=.str "m"\/v=.af [.str "pads",.int 0]) (bQ rfl (aD (cA p9 (aG ⟨rfl,all_cons (.inl rfl) (all_cons (.inr rfl) all_nil)⟩)))) λm hm=>av (L.ols rfl rfl) λl hl=>aD (aG ?_))))) λY=>?_
 ·exact Mr L hu hm hl
 refine bE (bY rfl) (λY=>bx (aU (aD (av (P:=λv=>∃u,BX F W u/\v=.af [.str "subdef",.str "",u,.int 6,.aC []]) (aU (aD (aD (av (L.bl2 rfl rfl) λu hu=>aD (cA ⟨λZ=>bK az⟩ (aG ⟨u,hu,rfl⟩)))))) λu hu=>aG ?_)))) λY=>?_
 ·obtain⟨u,⟨_,_,_,hs⟩,rfl⟩:=hu
  exact⟨_,nx (ID (hs ""))⟩
 refine bE (bY rfl) (λY=>bx (aU (aD (av (L.ond rfl rfl) λu hu=>aG ?_)))) λY=>?_
 ·rcases hu with rfl|⟨_,A⟩
  ·exact⟨_,nx Ik⟩
  ·exact⟨_,nx (Il A.ok)⟩
 refine bx (bQ rfl (av (P:=NX (F+12) (6*W+22)) (aU (aD (av (L.bl rfl rfl) λu hu=>aG ?_))) λx hx=>av (P:=NX (F+12) (6*W+22)) (aU (aD (av (L.nd rfl rfl) λu hu=>cA ⟨λZ=>b9 az⟩ (aD (aG ?_))))) λy hy=>aG ⟨rfl,all_cons hx (all_cons hy all_nil)⟩))
 ·obtain⟨⟨ss,rfl⟩,B,_⟩:=hu
  exact⟨_,nx (CK B (by lia) (by lia))⟩
 ·obtain⟨_,A⟩:=hu
  exact⟨_,nx (Ij A.ok)⟩
end
section
variable {d:Int}{c F W:Nat}(L:qa d c F W){n a:Nat}{ρ:List V}{z:Int}
include L
theorem WT{w v:V}(hw:w∈[V.str "and",.str "or",.str "dor",.str "xor"])(hu:NX F W u)(hv:NX F W v):NX (F+15) (12*W+710) (.af [w,u,v]):=by
 have hW:=L.hW;obtain⟨_,A⟩:=hu;obtain⟨_,B⟩:=hv;simp only[List.mem_cons,List.not_mem_nil,or_false]at hw;rcases hw with rfl|rfl|rfl|rfl
 ·exact⟨_,nx (Wm A.ok B.ok)⟩
 ·exact⟨_,nx (Y5 A.ok B.ok)⟩
 ·exact⟨_,nx (Wo A.ok B.ok)⟩
 ·exact⟨_,nx (Wl A.ok B.ok)⟩
theorem Zj{w v:V}(hw:w∈[V.str "+",.str "||",.str "//"])(hu:NX F W u)(hv:NX F W v):NX (F+15) (12*W+710) (.af [.str "opassign",w,u,v]):=by
 have hW:=L.hW;obtain⟨_,A⟩:=hu;obtain⟨_,B⟩:=hv;simp only[List.mem_cons,List.not_mem_nil,or_false]at hw;rcases hw with rfl|rfl|rfl
 ·exact⟨_,xo (Tv A.ok B.ok) (Tu A.ok B.ok)⟩
 ·exact⟨_,xo (Tz A.ok B.ok) (Tw A.ok B.ok)⟩
 ·exact⟨_,xo (TF A.ok B.ok) (TA A.ok B.ok)⟩
theorem Uk{w:V}(hw:w∈[V.str "preinc",.str "postdec"])(hu:NX F W u):NX (F+15) (12*W+710) (.af [w,u]):=by
 have hW:=L.hW;obtain⟨_,A⟩:=hu;simp only[List.mem_cons,List.not_mem_nil,or_false]at hw;rcases hw with rfl|rfl
 ·exact⟨_,xo (LV A.ok) (LW A.ok)⟩
 ·exact⟨_,nx (Ia A.ok)⟩
theorem PA{w:V}(hw:w∈[V.str "next",.str "last",.str "redo"])(hu:∃s,u=.str s):NX (F+15) (12*W+710) (.af [w,u]):=by
 have hW:=L.hW;obtain⟨s,rfl⟩:=hu;simp only[List.mem_cons,List.not_mem_nil,or_false]at hw;rcases hw with rfl|rfl|rfl
 ·exact⟨_,Uh.mono⟩
 ·exact⟨_,Ui.mono⟩
 ·exact⟨_,Uj.mono⟩
theorem qa.lab(h0:ρ[0]?=some (.ref a))(hn:1<=n):Dr n a ρ (.sub (.bJ [(.aI (V.str "")),(.aI (V.str "A")),(.aI (V.str "B"))]) (.call (.aA 118) [(.aa 0),(.aI (V.int 3))])) λv=>∃s,v=.str s:=
 bQ h0 (aD (aD (aD (aG ⟨rfl,all_cons ⟨_,rfl⟩ (all_cons ⟨_,rfl⟩ (all_cons ⟨_,rfl⟩ all_nil))⟩))))
theorem qa.target(h0:ρ[0]?=some (.ref a))(h1:ρ[1]?=some (.int z))(hz:autoParam (z<=d+1) bu)(hn:autoParam (c+2<=n) bu):Dr n a ρ (.sub (.bJ [(.af [(.aI (V.str "list")),(.bJ [(.call (.aA 121) [(.aa 0),(.aI (V.int 0))]),(.af [(.aI (V.str "undef"))]),(.call (.aA 119) [(.aa 0),(.aI (V.int 0))])])]),(.call (.aA 119) [(.aa 0),(.bin .sub (.aa 1) (.aI (V.int 1)))]),(.af [(.aI (V.str "local")),(.af [(.aI (V.str "list")),(.bJ [(.af [(.aI (V.str "globs")),(.aI (V.str "main::x"))])])])])]) (.call (.aA 118) [(.aa 0),(.aI (V.int 3))])) (Px (F+4) (2*W+6)):=by
 have hF:=L.hF;have hW:=L.hW;refine bQ h0 (av (P:=Px (F+4) (2*W+6)) (aU (aD (av (P:=λv=>∃x y,L0 x/\A0 y/\v=.aC [x,.af [.str "undef"],y]) (pZ (av (bP (kH h0) rfl (Xw (by decide) (by lia))) λx hx=>cA Xv (av (bP (kH h0) rfl (Ue (by decide) (by lia))) λy hy=>aG ⟨x,y,hx,hy,rfl⟩))) λv hv=>aG ?_))) λu hu=>
  av (P:=Px (F+4) (2*W+6)) ((L.ar h0 h1).mono λv hv=>hv.2.1.mono) λv hv=>
  av (P:=Px (F+4) (2*W+6)) (aU (aD (cA (v:=.af [.str "list",.aC [.af [.str "globs",.str "main::x"]]]) ⟨λZ=>b9 (ai au (ai (bK (ai (p9.to Z) az)) az))⟩ (aG ?_)))) λw hw=>aG ⟨rfl,all_cons hu (all_cons hv (all_cons hw all_nil))⟩)
 ·obtain⟨x,y,hx,hy,rfl⟩:=hv
  obtain⟨rx,ex⟩:=hx.af;obtain⟨_,hy2,ry,ey⟩:=hy.x;have W3:=hx.t;subst ex;subst ey;intro n hn;exact(O5 (F:=6) (W:=4) (λn hn=>W3 n hn) (λn hn=>(O4 (by lia)).mono) (λn hn=>hy2 n hn) (by lia)).mono
 ·exact λn hn=>(Ic (by lia)).mono
theorem qa.Ul(h0:ρ[0]?=some (.ref a))(h1:ρ[1]?=some (.int z))(hz:autoParam (z<=d+1) bu)(hn:autoParam (c+2<=n) bu):Dr n a ρ (.sub (.bJ [(.af [(.aI (V.str "aslice")),(.call (.aA 119) [(.aa 0),(.bin .sub (.aa 1) (.aI (V.int 1)))]),(.call (.aA 122) [(.aa 0),(.aa 1)])]),(.af [(.aI (V.str "lslice")),(.call (.aA 122) [(.aa 0),(.aa 1)]),(.call (.aA 122) [(.aa 0),(.aI (V.int 1))])]),(.af [(.aI (V.str "range")),(.af [(.aI (V.str "num")),(.aI (V.int 1))]),(.call (.aA 125) [(.aa 0),(.bin .sub (.aa 1) (.aI (V.int 1)))])]),(.af [(.aI (V.str "repeat")),(.call (.aA 122) [(.aa 0),(.aa 1)]),(.af [(.aI (V.str "num")),(.aI (V.int 2))])])]) (.call (.aA 118) [(.aa 0),(.aI (V.int 4))])) (NX (F+15) (12*W+710)):=by
 have hF:=L.hF;have hW:=L.hW;have hd:=L.hd;have num:∀{x},dh (F+4) (2*W+6) "num" (.af [.str "num",x]):=λ{x}=>Ml.mono;refine bQ h0 (av (P:=NX (F+15) (12*W+710)) (aU (aD (av (L.ar h0 h1) λu hu=>av (L.ls h0 h1) λv hv=>aG ?_))) λx hx=>av (P:=NX (F+15) (12*W+710)) (aU (aD (av (L.ls h0 h1) λu hu=>av (bP (kH h0) rfl (L.list (z:=1) (by lia) (by lia))) λv hv=>aG ?_))) λy hy=>
  av (P:=NX (F+15) (12*W+710)) (aU (aD (cA p9 (av (L.nd h0 h1) λv hv=>aG ?_)))) λz' Zk=>av (P:=NX (F+15) (12*W+710)) (aU (aD (av (L.ls h0 h1) λu hu=>cA p9 (aG ?_)))) λw hw=>aG ⟨rfl,all_cons hx (all_cons hy (all_cons Zk (all_cons hw all_nil)))⟩)
 ·obtain⟨⟨_,A⟩,_⟩:=hu
  have A:=A.mono (F':=F+4) (W':=2*W+6);exact⟨_,nx (LH A.ok hv.ok)⟩
 ·exact⟨_,nx (LK hu.ok hv.ok)⟩
 ·obtain⟨_,B⟩:=hv.mono (F':=F+4) (W':=2*W+6)
  exact⟨_,nx (OV num.ok B.ok)⟩
 ·exact⟨_,nx (LM hu.ok num.ok)⟩
theorem qa.uo(h0:ρ[0]?=some (.ref a))(h1:ρ[1]?=some (.int z))(hz:autoParam (z<=d+1) bu)(hn:autoParam (c+2<=n) bu):Dr n a ρ (.sub (.bJ [(.call (.aA 122) [(.aa 0),(.aa 1)]),(.af [(.aI (V.str "interp")),(.bJ [(.af [(.aI (V.str "str")),(.aI (V.str "a"))]),(.call (.aA 119) [(.aa 0),(.aI (V.int 0))])])]),(.af [(.aI (V.str "bin")),(.aI (V.str "+")),(.call (.aA 121) [(.aa 0),(.aI (V.int 0))]),(.call (.aA 125) [(.aa 0),(.bin .sub (.aa 1) (.aI (V.int 1)))])]),(.af [(.aI (V.str "anonh")),(.call (.aA 122) [(.aa 0),(.aa 1)])])]) (.call (.aA 118) [(.aa 0),(.aI (V.int 4))])) (NX (F+15) (12*W+710)):=by
 have hF:=L.hF;have hW:=L.hW;refine bQ h0 (av (P:=NX (F+15) (12*W+710)) ((L.ls h0 h1).mono λv hv=>⟨_,dh.mono hv (by lia) (by lia)⟩) λx hx=>av (P:=NX (F+15) (12*W+710)) (aU (aD (av (P:=λv=>∃u,A0 u/\v=.aC [.af [.str "str",.str "a"],u]) (pZ (cA p9 (av (bP (kH h0) rfl (Ue (by decide) (by lia))) λu hu=>aG ⟨u,hu,rfl⟩))) λu hu=>aG ?_))) λy hy=>
  av (P:=NX (F+15) (12*W+710)) (aU (aD (aD (av (bP (kH h0) rfl (Xw (by decide) (by lia))) λu hu=>av (L.nd h0 h1) λv hv=>aG ?_)))) λz' Zk=>av (P:=NX (F+15) (12*W+710)) (aU (aD (av (L.ls h0 h1) λu hu=>aG ?_))) λw hw=>aG ⟨rfl,all_cons hx (all_cons hy (all_cons Zk (all_cons hw all_nil)))⟩)
 ·obtain⟨u,hu,rfl⟩:=hu
  rcases hu with rfl|rfl
  ·exact⟨_,nx (xh Ex.ok (by lia))⟩
  ·exact⟨_,nx (vJ Ao.ok (by lia))⟩
 ·obtain⟨_,A⟩:=hu.x.mono (F':=F) (W':=W)
  obtain⟨_,B⟩:=hv;exact⟨_,nx (QD A.ok B.ok)⟩
 ·exact⟨_,nx (OW hu.ok)⟩
theorem qa.QM(hz:z<=d+1)(hn:c+3<=n):dP n 125 a [.ref a,.int z] (NX (F+15) (12*W+710)):=by
 obtain⟨n,rfl⟩:=e1 n;have hc:=L.hc;have hF:=L.hF;have hW:=L.hW;refine eH (f:=jN) rfl rfl ?_;refine fG (P:=λv=>∃k:Nat,v=.int k) (fc (kW rfl) (λh=>(dF rfl).mono λv ⟨k,e,_⟩=>⟨k,e⟩) λY=>kG ⟨0,rfl⟩) ?_;rintro v ⟨k,rfl⟩;refine bE (bY rfl) (λY=>bx ((Gq rfl (by lia)).mono λv hv=>hv.mono)) λY=>?_;refine bE (Ew rfl) (λY=>bx ((bP (jl rfl rfl) rfl (L.lv' hz (by lia))).mono λv hv=>hv.mono)) λY=>?_;refine bE (bY rfl) (λY=>bx (bQ rfl (av (P:=NX (F+15) (12*W+710)) ((bP (jl rfl rfl) rfl (L.WR hz (by lia))).mono λv hv=>hv.1.mono) λx hx=>av (P:=NX (F+15) (12*W+710)) ((bP (jl rfl rfl) rfl (L.hash' hz (by lia))).mono λv hv=>hv.mono) λy hy=>
  av (P:=NX (F+15) (12*W+710)) (aU (aD (av (L.ar rfl rfl) λu hu=>aG ?_))) λw hw=>aG ⟨rfl,all_cons hx (all_cons hy (all_cons hw all_nil))⟩))) λY=>?_
 ·obtain⟨⟨_,A⟩,_⟩:=hu
  exact⟨_,nx (H8 A.ok)⟩
 refine bE (bY rfl) (λY=>bx (aU (av (P:=λv=>v∈[V.str "and",.str "or",.str "dor",.str "xor"]) (bQ rfl (aD (aD (aD (aD (aG ⟨rfl,λv h=>h⟩)))))) λw hw=>av (L.nd rfl rfl) λu hu=>av (L.nd rfl rfl) λv hv=>aG (WT L hw hu hv)))) λY=>?_;refine bE (bY rfl) (λY=>bx (aU (aD (av (L.nd rfl rfl) λu hu=>av (L.nd rfl rfl) λv hv=>av (L.nd rfl rfl) λw hw=>aG ?_)))) λY=>?_
 ·obtain⟨_,A⟩:=hu
  obtain⟨_,B⟩:=hv;obtain⟨_,C⟩:=hw;exact⟨_,xo (Td A.ok B.ok C.ok) (Te A.ok B.ok C.ok)⟩
 refine bE (Ew rfl) (λY=>bx ((bP (jl rfl rfl) rfl (L.call hz (by lia))).mono λv hv=>hv.mono)) λY=>?_;refine bE (Ew rfl) (λY=>bx (aU (aD (aD (av (L.nd rfl rfl) λu hu=>av (bP (jl rfl rfl) rfl (L.call hz (by lia))) λv hv=>aG ?_))))) λY=>?_
 ·obtain⟨_,A⟩:=hu.mono (F':=F+12) (W':=6*W+22)
  obtain⟨_,B⟩:=hv;exact⟨_,nx (QD A.ok B.ok)⟩
 refine bE (bY rfl) (λY=>bx (aU (aD (av (L.ll rfl rfl) λu hu=>av (L.nd rfl rfl) λv hv=>aG ?_)))) λY=>?_
 ·obtain⟨_,A⟩:=hu
  obtain⟨_,B⟩:=hv;exact⟨_,xo (LQ A.ok B.ok) (LP A.ok B.ok)⟩
 refine bE (bY rfl) (λY=>bx (aU (aD (av (P:=λv=>v∈[V.str "+",.str "||",.str "//"]) (bQ rfl (aD (aD (aD (aG ⟨rfl,λv h=>h⟩))))) λw hw=>av (L.ll rfl rfl) λu hu=>av (L.nd rfl rfl) λv hv=>aG (Zj L hw hu hv))))) λY=>?_;refine bE (bY rfl) (λY=>bx (aU (aD (av (L.target rfl rfl) λu hu=>av (L.ls rfl rfl) λv hv=>aG ?_)))) λY=>?_
 ·exact⟨_,nx (Ie hu hv.ok)⟩
 refine bE (bY rfl) (λY=>bx (aU (av (P:=λv=>v∈[V.str "preinc",.str "postdec"]) (bQ rfl (aD (aD (aG ⟨rfl,λv h=>h⟩)))) λw hw=>av (L.ll rfl rfl) λu hu=>aG (Uk L hw hu)))) λY=>?_;refine bE (bY rfl) (λY=>bx (aU (av (P:=λv=>v∈[V.str "next",.str "last",.str "redo"]) (bQ rfl (aD (aD (aD (aG ⟨rfl,λv h=>h⟩))))) λw hw=>av (L.lab rfl (by lia)) λu hu=>aG (PA L hw hu)))) λY=>?_;refine bE (bY rfl) (λY=>bx (L.Ul rfl rfl)) λY=>?_;refine bE (bY rfl) (λY=>bx (aU (aD (av (P:=NX (F+4) (2*W+6)) (bQ rfl (av (L.ll rfl rfl) λx hx=>av (L.ls rfl rfl) λy hy=>av (L.nd rfl rfl) λw hw=>aG ⟨rfl,all_cons (hx.mono) (all_cons ⟨_,hy⟩ (all_cons (hw.mono) all_nil))⟩)) λv hv=>aG ?_)))) λY=>?_
 ·obtain⟨_,A⟩:=hv
  exact⟨_,nx (L1 A.tonL)⟩
 refine bE (bY rfl) (λY=>bx (aU (aD (av (L.hs rfl rfl) λu hu=>av (L.ls rfl rfl) λv hv=>aG ?_)))) λY=>?_
 ·obtain⟨_,A⟩:=hu.mono (F':=F+4) (W':=2*W+6)
  exact⟨_,nx (LI A.ok hv.ok)⟩
 refine bE (bY rfl) (λY=>bx (aU (aD (av (L.bl rfl rfl) λu hu=>aG ?_)))) λY=>?_
 ·obtain⟨⟨ss,rfl⟩,B,_⟩:=hu
  exact⟨_,nx (Ir (CG B rfl))⟩
 exact bx (L.uo rfl rfl)
end
section
variable {F W F' W':Nat}{v:V}
theorem kU.mono(h:kU F W v)(hF:autoParam (F<=F') bu)(hW:autoParam (W<=W') bu):kU F' W' v:=λn hn w hw=>(h n (by lia) w hw).mono hF hW
theorem iI.mono(h:iI F W v)(hF:autoParam (F<=F') bu)(hW:autoParam (W<=W') bu):iI F' W' v:=λn hn w hw=>(h n (by lia) w hw).mono hF hW
theorem cz.mono(h:cz F W v)(hF:autoParam (F<=F') bu)(hW:autoParam (W<=W') bu):cz F' W' v:=λn hn w hw=>(h n (by lia) w hw).mono hF hW
theorem SX.mono(h:SX F W v)(hF:autoParam (F<=F') bu)(hW:autoParam (W<=W') bu):SX F' W' v:=⟨h.1,h.2.1.mono,h.2.2.mono (by lia) hW⟩
theorem BX.mono(h:BX F W v)(hF:autoParam (F<=F') bu)(hW:autoParam (W<=W') bu):BX F' W' v:=⟨h.1,h.2.1.mono,h.2.2.1.mono,λnm=>(h.2.2.2 nm).mono (by lia)⟩
noncomputable def PK(F W:Nat)(v:V):Prop:=oh v/\(gM v=true->fW F W v)
theorem NX.pk(h:NX F W v):oh v/\gM v=false:=by
 obtain⟨hd,N⟩:=h;obtain⟨r,rfl⟩:=N.ok.af;have sh:(decide (hd≠"block")&&decide (r.length<=10))=true:=N.sh;rw[Bool.and_eq_true]at sh;exact⟨(dt sh.2:r.length<=10),decide_eq_false (dt sh.1)⟩
theorem rE{A B:Nat}(h:oh v/\gM v=false):PK A B v:=⟨h.1,λq=>by rw[h.2]at q;cases q⟩
theorem qM(h:BX F W v)(hF:F+6<=F')(hW:6*W+4<=W'):PK F' W' v:=by
 obtain⟨⟨ss,rfl⟩,_,N,_⟩:=h;exact⟨ln rfl,λY=>N.mono hF hW⟩
theorem Aq{s:String}:PK F W (.str s):=⟨trivial,λq=>by cases q⟩
theorem Um{s:Int}:PK F W (.int s):=⟨trivial,λq=>by cases q⟩
theorem Gr{s:Bool}:PK F W (.bool s):=⟨trivial,λq=>by cases q⟩
theorem Ar:PK F W .none:=⟨trivial,λq=>by cases q⟩
theorem jH{l:List V}{k:Nat}(h:gM v=false)(t:(l.filter gM).length<=k):((v::l).filter gM).length<=k:=by
 rw[List.filter_cons,h];exact t
theorem mZ{l:List V}{k:Nat}(h:l.length<=k):(l.filter gM).length<=k:=Nat.le_trans (List.length_filter_le _ _) h
theorem yC(hh:hd≠"if")(hs:hd≠"sub")(hp:∀v∈ps,PK F W v)(hl:ps.length<=20)(hb:(ps.filter gM).length<=3):nh F W (.af (.str hd::ps)):=
 Mb hh hs (λv h=>(hp v h).1) hl hb λb h=>by
  obtain⟨h1,h2⟩:=List.mem_filter.mp h;exact(hp b h1).2 h2
theorem sx{r:List V}{k Fs Ws:Nat}(D:xg k Fs Ws (.af (.str hd::r)))(nm:nh (F+4) W (.af (.str hd::r)))(b:autoParam (Fs+1<=F+4/\Ws+2<=W+40) bu)(h:autoParam (dI lX hd=some k) vU):SX F W (.af (.str hd::r)):=⟨⟨_,rfl⟩,(O9 h D).mono b.1 b.2,nm⟩
theorem BX.sc(h:BX F W v):(∃ss,v=.af [.str "block",.aC ss])/\cz (F+8) (2*W+92) v:=by
 obtain⟨⟨ss,rfl⟩,B,_⟩:=h;exact⟨⟨ss,rfl⟩,CG B rfl⟩
theorem CS(hu:NX F W u):SX F W (.af [.str "expr",.int 1,u]):=by
 have My:=hu;obtain⟨_,A⟩:=hu;exact sx (Y9 A.ok) (yC (by decide) (by decide) (all_cons Um (all_cons (rE My.pk) all_nil)) (ln rfl) (mZ (ln rfl)))
theorem CT(hF:F<=60)(hW:W<=200000)(hl:ys.length<=2)(h:∀y∈ys,SX F W y):BX F W (.af [.str "block",.aC ys]):=by
 refine⟨⟨ys,rfl⟩,?_,(CN (ss:=ys) λs hs=>(h s hs).2.2).mono (by lia) ?_,?_⟩
 ·rcases ys with _|⟨x,_|⟨y,_|⟨_,_⟩⟩⟩
  ·exact Gk.mono
  ·exact(sS (h x (by simp)).2.1).mono
  ·exact(Gl (h x (by simp)).2.1 (h y (by simp)).2.1).mono
  ·simp at hl
 ·have:=Nat.mul_le_mul_right (3*W+2) hl
  lia
 ·intro nm
  rcases ys with _|⟨x,_|⟨y,_|⟨_,_⟩⟩⟩
  ·exact(T6 (Gk.mono (F':=F+6) (W':=2*W+90)) (by lia) (by lia)).mono (by lia)
  ·exact(T7 ((sS (h x (by simp)).2.1).mono (F':=F+6) (W':=2*W+90)) (by lia) (by lia)).mono (by lia)
  ·obtain⟨⟨r,e⟩,hx,_⟩:=h x (by simp)
   subst e;exact(T8 (hx.mono (F':=F+6) (W':=2*W+90)) ((sS (h y (by simp)).2.1).mono (F':=F+6) (W':=2*W+90)) (by lia) (by lia)).mono (by lia)
  ·simp at hl
end
section
variable {n a:Nat}{ρ:List V}{z:Int}
theorem Ms(h0:ρ[0]?=some (.ref a))(hn:1<=n):Dr n a ρ (.cmp .eq (.call (.aA 118) [(.aa 0),(.aI (V.int 2))]) (.aI (V.int 1))) λv=>∃b,v=.bool b:=⟨λZ Q s k=>by
 refine(dF h0).to Z _ s λv cD s1 ⟨j,e,_⟩=>?_;subst e;refine au.to _ ?_;exact bk (a:=decide ((j:Int)=1)) rfl (k _ cD s1 ⟨_,rfl⟩)⟩
theorem QN(hz:z<=0)(hn:3<=n):dP n 126 a [.ref a,.int z] (SX 5 3):=by
 obtain⟨n,rfl⟩:=e1 n;refine eH (f:=fO) rfl rfl ?_;refine fG (P:=λv=>v=.int 0) (fc (kW rfl) (λh=>absurd (dt h) (by lia)) λY=>kG rfl) ?_;rintro v rfl;refine fG (P:=λv=>v=.str "") (fc (Mj rfl) (λh=>absurd (dt h) (by decide)) λY=>kG rfl) ?_;rintro v rfl;refine bE (bY rfl) (λh=>absurd (dt h) (by decide)) λY=>?_;refine bE (bY rfl) (λh=>absurd (dt h) (by decide)) λY=>?_;refine bE (bY rfl) (λh=>absurd (dt h) (by decide)) λY=>?_;refine bE (bY rfl) (λh=>absurd (dt h) (by decide)) λY=>?_;refine bE (bY rfl) (λh=>absurd (dt h) (by decide)) λY=>?_;refine bE (bY rfl) (λh=>absurd (dt h) (by decide)) λY=>?_;refine bE (bY rfl) (λh=>absurd (dt h) (by decide)) λY=>?_;exact bx (aU (aD (aD (av (bP (jl rfl rfl) rfl (QL hz (by lia))) λu hu=>aG (CS hu)))))
theorem Mt(hF:F<=60)(hW:W<=200000)(hs:∀{n:Nat},3<=n->∀m,n+1=m->dP n 126 a [.ref a,.int z] (SX F W))(hn:4<=n):dP n 123 a [.ref a,.int z] (BX F W):=by
 obtain⟨n,rfl⟩:=e1 n;refine eH (f:=i8) rfl rfl (bx (aU (aD (av (p5 (P:=SX F W) (T:=λk=>k<=2) (mh (T:=λk=>k<=3/\k<=2) (fc (kW rfl) (λY=>(dF rfl).mono λv ⟨k,e,hk⟩=>⟨k,e,by lia,by lia⟩) λY=>kG ⟨1,rfl,by lia,by lia⟩)) λv=>bP (jl rfl rfl) rfl (hs (by lia) _ rfl)) λv hv=>aG ?_))));obtain⟨ys,rfl,_,l,h⟩:=hv;exact CT hF hW l h
theorem Zl:qa 0 6 10 20 where
 node hn hz:=(QL hz (by lia)).mono λv h=>h.mono
 arr hn hz:=(Ue hz (by lia)).mono λv h=>h.x.mono
 hash hn hz:=(WQ hz (by lia)).mono λv h=>h.mono
 lv hn hz:=(Xw hz (by lia)).mono λv h=>h.x.mono
 block hn hz:=(Mt (F:=5) (W:=3) (by lia) (by lia) (λh Y Y=>QN hz h) (by lia)).mono λv h=>h.mono
 stmt hn hz:=(QN hz (by lia)).mono λv h=>h.mono
 hd:=by lia
 hc:=by lia
 hF:=by lia
 hW:=by lia
end
section
variable {d:Int}{c F W:Nat}(L:qa d c F W){n a:Nat}{ρ:List V}{z:Int}
include L
theorem Zm{o:V}(hl:ys.length=1\/ys.length=2)(hy:∀y∈ys,∃u b,NX F W u/\BX F W b/\y=.af [u,b])(ho:o=.none\/BX F W o):SX (F+15) (12*W+710) (.af [.str "if",.aC ys,o]):=by
 have hF:=L.hF;have hW:=L.hW;have nm:nh (F+15+4) (12*W+710) (.af [.str "if",.aC ys,o]):=by
  have hp:∀(ys:List V),(∀y∈ys,∃u b,NX F W u/\BX F W b/\y=.af [u,b])->∃nX:List (V×V),ys=(nX.map λp=>.af [p.1,p.2])/\∀p∈nX,BX F W p.2:=by
   intro ys;induction ys with
   |nil=>exact λY=>⟨[],rfl,λp h=>by cases h⟩
   |cons y ys IH=>
    intro h;obtain⟨u,b,_,hb,e⟩:=h y (by simp);obtain⟨nX,e2,h2⟩:=IH λz hz=>h z (List.mem_cons_of_mem _ hz);refine⟨(u,b)::nX,by rw[e,e2];rfl,λp hp=>?_⟩;rcases List.mem_cons.mp hp with rfl|hp
    ·exact hb
    ·exact h2 p hp
  obtain⟨nX,e,Zn⟩:=hp ys hy;have lp:nX.length<=2:=by
   have:=congrArg List.length e;rw[List.length_map]at this;lia
  subst e;have hb:∀p∈nX,(∃r,p.2=.af r)/\fW (F+15+4) (12*W+710) p.2:=λp hp=>by
   obtain⟨⟨ss,e⟩,_,N,_⟩:=Zn p hp;exact⟨⟨_,e⟩,N.mono⟩
  rcases ho with rfl|ho
  ·exact QI (os:=[]) (.inl ⟨rfl,rfl⟩) lp hb all_nil
  ·obtain⟨⟨ss,e⟩,_,N,_⟩:=ho
   exact QI (os:=[o]) (.inr ⟨⟨_,e⟩,rfl⟩) lp hb (all_cons (N.mono) all_nil)
 have key:∀(Fs Ws:Nat),xg 46 Fs Ws (.af [.str "if",.aC ys,o])->Fs+1<=F+15+4/\Ws+2<=12*W+710+40->SX (F+15) (12*W+710) (.af [.str "if",.aC ys,o]):=λFs Ws D b=>sx (k:=46) D nm b;clear nm;rcases ys with _|⟨y,_|⟨y',_|⟨_,_⟩⟩⟩
 ·simp at hl
 ·obtain⟨u,b,hu,hb,rfl⟩:=hy y (by simp)
  obtain⟨_,A⟩:=hu.mono (F':=F+8) (W':=2*W+92);obtain⟨⟨ss,rfl⟩,B⟩:=hb.sc;rcases ho with rfl|ho
  ·exact key _ _ (TX A.ok B) (by lia)
  ·obtain⟨⟨so,rfl⟩,E⟩:=ho.sc
   exact key _ _ (TY A.ok B E) (by lia)
 ·obtain⟨u,b,hu,hb,rfl⟩:=hy y (by simp)
  obtain⟨_,A⟩:=hu.mono (F':=F+8) (W':=2*W+92);obtain⟨⟨ss,rfl⟩,B⟩:=hb.sc;obtain⟨u',b',My,XH,rfl⟩:=hy y' (by simp);obtain⟨_,C⟩:=My.mono (F':=F+8) (W':=2*W+92);obtain⟨⟨ss',rfl⟩,D⟩:=XH.sc;rcases ho with rfl|ho
  ·exact key _ _ (TZ A.ok B C.ok D) (by lia)
  ·obtain⟨⟨so,rfl⟩,E⟩:=ho.sc
   exact key _ _ (T3 A.ok B C.ok D E) (by lia)
 ·simp at hl
theorem PB{b o:V}{l:String}{t:Bool}(hu:NX F W u)(hb:BX F W b)(ho:o=.none\/BX F W o):SX (F+15) (12*W+710) (.af [.str "while",.str l,u,b,o,.bool t]):=by
 have hF:=L.hF;have hW:=L.hW;have nm:nh (F+15+4) (12*W+710) (.af [.str "while",.str l,u,b,o,.bool t]):=by
  have po:PK (F+15+4) (12*W+710) o:=by
   rcases ho with rfl|ho
   ·exact Ar
   ·exact qM ho (by lia) (by lia)
  exact yC (by decide) (by decide) (all_cons Aq (all_cons (rE hu.pk) (all_cons (qM hb (by lia) (by lia)) (all_cons po (all_cons Gr all_nil))))) (ln rfl) (jH rfl (jH hu.pk.2 (mZ (ln rfl))))
 obtain⟨_,A⟩:=hu.mono (F':=F+8) (W':=2*W+92);obtain⟨⟨ss,rfl⟩,B⟩:=hb.sc;rcases ho with rfl|ho
 ·cases t with
  |false=>exact sx (Iu A.ok B) nm
  |true=>exact sx (Iv A.ok B) nm
 ·obtain⟨⟨so,rfl⟩,C⟩:=ho.sc
  cases t with
  |false=>exact sx (Iw A.ok B C) nm
  |true=>exact sx (Iz A.ok B C) nm
theorem IJ{b:V}{t:Bool}(hu:NX F W u)(hb:BX F W b):SX (F+15) (12*W+710) (.af [.str "dowhile",b,u,.bool t]):=by
 have hF:=L.hF;have hW:=L.hW;have nm:nh (F+15+4) (12*W+710) (.af [.str "dowhile",b,u,.bool t]):=
  yC (by decide) (by decide) (all_cons (qM hb (by lia) (by lia)) (all_cons (rE hu.pk) (all_cons Gr all_nil))) (ln rfl) (mZ (ln rfl))
 obtain⟨_,A⟩:=hu.mono (F':=F+8) (W':=2*W+92);obtain⟨_,B⟩:=hb.sc;cases t with
 |false=>exact sx (Er A.ok B) nm
 |true=>exact sx (Es A.ok B) nm
theorem Un{b w:V}{l:String}(hu:u=.none\/NX F W u)(hw:NX F W w)(hb:BX F W b):SX (F+15) (12*W+710) (.af [.str "cfor",.str l,.none,u,w,b]):=by
 have hF:=L.hF;have hW:=L.hW;have nm:nh (F+15+4) (12*W+710) (.af [.str "cfor",.str l,.none,u,w,b]):=by
  have po:PK (F+15+4) (12*W+710) u:=by
   rcases hu with rfl|hu
   ·exact Ar
   ·exact rE hu.pk
  exact yC (by decide) (by decide) (all_cons Aq (all_cons Ar (all_cons po (all_cons (rE hw.pk) (all_cons (qM hb (by lia) (by lia)) all_nil))))) (ln rfl) (jH rfl (jH rfl (mZ (ln rfl))))
 obtain⟨_,C⟩:=hw.mono (F':=F+8) (W':=2*W+92);obtain⟨⟨ss,rfl⟩,B⟩:=hb.sc;rcases hu with rfl|hu
 ·exact sx (Pb B C.ok) nm
 ·obtain⟨_,A⟩:=hu.mono (F':=F+8) (W':=2*W+92)
  exact sx (Pc A.ok B C.ok) nm
theorem IK{t b:V}{l:String}(ht:t=.af [.str "mys",.int 1]\/t=.af [.str "globs",.str "main::x"])(hu:LX (F+4) (2*W+6) u)(hb:BX F W b):SX (F+15) (12*W+710) (.af [.str "foreach",.str l,t,u,b]):=by
 have hF:=L.hF;have hW:=L.hW;have nm:nh (F+15+4) (12*W+710) (.af [.str "foreach",.str l,t,u,b]):=by
  have po:PK (F+15+4) (12*W+710) t:=by
   rcases ht with rfl|rfl
   ·exact rE (NX.pk ⟨_,Gn⟩)
   ·exact rE (NX.pk ⟨_,p6⟩)
  exact yC (by decide) (by decide) (all_cons Aq (all_cons po (all_cons (rE (NX.pk ⟨_,hu⟩)) (all_cons (qM hb (by lia) (by lia)) all_nil)))) (ln rfl) (jH rfl (mZ (ln rfl)))
 have A:LX (F+8) (2*W+92) u:=dh.mono hu (by lia) (by lia);obtain⟨⟨ss,rfl⟩,B⟩:=hb.sc;rcases ht with rfl|rfl
 ·exact sx (xm A.ok B) nm
 ·exact sx (rZ A.ok B) nm
theorem Uo{b:V}{l:String}(hb:BX F W b):SX (F+15) (12*W+710) (.af [.str "bare",.str l,b]):=by
 have hF:=L.hF;have hW:=L.hW;exact sx (T4 hb.sc.2) (yC (by decide) (by decide) (all_cons Aq (all_cons (qM hb (by lia) (by lia)) all_nil)) (ln rfl) (mZ (ln rfl)))
theorem WU{b:V}(hb:BX F W b):SX (F+15) (12*W+710) (.af [.str "sub",.af [.str "subdef",.str "main::f",b,.int 6,.aC []]]):=by
 have hF:=L.hF;have hW:=L.hW;have D:=hb.2.2.2 "main::f";exact sx (WE D) (Ua (D.mono (by lia)) (by decide) (ln rfl))
theorem qa.QO(hz:z<=d+1)(hn:c+4<=n):dP n 126 a [.ref a,.int z] (SX (F+15) (12*W+710)):=by
 obtain⟨n,rfl⟩:=e1 n;have hc:=L.hc;have hF:=L.hF;have hW:=L.hW;have hd:=L.hd;refine eH (f:=fO) rfl rfl ?_;refine fG (P:=λv=>∃k:Nat,v=.int k) (fc (kW rfl) (λh=>(dF rfl).mono λv ⟨k,e,_⟩=>⟨k,e⟩) λY=>kG ⟨0,rfl⟩) ?_;rintro v ⟨k,rfl⟩;refine fG (P:=λv=>∃s,v=.str s) (fc (Mj rfl) (λY=>L.lab rfl (by lia)) λY=>kG ⟨_,rfl⟩) ?_;rintro v ⟨l,rfl⟩;refine bE (bY rfl) (λY=>bx (aU (aD (av (P:=λv=>∃u,BX F W u/\v=.af [.str "subdef",.str "main::f",u,.int 6,.aC []]) (aU (aD (aD (av (L.bl2 rfl rfl) λu hu=>aD (cA ⟨λZ=>bK az⟩ (aG ⟨u,hu,rfl⟩)))))) λu hu=>aG ?_)))) λY=>?_
 ·obtain⟨u,hu,rfl⟩:=hu
  exact WU L hu
 refine bE (bY rfl) (λY=>fG (P:=λv=>v=.none\/BX F W v) (bQ rfl (aD (av (L.bl rfl rfl) λv hv=>aG ⟨rfl,all_cons (.inl rfl) (all_cons (.inr hv) all_nil)⟩))) λo ho=>bx (aU (aD (av (p5 (P:=λv=>∃u b,NX F W u/\BX F W b/\v=.af [u,b]) (T:=λk=>k=1\/k=2)
  (mh (T:=λk=>k<=3/\(k=1\/k=2)) ?_) λv=>aU (av (L.nd rfl rfl) λu hu=>av (L.bl rfl rfl) λb hb=>aG ⟨u,b,hu,hb,rfl⟩)) λy hy=>cA (v:=o) ⟨λZ=>ak rfl ?_⟩ (aG ?_))))) λY=>?_
 ·refine⟨λZ Q s k=>?_⟩
  refine K4 (au.to _ ?_);refine(dF rfl).to Z _ s λv cD s1 ⟨j,e,hj⟩=>?_;subst e;refine bk (a:=.int ((1+j:Nat):Int)) ?_ (k _ cD s1 ⟨1+j,rfl,by lia,by lia⟩);show some (V.int (1+(j:Int)))=_;congr 2
 ·rcases ho with rfl|⟨⟨_,rfl⟩,_⟩<;>rfl
 ·obtain⟨ys,rfl,_,hl,hy⟩:=hy
  exact Zm L hl hy ho
 refine bE (bY rfl) (λY=>fG (P:=λv=>v=.none\/BX F W v) (bQ rfl (aD (av (bP (kH rfl) rfl (L.block (by lia) hd)) λv hv=>aG ⟨rfl,all_cons (.inl rfl) (all_cons (.inr hv) all_nil)⟩))) λo ho=>bx (aU (aD (cA (v:=.str l) ⟨λZ=>ak rfl rfl⟩ (av (L.nd rfl rfl) λu hu=>av (L.bl rfl rfl) λb hb=>cA (v:=o) ⟨λZ=>ak rfl ?_⟩ (av (Ms rfl (by lia)) λt ht=>aG ?_)))))) λY=>?_
 ·rcases ho with rfl|⟨⟨_,rfl⟩,_⟩<;>rfl
 ·obtain⟨t,rfl⟩:=ht
  exact PB L hu hb ho
 refine bE (bY rfl) (λY=>bx (aU (aD (av (L.bl rfl rfl) λb hb=>av (L.nd rfl rfl) λu hu=>av (Ms rfl (by lia)) λt ht=>aG ?_)))) λY=>?_
 ·obtain⟨t,rfl⟩:=ht
  exact IJ L hu hb
 refine bE (bY rfl) (λY=>bx (aU (aD (cA (v:=.str l) ⟨λZ=>ak rfl rfl⟩ (aD (av (L.ond rfl rfl) λu hu=>av (bP (kH rfl) rfl (L.node (by lia) hd)) λw hw=>av (L.bl rfl rfl) λb hb=>aG (Un L hu hw hb))))))) λY=>?_;refine bE (bY rfl) (λY=>bx (aU (aD (cA (v:=.str l) ⟨λZ=>ak rfl rfl⟩ (av (L.bl rfl rfl) λb hb=>aG (Uo L hb)))))) λY=>?_;refine bE (bY rfl) (λY=>bx (aU (aD (cA (v:=.str l) ⟨λZ=>ak rfl rfl⟩ (av (P:=λv=>v=.af [.str "mys",.int 1]\/v=.af [.str "globs",.str "main::x"]) (bQ rfl (cA p9 (cA p9 (aG ⟨rfl,all_cons (.inl rfl) (all_cons (.inr rfl) all_nil)⟩)))) λt ht=>av (L.ls rfl rfl) λu hu=>av (L.bl rfl rfl) λb hb=>aG (IK L ht hu hb)))))) λY=>?_;exact bx (aU (aD (aD (av (bP (jl rfl rfl) rfl (L.QM hz (by lia))) λu hu=>aG (CS hu)))))
theorem qa.next(hF:F+15<=60)(hW:12*W+710<=200000):qa (d+1) (c+6) (F+15) (12*W+710) where
 node hn hz:=L.QM hz (by lia)
 arr hn hz:=(L.WR hz (by lia)).mono λv h=>h.mono
 hash hn hz:=(L.hash' hz (by lia)).mono λv h=>h.mono
 lv hn hz:=(L.lv' hz (by lia)).mono λv h=>h.mono
 block {n a z} hn hz:=by
  have hc:=L.hc;obtain⟨n,rfl⟩:=e1 n;refine eH (f:=i8) rfl rfl (bx (aU (aD (av (p5 (P:=SX (F+15) (12*W+710)) (T:=λk=>k<=2) (mh (T:=λk=>k<=3/\k<=2) (fc (kW rfl) (λY=>(dF rfl).mono λv ⟨k,e,hk⟩=>⟨k,e,by lia,by lia⟩) λY=>kG ⟨1,rfl,by lia,by lia⟩)) λv=>bP (jl rfl rfl) rfl (L.QO hz (by lia))) λv hv=>aG ?_))));obtain⟨ys,rfl,_,l,h⟩:=hv;exact CT hF hW l h
 stmt hn hz:=L.QO hz (by lia)
 hd:=by have:=L.hd;lia
 hc:=by lia
 hF:=by have:=L.hF;lia
 hW:=by have:=L.hW;lia
end
theorem Zo:qa 3 24 55 146030:=((Zl.next (by lia) (by lia)).next (by lia) (by lia)).next (by lia) (by lia)
noncomputable def CU:List (String×Nat):=[("undef",22),("num",21),("str",21),("interp",26),("stringify",27),("pads",23),("mys",23),("globs",24),("wantarray",25),("bin",28),("un",29),("and",31),("or",31),("dor",31),("xor",30),("cond",32),("list",33),("range",34),("repeat",35),("lslice",36)]
noncomputable def rF:List (String×Nat):=[("pada",91),("globa",91),("mya",91),("rv2a",93),("padh",92),("globh",92),("myh",92),("rv2h",94),("rv2s",95),("lastidx",96),("elem",97),("helem",97),("aslice",98),("hslice",98),("refgen",101),("anona",102),("anonh",102)]
noncomputable def QS:List (String×Nat):=[("assign",70),("opassign",71),("aassign",74),("local",77)]
noncomputable def CV:List (String×Nat):=QS++[("preinc",72),("predec",72),("postinc",72),("postdec",72)]
noncomputable def rG:List (String×Nat):=[("call",80),("method",81),("anonsub",82),("return",83)]
noncomputable def rH:List (String×Nat):=[("evalblock",85),("evalstr",86)]
noncomputable def mj:List (String×Nat):=[("doblock",50)]
noncomputable def qN:List (String×Nat):=[("next",113),("last",113),("redo",113)]
noncomputable def Ez:List (String×Nat):=[("expr",45),("if",46),("package",47),("nop",48),("sub",49)]
noncomputable def Gs:List (String×Nat):=[("while",107),("dowhile",108),("cfor",109),("foreach",110),("bare",111)]
theorem Gu{x:String}{k:Nat}{l:List (String×Nat)}:dI l x=none->putK (kvsOf l) (.str x) (.fn k)=some (kvsOf (l++[(x,k)])):=by
 induction l with
 |nil=>exact λY=>rfl
 |cons p r ih=>
  intro h;have h:(if p.1=x then some p.2 else dI r x)=none:=h;by_cases q:p.1=x
  ·rw[if_pos q]at h;exact YT h.symm
  ·rw[if_neg q]at h
   show cond (decide (p.1=x)) (some ((V.str p.1,V.fn k)::kvsOf r)) ((putK (kvsOf r) (.str x) (.fn k)).map ((V.str p.1,V.fn p.2)::·))=_;rw[decide_eq_false q,ih h];rfl
noncomputable def fresh:List (String×Nat)->List (String×Nat)->Bool
 |aR,[]=>true
 |l,p::r=>(dI l p.1).isNone&&fresh (l++[p]) r
theorem CW{r:List (String×Nat)}:∀{l:List (String×Nat)},fresh l r=true->xr (kvsOf l) (kvsOf r)=some (kvsOf (l++r)):=by
 induction r with
 |nil=>intro l _;rw[List.append_nil];rfl
 |cons p r ih=>
  intro l h;have h:=an (show((dI l p.1).isNone&&fresh (l++[p]) r)=true from h);show(putK (kvsOf l) (.str p.1) (.fn p.2)).bind (λl'=>xr l' (kvsOf r))=_;rw[Gu (Option.isNone_iff_eq_none.mp h.1)];exact(ih h.2).trans (congrArg (λl=>some (kvsOf l)) (List.append_assoc l [p] r))
theorem m6:∀l:List (String×Nat),i0 (kvsOf l)=true
 |[]=>rfl
 |p::r=>m6 r
theorem p7(l:List (String×Nat)):(kvsOf l).length=l.length:=by unfold kvsOf;rw[List.length_map]
section
variable {Z τ:H}{i j:Nat}{x:MO}
theorem m7:(Z++τ)[Z.length+i]?=τ[i]? :=by
 rw[List.getElem?_append_right (Nat.le_add_right _ _),Nat.add_sub_cancel_left]
theorem As:(Z++τ).set (Z.length+i) x=Z++τ.set i x:=by
 rw[List.set_append_right _ _ (Nat.le_add_right _ _),Nat.add_sub_cancel_left]
variable {cf:CF}{ρ:List V}{Q:Fl->List V->H->Prop}{l r:List (String×Nat)}
theorem vQ(hd:Ev cf ρ (Z++τ) d (.ref (Z.length+i)))(he:Ev cf ρ (Z++τ) e (.ref (Z.length+j)))(ij:j≠i)(hi:τ[i]?=some (.dict (kvsOf l)))(hj:τ[j]?=some (.dict (kvsOf r)))(hl:l.length+r.length<=1000)(hf:fresh l r=true)(h:WS cf rest ρ Q (Z++τ.set i (.dict (kvsOf (l++r))))):
  WS cf (.expr (.update d e)::rest) ρ Q (Z++τ):=by
 constructor;have UC:(Z++τ)[Z.length+i]?=some (.dict (kvsOf l)):=m7.trans hi;have dq:nk (Z++τ) (.ref (Z.length+i))=true:=mq (gX UC);refine hd.to _ (kT dq (he.to _ ?_));have:AF (Z++τ) (.ref (Z.length+j)) (.ref (Z.length+i))=some (Z++τ.set i (.dict (kvsOf (l++r)))):=by
  rw[xy (by lia) UC (m7.trans hj) ⟨by rw[p7,p7];exact hl,m6 l,m6 r⟩ (CW hf),As]
 exact bk this h.to
theorem Gv{k m:Nat}(hd:Ev cf ρ (Z++τ) d (.ref (Z.length+i)))(hg:aj[k]?=some (.fn m))(hc:∀Q Z,Q (.ref Z.length) (Z++[.dict (kvsOf r)])->cf m [] Q Z)(hi:τ[i]?=some (.dict (kvsOf l)))(hl:l.length+r.length<=1000)(hf:fresh l r=true)
  (h:WS cf rest ρ Q (Z++(τ++[MO.dict (kvsOf r)]).set i (.dict (kvsOf (l++r))))):WS cf (.expr (.update d (.call (.aA k) []))::rest) ρ Q (Z++τ):=by
 constructor;have UC:(Z++τ)[Z.length+i]?=some (.dict (kvsOf l)):=m7.trans hi;have dq:nk (Z++τ) (.ref (Z.length+i))=true:=mq (gX UC);refine hd.to _ (kT dq ?_);refine e9 hg ?_;refine hc _ _ ?_;have il:i<τ.length:=(List.getElem?_eq_some_iff.mp hi).1;rw[List.append_assoc,List.length_append];have:AF (Z++(τ++[MO.dict (kvsOf r)])) (.ref (Z.length+τ.length)) (.ref (Z.length+i))=some (Z++(τ++[MO.dict (kvsOf r)]).set i (.dict (kvsOf (l++r)))):=by
  have h1:(τ++[MO.dict (kvsOf r)])[i]?=some (.dict (kvsOf l)):=by rw[List.getElem?_append_left il];exact hi
  have h2:(τ++[MO.dict (kvsOf r)])[τ.length]?=some (.dict (kvsOf r)):=dD;rw[xy (by lia) (m7.trans h1) (m7.trans h2) ⟨by rw[p7,p7];exact hl,m6 l,m6 r⟩ (CW hf),As]
 exact bk this h.to
end
section
variable {n:Nat}{Z:H}{Q:V->H->Prop}
theorem g37(hn:1<=n)(k:Q (.ref Z.length) (Z++[.dict (kvsOf CU)])):aq ao aj n 37 [] Q Z:=by
 obtain⟨n,rfl⟩:=e1 n;exact k
theorem Zp(hn:1<=n)(k:Q (.ref Z.length) (Z++[.dict (kvsOf rF)])):aq ao aj n 103 [] Q Z:=by
 obtain⟨n,rfl⟩:=e1 n;exact k
theorem g87(hn:1<=n)(k:Q (.ref Z.length) (Z++[.dict (kvsOf rG)])):aq ao aj n 87 [] Q Z:=by
 obtain⟨n,rfl⟩:=e1 n;exact k
theorem g88(hn:1<=n)(k:Q (.ref Z.length) (Z++[.dict (kvsOf rH)])):aq ao aj n 88 [] Q Z:=by
 obtain⟨n,rfl⟩:=e1 n;exact k
theorem g52(hn:1<=n)(k:Q (.ref Z.length) (Z++[.dict (kvsOf mj)])):aq ao aj n 52 [] Q Z:=by
 obtain⟨n,rfl⟩:=e1 n;exact k
theorem Zq(hn:1<=n)(k:Q (.ref Z.length) (Z++[.dict (kvsOf qN)])):aq ao aj n 115 [] Q Z:=by
 obtain⟨n,rfl⟩:=e1 n;exact k
theorem g51(hn:1<=n)(k:Q (.ref Z.length) (Z++[.dict (kvsOf Ez)])):aq ao aj n 51 [] Q Z:=by
 obtain⟨n,rfl⟩:=e1 n;exact k
theorem Zr(hn:1<=n)(k:Q (.ref Z.length) (Z++[.dict (kvsOf Gs)])):aq ao aj n 114 [] Q Z:=by
 obtain⟨n,rfl⟩:=e1 n;exact k
theorem g69(hn:1<=n)(k:Q (.ref Z.length) (Z++[.dict (kvsOf gV)])):aq ao aj n 69 [] Q Z:=by
 obtain⟨n,rfl⟩:=e1 n;exact k
theorem Au{Q:Fl->List V->H->Prop}{l:List (String×Nat)}{x:String}(h0:ρ[0]?=some (.ref Z.length))(h1:ρ[1]?=some (.str x))(hl:dI l x=none)(hn:l.length<1000)(h:WS cf rest ρ Q (Z++[.dict (kvsOf (l++[(x,72)]))])):
  WS cf (.om (.aa 0) (.aa 1) (.aA 72)::rest) ρ Q (Z++[.dict (kvsOf l)]):=by
 refine Eu (a:=Z.length) (k:=.str x) (v:=.fn 72) (aX rfl) (ak h0 rfl) (ak h1 rfl) dD (by rw[p7];unfold lim;lia) rfl (Gu hl) ?_;rw[gF];exact h
theorem g78(hn:1<=n)(k:Q (.ref Z.length) (Z++[.dict (kvsOf CV)])):aq ao aj n 78 [] Q Z:=by
 obtain⟨n,rfl⟩:=e1 n;refine bG (f:=lu) rfl rfl ?_;constructor;show dU (aq ao aj n) aj [.for true [1] (.af [(.aI (V.str "preinc")),(.aI (V.str "predec")),(.aI (V.str "postinc")),(.aI (V.str "postdec"))]) [.om (.aa 0) (.aa 1) (.aA 72)],.ret (some (.aa 0))] [.ref Z.length,.ah] _ (Z++[.dict (kvsOf QS)]);refine(cK (vs:=[.str "preinc",.str "predec",.str "postinc",.str "postdec"]) (b9 (ai au (ai au (ai au (ai au az))))) rfl ?_:WS _ _ _ _ _).to;refine br (Au rfl rfl (by decide+kernel) (by decide) (cY ?_));refine br (Au rfl rfl (by decide+kernel) (by decide) (cY ?_));refine br (Au rfl rfl (by decide+kernel) (by decide) (cY ?_));refine br (Au rfl rfl (by decide+kernel) (by decide) (cY ?_));refine j9 (jf (v:=.ref Z.length) (ak rfl rfl) k)
end
section
variable {n:Nat}{Q:V->H->Prop}
noncomputable def Av:List S:=[.cO 3 (.call (.aA 37) []),.for true [4] (.af [(.call (.aA 103) []),(.call (.aA 78) []),(.call (.aA 87) []),(.call (.aA 88) []),(.call (.aA 52) [])]) [.expr (.update (.aa 3) (.aa 4))],.expr (.update (.aa 3) (.call (.aA 115) [])),.cO 5 (.call (.aA 51) []),.expr (.update (.aa 5) (.call (.aA 114) [])),.cO 6 (.nQ [(V.str "nodes"),(V.str "lvs"),(V.str "statements")] [(.r9 (.aa 3)),(.r9 (.call (.aA 69) [])),(.r9 (.aa 5))]),.ret (some (.call (.aA 130) [(.call (.aA 56) [(.aa 6),(.af [(.aI (V.str "program")),(.aa 2),(.aI (V.int 6))])])]))]
theorem Aw{τ:H}{i:Nat}{l:List (String×Nat)}(h:τ[i]?=some (.dict (kvsOf l))):s9 (Z++τ) (.ref (Z.length+i))=some (.cM (kvsOf l),Z++τ.set i .dead):=by
 rw[Gx (m7.trans h) (m6 l),As]
theorem Mu{v:V}{rb:List V}(hn:2<=n)(h56:∀Z (Q:V->H->Prop),(∀Z' c,gk 65 c->Q c Z')->aq ao aj n 56 [gD,.af [.str "program",.af rb,.int 6]] Q Z)(Zs:∀c,gk 65 c->∀Z (Q:V->H->Prop),(∀Z',Q (.bool true) Z')->aq ao aj n 130 [c] Q Z)(k:∀Z',Q (.bool true) Z'):
  WS (aq ao aj n) Av [v,.ref 0,.af rb,.ah,.ah,.ah,.ah,.ah] (λfl Y Z=>match fl with
   |.next=>Q .none Z
   |.ret v=>Q v Z
   |.cont=>False) Z:=by
 refine mX (aX (k:=37) (v:=.fn 37) rfl) az ?_;refine g37 (by lia) ?_;show WS _ _ [v,.ref 0,.af rb,.ref (Z.length+0),.ah,.ah,.ah,.ah] _ (Z++[.dict (kvsOf CU)]);refine Wa (Wb (qB (e9 (j:=103) rfl ?_)));refine az.to _ ?_;refine Zp (by lia) ?_;refine e9 (j:=78) rfl ?_;refine az.to _ ?_;refine g78 (by lia) ?_;refine e9 (j:=87) rfl ?_;refine az.to _ ?_;refine g87 (by lia) ?_;refine e9 (j:=88) rfl ?_;refine az.to _ ?_;refine g88 (by lia) ?_;refine e9 (j:=52) rfl ?_;refine az.to _ ?_;refine g52 (by lia) ?_;have e:Z++[MO.dict (kvsOf CU)]++[MO.dict (kvsOf rF)]++[MO.dict (kvsOf CV)]++[MO.dict (kvsOf rG)]++[MO.dict (kvsOf rH)]++[MO.dict (kvsOf mj)]=Z++[MO.dict (kvsOf CU),.dict (kvsOf rF),.dict (kvsOf CV),.dict (kvsOf rG),.dict (kvsOf rH),.dict (kvsOf mj)]:=by simp
 rw[e];simp only[List.length_append,List.length_cons,List.length_nil];refine Qw (bk (a:=[V.ref (Z.length+1),.ref (Z.length+2),.ref (Z.length+3),.ref (Z.length+4),.ref (Z.length+5)]) rfl ?_);refine(?_:FL _ [.expr (.update (.aa 3) (.aa 4))] true [4] _ [v,.ref 0,.af rb,.ref (Z.length+0),.ah,.ah,.ah,.ah] (fu (aq ao aj n) _ _) _).to;refine br (vQ (i:=0) (j:=1) (r:=rF) (ak rfl rfl) (ak rfl rfl) (by decide) rfl rfl (by decide) (by decide+kernel) (cY ?_));refine br (vQ (i:=0) (j:=2) (r:=CV) (ak rfl rfl) (ak rfl rfl) (by decide) rfl rfl (by decide) (by decide+kernel) (cY ?_));refine br (vQ (i:=0) (j:=3) (r:=rG) (ak rfl rfl) (ak rfl rfl) (by decide) rfl rfl (by decide) (by decide+kernel) (cY ?_));refine br (vQ (i:=0) (j:=4) (r:=rH) (ak rfl rfl) (ak rfl rfl) (by decide) rfl rfl (by decide) (by decide+kernel) (cY ?_));refine br (vQ (i:=0) (j:=5) (r:=mj) (ak rfl rfl) (ak rfl rfl) (by decide) rfl rfl (by decide) (by decide+kernel) (cY ?_));refine j9 ?_;refine Gv (i:=0) (r:=qN) (ak rfl rfl) (rfl:aj[115]?=some (.fn 115)) (λQ Z q=>Zq (by lia) q) rfl (by decide) (by decide+kernel) ?_;have e1:CU++rF++CV++rG++rH++mj++qN=dM:=rfl;rw[e1];show WS _ _ [v,.ref 0,.af rb,.ref (Z.length+0),.ref (Z.length+5),.ah,.ah,.ah] _ (Z++[MO.dict (kvsOf dM),.dict (kvsOf rF),.dict (kvsOf CV),.dict (kvsOf rG),.dict (kvsOf rH),.dict (kvsOf mj),.dict (kvsOf qN)]);refine mX (aX (k:=51) (v:=.fn 51) rfl) az ?_;refine g51 (by lia) ?_;rw[List.append_assoc];simp only[List.length_append,List.length_cons,List.length_nil];show WS _ _ [v,.ref 0,.af rb,.ref (Z.length+0),.ref (Z.length+5),.ref (Z.length+7),.ah,.ah] _ (Z++[MO.dict (kvsOf dM),.dict (kvsOf rF),.dict (kvsOf CV),.dict (kvsOf rG),.dict (kvsOf rH),.dict (kvsOf mj),.dict (kvsOf qN),.dict (kvsOf Ez)]);refine Gv (i:=7) (r:=Gs) (ak rfl rfl) (rfl:aj[114]?=some (.fn 114)) (λQ Z q=>Zr (by lia) q) rfl (by decide) (by decide+kernel) ?_;have e2:Ez++Gs=lX:=rfl;rw[e2];show WS _ _ [v,.ref 0,.af rb,.ref (Z.length+0),.ref (Z.length+5),.ref (Z.length+7),.ah,.ah] _ (Z++[MO.dict (kvsOf dM),.dict (kvsOf rF),.dict (kvsOf CV),.dict (kvsOf rG),.dict (kvsOf rH),.dict (kvsOf mj),.dict (kvsOf qN),.dict (kvsOf lX),.dict (kvsOf Gs)]);refine K1 (SV (qB (FO ((ak (v:=.ref (Z.length+0)) rfl rfl).to _ ?_))));refine bk (Aw (l:=dM) rfl) ?_;refine qB (FO (e9 (j:=69) rfl ?_));refine az.to _ ?_;refine g69 (by lia) ?_;rw[List.append_assoc,List.length_append];refine bk (Aw (l:=gV) rfl) ?_;refine qB (FO ((ak (v:=.ref (Z.length+7)) rfl rfl).to _ ?_));refine bk (Aw (l:=lX) rfl) ?_;show dU _ _ _ [v,.ref 0,.af rb,.ref (Z.length+0),.ref (Z.length+5),.ref (Z.length+7),gD,.ah] _ _;generalize (Z++_:H)=Z2;refine(K2 (e9 (j:=130) rfl (qB (e9 (j:=56) rfl ?_)))).to;refine(ai (ak (v:=gD) rfl rfl) (ai (b9 (ai au (ai (ak (v:=.af rb) rfl rfl) (ai au az)))) az)).to _ ?_;refine h56 _ _ λkY c hc=>?_;exact Zs c hc _ _ λPR=>k PR
end
theorem IL(hl:ys.length=1\/ys.length=2\/ys.length=3)(h:∀y∈ys,SX 55 146030 y):iI 61 438212 (.af [.str "block",.aC ys])/\fW 61 1314276 (.af [.str "block",.aC ys]):=by
 refine⟨?_,(CN (ss:=ys) λs hs=>(h s hs).2.2).mono (by lia) ?_⟩
 ·rcases ys with _|⟨x,_|⟨y,_|⟨z,_|⟨_,_⟩⟩⟩⟩
  ·simp at hl
  ·exact(sS (h x (by simp)).2.1).mono
  ·exact(Gl (h x (by simp)).2.1 (h y (by simp)).2.1).mono
  ·exact(Pa (h x (by simp)).2.1 (h y (by simp)).2.1 (h z (by simp)).2.1).mono
  ·simp at hl
 ·have:ys.length<=3:=by lia
  have:=Nat.mul_le_mul_right (3*146030+2) this;lia
theorem Mv{xs:List Int}(h:xs.length<=63):gr (.aC (xs.map V.int)) none (some 50)=some (.aC ((xs.take (PG (some 50) xs.length)).map V.int)):=by
 show(if (xs.map V.int).length<lim then some (V.aC (((xs.map V.int).take (PG (some 50) (xs.map V.int).length)).drop 0)) else none)=_;rw[if_pos (by rw[List.length_map];unfold lim;lia),List.length_map,List.drop_zero,List.map_take]
theorem WV{ns:List Int}(hl:ns.length<=63)(hn:99<=n)(k:∀Z',Q (.bool true) Z'):aq ao aj (n+1) 131 [.aC (ns.map V.int)] Q []:=by
 refine bG (f:=I0) rfl rfl ?_;show WS (aq ao aj n) (.cO 1 (.iZ [(V.str "script"),(V.str "at")] [(.slice (.aa 0) none (some (.aI (V.int 50)))),(.aI (V.int 0))]):: .cO 2 (.af [(.aI (V.str "block")),(.comp (.call (.aA 126) [(.aa 1),(.aI (V.int 3))]) true [7] (.range [(.bin .add (.aI (V.int 1)) (.call (.aA 118) [(.aa 1),(.aI (V.int 3))]))]) none)])::Av) [.aC (ns.map V.int),.ah,.ah,.ah,.ah,.ah,.ah,.ah] _ [];refine K1 (SW ((ai (Ge (ak (v:=.aC (ns.map V.int)) rfl rfl) (Mv hl)) (ai (au (v:=.int 0)) az)).to _ ?_));show dU (aq ao aj n) aj (.cO 2 (.af [(.aI (V.str "block")),(.comp (.call (.aA 126) [(.aa 1),(.aI (V.int 3))]) true [7] (.range [(.bin .add (.aI (V.int 1)) (.call (.aA 118) [(.aa 1),(.aI (V.int 3))]))]) none)])::Av) [.aC (ns.map V.int),.ref 0,.ah,.ah,.ah,.ah,.ah,.ah] _ [.dict (iK (ns.take (PG (some 50) ns.length)) 0)];have s0:Mi 0 [.dict (iK (ns.take (PG (some 50) ns.length)) 0)]:=⟨_,0,rfl,by rw[List.length_take];lia⟩;generalize [MO.dict (iK (ns.take (PG (some 50) ns.length)) 0)]=Z at s0 ⊢;have D:Dr n 0 [.aC (ns.map V.int),.ref 0,.ah,.ah,.ah,.ah,.ah,.ah] (.af [(.aI (V.str "block")),(.comp (.call (.aA 126) [(.aa 1),(.aI (V.int 3))]) true [7] (.range [(.bin .add (.aI (V.int 1)) (.call (.aA 118) [(.aa 1),(.aI (V.int 3))]))]) none)]) λv=>∃ys,v=.af [.str "block",.aC ys]/\(ys.length=1\/ys.length=2\/ys.length=3)/\∀y∈ys,SX 55 146030 y:=by
  refine aU (aD (av (p5 (P:=SX 55 146030) (T:=λk=>k=1\/k=2\/k=3) (mh (T:=λk=>k<=3/\(k=1\/k=2\/k=3)) ?_) λv=>bP (vs:=[.ref 0,.int 3]) ⟨λZ=>ai (ak rfl rfl) (ai au az)⟩ rfl (Zo.stmt (by lia) (by lia))) λv hv=>aG ?_))
  ·refine⟨λZ Q s k=>?_⟩
   refine K4 (au.to _ ?_);refine(bP (vs:=[.ref 0,.int 3]) ⟨λZ=>ai (ak rfl rfl) (ai au az)⟩ rfl (pull (by decide) (by lia))).to Z _ s λv cD s1 ⟨j,e,hj⟩=>?_;subst e;refine bk (a:=.int ((1+j:Nat):Int)) ?_ (k _ cD s1 ⟨1+j,rfl,by lia,by lia⟩);show some (V.int (1+(j:Int)))=_;congr 2
  ·obtain⟨ys,rfl,_,h⟩:=hv
   exact⟨ys,rfl,h⟩
 refine(K1 (D.to Z _ s0 λv cD s1 ⟨ys,e,h1,h2⟩=>?_)).to;subst e;obtain⟨B,N⟩:=IL h1 h2;exact(Mu (rb:=[.str "block",.aC ys]) (by lia) (λZ Q q=>IF N B (by lia) (by lia) (by lia) q) (λc hc Z Q q=>vP 65 c hc n (by lia) Z Q q) k).to
theorem PC(ns:List Int)(hl:ns.length<=63):aq ao aj 100 131 [.aC (ns.map V.int)] (λv Y=>v=.bool true) []:=WV hl (Nat.le_refl 99) λY=>rfl
end Mine
theorem Mine.Up:Mine.KL:=⟨100,by decide,Mine.PC⟩
theorem PySem.Challenge.cw_pc0235_01_holds : PySem.Challenge.rw_pc0235_01.Holds := by
 exact⟨Mine.Oo,Mine.HN Mine.SP Mine.Up (PySem.W.row_said Mine.Oo) Mine.Oq Mine.KR⟩
